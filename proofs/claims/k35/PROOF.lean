import PyProof.Rows.All
import Wide.All
import OpenK.AllK
import Wide.FinOn
import HandS.ForMost
import HandS.Exc
import HandS.ExcOwn
import HandS.TryOnly
import HandS.TryMany
import HandS.WordsExc
import HandS.IsInst
import HandS.TupAny
import HandS.Wide
import HandS.Flow
import HandS.Style
import HandS.TupLe
import HandS.Deep
import HandS.FStr
import HandS.Small
import HandS.EndBits
import HandS.Walk
import HandS.SortInts
import HandS.Flt
import HandS.Strs
import HandS.Text
import HandS.DictComp
import HandS.SortKw
import KE.DataMinMax
import PySem.Challenge.RW_copperline_k35_lines_and_their_states
set_option Elab.async false
set_option linter.all false
set_option maxRecDepth 100000
set_option maxHeartbeats 4000000
/-! Zk: sums of rules by values; readings taken step by step. -/
namespace Z
open PySem PySem.Spec PyProof.Rows L2

/-! ### worlds: G is what never changes, H is all -/
structure Grow (G H G' H' : Hp) : Prop where
  hh : Same H H'
  gg : Same G G'
  gh : Same G' H'
  nw : ∀ b o, G' b = some o → G b = none → H b = none
theorem Grow.refl {G H : Hp} (s : Same G H) : Grow G H G H := ⟨Same.refl _, Same.refl _, s, fun b o e n => by rw [e] at n; cases n⟩
theorem Grow.trans {G H G1 H1 G2 H2 : Hp} (a : Grow G H G1 H1) (b : Grow G1 H1 G2 H2) : Grow G H G2 H2 :=
  ⟨a.hh.trans b.hh, a.gg.trans b.gg, b.gh, fun c o e n => by
    cases q : G1 c with
    | some o' => exact a.nw c o' q n
    | none => exact a.hh.free (b.nw c o e q)⟩
/-- a new thing that is to stay -/
theorem Grow.new {G H : Hp} {p : Addr} {o : HO} (s : Same G H) (h : H p = none) : Grow G H (upd G p o) (upd H p o) :=
  ⟨fun b u e => by rw [upd_ne (ne_of_none e h)]; exact e,
   fun b u e => by rw [upd_ne (ne_of_none (s b u e) h)]; exact e,
   fun b u e => by
     by_cases q : b = p
     · subst q; rw [upd_same] at e ⊢; exact e
     · rw [upd_ne q] at e ⊢; exact s b u e,
   fun b u e n => by
     by_cases q : b = p
     · subst q; exact h
     · rw [upd_ne q, n] at e; cases e⟩
theorem Grow.off {G H G' H' : Hp} (g : Grow G H G' H') {l : Addr} {o : HO} (h : H l = some o) (n : G l = none) : G' l = none := by
  cases q : G' l with
  | none => rfl
  | some u => have := g.nw l u q n; rw [h] at this; cases this
/-- what is not of G may change -/
theorem same_mut {G H : Hp} {l : Addr} {o : HO} (s : Same G H) (n : G l = none) : Same G (upd H l o) := fun b u e => by
  rw [upd_ne (ne_of_none e n)]; exact s b u e
theorem same_new {H : Hp} {p : Addr} {o : HO} (h : H p = none) : Same H (upd H p o) := fun b u e => by
  rw [upd_ne (ne_of_none e h)]; exact e
theorem none_of_same {G H : Hp} {p : Addr} (s : Same G H) (h : H p = none) : G p = none := s.free h

theorem hp_ne {H : Hp} {a b : Addr} {o u : HO} (h : H b = some o) (n : b ≠ a) : upd H a u b = some o := (upd_ne n).trans h

theorem hp_same {H H' : Hp} {b : Addr} {o : HO} (s : Same H H') (h : H b = some o) : H' b = some o := s b o h
theorem hp_grow {G H G' H' : Hp} {b : Addr} {o : HO} (s : Grow G H G' H') (h : H b = some o) : H' b = some o := s.hh b o h
theorem sl_same {K : PySem.W.Frag} {H H' : Hp} {b : Addr} {xs : List V} (s : Same H H') (h : SqL K H b xs) : SqL K H' b xs := s.seq h
theorem sl_grow {K : PySem.W.Frag} {G H G' H' : Hp} {b : Addr} {xs : List V} (s : Grow G H G' H') (h : SqL K H b xs) : SqL K H' b xs := s.hh.seq h

/-! ### data -/
mutual
inductive Rp (K : PySem.W.Frag) (G : Hp) : V → PyData → Prop
  | non : Rp K G .non .none
  | bl (b : Bool) : Rp K G (.bl b) (.bool b)
  | int (i : Int) : Rp K G (.int i) (.int i)
  | str (x : Str) : Rp K G (.str x) (.str x)
  | lst {a : Addr} {xs : List V} {ds : List PyData} : G a = some (.lst xs) → RpAll K G xs ds → Rp K G (.ref a) (.list ds)
  | tup {a : Addr} {xs : List V} {ds : List PyData} : SqT K G a xs → RpAll K G xs ds → Rp K G (.ref a) (.tuple ds)
inductive RpAll (K : PySem.W.Frag) (G : Hp) : List V → List PyData → Prop
  | nil : RpAll K G [] []
  | cons {v : V} {vs : List V} {d : PyData} {ds : List PyData} : Rp K G v d → RpAll K G vs ds → RpAll K G (v :: vs) (d :: ds)
end
theorem sqT_up {K : PySem.W.Frag} {G G' : Hp} (s : Same G G') {a : Addr} {xs : List V} (h : SqT K G a xs) : SqT K G' a xs := by
  rcases h with (h | ⟨o, h⟩) | h
  · exact .inl (.inl (s _ _ h))
  · exact .inl (.inr ⟨o, s _ _ h⟩)
  · exact .inr h
theorem st_same {K : PySem.W.Frag} {H H' : Hp} {b : Addr} {xs : List V} (s : Same H H') (h : SqT K H b xs) : SqT K H' b xs := sqT_up s h
theorem st_grow {K : PySem.W.Frag} {G H G' H' : Hp} {b : Addr} {xs : List V} (s : Grow G H G' H') (h : SqT K H b xs) : SqT K H' b xs := sqT_up s.hh h
mutual
theorem Rp.up {K : PySem.W.Frag} {G G' : Hp} (s : Same G G') : ∀ {v : V} {d : PyData}, Rp K G v d → Rp K G' v d
  | _, _, .non => .non
  | _, _, .bl b => .bl b
  | _, _, .int i => .int i
  | _, _, .str x => .str x
  | _, _, .lst h a => .lst (s _ _ h) (RpAll.up s a)
  | _, _, .tup h a => .tup (sqT_up s h) (RpAll.up s a)
theorem RpAll.up {K : PySem.W.Frag} {G G' : Hp} (s : Same G G') : ∀ {vs : List V} {ds : List PyData}, RpAll K G vs ds → RpAll K G' vs ds
  | _, _, .nil => .nil
  | _, _, .cons h a => .cons (Rp.up s h) (RpAll.up s a)
end
mutual
theorem Rp.dp {K : PySem.W.Frag} {G : Hp} : ∀ {v : V} {d : PyData}, Rp K G v d → Dp K G v d
  | _, _, .non => .non
  | _, _, .bl b => .bl b
  | _, _, .int i => .int i
  | _, _, .str x => .str x
  | _, _, .lst h a => .lst (SqL.of h) (RpAll.dp a)
  | _, _, .tup h a => .tup h (RpAll.dp a)
theorem RpAll.dp {K : PySem.W.Frag} {G : Hp} : ∀ {vs : List V} {ds : List PyData}, RpAll K G vs ds → DpAll K G vs ds
  | _, _, .nil => .nil
  | _, _, .cons h a => .cons (Rp.dp h) (RpAll.dp a)
end
theorem RpAll.len {K : PySem.W.Frag} {G : Hp} : ∀ {vs : List V} {ds : List PyData}, RpAll K G vs ds → vs.length = ds.length
  | _, _, .nil => rfl
  | _, _, .cons _ a => congrArg (· + 1) (RpAll.len a)
theorem RpAll.get {K : PySem.W.Frag} {G : Hp} : ∀ {vs : List V} {ds : List PyData} {i : Nat} {d : PyData}, RpAll K G vs ds → ds[i]? = some d → ∃ v, vs[i]? = some v ∧ Rp K G v d
  | _, _, _, _, .nil, e => by simp at e
  | _, _, 0, _, .cons r _, e => by simp at e; subst e; exact ⟨_, rfl, r⟩
  | _, _, i + 1, d, .cons _ t, e => by
    obtain ⟨u, h1, h2⟩ := RpAll.get (i := i) (d := d) t (by simpa using e)
    exact ⟨u, by simpa using h1, h2⟩
theorem RpAll.getV {K : PySem.W.Frag} {G : Hp} : ∀ {vs : List V} {ds : List PyData} {i : Nat} {v : V}, RpAll K G vs ds → vs[i]? = some v → ∃ d, ds[i]? = some d ∧ Rp K G v d
  | _, _, _, _, .nil, e => by simp at e
  | _, _, 0, _, .cons r _, e => by simp at e; subst e; exact ⟨_, rfl, r⟩
  | _, _, i + 1, d, .cons _ t, e => by
    obtain ⟨u, h1, h2⟩ := RpAll.getV (i := i) (v := d) t (by simpa using e)
    exact ⟨u, by simpa using h1, h2⟩
theorem RpAll.append {K : PySem.W.Frag} {G : Hp} : ∀ {vs ws : List V} {ds es : List PyData}, RpAll K G vs ds → RpAll K G ws es → RpAll K G (vs ++ ws) (ds ++ es)
  | _, _, _, _, .nil, s => s
  | _, _, _, _, .cons r t, s => .cons r (RpAll.append t s)
theorem RpAll.take {K : PySem.W.Frag} {G : Hp} : ∀ {vs : List V} {ds : List PyData} (n : Nat), RpAll K G vs ds → RpAll K G (vs.take n) (ds.take n)
  | _, _, 0, _ => .nil
  | _, _, _ + 1, .nil => .nil
  | _, _, n + 1, .cons r t => .cons r (RpAll.take n t)
theorem RpAll.drop {K : PySem.W.Frag} {G : Hp} : ∀ {vs : List V} {ds : List PyData} (n : Nat), RpAll K G vs ds → RpAll K G (vs.drop n) (ds.drop n)
  | _, _, 0, r => r
  | _, _, _ + 1, .nil => .nil
  | _, _, n + 1, .cons _ t => RpAll.drop n t
theorem RpAll.ints {K : PySem.W.Frag} {G : Hp} : ∀ (ns : List Int), RpAll K G (ns.map V.int) (ns.map PyData.int)
  | [] => .nil
  | n :: ns => .cons (.int n) (RpAll.ints ns)
theorem RpAll.ints_inv {K : PySem.W.Frag} {G : Hp} : ∀ {vs : List V} {ns : List Int}, RpAll K G vs (ns.map PyData.int) → vs = ns.map V.int
  | _, [], h => by cases h; rfl
  | _, n :: ns, h => by
    cases h with
    | cons a b => cases a; rw [RpAll.ints_inv b]; rfl
theorem rp_tup {K : PySem.W.Frag} {G : Hp} {v : V} {ds : List PyData} (h : Rp K G v (.tuple ds)) : ∃ p xs, v = .ref p ∧ SqT K G p xs ∧ RpAll K G xs ds := by
  cases h with
  | tup h a => exact ⟨_, _, rfl, h, a⟩
theorem rp_lst {K : PySem.W.Frag} {G : Hp} {v : V} {ds : List PyData} (h : Rp K G v (.list ds)) : ∃ p xs, v = .ref p ∧ G p = some (.lst xs) ∧ RpAll K G xs ds := by
  cases h with
  | lst h a => exact ⟨_, _, rfl, h, a⟩
theorem rp_int {K : PySem.W.Frag} {G : Hp} {v : V} {i : Int} (h : Rp K G v (.int i)) : v = .int i := by cases h; rfl
theorem rp_str {K : PySem.W.Frag} {G : Hp} {v : V} {i : Str} (h : Rp K G v (.str i)) : v = .str i := by cases h; rfl
theorem rp_bool {K : PySem.W.Frag} {G : Hp} {v : V} {i : Bool} (h : Rp K G v (.bool i)) : v = .bl i := by cases h; rfl
theorem rp_none {K : PySem.W.Frag} {G : Hp} {v : V} (h : Rp K G v .none) : v = .non := by cases h; rfl

/-! ### what a call hands back -/
/-- data: made anew or of what stood -/
def Ret (K : PySem.W.Frag) (G H : Hp) (d : PyData) (Q : VK) : Prop := ∀ v G' H', Grow G H G' H' → Rp K G' v d → Q v H'
/-- a value -/
def RetV (H : Hp) (v : V) (Q : VK) : Prop := ∀ H', Same H H' → Q v H'
/-- a new list -/
def RetL (H : Hp) (xs : List V) (Q : VK) : Prop := ∀ p H', H p = none → Same H H' → H' p = some (.lst xs) → Q (.ref p) H'
/-- a new list of data -/
def RetD (K : PySem.W.Frag) (G H : Hp) (ds : List PyData) (Q : VK) : Prop := ∀ p xs G' H', H p = none → Grow G H G' H' → G' p = none → H' p = some (.lst xs) → RpAll K G' xs ds → Q (.ref p) H'
theorem RetV.go {H H1 : Hp} {v : V} {Q : VK} (r : RetV H v Q) (s : Same H H1) : Q v H1 := r _ s
theorem RetV.of {H H1 : Hp} {v : V} {Q : VK} (r : RetV H v Q) (s : Same H H1) : RetV H1 v Q := fun H' s' => r H' (s.trans s')

/-! ### operators: sums of rules -/
section
variable {X : Cx}
theorem OpR.or {f : Value → Value → Sem Value} {r r' : R2} (h : OpR X f r) (h' : OpR X f r') : OpR X f (fun x y H Q => r x y H Q ∨ r' x y H Q) := by
  intro pins s σ H x y v u Q I rx ry q
  rcases q with q | q
  · exact h pins s σ H x y v u Q I rx ry q
  · exact h' pins s σ H x y v u Q I rx ry q
theorem CallR.or {f : Value} {r r' : List V → Hp → VK → Prop} (h : CallR X f r) (h' : CallR X f r') : CallR X f (fun xs H Q => r xs H Q ∨ r' xs H Q) := by
  intro pins s σ H xs us Q I rx q
  rcases q with q | q
  · exact h pins s σ H xs us Q I rx q
  · exact h' pins s σ H xs us Q I rx q
theorem SlR.or {r r' : V → Option Int → Option Int → Hp → VK → Prop} (h : SlR X r) (h' : SlR X r') : SlR X (fun x l u H Q => r x l u H Q ∨ r' x l u H Q) := by
  intro pins s σ H x v vl vu lo hi sl Q I rx hs p1 p2 q
  rcases q with q | q
  · exact h pins s σ H x v vl vu lo hi sl Q I rx hs p1 p2 q
  · exact h' pins s σ H x v vl vu lo hi sl Q I rx hs p1 p2 q
/-- * of great ints -/
def CMulB (i j : Int) : Prop := i.natAbs.log2 + j.natAbs.log2 < 100000000
theorem CMulB.ok {i j : Int} (h : CMulB i j) : IntMulOk i j := by
  have b : ∀ x : Int, Builtin.Int.intBits x ≤ x.natAbs.log2 + 1 := fun x => by
    unfold Builtin.Int.intBits
    split <;> omega
  have h1 := b i
  have h2 := b j
  have h3 : i.natAbs.log2 + j.natAbs.log2 < 100000000 := h
  have e : bitsLine = 134217728 := by decide
  unfold IntMulOk
  intro z
  rw [Bool.and_eq_true] at z
  have z2 := z.2
  unfold Builtin.Int.intTooBig at z2
  have z3 := of_decide_eq_true z2
  rw [e] at z3
  omega
theorem op_mulB : OpR X (binaryOp .Mult) (rI CMulB fun i j => .int (i * j)) := opI fun _ _ _ _ _ _ _ hc q => mul_int q hc.ok
def zAdd (K : PySem.W.Frag) : R2 := fun x y H Q => match x, y with
  | .int i, .int j => Q (.int (i + j)) H
  | .str a, .str b => a.length + b.length ≤ sizeLine ∧ Q (.str (a ++ b)) H
  | .ref _, .ref _ => rCat x y H Q ∨ rCatA K x y H Q
  | _, _ => False
theorem op_zAdd : OpR X (binaryOp .Add) (zAdd X.K) := by
  intro pins s σ H x y v u Q I rx ry h
  cases x <;> cases y <;> first
    | exact h.elim
    | exact op_add pins s σ H _ _ v u Q I rx ry ⟨_, _, rfl, rfl, h⟩
    | exact op_add_str pins s σ H _ _ v u Q I rx ry ⟨_, _, rfl, rfl, h.1, h.2⟩
    | exact (op_cat.or op_catA) pins s σ H _ _ v u Q I rx ry h
def zSub : R2 := fun x y H Q => match x, y with
  | .int i, .int j => Q (.int (i - j)) H
  | _, _ => False
theorem op_zSub : OpR X (binaryOp .Sub) zSub := by
  intro pins s σ H x y v u Q I rx ry h
  cases x <;> cases y <;> first
    | exact h.elim
    | exact op_sub pins s σ H _ _ v u Q I rx ry ⟨_, _, rfl, rfl, h⟩
def zMul : R2 := fun x y H Q => match x, y with
  | .int i, .int j => CMulB i j ∧ Q (.int (i * j)) H
  | .ref _, .int _ => rRep x y H Q
  | _, _ => False
theorem op_zMul : OpR X (binaryOp .Mult) zMul := by
  intro pins s σ H x y v u Q I rx ry h
  cases x <;> cases y <;> first
    | exact h.elim
    | exact op_mulB pins s σ H _ _ v u Q I rx ry ⟨_, _, rfl, rfl, h.1, h.2⟩
    | exact op_rep pins s σ H _ _ v u Q I rx ry h
def zDiv : R2 := fun x y H Q => match x, y with
  | .int i, .int j => CDivW i j ∧ Q (.int (i / j)) H
  | _, _ => False
theorem op_zDiv : OpR X (binaryOp .FloorDiv) zDiv := by
  intro pins s σ H x y v u Q I rx ry h
  cases x <;> cases y <;> first
    | exact h.elim
    | exact op_fdivW pins s σ H _ _ v u Q I rx ry ⟨_, _, rfl, rfl, h.1, h.2⟩
def zMod : R2 := fun x y H Q => match x, y with
  | .int i, .int j => 0 < j ∧ Q (.int (i % j)) H
  | _, _ => False
theorem op_zMod : OpR X (binaryOp .Mod) zMod := by
  intro pins s σ H x y v u Q I rx ry h
  cases x <;> cases y <;> first
    | exact h.elim
    | exact op_mod pins s σ H _ _ v u Q I rx ry ⟨_, _, rfl, rfl, h.1, h.2⟩
def zPow : R2 := fun x y H Q => match x, y with
  | .int i, .int j => CPow i j ∧ Q (.int (i ^ j.toNat)) H
  | _, _ => False
theorem op_zPow : OpR X (binaryOp .Pow) zPow := by
  intro pins s σ H x y v u Q I rx ry h
  cases x <;> cases y <;> first
    | exact h.elim
    | exact op_pow pins s σ H _ _ v u Q I rx ry ⟨_, _, rfl, rfl, h.1, h.2⟩
/-- == and !=: two scalars, or data of any depth -/
def zEq (K : PySem.W.Frag) : R2 := fun x y H Q => match x, y with
  | .non, .non => Q (.bl true) H
  | .int i, .int j => Q (.bl (decide (i = j))) H
  | .str i, .str j => Q (.bl (decide (i = j))) H
  | .bl i, .bl j => Q (.bl (decide (i = j))) H
  | .non, .int _ | .non, .bl _ | .non, .str _ | .int _, .non | .bl _, .non | .str _, .non | .int _, .str _ | .str _, .int _ | .bl _, .str _ | .str _, .bl _ => Q (.bl false) H
  | x, y => rEqD K x y H Q
def zNe (K : PySem.W.Frag) : R2 := fun x y H Q => match x, y with
  | .non, .non => Q (.bl false) H
  | .int i, .int j => Q (.bl (!decide (i = j))) H
  | .str i, .str j => Q (.bl (!decide (i = j))) H
  | .bl i, .bl j => Q (.bl (!decide (i = j))) H
  | .non, .int _ | .non, .bl _ | .non, .str _ | .int _, .non | .bl _, .non | .str _, .non | .int _, .str _ | .str _, .int _ | .bl _, .str _ | .str _, .bl _ => Q (.bl true) H
  | x, y => rNeD K x y H Q
theorem dec_int (i j : Int) : decide (V.int i = V.int j) = decide (i = j) := decide_eq_decide.mpr ⟨fun h => by cases h; rfl, fun h => by rw [h]⟩
theorem dec_str (i j : Str) : decide (V.str i = V.str j) = decide (i = j) := decide_eq_decide.mpr ⟨fun h => by cases h; rfl, fun h => by rw [h]⟩
theorem dec_bl (i j : Bool) : decide (V.bl i = V.bl j) = decide (i = j) := decide_eq_decide.mpr ⟨fun h => by cases h; rfl, fun h => by rw [h]⟩
theorem op_zEq (hu : X.A.units + 64 < cLine) : OpR X (compareOp .Eq) (zEq X.K) := by
  intro pins s σ H x y v u Q I rx ry h
  cases x <;> cases y <;> first
    | exact op_eqD hu pins s σ H _ _ v u Q I rx ry h
    | exact op_eq pins s σ H _ _ v u Q I rx ry ⟨rfl, by rw [dec_int]; exact h⟩
    | exact op_eq pins s σ H _ _ v u Q I rx ry ⟨rfl, by rw [dec_str]; exact h⟩
    | exact op_eq pins s σ H _ _ v u Q I rx ry ⟨rfl, by rw [dec_bl]; exact h⟩
    | exact op_eq pins s σ H _ _ v u Q I rx ry ⟨rfl, h⟩
theorem op_zNe (hu : X.A.units + 64 < cLine) : OpR X (compareOp .NotEq) (zNe X.K) := by
  intro pins s σ H x y v u Q I rx ry h
  cases x <;> cases y <;> first
    | exact op_neD hu pins s σ H _ _ v u Q I rx ry h
    | exact op_ne pins s σ H _ _ v u Q I rx ry ⟨rfl, by rw [dec_int]; exact h⟩
    | exact op_ne pins s σ H _ _ v u Q I rx ry ⟨rfl, by rw [dec_str]; exact h⟩
    | exact op_ne pins s σ H _ _ v u Q I rx ry ⟨rfl, by rw [dec_bl]; exact h⟩
    | exact op_ne pins s σ H _ _ v u Q I rx ry ⟨rfl, h⟩
def zLt (K : PySem.W.Frag) : R2 := fun x y H Q => match x, y with
  | .int i, .int j => Q (.bl (decide (i < j))) H
  | .str i, .str j => Q (.bl (decide (i.cps.toList < j.cps.toList))) H
  | .ref _, .ref _ => rLtT K x y H Q
  | _, _ => False
theorem op_zLt (hu : X.A.units + 64 < cLine) : OpR X (compareOp .Lt) (zLt X.K) := by
  intro pins s σ H x y v u Q I rx ry h
  cases x <;> cases y <;> first
    | exact h.elim
    | exact op_lt pins s σ H _ _ v u Q I rx ry ⟨_, _, rfl, rfl, h⟩
    | exact op_lt_str pins s σ H _ _ v u Q I rx ry ⟨_, _, rfl, rfl, h⟩
    | exact op_ltT (by omega) pins s σ H _ _ v u Q I rx ry h
def zLe : R2 := fun x y H Q => match x, y with
  | .int i, .int j => Q (.bl (decide (i ≤ j))) H
  | _, _ => False
theorem op_zLe : OpR X (compareOp .LtE) zLe := by
  intro pins s σ H x y v u Q I rx ry h
  cases x <;> cases y <;> first
    | exact h.elim
    | exact op_le pins s σ H _ _ v u Q I rx ry ⟨_, _, rfl, rfl, h⟩
def zGt : R2 := fun x y H Q => match x, y with
  | .int i, .int j => Q (.bl (decide (j < i))) H
  | _, _ => False
theorem op_zGt : OpR X (compareOp .Gt) zGt := by
  intro pins s σ H x y v u Q I rx ry h
  cases x <;> cases y <;> first
    | exact h.elim
    | exact op_gt pins s σ H _ _ v u Q I rx ry ⟨_, _, rfl, rfl, h⟩
def zGe : R2 := fun x y H Q => match x, y with
  | .int i, .int j => Q (.bl (decide (j ≤ i))) H
  | _, _ => False
theorem op_zGe : OpR X (compareOp .GtE) zGe := by
  intro pins s σ H x y v u Q I rx ry h
  cases x <;> cases y <;> first
    | exact h.elim
    | exact op_ge pins s σ H _ _ v u Q I rx ry ⟨_, _, rfl, rfl, h⟩
/-- in: a text's sign, a sequence of flat things, a list of data, a dict -/
def rInDict : R2 := fun y x H Q => ∃ a o, x = .ref a ∧ DGet H a y o ∧ Q (.bl o.isSome) H
def rNotInDict : R2 := fun y x H Q => ∃ a o, x = .ref a ∧ DGet H a y o ∧ Q (.bl (!o.isSome)) H
theorem op_inDict (hu : X.A.units + 1 < cLine) : OpR X (compareOp .In) rInDict := by
  intro pins s σ H y x u v Q I ry rx h
  obtain ⟨a, o, rfl, g, q⟩ := h
  obtain rfl : v = Value.ref a := rx
  exact d_in hu I g ry fun s3 I3 => ⟨.bl o.isSome, H, I3, rfl, q⟩
theorem op_notInDict (hu : X.A.units + 1 < cLine) : OpR X (compareOp .NotIn) rNotInDict := by
  intro pins s σ H y x u v Q I ry rx h
  obtain ⟨a, o, rfl, g, q⟩ := h
  obtain rfl : v = Value.ref a := rx
  exact d_notIn hu I g ry fun s3 I3 => ⟨.bl (!o.isSome), H, I3, rfl, q⟩
def rInS1 : R2 := fun x y H Q => ∃ (c : Nat) (z : Str), x = .str ⟨#[c]⟩ ∧ y = .str z ∧ Q (.bl (decide (c ∈ z.cps.toList))) H
def rNotInS1 : R2 := fun x y H Q => ∃ (c : Nat) (z : Str), x = .str ⟨#[c]⟩ ∧ y = .str z ∧ Q (.bl (!decide (c ∈ z.cps.toList))) H
def rInDT (K : PySem.W.Frag) : R2 := fun x y H Q => ∃ d ds, Dp K H x d ∧ Dp K H y (.tuple ds) ∧ SeqAt.shaped d = true ∧ SeqAt.shaped (.tuple ds) = true ∧ Q (.bl (ds.any fun z => PyData.eqv z d)) H
def rNotInDT (K : PySem.W.Frag) : R2 := fun x y H Q => ∃ d ds, Dp K H x d ∧ Dp K H y (.tuple ds) ∧ SeqAt.shaped d = true ∧ SeqAt.shaped (.tuple ds) = true ∧ Q (.bl (!ds.any fun z => PyData.eqv z d)) H
theorem op_inDT {X : Cx} (hu : X.A.units + 65 < cLine) : OpR X (compareOp .In) (rInDT X.K) := by
  intro pins s σ H x y v u Q I rx ry h
  obtain ⟨d, ds, hd, he, sd, se, q⟩ := h
  obtain ⟨as, r1⟩ := Dp.reads I d x v hd rx
  obtain ⟨bs, r2⟩ := Dp.reads I (.tuple ds) y u he ry
  exact SeqAt.in_tuple_reads r2 r1 (SeqAt.canLay_of_shaped se) (SeqAt.canLay_of_shaped sd) (room_in_shaped sd hu) ⟨.bl _, H, I, rfl, q⟩
theorem op_notInDT {X : Cx} (hu : X.A.units + 65 < cLine) : OpR X (compareOp .NotIn) (rNotInDT X.K) := by
  intro pins s σ H x y v u Q I rx ry h
  obtain ⟨d, ds, hd, he, sd, se, q⟩ := h
  obtain ⟨as, r1⟩ := Dp.reads I d x v hd rx
  obtain ⟨bs, r2⟩ := Dp.reads I (.tuple ds) y u he ry
  exact SeqAt.notIn_tuple_reads r2 r1 (SeqAt.canLay_of_shaped se) (SeqAt.canLay_of_shaped sd) (room_in_shaped sd hu) ⟨.bl _, H, I, rfl, q⟩
def zIn (K : PySem.W.Frag) : R2 := fun x y H Q => (rInS1 x y H Q ∨ rIn K false x y H Q) ∨ ((rInD K x y H Q ∨ rInDT K x y H Q) ∨ rInDict x y H Q)
def zNotIn (K : PySem.W.Frag) : R2 := fun x y H Q => (rNotInS1 x y H Q ∨ rIn K true x y H Q) ∨ ((rNotInD K x y H Q ∨ rNotInDT K x y H Q) ∨ rNotInDict x y H Q)
theorem op_zIn (hu : X.A.units + 66 < cLine) : OpR X (compareOp .In) (zIn X.K) := (op_in_sign.or op_in_seq).or (((op_inD (by omega)).or (op_inDT (by omega))).or (op_inDict (by omega)))
theorem op_zNotIn (hu : X.A.units + 66 < cLine) : OpR X (compareOp .NotIn) (zNotIn X.K) := (op_notIn_sign.or op_notIn_seq).or (((op_notInD (by omega)).or (op_notInDT (by omega))).or (op_notInDict (by omega)))
/-- is, is not: None, bools -/
def zIs : R2 := fun x y H Q => match x, y with
  | .bl a, .bl b => Q (.bl (decide (a = b))) H
  | x, .non => Q (.bl (decide (x = .non))) H
  | _, _ => False
theorem op_zIs : OpR X (compareOp .Is) zIs := by
  intro pins s σ H x y v u Q I rx ry h
  cases x <;> cases y <;> first
    | exact h.elim
    | exact op_isN pins s σ H _ _ v u Q I rx ry ⟨rfl, h⟩
    | exact op_isBl pins s σ H _ _ v u Q I rx ry ⟨_, _, rfl, rfl, h⟩
def zIsNot : R2 := fun x y H Q => match x, y with
  | .bl a, .bl b => Q (.bl (!decide (a = b))) H
  | x, .non => Q (.bl (!decide (x = .non))) H
  | _, _ => False
theorem op_zIsNot : OpR X (compareOp .IsNot) zIsNot := by
  intro pins s σ H x y v u Q I rx ry h
  cases x <;> cases y <;> first
    | exact h.elim
    | exact op_notN pins s σ H _ _ v u Q I rx ry ⟨rfl, h⟩
    | exact op_notBl pins s σ H _ _ v u Q I rx ry ⟨_, _, rfl, rfl, h⟩
/-- a[i]: list, tuple, text, dict -/
def zIx (K : PySem.W.Frag) : R2 := fun x y H Q => (rIxL K x y H Q ∨ rIxT K x y H Q ∨ rIxS x y H Q) ∨ ∃ a v, x = .ref a ∧ DGet H a y (some v) ∧ Q v H
theorem ix_dict (hu : X.A.units + 1 < cLine) : IxR X (fun x y H Q => ∃ a v, x = .ref a ∧ DGet H a y (some v) ∧ Q v H) := by
  intro value slice pins s σ H x y v u Q I rx ry h hs
  obtain ⟨a, z, rfl, g, q⟩ := h
  obtain rfl : v = Value.ref a := rx
  exact tail_any (dict_typeIs I g) PySem.F.slot_dict_getitem.lookup (d_getItem hu I g ry fun w' s3 I3 rw' => ⟨z, H, I3, rw', q⟩) hs
theorem ix_z (hu : X.A.units + 1 < cLine) : IxR X (zIx X.K) := ix_seq.or (ix_dict hu)
/-- a[i:j] -/
def zSl (K : PySem.W.Frag) : V → Option Int → Option Int → Hp → VK → Prop := fun x lo hi H Q => rSlL K x lo hi H Q ∨ (rSlA K x lo hi H Q ∨ rSlS x lo hi H Q)
theorem sl_z : SlR X (zSl X.K) := SlR.or sl_list (SlR.or sl_tupA sl_str)
/-- a name's slot -/
def zVar (i : Nat) : TE := fun σ H Q => match σ[i]? with
  | some (some v) => Q v H
  | _ => False
theorem zv (i : Nat) {x : Str} {pos : Pos} (hN : X.N[i]? = some x := by rfl) (hv : Vis X.env.scope x := by first | exact Or.inl rfl | exact Or.inr (Or.inl rfl) | exact Or.inr (Or.inr rfl)) (hd : (x == ("__debug__" : Str)) = false := by decide)
    (hcd : (x == ("__classdict__" : Str)) = false := by decide) : PE X (.Name x pos) (zVar i) := ⟨fun pins s σ H Q I h => (pe_var (i := i) hN hv hd hcd).run pins s σ H Q I (by
  unfold zVar at h
  split at h
  · exact ⟨_, by assumption, h⟩
  · exact h.elim)⟩
/-- len -/
def zLen (K : PySem.W.Frag) : List V → Hp → VK → Prop := fun xs H Q => (∃ x n, xs = [x] ∧ LenV K x H n ∧ Q (.int n) H) ∨ ∃ a kvs, xs = [V.ref a] ∧ H a = some (.dK kvs) ∧ Q (.int kvs.length) H
theorem cr_len : CallR X (.builtin "len") (zLen X.K) := CallR.or call_len call_lenD
end
end Z
/-! Zx: readings evaluated by equations. -/
namespace Z
open PySem PySem.Spec PyProof.Rows L2
section
variable {K : PySem.W.Frag} {σ σ' : L2.St} {H : Hp} {Q : VK} {QA : List V → Hp → Prop} {QB : Bool → Hp → Prop} {QO : Option Int → Hp → Prop} {QS : L2.St → Hp → Prop} {D : Ends} {i : Nat} {v x y : V} {ta tb tc te : TE} {tA tr : TA} {r : R2} {c d : TT} {t u : TS} {g : TG}
def zTru (K : PySem.W.Frag) (te : TE) : TT := fun σ H Q => te σ H fun x H' => ∃ k, TruV K x H' k ∧ Q k H'
def zAug (i : Nat) (te : TE) (ti : TIp) : TS := fun D σ H => match σ[i]? with
  | some (some x) => te σ H fun y H1 => ti x y H1 fun z H2 => gName i z σ H2 D.nx
  | _ => False
theorem ps_zaug {X : Cx} {i : Nat} {x : Str} {e : Expr} {te : TE} {op : Operator} {ti : TIp} {pos pos' : Pos} (hN : X.N.Nodup) (hi : X.N[i]? = some x) (hx : Loc X.env.scope x) (he : PE X e te) (ho : PIp X op ti) (hf : X.fn x = true ∨ X.env.scope.names.lookup x = some .local := by first | exact .inl rfl | exact .inr rfl | assumption) :
    PS X (.AugAssign (.Name x pos') op e pos) (zAug i te ti) := ⟨fun pins s σ H D I h => (ps_aug (i := i) hN hi hx he ho hf).run pins s σ H D I (by
  unfold zAug at h
  split at h
  · exact ⟨_, by assumption, h⟩
  · exact h.elim)⟩

theorem e_v0 {l : L2.St} : zVar 0 (some v :: l) H Q = Q v H := rfl
theorem e_n0 {l : L2.St} {w : Option V} : gName 0 v (w :: l) H QS = QS (some v :: l) H := rfl
theorem e_v1 {a0 : Option V} {l : L2.St} : zVar 1 (a0 :: some v :: l) H Q = Q v H := rfl
theorem e_n1 {a0 : Option V} {l : L2.St} {w : Option V} : gName 1 v (a0 :: w :: l) H QS = QS (a0 :: some v :: l) H := rfl
theorem e_v2 {a0 a1 : Option V} {l : L2.St} : zVar 2 (a0 :: a1 :: some v :: l) H Q = Q v H := rfl
theorem e_n2 {a0 a1 : Option V} {l : L2.St} {w : Option V} : gName 2 v (a0 :: a1 :: w :: l) H QS = QS (a0 :: a1 :: some v :: l) H := rfl
theorem e_v3 {a0 a1 a2 : Option V} {l : L2.St} : zVar 3 (a0 :: a1 :: a2 :: some v :: l) H Q = Q v H := rfl
theorem e_n3 {a0 a1 a2 : Option V} {l : L2.St} {w : Option V} : gName 3 v (a0 :: a1 :: a2 :: w :: l) H QS = QS (a0 :: a1 :: a2 :: some v :: l) H := rfl
theorem e_v4 {a0 a1 a2 a3 : Option V} {l : L2.St} : zVar 4 (a0 :: a1 :: a2 :: a3 :: some v :: l) H Q = Q v H := rfl
theorem e_n4 {a0 a1 a2 a3 : Option V} {l : L2.St} {w : Option V} : gName 4 v (a0 :: a1 :: a2 :: a3 :: w :: l) H QS = QS (a0 :: a1 :: a2 :: a3 :: some v :: l) H := rfl
theorem e_v5 {a0 a1 a2 a3 a4 : Option V} {l : L2.St} : zVar 5 (a0 :: a1 :: a2 :: a3 :: a4 :: some v :: l) H Q = Q v H := rfl
theorem e_n5 {a0 a1 a2 a3 a4 : Option V} {l : L2.St} {w : Option V} : gName 5 v (a0 :: a1 :: a2 :: a3 :: a4 :: w :: l) H QS = QS (a0 :: a1 :: a2 :: a3 :: a4 :: some v :: l) H := rfl
theorem e_v6 {a0 a1 a2 a3 a4 a5 : Option V} {l : L2.St} : zVar 6 (a0 :: a1 :: a2 :: a3 :: a4 :: a5 :: some v :: l) H Q = Q v H := rfl
theorem e_n6 {a0 a1 a2 a3 a4 a5 : Option V} {l : L2.St} {w : Option V} : gName 6 v (a0 :: a1 :: a2 :: a3 :: a4 :: a5 :: w :: l) H QS = QS (a0 :: a1 :: a2 :: a3 :: a4 :: a5 :: some v :: l) H := rfl
theorem e_v7 {a0 a1 a2 a3 a4 a5 a6 : Option V} {l : L2.St} : zVar 7 (a0 :: a1 :: a2 :: a3 :: a4 :: a5 :: a6 :: some v :: l) H Q = Q v H := rfl
theorem e_n7 {a0 a1 a2 a3 a4 a5 a6 : Option V} {l : L2.St} {w : Option V} : gName 7 v (a0 :: a1 :: a2 :: a3 :: a4 :: a5 :: a6 :: w :: l) H QS = QS (a0 :: a1 :: a2 :: a3 :: a4 :: a5 :: a6 :: some v :: l) H := rfl
theorem e_v8 {a0 a1 a2 a3 a4 a5 a6 a7 : Option V} {l : L2.St} : zVar 8 (a0 :: a1 :: a2 :: a3 :: a4 :: a5 :: a6 :: a7 :: some v :: l) H Q = Q v H := rfl
theorem e_n8 {a0 a1 a2 a3 a4 a5 a6 a7 : Option V} {l : L2.St} {w : Option V} : gName 8 v (a0 :: a1 :: a2 :: a3 :: a4 :: a5 :: a6 :: a7 :: w :: l) H QS = QS (a0 :: a1 :: a2 :: a3 :: a4 :: a5 :: a6 :: a7 :: some v :: l) H := rfl
theorem e_v9 {a0 a1 a2 a3 a4 a5 a6 a7 a8 : Option V} {l : L2.St} : zVar 9 (a0 :: a1 :: a2 :: a3 :: a4 :: a5 :: a6 :: a7 :: a8 :: some v :: l) H Q = Q v H := rfl
theorem e_n9 {a0 a1 a2 a3 a4 a5 a6 a7 a8 : Option V} {l : L2.St} {w : Option V} : gName 9 v (a0 :: a1 :: a2 :: a3 :: a4 :: a5 :: a6 :: a7 :: a8 :: w :: l) H QS = QS (a0 :: a1 :: a2 :: a3 :: a4 :: a5 :: a6 :: a7 :: a8 :: some v :: l) H := rfl
theorem e_v10 {a0 a1 a2 a3 a4 a5 a6 a7 a8 a9 : Option V} {l : L2.St} : zVar 10 (a0 :: a1 :: a2 :: a3 :: a4 :: a5 :: a6 :: a7 :: a8 :: a9 :: some v :: l) H Q = Q v H := rfl
theorem e_n10 {a0 a1 a2 a3 a4 a5 a6 a7 a8 a9 : Option V} {l : L2.St} {w : Option V} : gName 10 v (a0 :: a1 :: a2 :: a3 :: a4 :: a5 :: a6 :: a7 :: a8 :: a9 :: w :: l) H QS = QS (a0 :: a1 :: a2 :: a3 :: a4 :: a5 :: a6 :: a7 :: a8 :: a9 :: some v :: l) H := rfl
theorem e_v11 {a0 a1 a2 a3 a4 a5 a6 a7 a8 a9 a10 : Option V} {l : L2.St} : zVar 11 (a0 :: a1 :: a2 :: a3 :: a4 :: a5 :: a6 :: a7 :: a8 :: a9 :: a10 :: some v :: l) H Q = Q v H := rfl
theorem e_n11 {a0 a1 a2 a3 a4 a5 a6 a7 a8 a9 a10 : Option V} {l : L2.St} {w : Option V} : gName 11 v (a0 :: a1 :: a2 :: a3 :: a4 :: a5 :: a6 :: a7 :: a8 :: a9 :: a10 :: w :: l) H QS = QS (a0 :: a1 :: a2 :: a3 :: a4 :: a5 :: a6 :: a7 :: a8 :: a9 :: a10 :: some v :: l) H := rfl
theorem e_v12 {a0 a1 a2 a3 a4 a5 a6 a7 a8 a9 a10 a11 : Option V} {l : L2.St} : zVar 12 (a0 :: a1 :: a2 :: a3 :: a4 :: a5 :: a6 :: a7 :: a8 :: a9 :: a10 :: a11 :: some v :: l) H Q = Q v H := rfl
theorem e_n12 {a0 a1 a2 a3 a4 a5 a6 a7 a8 a9 a10 a11 : Option V} {l : L2.St} {w : Option V} : gName 12 v (a0 :: a1 :: a2 :: a3 :: a4 :: a5 :: a6 :: a7 :: a8 :: a9 :: a10 :: a11 :: w :: l) H QS = QS (a0 :: a1 :: a2 :: a3 :: a4 :: a5 :: a6 :: a7 :: a8 :: a9 :: a10 :: a11 :: some v :: l) H := rfl
theorem e_v13 {a0 a1 a2 a3 a4 a5 a6 a7 a8 a9 a10 a11 a12 : Option V} {l : L2.St} : zVar 13 (a0 :: a1 :: a2 :: a3 :: a4 :: a5 :: a6 :: a7 :: a8 :: a9 :: a10 :: a11 :: a12 :: some v :: l) H Q = Q v H := rfl
theorem e_n13 {a0 a1 a2 a3 a4 a5 a6 a7 a8 a9 a10 a11 a12 : Option V} {l : L2.St} {w : Option V} : gName 13 v (a0 :: a1 :: a2 :: a3 :: a4 :: a5 :: a6 :: a7 :: a8 :: a9 :: a10 :: a11 :: a12 :: w :: l) H QS = QS (a0 :: a1 :: a2 :: a3 :: a4 :: a5 :: a6 :: a7 :: a8 :: a9 :: a10 :: a11 :: a12 :: some v :: l) H := rfl
theorem e_v14 {a0 a1 a2 a3 a4 a5 a6 a7 a8 a9 a10 a11 a12 a13 : Option V} {l : L2.St} : zVar 14 (a0 :: a1 :: a2 :: a3 :: a4 :: a5 :: a6 :: a7 :: a8 :: a9 :: a10 :: a11 :: a12 :: a13 :: some v :: l) H Q = Q v H := rfl
theorem e_n14 {a0 a1 a2 a3 a4 a5 a6 a7 a8 a9 a10 a11 a12 a13 : Option V} {l : L2.St} {w : Option V} : gName 14 v (a0 :: a1 :: a2 :: a3 :: a4 :: a5 :: a6 :: a7 :: a8 :: a9 :: a10 :: a11 :: a12 :: a13 :: w :: l) H QS = QS (a0 :: a1 :: a2 :: a3 :: a4 :: a5 :: a6 :: a7 :: a8 :: a9 :: a10 :: a11 :: a12 :: a13 :: some v :: l) H := rfl
theorem e_v15 {a0 a1 a2 a3 a4 a5 a6 a7 a8 a9 a10 a11 a12 a13 a14 : Option V} {l : L2.St} : zVar 15 (a0 :: a1 :: a2 :: a3 :: a4 :: a5 :: a6 :: a7 :: a8 :: a9 :: a10 :: a11 :: a12 :: a13 :: a14 :: some v :: l) H Q = Q v H := rfl
theorem e_n15 {a0 a1 a2 a3 a4 a5 a6 a7 a8 a9 a10 a11 a12 a13 a14 : Option V} {l : L2.St} {w : Option V} : gName 15 v (a0 :: a1 :: a2 :: a3 :: a4 :: a5 :: a6 :: a7 :: a8 :: a9 :: a10 :: a11 :: a12 :: a13 :: a14 :: w :: l) H QS = QS (a0 :: a1 :: a2 :: a3 :: a4 :: a5 :: a6 :: a7 :: a8 :: a9 :: a10 :: a11 :: a12 :: a13 :: a14 :: some v :: l) H := rfl
theorem e_v16 {a0 a1 a2 a3 a4 a5 a6 a7 a8 a9 a10 a11 a12 a13 a14 a15 : Option V} {l : L2.St} : zVar 16 (a0 :: a1 :: a2 :: a3 :: a4 :: a5 :: a6 :: a7 :: a8 :: a9 :: a10 :: a11 :: a12 :: a13 :: a14 :: a15 :: some v :: l) H Q = Q v H := rfl
theorem e_n16 {a0 a1 a2 a3 a4 a5 a6 a7 a8 a9 a10 a11 a12 a13 a14 a15 : Option V} {l : L2.St} {w : Option V} : gName 16 v (a0 :: a1 :: a2 :: a3 :: a4 :: a5 :: a6 :: a7 :: a8 :: a9 :: a10 :: a11 :: a12 :: a13 :: a14 :: a15 :: w :: l) H QS = QS (a0 :: a1 :: a2 :: a3 :: a4 :: a5 :: a6 :: a7 :: a8 :: a9 :: a10 :: a11 :: a12 :: a13 :: a14 :: a15 :: some v :: l) H := rfl
theorem e_v17 {a0 a1 a2 a3 a4 a5 a6 a7 a8 a9 a10 a11 a12 a13 a14 a15 a16 : Option V} {l : L2.St} : zVar 17 (a0 :: a1 :: a2 :: a3 :: a4 :: a5 :: a6 :: a7 :: a8 :: a9 :: a10 :: a11 :: a12 :: a13 :: a14 :: a15 :: a16 :: some v :: l) H Q = Q v H := rfl
theorem e_n17 {a0 a1 a2 a3 a4 a5 a6 a7 a8 a9 a10 a11 a12 a13 a14 a15 a16 : Option V} {l : L2.St} {w : Option V} : gName 17 v (a0 :: a1 :: a2 :: a3 :: a4 :: a5 :: a6 :: a7 :: a8 :: a9 :: a10 :: a11 :: a12 :: a13 :: a14 :: a15 :: a16 :: w :: l) H QS = QS (a0 :: a1 :: a2 :: a3 :: a4 :: a5 :: a6 :: a7 :: a8 :: a9 :: a10 :: a11 :: a12 :: a13 :: a14 :: a15 :: a16 :: some v :: l) H := rfl
theorem e_v18 {a0 a1 a2 a3 a4 a5 a6 a7 a8 a9 a10 a11 a12 a13 a14 a15 a16 a17 : Option V} {l : L2.St} : zVar 18 (a0 :: a1 :: a2 :: a3 :: a4 :: a5 :: a6 :: a7 :: a8 :: a9 :: a10 :: a11 :: a12 :: a13 :: a14 :: a15 :: a16 :: a17 :: some v :: l) H Q = Q v H := rfl
theorem e_n18 {a0 a1 a2 a3 a4 a5 a6 a7 a8 a9 a10 a11 a12 a13 a14 a15 a16 a17 : Option V} {l : L2.St} {w : Option V} : gName 18 v (a0 :: a1 :: a2 :: a3 :: a4 :: a5 :: a6 :: a7 :: a8 :: a9 :: a10 :: a11 :: a12 :: a13 :: a14 :: a15 :: a16 :: a17 :: w :: l) H QS = QS (a0 :: a1 :: a2 :: a3 :: a4 :: a5 :: a6 :: a7 :: a8 :: a9 :: a10 :: a11 :: a12 :: a13 :: a14 :: a15 :: a16 :: a17 :: some v :: l) H := rfl
theorem e_v19 {a0 a1 a2 a3 a4 a5 a6 a7 a8 a9 a10 a11 a12 a13 a14 a15 a16 a17 a18 : Option V} {l : L2.St} : zVar 19 (a0 :: a1 :: a2 :: a3 :: a4 :: a5 :: a6 :: a7 :: a8 :: a9 :: a10 :: a11 :: a12 :: a13 :: a14 :: a15 :: a16 :: a17 :: a18 :: some v :: l) H Q = Q v H := rfl
theorem e_n19 {a0 a1 a2 a3 a4 a5 a6 a7 a8 a9 a10 a11 a12 a13 a14 a15 a16 a17 a18 : Option V} {l : L2.St} {w : Option V} : gName 19 v (a0 :: a1 :: a2 :: a3 :: a4 :: a5 :: a6 :: a7 :: a8 :: a9 :: a10 :: a11 :: a12 :: a13 :: a14 :: a15 :: a16 :: a17 :: a18 :: w :: l) H QS = QS (a0 :: a1 :: a2 :: a3 :: a4 :: a5 :: a6 :: a7 :: a8 :: a9 :: a10 :: a11 :: a12 :: a13 :: a14 :: a15 :: a16 :: a17 :: a18 :: some v :: l) H := rfl
theorem e_v20 {a0 a1 a2 a3 a4 a5 a6 a7 a8 a9 a10 a11 a12 a13 a14 a15 a16 a17 a18 a19 : Option V} {l : L2.St} : zVar 20 (a0 :: a1 :: a2 :: a3 :: a4 :: a5 :: a6 :: a7 :: a8 :: a9 :: a10 :: a11 :: a12 :: a13 :: a14 :: a15 :: a16 :: a17 :: a18 :: a19 :: some v :: l) H Q = Q v H := rfl
theorem e_n20 {a0 a1 a2 a3 a4 a5 a6 a7 a8 a9 a10 a11 a12 a13 a14 a15 a16 a17 a18 a19 : Option V} {l : L2.St} {w : Option V} : gName 20 v (a0 :: a1 :: a2 :: a3 :: a4 :: a5 :: a6 :: a7 :: a8 :: a9 :: a10 :: a11 :: a12 :: a13 :: a14 :: a15 :: a16 :: a17 :: a18 :: a19 :: w :: l) H QS = QS (a0 :: a1 :: a2 :: a3 :: a4 :: a5 :: a6 :: a7 :: a8 :: a9 :: a10 :: a11 :: a12 :: a13 :: a14 :: a15 :: a16 :: a17 :: a18 :: a19 :: some v :: l) H := rfl
theorem e_v21 {a0 a1 a2 a3 a4 a5 a6 a7 a8 a9 a10 a11 a12 a13 a14 a15 a16 a17 a18 a19 a20 : Option V} {l : L2.St} : zVar 21 (a0 :: a1 :: a2 :: a3 :: a4 :: a5 :: a6 :: a7 :: a8 :: a9 :: a10 :: a11 :: a12 :: a13 :: a14 :: a15 :: a16 :: a17 :: a18 :: a19 :: a20 :: some v :: l) H Q = Q v H := rfl
theorem e_n21 {a0 a1 a2 a3 a4 a5 a6 a7 a8 a9 a10 a11 a12 a13 a14 a15 a16 a17 a18 a19 a20 : Option V} {l : L2.St} {w : Option V} : gName 21 v (a0 :: a1 :: a2 :: a3 :: a4 :: a5 :: a6 :: a7 :: a8 :: a9 :: a10 :: a11 :: a12 :: a13 :: a14 :: a15 :: a16 :: a17 :: a18 :: a19 :: a20 :: w :: l) H QS = QS (a0 :: a1 :: a2 :: a3 :: a4 :: a5 :: a6 :: a7 :: a8 :: a9 :: a10 :: a11 :: a12 :: a13 :: a14 :: a15 :: a16 :: a17 :: a18 :: a19 :: a20 :: some v :: l) H := rfl
theorem e_v22 {a0 a1 a2 a3 a4 a5 a6 a7 a8 a9 a10 a11 a12 a13 a14 a15 a16 a17 a18 a19 a20 a21 : Option V} {l : L2.St} : zVar 22 (a0 :: a1 :: a2 :: a3 :: a4 :: a5 :: a6 :: a7 :: a8 :: a9 :: a10 :: a11 :: a12 :: a13 :: a14 :: a15 :: a16 :: a17 :: a18 :: a19 :: a20 :: a21 :: some v :: l) H Q = Q v H := rfl
theorem e_n22 {a0 a1 a2 a3 a4 a5 a6 a7 a8 a9 a10 a11 a12 a13 a14 a15 a16 a17 a18 a19 a20 a21 : Option V} {l : L2.St} {w : Option V} : gName 22 v (a0 :: a1 :: a2 :: a3 :: a4 :: a5 :: a6 :: a7 :: a8 :: a9 :: a10 :: a11 :: a12 :: a13 :: a14 :: a15 :: a16 :: a17 :: a18 :: a19 :: a20 :: a21 :: w :: l) H QS = QS (a0 :: a1 :: a2 :: a3 :: a4 :: a5 :: a6 :: a7 :: a8 :: a9 :: a10 :: a11 :: a12 :: a13 :: a14 :: a15 :: a16 :: a17 :: a18 :: a19 :: a20 :: a21 :: some v :: l) H := rfl
theorem e_v23 {a0 a1 a2 a3 a4 a5 a6 a7 a8 a9 a10 a11 a12 a13 a14 a15 a16 a17 a18 a19 a20 a21 a22 : Option V} {l : L2.St} : zVar 23 (a0 :: a1 :: a2 :: a3 :: a4 :: a5 :: a6 :: a7 :: a8 :: a9 :: a10 :: a11 :: a12 :: a13 :: a14 :: a15 :: a16 :: a17 :: a18 :: a19 :: a20 :: a21 :: a22 :: some v :: l) H Q = Q v H := rfl
theorem e_n23 {a0 a1 a2 a3 a4 a5 a6 a7 a8 a9 a10 a11 a12 a13 a14 a15 a16 a17 a18 a19 a20 a21 a22 : Option V} {l : L2.St} {w : Option V} : gName 23 v (a0 :: a1 :: a2 :: a3 :: a4 :: a5 :: a6 :: a7 :: a8 :: a9 :: a10 :: a11 :: a12 :: a13 :: a14 :: a15 :: a16 :: a17 :: a18 :: a19 :: a20 :: a21 :: a22 :: w :: l) H QS = QS (a0 :: a1 :: a2 :: a3 :: a4 :: a5 :: a6 :: a7 :: a8 :: a9 :: a10 :: a11 :: a12 :: a13 :: a14 :: a15 :: a16 :: a17 :: a18 :: a19 :: a20 :: a21 :: a22 :: some v :: l) H := rfl
theorem e_v24 {a0 a1 a2 a3 a4 a5 a6 a7 a8 a9 a10 a11 a12 a13 a14 a15 a16 a17 a18 a19 a20 a21 a22 a23 : Option V} {l : L2.St} : zVar 24 (a0 :: a1 :: a2 :: a3 :: a4 :: a5 :: a6 :: a7 :: a8 :: a9 :: a10 :: a11 :: a12 :: a13 :: a14 :: a15 :: a16 :: a17 :: a18 :: a19 :: a20 :: a21 :: a22 :: a23 :: some v :: l) H Q = Q v H := rfl
theorem e_n24 {a0 a1 a2 a3 a4 a5 a6 a7 a8 a9 a10 a11 a12 a13 a14 a15 a16 a17 a18 a19 a20 a21 a22 a23 : Option V} {l : L2.St} {w : Option V} : gName 24 v (a0 :: a1 :: a2 :: a3 :: a4 :: a5 :: a6 :: a7 :: a8 :: a9 :: a10 :: a11 :: a12 :: a13 :: a14 :: a15 :: a16 :: a17 :: a18 :: a19 :: a20 :: a21 :: a22 :: a23 :: w :: l) H QS = QS (a0 :: a1 :: a2 :: a3 :: a4 :: a5 :: a6 :: a7 :: a8 :: a9 :: a10 :: a11 :: a12 :: a13 :: a14 :: a15 :: a16 :: a17 :: a18 :: a19 :: a20 :: a21 :: a22 :: a23 :: some v :: l) H := rfl
theorem e_v25 {a0 a1 a2 a3 a4 a5 a6 a7 a8 a9 a10 a11 a12 a13 a14 a15 a16 a17 a18 a19 a20 a21 a22 a23 a24 : Option V} {l : L2.St} : zVar 25 (a0 :: a1 :: a2 :: a3 :: a4 :: a5 :: a6 :: a7 :: a8 :: a9 :: a10 :: a11 :: a12 :: a13 :: a14 :: a15 :: a16 :: a17 :: a18 :: a19 :: a20 :: a21 :: a22 :: a23 :: a24 :: some v :: l) H Q = Q v H := rfl
theorem e_n25 {a0 a1 a2 a3 a4 a5 a6 a7 a8 a9 a10 a11 a12 a13 a14 a15 a16 a17 a18 a19 a20 a21 a22 a23 a24 : Option V} {l : L2.St} {w : Option V} : gName 25 v (a0 :: a1 :: a2 :: a3 :: a4 :: a5 :: a6 :: a7 :: a8 :: a9 :: a10 :: a11 :: a12 :: a13 :: a14 :: a15 :: a16 :: a17 :: a18 :: a19 :: a20 :: a21 :: a22 :: a23 :: a24 :: w :: l) H QS = QS (a0 :: a1 :: a2 :: a3 :: a4 :: a5 :: a6 :: a7 :: a8 :: a9 :: a10 :: a11 :: a12 :: a13 :: a14 :: a15 :: a16 :: a17 :: a18 :: a19 :: a20 :: a21 :: a22 :: a23 :: a24 :: some v :: l) H := rfl
theorem e_v26 {a0 a1 a2 a3 a4 a5 a6 a7 a8 a9 a10 a11 a12 a13 a14 a15 a16 a17 a18 a19 a20 a21 a22 a23 a24 a25 : Option V} {l : L2.St} : zVar 26 (a0 :: a1 :: a2 :: a3 :: a4 :: a5 :: a6 :: a7 :: a8 :: a9 :: a10 :: a11 :: a12 :: a13 :: a14 :: a15 :: a16 :: a17 :: a18 :: a19 :: a20 :: a21 :: a22 :: a23 :: a24 :: a25 :: some v :: l) H Q = Q v H := rfl
theorem e_n26 {a0 a1 a2 a3 a4 a5 a6 a7 a8 a9 a10 a11 a12 a13 a14 a15 a16 a17 a18 a19 a20 a21 a22 a23 a24 a25 : Option V} {l : L2.St} {w : Option V} : gName 26 v (a0 :: a1 :: a2 :: a3 :: a4 :: a5 :: a6 :: a7 :: a8 :: a9 :: a10 :: a11 :: a12 :: a13 :: a14 :: a15 :: a16 :: a17 :: a18 :: a19 :: a20 :: a21 :: a22 :: a23 :: a24 :: a25 :: w :: l) H QS = QS (a0 :: a1 :: a2 :: a3 :: a4 :: a5 :: a6 :: a7 :: a8 :: a9 :: a10 :: a11 :: a12 :: a13 :: a14 :: a15 :: a16 :: a17 :: a18 :: a19 :: a20 :: a21 :: a22 :: a23 :: a24 :: a25 :: some v :: l) H := rfl
theorem e_v27 {a0 a1 a2 a3 a4 a5 a6 a7 a8 a9 a10 a11 a12 a13 a14 a15 a16 a17 a18 a19 a20 a21 a22 a23 a24 a25 a26 : Option V} {l : L2.St} : zVar 27 (a0 :: a1 :: a2 :: a3 :: a4 :: a5 :: a6 :: a7 :: a8 :: a9 :: a10 :: a11 :: a12 :: a13 :: a14 :: a15 :: a16 :: a17 :: a18 :: a19 :: a20 :: a21 :: a22 :: a23 :: a24 :: a25 :: a26 :: some v :: l) H Q = Q v H := rfl
theorem e_n27 {a0 a1 a2 a3 a4 a5 a6 a7 a8 a9 a10 a11 a12 a13 a14 a15 a16 a17 a18 a19 a20 a21 a22 a23 a24 a25 a26 : Option V} {l : L2.St} {w : Option V} : gName 27 v (a0 :: a1 :: a2 :: a3 :: a4 :: a5 :: a6 :: a7 :: a8 :: a9 :: a10 :: a11 :: a12 :: a13 :: a14 :: a15 :: a16 :: a17 :: a18 :: a19 :: a20 :: a21 :: a22 :: a23 :: a24 :: a25 :: a26 :: w :: l) H QS = QS (a0 :: a1 :: a2 :: a3 :: a4 :: a5 :: a6 :: a7 :: a8 :: a9 :: a10 :: a11 :: a12 :: a13 :: a14 :: a15 :: a16 :: a17 :: a18 :: a19 :: a20 :: a21 :: a22 :: a23 :: a24 :: a25 :: a26 :: some v :: l) H := rfl
theorem e_v28 {a0 a1 a2 a3 a4 a5 a6 a7 a8 a9 a10 a11 a12 a13 a14 a15 a16 a17 a18 a19 a20 a21 a22 a23 a24 a25 a26 a27 : Option V} {l : L2.St} : zVar 28 (a0 :: a1 :: a2 :: a3 :: a4 :: a5 :: a6 :: a7 :: a8 :: a9 :: a10 :: a11 :: a12 :: a13 :: a14 :: a15 :: a16 :: a17 :: a18 :: a19 :: a20 :: a21 :: a22 :: a23 :: a24 :: a25 :: a26 :: a27 :: some v :: l) H Q = Q v H := rfl
theorem e_n28 {a0 a1 a2 a3 a4 a5 a6 a7 a8 a9 a10 a11 a12 a13 a14 a15 a16 a17 a18 a19 a20 a21 a22 a23 a24 a25 a26 a27 : Option V} {l : L2.St} {w : Option V} : gName 28 v (a0 :: a1 :: a2 :: a3 :: a4 :: a5 :: a6 :: a7 :: a8 :: a9 :: a10 :: a11 :: a12 :: a13 :: a14 :: a15 :: a16 :: a17 :: a18 :: a19 :: a20 :: a21 :: a22 :: a23 :: a24 :: a25 :: a26 :: a27 :: w :: l) H QS = QS (a0 :: a1 :: a2 :: a3 :: a4 :: a5 :: a6 :: a7 :: a8 :: a9 :: a10 :: a11 :: a12 :: a13 :: a14 :: a15 :: a16 :: a17 :: a18 :: a19 :: a20 :: a21 :: a22 :: a23 :: a24 :: a25 :: a26 :: a27 :: some v :: l) H := rfl
theorem e_v29 {a0 a1 a2 a3 a4 a5 a6 a7 a8 a9 a10 a11 a12 a13 a14 a15 a16 a17 a18 a19 a20 a21 a22 a23 a24 a25 a26 a27 a28 : Option V} {l : L2.St} : zVar 29 (a0 :: a1 :: a2 :: a3 :: a4 :: a5 :: a6 :: a7 :: a8 :: a9 :: a10 :: a11 :: a12 :: a13 :: a14 :: a15 :: a16 :: a17 :: a18 :: a19 :: a20 :: a21 :: a22 :: a23 :: a24 :: a25 :: a26 :: a27 :: a28 :: some v :: l) H Q = Q v H := rfl
theorem e_n29 {a0 a1 a2 a3 a4 a5 a6 a7 a8 a9 a10 a11 a12 a13 a14 a15 a16 a17 a18 a19 a20 a21 a22 a23 a24 a25 a26 a27 a28 : Option V} {l : L2.St} {w : Option V} : gName 29 v (a0 :: a1 :: a2 :: a3 :: a4 :: a5 :: a6 :: a7 :: a8 :: a9 :: a10 :: a11 :: a12 :: a13 :: a14 :: a15 :: a16 :: a17 :: a18 :: a19 :: a20 :: a21 :: a22 :: a23 :: a24 :: a25 :: a26 :: a27 :: a28 :: w :: l) H QS = QS (a0 :: a1 :: a2 :: a3 :: a4 :: a5 :: a6 :: a7 :: a8 :: a9 :: a10 :: a11 :: a12 :: a13 :: a14 :: a15 :: a16 :: a17 :: a18 :: a19 :: a20 :: a21 :: a22 :: a23 :: a24 :: a25 :: a26 :: a27 :: a28 :: some v :: l) H := rfl
theorem e_v30 {a0 a1 a2 a3 a4 a5 a6 a7 a8 a9 a10 a11 a12 a13 a14 a15 a16 a17 a18 a19 a20 a21 a22 a23 a24 a25 a26 a27 a28 a29 : Option V} {l : L2.St} : zVar 30 (a0 :: a1 :: a2 :: a3 :: a4 :: a5 :: a6 :: a7 :: a8 :: a9 :: a10 :: a11 :: a12 :: a13 :: a14 :: a15 :: a16 :: a17 :: a18 :: a19 :: a20 :: a21 :: a22 :: a23 :: a24 :: a25 :: a26 :: a27 :: a28 :: a29 :: some v :: l) H Q = Q v H := rfl
theorem e_n30 {a0 a1 a2 a3 a4 a5 a6 a7 a8 a9 a10 a11 a12 a13 a14 a15 a16 a17 a18 a19 a20 a21 a22 a23 a24 a25 a26 a27 a28 a29 : Option V} {l : L2.St} {w : Option V} : gName 30 v (a0 :: a1 :: a2 :: a3 :: a4 :: a5 :: a6 :: a7 :: a8 :: a9 :: a10 :: a11 :: a12 :: a13 :: a14 :: a15 :: a16 :: a17 :: a18 :: a19 :: a20 :: a21 :: a22 :: a23 :: a24 :: a25 :: a26 :: a27 :: a28 :: a29 :: w :: l) H QS = QS (a0 :: a1 :: a2 :: a3 :: a4 :: a5 :: a6 :: a7 :: a8 :: a9 :: a10 :: a11 :: a12 :: a13 :: a14 :: a15 :: a16 :: a17 :: a18 :: a19 :: a20 :: a21 :: a22 :: a23 :: a24 :: a25 :: a26 :: a27 :: a28 :: a29 :: some v :: l) H := rfl
theorem e_v31 {a0 a1 a2 a3 a4 a5 a6 a7 a8 a9 a10 a11 a12 a13 a14 a15 a16 a17 a18 a19 a20 a21 a22 a23 a24 a25 a26 a27 a28 a29 a30 : Option V} {l : L2.St} : zVar 31 (a0 :: a1 :: a2 :: a3 :: a4 :: a5 :: a6 :: a7 :: a8 :: a9 :: a10 :: a11 :: a12 :: a13 :: a14 :: a15 :: a16 :: a17 :: a18 :: a19 :: a20 :: a21 :: a22 :: a23 :: a24 :: a25 :: a26 :: a27 :: a28 :: a29 :: a30 :: some v :: l) H Q = Q v H := rfl
theorem e_n31 {a0 a1 a2 a3 a4 a5 a6 a7 a8 a9 a10 a11 a12 a13 a14 a15 a16 a17 a18 a19 a20 a21 a22 a23 a24 a25 a26 a27 a28 a29 a30 : Option V} {l : L2.St} {w : Option V} : gName 31 v (a0 :: a1 :: a2 :: a3 :: a4 :: a5 :: a6 :: a7 :: a8 :: a9 :: a10 :: a11 :: a12 :: a13 :: a14 :: a15 :: a16 :: a17 :: a18 :: a19 :: a20 :: a21 :: a22 :: a23 :: a24 :: a25 :: a26 :: a27 :: a28 :: a29 :: a30 :: w :: l) H QS = QS (a0 :: a1 :: a2 :: a3 :: a4 :: a5 :: a6 :: a7 :: a8 :: a9 :: a10 :: a11 :: a12 :: a13 :: a14 :: a15 :: a16 :: a17 :: a18 :: a19 :: a20 :: a21 :: a22 :: a23 :: a24 :: a25 :: a26 :: a27 :: a28 :: a29 :: a30 :: some v :: l) H := rfl
theorem e_v32 {a0 a1 a2 a3 a4 a5 a6 a7 a8 a9 a10 a11 a12 a13 a14 a15 a16 a17 a18 a19 a20 a21 a22 a23 a24 a25 a26 a27 a28 a29 a30 a31 : Option V} {l : L2.St} : zVar 32 (a0 :: a1 :: a2 :: a3 :: a4 :: a5 :: a6 :: a7 :: a8 :: a9 :: a10 :: a11 :: a12 :: a13 :: a14 :: a15 :: a16 :: a17 :: a18 :: a19 :: a20 :: a21 :: a22 :: a23 :: a24 :: a25 :: a26 :: a27 :: a28 :: a29 :: a30 :: a31 :: some v :: l) H Q = Q v H := rfl
theorem e_n32 {a0 a1 a2 a3 a4 a5 a6 a7 a8 a9 a10 a11 a12 a13 a14 a15 a16 a17 a18 a19 a20 a21 a22 a23 a24 a25 a26 a27 a28 a29 a30 a31 : Option V} {l : L2.St} {w : Option V} : gName 32 v (a0 :: a1 :: a2 :: a3 :: a4 :: a5 :: a6 :: a7 :: a8 :: a9 :: a10 :: a11 :: a12 :: a13 :: a14 :: a15 :: a16 :: a17 :: a18 :: a19 :: a20 :: a21 :: a22 :: a23 :: a24 :: a25 :: a26 :: a27 :: a28 :: a29 :: a30 :: a31 :: w :: l) H QS = QS (a0 :: a1 :: a2 :: a3 :: a4 :: a5 :: a6 :: a7 :: a8 :: a9 :: a10 :: a11 :: a12 :: a13 :: a14 :: a15 :: a16 :: a17 :: a18 :: a19 :: a20 :: a21 :: a22 :: a23 :: a24 :: a25 :: a26 :: a27 :: a28 :: a29 :: a30 :: a31 :: some v :: l) H := rfl
theorem e_v33 {a0 a1 a2 a3 a4 a5 a6 a7 a8 a9 a10 a11 a12 a13 a14 a15 a16 a17 a18 a19 a20 a21 a22 a23 a24 a25 a26 a27 a28 a29 a30 a31 a32 : Option V} {l : L2.St} : zVar 33 (a0 :: a1 :: a2 :: a3 :: a4 :: a5 :: a6 :: a7 :: a8 :: a9 :: a10 :: a11 :: a12 :: a13 :: a14 :: a15 :: a16 :: a17 :: a18 :: a19 :: a20 :: a21 :: a22 :: a23 :: a24 :: a25 :: a26 :: a27 :: a28 :: a29 :: a30 :: a31 :: a32 :: some v :: l) H Q = Q v H := rfl
theorem e_n33 {a0 a1 a2 a3 a4 a5 a6 a7 a8 a9 a10 a11 a12 a13 a14 a15 a16 a17 a18 a19 a20 a21 a22 a23 a24 a25 a26 a27 a28 a29 a30 a31 a32 : Option V} {l : L2.St} {w : Option V} : gName 33 v (a0 :: a1 :: a2 :: a3 :: a4 :: a5 :: a6 :: a7 :: a8 :: a9 :: a10 :: a11 :: a12 :: a13 :: a14 :: a15 :: a16 :: a17 :: a18 :: a19 :: a20 :: a21 :: a22 :: a23 :: a24 :: a25 :: a26 :: a27 :: a28 :: a29 :: a30 :: a31 :: a32 :: w :: l) H QS = QS (a0 :: a1 :: a2 :: a3 :: a4 :: a5 :: a6 :: a7 :: a8 :: a9 :: a10 :: a11 :: a12 :: a13 :: a14 :: a15 :: a16 :: a17 :: a18 :: a19 :: a20 :: a21 :: a22 :: a23 :: a24 :: a25 :: a26 :: a27 :: a28 :: a29 :: a30 :: a31 :: a32 :: some v :: l) H := rfl
theorem e_v34 {a0 a1 a2 a3 a4 a5 a6 a7 a8 a9 a10 a11 a12 a13 a14 a15 a16 a17 a18 a19 a20 a21 a22 a23 a24 a25 a26 a27 a28 a29 a30 a31 a32 a33 : Option V} {l : L2.St} : zVar 34 (a0 :: a1 :: a2 :: a3 :: a4 :: a5 :: a6 :: a7 :: a8 :: a9 :: a10 :: a11 :: a12 :: a13 :: a14 :: a15 :: a16 :: a17 :: a18 :: a19 :: a20 :: a21 :: a22 :: a23 :: a24 :: a25 :: a26 :: a27 :: a28 :: a29 :: a30 :: a31 :: a32 :: a33 :: some v :: l) H Q = Q v H := rfl
theorem e_n34 {a0 a1 a2 a3 a4 a5 a6 a7 a8 a9 a10 a11 a12 a13 a14 a15 a16 a17 a18 a19 a20 a21 a22 a23 a24 a25 a26 a27 a28 a29 a30 a31 a32 a33 : Option V} {l : L2.St} {w : Option V} : gName 34 v (a0 :: a1 :: a2 :: a3 :: a4 :: a5 :: a6 :: a7 :: a8 :: a9 :: a10 :: a11 :: a12 :: a13 :: a14 :: a15 :: a16 :: a17 :: a18 :: a19 :: a20 :: a21 :: a22 :: a23 :: a24 :: a25 :: a26 :: a27 :: a28 :: a29 :: a30 :: a31 :: a32 :: a33 :: w :: l) H QS = QS (a0 :: a1 :: a2 :: a3 :: a4 :: a5 :: a6 :: a7 :: a8 :: a9 :: a10 :: a11 :: a12 :: a13 :: a14 :: a15 :: a16 :: a17 :: a18 :: a19 :: a20 :: a21 :: a22 :: a23 :: a24 :: a25 :: a26 :: a27 :: a28 :: a29 :: a30 :: a31 :: a32 :: a33 :: some v :: l) H := rfl
theorem e_v35 {a0 a1 a2 a3 a4 a5 a6 a7 a8 a9 a10 a11 a12 a13 a14 a15 a16 a17 a18 a19 a20 a21 a22 a23 a24 a25 a26 a27 a28 a29 a30 a31 a32 a33 a34 : Option V} {l : L2.St} : zVar 35 (a0 :: a1 :: a2 :: a3 :: a4 :: a5 :: a6 :: a7 :: a8 :: a9 :: a10 :: a11 :: a12 :: a13 :: a14 :: a15 :: a16 :: a17 :: a18 :: a19 :: a20 :: a21 :: a22 :: a23 :: a24 :: a25 :: a26 :: a27 :: a28 :: a29 :: a30 :: a31 :: a32 :: a33 :: a34 :: some v :: l) H Q = Q v H := rfl
theorem e_n35 {a0 a1 a2 a3 a4 a5 a6 a7 a8 a9 a10 a11 a12 a13 a14 a15 a16 a17 a18 a19 a20 a21 a22 a23 a24 a25 a26 a27 a28 a29 a30 a31 a32 a33 a34 : Option V} {l : L2.St} {w : Option V} : gName 35 v (a0 :: a1 :: a2 :: a3 :: a4 :: a5 :: a6 :: a7 :: a8 :: a9 :: a10 :: a11 :: a12 :: a13 :: a14 :: a15 :: a16 :: a17 :: a18 :: a19 :: a20 :: a21 :: a22 :: a23 :: a24 :: a25 :: a26 :: a27 :: a28 :: a29 :: a30 :: a31 :: a32 :: a33 :: a34 :: w :: l) H QS = QS (a0 :: a1 :: a2 :: a3 :: a4 :: a5 :: a6 :: a7 :: a8 :: a9 :: a10 :: a11 :: a12 :: a13 :: a14 :: a15 :: a16 :: a17 :: a18 :: a19 :: a20 :: a21 :: a22 :: a23 :: a24 :: a25 :: a26 :: a27 :: a28 :: a29 :: a30 :: a31 :: a32 :: a33 :: a34 :: some v :: l) H := rfl
theorem e_v36 {a0 a1 a2 a3 a4 a5 a6 a7 a8 a9 a10 a11 a12 a13 a14 a15 a16 a17 a18 a19 a20 a21 a22 a23 a24 a25 a26 a27 a28 a29 a30 a31 a32 a33 a34 a35 : Option V} {l : L2.St} : zVar 36 (a0 :: a1 :: a2 :: a3 :: a4 :: a5 :: a6 :: a7 :: a8 :: a9 :: a10 :: a11 :: a12 :: a13 :: a14 :: a15 :: a16 :: a17 :: a18 :: a19 :: a20 :: a21 :: a22 :: a23 :: a24 :: a25 :: a26 :: a27 :: a28 :: a29 :: a30 :: a31 :: a32 :: a33 :: a34 :: a35 :: some v :: l) H Q = Q v H := rfl
theorem e_n36 {a0 a1 a2 a3 a4 a5 a6 a7 a8 a9 a10 a11 a12 a13 a14 a15 a16 a17 a18 a19 a20 a21 a22 a23 a24 a25 a26 a27 a28 a29 a30 a31 a32 a33 a34 a35 : Option V} {l : L2.St} {w : Option V} : gName 36 v (a0 :: a1 :: a2 :: a3 :: a4 :: a5 :: a6 :: a7 :: a8 :: a9 :: a10 :: a11 :: a12 :: a13 :: a14 :: a15 :: a16 :: a17 :: a18 :: a19 :: a20 :: a21 :: a22 :: a23 :: a24 :: a25 :: a26 :: a27 :: a28 :: a29 :: a30 :: a31 :: a32 :: a33 :: a34 :: a35 :: w :: l) H QS = QS (a0 :: a1 :: a2 :: a3 :: a4 :: a5 :: a6 :: a7 :: a8 :: a9 :: a10 :: a11 :: a12 :: a13 :: a14 :: a15 :: a16 :: a17 :: a18 :: a19 :: a20 :: a21 :: a22 :: a23 :: a24 :: a25 :: a26 :: a27 :: a28 :: a29 :: a30 :: a31 :: a32 :: a33 :: a34 :: a35 :: some v :: l) H := rfl
theorem e_v37 {a0 a1 a2 a3 a4 a5 a6 a7 a8 a9 a10 a11 a12 a13 a14 a15 a16 a17 a18 a19 a20 a21 a22 a23 a24 a25 a26 a27 a28 a29 a30 a31 a32 a33 a34 a35 a36 : Option V} {l : L2.St} : zVar 37 (a0 :: a1 :: a2 :: a3 :: a4 :: a5 :: a6 :: a7 :: a8 :: a9 :: a10 :: a11 :: a12 :: a13 :: a14 :: a15 :: a16 :: a17 :: a18 :: a19 :: a20 :: a21 :: a22 :: a23 :: a24 :: a25 :: a26 :: a27 :: a28 :: a29 :: a30 :: a31 :: a32 :: a33 :: a34 :: a35 :: a36 :: some v :: l) H Q = Q v H := rfl
theorem e_n37 {a0 a1 a2 a3 a4 a5 a6 a7 a8 a9 a10 a11 a12 a13 a14 a15 a16 a17 a18 a19 a20 a21 a22 a23 a24 a25 a26 a27 a28 a29 a30 a31 a32 a33 a34 a35 a36 : Option V} {l : L2.St} {w : Option V} : gName 37 v (a0 :: a1 :: a2 :: a3 :: a4 :: a5 :: a6 :: a7 :: a8 :: a9 :: a10 :: a11 :: a12 :: a13 :: a14 :: a15 :: a16 :: a17 :: a18 :: a19 :: a20 :: a21 :: a22 :: a23 :: a24 :: a25 :: a26 :: a27 :: a28 :: a29 :: a30 :: a31 :: a32 :: a33 :: a34 :: a35 :: a36 :: w :: l) H QS = QS (a0 :: a1 :: a2 :: a3 :: a4 :: a5 :: a6 :: a7 :: a8 :: a9 :: a10 :: a11 :: a12 :: a13 :: a14 :: a15 :: a16 :: a17 :: a18 :: a19 :: a20 :: a21 :: a22 :: a23 :: a24 :: a25 :: a26 :: a27 :: a28 :: a29 :: a30 :: a31 :: a32 :: a33 :: a34 :: a35 :: a36 :: some v :: l) H := rfl
theorem e_v38 {a0 a1 a2 a3 a4 a5 a6 a7 a8 a9 a10 a11 a12 a13 a14 a15 a16 a17 a18 a19 a20 a21 a22 a23 a24 a25 a26 a27 a28 a29 a30 a31 a32 a33 a34 a35 a36 a37 : Option V} {l : L2.St} : zVar 38 (a0 :: a1 :: a2 :: a3 :: a4 :: a5 :: a6 :: a7 :: a8 :: a9 :: a10 :: a11 :: a12 :: a13 :: a14 :: a15 :: a16 :: a17 :: a18 :: a19 :: a20 :: a21 :: a22 :: a23 :: a24 :: a25 :: a26 :: a27 :: a28 :: a29 :: a30 :: a31 :: a32 :: a33 :: a34 :: a35 :: a36 :: a37 :: some v :: l) H Q = Q v H := rfl
theorem e_n38 {a0 a1 a2 a3 a4 a5 a6 a7 a8 a9 a10 a11 a12 a13 a14 a15 a16 a17 a18 a19 a20 a21 a22 a23 a24 a25 a26 a27 a28 a29 a30 a31 a32 a33 a34 a35 a36 a37 : Option V} {l : L2.St} {w : Option V} : gName 38 v (a0 :: a1 :: a2 :: a3 :: a4 :: a5 :: a6 :: a7 :: a8 :: a9 :: a10 :: a11 :: a12 :: a13 :: a14 :: a15 :: a16 :: a17 :: a18 :: a19 :: a20 :: a21 :: a22 :: a23 :: a24 :: a25 :: a26 :: a27 :: a28 :: a29 :: a30 :: a31 :: a32 :: a33 :: a34 :: a35 :: a36 :: a37 :: w :: l) H QS = QS (a0 :: a1 :: a2 :: a3 :: a4 :: a5 :: a6 :: a7 :: a8 :: a9 :: a10 :: a11 :: a12 :: a13 :: a14 :: a15 :: a16 :: a17 :: a18 :: a19 :: a20 :: a21 :: a22 :: a23 :: a24 :: a25 :: a26 :: a27 :: a28 :: a29 :: a30 :: a31 :: a32 :: a33 :: a34 :: a35 :: a36 :: a37 :: some v :: l) H := rfl
theorem e_v39 {a0 a1 a2 a3 a4 a5 a6 a7 a8 a9 a10 a11 a12 a13 a14 a15 a16 a17 a18 a19 a20 a21 a22 a23 a24 a25 a26 a27 a28 a29 a30 a31 a32 a33 a34 a35 a36 a37 a38 : Option V} {l : L2.St} : zVar 39 (a0 :: a1 :: a2 :: a3 :: a4 :: a5 :: a6 :: a7 :: a8 :: a9 :: a10 :: a11 :: a12 :: a13 :: a14 :: a15 :: a16 :: a17 :: a18 :: a19 :: a20 :: a21 :: a22 :: a23 :: a24 :: a25 :: a26 :: a27 :: a28 :: a29 :: a30 :: a31 :: a32 :: a33 :: a34 :: a35 :: a36 :: a37 :: a38 :: some v :: l) H Q = Q v H := rfl
theorem e_n39 {a0 a1 a2 a3 a4 a5 a6 a7 a8 a9 a10 a11 a12 a13 a14 a15 a16 a17 a18 a19 a20 a21 a22 a23 a24 a25 a26 a27 a28 a29 a30 a31 a32 a33 a34 a35 a36 a37 a38 : Option V} {l : L2.St} {w : Option V} : gName 39 v (a0 :: a1 :: a2 :: a3 :: a4 :: a5 :: a6 :: a7 :: a8 :: a9 :: a10 :: a11 :: a12 :: a13 :: a14 :: a15 :: a16 :: a17 :: a18 :: a19 :: a20 :: a21 :: a22 :: a23 :: a24 :: a25 :: a26 :: a27 :: a28 :: a29 :: a30 :: a31 :: a32 :: a33 :: a34 :: a35 :: a36 :: a37 :: a38 :: w :: l) H QS = QS (a0 :: a1 :: a2 :: a3 :: a4 :: a5 :: a6 :: a7 :: a8 :: a9 :: a10 :: a11 :: a12 :: a13 :: a14 :: a15 :: a16 :: a17 :: a18 :: a19 :: a20 :: a21 :: a22 :: a23 :: a24 :: a25 :: a26 :: a27 :: a28 :: a29 :: a30 :: a31 :: a32 :: a33 :: a34 :: a35 :: a36 :: a37 :: a38 :: some v :: l) H := rfl
theorem e_c : tC v σ H Q = Q v H := rfl
theorem e_op : tOp r ta tb σ H Q = ta σ H fun x H1 => tb σ H1 fun y H2 => r x y H2 Q := rfl
theorem e_un {r : V → Hp → VK → Prop} : tUn r ta σ H Q = ta σ H fun x H1 => r x H1 Q := rfl
theorem e_nil : tNil σ H QA = QA [] H := rfl
theorem e_cons : tCons te tr σ H QA = te σ H fun x H1 => tr σ H1 fun xs H2 => QA (x :: xs) H2 := rfl
theorem e_tup : tTup tA σ H Q = tA σ H fun xs H1 => xs.length ≤ sizeLine ∧ ∀ p, H1 p = none → Q (.ref p) (upd H1 p (.tup xs)) := rfl
theorem e_lst : tLst tA σ H Q = tA σ H fun xs H1 => xs.length ≤ sizeLine ∧ ∀ p, H1 p = none → Q (.ref p) (upd H1 p (.lst xs)) := rfl
theorem e_cb {r : List V → Hp → VK → Prop} : tCB r tA σ H Q = tA σ H fun vs H1 => r vs H1 Q := rfl
theorem e_call {sp : Sp} {E : L2.St → XK} : tCallS sp E tA σ H Q = tA σ H fun vs H1 => sp vs H1 Q (E σ) := rfl
theorem e_bm {T : String} {r : V → List V → Hp → VK → Prop} : tBM K T r te tA σ H Q = te σ H fun x H1 => tyV K T x H1 ∧ tA σ H1 fun xs H2 => r x xs H2 Q := rfl
theorem e_bm0 {T : String} {r : V → List V → Hp → VK → Prop} : tBM0 K T r te σ H Q = te σ H fun x H1 => tyV K T x H1 ∧ r x [] H1 Q := rfl
theorem e_sl {r : V → Option Int → Option Int → Hp → VK → Prop} {tl th : TO} : tSl r te tl th σ H Q = te σ H fun x H1 => tl σ H1 fun l H2 => th σ H2 fun u H3 => r x l u H3 Q := rfl
theorem e_nopart : tNoPart σ H QO = QO none H := rfl
theorem e_part : tPart te σ H QO = te σ H fun x H1 => ∃ i, x = .int i ∧ QO (some i) H1 := rfl
theorem e_chain {r' : R2} : tChain r r' ta tb tc σ H Q = ta σ H fun x H1 => tb σ H1 fun y H2 => r x y H2 fun z H3 => ∃ k, z = .bl k ∧ (if k = true then tc σ H3 fun w' H4 => r' y w' H4 Q else Q (.bl false) H3) := rfl
theorem e_ifE : tIf c ta tb σ H Q = c σ H fun b H1 => if b = true then ta σ H1 Q else tb σ H1 Q := rfl
theorem e_notT : tNotT K ta σ H Q = ta σ H fun x H1 => ∃ k, TruV K x H1 k ∧ Q (.bl (!k)) H1 := rfl
theorem e_andT : tAndT K ta tb σ H Q = ta σ H fun x H1 => ∃ k, TruV K x H1 k ∧ if k = true then tb σ H1 Q else Q x H1 := rfl
theorem e_orT : tOrT K ta tb σ H Q = ta σ H fun x H1 => ∃ k, TruV K x H1 k ∧ if k = true then Q x H1 else tb σ H1 Q := rfl
theorem e_test : tTest te σ H QB = te σ H fun x H' => ∃ k, x = .bl k ∧ QB k H' := rfl
theorem e_tru : zTru K te σ H QB = te σ H fun x H' => ∃ k, TruV K x H' k ∧ QB k H' := rfl
theorem e_not : tNot c σ H QB = c σ H fun b H1 => QB (!b) H1 := rfl
theorem e_and : tAnd c d σ H QB = c σ H fun b H1 => if b = true then d σ H1 QB else QB false H1 := rfl
theorem e_or : tOr c d σ H QB = c σ H fun b H1 => if b = true then QB true H1 else d σ H1 QB := rfl
theorem e_bl {b : Bool} {P : Bool → Prop} : (∃ k, V.bl b = .bl k ∧ P k) = P b := propext ⟨fun ⟨k, e, p⟩ => by cases e; exact p, fun p => ⟨b, rfl, p⟩⟩
theorem e_int {i : Int} {P : Int → Prop} : (∃ k, V.int i = .int k ∧ P k) = P i := propext ⟨fun ⟨k, e, p⟩ => by cases e; exact p, fun p => ⟨i, rfl, p⟩⟩
theorem e_truB {b : Bool} {P : Bool → Prop} : (∃ k, TruV K (.bl b) H k ∧ P k) = P b := propext ⟨fun ⟨k, e, p⟩ => by have e : k = b := e; subst e; exact p, fun p => ⟨b, rfl, p⟩⟩
theorem e_truI {i : Int} {P : Bool → Prop} : (∃ k, TruV K (.int i) H k ∧ P k) = P (i != 0) := propext ⟨fun ⟨k, e, p⟩ => by have e : k = (i != 0) := e; subst e; exact p, fun p => ⟨_, rfl, p⟩⟩
theorem e_truN {P : Bool → Prop} : (∃ k, TruV K .non H k ∧ P k) = P false := propext ⟨fun ⟨k, e, p⟩ => by have e : k = false := e; subst e; exact p, fun p => ⟨_, rfl, p⟩⟩
theorem o_addI {i j : Int} : zAdd K (.int i) (.int j) H Q = Q (.int (i + j)) H := rfl
theorem o_addS {a b : Str} : zAdd K (.str a) (.str b) H Q = (a.length + b.length ≤ sizeLine ∧ Q (.str (a ++ b)) H) := rfl
theorem o_subI {i j : Int} : zSub (.int i) (.int j) H Q = Q (.int (i - j)) H := rfl
theorem o_mulI {i j : Int} : zMul (.int i) (.int j) H Q = (CMulB i j ∧ Q (.int (i * j)) H) := rfl
theorem o_divI {i j : Int} : zDiv (.int i) (.int j) H Q = (CDivW i j ∧ Q (.int (i / j)) H) := rfl
theorem o_modI {i j : Int} : zMod (.int i) (.int j) H Q = (0 < j ∧ Q (.int (i % j)) H) := rfl
theorem o_powI {i j : Int} : zPow (.int i) (.int j) H Q = (CPow i j ∧ Q (.int (i ^ j.toNat)) H) := rfl
theorem o_neg {i : Int} : rU (fun i => .int (-i)) (.int i) H Q = Q (.int (-i)) H := propext ⟨fun ⟨k, e, p⟩ => by cases e; exact p, fun p => ⟨i, rfl, p⟩⟩
theorem o_eqNN : zEq K .non .non H Q = Q (.bl true) H := rfl
theorem o_eqI {i j : Int} : zEq K (.int i) (.int j) H Q = Q (.bl (decide (i = j))) H := rfl
theorem o_eqS {i j : Str} : zEq K (.str i) (.str j) H Q = Q (.bl (decide (i = j))) H := rfl
theorem o_eqB {i j : Bool} : zEq K (.bl i) (.bl j) H Q = Q (.bl (decide (i = j))) H := rfl
theorem o_eqNI {i : Int} : zEq K .non (.int i) H Q = Q (.bl false) H := rfl
theorem o_eqIN {i : Int} : zEq K (.int i) .non H Q = Q (.bl false) H := rfl
theorem o_eqNS {s : Str} : zEq K .non (.str s) H Q = Q (.bl false) H := rfl
theorem o_eqSN {s : Str} : zEq K (.str s) .non H Q = Q (.bl false) H := rfl
theorem o_eqNB {b : Bool} : zEq K .non (.bl b) H Q = Q (.bl false) H := rfl
theorem o_eqBN {b : Bool} : zEq K (.bl b) .non H Q = Q (.bl false) H := rfl
theorem o_eqIS {i : Int} {s : Str} : zEq K (.int i) (.str s) H Q = Q (.bl false) H := rfl
theorem o_eqSI {s : Str} {i : Int} : zEq K (.str s) (.int i) H Q = Q (.bl false) H := rfl
theorem o_eqBS {b : Bool} {s : Str} : zEq K (.bl b) (.str s) H Q = Q (.bl false) H := rfl
theorem o_eqSB {s : Str} {b : Bool} : zEq K (.str s) (.bl b) H Q = Q (.bl false) H := rfl
theorem o_neNN : zNe K .non .non H Q = Q (.bl false) H := rfl
theorem o_neI {i j : Int} : zNe K (.int i) (.int j) H Q = Q (.bl (!decide (i = j))) H := rfl
theorem o_neS {i j : Str} : zNe K (.str i) (.str j) H Q = Q (.bl (!decide (i = j))) H := rfl
theorem o_neB {i j : Bool} : zNe K (.bl i) (.bl j) H Q = Q (.bl (!decide (i = j))) H := rfl
theorem o_neNI {i : Int} : zNe K .non (.int i) H Q = Q (.bl true) H := rfl
theorem o_neIN {i : Int} : zNe K (.int i) .non H Q = Q (.bl true) H := rfl
theorem o_neNS {s : Str} : zNe K .non (.str s) H Q = Q (.bl true) H := rfl
theorem o_neSN {s : Str} : zNe K (.str s) .non H Q = Q (.bl true) H := rfl
theorem o_neNB {b : Bool} : zNe K .non (.bl b) H Q = Q (.bl true) H := rfl
theorem o_neBN {b : Bool} : zNe K (.bl b) .non H Q = Q (.bl true) H := rfl
theorem o_neIS {i : Int} {s : Str} : zNe K (.int i) (.str s) H Q = Q (.bl true) H := rfl
theorem o_neSI {s : Str} {i : Int} : zNe K (.str s) (.int i) H Q = Q (.bl true) H := rfl
theorem o_neBS {b : Bool} {s : Str} : zNe K (.bl b) (.str s) H Q = Q (.bl true) H := rfl
theorem o_neSB {s : Str} {b : Bool} : zNe K (.str s) (.bl b) H Q = Q (.bl true) H := rfl
theorem o_ltI {i j : Int} : zLt K (.int i) (.int j) H Q = Q (.bl (decide (i < j))) H := rfl
theorem o_ltS {i j : Str} : zLt K (.str i) (.str j) H Q = Q (.bl (decide (i.cps.toList < j.cps.toList))) H := rfl
theorem o_leI {i j : Int} : zLe (.int i) (.int j) H Q = Q (.bl (decide (i ≤ j))) H := rfl
theorem o_gtI {i j : Int} : zGt (.int i) (.int j) H Q = Q (.bl (decide (j < i))) H := rfl
theorem o_geI {i j : Int} : zGe (.int i) (.int j) H Q = Q (.bl (decide (j ≤ i))) H := rfl
theorem o_isN : zIs .non .non H Q = Q (.bl true) H := rfl
theorem o_isI {i : Int} : zIs (.int i) .non H Q = Q (.bl false) H := rfl
theorem o_isS {i : Str} : zIs (.str i) .non H Q = Q (.bl false) H := rfl
theorem o_isB {i : Bool} : zIs (.bl i) .non H Q = Q (.bl false) H := rfl
theorem o_isR {i : Addr} : zIs (.ref i) .non H Q = Q (.bl false) H := rfl
theorem o_isBB {i j : Bool} : zIs (.bl i) (.bl j) H Q = Q (.bl (decide (i = j))) H := rfl
theorem o_isnN : zIsNot .non .non H Q = Q (.bl false) H := rfl
theorem o_isnI {i : Int} : zIsNot (.int i) .non H Q = Q (.bl true) H := rfl
theorem o_isnS {i : Str} : zIsNot (.str i) .non H Q = Q (.bl true) H := rfl
theorem o_isnB {i : Bool} : zIsNot (.bl i) .non H Q = Q (.bl true) H := rfl
theorem o_isnR {i : Addr} : zIsNot (.ref i) .non H Q = Q (.bl true) H := rfl
theorem o_isnBB {i j : Bool} : zIsNot (.bl i) (.bl j) H Q = Q (.bl (!decide (i = j))) H := rfl
/-! statements -/
variable {nx bk ct : L2.St → Hp → Prop}
theorem x_seq (q : t ⟨u ⟨nx, Q, bk, ct⟩, Q, bk, ct⟩ σ H) : tSeq t u ⟨nx, Q, bk, ct⟩ σ H := q
theorem x_asg (q : te σ H fun x H1 => g x σ H1 nx) : tAsg te g ⟨nx, Q, bk, ct⟩ σ H := q
theorem x_ret (q : te σ H Q) : tRet te ⟨nx, Q, bk, ct⟩ σ H := q
theorem x_retN (q : Q .non H) : tRetN ⟨nx, Q, bk, ct⟩ σ H := q
theorem x_drop (q : te σ H fun _ H1 => nx σ H1) : tDrop te ⟨nx, Q, bk, ct⟩ σ H := q
theorem x_if (q : c σ H fun b H1 => if b = true then t ⟨nx, Q, bk, ct⟩ σ H1 else u ⟨nx, Q, bk, ct⟩ σ H1) : tIfS c t u ⟨nx, Q, bk, ct⟩ σ H := q
theorem x_next (q : nx σ H) : tNext ⟨nx, Q, bk, ct⟩ σ H := q
theorem x_brk (q : bk σ H) : tBreak ⟨nx, Q, bk, ct⟩ σ H := q
theorem x_cont (q : ct σ H) : tCont ⟨nx, Q, bk, ct⟩ σ H := q
theorem x_for {wi : TI} (q : wi σ H fun J H1 => ∃ W : Nat → Nat → L2.St → Hp → Prop, (∃ m, W 0 m σ H1) ∧ ∀ i m σ H, W i m σ H →
    (J.stop i H ∧ nx σ H) ∨ (J.go i H ∧ ∃ N : L2.St → Hp → Prop, (∀ σ' H', N σ' H' → ∃ m', m' < m ∧ W (i + 1) m' σ' H') ∧ ∀ x H', J.yld i H x H' → g x σ H' fun σ2 H2 => t ⟨N, Q, nx, N⟩ σ2 H2)) : tFor wi g t ⟨nx, Q, bk, ct⟩ σ H := q
variable {QI : It → Hp → Prop}
theorem e_iR1 : iRng1 tA σ H QI = tA σ H fun vs H1 => ∃ j : Int, vs = [.int j] ∧ -(2 ^ 62) ≤ j ∧ j < 2 ^ 62 ∧ QI (Itr 0 j.toNat) H1 := rfl
theorem e_intL {i : Int} {P : Int → Prop} : (∃ k, [V.int i] = [V.int k] ∧ P k) = P i := propext ⟨fun ⟨k, e, p⟩ => by cases e; exact p, fun p => ⟨i, rfl, p⟩⟩
theorem e_iL : iList K te σ H QI = te σ H fun x H1 => ∃ a, x = .ref a ∧ (∃ xs, SqL K H1 a xs) ∧ QI (Itl K a) H1 := rfl
theorem e_iT : iTup K te σ H QI = te σ H fun x H1 => ∃ a, x = .ref a ∧ (∃ xs, SqT K H1 a xs) ∧ QI (Itt K a) H1 := rfl
theorem e_iS : iStr te σ H QI = te σ H fun v H1 => ∃ x, v = .str x ∧ QI (Its x) H1 := rfl
theorem e_ref {a : Addr} {P : Addr → Prop} : (∃ a', V.ref a = .ref a' ∧ P a') = P a := propext ⟨fun ⟨k, e, p⟩ => by cases e; exact p, fun p => ⟨a, rfl, p⟩⟩
theorem e_strx {a : Str} {P : Str → Prop} : (∃ a', V.str a = .str a' ∧ P a') = P a := propext ⟨fun ⟨k, e, p⟩ => by cases e; exact p, fun p => ⟨a, rfl, p⟩⟩
/-- for over range(n), behind the count -/
theorem x_range {n : Nat} (Pv : Nat → L2.St → Hp → Prop) (h0 : Pv 0 σ H)
    (hs : ∀ (i : Nat) σ' H', i < n → Pv i σ' H' → g (.int (i : Int)) σ' H' fun σ2 H2 => t ⟨Pv (i + 1), Q, nx, Pv (i + 1)⟩ σ2 H2) (hd : ∀ σ' H', Pv n σ' H' → nx σ' H') :
    ∃ W : Nat → Nat → L2.St → Hp → Prop, (∃ m, W 0 m σ H) ∧ ∀ i m σ H, W i m σ H →
    ((Itr 0 n).stop i H ∧ nx σ H) ∨ ((Itr 0 n).go i H ∧ ∃ N : L2.St → Hp → Prop, (∀ σ' H', N σ' H' → ∃ m', m' < m ∧ W (i + 1) m' σ' H') ∧ ∀ x H', (Itr 0 n).yld i H x H' → g x σ H' fun σ2 H2 => t ⟨N, Q, nx, N⟩ σ2 H2) :=
  for_range (lo := 0) (n := n) (D := ⟨nx, Q, nx, nx⟩) Pv h0 (fun i σ' H' hi p => by
    have e0 : (0 : Int) + (i : Int) = (i : Int) := Int.zero_add _
    rw [e0]
    exact hs i σ' H' hi p) hd
theorem x_list {a : Addr} {xs : List V} (Pv : Nat → L2.St → Hp → Prop) (h0 : Pv 0 σ H) (hl : ∀ i σ H, i ≤ xs.length → Pv i σ H → SqL K H a xs)
    (hs : ∀ (i : Nat) x σ' H', xs[i]? = some x → Pv i σ' H' → g x σ' H' fun σ2 H2 => t ⟨Pv (i + 1), Q, nx, Pv (i + 1)⟩ σ2 H2) (hd : ∀ σ' H', Pv xs.length σ' H' → nx σ' H') :
    ∃ W : Nat → Nat → L2.St → Hp → Prop, (∃ m, W 0 m σ H) ∧ ∀ i m σ H, W i m σ H →
    ((Itl K a).stop i H ∧ nx σ H) ∨ ((Itl K a).go i H ∧ ∃ N : L2.St → Hp → Prop, (∀ σ' H', N σ' H' → ∃ m', m' < m ∧ W (i + 1) m' σ' H') ∧ ∀ x H', (Itl K a).yld i H x H' → g x σ H' fun σ2 H2 => t ⟨N, Q, nx, N⟩ σ2 H2) :=
  for_list (D := ⟨nx, Q, nx, nx⟩) Pv h0 hl hs hd
theorem x_tuple {a : Addr} {xs : List V} (Pv : Nat → L2.St → Hp → Prop) (h0 : Pv 0 σ H) (hl : ∀ i σ H, i ≤ xs.length → Pv i σ H → SqT K H a xs)
    (hs : ∀ (i : Nat) x σ' H', xs[i]? = some x → Pv i σ' H' → g x σ' H' fun σ2 H2 => t ⟨Pv (i + 1), Q, nx, Pv (i + 1)⟩ σ2 H2) (hd : ∀ σ' H', Pv xs.length σ' H' → nx σ' H') :
    ∃ W : Nat → Nat → L2.St → Hp → Prop, (∃ m, W 0 m σ H) ∧ ∀ i m σ H, W i m σ H →
    ((Itt K a).stop i H ∧ nx σ H) ∨ ((Itt K a).go i H ∧ ∃ N : L2.St → Hp → Prop, (∀ σ' H', N σ' H' → ∃ m', m' < m ∧ W (i + 1) m' σ' H') ∧ ∀ x H', (Itt K a).yld i H x H' → g x σ H' fun σ2 H2 => t ⟨N, Q, nx, N⟩ σ2 H2) :=
  for_tup (D := ⟨nx, Q, nx, nx⟩) Pv h0 hl hs hd
/-! items, slices, len, in -/
theorem x_ixL {p : Addr} {xs : List V} {i : Int} (h : SqL K H p xs) (a : atI xs i = some v) (q : Q v H) : zIx K (.ref p) (.int i) H Q := .inl (.inl ⟨p, xs, i, v, rfl, rfl, h, a, q⟩)
theorem x_ixT {p : Addr} {xs : List V} {i : Int} (h : SqT K H p xs) (a : atI xs i = some v) (q : Q v H) : zIx K (.ref p) (.int i) H Q := .inl (.inr (.inl ⟨p, xs, i, v, rfl, rfl, h, a, q⟩))
theorem x_ixS {z : Str} {i : Int} {c : Nat} (h : z.length ≤ sizeLine) (a : atI z.cps.toList i = some c) (q : Q (.str ⟨#[c]⟩) H) : zIx K (.str z) (.int i) H Q := .inl (.inr (.inr ⟨z, i, c, rfl, rfl, h, a, q⟩))
theorem x_ixD {p : Addr} (h : DGet H p y (some v)) (q : Q v H) : zIx K (.ref p) y H Q := .inr ⟨p, v, rfl, h, q⟩
theorem x_slL {p : Addr} {xs : List V} {lo hi : Option Int} (h : SqL K H p xs) (q : ∀ p, H p = none → Q (.ref p) (upd H p (.lst (cutV xs lo hi)))) : zSl K (.ref p) lo hi H Q := .inl ⟨p, xs, rfl, h, q⟩
theorem x_slS {z : Str} {lo hi : Option Int} (h : z.length ≤ sizeLine) (q : Q (.str (cutS z lo hi)) H) : zSl K (.str z) lo hi H Q := .inr (.inr ⟨z, rfl, h, q⟩)
theorem x_lenL {p : Addr} {xs : List V} (h : SqL K H p xs) (q : Q (.int (xs.length : Int)) H) : zLen K [.ref p] H Q := .inl ⟨_, _, rfl, .inl ⟨xs, h, rfl⟩, q⟩
theorem x_lenT {p : Addr} {xs : List V} (h : SqT K H p xs) (q : Q (.int (xs.length : Int)) H) : zLen K [.ref p] H Q := .inl ⟨_, _, rfl, .inr ⟨xs, h, rfl⟩, q⟩
theorem x_lenS {z : Str} (h : z.length ≤ sizeLine) (q : Q (.int (z.length : Int)) H) : zLen K [.str z] H Q := .inl ⟨_, _, rfl, ⟨h, rfl⟩, q⟩
theorem x_lenD {p : Addr} {kvs : List (Key × V)} (h : H p = some (.dK kvs)) (q : Q (.int (kvs.length : Int)) H) : zLen K [.ref p] H Q := .inr ⟨_, _, rfl, h, q⟩
theorem x_app {p : Addr} {xs : List V} (h : H p = some (.lst xs)) (l : xs.length < sizeLine) (q : Q .non (upd H p (.lst (xs ++ [v])))) : tyV K "list" (.ref p) H ∧ rAppend (.ref p) [v] H Q := ⟨.inl ⟨rfl, xs, SqL.of h⟩, p, xs, v, rfl, rfl, h, l, q⟩
theorem x_appT {p : Addr} {xs : List V} (h : H p = some (.lst xs)) : tyV K "list" (.ref p) H := .inl ⟨rfl, xs, SqL.of h⟩
theorem x_addL {a b : Addr} {xs ys : List V} (h1 : H a = some (.lst xs)) (h2 : H b = some (.lst ys)) (h : xs.length + ys.length ≤ sizeLine) (q : ∀ p, H p = none → Q (.ref p) (upd H p (.lst (xs ++ ys)))) : zAdd K (.ref a) (.ref b) H Q :=
  .inl ⟨a, b, xs, ys, rfl, rfl, h1, h2, h, q⟩
theorem x_eqD {G : Hp} {d e : PyData} {a b : Addr} (s : Same G H) (h1 : Rp K G (.ref a) d) (h2 : Rp K G (.ref b) e) (s1 : SeqAt.shaped d = true) (s2 : SeqAt.shaped e = true) (q : Q (.bl (PyData.eqv d e)) H) : zEq K (.ref a) (.ref b) H Q :=
  ⟨d, e, (h1.up s).dp, (h2.up s).dp, s1, s2, q⟩
theorem x_neD {G : Hp} {d e : PyData} {a b : Addr} (s : Same G H) (h1 : Rp K G (.ref a) d) (h2 : Rp K G (.ref b) e) (s1 : SeqAt.shaped d = true) (s2 : SeqAt.shaped e = true) (q : Q (.bl (!PyData.eqv d e)) H) : zNe K (.ref a) (.ref b) H Q :=
  ⟨d, e, (h1.up s).dp, (h2.up s).dp, s1, s2, q⟩
theorem x_memS {c : Nat} {z : Str} (q : Q (.bl (decide (c ∈ z.cps.toList))) H) : zIn K (.str ⟨#[c]⟩) (.str z) H Q := .inl (.inl ⟨c, z, rfl, rfl, q⟩)
theorem x_nmemS {c : Nat} {z : Str} (q : Q (.bl (!decide (c ∈ z.cps.toList))) H) : zNotIn K (.str ⟨#[c]⟩) (.str z) H Q := .inl (.inl ⟨c, z, rfl, rfl, q⟩)
theorem x_memT {p : Addr} {xs : List V} (h : SqT K H p xs) (f : flatV x = true) (fs : xs.all flatV = true) (q : Q (.bl (inV x xs)) H) : zIn K x (.ref p) H Q := .inl (.inr ⟨p, xs, rfl, .inr h, f, fs, q⟩)
theorem x_memL {p : Addr} {xs : List V} (h : SqL K H p xs) (f : flatV x = true) (fs : xs.all flatV = true) (q : Q (.bl (inV x xs)) H) : zIn K x (.ref p) H Q := .inl (.inr ⟨p, xs, rfl, .inl h, f, fs, q⟩)
theorem x_nmemT {p : Addr} {xs : List V} (h : SqT K H p xs) (f : flatV x = true) (fs : xs.all flatV = true) (q : Q (.bl (!inV x xs)) H) : zNotIn K x (.ref p) H Q := .inl (.inr ⟨p, xs, rfl, .inr h, f, fs, q⟩)
theorem x_nmemL {p : Addr} {xs : List V} (h : SqL K H p xs) (f : flatV x = true) (fs : xs.all flatV = true) (q : Q (.bl (!inV x xs)) H) : zNotIn K x (.ref p) H Q := .inl (.inr ⟨p, xs, rfl, .inl h, f, fs, q⟩)
/-! ifs -/
theorem x_br {p : Prop} {_ : Decidable p} {A B : Prop} (h1 : p → A) (h2 : ¬ p → B) : if decide p = true then A else B := by
  by_cases h : p
  · rw [decide_eq_true h, if_pos rfl]; exact h1 h
  · rw [decide_eq_false h, if_neg (by decide)]; exact h2 h
theorem x_nbr {p : Prop} {_ : Decidable p} {A B : Prop} (h1 : ¬ p → A) (h2 : p → B) : if (!decide p) = true then A else B := by
  by_cases h : p
  · rw [decide_eq_true h]; exact h2 h
  · rw [decide_eq_false h]; exact h1 h
theorem x_brB {b : Bool} {A B : Prop} (h1 : b = true → A) (h2 : b = false → B) : if b = true then A else B := by
  cases b with
  | true => exact h1 rfl
  | false => exact h2 rfl
theorem e_yes {A B : Prop} : (if true = true then A else B) = A := if_pos rfl
theorem e_yesT {A B : Prop} : (if True then A else B) = A := if_pos True.intro
theorem e_noF {A B : Prop} : (if False then A else B) = B := if_neg (fun h => h)
theorem e_no {A B : Prop} : (if false = true then A else B) = B := if_neg (by decide)
theorem cdiv {i j : Int} (h : 0 < j) (h2 : j.natAbs < 2 ^ 64) : CDivW i j := wide_div h h2 (by decide) (by decide)
theorem cmul {i j : Int} (h1 : i.natAbs < 2 ^ 64) (h2 : j.natAbs < 2 ^ 64) : CMulB i j := by
  have a := PySem.Flt.log2_lt_of (by decide : 0 < 64) h1
  have b := PySem.Flt.log2_lt_of (by decide : 0 < 64) h2
  unfold CMulB
  omega
end
end Z
/-! Zc: fields; calls of own defs, methods and classes where what is raised is wished for at the caller's slots. -/
namespace Z
open PySem PySem.Spec PyProof.Rows L2
abbrev WD (E : XK) : WX := fun cls d _ H => E cls d H
abbrev W0 : WX := fun _ _ _ _ => False
/-- where an instance of one of the classes stands -/
structure FldOk (K : PySem.W.Frag) (Cs : List Addr) (f : Str) : Prop where
  cl : ∀ C ∈ Cs, Cls K C
  no : ∀ C ∈ Cs, NoAttr K C f
theorem FldOk.nil {K : PySem.W.Frag} {f : Str} : FldOk K [] f := ⟨(fun c h => nomatch h), (fun c h => nomatch h)⟩
theorem FldOk.cons {K : PySem.W.Frag} {C : Addr} {Cs : List Addr} {f : Str} (h1 : Cls K C) (h2 : NoAttr K C f) (r : FldOk K Cs f) : FldOk K (C :: Cs) f :=
  ⟨fun c h => (List.mem_cons.mp h).elim (fun e => by rw [e]; exact h1) (r.cl c), fun c h => (List.mem_cons.mp h).elim (fun e => by rw [e]; exact h2) (r.no c)⟩
def zFldV (Cs : List Addr) (f : Str) (x : V) (H1 : Hp) (Q : VK) : Prop := ∃ a C dx fs v, x = .ref a ∧ C ∈ Cs ∧ H1 a = some (.ins C dx fs) ∧ fs.lookup f = some v ∧ Q v H1
def zFld (Cs : List Addr) (f : Str) (ta : TE) : TE := fun σ H Q => ta σ H fun x H1 => zFldV Cs f x H1 Q
def zSetF (Cs : List Addr) (f : Str) (ta tv : TE) : TS := fun D σ H => tv σ H fun y H1 => ta σ H1 fun x H2 => ∃ a C dx fs, x = .ref a ∧ C ∈ Cs ∧ H2 a = some (.ins C dx fs) ∧ fs.length < 1000 ∧ D.nx σ (upd H2 a (.ins C dx (putF f y fs)))
def zAugF (Cs : List Addr) (f : Str) (rd : V → V → Hp → VK → Prop) (ta tv : TE) : TS := fun D σ H => ta σ H fun x H1 => ∃ a C dx fs v, x = .ref a ∧ C ∈ Cs ∧ H1 a = some (.ins C dx fs) ∧ fs.lookup f = some v ∧
  tv σ H1 fun y H2 => rd v y H2 fun z H3 => ∃ dx' fs', H3 a = some (.ins C dx' fs') ∧ fs'.length < 1000 ∧ D.nx σ (upd H3 a (.ins C dx' (putF f z fs')))
def zMethV (C : Addr) (m : Str) (x : V) (H1 : Hp) (P : Prop) : Prop := ∃ a dx fs, x = .ref a ∧ H1 a = some (.ins C dx fs) ∧ fs.lookup m = none ∧ P
def zMeth (C : Addr) (m : Str) (sp : Sp) (E : L2.St → XK) (ta : TE) (t : TA) : TE := fun σ H Q => ta σ H fun x H1 => zMethV C m x H1 (t σ H1 fun vs H2 => sp (x :: vs) H2 Q (E σ))
def zMake (C : Addr) (sp : Sp) (E : L2.St → XK) (t : TA) : TE := fun σ H Q => t σ H fun vs H1 => ∀ x dx, H1 x = none → H1 dx = none → dx ≠ x →
  sp (.ref x :: vs) (upd (upd H1 dx (.own x)) x (.ins C dx [])) (fun v H2 => v = .non ∧ Q (.ref x) H2) (E σ)
section
variable {X : Cx} {k : Nat} {f C : Addr} {fd : FuncData} {ps : List Str} {sp : Sp} {W : WX} {x m n : Str} {p pos apos pos' tpos : Pos} {e o value : Expr} {es : List Expr} {ta tv te : TE} {t : TA} {Cs : List Addr}
theorem PE.or {e : Expr} {t1 t2 : TE} (h1 : PE X e t1) (h2 : PE X e t2) : PE X e (fun σ H Q => t1 σ H Q ∨ t2 σ H Q) := ⟨fun pins s σ H Q I q => q.elim (h1.run pins s σ H Q I) (h2.run pins s σ H Q I)⟩
theorem pe_fldZ (h : FldOk X.K Cs n) (he : PE X e ta) (hb : attributeBase e n X.env (eval e X.env) = eval e X.env := by rfl) : PE X (.Attribute e n pos) (zFld Cs n ta) := by
  refine ⟨fun pins s σ H Q I q => ?_⟩
  refine attr_of hb (thn (he.run pins s σ H _ I q) fun u s1 ⟨x, H1, I1, rx, a, C, dx, fs, v, ex, hc, ea, l, q⟩ => ?_)
  subst ex
  obtain rfl : u = Value.ref a := rx
  exact getattr_ok I1 ea (h.cl C hc) (h.no C hc) l fun u' s2 I2 ru => ⟨v, H1, I2, ru, q⟩
theorem ps_fldZ (h : FldOk X.K Cs n) (ha : PE X o ta) (hv : PE X value tv) (hs : swapsWith value (some (.Attribute o n pos')) pos.line X.env = pure false := by rfl) : PS X (.Assign [.Attribute o n pos'] value pos) (zSetF Cs n ta tv) := by
  refine ⟨fun pins s σ H D I q => ?_⟩
  refine plainObj_wpAny_Assign_Attribute (thn (hv.run pins s σ H _ I q) fun u s1 ⟨y, H1, I1, ry, q⟩ => thn (ha.run pins s1 σ H1 _ I1 q) fun ov s2 ⟨x, H2, I2, rx, a, C, dx, fs, ex, hc, ea, l, q2⟩ => ?_) hs
  subst ex
  obtain rfl : ov = Value.ref a := rx
  exact setattr_ok I2 ea (h.cl C hc) (h.no C hc) l ry fun s3 I3 => ⟨σ, _, I3, q2⟩
theorem ps_augZ {op : Operator} {rd : V → V → Hp → VK → Prop} (h : FldOk X.K Cs n) (hop : InOp X op rd) (ha : PE X o ta) (hv : PE X value tv) : PS X (.AugAssign (.Attribute o n tpos) op value pos) (zAugF Cs n rd ta tv) := by
  refine ⟨fun pins s σ H D I q => ?_⟩
  refine wpAny_AugAssign_AttributeAny (thn (ha.run pins s σ H _ I q) fun ov s1 ⟨x, H1, I1, rx, a, C, dx, fs, v, ex, hc, ea, l, q⟩ => ?_)
  subst ex
  obtain rfl : ov = Value.ref a := rx
  refine getattr_ok I1 ea (h.cl C hc) (h.no C hc) l fun u s2 I2 ru => thn (hv.run pins s2 σ H1 _ I2 q) fun w3 s3 ⟨y, H2, I3, ry, q3⟩ => thn (hop pins s3 σ H2 v y u w3 _ I3 ru ry q3) fun w4 s4 ⟨z, H3, I4, rz, dx', fs', ea', l', q4⟩ => ?_
  exact setattr_ok I4 ea' (h.cl C hc) (h.no C hc) l' rz fun s5 I5 => ⟨σ, _, I5, q4⟩
theorem pe_call0S {E : L2.St → XK} (F : FnOk X.prog X.w X.K X.mg X.base (L2.CX X.prog X.w) k f fd ps sp) (hr : Room k X.A) (hg : Gl X x) (hm : X.mg x = some (.ref f)) (hk : PySem.W.keepIn X.K (.ref f) = true) (hb : Binds X.K fd ps []) (hx : ∀ σ, PassesAt (L2.CX X.prog X.w) X σ (E σ))
    (hdb : (x == ("__debug__" : Str)) = false := by decide) : PE X (.Call (.Name x p) [] [] pos) (tCallS sp E tNil) := by
  refine ⟨fun pins s σ H Q I h => ?_⟩
  refine wpAny_Call_Name_kw (ld_glob I hg hm ?_ hdb)
  exact PySem.W.callWith_K0 I.kIn hk (run_fnS (us := []) F hr hb (hx σ) I .nil h)
theorem pe_methS {pl : Sem Bool} {E : L2.St → XK} (he : PE X o ta) (c : Cls X.K C) (hm : Meth X.K C m f) (F : FnOk X.prog X.w X.K X.mg X.base (L2.CX X.prog X.w) k f fd ps sp) (hr : Room k X.A) (hb : Binds X.K fd ps []) (hx : ∀ σ, PassesAt (L2.CX X.prog X.w) X σ (E σ)) (ha : PA X (e :: es) t)
    (hst : starEach (e :: es) X.env = (false, eval e X.env) :: starEach es X.env := by rfl) (hpl : (backTo pos (starEach es X.env)).any (·.1) = false := by rfl)
    (ht : eval (.Call (.Attribute o m apos) (e :: es) [] pos) X.env = (do
      let ov ← eval o X.env
      standAt apos.atName
      let (f, first) ← holding [ov] (getMethod ov m pl)
      callWith pos f first (backTo pos (starEach (e :: es) X.env)) (backToKw pos (keywordEach [] X.env))) := by rfl) :
    PE X (.Call (.Attribute o m apos) (e :: es) [] pos) (zMeth C m sp E ta t) := by
  refine ⟨fun pins s σ H Q I h => ?_⟩
  refine PySem.W.methodCall_KW (pl := pl) (thn (he.run pins s σ H _ I h) fun u s1 ⟨x, H1, I1, rx, a, dx, fs, ex, ea, l, q⟩ => ?_) ht
  subst ex
  obtain rfl : u = Value.ref a := rx
  refine getmeth_ok I1 ea c hm l ?_
  refine PySem.W.callWith_K (first := [.ref a]) (h₀ := X.base) I.ok.mod.kin hm.kp (thn (ha.run pos pins s1 σ H1 _ I1 q) fun us s2 ⟨vs, H2, I2, r, q2⟩ => ⟨I2.kIn, ?_⟩) hst hpl
  exact run_fnS (us := .ref a :: us) (vs := .ref a :: vs) F hr hb (hx σ) I2 (.cons rfl r) q2
theorem pe_meth0S {pl : Sem Bool} {E : L2.St → XK} (he : PE X o ta) (c : Cls X.K C) (hm : Meth X.K C m f) (F : FnOk X.prog X.w X.K X.mg X.base (L2.CX X.prog X.w) k f fd ps sp) (hr : Room k X.A) (hb : Binds X.K fd ps []) (hx : ∀ σ, PassesAt (L2.CX X.prog X.w) X σ (E σ))
    (ht : eval (.Call (.Attribute o m apos) [] [] pos) X.env = (do
      let ov ← eval o X.env
      standAt apos.atName
      let (f, first) ← holding [ov] (getMethod ov m pl)
      callWith pos f first (backTo pos (starEach [] X.env)) (backToKw pos (keywordEach [] X.env))) := by rfl) :
    PE X (.Call (.Attribute o m apos) [] [] pos) (zMeth C m sp E ta tNil) := by
  refine ⟨fun pins s σ H Q I h => ?_⟩
  refine PySem.W.methodCall_KW (pl := pl) (thn (he.run pins s σ H _ I h) fun u s1 ⟨x, H1, I1, rx, a, dx, fs, ex, ea, l, q⟩ => ?_) ht
  subst ex
  obtain rfl : u = Value.ref a := rx
  refine getmeth_ok I1 ea c hm l ?_
  exact PySem.W.callWith_K0 (first := [.ref a]) I1.kIn hm.kp (run_fnS (us := [.ref a]) (vs := [.ref a]) F hr hb (hx σ) I1 (.cons rfl .nil) q)
theorem run_makeS {E : XK} {pins : List (Addr × Obj)} {σ : L2.St} {H : Hp} {s : Shared} {Q : VK} {us : List Value} {vs : List V} (M : Mk X.K C f) (F : FnOk X.prog X.w X.K X.mg X.base (L2.CX X.prog X.w) k f fd ps sp) (hr : Room (k + 1) X.A) (hb : Binds X.K fd ps [])
    (hx : ∀ (σ' : L2.St), σ' = σ → PassesAt (L2.CX X.prog X.w) X σ' E) (I : L2.Inv X pins σ H s) (r : Vals vs us)
    (h : ∀ x dx, H x = none → H dx = none → dx ≠ x → sp (.ref x :: vs) (upd (upd H dx (.own x)) x (.ins C dx [])) (fun v H2 => v = .non ∧ Q (.ref x) H2) E) :
    wpAny (model X.prog X.w) X.A (call (.ref C) us) (EP X pins σ Q) X.xe s := by
  have hq := h (s.heap.objs.size + 1) s.heap.objs.size (I.hok.fresh (Nat.le_succ _)) (I.hok.fresh (Nat.le_refl _)) (Nat.ne_of_lt (Nat.lt_succ_self _))
  have I2 := Inv.made (C := C) I
  have r2 : Vals (V.ref (s.heap.objs.size + 1) :: vs) (Value.ref (s.heap.objs.size + 1) :: us) := .cons rfl r
  have hl : (Value.ref (s.heap.objs.size + 1) :: us ++ []).length = ps.length := by
    have e := r2.length
    rw [F.len _ _ _ _ hq] at e
    rw [List.append_nil]
    exact e.symm
  have b := hb _ (Value.ref (s.heap.objs.size + 1) :: us) I2.kIn hl
  rw [List.append_nil] at b
  refine wpAny_call (make_map (f := f) I.kIn M.makes M.init (beq_iff_eq.mp M.fn) (codeAny_mono (F.run _ X.stack _ _ ⟨Value.ref (s.heap.objs.size + 1) :: us, []⟩ (Value.ref (s.heap.objs.size + 1) :: us) _ _ E (hr.make C us [])
    (I2.env0.make C us []) b r2 hq) fun r s' hq' => ?_))
  cases r with
  | error e => exact hx σ rfl pins _ _ e s' I2 hq'
  | ok fl =>
    cases fl with
    | ret u =>
      obtain ⟨v, H', I3, rv, ev, q3⟩ := I2.after hq'
      subst ev
      exact ⟨rv, ⟨V.ref (s.heap.objs.size + 1), H', I3, rfl, q3⟩⟩
    | next => exact False.elim hq'
    | brk => exact False.elim hq'
    | cont => exact False.elim hq'
theorem pe_makeS {E : L2.St → XK} (M : Mk X.K C f) (F : FnOk X.prog X.w X.K X.mg X.base (L2.CX X.prog X.w) k f fd ps sp) (hr : Room (k + 1) X.A) (hg : Gl X x) (hm : X.mg x = some (.ref C)) (hb : Binds X.K fd ps []) (hx : ∀ σ, PassesAt (L2.CX X.prog X.w) X σ (E σ))
    (ha : PA X (e :: es) t) (hdb : (x == ("__debug__" : Str)) = false := by decide) (he : starEach (e :: es) X.env = (false, eval e X.env) :: starEach es X.env := by rfl) (hpl : (backTo pos (starEach es X.env)).any (·.1) = false := by rfl) :
    PE X (.Call (.Name x p) (e :: es) [] pos) (zMake C sp E t) := by
  refine ⟨fun pins s σ H Q I h => ?_⟩
  refine wpAny_Call_Name_kw (ld_glob I hg hm ?_ hdb)
  refine PySem.W.callWith_K (h₀ := X.base) I.ok.mod.kin M.kp (thn (ha.run pos pins s σ H _ I h) fun us s1 ⟨vs, H1, I1, r, q⟩ => ⟨I1.kIn, ?_⟩) he hpl
  exact run_makeS M F hr hb (fun σ' e => by subst e; exact hx σ') I1 r q
theorem pe_make0S {E : L2.St → XK} (M : Mk X.K C f) (F : FnOk X.prog X.w X.K X.mg X.base (L2.CX X.prog X.w) k f fd ps sp) (hr : Room (k + 1) X.A) (hg : Gl X x) (hm : X.mg x = some (.ref C)) (hb : Binds X.K fd ps []) (hx : ∀ σ, PassesAt (L2.CX X.prog X.w) X σ (E σ))
    (hdb : (x == ("__debug__" : Str)) = false := by decide) : PE X (.Call (.Name x p) [] [] pos) (zMake C sp E tNil) := by
  refine ⟨fun pins s σ H Q I h => ?_⟩
  refine wpAny_Call_Name_kw (ld_glob I hg hm ?_ hdb)
  exact PySem.W.callWith_K0 I.kIn M.kp (run_makeS (us := []) M F hr hb (fun σ' e => by subst e; exact hx σ') I .nil h)
end
section
variable {σ : L2.St} {H : Hp} {Q : VK} {D : Ends} {v y : V} {ta tv te : TE} {t : TA} {Cs : List Addr} {f m : Str} {C dx a : Addr} {fs : List (Str × V)} {sp : Sp} {E : L2.St → XK}
theorem e_fld : zFld Cs f ta σ H Q = ta σ H fun x H1 => zFldV Cs f x H1 Q := rfl
theorem x_fld (hc : C ∈ Cs) (h : H a = some (.ins C dx fs)) (l : fs.lookup f = some v) (q : Q v H) : zFldV Cs f (.ref a) H Q := ⟨a, C, dx, fs, v, rfl, hc, h, l, q⟩
theorem x_setF0 {nx bk ct : L2.St → Hp → Prop} (q : tv σ H fun y H1 => ta σ H1 fun x H2 => ∃ a C dx fs, x = .ref a ∧ C ∈ Cs ∧ H2 a = some (.ins C dx fs) ∧ fs.length < 1000 ∧ nx σ (upd H2 a (.ins C dx (putF f y fs)))) : zSetF Cs f ta tv ⟨nx, Q, bk, ct⟩ σ H := q
theorem x_setF1 {P : Hp → Prop} {fs' : List (Str × V)} (hc : C ∈ Cs) (h : H a = some (.ins C dx fs)) (l : fs.length < 1000) (e : putF f y fs = fs') (q : P (upd H a (.ins C dx fs'))) : ∃ a' C dx fs, V.ref a = .ref a' ∧ C ∈ Cs ∧ H a' = some (.ins C dx fs) ∧ fs.length < 1000 ∧ P (upd H a' (.ins C dx (putF f y fs))) :=
  ⟨a, C, dx, fs, rfl, hc, h, l, by rw [e]; exact q⟩
theorem e_meth : zMeth C m sp E ta t σ H Q = ta σ H fun x H1 => zMethV C m x H1 (t σ H1 fun vs H2 => sp (x :: vs) H2 Q (E σ)) := rfl
theorem x_meth {P : Prop} (h : H a = some (.ins C dx fs)) (l : fs.lookup m = none) (q : P) : zMethV C m (.ref a) H P := ⟨a, dx, fs, rfl, h, l, q⟩
theorem e_make : zMake C sp E t σ H Q = t σ H fun vs H1 => ∀ x dx, H1 x = none → H1 dx = none → dx ≠ x → sp (.ref x :: vs) (upd (upd H1 dx (.own x)) x (.ins C dx [])) (fun v H2 => v = .non ∧ Q (.ref x) H2) (E σ) := rfl
theorem x_make (q : t σ H fun vs H1 => ∀ x dx, H1 x = none → H1 dx = none → dx ≠ x → sp (.ref x :: vs) (upd (upd H1 dx (.own x)) x (.ins C dx [])) (fun v H2 => v = .non ∧ Q (.ref x) H2) (E σ)) : zMake C sp E t σ H Q := q
end
end Z
/-! Zb: built-ins by name; what is walked; stores; raise and try. -/
namespace Z
open PySem PySem.Spec PyProof.Rows L2
theorem zb_len : bootBuiltins "len" = some (.builtin "len") := by decide +kernel
theorem zb_int : bootBuiltins "int" = some (.type "int") := by decide +kernel
theorem zb_str : bootBuiltins "str" = some (.type "str") := by decide +kernel
theorem zb_bool : bootBuiltins "bool" = some (.type "bool") := by decide +kernel
theorem zb_list : bootBuiltins "list" = some (.type "list") := by decide +kernel
theorem zb_tuple : bootBuiltins "tuple" = some (.type "tuple") := by decide +kernel
theorem zb_dict : bootBuiltins "dict" = some (.type "dict") := by decide +kernel
theorem zb_all : bootBuiltins "all" = some (.builtin "all") := by decide +kernel
theorem zb_any : bootBuiltins "any" = some (.builtin "any") := by decide +kernel
theorem zb_sum : bootBuiltins "sum" = some (.builtin "sum") := by decide +kernel
theorem zb_abs : bootBuiltins "abs" = some (.builtin "abs") := by decide +kernel
theorem zb_min : bootBuiltins "min" = some (.builtin "min") := by decide +kernel
theorem zb_max : bootBuiltins "max" = some (.builtin "max") := by decide +kernel
theorem zb_sorted : bootBuiltins "sorted" = some (.builtin "sorted") := by decide +kernel
theorem zb_isinstance : bootBuiltins "isinstance" = some (.builtin "isinstance") := by decide +kernel
section
variable {X : Cx}
def zInt : List V → Hp → VK → Prop := fun xs H Q => match xs with
  | [.int i] => Q (.int i) H
  | [.bl k] => Q (.int (if k then 1 else 0)) H
  | [.str a] => ∃ n, PySem.intText? a = some n ∧ a.length ≤ 640 ∧ Q (.int n) H
  | _ => False
theorem cr_int : CallR X (.type "int") zInt := by
  intro pins s σ H xs us Q I r h
  match xs, h with
  | [.int i], h => exact call_int1 pins s σ H _ us Q I r (.inl ⟨i, rfl, h⟩)
  | [.bl i], h => exact call_int1 pins s σ H _ us Q I r (.inr ⟨i, rfl, h⟩)
  | [.str a], ⟨n, h1, h2, h⟩ => exact call_int_str pins s σ H _ us Q I r ⟨a, n, rfl, h1, h2, h⟩
def zStr : List V → Hp → VK → Prop := fun xs H Q => match xs with
  | [.int i] => i.natAbs.log2 < 1920 ∧ Q (.str (toString i)) H
  | _ => False
theorem cr_str : CallR X (.type "str") zStr := by
  intro pins s σ H xs us Q I r h
  match xs, h with
  | [.int i], h => exact call_str_int pins s σ H _ us Q I r ⟨i, rfl, h.1, h.2⟩
def zList (K : PySem.W.Frag) : List V → Hp → VK → Prop := fun xs H Q => ∃ p ys, xs = [.ref p] ∧ (SqL K H p ys ∨ SqT K H p ys) ∧ ∀ l, H l = none → Q (.ref l) (upd H l (.lst ys))
theorem cr_list : CallR X (.type "list") (zList X.K) := call_list_of
def zTuple (K : PySem.W.Frag) : List V → Hp → VK → Prop := fun xs H Q => ∃ p ys, xs = [.ref p] ∧ ((SqL K H p ys ∧ ∀ l, H l = none → Q (.ref l) (upd H l (.tup ys))) ∨ (SqT K H p ys ∧ Q (.ref p) H))
theorem cr_tuple : CallR X (.type "tuple") (zTuple X.K) := call_tuple_of
def zAbs : List V → Hp → VK → Prop := fun xs H Q => ∃ i, xs = [.int i] ∧ Q (.int (if i < 0 then -i else i)) H
def zMin2 : List V → Hp → VK → Prop := fun xs H Q => ∃ i j, xs = [.int i, .int j] ∧ Q (.int (if j < i then j else i)) H
def zMax2 : List V → Hp → VK → Prop := fun xs H Q => ∃ i j, xs = [.int i, .int j] ∧ Q (.int (if j > i then j else i)) H
theorem cr_min2 (hc : X.calm = true) : CallR X (.builtin "min") zMin2 := call_min2 hc
theorem cr_max2 (hc : X.calm = true) : CallR X (.builtin "max") zMax2 := call_max2 hc
/-- isinstance(x, T), T a built-in type written so -/
def zIsi (K : PySem.W.Frag) : List V → Hp → VK → Prop := fun xs H Q => match xs with
  | [.non, .ty n] => ∃ b, kitB "NoneType" n = some b ∧ Q (.bl b) H
  | [.bl _, .ty n] => ∃ b, kitB "bool" n = some b ∧ Q (.bl b) H
  | [.int _, .ty n] => ∃ b, kitB "int" n = some b ∧ Q (.bl b) H
  | [.str _, .ty n] => ∃ b, kitB "str" n = some b ∧ Q (.bl b) H
  | [.ref a, .ty n] => ∃ T b, TyX K H (.ref a) (.type T) ∧ kitB T n = some b ∧ Q (.bl b) H
  | _ => False
theorem cr_isi : CallR X (.builtin "isinstance") (zIsi X.K) := by
  intro pins s σ H xs us Q I r h
  match xs, h with
  | [.non, .ty n], ⟨b, e, q⟩ => exact call_isi pins s σ H _ us Q I r ⟨_, _, _, _, b, rfl, .ty n, .base .non, kit_ty e, q⟩
  | [.bl x, .ty n], ⟨b, e, q⟩ => exact call_isi pins s σ H _ us Q I r ⟨_, _, _, _, b, rfl, .ty n, .base (.bl x), kit_ty e, q⟩
  | [.int x, .ty n], ⟨b, e, q⟩ => exact call_isi pins s σ H _ us Q I r ⟨_, _, _, _, b, rfl, .ty n, .base (.int x), kit_ty e, q⟩
  | [.str x, .ty n], ⟨b, e, q⟩ => exact call_isi pins s σ H _ us Q I r ⟨_, _, _, _, b, rfl, .ty n, .base (.str x), kit_ty e, q⟩
  | [.ref a, .ty n], ⟨T, b, ty, e, q⟩ => exact call_isi pins s σ H _ us Q I r ⟨_, _, _, _, b, rfl, .ty n, ty, kit_ty e, q⟩
/-! what is walked -/
theorem PI.or {tg e : Expr} {w1 w2 : TI} (h1 : PI X tg e w1) (h2 : PI X tg e w2) : PI X tg e (fun σ H R => w1 σ H R ∨ w2 σ H R) := ⟨fun pins s σ H R I q => q.elim (h1.run pins s σ H R I) (h2.run pins s σ H R I)⟩
def iSeq (K : PySem.W.Frag) (te : TE) : TI := fun σ H R => iList K te σ H R ∨ iTup K te σ H R
theorem pi_seq {tg e : Expr} {te : TE} (h : PE X e te) : PI X tg e (iSeq X.K te) := PI.or (pi_list h) (pi_tup h)
theorem PSet.or {t1 t2 : TSet} (h1 : PSet X t1) (h2 : PSet X t2) : PSet X (fun o i v H Q => t1 o i v H Q ∨ t2 o i v H Q) := fun pins s σ H o i v ov iv u Q I r1 r2 r3 q =>
  q.elim (h1 pins s σ H o i v ov iv u Q I r1 r2 r3) (h2 pins s σ H o i v ov iv u Q I r1 r2 r3)
def zSet : TSet := fun o i v H Q => rSetL o i v H Q ∨ rSetD o i v H Q
theorem set_z (hu : X.A.units + 1 < cLine) : PSet X zSet := PSet.or set_list (set_dict hu)
/-! raise, try -/
def zRaise (C : Addr) (W : WX) (t : TA) : TS := fun _ σ H => t σ H fun vs H1 => vs.length ≤ sizeLine ∧ W (.ref C) none σ H1
def zTry (K : PySem.W.Frag) (tb : WX → TS) (Wout : WX) (l : List (Value × (Addr → Value → Option Addr → TS))) : TS := fun D σ H => tb (wMany K Wout D l) D σ H
def zJoined (ts : List TE) : TE := fun σ H Q => tJs ts Str.empty σ H fun out H1 => Q (.str out) H1
theorem pj_nil : PJ X [] [] := .nil
theorem pj_cons {e : Expr} {t : TE} {es : List Expr} {ts : List TE} (h : PE X e t) (r : PJ X es ts) : PJ X (e :: es) (t :: ts) := .cons h r
end
/-! readings -/
section
variable {K : PySem.W.Frag} {σ : L2.St} {H : Hp} {Q : VK} {QT : Str → Hp → Prop} {D : Ends} {v : V} {te : TE} {t : TA} {C : Addr} {W : WX} {ts : List TE} {acc : Str}
theorem o_intI {i : Int} : zInt [.int i] H Q = Q (.int i) H := rfl
theorem o_intB {b : Bool} : zInt [.bl b] H Q = Q (.int (if b then 1 else 0)) H := rfl
theorem o_str {i : Int} : zStr [.int i] H Q = (i.natAbs.log2 < 1920 ∧ Q (.str (toString i)) H) := rfl
theorem x_listL {p : Addr} {ys : List V} (h : SqL K H p ys) (q : ∀ l, H l = none → Q (.ref l) (upd H l (.lst ys))) : zList K [.ref p] H Q := ⟨p, ys, rfl, .inl h, q⟩
theorem x_listT {p : Addr} {ys : List V} (h : SqT K H p ys) (q : ∀ l, H l = none → Q (.ref l) (upd H l (.lst ys))) : zList K [.ref p] H Q := ⟨p, ys, rfl, .inr h, q⟩
theorem x_tupleL {p : Addr} {ys : List V} (h : SqL K H p ys) (q : ∀ l, H l = none → Q (.ref l) (upd H l (.tup ys))) : zTuple K [.ref p] H Q := ⟨p, ys, rfl, .inl ⟨h, q⟩⟩
theorem x_tupleT {p : Addr} {ys : List V} (h : SqT K H p ys) (q : Q (.ref p) H) : zTuple K [.ref p] H Q := ⟨p, ys, rfl, .inr ⟨h, q⟩⟩
theorem isi_of {T n : String} {b : Bool} {P : Bool → Prop} (h : kitB T n = some b) : (∃ b', kitB T n = some b' ∧ P b') = P b := propext ⟨fun ⟨k, e, p⟩ => by rw [h] at e; cases e; exact p, fun p => ⟨b, h, p⟩⟩
theorem isi_lst {a : Addr} {xs : List V} (h : H a = some (.lst xs)) (q : Q (.bl false) H) : zIsi K [.ref a, .ty "tuple"] H Q := ⟨"list", false, .base (.lst h), by decide +kernel, q⟩
theorem isi_tup {a : Addr} {xs : List V} (h : SqT K H a xs) (q : Q (.bl true) H) : zIsi K [.ref a, .ty "tuple"] H Q := by
  rcases h with (h | ⟨o, h⟩) | ⟨o, its, n, h1, h2, _⟩
  · exact ⟨"tuple", true, .base (.tup h), by decide +kernel, q⟩
  · exact ⟨"tuple", true, .fTuple h, by decide +kernel, q⟩
  · exact ⟨"tuple", true, .kTuple h1 h2, by decide +kernel, q⟩
theorem isi_tupB {a : Addr} {xs : List V} (h : SqT K H a xs) (q : Q (.bl false) H) : zIsi K [.ref a, .ty "bool"] H Q := by
  rcases h with (h | ⟨o, h⟩) | ⟨o, its, n, h1, h2, _⟩
  · exact ⟨"tuple", false, .base (.tup h), by decide +kernel, q⟩
  · exact ⟨"tuple", false, .fTuple h, by decide +kernel, q⟩
  · exact ⟨"tuple", false, .kTuple h1 h2, by decide +kernel, q⟩
theorem o_isi_non_bool  : zIsi K [.non, .ty "bool"] H Q = Q (.bl false) H := isi_of (by decide +kernel)
theorem o_isi_non_int  : zIsi K [.non, .ty "int"] H Q = Q (.bl false) H := isi_of (by decide +kernel)
theorem o_isi_non_str  : zIsi K [.non, .ty "str"] H Q = Q (.bl false) H := isi_of (by decide +kernel)
theorem o_isi_non_tuple  : zIsi K [.non, .ty "tuple"] H Q = Q (.bl false) H := isi_of (by decide +kernel)
theorem o_isi_non_list  : zIsi K [.non, .ty "list"] H Q = Q (.bl false) H := isi_of (by decide +kernel)
theorem o_isi_bl_bool {b : Bool} : zIsi K [.bl b, .ty "bool"] H Q = Q (.bl true) H := isi_of (by decide +kernel)
theorem o_isi_bl_int {b : Bool} : zIsi K [.bl b, .ty "int"] H Q = Q (.bl true) H := isi_of (by decide +kernel)
theorem o_isi_bl_str {b : Bool} : zIsi K [.bl b, .ty "str"] H Q = Q (.bl false) H := isi_of (by decide +kernel)
theorem o_isi_bl_tuple {b : Bool} : zIsi K [.bl b, .ty "tuple"] H Q = Q (.bl false) H := isi_of (by decide +kernel)
theorem o_isi_bl_list {b : Bool} : zIsi K [.bl b, .ty "list"] H Q = Q (.bl false) H := isi_of (by decide +kernel)
theorem o_isi_int_bool {i : Int} : zIsi K [.int i, .ty "bool"] H Q = Q (.bl false) H := isi_of (by decide +kernel)
theorem o_isi_int_int {i : Int} : zIsi K [.int i, .ty "int"] H Q = Q (.bl true) H := isi_of (by decide +kernel)
theorem o_isi_int_str {i : Int} : zIsi K [.int i, .ty "str"] H Q = Q (.bl false) H := isi_of (by decide +kernel)
theorem o_isi_int_tuple {i : Int} : zIsi K [.int i, .ty "tuple"] H Q = Q (.bl false) H := isi_of (by decide +kernel)
theorem o_isi_int_list {i : Int} : zIsi K [.int i, .ty "list"] H Q = Q (.bl false) H := isi_of (by decide +kernel)
theorem o_isi_str_bool {s : Str} : zIsi K [.str s, .ty "bool"] H Q = Q (.bl false) H := isi_of (by decide +kernel)
theorem o_isi_str_int {s : Str} : zIsi K [.str s, .ty "int"] H Q = Q (.bl false) H := isi_of (by decide +kernel)
theorem o_isi_str_str {s : Str} : zIsi K [.str s, .ty "str"] H Q = Q (.bl true) H := isi_of (by decide +kernel)
theorem o_isi_str_tuple {s : Str} : zIsi K [.str s, .ty "tuple"] H Q = Q (.bl false) H := isi_of (by decide +kernel)
theorem o_isi_str_list {s : Str} : zIsi K [.str s, .ty "list"] H Q = Q (.bl false) H := isi_of (by decide +kernel)
theorem x_raise (q : t σ H fun vs H1 => vs.length ≤ sizeLine ∧ W (.ref C) none σ H1) : zRaise C W t D σ H := q
theorem e_fmt : tFmt te σ H Q = te σ H fun x H1 => (∃ y : Str, x = .str y ∧ y.length ≤ sizeLine ∧ Q (.str y) H1) ∨ ∃ i : Int, x = .int i ∧ i.natAbs.log2 < 1920 ∧ Q (.str (toString i)) H1 := rfl
theorem e_fmtI {i : Int} {P1 : Str → Prop} {P2 : Int → Prop} : ((∃ y : Str, V.int i = .str y ∧ P1 y) ∨ ∃ j : Int, V.int i = .int j ∧ P2 j) = P2 i := propext ⟨fun h => by rcases h with ⟨_, e, _⟩ | ⟨_, e, p⟩ <;> cases e; exact p, fun p => .inr ⟨i, rfl, p⟩⟩
theorem e_fmtS {a : Str} {P1 : Str → Prop} {P2 : Int → Prop} : ((∃ y : Str, V.str a = .str y ∧ P1 y) ∨ ∃ j : Int, V.str a = .int j ∧ P2 j) = P1 a := propext ⟨fun h => by rcases h with ⟨_, e, p⟩ | ⟨_, e, p⟩ <;> cases e; exact p, fun p => .inl ⟨a, rfl, p⟩⟩
theorem e_joined : zJoined ts σ H Q = tJs ts Str.empty σ H fun out H1 => Q (.str out) H1 := rfl
theorem e_js0 : tJs [] acc σ H QT = QT acc H := rfl
theorem e_js1 : tJs (te :: ts) acc σ H QT = te σ H fun x H1 => ∃ y : Str, x = .str y ∧ (acc ++ y).length ≤ sizeLine ∧ tJs ts (acc ++ y) σ H1 QT := rfl
end
end Z
/-! Zl: loops and comprehensions; great numbers; what the law's draws need. -/
namespace Z
open PySem PySem.Spec PyProof.Rows L2
section
variable {K : PySem.W.Frag} {σ : L2.St} {H : Hp} {Q : VK} {nx bk ct : L2.St → Hp → Prop} {g : TG} {t u : TS} {te : TE} {tt : TT} {vs : List Nat} {wi : TI} {QI : It → Hp → Prop}
/-- a station: what is known ahead of the rest -/
theorem x_mid (Mid : L2.St → Hp → Prop) (k : ∀ σ' H', Mid σ' H' → nx σ' H') (h : (∀ σ' H', Mid σ' H' → nx σ' H') → t ⟨nx, Q, bk, ct⟩ σ H) : t ⟨nx, Q, bk, ct⟩ σ H := h k
/-- for over a text -/
theorem x_text {z : Str} (Pv : Nat → L2.St → Hp → Prop) (h0 : Pv 0 σ H)
    (hs : ∀ (i : Nat) c σ' H', z.cps.toList[i]? = some c → Pv i σ' H' → g (.str ⟨#[c]⟩) σ' H' fun σ2 H2 => t ⟨Pv (i + 1), Q, nx, Pv (i + 1)⟩ σ2 H2) (hd : ∀ σ' H', Pv z.cps.toList.length σ' H' → nx σ' H') :
    ∃ W : Nat → Nat → L2.St → Hp → Prop, (∃ m, W 0 m σ H) ∧ ∀ i m σ H, W i m σ H →
    ((Its z).stop i H ∧ nx σ H) ∨ ((Its z).go i H ∧ ∃ N : L2.St → Hp → Prop, (∀ σ' H', N σ' H' → ∃ m', m' < m ∧ W (i + 1) m' σ' H') ∧ ∀ x H', (Its z).yld i H x H' → g x σ H' fun σ2 H2 => t ⟨N, Q, nx, N⟩ σ2 H2) :=
  for_it (D := ⟨nx, Q, nx, nx⟩) walk_str Pv h0 (fun _ _ _ _ _ => True.intro) (fun i x σ' H' H'' hi p y => by
    obtain ⟨rfl, c, hc, rfl⟩ := y
    exact hs i c σ' H'' (by rw [← hc]; simp) p) (fun σ' H' p => hd σ' H' (by simpa using p))
/-- for over enumerate of a list -/
theorem x_enum {a : Addr} {xs : List V} (Pv : Nat → L2.St → Hp → Prop) (h0 : Pv 0 σ H) (hl : ∀ i σ H, i ≤ xs.length → Pv i σ H → SqL K H a xs)
    (hs : ∀ (i : Nat) x T σ' H', xs[i]? = some x → Pv i σ' H' → H' T = none → g (.ref T) σ' (upd H' T (.tup [.int (i : Int), x])) fun σ2 H2 => t ⟨Pv (i + 1), Q, nx, Pv (i + 1)⟩ σ2 H2) (hd : ∀ σ' H', Pv xs.length σ' H' → nx σ' H') :
    ∃ W : Nat → Nat → L2.St → Hp → Prop, (∃ m, W 0 m σ H) ∧ ∀ i m σ H, W i m σ H →
    ((Ite K a).stop i H ∧ nx σ H) ∨ ((Ite K a).go i H ∧ ∃ N : L2.St → Hp → Prop, (∀ σ' H', N σ' H' → ∃ m', m' < m ∧ W (i + 1) m' σ' H') ∧ ∀ x H', (Ite K a).yld i H x H' → g x σ H' fun σ2 H2 => t ⟨N, Q, nx, N⟩ σ2 H2) :=
  for_it (D := ⟨nx, Q, nx, nx⟩) walk_enum Pv h0 hl (fun i x σ' H' H'' hi p y => by
    obtain ⟨T, x1, y1, rfl, hT, rfl, e1, e2⟩ := y
    cases e1
    exact hs i y1 T σ' H' e2 p hT) hd
theorem e_iE {ta : TA} : iEnum K ta σ H QI = ta σ H fun vs H1 => ∃ a xs, vs = [.ref a] ∧ SqL K H1 a xs ∧ QI (Ite K a) H1 := rfl
theorem x_iE {a : Addr} {xs : List V} {P : Addr → Prop} (h : SqL K H a xs) (q : P a) : ∃ a' xs, [V.ref a] = [.ref a'] ∧ SqL K H a' xs ∧ P a' := ⟨a, xs, rfl, h, q⟩
theorem e_iSeqL {P P' : Prop} (h : P) : P ∨ P' := .inl h
/-- a comprehension, behind what is walked: a word for the turn, the items so far, the heap -/
def LcW (D : Addr) (Pv : Nat → List V → Hp → Prop) (i : Nat) (H : Hp) : Prop := ∃ acc, H D = some (.lst acc) ∧ acc.length ≤ i ∧ Pv i acc H
theorem lc_yes {D : Addr} {Pv : Nat → List V → Hp → Prop} {i : Nat} {H4 : Hp} {acc : List V} {y : V} (h : H4 D = some (.lst acc)) (l : acc.length ≤ i) (hi : i < 1000000) (p : Pv (i + 1) (acc ++ [y]) (upd H4 D (.lst (acc ++ [y])))) :
    ∃ acc, H4 D = some (.lst acc) ∧ acc.length < sizeLine ∧ LcW D Pv (i + 1) (upd H4 D (.lst (acc ++ [y]))) :=
  ⟨acc, h, by rw [sizeLine_eq]; omega, acc ++ [y], upd_same, by rw [List.length_append, List.length_singleton]; omega, p⟩
theorem lc_no {D : Addr} {Pv : Nat → List V → Hp → Prop} {i : Nat} {H4 : Hp} {acc : List V} (h : H4 D = some (.lst acc)) (l : acc.length ≤ i) (p : Pv (i + 1) acc H4) : LcW D Pv (i + 1) H4 := ⟨acc, h, by omega, p⟩
/-- what a comprehension asks behind its source -/
def LcGo (J : It) (H : Hp) (g : TG) (tt : TT) (te : TE) (vs : List Nat) (σ : L2.St) (Q : VK) : Prop := ∀ D, H D = none → ∃ W : Nat → Nat → Hp → Prop, (∃ m, W 0 m (upd H D (.lst []))) ∧ ∀ i m H, W i m H →
  (J.stop i H ∧ Q (.ref D) H) ∨ (J.go i H ∧ ∃ Nx : Hp → Prop, (∀ H', Nx H' → ∃ m', m' < m ∧ W (i + 1) m' H') ∧ ∀ x H', J.yld i H x H' → g x (wipe σ vs) H' fun σ2 H2 => wipe σ2 vs = wipe σ vs ∧ tt σ2 H2 fun b H3 =>
    if b = true then te σ2 H3 fun y H4 => ∃ acc, H4 D = some (.lst acc) ∧ acc.length < sizeLine ∧ Nx (upd H4 D (.lst (acc ++ [y]))) else Nx H3)
theorem e_lc : tLc wi g tt te vs σ H Q = wi σ H fun J H1 => LcGo J H1 g tt te vs σ Q := rfl
/-- a comprehension: a word for the turn, the items so far, the heap (D: where the new list stands) -/
theorem x_lc {J : It} {n : Nat} {G : Hp → Prop} {Y : Nat → Hp → V → Hp → Prop} (w : Walk J n G Y) (Pv : Addr → Nat → List V → Hp → Prop) (h0 : ∀ D, H D = none → Pv D 0 [] (upd H D (.lst []))) (hG : ∀ D i acc H, Pv D i acc H → G H)
    (hs : ∀ D i x acc H' H'', H D = none → i < n → Pv D i acc H' → H' D = some (.lst acc) → acc.length ≤ i → Y i H' x H'' → g x (wipe σ vs) H'' fun σ2 H2 => wipe σ2 vs = wipe σ vs ∧ tt σ2 H2 fun b H3 =>
      if b = true then te σ2 H3 fun y H4 => ∃ acc, H4 D = some (.lst acc) ∧ acc.length < sizeLine ∧ LcW D (Pv D) (i + 1) (upd H4 D (.lst (acc ++ [y]))) else LcW D (Pv D) (i + 1) H3)
    (hd : ∀ D acc H', H D = none → Pv D n acc H' → H' D = some (.lst acc) → acc.length ≤ n → Q (.ref D) H') : LcGo J H g tt te vs σ Q :=
  fun D hD => lc_it w (LcW D (Pv D)) ⟨[], upd_same, Nat.le_refl _, h0 D hD⟩ (fun i H' _ ⟨acc, _, _, p⟩ => hG D i acc H' p) (fun i x H' H'' hi ⟨acc, hL, hl, p⟩ y => hs D i x acc H' H'' hD hi p hL hl y) (fun H' ⟨acc, hL, hl, p⟩ => hd D acc H' hD p hL hl)
theorem e_yes1 {QB : Bool → Hp → Prop} : tYes σ H QB = QB true H := rfl
end
/-- a tuple of the module's own -/
def KTup (K : PySem.W.Frag) (a : Addr) (xs : List V) : Prop := ∃ (o : Obj) (its : Array Value) (n : Nat), K.lookup a = some o ∧ o.cls = .type "tuple" ∧ o.data = .seq its n ∧ its.size ≤ sizeLine ∧ Vals xs its.toList
theorem KTup.sq {K : PySem.W.Frag} {H : Hp} {a : Addr} {xs : List V} (h : KTup K a xs) : SqT K H a xs := .inr h
theorem hu66 {k : Nat} {A : Around} (r : Room k A) : A.units + 66 < cLine := by have := r.un; omega
theorem exm_of {K : PySem.W.Frag} {C S : Addr} {b : Bool} (h1 : PySem.W.subIn K (.ref C) (.type "BaseException") = some true) (h2 : PySem.W.isClsIn K S = true) (h3 : PySem.W.typeIn K (.ref S) = some (.type "type")) (h4 : PySem.W.subIn K (.ref C) (.ref S) = some b)
    (h0 : PySem.W.subIn K (.ref S) (.type "BaseException") = some true) : PySem.W.exmOne K (.ref C) (.ref S) = some b := by
  have e1 : (PySem.W.subIn K (.ref S) (.type "BaseException") == some true) = true := by rw [h0] <;> rfl
  have e2 : ((PySem.W.clsIn K S).isSome && PySem.W.typeIn K (.ref S) == some (.type "type")) = true := by
    have h2' : (PySem.W.clsIn K S).isSome = true := h2
    rw [h2', h3] <;> rfl
  show (if (PySem.W.subIn K (.ref S) (.type "BaseException") == some true) = true then (if ((PySem.W.clsIn K S).isSome && PySem.W.typeIn K (.ref S) == some (.type "type")) = true then PySem.W.subIn K (.ref C) (.ref S) else none) else none) = some b
  rw [if_pos e1, if_pos e2]
  exact h4
/-! great numbers by their bits -/
def lg (z : Int) : Nat := z.natAbs.log2
theorem lg_lt {z : Int} {n : Nat} (h0 : 0 < n) (h : z.natAbs < 2 ^ n) : lg z < n := PySem.Flt.log2_lt_of h0 h
theorem lt_lg (z : Int) : z.natAbs < 2 ^ (lg z + 1) := Nat.lt_log2_self
theorem lg_bits {z : Int} {n : Nat} (h : Builtin.Int.intBits z ≤ n) : lg z ≤ n := by
  unfold Builtin.Int.intBits at h
  unfold lg
  by_cases e : z = 0
  · subst e
    exact Nat.zero_le _
  · rw [if_neg (by simpa using e)] at h
    omega
theorem lg_add (a b : Int) : lg (a + b) ≤ max (lg a) (lg b) + 1 := by
  have h1 := lt_lg a
  have h2 := lt_lg b
  have h3 : (a + b).natAbs ≤ a.natAbs + b.natAbs := Int.natAbs_add_le a b
  have m1 : 2 ^ (lg a + 1) ≤ 2 ^ (max (lg a) (lg b) + 1) := Nat.pow_le_pow_right (by decide) (by omega)
  have m2 : 2 ^ (lg b + 1) ≤ 2 ^ (max (lg a) (lg b) + 1) := Nat.pow_le_pow_right (by decide) (by omega)
  have e : 2 ^ (max (lg a) (lg b) + 1 + 1) = 2 ^ (max (lg a) (lg b) + 1) + 2 ^ (max (lg a) (lg b) + 1) := by rw [Nat.pow_succ]; omega
  have := lg_lt (z := a + b) (n := max (lg a) (lg b) + 1 + 1) (by omega) (by omega)
  omega
theorem lg_mul (a b : Int) : lg (a * b) ≤ lg a + lg b + 1 := by
  have h := wide_lt (lt_lg a) (lt_lg b)
  have := lg_lt (by omega) h
  omega
theorem lg_le {a b : Int} (h : a.natAbs ≤ b.natAbs) : lg a ≤ lg b := by
  by_cases e : a.natAbs = 0
  · unfold lg; rw [e]; exact Nat.zero_le _
  · exact (Nat.le_log2 (by omega)).mpr (Nat.le_trans ((Nat.le_log2 e).mp (Nat.le_refl _)) h)
theorem lg_small {z : Int} {n : Nat} (h0 : 0 < n) (h : z.natAbs < 2 ^ n) : lg z ≤ n := Nat.le_of_lt (lg_lt h0 h)
theorem cmul_lg {i j : Int} {a b : Nat} (h1 : lg i ≤ a) (h2 : lg j ≤ b) (h : a + b < 100000000) : CMulB i j := by
  have h1' : i.natAbs.log2 ≤ a := h1
  have h2' : j.natAbs.log2 ≤ b := h2
  unfold CMulB
  omega
end Z
/-! Zd: data that is compared; while; what a def hands back as data. -/
namespace Z
open PySem PySem.Spec PyProof.Rows L2
def Good (n : Nat) (d : PyData) : Prop := d.canLay0 = true ∧ d.depth ≤ n
theorem Good.up {n m : Nat} {d : PyData} (h : Good n d) (l : n ≤ m) : Good m d := ⟨h.1, Nat.le_trans h.2 l⟩
theorem Good.shaped {n : Nat} {d : PyData} (h : Good n d) (l : n ≤ 64) : SeqAt.shaped d = true := by
  unfold SeqAt.shaped
  rw [h.1, decide_eq_true (Nat.le_trans h.2 l)]; rfl
theorem good_non {n : Nat} : Good (n + 1) .none := ⟨rfl, by simp [PyData.depth]⟩
theorem good_bl {n : Nat} {b : Bool} : Good (n + 1) (.bool b) := ⟨rfl, by simp [PyData.depth]⟩
theorem good_int {n : Nat} {i : Int} : Good (n + 1) (.int i) := ⟨rfl, by simp [PyData.depth]⟩
theorem good_str {n : Nat} {x : Str} (h : PyData.strOk x = true) : Good (n + 1) (.str x) := ⟨by rw [PyData.canLay0]; exact h, by simp [PyData.depth]⟩
theorem good_lay : ∀ {n : Nat} {ds : List PyData}, (∀ d ∈ ds, Good n d) → PyData.canLayAll0 ds = true ∧ PyData.depthAll ds ≤ n
  | n, [], _ => ⟨rfl, by simp [PyData.depthAll]⟩
  | n, d :: ds, h => by
    have h1 := h d (List.mem_cons_self ..)
    have h2 := good_lay (n := n) (ds := ds) fun e m => h e (List.mem_cons_of_mem _ m)
    refine ⟨by rw [PyData.canLayAll0, h1.1, h2.1]; rfl, ?_⟩
    have e1 := h1.2
    have e2 := h2.2
    rw [PyData.depthAll]
    omega
theorem good_tup {n : Nat} {ds : List PyData} (h : ∀ d ∈ ds, Good n d) : Good (n + 1) (.tuple ds) := by
  have g := good_lay h
  refine ⟨by rw [PyData.canLay0]; exact g.1, ?_⟩
  have e := g.2
  rw [PyData.depth]
  omega
theorem good_lst {n : Nat} {ds : List PyData} (h : ∀ d ∈ ds, Good n d) : Good (n + 1) (.list ds) := by
  have g := good_lay h
  refine ⟨by rw [PyData.canLay0]; exact g.1, ?_⟩
  have e := g.2
  rw [PyData.depth]
  omega
theorem good_nil {n : Nat} : ∀ d ∈ ([] : List PyData), Good n d := fun _ h => nomatch h
theorem good_cons {n : Nat} {d : PyData} {ds : List PyData} (h : Good n d) (t : ∀ d ∈ ds, Good n d) : ∀ e ∈ d :: ds, Good n e := fun e m => by
  rcases List.mem_cons.mp m with rfl | m
  · exact h
  · exact t e m
theorem good_mapI {n : Nat} {ns : List Int} : ∀ d ∈ ns.map PyData.int, Good (n + 1) d := fun d m => by
  obtain ⟨z, _, rfl⟩ := List.mem_map.mp m
  exact good_int
theorem good_ints {n : Nat} {ns : List Int} : Good (n + 2) (.list (ns.map .int)) := good_lst good_mapI
theorem good_intsT {n : Nat} {ns : List Int} : Good (n + 2) (.tuple (ns.map .int)) := good_tup good_mapI
section
variable {K : PySem.W.Frag} {H G : Hp} {Q : VK} {d : PyData} {a b : Addr} {x y : V}
theorem x_eqR (h1 : Rp K H (.ref a) d) (h2 : Rp K H (.ref b) d) (g : Good 64 d) (q : Q (.bl true) H) : zEq K (.ref a) (.ref b) H Q := by
  refine x_eqD (Same.refl H) h1 h2 (g.shaped (Nat.le_refl _)) (g.shaped (Nat.le_refl _)) ?_
  rw [SeqAt.eqv_refl d g.1]
  exact q
theorem x_neR (h1 : Rp K H (.ref a) d) (h2 : Rp K H (.ref b) d) (g : Good 64 d) (q : Q (.bl false) H) : zNe K (.ref a) (.ref b) H Q := by
  refine x_neD (Same.refl H) h1 h2 (g.shaped (Nat.le_refl _)) (g.shaped (Nat.le_refl _)) ?_
  rw [SeqAt.eqv_refl d g.1]
  exact q
/-- whatever two things, if they stand for the same data -/
theorem x_eqA {x y : V} (h1 : Rp K H x d) (h2 : Rp K H y d) (g : Good 64 d) (q : Q (.bl true) H) : zEq K x y H Q := by
  cases h1 with
  | non => cases h2; exact q
  | bl b => cases h2; rw [show zEq K (.bl b) (.bl b) H Q = Q (.bl (decide (b = b))) H from rfl, decide_eq_true rfl]; exact q
  | int b => cases h2; rw [show zEq K (.int b) (.int b) H Q = Q (.bl (decide (b = b))) H from rfl, decide_eq_true rfl]; exact q
  | str b => cases h2; rw [show zEq K (.str b) (.str b) H Q = Q (.bl (decide (b = b))) H from rfl, decide_eq_true rfl]; exact q
  | lst e r => cases h2 with | lst e2 r2 => exact x_eqR (.lst e r) (.lst e2 r2) g q
  | tup e r => cases h2 with | tup e2 r2 => exact x_eqR (.tup e r) (.tup e2 r2) g q
theorem x_neA {x y : V} (h1 : Rp K H x d) (h2 : Rp K H y d) (g : Good 64 d) (q : Q (.bl false) H) : zNe K x y H Q := by
  cases h1 with
  | non => cases h2; exact q
  | bl b => cases h2; rw [show zNe K (.bl b) (.bl b) H Q = Q (.bl (!decide (b = b))) H from rfl, decide_eq_true rfl]; exact q
  | int b => cases h2; rw [show zNe K (.int b) (.int b) H Q = Q (.bl (!decide (b = b))) H from rfl, decide_eq_true rfl]; exact q
  | str b => cases h2; rw [show zNe K (.str b) (.str b) H Q = Q (.bl (!decide (b = b))) H from rfl, decide_eq_true rfl]; exact q
  | lst e r => cases h2 with | lst e2 r2 => exact x_neR (.lst e r) (.lst e2 r2) g q
  | tup e r => cases h2 with | tup e2 r2 => exact x_neR (.tup e r) (.tup e2 r2) g q
/-- data handed back -/
def RetP (K : PySem.W.Frag) (H : Hp) (d : PyData) (Q : VK) : Prop := ∀ v H', Same H H' → Rp K H' v d → Q v H'
theorem RetP.go {H H1 : Hp} {v : V} (r : RetP K H d Q) (s : Same H H1) (h : Rp K H1 v d) : Q v H1 := r v H1 s h
theorem rp_ints {H : Hp} {p : Addr} {ns : List Int} (h : H p = some (.lst (ns.map V.int))) : Rp K H (.ref p) (.list (ns.map PyData.int)) := .lst h (RpAll.ints ns)
theorem rp_nil : RpAll K H [] [] := .nil
/-- a new tuple -/
theorem rp_new {H : Hp} {p : Addr} {vs : List V} {ds : List PyData} (h : RpAll K H vs ds) (n : H p = none) : Rp K (upd H p (.tup vs)) (.ref p) (.tuple ds) := .tup (SqT.of upd_same) (RpAll.up (same_new n) h)
theorem rp_newL {H : Hp} {p : Addr} {vs : List V} {ds : List PyData} (h : RpAll K H vs ds) (n : H p = none) : Rp K (upd H p (.lst vs)) (.ref p) (.list ds) := .lst upd_same (RpAll.up (same_new n) h)
end
section
variable {K : PySem.W.Frag} {c : TT} {tb : TS} {nx bk ct : L2.St → Hp → Prop} {Q : VK} {σ : L2.St} {H : Hp}
/-- a station behind a statement: what follows is not looked at -/
theorem x_cut {t : TS} (Mid : L2.St → Hp → Prop) (k : ∀ σ' H', Mid σ' H' → nx σ' H') (h : ∀ nx' : L2.St → Hp → Prop, (∀ σ' H', Mid σ' H' → nx' σ' H') → t ⟨nx', Q, bk, ct⟩ σ H) : t ⟨nx, Q, bk, ct⟩ σ H := h nx k
/-- while: a word with its measure -/
theorem x_while (Pv : Nat → L2.St → Hp → Prop) (m : Nat) (h0 : Pv m σ H)
    (hs : ∀ m σ' H', Pv m σ' H' → c σ' H' fun b H1 => if b = true then ∃ N : L2.St → Hp → Prop, (∀ σ2 H2, N σ2 H2 → ∃ m', m' < m ∧ Pv m' σ2 H2) ∧ tb ⟨N, Q, nx, N⟩ σ' H1 else nx σ' H1) : tWhile c tb ⟨nx, Q, bk, ct⟩ σ H :=
  ⟨Pv, ⟨m, h0⟩, hs⟩
theorem x_listI {a : Addr} {ns : List Int} {t : TS} {g : TG} (Pv : Nat → L2.St → Hp → Prop) (h0 : Pv 0 σ H) (hl : ∀ i σ H, i ≤ ns.length → Pv i σ H → SqL K H a (ns.map V.int))
    (hs : ∀ (i : Nat) (z : Int) σ' H', ns[i]? = some z → i < ns.length → Pv i σ' H' → g (.int z) σ' H' fun σ2 H2 => t ⟨Pv (i + 1), Q, nx, Pv (i + 1)⟩ σ2 H2) (hd : ∀ σ' H', Pv ns.length σ' H' → nx σ' H') :
    ∃ W : Nat → Nat → L2.St → Hp → Prop, (∃ m, W 0 m σ H) ∧ ∀ i m σ H, W i m σ H →
    ((Itl K a).stop i H ∧ nx σ H) ∨ ((Itl K a).go i H ∧ ∃ N : L2.St → Hp → Prop, (∀ σ' H', N σ' H' → ∃ m', m' < m ∧ W (i + 1) m' σ' H') ∧ ∀ x H', (Itl K a).yld i H x H' → g x σ H' fun σ2 H2 => t ⟨N, Q, nx, N⟩ σ2 H2) :=
  x_list (xs := ns.map V.int) Pv h0 (fun i σ H h p => hl i σ H (by rw [List.length_map] at h; exact h) p) (fun i x σ' H' hx p => by
    rw [List.getElem?_map] at hx
    cases q : ns[i]? with
    | none => rw [q] at hx; cases hx
    | some z =>
      rw [q] at hx
      cases hx
      exact hs i z σ' H' q (List.getElem?_eq_some_iff.mp q).1 p) fun σ' H' p => hd σ' H' (by rw [List.length_map] at p; exact p)
theorem x_wh {Pv : Nat → L2.St → Hp → Prop} {m : Nat} (h : tb ⟨fun σ2 H2 => ∃ m', m' < m ∧ Pv m' σ2 H2, Q, nx, fun σ2 H2 => ∃ m', m' < m ∧ Pv m' σ2 H2⟩ σ H) :
    ∃ N : L2.St → Hp → Prop, (∀ σ2 H2, N σ2 H2 → ∃ m', m' < m ∧ Pv m' σ2 H2) ∧ tb ⟨N, Q, nx, N⟩ σ H := ⟨_, fun _ _ h => h, h⟩
/-- a caught exception -/
theorem x_exc {Wout : WX} {D : Ends} {cls C : Value} {d : Option Addr} {ts : Addr → Value → Option Addr → TS} {r : List (Value × (Addr → Value → Option Addr → TS))} (h : PySem.W.exmOne K cls C = some true) (q : ∀ a, H a = none → ts a cls d D σ H) : wMany K Wout D ((C, ts) :: r) cls d σ H :=
  ⟨true, h, fun _ => q, fun e => nomatch e⟩
theorem x_excN {Wout : WX} {D : Ends} {cls C : Value} {d : Option Addr} {ts : Addr → Value → Option Addr → TS} {r : List (Value × (Addr → Value → Option Addr → TS))} (h : PySem.W.exmOne K cls C = some false) (q : wMany K Wout D r cls d σ H) : wMany K Wout D ((C, ts) :: r) cls d σ H :=
  ⟨false, h, (fun e => nomatch e), fun _ => q⟩
end
section
variable {σ : L2.St} {H : Hp} {Q : VK} {nx bk ct : L2.St → Hp → Prop} {te : TE} {ti : TIp} {x : V} {i : Nat}
theorem x_aug (q : zVar i σ H fun x H0 => te σ H0 fun y H1 => ti x y H1 fun z H2 => gName i z σ H2 nx) : zAug i te ti ⟨nx, Q, bk, ct⟩ σ H := by
  unfold zVar at q
  unfold zAug
  split at q
  · rename_i e
    first
      | (rw [e]; exact q)
      | exact q
  · exact q.elim
theorem e_sub {to ti2 : TE} {t : TSet} {v : V} {QS : L2.St → Hp → Prop} : gSub to ti2 t v σ H QS = to σ H fun o H1 => ti2 σ H1 fun i H2 => t o i v H2 fun H3 => QS σ H3 := rfl
theorem x_setL {p : Addr} {xs : List V} {k : Int} {j : Nat} {v : V} {QH : Hp → Prop} (h : H p = some (.lst xs)) (hj : ixN xs.length k = some j) (q : QH (upd H p (.lst (xs.set j v)))) : zSet (.ref p) (.int k) v H QH := .inl ⟨p, xs, k, j, rfl, rfl, h, hj, q⟩
theorem x_rapp {p : Addr} {xs : List V} {v : V} (h : H p = some (.lst xs)) (l : xs.length < sizeLine) (q : Q .non (upd H p (.lst (xs ++ [v])))) : rAppend (.ref p) [v] H Q := ⟨p, xs, v, rfl, rfl, h, l, q⟩
theorem e_noS {P : Str → Prop} {a : Int} : (∃ y : Str, V.int a = .str y ∧ P y) = False := propext ⟨fun ⟨_, e, _⟩ => (nomatch e), False.elim⟩
theorem e_noI {P : Int → Prop} {a : Str} : (∃ y : Int, V.str a = .int y ∧ P y) = False := propext ⟨fun ⟨_, e, _⟩ => (nomatch e), False.elim⟩
theorem e_orF {A : Prop} : (False ∨ A) = A := propext ⟨fun h => h.resolve_left id, .inr⟩
theorem e_orF' {A : Prop} : (A ∨ False) = A := propext ⟨fun h => h.resolve_right id, .inl⟩
theorem o_ip {f : Int → Int → Int} {a b : Int} : ipI f (.int a) (.int b) H Q = Q (.int (f a b)) H := propext ⟨fun ⟨i, j, e1, e2, q⟩ => by cases e1; cases e2; exact q, fun q => ⟨a, b, rfl, rfl, q⟩⟩
theorem o_rAdd {a b : Int} : rAdd (.int a) (.int b) H Q = Q (.int (a + b)) H := propext ⟨fun ⟨i, j, e1, e2, q⟩ => by cases e1; cases e2; exact q, fun q => ⟨a, b, rfl, rfl, q⟩⟩
theorem o_rSub {a b : Int} : rSub (.int a) (.int b) H Q = Q (.int (a - b)) H := propext ⟨fun ⟨i, j, e1, e2, q⟩ => by cases e1; cases e2; exact q, fun q => ⟨a, b, rfl, rfl, q⟩⟩
end
theorem at_in {α : Type} {xs : List α} {i : Int} {n : Nat} (h : xs.length = n) (h0 : 0 ≤ i) (h1 : i < (n : Int)) : ∃ c, atI xs i = some c ∧ c ∈ xs := by
  have hlt : i.toNat < xs.length := by omega
  have e : i = ((i.toNat : Nat) : Int) := by omega
  rw [e]
  exact ⟨xs[i.toNat], atI_nat (List.getElem?_eq_getElem hlt), List.getElem_mem hlt⟩
/-- an item of a list of ints -/
theorem at_ints {ns : List Int} {i : Int} (h0 : 0 ≤ i) (h1 : i < (ns.length : Int)) : ∃ z, atI (ns.map V.int) i = some (.int z) ∧ z ∈ ns ∧ ns[i.toNat]? = some z := by
  have hlt : i.toNat < ns.length := by omega
  have e : i = ((i.toNat : Nat) : Int) := by omega
  refine ⟨ns[i.toNat], ?_, List.getElem_mem hlt, List.getElem?_eq_getElem hlt⟩
  have e2 : atI (ns.map V.int) i = atI (ns.map V.int) ((i.toNat : Nat) : Int) := by rw [← e]
  rw [e2]
  exact atI_nat (by rw [List.getElem?_map, List.getElem?_eq_getElem hlt]; rfl)
section
variable {K : PySem.W.Frag} {σ : L2.St} {H : Hp} {Q : VK} {te : TE} {g : TG} {vs : List Nat}
/-- a comprehension of plain values -/
theorem x_lcP {J : It} {n : Nat} {G : Hp → Prop} {Y : Nat → Hp → V → Hp → Prop} (w : Walk J n G Y) (P : Nat → V → Prop) (hn : n ≤ 1000000) (hG : ∀ H', Same H H' → G H')
    (hs : ∀ i x H' H'' (Kk : VK), i < n → Same H H' → Y i H' x H'' → (∀ y H4, P i y → Same H' H4 → Kk y H4) → g x (wipe σ vs) H'' fun σ2 H2 => wipe σ2 vs = wipe σ vs ∧ te σ2 H2 Kk)
    (hd : ∀ p acc H', H p = none → Same H H' → H' p = some (.lst acc) → acc.length = n → (∀ i v, acc[i]? = some v → P i v) → Q (.ref p) H') : LcGo J H g tYes te vs σ Q :=
  x_lc w (fun D i acc H' => Same H H' ∧ acc.length = i ∧ ∀ j v, acc[j]? = some v → P j v)
    (fun D hD => ⟨same_new hD, rfl, fun j v e => by simp at e⟩) (fun D i acc H' p => hG H' p.1)
    (fun D i x acc H' H'' hD hi p hL hl y => hs i x H' H'' _ hi p.1 y fun z H4 hz s4 => by
      refine lc_yes (hp_same s4 hL) (Nat.le_of_eq p.2.1) (by omega) ⟨same_mut (p.1.trans s4) hD, by rw [List.length_append, List.length_singleton, p.2.1], fun j v e => ?_⟩
      by_cases c : j < acc.length
      · rw [List.getElem?_append_left c] at e
        exact p.2.2 j v e
      · rw [List.getElem?_append_right (by omega)] at e
        have c2 : j - acc.length = 0 := by
          have := (List.getElem?_eq_some_iff.mp e).1
          simp at this
          omega
        rw [c2] at e
        have e3 : z = v := by simpa using e
        have e4 : j = i := by have := p.2.1; omega
        rw [← e3, e4]
        exact hz)
    (fun D acc H' hD p hL _ => hd D acc H' hD p.1 hL p.2.1 p.2.2)
/-- a comprehension of ints -/
theorem x_lcJ {J : It} {n : Nat} {G : Hp → Prop} {Y : Nat → Hp → V → Hp → Prop} (w : Walk J n G Y) (hn : n ≤ 1000000) (P : Int → Prop) (hG : ∀ H', Same H H' → G H')
    (hs : ∀ (i : Nat) x H' H'' (Kk : VK), i < n → Same H H' → Y i H' x H'' → (∀ (y : Int) H4, P y → Same H' H4 → Kk (.int y) H4) → g x (wipe σ vs) H'' fun σ2 H2 => wipe σ2 vs = wipe σ vs ∧ te σ2 H2 Kk)
    (hd : ∀ p (zs : List Int) H', H p = none → Same H H' → H' p = some (.lst (zs.map V.int)) → zs.length = n → (∀ z ∈ zs, P z) → Q (.ref p) H') : LcGo J H g tYes te vs σ Q :=
  x_lcP w (fun _ v => ∃ y : Int, v = .int y ∧ P y) hn hG
    (fun i x H' H'' Kk hi s y q => hs i x H' H'' Kk hi s y fun y H4 p s4 => q _ _ ⟨y, rfl, p⟩ s4)
    fun p acc H' hp s hL hl ha => by
      have ⟨zs, e, hz⟩ : ∃ zs : List Int, acc = zs.map V.int ∧ ∀ z ∈ zs, P z := by
        clear hL hl
        induction acc with
        | nil => exact ⟨[], rfl, fun _ h => nomatch h⟩
        | cons v acc ih =>
          obtain ⟨y, rfl, py⟩ := ha 0 v rfl
          obtain ⟨zs, e, hz⟩ := ih (fun i v e => ha (i + 1) v (by simpa using e))
          exact ⟨y :: zs, by rw [e]; rfl, fun z m => by
            rcases List.mem_cons.mp m with rfl | m
            · exact py
            · exact hz z m⟩
      subst e
      exact hd p zs H' hp s hL (by rw [List.length_map] at hl; exact hl) hz
/-- over a range -/
theorem x_lcI {n : Nat} (hn : n ≤ 1000000) (P : Int → Prop)
    (hs : ∀ (i : Nat) H' (Kk : VK), i < n → Same H H' → (∀ (y : Int) H4, P y → Same H' H4 → Kk (.int y) H4) → g (.int (i : Int)) (wipe σ vs) H' fun σ2 H2 => wipe σ2 vs = wipe σ vs ∧ te σ2 H2 Kk)
    (hd : ∀ p (zs : List Int) H', H p = none → Same H H' → H' p = some (.lst (zs.map V.int)) → zs.length = n → (∀ z ∈ zs, P z) → Q (.ref p) H') : LcGo (Itr 0 n) H g tYes te vs σ Q :=
  x_lcJ walk_range hn P (fun _ _ => trivial)
    (fun i x H' H'' Kk hi s y q => by
      obtain ⟨rfl, rfl⟩ := y
      have e0 : (0 : Int) + (i : Int) = (i : Int) := Int.zero_add _
      show g (.int (0 + (i : Int))) _ _ _
      rw [e0]
      exact hs i _ Kk hi s q) hd
/-- over a list of ints -/
theorem x_lcL {a : Addr} {ns : List Int} (h : SqL K H a (ns.map V.int)) (hn : ns.length ≤ 1000000) (P : Int → Prop)
    (hs : ∀ (i : Nat) (z : Int) H' (Kk : VK), ns[i]? = some z → Same H H' → (∀ (y : Int) H4, P y → Same H' H4 → Kk (.int y) H4) → g (.int z) (wipe σ vs) H' fun σ2 H2 => wipe σ2 vs = wipe σ vs ∧ te σ2 H2 Kk)
    (hd : ∀ p (zs : List Int) H', H p = none → Same H H' → H' p = some (.lst (zs.map V.int)) → zs.length = ns.length → (∀ z ∈ zs, P z) → Q (.ref p) H') : LcGo (Itl K a) H g tYes te vs σ Q :=
  x_lcJ (walk_list (xs := ns.map V.int)) (by rw [List.length_map]; exact hn) P (fun H' s => s.seq h)
    (fun i x H' H'' Kk hi s y q => by
      obtain ⟨rfl, e⟩ := y
      rw [List.getElem?_map] at e
      cases c : ns[i]? with
      | none => rw [c] at e; cases e
      | some z => rw [c] at e; cases e; exact hs i z _ Kk c s q) (fun p zs H' a b c d e => hd p zs H' a b c (by rw [List.length_map] at d; exact d) e)
theorem rep_flat {v : V} : ∀ k : Nat, (List.replicate k [v]).flatten = List.replicate k v
  | 0 => rfl
  | k + 1 => by rw [List.replicate_succ, List.flatten_cons, rep_flat k]; rfl
theorem x_rep1 {l : Addr} {v : V} {k : Int} (h : H l = some (.lst [v])) (h0 : -(2 ^ 63) ≤ k) (h1 : k < 2 ^ 63) (hz : k.toNat ≤ sizeLine) (q : ∀ p, H p = none → Q (.ref p) (upd H p (.lst (List.replicate k.toNat v)))) : zMul (.ref l) (.int k) H Q :=
  ⟨l, k, [v], rfl, rfl, h, h0, h1, by simpa using hz, fun p hp => by rw [rep_flat]; exact q p hp⟩
theorem rep_ints {c : Int} {k : Nat} : List.replicate k (V.int c) = (List.replicate k c).map V.int := by rw [List.map_replicate]
end
theorem cut_to {xs : List Int} {j : Nat} : cutV (xs.map V.int) none (some (j : Int)) = (xs.take j).map V.int := by
  unfold cutV
  rw [HT.sIx_none, HT.sIx_nat, List.drop_zero, Nat.sub_zero, List.map_take, List.length_map]
  by_cases c : j ≤ xs.length
  · rw [Nat.min_eq_left c]
  · rw [Nat.min_eq_right (by omega), List.take_of_length_le (by rw [List.length_map]; exact Nat.le_refl _), List.take_of_length_le (by rw [List.length_map]; omega)]
/-- all but one thing stays -/
def SameX (p : Addr) (H H' : Hp) : Prop := ∀ b o, b ≠ p → H b = some o → H' b = some o
theorem SameX.of {p : Addr} {H H' : Hp} (s : Same H H') : SameX p H H' := fun b o _ h => s b o h
theorem SameX.refl (p : Addr) (H : Hp) : SameX p H H := fun _ _ _ h => h
theorem SameX.trans {p : Addr} {H H' H2 : Hp} (s : SameX p H H') (t : SameX p H' H2) : SameX p H H2 := fun b o n h => t b o n (s b o n h)
theorem SameX.upd {p : Addr} {H : Hp} {o : HO} : SameX p H (L2.upd H p o) := fun b u n h => by rw [upd_ne n]; exact h
theorem SameX.go {p : Addr} {H H' H2 : Hp} (s : SameX p H H') (t : Same H' H2) : SameX p H H2 := s.trans (.of t)
theorem SameX.mut {p : Addr} {H H' : Hp} {o : HO} (s : SameX p H H') : SameX p H (L2.upd H' p o) := s.trans .upd
/-- a draw: not negative, of not too many bits -/
def Drw (d : Int) : Prop := 0 ≤ d ∧ lg d ≤ 2000000
theorem Drw.div {d m : Int} (h : Drw d) (hm : 0 < m) : Drw (d / m) := by
  have h0 := h.1
  have e : d / m ≤ d := Int.ediv_le_self _ h0
  have e0 : 0 ≤ d / m := Int.ediv_nonneg h0 (by omega)
  exact ⟨e0, Nat.le_trans (lg_le (by omega)) h.2⟩
theorem x_addT {K : PySem.W.Frag} {H : Hp} {Q : VK} {a b : Addr} {xs ys : List V} (h1 : SqT K H a xs) (h2 : SqT K H b ys) (h : xs.length + ys.length ≤ sizeLine) (n1 : xs ≠ []) (n2 : ys ≠ []) (q : ∀ p, H p = none → Q (.ref p) (upd H p (.tup (xs ++ ys)))) : zAdd K (.ref a) (.ref b) H Q :=
  .inr ⟨a, b, xs, ys, rfl, rfl, h1, h2, h, fun e => absurd e n1, fun _ e => absurd e n2, fun _ _ => q⟩
/-- an item of a list of texts -/
theorem at_strs {ns : List Str} {i : Int} (h0 : 0 ≤ i) (h1 : i < (ns.length : Int)) : ∃ z, atI (ns.map V.str) i = some (.str z) ∧ z ∈ ns := by
  have hlt : i.toNat < ns.length := by omega
  have e : i = ((i.toNat : Nat) : Int) := by omega
  refine ⟨ns[i.toNat], ?_, List.getElem_mem hlt⟩
  have e2 : atI (ns.map V.str) i = atI (ns.map V.str) ((i.toNat : Nat) : Int) := by rw [← e]
  rw [e2]
  exact atI_nat (by rw [List.getElem?_map, List.getElem?_eq_getElem hlt]; rfl)
theorem flat_strs : ∀ ns : List Str, (ns.map V.str).all flatV = true
  | [] => rfl
  | x :: xs => by rw [List.map_cons, List.all_cons, flat_strs xs]; rfl
theorem rp_strs {K : PySem.W.Frag} {G : Hp} : ∀ ns : List Str, RpAll K G (ns.map V.str) (ns.map PyData.str)
  | [] => .nil
  | x :: xs => .cons (.str x) (rp_strs xs)
theorem good_strs {n : Nat} {ns : List Str} (h : ∀ x ∈ ns, PyData.strOk x = true) : Good (n + 2) (.tuple (ns.map PyData.str)) := good_tup fun d m => by
  obtain ⟨z, hz, rfl⟩ := List.mem_map.mp m
  exact good_str (h z hz)
/-- a field's store -/
def zSetV (Cs : List Addr) (f : Str) (y x : V) (H2 : Hp) (P : Hp → Prop) : Prop := ∃ a C dx fs, x = .ref a ∧ C ∈ Cs ∧ H2 a = some (.ins C dx fs) ∧ fs.length < 1000 ∧ P (L2.upd H2 a (.ins C dx (putF f y fs)))
theorem x_setF {Cs : List Addr} {f : Str} {ta tv : TE} {nx bk ct : L2.St → Hp → Prop} {Q : VK} {σ : L2.St} {H : Hp} (q : tv σ H fun y H1 => ta σ H1 fun x H2 => zSetV Cs f y x H2 fun H3 => nx σ H3) : zSetF Cs f ta tv ⟨nx, Q, bk, ct⟩ σ H := q
theorem x_setV {Cs : List Addr} {f : Str} {y : V} {a C dx : Addr} {fs fs' : List (Str × V)} {H : Hp} {P : Hp → Prop} (h : H a = some (.ins C dx fs)) (hc : C ∈ Cs) (l : fs.length < 1000) (e : putF f y fs = fs') (q : P (L2.upd H a (.ins C dx fs'))) : zSetV Cs f y (.ref a) H P :=
  ⟨a, C, dx, fs, rfl, hc, h, l, by rw [e]; exact q⟩
theorem x_fldV {Cs : List Addr} {f : Str} {v : V} {a C dx : Addr} {fs : List (Str × V)} {H : Hp} {Q : VK} (h : H a = some (.ins C dx fs)) (hc : C ∈ Cs) (l : fs.lookup f = some v) (q : Q v H) : zFldV Cs f (.ref a) H Q := x_fld hc h l q
theorem e_uu {H : Hp} {a : Addr} {o u : HO} : L2.upd (L2.upd H a o) a u = L2.upd H a u := by
  funext b
  by_cases c : b = a
  · subst c; rw [upd_same, upd_same]
  · rw [upd_ne c, upd_ne c, upd_ne c]
theorem st_upd {K : PySem.W.Frag} {H : Hp} {a b : Addr} {o : HO} {xs : List V} (n : b ≠ a) (h : SqT K H b xs) : SqT K (L2.upd H a o) b xs := by
  rcases h with (h | ⟨u, h⟩) | h
  · exact .inl (.inl (hp_ne h n))
  · exact .inl (.inr ⟨u, hp_ne h n⟩)
  · exact .inr h
theorem sl_upd {K : PySem.W.Frag} {H : Hp} {a b : Addr} {o : HO} {xs : List V} (n : b ≠ a) (h : SqL K H b xs) : SqL K (L2.upd H a o) b xs := by
  rcases h with (h | ⟨u, h⟩) | h
  · exact .inl (.inl (hp_ne h n))
  · exact .inl (.inr ⟨u, hp_ne h n⟩)
  · exact .inr h
theorem pf_nil {f : Str} {v : V} : putF f v [] = [(f, v)] := rfl
theorem pf_eq {f : Str} {v x : V} {r : List (Str × V)} : putF f v ((f, x) :: r) = (f, v) :: r := by
  show (if f = f then _ else _) = _
  rw [if_pos rfl]
theorem pf_ne {f g : Str} {v x : V} {r r' : List (Str × V)} (h : g ≠ f) (e : putF f v r = r') : putF f v ((g, x) :: r) = (g, x) :: r' := by
  show (if g = f then _ else _) = _
  rw [if_neg h, e]
theorem ne_non {H : Hp} {a b : Addr} {o : HO} (h : H a = none) (e : H b = some o) : b ≠ a := ne_of_none e h
theorem cut_from {xs : List Int} {j : Nat} (h : j ≤ xs.length) : cutV (xs.map V.int) (some (j : Int)) none = (xs.drop j).map V.int := by
  unfold cutV
  rw [HT.sIx_none, HT.sIx_nat, List.length_map, Nat.min_eq_left h, List.map_drop, List.take_of_length_le (by rw [List.length_drop, List.length_map]; exact Nat.le_refl _)]
theorem len_int {n : Int} (h : n.natAbs.log2 < 1920) : (Str.ofString (toString n)).length ≤ 1000 := by
  have b : n.natAbs < 2 ^ (1919 + 1) := Nat.lt_of_lt_of_le Nat.lt_log2_self (Nat.pow_le_pow_right (by decide) h)
  have t : (2 : Nat) ^ 1920 ≤ 10 ^ 900 := by decide +kernel
  have p : ∀ m : Nat, m < 2 ^ 1920 → (toString ((m : Nat) : Int)).toList.length ≤ 900 := fun m hm => by
    have z := PyProof.Rows.toString_length_le (v := (m : Int)) (by omega) (k := 900) (by decide) (by
      have e : ((10 : Int) ^ 900) = ((10 ^ 900 : Nat) : Int) := by
        first
          | exact (Int.natCast_pow 10 900).symm
          | simp
      rw [e]
      exact Int.ofNat_lt.mpr (Nat.lt_of_lt_of_le hm t))
    rw [PyProof.Rows.ofString_length] at z
    exact z
  rw [PyProof.Rows.ofString_length]
  cases n with
  | ofNat m => exact Nat.le_trans (p m b) (by decide)
  | negSucc m =>
    have e : toString (Int.negSucc m) = "-" ++ toString ((Nat.succ m : Nat) : Int) := rfl
    rw [e, String.toList_append, List.length_append]
    have : (toString ((Nat.succ m : Nat) : Int)).toList.length ≤ 900 := p (m + 1) b
    have e2 : ("-" : String).toList.length = 1 := by decide
    omega
theorem len_cat (a b : Str) : (a ++ b).length = a.length + b.length := by
  show (a ++ b).cps.size = _
  exact Array.size_append
theorem atI_mapI {ns : List Int} {i : Nat} {z : Int} (h : ns[i]? = some z) : atI (ns.map V.int) (i : Int) = some (.int z) := at_of rfl (by rw [List.getElem?_map, h]; rfl)
end Z
/-! the addresses of the package's classes and tuples -/
namespace Z
open PySem
structure Nm where
  c_LineError : Addr := 0
  c_BadPlan : Addr := 0
  c_NoSuchExchange : Addr := 0
  c_Plan : Addr := 0
  c_NoSuchTrunk : Addr := 0
  c_NoSuchCircuit : Addr := 0
  c_BadNumber : Addr := 0
  c_BadOctets : Addr := 0
  c_BadEntry : Addr := 0
  c_Journal : Addr := 0
  c_Record : Addr := 0
  c_NoIdleCircuit : Addr := 0
  c_NotHeld : Addr := 0
  c_Ends : Addr := 0
  c_NoSuchWord : Addr := 0
  c_Wire : Addr := 0
  c_NoSuchLine : Addr := 0
  c_LineDesk : Addr := 0
  c_Call : Addr := 0
  c_Board : Addr := 0
  c_ExchangeDown : Addr := 0
  c_ExchangeUp : Addr := 0
  c_LineBusy : Addr := 0
  c_NotRinging : Addr := 0
  c_NothingToHangUp : Addr := 0
  c_Exchange : Addr := 0
  c_Network : Addr := 0
  c_CallFile : Addr := 0
  c_Band : Addr := 0
  c_Charge : Addr := 0
  c_JoinedCall : Addr := 0
  c_Posting : Addr := 0
  c_Section : Addr := 0
  c_BadFile : Addr := 0
  c_NothingToFile : Addr := 0
  c_ForeignFile : Addr := 0
  c_ClashingFile : Addr := 0
  c_JournalTurned : Addr := 0
  c_BadHistory : Addr := 0
  c_Shelf : Addr := 0
  c_Collector : Addr := 0
  c_Tariff : Addr := 0
  c_ChargeRun : Addr := 0
  c_Contracts : Addr := 0
  c_Ledger : Addr := 0
  c_Office : Addr := 0
  c_Exporter : Addr := 0
  c_NoSuchFile : Addr := 0
  g_CAUSES : Addr := 0
  g_ROLES : Addr := 0
  g_KINDS : Addr := 0
  g_OPEN_SHAPES : Addr := 0
  g_DOWN_KINDS : Addr := 0
  g_UP_KINDS : Addr := 0
  g_BILLING_KINDS : Addr := 0
  g_MARKS : Addr := 0
  g_HEAD_ROLES : Addr := 0
  g_LEG_ROLES : Addr := 0
end Z
/-! Cl: the package's classes by name -/
namespace Y
open PySem Z
inductive Cl where
  | LineError | BadPlan | NoSuchExchange | Plan | NoSuchTrunk | NoSuchCircuit | BadNumber | BadOctets | BadEntry | Journal | Record | NoIdleCircuit | NotHeld | Ends | NoSuchWord | Wire | NoSuchLine | LineDesk | Call | Board | ExchangeDown | ExchangeUp | LineBusy | NotRinging | NothingToHangUp | Exchange | Network | CallFile | Band | Charge | JoinedCall | Posting | Section | BadFile | NothingToFile | ForeignFile | ClashingFile | JournalTurned | BadHistory | Shelf | Collector | Tariff | ChargeRun | Contracts | Ledger | Office | Exporter | NoSuchFile
  deriving DecidableEq
def _root_.Z.Nm.at (N : Nm) : Cl → Addr
  | .LineError => N.c_LineError
  | .BadPlan => N.c_BadPlan
  | .NoSuchExchange => N.c_NoSuchExchange
  | .Plan => N.c_Plan
  | .NoSuchTrunk => N.c_NoSuchTrunk
  | .NoSuchCircuit => N.c_NoSuchCircuit
  | .BadNumber => N.c_BadNumber
  | .BadOctets => N.c_BadOctets
  | .BadEntry => N.c_BadEntry
  | .Journal => N.c_Journal
  | .Record => N.c_Record
  | .NoIdleCircuit => N.c_NoIdleCircuit
  | .NotHeld => N.c_NotHeld
  | .Ends => N.c_Ends
  | .NoSuchWord => N.c_NoSuchWord
  | .Wire => N.c_Wire
  | .NoSuchLine => N.c_NoSuchLine
  | .LineDesk => N.c_LineDesk
  | .Call => N.c_Call
  | .Board => N.c_Board
  | .ExchangeDown => N.c_ExchangeDown
  | .ExchangeUp => N.c_ExchangeUp
  | .LineBusy => N.c_LineBusy
  | .NotRinging => N.c_NotRinging
  | .NothingToHangUp => N.c_NothingToHangUp
  | .Exchange => N.c_Exchange
  | .Network => N.c_Network
  | .CallFile => N.c_CallFile
  | .Band => N.c_Band
  | .Charge => N.c_Charge
  | .JoinedCall => N.c_JoinedCall
  | .Posting => N.c_Posting
  | .Section => N.c_Section
  | .BadFile => N.c_BadFile
  | .NothingToFile => N.c_NothingToFile
  | .ForeignFile => N.c_ForeignFile
  | .ClashingFile => N.c_ClashingFile
  | .JournalTurned => N.c_JournalTurned
  | .BadHistory => N.c_BadHistory
  | .Shelf => N.c_Shelf
  | .Collector => N.c_Collector
  | .Tariff => N.c_Tariff
  | .ChargeRun => N.c_ChargeRun
  | .Contracts => N.c_Contracts
  | .Ledger => N.c_Ledger
  | .Office => N.c_Office
  | .Exporter => N.c_Exporter
  | .NoSuchFile => N.c_NoSuchFile
/-- is the one a subclass of the other (errors) -/
def Cl.sub : Cl → Cl → Bool
  | .LineError, .LineError => true
  | .BadPlan, .BadPlan => true
  | .BadPlan, .LineError => true
  | .NoSuchExchange, .NoSuchExchange => true
  | .NoSuchExchange, .LineError => true
  | .NoSuchTrunk, .NoSuchTrunk => true
  | .NoSuchTrunk, .LineError => true
  | .NoSuchCircuit, .NoSuchCircuit => true
  | .NoSuchCircuit, .LineError => true
  | .NoSuchLine, .NoSuchLine => true
  | .NoSuchLine, .LineError => true
  | .NoSuchWord, .NoSuchWord => true
  | .NoSuchWord, .LineError => true
  | .BadEntry, .BadEntry => true
  | .BadEntry, .LineError => true
  | .BadNumber, .BadNumber => true
  | .BadNumber, .LineError => true
  | .BadOctets, .BadOctets => true
  | .BadOctets, .LineError => true
  | .NoIdleCircuit, .NoIdleCircuit => true
  | .NoIdleCircuit, .LineError => true
  | .NotHeld, .NotHeld => true
  | .NotHeld, .LineError => true
  | .ExchangeDown, .ExchangeDown => true
  | .ExchangeDown, .LineError => true
  | .ExchangeUp, .ExchangeUp => true
  | .ExchangeUp, .LineError => true
  | .LineBusy, .LineBusy => true
  | .LineBusy, .LineError => true
  | .NotRinging, .NotRinging => true
  | .NotRinging, .LineError => true
  | .NothingToHangUp, .NothingToHangUp => true
  | .NothingToHangUp, .LineError => true
  | .BadFile, .BadFile => true
  | .BadFile, .LineError => true
  | .NothingToFile, .NothingToFile => true
  | .NothingToFile, .LineError => true
  | .ForeignFile, .ForeignFile => true
  | .ForeignFile, .LineError => true
  | .ClashingFile, .ClashingFile => true
  | .ClashingFile, .LineError => true
  | .NoSuchFile, .NoSuchFile => true
  | .NoSuchFile, .LineError => true
  | .JournalTurned, .JournalTurned => true
  | .JournalTurned, .LineError => true
  | .BadHistory, .BadHistory => true
  | .BadHistory, .LineError => true
  | _, _ => false
end Y
/-! Ya: values without a heap; what they stand for in a heap; the state of a def. -/
namespace Y
open PySem PySem.Spec PyProof.Rows L2 Z

/-! ### partial heaps -/
def emp : Hp := fun _ => none
def un (h k : Hp) : Hp := fun a => match h a with | some o => some o | none => k a
def Disj (h k : Hp) : Prop := ∀ a, h a = none ∨ k a = none
section
variable {h k l h1 h2 h3 H : Hp} {a : Addr} {o : HO}
theorem un_some (e : h a = some o) : un h k a = some o := by unfold un; rw [e]
theorem un_none (e : h a = none) : un h k a = k a := by unfold un; rw [e]
theorem un_cases (e : un h k a = some o) : h a = some o ∨ (h a = none ∧ k a = some o) := by
  unfold un at e
  cases q : h a with
  | some u => rw [q] at e; exact .inl e
  | none => rw [q] at e; exact .inr ⟨rfl, e⟩
theorem un_eq_none : un h k a = none ↔ h a = none ∧ k a = none := by
  unfold un
  cases q : h a with
  | some u => simp
  | none => simp
theorem un_assoc : un (un h k) l = un h (un k l) := by
  funext a; unfold un; cases h a <;> rfl
theorem un_emp : un h emp = h := by funext a; unfold un emp; cases h a <;> rfl
theorem emp_un : un emp h = h := rfl
theorem Disj.symm (d : Disj h k) : Disj k h := fun a => (d a).symm
theorem un_comm (d : Disj h k) : un h k = un k h := by
  funext a
  unfold un
  rcases d a with e | e <;> rw [e]
  · cases k a <;> rfl
  · cases h a <;> rfl
theorem disj_emp : Disj h emp := fun _ => .inr rfl
theorem emp_disj : Disj emp h := fun _ => .inl rfl
theorem disj_un : Disj (un h k) l ↔ Disj h l ∧ Disj k l := by
  constructor
  · intro d
    exact ⟨fun a => (d a).elim (fun e => .inl (un_eq_none.mp e).1) .inr, fun a => (d a).elim (fun e => .inl (un_eq_none.mp e).2) .inr⟩
  · rintro ⟨d1, d2⟩ a
    rcases d1 a with e | e
    · rcases d2 a with e2 | e2
      · exact .inl (un_eq_none.mpr ⟨e, e2⟩)
      · exact .inr e2
    · exact .inr e
theorem disj_un' : Disj l (un h k) ↔ Disj l h ∧ Disj l k :=
  ⟨fun d => let ⟨a, b⟩ := disj_un.mp d.symm; ⟨a.symm, b.symm⟩, fun d => (disj_un.mpr ⟨d.1.symm, d.2.symm⟩).symm⟩
theorem same_un (s1 : Same h H) (s2 : Same k H) : Same (un h k) H := fun a o e => (un_cases e).elim (s1 a o) fun e => s2 a o e.2
theorem same_un_l (s : Same (un h k) H) : Same h H := fun a o e => s a o (un_some e)
theorem same_un_r (d : Disj h k) (s : Same (un h k) H) : Same k H := fun a o e => by
  rcases d a with q | q
  · exact s a o ((un_none q).trans e)
  · rw [q] at e; cases e
theorem same_emp : Same emp H := fun _ _ e => nomatch e
theorem disj_upd (n : k a = none) (d : Disj h k) : Disj (upd h a o) k := fun b => by
  by_cases c : b = a
  · subst c; exact .inr n
  · rw [upd_ne c]; exact d b
theorem upd_disj (d : Disj (upd h a o) k) : k a = none ∧ ((n : h a = none) → Disj h k) := by
  refine ⟨?_, fun n b => ?_⟩
  · rcases d a with e | e
    · rw [upd_same] at e; cases e
    · exact e
  · by_cases c : b = a
    · subst c; exact .inl n
    · have := d b; rw [upd_ne c] at this; exact this
theorem same_upd_l (s : Same (upd h a o) H) (n : h a = none) : Same h H := fun b u e => s b u ((upd_ne (ne_of_none e n)).trans e)
theorem upd_un : upd (un h k) a o = un (upd h a o) k := by
  funext b
  by_cases c : b = a
  · subst c; rw [upd_same, un_some upd_same]
  · rw [upd_ne c]; unfold un; rw [upd_ne c]
theorem upd_eq_un : upd h a o = un (upd emp a o) h := by rw [← upd_un, emp_un]
end

/-! ### values -/
/-- the shape of a node -/
inductive Sh where
  | tup | lst | slst | dk (ks : List Key) | dt (ks : List (List Key)) | ins (C : Cl) (fs : List String)
/-- what never changes any more -/
inductive D where
  | non | bl (b : Bool) | int (i : Int) | str (s : Str) | obj (a : Addr) | nd (s : Sh) (ds : List D)
/-- what a name, a field or an item holds -/
inductive T where
  | val (d : D) | unk | hole (a : Addr) | nd (s : Sh) (ts : List T) | lk (a : Addr) (o : Option (Obj × HO)) (s : Sh) (ts : List T)
abbrev D.tup (ds : List D) : D := .nd .tup ds
abbrev D.lst (ds : List D) : D := .nd .lst ds
abbrev Env := List T
abbrev Sg := List (Addr × T)

def isTup (o : HO) : Prop := ∃ xs, o = .tup xs
def isDict (o : HO) : Prop := (∃ kvs, o = .dK kvs) ∨ ∃ kvs, o = .dT kvs
section
variable (K : PySem.W.Frag) (N : Nm)
def Sh.is (s : Sh) (vs : List V) (o : HO) : Prop := match s with
  | .tup => o = .tup vs
  | .lst => o = .lst vs
  | .slst => False
  | .dk ks => o = .dK (ks.zip vs) ∧ ks.length = vs.length ∧ ks.Nodup
  | .dt ks => o = .dT (ks.zip vs) ∧ ks.length = vs.length ∧ ks.Nodup
  | .ins C fs => ∃ dx, o = .ins (N.at C) dx ((fs.map Str.ofString).zip vs) ∧ fs.length = vs.length
/-- a tuple of the module's own: words of two signs and more -/
def KStr (vs : List V) : Prop := vs ≠ [] ∧ ∀ v ∈ vs, ∃ s : Str, v = .str s ∧ 2 ≤ s.length
def Sh.rd (G : Hp) (a : Addr) (s : Sh) (vs : List V) : Prop := match s with
  | .tup => G a = some (.tup vs) ∨ (KTup K a vs ∧ KStr vs)
  | .slst => SqL K G a vs
  | s => ∃ o, G a = some o ∧ s.is N vs o
mutual
inductive Rp (G : Hp) : V → D → Prop
  | non : Rp G .non .non
  | bl (b : Bool) : Rp G (.bl b) (.bl b)
  | int (i : Int) : Rp G (.int i) (.int i)
  | str (x : Str) : Rp G (.str x) (.str x)
  | obj (a : Addr) : Rp G (.ref a) (.obj a)
  | nd {a : Addr} {s : Sh} {vs : List V} {ds : List D} : s.rd K N G a vs → RpAll G vs ds → Rp G (.ref a) (.nd s ds)
inductive RpAll (G : Hp) : List V → List D → Prop
  | nil : RpAll G [] []
  | cons {v : V} {vs : List V} {d : D} {ds : List D} : Rp G v d → RpAll G vs ds → RpAll G (v :: vs) (d :: ds)
end
mutual
inductive RepT (G : Hp) : V → T → Hp → Prop
  | val {v : V} {d : D} : Rp K N G v d → RepT G v (.val d) emp
  | unk {v : V} : RepT G v .unk emp
  | hole (a : Addr) : RepT G (.ref a) (.hole a) emp
  | nd {a : Addr} {s : Sh} {vs : List V} {ts : List T} {o : HO} {h : Hp} : s.is N vs o → s ≠ .tup → RepTs G vs ts h → h a = none → RepT G (.ref a) (.nd s ts) (upd h a o)
  | lk {a : Addr} {s : Sh} {vs : List V} {ts : List T} {ob : Option (Obj × HO)} {o o' : HO} {h : Hp} : s.is N vs o → s ≠ .tup → (o' = match ob with | none => o | some b => .frz b.1 o) → RepTs G vs ts h → h a = none → (∀ b, ob = some b → o = b.2) → RepT G (.ref a) (.lk a ob s ts) (upd h a o')
inductive RepTs (G : Hp) : List V → List T → Hp → Prop
  | nil : RepTs G [] [] emp
  | cons {v : V} {t : T} {vs : List V} {ts : List T} {h1 h2 : Hp} : RepT G v t h1 → RepTs G vs ts h2 → Disj h1 h2 → RepTs G (v :: vs) (t :: ts) (un h1 h2)
end
/-- the roots: what is not known may be missing -/
inductive RepR (G : Hp) : List (Option V) → List T → Hp → Prop
  | nil : RepR G [] [] emp
  | non {vs : List (Option V)} {ts : List T} {h : Hp} : RepR G vs ts h → RepR G (none :: vs) (.unk :: ts) h
  | cons {v : V} {t : T} {vs : List (Option V)} {ts : List T} {h1 h2 : Hp} : RepT K N G v t h1 → RepR G vs ts h2 → Disj h1 h2 → RepR G (some v :: vs) (t :: ts) (un h1 h2)
end
/-- what is frozen, in a heap where dicts may be locked -/
def SameR (G H : Hp) : Prop := ∀ a o, G a = some o → H a = some o ∨ (isDict o ∧ ∃ b, H a = some (.frz b o))
theorem Same.r {G H : Hp} (s : Same G H) : SameR G H := fun a o e => .inl (s a o e)
theorem SameR.refl (G : Hp) : SameR G G := fun _ _ e => .inl e
theorem SameR.then {G H H' : Hp} (s : SameR G H) (t : Same H H') : SameR G H' := fun a o e => (s a o e).imp (t a o) fun ⟨d, b, q⟩ => ⟨d, b, t _ _ q⟩
theorem SameR.pre {G G' H : Hp} (t : Same G G') (s : SameR G' H) : SameR G H := fun a o e => s a o (t a o e)
/-- the frozen part has grown: with what is not of the frame, or with tuples -/
structure Gr (F G G' : Hp) : Prop where
  gg : Same G G'
  nw : ∀ b o, G' b = some o → G b = none → F b = none ∨ isTup o
theorem Gr.refl {F G : Hp} : Gr F G G := ⟨Same.refl _, fun b o e n => by rw [n] at e; cases e⟩
theorem Gr.trans {F G G1 G2 : Hp} (a : Gr F G G1) (b : Gr F G1 G2) : Gr F G G2 := ⟨a.gg.trans b.gg, fun c o e n => by
  cases q : G1 c with
  | none => exact b.nw c o e q
  | some u =>
    have := b.gg c u q
    rw [e] at this
    cases this
    exact a.nw c o q n⟩
theorem Gr.less {F F' G G' : Hp} (g : Gr F G G') (s : ∀ a, F a = none → F' a = none) : Gr F' G G' := ⟨g.gg, fun b o e n => (g.nw b o e n).imp (s b) id⟩

/-! ### the relations grow with what is frozen -/
section
variable {K : PySem.W.Frag} {N : Nm} {G G' H H' F : Hp}
theorem Sh.rd_up {s : Sh} {a : Addr} {vs : List V} (t : Same G G') (h : s.rd K N G a vs) : s.rd K N G' a vs := by
  cases s with
  | tup => exact h.imp (t a _) id
  | slst => exact sl_same t h
  | lst => obtain ⟨o, e, q⟩ := h; exact ⟨o, t _ _ e, q⟩
  | dk ks => obtain ⟨o, e, q⟩ := h; exact ⟨o, t _ _ e, q⟩
  | dt ks => obtain ⟨o, e, q⟩ := h; exact ⟨o, t _ _ e, q⟩
  | ins C fs => obtain ⟨o, e, q⟩ := h; exact ⟨o, t _ _ e, q⟩
mutual
theorem Rp.up (s : Same G G') : ∀ {v : V} {d : D}, Rp K N G v d → Rp K N G' v d
  | _, _, .non => .non
  | _, _, .bl b => .bl b
  | _, _, .int b => .int b
  | _, _, .str b => .str b
  | _, _, .obj b => .obj b
  | _, _, .nd r a => .nd (Sh.rd_up s r) (RpAll.up s a)
theorem RpAll.up (s : Same G G') : ∀ {vs : List V} {ds : List D}, RpAll K N G vs ds → RpAll K N G' vs ds
  | _, _, .nil => .nil
  | _, _, .cons h a => .cons (Rp.up s h) (RpAll.up s a)
end
mutual
theorem RepT.up (s : Same G G') : ∀ {v : V} {t : T} {h : Hp}, RepT K N G v t h → RepT K N G' v t h
  | _, _, _, .val r => .val (r.up s)
  | _, _, _, .unk => .unk
  | _, _, _, .hole a => .hole a
  | _, _, _, .nd i n r e => .nd i n (RepTs.up s r) e
  | _, _, _, .lk i n q r e z => .lk i n q (RepTs.up s r) e z
theorem RepTs.up (s : Same G G') : ∀ {vs : List V} {ts : List T} {h : Hp}, RepTs K N G vs ts h → RepTs K N G' vs ts h
  | _, _, _, .nil => .nil
  | _, _, _, .cons r t d => .cons (RepT.up s r) (RepTs.up s t) d
end
theorem RepR.up (s : Same G G') : ∀ {vs : List (Option V)} {ts : List T} {h : Hp}, RepR K N G vs ts h → RepR K N G' vs ts h
  | _, _, _, .nil => .nil
  | _, _, _, .non t => .non (RepR.up s t)
  | _, _, _, .cons r t d => .cons (RepT.up s r) (RepR.up s t) d
theorem RpAll.len : ∀ {vs : List V} {ds : List D}, RpAll K N G vs ds → vs.length = ds.length
  | _, _, .nil => rfl
  | _, _, .cons _ a => congrArg (· + 1) (RpAll.len a)
theorem RepTs.len : ∀ {vs : List V} {ts : List T} {h : Hp}, RepTs K N G vs ts h → vs.length = ts.length
  | _, _, _, .nil => rfl
  | _, _, _, .cons _ a _ => congrArg (· + 1) (RepTs.len a)
theorem RepR.len : ∀ {vs : List (Option V)} {ts : List T} {h : Hp}, RepR K N G vs ts h → vs.length = ts.length
  | _, _, _, .nil => rfl
  | _, _, _, .non a => congrArg (· + 1) (RepR.len a)
  | _, _, _, .cons _ a _ => congrArg (· + 1) (RepR.len a)
/-- what stands in a footprint is no tuple, nor a locked one -/
def NoTup (h : Hp) : Prop := ∀ a o, h a = some o → ¬ isTup o ∧ ∀ b u, o = .frz b u → ¬ isTup u
theorem noTup_un {h k : Hp} (a : NoTup h) (b : NoTup k) : NoTup (un h k) := fun c o e => (un_cases e).elim (a c o) fun e => b c o e.2
theorem noTup_upd {h : Hp} {x : Addr} {o : HO} (a : NoTup h) (n : ¬ isTup o ∧ ∀ b u, o = .frz b u → ¬ isTup u) : NoTup (upd h x o) := fun c u e => by
  by_cases q : c = x
  · subst q; rw [upd_same] at e; cases e; exact n
  · rw [upd_ne q] at e; exact a c u e
theorem Sh.is_noTup {s : Sh} {vs : List V} {o : HO} (i : s.is N vs o) (n : s ≠ .tup) : ¬ isTup o ∧ ∀ b u, o ≠ .frz b u := by
  cases s with
  | tup => exact (n rfl).elim
  | slst => exact i.elim
  | lst => subst i; exact ⟨fun ⟨_, e⟩ => (nomatch e), fun _ _ e => nomatch e⟩
  | dk ks => obtain ⟨rfl, _⟩ := i; exact ⟨fun ⟨_, e⟩ => (nomatch e), fun _ _ e => nomatch e⟩
  | dt ks => obtain ⟨rfl, _⟩ := i; exact ⟨fun ⟨_, e⟩ => (nomatch e), fun _ _ e => nomatch e⟩
  | ins C fs => obtain ⟨dx, rfl, _⟩ := i; exact ⟨fun ⟨_, e⟩ => (nomatch e), fun _ _ e => nomatch e⟩
mutual
theorem RepT.noTup : ∀ {v : V} {t : T} {h : Hp}, RepT K N G v t h → NoTup h
  | _, _, _, .val _ => fun _ _ e => nomatch e
  | _, _, _, .unk => fun _ _ e => nomatch e
  | _, _, _, .hole _ => fun _ _ e => nomatch e
  | _, _, _, .nd i n r _ => noTup_upd (RepTs.noTup r) ⟨(Sh.is_noTup i n).1, fun b u e => ((Sh.is_noTup i n).2 b u e).elim⟩
  | _, _, _, .lk (ob := ob) i n q r _ _ => noTup_upd (RepTs.noTup r) (by
      cases ob with
      | none => subst q; exact ⟨(Sh.is_noTup i n).1, fun b u e => ((Sh.is_noTup i n).2 b u e).elim⟩
      | some b => subst q; exact ⟨fun ⟨_, e⟩ => (nomatch e), fun b u e => by cases e; exact (Sh.is_noTup i n).1⟩)
theorem RepTs.noTup : ∀ {vs : List V} {ts : List T} {h : Hp}, RepTs K N G vs ts h → NoTup h
  | _, _, _, .nil => fun _ _ e => nomatch e
  | _, _, _, .cons r t _ => noTup_un (RepT.noTup r) (RepTs.noTup t)
end
theorem RepR.noTup : ∀ {vs : List (Option V)} {ts : List T} {h : Hp}, RepR K N G vs ts h → NoTup h
  | _, _, _, .nil => fun _ _ e => nomatch e
  | _, _, _, .non t => RepR.noTup t
  | _, _, _, .cons r t _ => noTup_un (RepT.noTup r) (RepR.noTup t)
/-- what is owned stays apart from what gets frozen -/
theorem disj_gr {h : Hp} (nt : NoTup h) (hF : ∀ a, h a ≠ none → F a ≠ none) (g : Gr F G G') (sr : SameR G' H') (sh : Same h H') (d : Disj h G) : Disj h G' := fun a => by
  cases q : h a with
  | none => exact .inl rfl
  | some o =>
    right
    cases q' : G' a with
    | none => rfl
    | some u =>
      have n : G a = none := (d a).resolve_left (by rw [q]; exact fun e => nomatch e)
      rcases g.nw a u q' n with z | z
      · exact (hF a (by rw [q]; exact fun e => nomatch e) z).elim
      · have e := sh a o q
        obtain ⟨xs, rfl⟩ := z
        rcases sr a _ q' with z | ⟨z, _⟩
        · rw [z] at e
          cases e
          exact ((nt a _ q).1 ⟨xs, rfl⟩).elim
        · rcases z with ⟨_, z⟩ | ⟨_, z⟩ <;> cases z
end

/-! ### the state: roots, what is frozen, the frame -/
structure RelR (K : PySem.W.Frag) (N : Nm) (G F : Hp) (rs : List (Option V)) (ts : List T) (H : Hp) : Prop where
  gh : SameR G H
  fh : Same F H
  own : ∃ h, RepR K N G rs ts h ∧ Same h H ∧ Disj h F ∧ Disj h G
/-- a calm growth: nothing that stood has changed -/
structure Ext (G H G' H' : Hp) : Prop where
  hh : Same H H'
  gg : Same G G'
  gh : SameR G' H'
  nw : ∀ b o, G' b = some o → G b = none → H b = none ∨ isTup o
theorem Ext.refl {G H : Hp} (s : SameR G H) : Ext G H G H := ⟨Same.refl _, Same.refl _, s, fun b o e n => by rw [n] at e; cases e⟩
theorem Ext.trans {G H G1 H1 G2 H2 : Hp} (a : Ext G H G1 H1) (b : Ext G1 H1 G2 H2) : Ext G H G2 H2 := ⟨a.hh.trans b.hh, a.gg.trans b.gg, b.gh, fun c o e n => by
  cases q : G1 c with
  | none => exact (b.nw c o e q).imp (fun z => a.hh.free z) id
  | some u =>
    have := b.gg c u q
    rw [e] at this
    cases this
    exact a.nw c o q n⟩
theorem Ext.gr {G H G' H' F : Hp} (e : Ext G H G' H') (s : Same F H) : Gr F G G' := ⟨e.gg, fun b o q n => (e.nw b o q n).imp (fun z => s.free z) id⟩
/-- a heap that has grown, the frozen part as it was -/
theorem Ext.same {G H H' : Hp} (s : SameR G H) (t : Same H H') : Ext G H G H' := ⟨t, Same.refl _, s.then t, fun b o e n => by rw [n] at e; cases e⟩
section
variable {K : PySem.W.Frag} {N : Nm} {G G' H H' F : Hp} {rs : List (Option V)} {ts : List T}
theorem RelR.ext (r : RelR K N G F rs ts H) (e : Ext G H G' H') : RelR K N G' F rs ts H' := by
  obtain ⟨gh, fh, h, rr, sh, df, dg⟩ := r
  refine ⟨e.gh, fh.trans e.hh, h, rr.up e.gg, sh.trans e.hh, df, ?_⟩
  refine disj_gr (F := H) rr.noTup (fun a q z => ?_) ⟨e.gg, e.nw⟩ e.gh (sh.trans e.hh) dg
  cases p : h a with
  | none => exact q p
  | some o => rw [sh a o p] at z; cases z
end
/-- something read, not owned -/
def Bw (K : PySem.W.Frag) (N : Nm) (G H : Hp) (v : V) (t : T) : Prop := ∃ h, RepT K N G v t h ∧ Same h H
theorem Bw.ext {K : PySem.W.Frag} {N : Nm} {G G' H H' : Hp} {v : V} {t : T} (b : Bw K N G H v t) (e : Ext G H G' H') : Bw K N G' H' v t := let ⟨h, r, s⟩ := b; ⟨h, r.up e.gg, s.trans e.hh⟩
theorem Bw.val {K : PySem.W.Frag} {N : Nm} {G H : Hp} {v : V} {d : D} (b : Bw K N G H v (.val d)) : Rp K N G v d := by
  obtain ⟨_, r, _⟩ := b
  cases r with
  | val r => exact r
theorem Bw.of {K : PySem.W.Frag} {N : Nm} {G H : Hp} {v : V} {d : D} (r : Rp K N G v d) : Bw K N G H v (.val d) := ⟨emp, .val r, same_emp⟩
def boxes (S : Sg) : List (Option V) := S.map fun p => some (.ref p.1)
def RelT (K : PySem.W.Frag) (N : Nm) (G F : Hp) (vs : List V) (us : List T) (ε : Env) (S : Sg) (σ : L2.St) (H : Hp) : Prop :=
  RelR K N G F (vs.map some ++ (σ ++ boxes S)) (us ++ (ε ++ S.map (·.2))) H ∧ σ.length = ε.length ∧ vs.length = us.length
abbrev Rel (K : PySem.W.Frag) (N : Nm) (G F : Hp) (ε : Env) (S : Sg) (σ : L2.St) (H : Hp) : Prop := RelT K N G F [] [] ε S σ H
end Y
/-! Yb: places in the state; freezing. -/
namespace Y
open PySem PySem.Spec PyProof.Rows L2 Z

def getT : List Nat → T → Option T
  | [], t => some t
  | j :: p, .nd _ ts => (ts[j]?).bind (getT p)
  | j :: p, .lk _ _ _ ts => (ts[j]?).bind (getT p)
  | _ :: _, _ => none
def setT (u : T) : List Nat → T → T
  | [], _ => u
  | j :: p, .nd s ts => .nd s (match ts[j]? with | some c => ts.set j (setT u p c) | none => ts)
  | j :: p, .lk a o s ts => .lk a o s (match ts[j]? with | some c => ts.set j (setT u p c) | none => ts)
  | _ :: _, t => t
/-- the value that stands there -/
def kids : HO → List V
  | .lst vs => vs
  | .dK kvs => kvs.map (·.2)
  | .dT kvs => kvs.map (·.2)
  | .ins _ _ fs => fs.map (·.2)
  | .frz _ (.lst vs) => vs
  | .frz _ (.dK kvs) => kvs.map (·.2)
  | .frz _ (.dT kvs) => kvs.map (·.2)
  | .frz _ (.ins _ _ fs) => fs.map (·.2)
  | _ => []
def vAt (H : Hp) : List Nat → V → Option V
  | [], v => some v
  | j :: p, .ref a => (H a).bind fun o => ((kids o)[j]?).bind (vAt H p)
  | _ :: _, _ => none
theorem zip_snd {α β : Type} : ∀ {xs : List α} {ys : List β}, xs.length = ys.length → (xs.zip ys).map (·.2) = ys
  | [], [], _ => rfl
  | x :: xs, y :: ys, h => by
    rw [List.zip_cons_cons, List.map_cons, zip_snd (by simpa using h)]
theorem zip_fst {α β : Type} : ∀ {xs : List α} {ys : List β}, xs.length = ys.length → (xs.zip ys).map (·.1) = xs
  | [], [], _ => rfl
  | x :: xs, y :: ys, h => by
    rw [List.zip_cons_cons, List.map_cons, zip_fst (by simpa using h)]
section
variable {K : PySem.W.Frag} {N : Nm} {G G' H H' F : Hp}
theorem Sh.kids {s : Sh} {vs : List V} {o : HO} (i : s.is N vs o) (n : s ≠ .tup) : kids o = vs := by
  cases s with
  | tup => exact (n rfl).elim
  | slst => exact i.elim
  | lst => subst i; rfl
  | dk ks => obtain ⟨rfl, l⟩ := i; exact zip_snd l.1
  | dt ks => obtain ⟨rfl, l⟩ := i; exact zip_snd l.1
  | ins C fs => obtain ⟨dx, rfl, l⟩ := i; exact zip_snd (by rw [List.length_map]; exact l)
theorem Sh.kidsF {s : Sh} {vs : List V} {o : HO} {b : Obj} (i : s.is N vs o) (n : s ≠ .tup) : Y.kids (.frz b o) = vs := by
  cases s with
  | tup => exact (n rfl).elim
  | slst => exact i.elim
  | lst => subst i; rfl
  | dk ks => obtain ⟨rfl, l⟩ := i; exact zip_snd l.1
  | dt ks => obtain ⟨rfl, l⟩ := i; exact zip_snd l.1
  | ins C fs => obtain ⟨dx, rfl, l⟩ := i; exact zip_snd (by rw [List.length_map]; exact l)
/-- one of several -/
theorem RepTs.at : ∀ {vs : List V} {ts : List T} {h : Hp} {j : Nat} {c : T}, RepTs K N G vs ts h → ts[j]? = some c →
    ∃ w h1 rest, vs[j]? = some w ∧ RepT K N G w c h1 ∧ Disj h1 rest ∧ h = un rest h1 ∧ ∀ G' c' h1', Same G G' → RepT K N G' w c' h1' → Disj h1' rest → RepTs K N G' vs (ts.set j c') (un rest h1')
  | _, _, _, _, _, .nil, e => by simp at e
  | _, _, _, 0, c, .cons (h1 := h1) (h2 := h2) r t d, e => by
    have e' := Option.some.inj (show some _ = some c from e)
    subst e'
    refine ⟨_, h1, h2, rfl, r, d, un_comm d, fun G' c' h1' s r' d' => ?_⟩
    rw [← un_comm d']
    exact .cons r' (t.up s) d'
  | _, _, _, j + 1, c, .cons (h1 := ha) (h2 := hb) r t d, e => by
    obtain ⟨w, h1, rest, e1, r1, d1, rfl, k⟩ := RepTs.at (j := j) (c := c) t (by simpa using e)
    obtain ⟨da, db⟩ := disj_un'.mp d
    refine ⟨w, h1, un ha rest, by simpa using e1, r1, disj_un'.mpr ⟨db.symm, d1⟩, un_assoc.symm, fun G' c' h1' s r' d' => ?_⟩
    obtain ⟨p, q⟩ := disj_un'.mp d'
    rw [un_assoc]
    exact .cons (r.up s) (k G' c' h1' s r' q) (disj_un'.mpr ⟨da, p.symm⟩)
/-- a place within a thing -/
theorem RepT.focus : ∀ (p : List Nat) {v : V} {t : T} {h : Hp} {u : T}, RepT K N G v t h → getT p t = some u →
    ∃ w hu rest, RepT K N G w u hu ∧ Disj hu rest ∧ h = un rest hu ∧ (∀ H, Same h H → vAt H p v = some w) ∧
      ∀ G' u' hu', Same G G' → RepT K N G' w u' hu' → Disj hu' rest → RepT K N G' v (setT u' p t) (un rest hu')
  | [], v, t, h, u, r, e => by
    cases e
    exact ⟨v, h, emp, r, disj_emp, rfl, fun _ _ => rfl, fun G' u' hu' s r' _ => r'⟩
  | j :: p, v, t, h, u, r, e => by
    cases r with
    | val r => cases e
    | unk => cases e
    | hole a => cases e
    | @nd a s vs ts o hc i n rs na =>
      have e : (ts[j]?).bind (getT p) = some u := e
      cases q : ts[j]? with
      | none => rw [q] at e; cases e
      | some c =>
        rw [q] at e
        obtain ⟨w, h1, rest, e1, r1, d1, rfl, k⟩ := rs.at q
        obtain ⟨w2, hu, rest2, r2, d2, rfl, va, k2⟩ := RepT.focus p r1 e
        obtain ⟨n1, n2⟩ := un_eq_none.mp na
        obtain ⟨n3, n4⟩ := un_eq_none.mp n2
        obtain ⟨d3, d4⟩ := disj_un.mp d1
        refine ⟨w2, hu, upd (un rest rest2) a o, r2, (disj_upd n4 (disj_un.mpr ⟨d4.symm, d2.symm⟩)).symm, ?_, fun H sh => ?_, fun G' u' hu' sg r' d' => ?_⟩
        · rw [← upd_un, un_assoc]
        · show (H a).bind (fun o => ((Y.kids o)[j]?).bind (vAt H p)) = _
          rw [sh a o upd_same]
          show ((Y.kids o)[j]?).bind (vAt H p) = _
          rw [Sh.kids i n, e1]
          refine va H ?_
          refine same_un_r d1.symm (same_upd_l sh ?_)
          exact na
        · obtain ⟨q1, q2⟩ := upd_disj d'.symm
          have q3 := disj_un.mp (q2 (un_eq_none.mpr ⟨n1, n3⟩))
          have r3 := k2 G' u' hu' sg r' q3.2.symm
          have r4 := k G' _ _ sg r3 (disj_un.mpr ⟨d3, q3.1.symm⟩)
          rw [← upd_un, un_assoc]
          show RepT K N G' _ (.nd s (match ts[j]? with | some c => ts.set j (setT u' p c) | none => ts)) _
          rw [q]
          exact .nd i n r4 (un_eq_none.mpr ⟨n1, un_eq_none.mpr ⟨n3, q1⟩⟩)
    | @lk a s vs ts ob o o' hc i n eo rs na zz =>
      have e : (ts[j]?).bind (getT p) = some u := e
      cases q : ts[j]? with
      | none => rw [q] at e; cases e
      | some c =>
        rw [q] at e
        obtain ⟨w, h1, rest, e1, r1, d1, rfl, k⟩ := rs.at q
        obtain ⟨w2, hu, rest2, r2, d2, rfl, va, k2⟩ := RepT.focus p r1 e
        obtain ⟨n1, n2⟩ := un_eq_none.mp na
        obtain ⟨n3, n4⟩ := un_eq_none.mp n2
        obtain ⟨d3, d4⟩ := disj_un.mp d1
        refine ⟨w2, hu, upd (un rest rest2) a o', r2, (disj_upd n4 (disj_un.mpr ⟨d4.symm, d2.symm⟩)).symm, ?_, fun H sh => ?_, fun G' u' hu' sg r' d' => ?_⟩
        · rw [← upd_un, un_assoc]
        · show (H a).bind (fun o => ((Y.kids o)[j]?).bind (vAt H p)) = _
          rw [sh a o' upd_same]
          show ((Y.kids o')[j]?).bind (vAt H p) = _
          have ek : Y.kids o' = vs := by
            cases ob with
            | none => subst eo; exact Sh.kids i n
            | some b => subst eo; exact Sh.kidsF i n
          rw [ek, e1]
          exact va H (same_un_r d1.symm (same_upd_l sh na))
        · obtain ⟨q1, q2⟩ := upd_disj d'.symm
          have q3 := disj_un.mp (q2 (un_eq_none.mpr ⟨n1, n3⟩))
          have r3 := k2 G' u' hu' sg r' q3.2.symm
          have r4 := k G' _ _ sg r3 (disj_un.mpr ⟨d3, q3.1.symm⟩)
          rw [← upd_un, un_assoc]
          show RepT K N G' _ (.lk a ob s (match ts[j]? with | some c => ts.set j (setT u' p c) | none => ts)) _
          rw [q]
          exact .lk i n eo r4 (un_eq_none.mpr ⟨n1, un_eq_none.mpr ⟨n3, q1⟩⟩) zz
/-- one root -/
theorem RepR.at : ∀ {rs : List (Option V)} {ts : List T} {h : Hp} {j : Nat} {c : T}, RepR K N G rs ts h → ts[j]? = some c →
    ∃ ow h1 rest, rs[j]? = some ow ∧ (c ≠ .unk → ∃ w, ow = some w ∧ RepT K N G w c h1) ∧ Disj h1 rest ∧ h = un rest h1 ∧
      (∀ G' c' w' h1', Same G G' → RepT K N G' w' c' h1' → Disj h1' rest → RepR K N G' (rs.set j (some w')) (ts.set j c') (un rest h1')) ∧
      (∀ G', Same G G' → RepR K N G' (rs.set j none) (ts.set j .unk) rest)
  | _, _, _, _, _, .nil, e => by simp at e
  | _, _, _, 0, c, .non (h := h) t, e => by
    have e' := Option.some.inj (show some _ = some c from e)
    subst e'
    refine ⟨none, emp, h, rfl, fun n => (n rfl).elim, emp_disj, un_emp.symm, fun G' c' w' h1' s r' d' => ?_, fun G' s => .non (t.up s)⟩
    rw [← un_comm d']
    exact .cons r' (t.up s) d'
  | _, _, _, 0, c, .cons (h1 := h1) (h2 := h2) r t d, e => by
    have e' := Option.some.inj (show some _ = some c from e)
    subst e'
    refine ⟨_, h1, h2, rfl, fun _ => ⟨_, rfl, r⟩, d, un_comm d, fun G' c' w' h1' s r' d' => ?_, fun G' s => .non (t.up s)⟩
    rw [← un_comm d']
    exact .cons r' (t.up s) d'
  | _, _, _, j + 1, c, .non t, e => by
    obtain ⟨w, h1, rest, e1, r1, d1, rfl, k, k0⟩ := RepR.at (j := j) (c := c) t (by simpa using e)
    exact ⟨w, h1, rest, by simpa using e1, r1, d1, rfl, fun G' c' w' h1' s r' d' => .non (k G' c' w' h1' s r' d'), fun G' s => .non (k0 G' s)⟩
  | _, _, _, j + 1, c, .cons (h1 := ha) (h2 := hb) r t d, e => by
    obtain ⟨w, h1, rest, e1, r1, d1, rfl, k, k0⟩ := RepR.at (j := j) (c := c) t (by simpa using e)
    obtain ⟨da, db⟩ := disj_un'.mp d
    refine ⟨w, h1, un ha rest, by simpa using e1, r1, disj_un'.mpr ⟨db.symm, d1⟩, un_assoc.symm, fun G' c' w' h1' s r' d' => ?_, fun G' s => .cons (r.up s) (k0 G' s) da⟩
    obtain ⟨p, q⟩ := disj_un'.mp d'
    rw [un_assoc]
    exact .cons (r.up s) (k G' c' w' h1' s r' q) (disj_un'.mpr ⟨da, p.symm⟩)
theorem set_self {α : Type} {xs : List α} {j : Nat} {x : α} (e : xs[j]? = some x) : xs.set j x = xs := by
  apply List.ext_getElem?
  intro i
  by_cases c : i = j
  · subst c
    have := (List.getElem?_eq_some_iff.mp e).1
    rw [List.getElem?_set_self this, e]
  · rw [List.getElem?_set_ne (Ne.symm c)]
/-- a place within the roots -/
theorem RepR.focus {rs : List (Option V)} {ts : List T} {h : Hp} {j : Nat} {c u : T} {p : List Nat} (r : RepR K N G rs ts h) (e : ts[j]? = some c) (g : getT p c = some u) (nu : u ≠ .unk) :
    ∃ v w hu rest, rs[j]? = some (some v) ∧ RepT K N G w u hu ∧ Disj hu rest ∧ h = un rest hu ∧ (∀ H, Same h H → vAt H p v = some w) ∧
      ∀ G' u' hu', Same G G' → RepT K N G' w u' hu' → Disj hu' rest → RepR K N G' rs (ts.set j (setT u' p c)) (un rest hu') := by
  obtain ⟨ow, h1, rest, e1, r1, d1, rfl, k, _⟩ := r.at e
  have nc : c ≠ .unk := fun z => by
    subst z
    cases p with
    | nil => cases g; exact nu rfl
    | cons _ _ => cases g
  obtain ⟨v, rfl, r1b⟩ := r1 nc
  obtain ⟨w, hu, rest2, r2, d2, rfl, va, k2⟩ := RepT.focus p r1b g
  obtain ⟨d3, d4⟩ := disj_un.mp d1
  refine ⟨v, w, hu, un rest rest2, e1, r2, disj_un'.mpr ⟨d4, d2⟩, un_assoc.symm, fun H s => va H (same_un_r d1.symm s), fun G' u' hu' s r' d' => ?_⟩
  obtain ⟨d5, d6⟩ := disj_un'.mp d'
  have := k G' _ v _ s (k2 G' u' hu' s r' d6) (disj_un.mpr ⟨d3, d5⟩)
  rw [set_self e1] at this
  rw [un_assoc]
  exact this

/-! ### freezing -/
mutual
def T.frz : T → D
  | .val d => d
  | .nd s ts => .nd s (frzs ts)
  | _ => .non
def frzs : List T → List D
  | [] => []
  | t :: ts => t.frz :: frzs ts
end
mutual
/-- nothing is lent out, nothing locked -/
def T.fz : T → Bool
  | .val _ => true
  | .nd _ ts => fzs ts
  | _ => false
def fzs : List T → Bool
  | [] => true
  | t :: ts => t.fz && fzs ts
end
mutual
theorem RepT.frozen {G2 : Hp} (s : Same G G2) : ∀ {v : V} {t : T} {h : Hp}, RepT K N G v t h → t.fz = true → Same h G2 → Rp K N G2 v t.frz
  | _, _, _, .val r, _, _ => by unfold T.frz; exact r.up s
  | _, _, _, .unk, e, _ => by simp [T.fz] at e
  | _, _, _, .hole _, e, _ => by simp [T.fz] at e
  | _, _, _, .lk .., e, _ => by simp [T.fz] at e
  | _, _, _, .nd (s := sh) (o := o) i n r na, e, sh2 => by
    unfold T.fz at e
    unfold T.frz
    refine .nd ?_ (RepTs.frozen s r e (same_upd_l sh2 na))
    have q := sh2 _ o upd_same
    cases sh with
    | tup => exact (n rfl).elim
    | slst => exact i.elim
    | lst => exact ⟨o, q, i⟩
    | dk ks => exact ⟨o, q, i⟩
    | dt ks => exact ⟨o, q, i⟩
    | ins C fs => exact ⟨o, q, i⟩
theorem RepTs.frozen {G2 : Hp} (s : Same G G2) : ∀ {vs : List V} {ts : List T} {h : Hp}, RepTs K N G vs ts h → fzs ts = true → Same h G2 → RpAll K N G2 vs (frzs ts)
  | _, _, _, .nil, _, _ => by unfold frzs; exact .nil
  | _, _, _, .cons r t d, e, sh => by
    unfold fzs at e
    rw [Bool.and_eq_true] at e
    unfold frzs
    exact .cons (RepT.frozen s r e.1 (same_un_l sh)) (RepTs.frozen s t e.2 (same_un_r d sh))
end
theorem same_unG {h : Hp} : Same G (un G h) := fun a o e => un_some e
theorem same_unH {h : Hp} (d : Disj h G) : Same h (un G h) := fun a o e => by
  rcases d a with q | q
  · rw [q] at e; cases e
  · exact (un_none q).trans e
/-- something of the own that is frozen from now on -/
theorem frz_step {rest hu : Hp} (gh : SameR G H) (sh : Same (un rest hu) H) (df : Disj (un rest hu) F) (dg : Disj (un rest hu) G) (dr : Disj hu rest) :
    SameR (un G hu) H ∧ Gr F G (un G hu) ∧ Disj rest (un G hu) := by
  obtain ⟨dg1, dg2⟩ := disj_un.mp dg
  obtain ⟨df1, df2⟩ := disj_un.mp df
  refine ⟨fun a o e => ?_, ⟨same_unG, fun b o e n => ?_⟩, disj_un'.mpr ⟨dg1, dr.symm⟩⟩
  · rcases un_cases e with e | ⟨_, e⟩
    · exact gh a o e
    · exact .inl (same_un_r dr.symm sh a o e)
  · rcases un_cases e with e | ⟨_, e⟩
    · rw [n] at e; cases e
    · exact .inl ((df2 b).resolve_left (by rw [e]; exact fun z => nomatch z))
theorem RelR.freeze {rs : List (Option V)} {ts : List T} {j : Nat} {c u : T} {p : List Nat} (r : RelR K N G F rs ts H) (e : ts[j]? = some c) (g : getT p c = some u) (fz : u.fz = true) :
    ∃ v w G', rs[j]? = some (some v) ∧ vAt H p v = some w ∧ Gr F G G' ∧ Rp K N G' w u.frz ∧ RelR K N G' F rs (ts.set j (setT (.val u.frz) p c)) H := by
  obtain ⟨gh, fh, h, rr, sh, df, dg⟩ := r
  obtain ⟨v, w, hu, rest, e1, ru, d, rfl, va, k⟩ := rr.focus e g (fun z => by subst z; simp [T.fz] at fz)
  obtain ⟨f1, f2, f3⟩ := frz_step gh sh df dg d
  have rp := ru.frozen same_unG fz (same_unH (disj_un.mp dg).2)
  have k2 := k _ _ _ same_unG (.val rp) emp_disj
  rw [un_emp] at k2
  exact ⟨v, w, un G hu, e1, va H sh, f2, rp, f1, fh, rest, k2, same_un_l sh, (disj_un.mp df).1, f3⟩
/-- an owned thing at hand gets frozen -/
theorem RelR.freeze0 {v : V} {t : T} {rs : List (Option V)} {ts : List T} (r : RelR K N G F (some v :: rs) (t :: ts) H) (fz : t.fz = true) :
    ∃ G', Gr F G G' ∧ Rp K N G' v t.frz ∧ RelR K N G' F rs ts H := by
  obtain ⟨gh, fh, h, rr, sh, df, dg⟩ := r
  cases rr with
  | @cons _ _ _ _ h1 h2 r t d =>
    rw [un_comm d] at sh df dg
    obtain ⟨f1, f2, f3⟩ := frz_step gh sh df dg d
    exact ⟨un G h1, f2, r.frozen same_unG fz (same_unH (disj_un.mp dg).2), f1, fh, h2, t.up same_unG, same_un_l sh, (disj_un.mp df).1, f3⟩
/-- a change at a place: the node there gets other contents -/
theorem RelR.change {rs : List (Option V)} {ts : List T} {j : Nat} {c u : T} {p : List Nat} (r : RelR K N G F rs ts H) (e : ts[j]? = some c) (g : getT p c = some u) (nu : u ≠ .unk) :
    ∃ v w hu rest, rs[j]? = some (some v) ∧ vAt H p v = some w ∧ RepT K N G w u hu ∧ Same hu H ∧ Disj hu F ∧ Disj hu G ∧ Disj hu rest ∧ Same rest H ∧ NoTup hu ∧
      ∀ u' hu' H', SameR G H' → Same F H' → Same rest H' → RepT K N G w u' hu' → Same hu' H' → Disj hu' rest → Disj hu' F → Disj hu' G → RelR K N G F rs (ts.set j (setT u' p c)) H' := by
  obtain ⟨gh, fh, h, rr, sh, df, dg⟩ := r
  obtain ⟨v, w, hu, rest, e1, ru, d, rfl, va, k⟩ := rr.focus e g nu
  obtain ⟨dg1, dg2⟩ := disj_un.mp dg
  obtain ⟨df1, df2⟩ := disj_un.mp df
  exact ⟨v, w, hu, rest, e1, va H sh, ru, same_un_r d.symm sh, df2, dg2, d, same_un_l sh, ru.noTup, fun u' hu' H' gh' fh' sr' r' sh' d1 d2 d3 =>
    ⟨gh', fh', un rest hu', k G u' hu' (Same.refl _) r' d1, same_un sr' sh', disj_un.mpr ⟨df1, d2⟩, disj_un.mpr ⟨dg1, d3⟩⟩⟩
theorem RepR.split : ∀ {xs : List V} {us : List T} {rs : List (Option V)} {ts : List T} {h : Hp}, xs.length = us.length → RepR K N G (xs.map some ++ rs) (us ++ ts) h →
    ∃ hx hr, RepTs K N G xs us hx ∧ RepR K N G rs ts hr ∧ Disj hx hr ∧ h = un hx hr
  | [], [], _, _, h, _, r => ⟨emp, h, .nil, r, emp_disj, rfl⟩
  | x :: xs, u :: us, rs, ts, h, l, r => by
    cases r with
    | cons r t d =>
      obtain ⟨hx, hr, r1, r2, d1, rfl⟩ := RepR.split (by simpa using l) t
      obtain ⟨d2, d3⟩ := disj_un'.mp d
      exact ⟨un _ hx, hr, .cons r r1 d2, r2, disj_un.mpr ⟨d3, d1⟩, un_assoc.symm⟩
theorem RepR.join : ∀ {xs : List V} {us : List T} {rs : List (Option V)} {ts : List T} {hx hr : Hp}, RepTs K N G xs us hx → RepR K N G rs ts hr → Disj hx hr → RepR K N G (xs.map some ++ rs) (us ++ ts) (un hx hr)
  | _, _, _, _, _, _, .nil, r, _ => r
  | _, _, _, _, _, _, .cons a b d, r, e => by
    obtain ⟨e1, e2⟩ := disj_un.mp e
    rw [un_assoc]
    exact .cons a (RepR.join b r e2) (disj_un'.mpr ⟨d, e1⟩)
/-- a write at the node's own address: H' = upd H a o'; things at hand may go in, things may come out -/
theorem RelR.write {xs : List V} {txs : List T} {rs : List (Option V)} {ts : List T} {j : Nat} {c : T} {p : List Nat} {s : Sh} {us : List T} (lx : xs.length = txs.length) (r : RelR K N G F (xs.map some ++ rs) (txs ++ ts) H) (e : ts[j]? = some c) (g : getT p c = some (.nd s us)) :
    ∃ v a vs o hc hx, rs[j]? = some (some v) ∧ vAt H p v = some (.ref a) ∧ s.is N vs o ∧ s ≠ .tup ∧ RepTs K N G vs us hc ∧ RepTs K N G xs txs hx ∧ Disj hx hc ∧ Same hc H ∧ Same hx H ∧ H a = some o ∧
      ∀ s' us' vs' o' hc' ys tys hy, s'.is N vs' o' → s' ≠ .tup → RepTs K N G vs' us' hc' → RepTs K N G ys tys hy → Disj hy hc' → (∀ b u, un hy hc' b = some u → un hx hc b = some u) → RelR K N G F (ys.map some ++ rs) (tys ++ ts.set j (setT (.nd s' us') p c)) (upd H a o') := by
  obtain ⟨gh, fh, h, rr, sh, df, dg⟩ := r
  obtain ⟨hx, hr, rx, rq, dx, rfl⟩ := rr.split lx
  obtain ⟨v, w, hu, rest, e1, ru, d, rfl, va, k⟩ := rq.focus e g (fun z => nomatch z)
  have shx := same_un_l sh
  have sh2 := same_un_r dx sh
  obtain ⟨dxr, dxu⟩ := disj_un'.mp dx
  obtain ⟨dgx, dg2⟩ := disj_un.mp dg
  obtain ⟨dgr, dgu⟩ := disj_un.mp dg2
  obtain ⟨dfx, df2⟩ := disj_un.mp df
  obtain ⟨dfr, dfu⟩ := disj_un.mp df2
  have sr := same_un_l sh2
  have su := same_un_r d.symm sh2
  cases ru with
  | @nd a _ vs _ o hc i n rs' na =>
    obtain ⟨nf, df'⟩ := upd_disj dfu
    obtain ⟨ng, dg'⟩ := upd_disj dgu
    obtain ⟨nr, dr'⟩ := upd_disj d
    obtain ⟨nx, dx'⟩ := upd_disj dxu.symm
    refine ⟨v, a, vs, o, hc, hx, e1, va H sh2, i, n, rs', rx, (dx' na).symm, same_upd_l su na, shx, su a o upd_same, fun s' us' vs' o' hc' ys tys hy i' n' r' ry dy sub => ?_⟩
    have at0 : ∀ b, un hx hc b = none → un hy hc' b = none := fun b q => by
      cases z : un hy hc' b with
      | none => rfl
      | some x => rw [sub b x z] at q; cases q
    obtain ⟨ny, nc'⟩ := un_eq_none.mp (at0 a (un_eq_none.mpr ⟨nx, na⟩))
    have nn : ∀ {X : Hp}, Disj hc X → Disj hx X → Disj hy X ∧ Disj hc' X := fun {X} d1 d2 => disj_un.mp fun b => by
      rcases d1 b with q | q
      · rcases d2 b with q2 | q2
        · exact .inl (at0 b (un_eq_none.mpr ⟨q2, q⟩))
        · exact .inr q2
      · exact .inr q
    obtain ⟨r1, r2⟩ := nn (dr' na) dxr
    obtain ⟨f1, f2⟩ := nn (df' na) dfx
    obtain ⟨g1, g2⟩ := nn (dg' na) dgx
    have dyr : Disj hy (un rest (upd hc' a o')) := disj_un'.mpr ⟨r1, (disj_upd ny dy.symm).symm⟩
    have shc : Same (un hx hc) H := same_un shx (same_upd_l su na)
    refine ⟨fun b x q => ?_, fun b x q => ?_, _, RepR.join ry (k G _ _ (Same.refl _) (.nd i' n' r' nc') (disj_upd nr r2)) dyr, fun b x q => ?_, disj_un.mpr ⟨f1, disj_un.mpr ⟨dfr, disj_upd nf f2⟩⟩, disj_un.mpr ⟨g1, disj_un.mpr ⟨dgr, disj_upd ng g2⟩⟩⟩
    · rw [upd_ne (ne_of_none q ng)]; exact gh b x q
    · rw [upd_ne (ne_of_none q nf)]; exact fh b x q
    · rcases un_cases q with q | ⟨z, q⟩
      · rw [upd_ne (ne_of_none q ny)]
        exact shc b x (sub b x (un_some q))
      · rcases un_cases q with q | ⟨_, q⟩
        · rw [upd_ne (ne_of_none q nr)]; exact sr b x q
        · by_cases c : b = a
          · subst c; rw [upd_same] at q ⊢; exact q
          · rw [upd_ne c] at q ⊢
            exact shc b x (sub b x ((un_none z).trans q))
end
end Y
/-! Yc: readings without a heap, and what they stand for. -/
namespace Y
open PySem PySem.Spec PyProof.Rows L2 Z

abbrev KC := T → Prop
/-- a calm reading: nothing changes, what comes is only looked at -/
abbrev RC := Env → Sg → KC → Prop
/-- what is wanted of an exception: its class, its own fields -/
abbrev AX := Cl → List (String × D) → Env → Sg → Prop
abbrev KE := T → Env → Sg → Prop
/-- a reading: what comes is owned -/
abbrev RE := AX → Env → Sg → KE → Prop
structure AD where
  nx : Env → Sg → Prop
  rt : T → Env → Sg → Prop
  bk : Env → Sg → Prop
  ct : Env → Sg → Prop
  ex : AX
abbrev AS := AD → Env → Sg → Prop
/-- tests -/
abbrev RB := Env → Sg → (Bool → Prop) → Prop
abbrev RBE := AX → Env → Sg → (Bool → Env → Sg → Prop) → Prop

section
variable (K : PySem.W.Frag) (N : Nm)
/-- slots that keep their value -/
def Fix (P : Nat → Option V) (σ : L2.St) : Prop := ∀ i v, P i = some v → σ[i]? = some (some v)
def FixIn (fx : Nat → Bool) (P : Nat → Option V) : Prop := ∀ i, P i ≠ none → fx i = true
def XPay (G H : Hp) : Option Addr → List (String × D) → Prop
  | none, p => p = []
  | some a, p => ∃ vs : List V, p ≠ [] ∧ H a = some (.xd ((p.map fun q => Str.ofString q.1).zip vs)) ∧ RpAll K N G vs (p.map (·.2))
def XRel (W : WX) (G F : Hp) (P : Nat → Option V) (A : AX) : Prop := ∀ C p ε S G' σ H d, A C p ε S → Gr F G G' → Rel K N G' F ε S σ H → Fix P σ → XPay K N G' H d p → W (.ref (N.at C)) d σ H
def concC (a : RC) : TE := fun σ H Q => ∃ G F ε S K', Rel K N G F ε S σ H ∧ a ε S K' ∧ ∀ t v G' H', K' t → Ext G H G' H' → Bw K N G' H' v t → Q v H'
def concB (a : RB) : TT := fun σ H Q => ∃ G F ε S K', Rel K N G F ε S σ H ∧ a ε S K' ∧ ∀ b G' H', K' b → Ext G H G' H' → Q b H'
def concE (W : WX) (fx : Nat → Bool) (a : RE) : TE := fun σ H Q => ∃ G F P ε S A K', Rel K N G F ε S σ H ∧ Fix P σ ∧ FixIn fx P ∧ a A ε S K' ∧
  (∀ t v ε' S' G' H', K' t ε' S' → Gr F G G' → RelT K N G' F [v] [t] ε' S' σ H' → Q v H') ∧ XRel K N W G F P A
def concBE (W : WX) (fx : Nat → Bool) (a : RBE) : TT := fun σ H Q => ∃ G F P ε S A K', Rel K N G F ε S σ H ∧ Fix P σ ∧ FixIn fx P ∧ a A ε S K' ∧
  (∀ b ε' S' G' H', K' b ε' S' → Gr F G G' → Rel K N G' F ε' S' σ H' → Q b H') ∧ XRel K N W G F P A
structure EndsRel (W : WX) (G F : Hp) (P : Nat → Option V) (A : AD) (Ds : Ends) : Prop where
  nx : ∀ ε S G' σ H, A.nx ε S → Gr F G G' → Rel K N G' F ε S σ H → Fix P σ → Ds.nx σ H
  bk : ∀ ε S G' σ H, A.bk ε S → Gr F G G' → Rel K N G' F ε S σ H → Fix P σ → Ds.bk σ H
  ct : ∀ ε S G' σ H, A.ct ε S → Gr F G G' → Rel K N G' F ε S σ H → Fix P σ → Ds.ct σ H
  rt : ∀ t v ε S G' σ H, A.rt t ε S → Gr F G G' → RelT K N G' F [v] [t] ε S σ H → Fix P σ → Ds.rt v H
  ex : XRel K N W G F P A.ex
def concS (W : WX) (fx : Nat → Bool) (a : AS) : TS := fun Ds σ H => ∃ G F P ε S A, Rel K N G F ε S σ H ∧ Fix P σ ∧ FixIn fx P ∧ a A ε S ∧ EndsRel K N W G F P A Ds
end

/-! ### weakening of derivations -/
section
variable {X : Cx}
theorem pe_weak {e : Expr} {t t' : TE} (h : PE X e t) (k : ∀ σ H Q, t' σ H Q → t σ H Q) : PE X e t' := ⟨fun pins s σ H Q I q => h.run pins s σ H Q I (k σ H Q q)⟩
theorem pt_weak {e : Expr} {t t' : TT} (h : PT X e t) (k : ∀ σ H Q, t' σ H Q → t σ H Q) : PT X e t' := ⟨fun pins s σ H Q I q => h.run pins s σ H Q I (k σ H Q q)⟩
theorem pw_weak {e : Expr} {t t' : TT} (h : PW X e t) (k : ∀ σ H Q, t' σ H Q → t σ H Q) : PW X e t' := ⟨fun w pins s σ H Q I q => h.run w pins s σ H Q I (k σ H Q q)⟩
theorem pa_weak {es : List Expr} {t t' : TA} (h : PA X es t) (k : ∀ σ H Q, t' σ H Q → t σ H Q) : PA X es t' := ⟨fun pos pins s σ H Q I q => h.run pos pins s σ H Q I (k σ H Q q)⟩
theorem ps_weak {st : Stmt} {t t' : TS} (h : PS X st t) (k : ∀ D σ H, t' D σ H → t D σ H) : PS X st t' := ⟨fun pins s σ H D I q => h.run pins s σ H D I (k D σ H q)⟩
theorem pss_weak {st : List Stmt} {t t' : TS} (h : PSs X st t) (k : ∀ D σ H, t' D σ H → t D σ H) : PSs X st t' := ⟨fun pins s σ H D I q => h.run pins s σ H D I (k D σ H q)⟩
end

section
variable {K : PySem.W.Frag} {N : Nm} {G G' G1 F H H' H1 : Hp} {ε ε' : Env} {S S' : Sg} {σ : L2.St} {W : WX} {P : Nat → Option V} {A : AX}
theorem RelT.rr {vs : List V} {us : List T} (r : RelT K N G F vs us ε S σ H) : RelR K N G F (vs.map some ++ (σ ++ boxes S)) (us ++ (ε ++ S.map (·.2))) H := r.1
theorem RelT.gh {vs : List V} {us : List T} (r : RelT K N G F vs us ε S σ H) : SameR G H := r.1.gh
theorem RelT.fh {vs : List V} {us : List T} (r : RelT K N G F vs us ε S σ H) : Same F H := r.1.fh
theorem RelT.ext {vs : List V} {us : List T} (r : RelT K N G F vs us ε S σ H) (e : Ext G H G' H') : RelT K N G' F vs us ε S σ H' := ⟨r.1.ext e, r.2⟩
/-- what is at hand is set aside -/
theorem RelT.park {vs xs : List V} {us ts : List T} (r : RelT K N G F (vs ++ xs) (us ++ ts) ε S σ H) (l : vs.length = us.length) : ∃ h, RepTs K N G vs us h ∧ Same h H ∧ Disj h F ∧ Disj h G ∧ NoTup h ∧ RelT K N G (un F h) xs ts ε S σ H := by
  obtain ⟨⟨gh, fh, h0, rr, sh, df, dg⟩, l1, l2⟩ := r
  rw [List.map_append, List.append_assoc, List.append_assoc] at rr
  obtain ⟨hx, hr, rx, rq, dx, rfl⟩ := rr.split l
  obtain ⟨df1, df2⟩ := disj_un.mp df
  obtain ⟨dg1, dg2⟩ := disj_un.mp dg
  refine ⟨hx, rx, same_un_l sh, df1, dg1, rx.noTup, ⟨gh, same_un fh (same_un_l sh), hr, rq, same_un_r dx sh, disj_un'.mpr ⟨df2, dx.symm⟩, dg2⟩, l1, ?_⟩
  rw [List.length_append, List.length_append] at l2
  omega
/-- .. and taken up again -/
theorem RelT.unpark {vs xs : List V} {us ts : List T} {h : Hp} (rv : RepTs K N G vs us h) (df : Disj h F) (dg : Disj h G) (gr : Gr (un F h) G G') (r : RelT K N G' (un F h) xs ts ε S σ H) : RelT K N G' F (vs ++ xs) (us ++ ts) ε S σ H := by
  obtain ⟨⟨gh, fh, h0, rr, sh, df2, dg2⟩, l1, l2⟩ := r
  obtain ⟨d1, d2⟩ := disj_un'.mp df2
  have sh' : Same h H := same_un_r df.symm fh
  refine ⟨⟨gh, same_un_l fh, un h h0, ?_, same_un sh' sh, disj_un.mpr ⟨df, d1⟩, disj_un.mpr ⟨?_, dg2⟩⟩, l1, by rw [List.length_append, List.length_append, rv.len, l2]⟩
  · rw [List.map_append, List.append_assoc, List.append_assoc]
    exact RepR.join (rv.up gr.gg) rr d2.symm
  · refine disj_gr (F := un F h) rv.noTup (fun a q z => q (un_eq_none.mp z).2) gr gh sh' dg
theorem Gr.unF {h : Hp} (g : Gr (un F h) G G') : Gr F G G' := g.less fun a e => (un_eq_none.mp e).1
/-- a smaller frame -/
theorem RelT.lessF {h : Hp} {vs : List V} {us : List T} (r : RelT K N G (un F h) vs us ε S σ H) : RelT K N G F vs us ε S σ H := by
  obtain ⟨⟨gh, fh, h0, rr, sh, df2, dg2⟩, l⟩ := r
  exact ⟨⟨gh, same_un_l fh, h0, rr, sh, (disj_un'.mp df2).1, dg2⟩, l⟩
/-- what is at hand is dropped -/
theorem RelT.drop {vs xs : List V} {us ts : List T} (r : RelT K N G F (vs ++ xs) (us ++ ts) ε S σ H) (l : vs.length = us.length) : RelT K N G F xs ts ε S σ H := by
  obtain ⟨h, _, _, _, _, _, q⟩ := r.park l
  exact q.lessF
theorem RelT.drop1 {v : V} {t : T} {xs : List V} {ts : List T} (r : RelT K N G F (v :: xs) (t :: ts) ε S σ H) : RelT K N G F xs ts ε S σ H := RelT.drop (vs := [v]) (us := [t]) r rfl
theorem RelT.park1 {v : V} {t : T} {xs : List V} {ts : List T} (r : RelT K N G F (v :: xs) (t :: ts) ε S σ H) : ∃ h, RepT K N G v t h ∧ Same h H ∧ Disj h F ∧ Disj h G ∧ RelT K N G (un F h) xs ts ε S σ H := by
  obtain ⟨h, rv, s, d1, d2, _, q⟩ := RelT.park (vs := [v]) (us := [t]) r rfl
  cases rv with
  | cons a b d =>
    cases b
    rw [un_emp] at *
    exact ⟨_, a, s, d1, d2, q⟩
theorem repTs1 {v : V} {t : T} {h : Hp} (r : RepT K N G v t h) : RepTs K N G [v] [t] h := by
  have := RepTs.cons r .nil disj_emp
  rw [un_emp] at this
  exact this
theorem repTs1' {v : V} {t : T} {h : Hp} (r : RepTs K N G [v] [t] h) : RepT K N G v t h := by
  cases r with
  | cons a b d => cases b; rw [un_emp]; exact a
theorem RelT.bw {v : V} {t : T} {xs : List V} {ts : List T} (r : RelT K N G F (v :: xs) (t :: ts) ε S σ H) : Bw K N G H v t := let ⟨h, a, b, _⟩ := r.park1; ⟨h, a, b⟩
/-- something frozen or a sign comes to hand -/
theorem RelT.have {v : V} {d : D} {xs : List V} {ts : List T} (r : RelT K N G F xs ts ε S σ H) (q : Rp K N G v d) : RelT K N G F (v :: xs) (.val d :: ts) ε S σ H := by
  obtain ⟨⟨gh, fh, h0, rr, sh, df, dg⟩, l1, l2⟩ := r
  exact ⟨⟨gh, fh, un emp h0, .cons (.val q) rr emp_disj, sh, df, dg⟩, l1, congrArg (· + 1) l2⟩
/-- something new comes to hand -/
def Fresh (H G' h : Hp) : Prop := ∀ a, h a ≠ none → H a = none ∧ G' a = none
theorem RelT.new {v : V} {t : T} {h : Hp} {xs : List V} {ts : List T} (r : RelT K N G F xs ts ε S σ H) (e : Ext G H G' H') (q : RepT K N G' v t h) (s : Same h H') (fr : Fresh H G' h) : RelT K N G' F (v :: xs) (t :: ts) ε S σ H' := by
  have fh0 := r.fh
  obtain ⟨⟨gh, fh, h0, rr, sh, df, dg⟩, l1, l2⟩ := r.ext e
  have r0 := r.1
  have nn : ∀ {Z : Hp}, Same Z H → Disj h Z := fun {Z} sz b => by
    cases z : h b with
    | none => exact .inl rfl
    | some o => exact .inr (sz.free (fr b (by rw [z]; exact fun z => nomatch z)).1)
  have h00 : ∃ h0, RepR K N G' (xs.map some ++ (σ ++ boxes S)) (ts ++ (ε ++ S.map (·.2))) h0 ∧ Same h0 H ∧ Disj h0 F ∧ Disj h0 G' := by
    obtain ⟨gh, fh, h0, rr, sh, df, dg⟩ := r.1
    refine ⟨h0, rr.up e.gg, sh, df, ?_⟩
    refine disj_gr (F := H) rr.noTup (fun a q z => ?_) ⟨e.gg, e.nw⟩ e.gh (sh.trans e.hh) dg
    cases p : h0 a with
    | none => exact q p
    | some o => rw [sh a o p] at z; cases z
  obtain ⟨h1, rr1, sh1, df1, dg1⟩ := h00
  refine ⟨⟨gh, fh, un h h1, .cons q rr1 (nn sh1), same_un s (sh1.trans e.hh), disj_un.mpr ⟨nn fh0, df1⟩, disj_un.mpr ⟨fun b => ?_, dg1⟩⟩, l1, congrArg (· + 1) l2⟩
  cases z : h b with
  | none => exact .inl rfl
  | some o => exact .inr (fr b (by rw [z]; exact fun z => nomatch z)).2
theorem XRel.mono {h : Hp} (x : XRel K N W G F P A) (g : Gr F G G1) : XRel K N W G1 (un F h) P A := fun C p ε S G' σ H d a gr r f y => x C p ε S G' σ H d a (g.trans gr.unF) r.lessF f y
theorem XRel.up (x : XRel K N W G F P A) (g : Gr F G G1) : XRel K N W G1 F P A := fun C p ε S G' σ H d a gr r f y => x C p ε S G' σ H d a (g.trans gr) r f y
end

/-! ### operators by values -/
section
variable (K : PySem.W.Frag) (N : Nm)
abbrev F1 := T → (T → Prop) → Prop
abbrev F2 := T → T → (T → Prop) → Prop
/-- owned, new -/
def Out (G H : Hp) (K' : T → Prop) (Q : VK) : Prop := ∀ t v G' H' h, K' t → Ext G H G' H' → RepT K N G' v t h → Same h H' → Fresh H G' h → Q v H'
/-- only looked at -/
def OutV (G H : Hp) (K' : T → Prop) (Q : VK) : Prop := ∀ t v G' H', K' t → Ext G H G' H' → Bw K N G' H' v t → Q v H'
def OpS (f : F2) (r : R2) : Prop := ∀ G H x y tx ty K' Q, SameR G H → Bw K N G H x tx → Bw K N G H y ty → f tx ty K' → Out K N G H K' Q → r x y H Q
def OpV (f : F2) (r : R2) : Prop := ∀ G H x y tx ty K' Q, SameR G H → Bw K N G H x tx → Bw K N G H y ty → f tx ty K' → OutV K N G H K' Q → r x y H Q
def UnS (f : F1) (r : V → Hp → VK → Prop) : Prop := ∀ G H x tx K' Q, SameR G H → Bw K N G H x tx → f tx K' → Out K N G H K' Q → r x H Q
def UnV (f : F1) (r : V → Hp → VK → Prop) : Prop := ∀ G H x tx K' Q, SameR G H → Bw K N G H x tx → f tx K' → OutV K N G H K' Q → r x H Q
end
section
variable {K : PySem.W.Frag} {N : Nm} {G H : Hp} {K' : T → Prop} {Q : VK}
theorem OutV.out (o : OutV K N G H K' Q) : Out K N G H K' Q := fun t v G' H' h k e r s _ => o t v G' H' k e ⟨h, r, s⟩
theorem OpS.v {f : F2} {r : R2} (o : OpS K N f r) : OpV K N f r := fun G H x y tx ty K' Q s b1 b2 q k => o G H x y tx ty K' Q s b1 b2 q k.out
theorem UnS.v {f : F1} {r : V → Hp → VK → Prop} (o : UnS K N f r) : UnV K N f r := fun G H x tx K' Q s b1 q k => o G H x tx K' Q s b1 q k.out
/-- a sign -/
theorem Out.sc (o : Out K N G H K' Q) (s : SameR G H) {v : V} {d : D} (r : Rp K N G v d) (k : K' (.val d)) : Q v H := o _ v G H emp k (Ext.refl s) (.val r) same_emp (fun _ z => (z rfl).elim)
theorem OutV.sc (o : OutV K N G H K' Q) (s : SameR G H) {v : V} {d : D} (r : Rp K N G v d) (k : K' (.val d)) : Q v H := o _ v G H k (Ext.refl s) (Bw.of r)
/-- a new list -/
theorem fresh_upd {p : Addr} {o : HO} (n : H p = none) (g : SameR G H) : Fresh H G (upd emp p o) := fun a q => by
  by_cases c : a = p
  · subst c
    refine ⟨n, ?_⟩
    cases z : G a with
    | none => rfl
    | some u => rcases g a u z with y | ⟨_, _, y⟩ <;> rw [n] at y <;> cases y
  · rw [upd_ne c] at q; exact (q rfl).elim
theorem repTs_vals : ∀ {vs : List V} {ds : List D}, RpAll K N G vs ds → RepTs K N G vs (ds.map T.val) emp
  | _, _, .nil => .nil
  | _, _, .cons r t => by
    have := RepTs.cons (RepT.val r) (repTs_vals t) emp_disj
    exact this
theorem Out.lst (o : Out K N G H K' Q) (s : SameR G H) {vs : List V} {ds : List D} (r : RpAll K N G vs ds) (k : K' (.nd .lst (ds.map .val))) {p : Addr} (n : H p = none) : Q (.ref p) (upd H p (.lst vs)) :=
  o _ _ G _ (upd emp p (.lst vs)) k (Ext.same s (same_new n)) (.nd rfl (fun z => nomatch z) (repTs_vals r) rfl) (fun a u e => by
    by_cases c : a = p
    · subst c; rw [upd_same] at e ⊢; exact e
    · rw [upd_ne c] at e; cases e) (fresh_upd n s)
/-- a new tuple is frozen at once -/
theorem ext_tup (s : SameR G H) {p : Addr} {vs : List V} (n : H p = none) : Ext G H (upd G p (.tup vs)) (upd H p (.tup vs)) := by
  have ng : G p = none := by
    cases z : G p with
    | none => rfl
    | some u => rcases s p u z with y | ⟨_, _, y⟩ <;> rw [n] at y <;> cases y
  refine ⟨same_new n, same_new ng, fun a u e => ?_, fun b u e z => ?_⟩
  · by_cases c : a = p
    · subst c; rw [upd_same] at e ⊢; exact .inl e
    · rw [upd_ne c] at e ⊢; exact s a u e
  · by_cases c : b = p
    · subst c; exact .inl n
    · rw [upd_ne c, z] at e; cases e
theorem Out.tup (o : Out K N G H K' Q) (s : SameR G H) {vs : List V} {ds : List D} (r : RpAll K N G vs ds) (k : K' (.val (.tup ds))) {p : Addr} (n : H p = none) : Q (.ref p) (upd H p (.tup vs)) := by
  have e := ext_tup (vs := vs) s n
  exact o _ _ _ _ emp k e (.val (.nd (.inl upd_same) (r.up e.gg))) same_emp (fun _ z => (z rfl).elim)
end

/-! ### lifts -/
def aVar (i : Nat) : RC := fun ε _ K' => match ε[i]? with
  | some t => t ≠ .unk ∧ K' t
  | none => False
def aK (d : D) : RC := fun _ _ K' => K' (.val d)
def aC1 (f : F1) (a : RC) : RC := fun ε S K' => a ε S fun t => f t K'
def aC2 (f : F2) (a b : RC) : RC := fun ε S K' => a ε S fun t => b ε S fun u => f t u K'
/-- the parts calm, what comes owned -/
def aN1 (f : F1) (a : RC) : RE := fun _ ε S K' => a ε S fun t => f t fun r => K' r ε S
def aN2 (f : F2) (a b : RC) : RE := fun _ ε S K' => a ε S fun t => b ε S fun u => f t u fun r => K' r ε S
def aE1 (f : F1) (a : RE) : RE := fun A ε S K' => a A ε S fun t ε1 S1 => f t fun r => K' r ε1 S1
def aE2 (f : F2) (a b : RE) : RE := fun A ε S K' => a A ε S fun t ε1 S1 => b A ε1 S1 fun u ε2 S2 => f t u fun r => K' r ε2 S2
def isV (K' : KC) : KC := fun t => ∃ d, t = .val d ∧ K' (.val d)
/-- .. what is only looked at: a frozen thing -/
def aV1 (f : F1) (a : RE) : RE := fun A ε S K' => a A ε S fun t ε1 S1 => f t (isV fun r => K' r ε1 S1)
def aV2 (f : F2) (a b : RE) : RE := fun A ε S K' => a A ε S fun t ε1 S1 => b A ε1 S1 fun u ε2 S2 => f t u (isV fun r => K' r ε2 S2)
def aCE (a : RC) : RE := fun _ ε S K' => a ε S (isV fun r => K' r ε S)
section
variable {K : PySem.W.Frag} {N : Nm} {W : WX} {fx : Nat → Bool} {σ : L2.St} {H : Hp} {Q : VK} {a b : RC} {x y : RE} {f : F2} {r : R2} {f1 : F1} {r1 : V → Hp → VK → Prop}
theorem isV_elim {K' : KC} {t : T} (h : isV K' t) : ∃ d, t = .val d ∧ K' (.val d) := h
theorem conc_var {i : Nat} (h : concC K N (aVar i) σ H Q) : zVar i σ H Q := by
  obtain ⟨G, F, ε, S, K', r, q, k⟩ := h
  unfold aVar at q
  cases e : ε[i]? with
  | none => rw [e] at q; exact q.elim
  | some t =>
    rw [e] at q
    obtain ⟨nu, q⟩ := q
    have e2 : (ε ++ S.map (·.2))[i]? = some t := by rw [List.getElem?_append_left (List.getElem?_eq_some_iff.mp e).1]; exact e
    obtain ⟨gh, fh, h, rr, sh, df, dg⟩ := r.1
    obtain ⟨v, w, hu, rest, e1, ru, d, rfl, va, _⟩ := RepR.focus (p := []) (u := t) rr e2 rfl nu
    have lv := va H sh
    cases lv
    have e3 : σ[i]? = some (some v) := by
      have hl := (List.getElem?_eq_some_iff.mp e).1
      have := r.2.1
      rw [← e1]
      exact (List.getElem?_append_left (by omega)).symm
    unfold zVar
    rw [e3]
    exact k _ _ _ _ q (Ext.refl gh) ⟨hu, ru, same_un_r d.symm sh⟩
theorem conc_k {v : V} {d : D} (hv : ∀ G, Rp K N G v d) (h : concC K N (aK d) σ H Q) : tC v σ H Q := by
  obtain ⟨G, F, ε, S, K', r, q, k⟩ := h
  exact k _ _ _ _ q (Ext.refl r.gh) (Bw.of (hv G))
theorem conc_c1 (o : UnV K N f1 r1) (h : concC K N (aC1 f1 a) σ H Q) : tUn r1 (concC K N a) σ H Q := by
  obtain ⟨G, F, ε, S, K', r, q, k⟩ := h
  refine ⟨G, F, ε, S, _, r, q, fun t v G1 H1 q1 e1 b1 => ?_⟩
  exact o G1 H1 v t K' Q e1.gh b1 q1 fun t' v' G2 H2 k' e2 b2 => k _ _ _ _ k' (e1.trans e2) b2
theorem conc_c2 (o : OpV K N f r) (h : concC K N (aC2 f a b) σ H Q) : tOp r (concC K N a) (concC K N b) σ H Q := by
  obtain ⟨G, F, ε, S, K', r', q, k⟩ := h
  refine ⟨G, F, ε, S, _, r', q, fun t v G1 H1 q1 e1 b1 => ?_⟩
  refine ⟨G1, F, ε, S, _, r'.ext e1, q1, fun u w G2 H2 q2 e2 b2 => ?_⟩
  exact o G2 H2 v w t u K' Q e2.gh (b1.ext e2) b2 q2 fun t' v' G3 H3 k' e3 b3 => k _ _ _ _ k' ((e1.trans e2).trans e3) b3
theorem conc_n1 (o : UnS K N f1 r1) (h : concE K N W fx (aN1 f1 a) σ H Q) : tUn r1 (concC K N a) σ H Q := by
  obtain ⟨G, F, P, ε, S, A, K', r, fi, fn, q, k, x⟩ := h
  refine ⟨G, F, ε, S, _, r, q, fun t v G1 H1 q1 e1 b1 => ?_⟩
  exact o G1 H1 v t _ Q e1.gh b1 q1 fun t' v' G2 H2 h k' e2 r2 s2 fr => k _ _ _ _ _ _ k' ((e1.trans e2).gr r.fh) ((r.ext e1).new e2 r2 s2 fr)
theorem conc_n2 (o : OpS K N f r) (h : concE K N W fx (aN2 f a b) σ H Q) : tOp r (concC K N a) (concC K N b) σ H Q := by
  obtain ⟨G, F, P, ε, S, A, K', r', fi, fn, q, k, x⟩ := h
  refine ⟨G, F, ε, S, _, r', q, fun t v G1 H1 q1 e1 b1 => ?_⟩
  refine ⟨G1, F, ε, S, _, r'.ext e1, q1, fun u w G2 H2 q2 e2 b2 => ?_⟩
  exact o G2 H2 v w t u _ Q e2.gh (b1.ext e2) b2 q2 fun t' v' G3 H3 h k' e3 r3 s3 fr => k _ _ _ _ _ _ k' (((e1.trans e2).trans e3).gr r'.fh) ((r'.ext (e1.trans e2)).new e3 r3 s3 fr)
theorem conc_ce (h : concE K N W fx (aCE a) σ H Q) : concC K N a σ H Q := by
  obtain ⟨G, F, P, ε, S, A, K', r, fi, fn, q, k, x⟩ := h
  refine ⟨G, F, ε, S, _, r, q, fun t v G1 H1 q1 e1 b1 => ?_⟩
  obtain ⟨d, rfl, q2⟩ := q1
  exact k _ _ _ _ _ _ q2 (e1.gr r.fh) ((r.ext e1).have b1.val)
theorem conc_e1 (o : UnS K N f1 r1) (h : concE K N W fx (aE1 f1 x) σ H Q) : tUn r1 (concE K N W fx x) σ H Q := by
  obtain ⟨G, F, P, ε, S, A, K', r, fi, fn, q, k, z⟩ := h
  refine ⟨G, F, P, ε, S, A, _, r, fi, fn, q, fun t v ε1 S1 G1 H1 q1 g1 r1 => ?_, z⟩
  have rd := r1.drop1
  exact o G1 H1 v t _ Q r1.gh r1.bw q1 fun t' v' G2 H2 h k' e2 r2 s2 fr => k _ _ _ _ _ _ k' (g1.trans (e2.gr r1.fh)) (rd.new e2 r2 s2 fr)
theorem conc_v1 (o : UnV K N f1 r1) (h : concE K N W fx (aV1 f1 x) σ H Q) : tUn r1 (concE K N W fx x) σ H Q := by
  obtain ⟨G, F, P, ε, S, A, K', r, fi, fn, q, k, z⟩ := h
  refine ⟨G, F, P, ε, S, A, _, r, fi, fn, q, fun t v ε1 S1 G1 H1 q1 g1 r1 => ?_, z⟩
  have rd := r1.drop1
  refine o G1 H1 v t _ Q r1.gh r1.bw q1 fun t' v' G2 H2 k' e2 b2 => ?_
  obtain ⟨d, rfl, k'⟩ := k'
  exact k _ _ _ _ _ _ k' (g1.trans (e2.gr r1.fh)) ((rd.ext e2).have b2.val)
/-- two owned things in a row -/
theorem conc_two {Kf : T → T → Env → Sg → Prop} {R : V → V → Hp → Prop} {G F : Hp} {P : Nat → Option V} {ε : Env} {S : Sg} {A : AX} (r : Rel K N G F ε S σ H) (fi : Fix P σ) (fn : FixIn fx P) (q : x A ε S fun t ε1 S1 => y A ε1 S1 fun u ε2 S2 => Kf t u ε2 S2) (z : XRel K N W G F P A)
    (k : ∀ t u v w ε2 S2 G2 H2, Kf t u ε2 S2 → Gr F G G2 → RelT K N G2 F [v, w] [t, u] ε2 S2 σ H2 → R v w H2) : concE K N W fx x σ H fun v H1 => concE K N W fx y σ H1 fun w H2 => R v w H2 := by
  refine ⟨G, F, P, ε, S, A, _, r, fi, fn, q, fun t v ε1 S1 G1 H1 q1 g1 r1 => ?_, z⟩
  obtain ⟨h, rt, sh, df, dg, rp⟩ := r1.park1
  refine ⟨G1, un F h, P, ε1, S1, A, _, rp, fi, fn, q1, fun u w ε2 S2 G2 H2 q2 g2 r2 => ?_, z.mono g1⟩
  exact k t u v w ε2 S2 G2 H2 q2 (g1.trans g2.unF) (RelT.unpark (vs := [v]) (us := [t]) (repTs1 rt) df dg g2 r2)
theorem conc_e2 (o : OpS K N f r) (h : concE K N W fx (aE2 f x y) σ H Q) : tOp r (concE K N W fx x) (concE K N W fx y) σ H Q := by
  obtain ⟨G, F, P, ε, S, A, K', r', fi, fn, q, k, z⟩ := h
  refine conc_two (R := fun v w H2 => r v w H2 Q) r' fi fn q z fun t u v w ε2 S2 G2 H2 q2 g2 r2 => ?_
  have rd := r2.drop1.drop1
  exact o G2 H2 v w t u _ Q r2.gh r2.bw r2.drop1.bw q2 fun t' v' G3 H3 h k' e3 r3 s3 fr => k _ _ _ _ _ _ k' (g2.trans (e3.gr r2.fh)) (rd.new e3 r3 s3 fr)
theorem conc_v2 (o : OpV K N f r) (h : concE K N W fx (aV2 f x y) σ H Q) : tOp r (concE K N W fx x) (concE K N W fx y) σ H Q := by
  obtain ⟨G, F, P, ε, S, A, K', r', fi, fn, q, k, z⟩ := h
  refine conc_two (R := fun v w H2 => r v w H2 Q) r' fi fn q z fun t u v w ε2 S2 G2 H2 q2 g2 r2 => ?_
  have rd := r2.drop1.drop1
  refine o G2 H2 v w t u _ Q r2.gh r2.bw r2.drop1.bw q2 fun t' v' G3 H3 k' e3 b3 => ?_
  obtain ⟨d, rfl, k'⟩ := k'
  exact k _ _ _ _ _ _ k' (g2.trans (e3.gr r2.fh)) ((rd.ext e3).have b3.val)
end
end Y
/-! Yd: operators on values without a heap. -/
namespace Y
open PySem PySem.Spec PyProof.Rows L2 Z

/-! ### what a thing is made of -/
def allVal : List T → Option (List D)
  | [] => some []
  | .val d :: ts => (allVal ts).map (d :: ·)
  | _ :: _ => none
def T.kids : T → Option (Sh × List T)
  | .val (.nd s ds) => some (s, ds.map .val)
  | .nd s ts => some (s, ts)
  | .lk _ none s ts => some (s, ts)
  | .lk _ (some _) (.dk ks) ts => some (.dk ks, ts)
  | .lk _ (some _) (.dt ks) ts => some (.dt ks, ts)
  | _ => none
/-- .. its parts frozen -/
def T.ds : T → Option (Sh × List D)
  | .val (.nd s ds) => some (s, ds)
  | .nd s ts => (allVal ts).map (s, ·)
  | .lk _ none s ts => (allVal ts).map (s, ·)
  | .lk _ (some _) (.dk ks) ts => (allVal ts).map (.dk ks, ·)
  | .lk _ (some _) (.dt ks) ts => (allVal ts).map (.dt ks, ·)
  | _ => none
theorem allVal_map : ∀ ds : List D, allVal (ds.map .val) = some ds
  | [] => rfl
  | d :: ds => by rw [List.map_cons, allVal, allVal_map ds]; rfl
theorem allVal_append : ∀ {ts us : List T} {ds es : List D}, allVal ts = some ds → allVal us = some es → allVal (ts ++ us) = some (ds ++ es)
  | [], _, _, _, h, k => by cases h; exact k
  | .val d :: ts, us, ds, es, h, k => by
    rw [allVal] at h
    cases q : allVal ts with
    | none => rw [q] at h; cases h
    | some xs =>
      rw [q] at h
      cases h
      rw [List.cons_append, allVal, allVal_append q k]
      rfl
  | .unk :: _, _, _, _, h, _ => by cases h
  | .hole _ :: _, _, _, _, h, _ => by cases h
  | .nd _ _ :: _, _, _, _, h, _ => by cases h
  | .lk .. :: _, _, _, _, h, _ => by cases h
theorem allVal_eq : ∀ {ts : List T} {ds : List D}, allVal ts = some ds → ts = ds.map .val
  | [], _, h => by cases h; rfl
  | .val d :: ts, ds, h => by
    rw [allVal] at h
    cases q : allVal ts with
    | none => rw [q] at h; cases h
    | some xs => rw [q] at h; cases h; rw [List.map_cons, allVal_eq q]
  | .unk :: _, _, h => by cases h
  | .hole _ :: _, _, h => by cases h
  | .nd _ _ :: _, _, h => by cases h
  | .lk .. :: _, _, h => by cases h
def T.d? : T → Option D
  | .val d => some d
  | t => t.ds.map fun p => .nd p.1 p.2
theorem ds_nd {s : Sh} {ds : List D} : T.ds (.nd s (ds.map .val)) = some (s, ds) := by rw [T.ds, allVal_map]; rfl
theorem ds_val {s : Sh} {ds : List D} : T.ds (.val (.nd s ds)) = some (s, ds) := rfl

section
variable (K : PySem.W.Frag) (N : Nm)
def Sh.at (H : Hp) (a : Addr) (s : Sh) (vs : List V) : Prop := match s with
  | .tup => H a = some (.tup vs) ∨ (KTup K a vs ∧ KStr vs)
  | .lst => H a = some (.lst vs)
  | .slst => SqL K H a vs
  | .dk ks => Rd H a (.dK (ks.zip vs)) ∧ ks.length = vs.length
  | .dt ks => Rd H a (.dT (ks.zip vs)) ∧ ks.length = vs.length
  | .ins C fs => ∃ dx, H a = some (.ins (N.at C) dx ((fs.map Str.ofString).zip vs)) ∧ fs.length = vs.length
end
section
variable {K : PySem.W.Frag} {N : Nm} {G H : Hp}
theorem sqL_r (sr : SameR G H) {a : Addr} {xs : List V} (h : SqL K G a xs) : SqL K H a xs := by
  rcases h with (h | ⟨o, h⟩) | h
  · rcases sr a _ h with q | ⟨q, _⟩
    · exact .inl (.inl q)
    · rcases q with ⟨_, q⟩ | ⟨_, q⟩ <;> cases q
  · rcases sr a _ h with q | ⟨q, _⟩
    · exact .inl (.inr ⟨o, q⟩)
    · rcases q with ⟨_, q⟩ | ⟨_, q⟩ <;> cases q
  · exact .inr h
theorem Sh.rd_at (sr : SameR G H) {s : Sh} {a : Addr} {vs : List V} (h : s.rd K N G a vs) : s.at K N H a vs := by
  cases s with
  | tup =>
    rcases h with h | h
    · rcases sr a _ h with q | ⟨q, _⟩
      · exact .inl q
      · rcases q with ⟨_, q⟩ | ⟨_, q⟩ <;> cases q
    · exact .inr h
  | slst => exact sqL_r sr h
  | lst =>
    obtain ⟨o, e, rfl⟩ := h
    rcases sr a _ e with q | ⟨q, _⟩
    · exact q
    · rcases q with ⟨_, q⟩ | ⟨_, q⟩ <;> cases q
  | dk ks =>
    obtain ⟨o, e, rfl, l⟩ := h
    exact ⟨(sr a _ e).imp id fun z => z.2, l.1⟩
  | dt ks =>
    obtain ⟨o, e, rfl, l⟩ := h
    exact ⟨(sr a _ e).imp id fun z => z.2, l.1⟩
  | ins C fs =>
    obtain ⟨o, e, dx, rfl, l⟩ := h
    rcases sr a _ e with q | ⟨q, _⟩
    · exact ⟨dx, q, l⟩
    · rcases q with ⟨_, q⟩ | ⟨_, q⟩ <;> cases q
theorem Sh.is_at {s : Sh} {a : Addr} {vs : List V} {o : HO} (i : s.is N vs o) (e : H a = some o) : s.at K N H a vs := by
  cases s with
  | tup => subst i; exact .inl e
  | slst => exact i.elim
  | lst => subst i; exact e
  | dk ks => obtain ⟨rfl, l⟩ := i; exact ⟨.inl e, l.1⟩
  | dt ks => obtain ⟨rfl, l⟩ := i; exact ⟨.inl e, l.1⟩
  | ins C fs => obtain ⟨dx, rfl, l⟩ := i; exact ⟨dx, e, l⟩
theorem RpAll.bw : ∀ {vs : List V} {ds : List D} {j : Nat} {c : T}, RpAll K N G vs ds → (ds.map T.val)[j]? = some c → ∃ w, vs[j]? = some w ∧ Bw K N G H w c
  | _, _, _, _, .nil, e => by simp at e
  | _, _, 0, c, .cons r _, e => by
    have : T.val _ = c := Option.some.inj e
    subst this
    exact ⟨_, rfl, Bw.of r⟩
  | _, _, j + 1, c, .cons _ t, e => by
    obtain ⟨w, h1, h2⟩ := RpAll.bw (j := j) (c := c) t (by simpa using e)
    exact ⟨w, by simpa using h1, h2⟩
theorem RepTs.bw {vs : List V} {ts : List T} {h : Hp} {j : Nat} {c : T} (r : RepTs K N G vs ts h) (s : Same h H) (e : ts[j]? = some c) : ∃ w, vs[j]? = some w ∧ Bw K N G H w c := by
  obtain ⟨w, h1, rest, e1, r1, d1, rfl, _⟩ := r.at e
  exact ⟨w, e1, h1, r1, same_un_r d1.symm s⟩
theorem RepTs.vals : ∀ {vs : List V} {ts : List T} {h : Hp} {ds : List D}, RepTs K N G vs ts h → allVal ts = some ds → RpAll K N G vs ds
  | _, _, _, _, .nil, e => by cases e; exact .nil
  | _, _, _, ds, .cons (t := t) (ts := ts) r q d, e => by
    cases r with
    | @val _ d r =>
      rw [allVal] at e
      cases z : allVal ts with
      | none => rw [z] at e; cases e
      | some xs => rw [z] at e; cases e; exact .cons r (RepTs.vals q z)
    | unk => cases e
    | hole => cases e
    | nd => cases e
    | lk => cases e
theorem bw_kids {v : V} {t : T} {s : Sh} {ts : List T} (b : Bw K N G H v t) (e : t.kids = some (s, ts)) (sr : SameR G H) :
    ∃ a vs, v = .ref a ∧ s.at K N H a vs ∧ vs.length = ts.length ∧ (∀ (j : Nat) (c : T), ts[j]? = some c → ∃ w, vs[j]? = some w ∧ Bw K N G H w c) ∧ (∀ ds, allVal ts = some ds → RpAll K N G vs ds) := by
  obtain ⟨h, r, sh⟩ := b
  cases r with
  | @val _ d r =>
    cases r with
    | nd hr ra =>
      cases e
      exact ⟨_, _, rfl, Sh.rd_at sr hr, by rw [List.length_map]; exact ra.len, fun j c q => ra.bw q, fun ds q => by rw [allVal_map] at q; cases q; exact ra⟩
    | _ => cases e
  | unk => cases e
  | hole => cases e
  | nd i n r na =>
    cases e
    exact ⟨_, _, rfl, Sh.is_at i (sh _ _ upd_same), r.len, fun j c q => r.bw (same_upd_l sh na) q, fun ds q => r.vals q⟩
  | @lk a s' vs ts' ob o o' hc i n eo r na zz =>
    cases ob with
    | none =>
      cases e
      subst eo
      exact ⟨_, _, rfl, Sh.is_at i (sh _ _ upd_same), r.len, fun j c q => r.bw (same_upd_l sh na) q, fun ds q => r.vals q⟩
    | some b =>
      subst eo
      cases s' with
      | dk ks => cases e; obtain ⟨rfl, l⟩ := i; exact ⟨_, _, rfl, ⟨.inr ⟨b.1, sh _ _ upd_same⟩, l.1⟩, r.len, fun j c q => r.bw (same_upd_l sh na) q, fun ds q => r.vals q⟩
      | dt ks => cases e; obtain ⟨rfl, l⟩ := i; exact ⟨_, _, rfl, ⟨.inr ⟨b.1, sh _ _ upd_same⟩, l.1⟩, r.len, fun j c q => r.bw (same_upd_l sh na) q, fun ds q => r.vals q⟩
      | tup => cases e
      | lst => cases e
      | slst => cases e
      | ins C fs => cases e
theorem ds_kids {t : T} {s : Sh} {ds : List D} (e : t.ds = some (s, ds)) : ∃ ts, t.kids = some (s, ts) ∧ allVal ts = some ds := by
  have k : ∀ {s' : Sh} {ts : List T}, (allVal ts).map (s', ·) = some (s, ds) → s' = s ∧ allVal ts = some ds := fun {s' ts} h => by
    cases q : allVal ts with
    | none => rw [q] at h; cases h
    | some xs => rw [q] at h; cases h; exact ⟨rfl, rfl⟩
  cases t with
  | val d =>
    cases d with
    | nd s' ds' => cases e; exact ⟨_, rfl, allVal_map ds⟩
    | _ => cases e
  | unk => cases e
  | hole => cases e
  | nd s' ts => obtain ⟨rfl, q⟩ := k e; exact ⟨ts, rfl, q⟩
  | lk a o s' ts =>
    cases o with
    | none => obtain ⟨rfl, q⟩ := k e; exact ⟨ts, rfl, q⟩
    | some b =>
      cases s' with
      | dk ks => obtain ⟨rfl, q⟩ := k e; exact ⟨ts, rfl, q⟩
      | dt ks => obtain ⟨rfl, q⟩ := k e; exact ⟨ts, rfl, q⟩
      | _ => cases e
theorem bw_ds {v : V} {t : T} {s : Sh} {ds : List D} (b : Bw K N G H v t) (e : t.ds = some (s, ds)) (sr : SameR G H) : ∃ a vs, v = .ref a ∧ s.at K N H a vs ∧ RpAll K N G vs ds := by
  obtain ⟨ts, e1, e2⟩ := ds_kids e
  obtain ⟨a, vs, rfl, h1, _, _, h2⟩ := bw_kids b e1 sr
  exact ⟨a, vs, rfl, h1, h2 ds e2⟩
theorem at_sqT {a : Addr} {vs : List V} (h : Sh.at K N H a .tup vs) : SqT K H a vs := h.elim SqT.of fun z => z.1.sq
theorem at_sqL {a : Addr} {vs : List V} (h : Sh.at K N H a .lst vs) : SqL K H a vs := SqL.of h
theorem rpAll_append : ∀ {vs ws : List V} {ds es : List D}, RpAll K N G vs ds → RpAll K N G ws es → RpAll K N G (vs ++ ws) (ds ++ es)
  | _, _, _, _, .nil, s => s
  | _, _, _, _, .cons r t, s => .cons r (rpAll_append t s)
theorem rpAll_take : ∀ {vs : List V} {ds : List D} (n : Nat), RpAll K N G vs ds → RpAll K N G (vs.take n) (ds.take n)
  | _, _, 0, _ => .nil
  | _, _, _ + 1, .nil => .nil
  | _, _, n + 1, .cons r t => .cons r (rpAll_take n t)
theorem rpAll_drop : ∀ {vs : List V} {ds : List D} (n : Nat), RpAll K N G vs ds → RpAll K N G (vs.drop n) (ds.drop n)
  | _, _, 0, r => r
  | _, _, _ + 1, .nil => .nil
  | _, _, n + 1, .cons _ t => rpAll_drop n t
theorem rpAll_get : ∀ {vs : List V} {ds : List D} {i : Nat} {d : D}, RpAll K N G vs ds → ds[i]? = some d → ∃ v, vs[i]? = some v ∧ Rp K N G v d
  | _, _, _, _, .nil, e => by simp at e
  | _, _, 0, _, .cons r _, e => by simp at e; subst e; exact ⟨_, rfl, r⟩
  | _, _, i + 1, d, .cons _ t, e => by
    obtain ⟨u, h1, h2⟩ := rpAll_get (i := i) (d := d) t (by simpa using e)
    exact ⟨u, by simpa using h1, h2⟩
theorem rpAll_rep {vs : List V} {ds : List D} (r : RpAll K N G vs ds) : ∀ k : Nat, RpAll K N G (List.replicate k vs).flatten (List.replicate k ds).flatten
  | 0 => .nil
  | k + 1 => by rw [List.replicate_succ, List.replicate_succ, List.flatten_cons, List.flatten_cons]; exact rpAll_append r (rpAll_rep r k)
theorem rpAll_ints : ∀ {vs : List V} {ns : List Int}, RpAll K N G vs (ns.map .int) → vs = ns.map V.int
  | _, [], h => by cases h; rfl
  | _, n :: ns, h => by cases h with | cons a b => cases a; rw [List.map_cons, rpAll_ints b]
theorem rpAll_bools : ∀ {vs : List V} {ns : List Bool}, RpAll K N G vs (ns.map .bl) → vs = ns.map V.bl
  | _, [], h => by cases h; rfl
  | _, n :: ns, h => by cases h with | cons a b => cases a; rw [List.map_cons, rpAll_bools b]
theorem ints_rp : ∀ (ns : List Int), RpAll K N G (ns.map V.int) (ns.map .int)
  | [] => .nil
  | n :: ns => .cons (.int n) (ints_rp ns)
mutual
theorem RepT.noFrz : ∀ {v : V} {t : T} {h : Hp}, RepT K N G v t h → t.fz = true → ∀ a o, h a = some o → ∀ b u, o ≠ .frz b u
  | _, _, _, .val _, _ => fun _ _ e => nomatch e
  | _, _, _, .unk, _ => fun _ _ e => nomatch e
  | _, _, _, .hole _, _ => fun _ _ e => nomatch e
  | _, _, _, .lk .., e => by simp [T.fz] at e
  | _, _, _, .nd (a := x) i n r na, e => fun a o q => by
    unfold T.fz at e
    by_cases c : a = x
    · subst c; rw [upd_same] at q; cases q; exact (Sh.is_noTup i n).2
    · rw [upd_ne c] at q; exact RepTs.noFrz r e a o q
theorem RepTs.noFrz : ∀ {vs : List V} {ts : List T} {h : Hp}, RepTs K N G vs ts h → fzs ts = true → ∀ a o, h a = some o → ∀ b u, o ≠ .frz b u
  | _, _, _, .nil, _ => fun _ _ e => nomatch e
  | _, _, _, .cons r t d, e => fun a o q => by
    unfold fzs at e
    rw [Bool.and_eq_true] at e
    rcases un_cases q with q | ⟨_, q⟩
    · exact RepT.noFrz r e.1 a o q
    · exact RepTs.noFrz t e.2 a o q
end
/-- a frozen view of the whole -/
theorem bw_view {v : V} {t : T} (b : Bw K N G H v t) (fz : t.fz = true) (sr : SameR G H) : ∃ G2, SameR G2 H ∧ Same G G2 ∧ Rp K N G2 v t.frz := by
  obtain ⟨h, r, sh⟩ := b
  refine ⟨un G h, fun a o e => ?_, same_unG, r.frozen same_unG fz fun a o e => ?_⟩
  · rcases un_cases e with e | ⟨_, e⟩
    · exact sr a o e
    · exact .inl (sh a o e)
  · have hs := sh a o e
    cases q : G a with
    | none => exact (un_none q).trans e
    | some u =>
      rw [un_some q]
      rcases sr a u q with z | ⟨_, b, z⟩
      · rw [hs] at z; exact z.symm
      · rw [hs] at z; cases z; exact (r.noFrz fz a _ e _ _ rfl).elim
end
end Y
/-! Ye: the operators themselves. -/
namespace Y
open PySem PySem.Spec PyProof.Rows L2 Z

def oGet {α : Type} (o : Option α) (k : α → Prop) : Prop := match o with | some c => k c | none => False
theorem oGet_some {α : Type} {c : α} {k : α → Prop} : oGet (some c) k = k c := rfl
theorem oGet_none {α : Type} {k : α → Prop} : oGet none k = False := rfl
theorem oGet_elim {α : Type} {o : Option α} {k : α → Prop} (h : oGet o k) : ∃ c, o = some c ∧ k c := by
  cases o with
  | none => exact h.elim
  | some c => exact ⟨c, rfl, h⟩
abbrev KB := Bool → Prop
/-- a bool -/
abbrev toB (k : KC) : KB := fun b => k (.val (.bl b))

/-! data to be compared -/
mutual
def D.py : D → PyData
  | .non => .none
  | .bl b => .bool b
  | .int i => .int i
  | .str s => .str s
  | .obj _ => .none
  | .nd .tup ds => .tuple (pys ds)
  | .nd .lst ds => .list (pys ds)
  | .nd .slst _ => .none
  | .nd (.dk _) _ => .none
  | .nd (.dt _) _ => .none
  | .nd (.ins _ _) _ => .none
def pys : List D → List PyData
  | [] => []
  | d :: ds => d.py :: pys ds
end
/-- plain data, not too deep -/
def D.good : Nat → D → Prop
  | 0, _ => False
  | _ + 1, .non => True
  | _ + 1, .bl _ => True
  | _ + 1, .int _ => True
  | _ + 1, .str s => PyData.strOk s = true
  | n + 1, .nd .tup ds => ∀ d ∈ ds, D.good n d
  | n + 1, .nd .lst ds => ∀ d ∈ ds, D.good n d
  | _ + 1, _ => False
theorem pys_map : ∀ ds : List D, pys ds = ds.map D.py
  | [] => rfl
  | d :: ds => by rw [pys, pys_map ds]; rfl
theorem good_lay (n : Nat) : ∀ {d : D}, d.good n → d.py.canLay0 = true ∧ d.py.depth ≤ n := by
  induction n with
  | zero => intro d h; exact h.elim
  | succ n ih =>
    have hs : ∀ {ds : List D}, (∀ d ∈ ds, D.good n d) → PyData.canLayAll0 (pys ds) = true ∧ PyData.depthAll (pys ds) ≤ n := fun {ds} h => by
      rw [pys_map]
      exact Z.good_lay (n := n) (fun d m => by
        obtain ⟨x, hx, rfl⟩ := List.mem_map.mp m
        exact ih (h x hx))
    intro d h
    cases d with
    | non => exact ⟨rfl, by simp [D.py, PyData.depth]⟩
    | bl b => exact ⟨rfl, by simp [D.py, PyData.depth]⟩
    | int i => exact ⟨rfl, by simp [D.py, PyData.depth]⟩
    | str s => exact ⟨by rw [D.py, PyData.canLay0]; exact h, by simp [D.py, PyData.depth]⟩
    | obj a => exact h.elim
    | nd s ds =>
      cases s with
      | tup =>
        obtain ⟨h1, h2⟩ := hs h
        exact ⟨by rw [D.py, PyData.canLay0]; exact h1, by rw [D.py, PyData.depth]; omega⟩
      | lst =>
        obtain ⟨h1, h2⟩ := hs h
        exact ⟨by rw [D.py, PyData.canLay0]; exact h1, by rw [D.py, PyData.depth]; omega⟩
      | slst => exact h.elim
      | dk _ => exact h.elim
      | dt _ => exact h.elim
      | ins _ _ => exact h.elim
theorem good_shaped {d : D} (h : d.good 64) : SeqAt.shaped d.py = true := by
  obtain ⟨h1, h2⟩ := good_lay 64 h
  unfold SeqAt.shaped
  rw [h1, decide_eq_true h2]; rfl
section
variable {K : PySem.W.Frag} {N : Nm} {G H : Hp}
mutual
theorem rp_dp (sr : SameR G H) (n : Nat) : ∀ {v : V} {d : D}, Rp K N G v d → d.good n → Dp K H v d.py
  | _, _, .non, _ => by rw [D.py]; exact .non
  | _, _, .bl b, _ => by rw [D.py]; exact .bl b
  | _, _, .int b, _ => by rw [D.py]; exact .int b
  | _, _, .str b, _ => by rw [D.py]; exact .str b
  | _, _, .obj a, h => by cases n <;> exact h.elim
  | _, _, .nd (s := s) (ds := ds) r a, h => by
    cases n with
    | zero => exact h.elim
    | succ n =>
      cases s with
      | tup => rw [D.py]; exact .tup (at_sqT (N := N) (Sh.rd_at sr r)) (rpAll_dp sr n a h)
      | lst => rw [D.py]; exact .lst (at_sqL (N := N) (Sh.rd_at sr r)) (rpAll_dp sr n a h)
      | slst => exact h.elim
      | dk _ => exact h.elim
      | dt _ => exact h.elim
      | ins _ _ => exact h.elim
theorem rpAll_dp (sr : SameR G H) (n : Nat) : ∀ {vs : List V} {ds : List D}, RpAll K N G vs ds → (∀ d ∈ ds, D.good n d) → DpAll K H vs (pys ds)
  | _, _, .nil, _ => by rw [pys]; exact .nil
  | _, _, .cons r t, h => by rw [pys]; exact .cons (rp_dp sr n r (h _ (List.mem_cons_self ..))) (rpAll_dp sr n t fun d m => h d (List.mem_cons_of_mem _ m))
end
theorem bw_dp {v : V} {t : T} (b : Bw K N G H v t) (sr : SameR G H) (fz : t.fz = true) (g : t.frz.good 64) : Dp K H v t.frz.py := by
  obtain ⟨G2, s2, _, r⟩ := bw_view b fz sr
  exact rp_dp s2 64 r g
theorem bw_int {v : V} {i : Int} (b : Bw K N G H v (.val (.int i))) : v = .int i := by have r := b.val; cases r; rfl
theorem bw_str {v : V} {i : Str} (b : Bw K N G H v (.val (.str i))) : v = .str i := by have r := b.val; cases r; rfl
theorem bw_bl {v : V} {i : Bool} (b : Bw K N G H v (.val (.bl i))) : v = .bl i := by have r := b.val; cases r; rfl
theorem bw_non {v : V} (b : Bw K N G H v (.val .non)) : v = .non := by have r := b.val; cases r; rfl
theorem bw_obj {v : V} {a : Addr} (b : Bw K N G H v (.val (.obj a))) : v = .ref a := by have r := b.val; cases r; rfl
theorem bw_tup {v : V} {t : T} {ds : List D} (b : Bw K N G H v t) (e : t.ds = some (.tup, ds)) : Rp K N G v (.tup ds) := by
  cases t with
  | val d =>
    have r := b.val
    cases d with
    | nd s es => cases e; exact r
    | _ => cases e
  | unk => cases e
  | hole => cases e
  | nd s ts =>
    obtain ⟨h, r, _⟩ := b
    cases r with
    | nd i n r na =>
      rw [T.ds] at e
      cases q : allVal ts with
      | none => rw [q] at e; cases e
      | some xs => rw [q] at e; cases e; exact (n rfl).elim
  | lk a o s ts =>
    obtain ⟨h, r, _⟩ := b
    cases r with
    | lk i n eo r na zz =>
      have : s = .tup := by
        cases o with
        | none =>
          rw [T.ds] at e
          cases q : allVal ts with
          | none => rw [q] at e; cases e
          | some xs => rw [q] at e; cases e; rfl
        | some b =>
          cases s with
          | tup => rfl
          | dk ks =>
            have e : (allVal ts).map (Sh.dk ks, ·) = some (Sh.tup, ds) := e
            cases q : allVal ts with
            | none => rw [q] at e; cases e
            | some xs => rw [q] at e; cases e
          | dt ks =>
            have e : (allVal ts).map (Sh.dt ks, ·) = some (Sh.tup, ds) := e
            cases q : allVal ts with
            | none => rw [q] at e; cases e
            | some xs => rw [q] at e; cases e
          | _ => cases e
      exact (n this).elim
theorem rp_tupD {v : V} {ds : List D} (r : Rp K N G v (.tup ds)) (sr : SameR G H) : ∃ a vs, v = .ref a ∧ SqT K H a vs ∧ RpAll K N G vs ds := by
  cases r with
  | nd h a => exact ⟨_, _, rfl, at_sqT (N := N) (Sh.rd_at sr h), a⟩
end

/-! ### arithmetic -/
def oAdd : F2 := fun x y K' => match x, y with
  | .val (.int i), .val (.int j) => K' (.val (.int (i + j)))
  | .val (.str a), .val (.str b) => a.length + b.length ≤ sizeLine ∧ K' (.val (.str (a ++ b)))
  | x, y => match x.ds, y.ds with
    | some (.lst, xs), some (.lst, ys) => xs.length + ys.length ≤ sizeLine ∧ K' (.nd .lst ((xs ++ ys).map .val))
    | some (.tup, xs), some (.tup, ys) => xs.length + ys.length ≤ sizeLine ∧ K' (.val (.tup (xs ++ ys)))
    | _, _ => False
def oSub : F2 := fun x y K' => match x, y with
  | .val (.int i), .val (.int j) => K' (.val (.int (i - j)))
  | _, _ => False
def oMul : F2 := fun x y K' => match x, y with
  | .val (.int i), .val (.int j) => CMulB i j ∧ K' (.val (.int (i * j)))
  | x, .val (.int k) => match x.ds with
    | some (.lst, xs) => -(2 ^ 63) ≤ k ∧ k < 2 ^ 63 ∧ xs.length * k.toNat ≤ sizeLine ∧ K' (.nd .lst ((List.replicate k.toNat xs).flatten.map .val))
    | _ => False
  | _, _ => False
def oDiv : F2 := fun x y K' => match x, y with
  | .val (.int i), .val (.int j) => CDivW i j ∧ K' (.val (.int (i / j)))
  | _, _ => False
def oMod : F2 := fun x y K' => match x, y with
  | .val (.int i), .val (.int j) => 0 < j ∧ K' (.val (.int (i % j)))
  | _, _ => False
def oPow : F2 := fun x y K' => match x, y with
  | .val (.int i), .val (.int j) => CPow i j ∧ K' (.val (.int (i ^ j.toNat)))
  | _, _ => False
def oNeg : F1 := fun x K' => match x with
  | .val (.int i) => K' (.val (.int (-i)))
  | _ => False
section
variable {K : PySem.W.Frag} {N : Nm}
theorem s_add : OpS K N oAdd (zAdd K) := by
  intro G H x y tx ty K' Q sr bx bY q o
  unfold oAdd at q
  split at q
  · cases bw_int bx; cases bw_int bY
    exact o.sc sr (.int _) q
  · cases bw_str bx; cases bw_str bY
    exact ⟨q.1, o.sc sr (.str _) q.2⟩
  · split at q
    · rename_i e1 e2
      obtain ⟨a, vs, rfl, h1, r1⟩ := bw_ds bx e1 sr
      obtain ⟨b, ws, rfl, h2, r2⟩ := bw_ds bY e2 sr
      refine .inl ⟨a, b, vs, ws, rfl, rfl, h1, h2, ?_, fun p n => o.lst sr (rpAll_append r1 r2) q.2 n⟩
      rw [r1.len, r2.len]; exact q.1
    · rename_i e1 e2
      have t1 := bw_tup bx e1
      have t2 := bw_tup bY e2
      obtain ⟨a, vs, rfl, h1, r1⟩ := rp_tupD t1 sr
      obtain ⟨b, ws, rfl, h2, r2⟩ := rp_tupD t2 sr
      refine .inr ⟨a, b, vs, ws, rfl, rfl, h1, h2, ?_, fun e => ?_, fun _ e => ?_, fun _ _ p n => o.tup sr (rpAll_append r1 r2) q.2 n⟩
      · rw [r1.len, r2.len]; exact q.1
      · subst e
        cases r1
        exact o.sc sr t2 q.2
      · subst e
        cases r2
        rw [List.append_nil] at q
        exact o.sc sr t1 q.2
    · exact q.elim
theorem s_sub : OpS K N oSub zSub := by
  intro G H x y tx ty K' Q sr bx bY q o
  unfold oSub at q
  split at q
  · cases bw_int bx; cases bw_int bY
    exact o.sc sr (.int _) q
  · exact q.elim
theorem s_mul : OpS K N oMul zMul := by
  intro G H x y tx ty K' Q sr bx bY q o
  unfold oMul at q
  split at q
  · cases bw_int bx; cases bw_int bY
    exact ⟨q.1, o.sc sr (.int _) q.2⟩
  · split at q
    · rename_i e1
      cases bw_int bY
      obtain ⟨a, vs, rfl, h1, r1⟩ := bw_ds bx e1 sr
      refine ⟨a, _, vs, rfl, rfl, h1, q.1, q.2.1, ?_, fun p n => o.lst sr (rpAll_rep r1 _) q.2.2.2 n⟩
      rw [r1.len]; exact q.2.2.1
    · exact q.elim
  · exact q.elim
theorem s_div : OpS K N oDiv zDiv := by
  intro G H x y tx ty K' Q sr bx bY q o
  unfold oDiv at q
  split at q
  · cases bw_int bx; cases bw_int bY
    exact ⟨q.1, o.sc sr (.int _) q.2⟩
  · exact q.elim
theorem s_mod : OpS K N oMod zMod := by
  intro G H x y tx ty K' Q sr bx bY q o
  unfold oMod at q
  split at q
  · cases bw_int bx; cases bw_int bY
    exact ⟨q.1, o.sc sr (.int _) q.2⟩
  · exact q.elim
theorem s_pow : OpS K N oPow zPow := by
  intro G H x y tx ty K' Q sr bx bY q o
  unfold oPow at q
  split at q
  · cases bw_int bx; cases bw_int bY
    exact ⟨q.1, o.sc sr (.int _) q.2⟩
  · exact q.elim
theorem s_neg : UnS K N oNeg (rU fun i => .int (-i)) := by
  intro G H x tx K' Q sr bx q o
  unfold oNeg at q
  split at q
  · cases bw_int bx
    exact ⟨_, rfl, o.sc sr (.int _) q⟩
  · exact q.elim
end

/-! ### comparisons -/
def oEqB (x y : T) (kb : KB) : Prop := match x, y with
  | .val .non, .val .non => kb true
  | .val (.int i), .val (.int j) => kb (decide (i = j))
  | .val (.str i), .val (.str j) => kb (decide (i = j))
  | .val (.bl i), .val (.bl j) => kb (decide (i = j))
  | .val .non, .val (.int _) => kb false
  | .val .non, .val (.bl _) => kb false
  | .val .non, .val (.str _) => kb false
  | .val (.int _), .val .non => kb false
  | .val (.bl _), .val .non => kb false
  | .val (.str _), .val .non => kb false
  | .val (.int _), .val (.str _) => kb false
  | .val (.str _), .val (.int _) => kb false
  | .val (.bl _), .val (.str _) => kb false
  | .val (.str _), .val (.bl _) => kb false
  | x, y => x.fz = true ∧ y.fz = true ∧ x.frz.good 64 ∧ y.frz.good 64 ∧ kb (PyData.eqv x.frz.py y.frz.py)
def oEq : F2 := fun x y K' => oEqB x y fun b => K' (.val (.bl b))
def oNe : F2 := fun x y K' => oEqB x y fun b => K' (.val (.bl (!b)))
def ints? : List D → Option (List Int)
  | [] => some []
  | .int i :: ds => (ints? ds).map (i :: ·)
  | _ :: _ => none
theorem ints?_map : ∀ ns : List Int, ints? (ns.map .int) = some ns
  | [] => rfl
  | n :: ns => by rw [List.map_cons, ints?, ints?_map ns]; rfl
theorem ints?_eq : ∀ {ds : List D} {ns : List Int}, ints? ds = some ns → ds = ns.map .int
  | [], _, h => by cases h; rfl
  | .int i :: ds, _, h => by
    rw [ints?] at h
    cases q : ints? ds with
    | none => rw [q] at h; cases h
    | some xs => rw [q] at h; cases h; rw [List.map_cons, ints?_eq q]
  | .non :: _, _, h => by cases h
  | .bl _ :: _, _, h => by cases h
  | .str _ :: _, _, h => by cases h
  | .obj _ :: _, _, h => by cases h
  | .nd _ _ :: _, _, h => by cases h
def oLt : F2 := fun x y K' => match x, y with
  | .val (.int i), .val (.int j) => K' (.val (.bl (decide (i < j))))
  | .val (.str i), .val (.str j) => K' (.val (.bl (decide (i.cps.toList < j.cps.toList))))
  | .val (.nd .tup xs), .val (.nd .tup ys) => oGet (ints? xs) fun ns => oGet (ints? ys) fun ms => K' (.val (.bl (HT.lexLt ns ms)))
  | _, _ => False
def oLe : F2 := fun x y K' => match x, y with
  | .val (.int i), .val (.int j) => K' (.val (.bl (decide (i ≤ j))))
  | _, _ => False
def oGt : F2 := fun x y K' => match x, y with
  | .val (.int i), .val (.int j) => K' (.val (.bl (decide (j < i))))
  | _, _ => False
def oGe : F2 := fun x y K' => match x, y with
  | .val (.int i), .val (.int j) => K' (.val (.bl (decide (j ≤ i))))
  | _, _ => False
/-- is None -/
def oIs : F2 := fun x y K' => match x, y with
  | .val .non, .val .non => K' (.val (.bl true))
  | .val (.bl a), .val (.bl b) => K' (.val (.bl (decide (a = b))))
  | .val _, .val .non => K' (.val (.bl false))
  | .nd _ _, .val .non => K' (.val (.bl false))
  | _, _ => False
def oIsNot : F2 := fun x y K' => match x, y with
  | .val .non, .val .non => K' (.val (.bl false))
  | .val (.bl a), .val (.bl b) => K' (.val (.bl (!decide (a = b))))
  | .val _, .val .non => K' (.val (.bl true))
  | .nd _ _, .val .non => K' (.val (.bl true))
  | _, _ => False
section
variable {K : PySem.W.Frag} {N : Nm}
theorem eq_core {G H : Hp} {x y : V} {tx ty : T} {kb : KB} {R : Bool → Prop} {ZE : Prop} (sr : SameR G H) (bx : Bw K N G H x tx) (bY : Bw K N G H y ty) (q : oEqB tx ty kb) (o : ∀ b, kb b → R b)
    (h : (∃ b, R b ∧ (match x, y with
      | .non, .non => b = true
      | .int i, .int j => b = decide (i = j)
      | .str i, .str j => b = decide (i = j)
      | .bl i, .bl j => b = decide (i = j)
      | .non, .int _ | .non, .bl _ | .non, .str _ | .int _, .non | .bl _, .non | .str _, .non | .int _, .str _ | .str _, .int _ | .bl _, .str _ | .str _, .bl _ => b = false
      | _, _ => False)) ∨ (∃ d e, Dp K H x d ∧ Dp K H y e ∧ SeqAt.shaped d = true ∧ SeqAt.shaped e = true ∧ R (PyData.eqv d e)) → ZE) : ZE := by
  unfold oEqB at q
  split at q
  case h_1 => cases bw_non bx; cases bw_non bY; exact h (.inl ⟨_, o _ q, rfl⟩)
  case h_2 => cases bw_int bx; cases bw_int bY; exact h (.inl ⟨_, o _ q, rfl⟩)
  case h_3 => cases bw_str bx; cases bw_str bY; exact h (.inl ⟨_, o _ q, rfl⟩)
  case h_4 => cases bw_bl bx; cases bw_bl bY; exact h (.inl ⟨_, o _ q, rfl⟩)
  case h_5 => cases bw_non bx; cases bw_int bY; exact h (.inl ⟨_, o _ q, rfl⟩)
  case h_6 => cases bw_non bx; cases bw_bl bY; exact h (.inl ⟨_, o _ q, rfl⟩)
  case h_7 => cases bw_non bx; cases bw_str bY; exact h (.inl ⟨_, o _ q, rfl⟩)
  case h_8 => cases bw_int bx; cases bw_non bY; exact h (.inl ⟨_, o _ q, rfl⟩)
  case h_9 => cases bw_bl bx; cases bw_non bY; exact h (.inl ⟨_, o _ q, rfl⟩)
  case h_10 => cases bw_str bx; cases bw_non bY; exact h (.inl ⟨_, o _ q, rfl⟩)
  case h_11 => cases bw_int bx; cases bw_str bY; exact h (.inl ⟨_, o _ q, rfl⟩)
  case h_12 => cases bw_str bx; cases bw_int bY; exact h (.inl ⟨_, o _ q, rfl⟩)
  case h_13 => cases bw_bl bx; cases bw_str bY; exact h (.inl ⟨_, o _ q, rfl⟩)
  case h_14 => cases bw_str bx; cases bw_bl bY; exact h (.inl ⟨_, o _ q, rfl⟩)
  case h_15 =>
    obtain ⟨f1, f2, g1, g2, q⟩ := q
    exact h (.inr ⟨_, _, bw_dp bx sr f1 g1, bw_dp bY sr f2 g2, good_shaped g1, good_shaped g2, o _ q⟩)
theorem s_eq : OpS K N oEq (zEq K) := by
  intro G H x y tx ty K' Q sr bx bY q o
  refine eq_core (R := fun b => Q (.bl b) H) sr bx bY q (fun b k => o.sc sr (.bl b) k) fun h => ?_
  rcases h with ⟨b, r, e⟩ | h
  · cases x <;> cases y <;> first
      | exact e.elim
      | (subst e; exact r)
  · obtain ⟨d, e, h1, h2, h3, h4, r⟩ := h
    have g : rEqD K x y H Q := ⟨d, e, h1, h2, h3, h4, r⟩
    cases h1 <;> cases h2 <;> first
      | exact g
      | exact r
      | (rename_i i j; first
          | (have q : (i == j) = decide (i = j) := by by_cases c : i = j <;> simp [c]
             rw [PyData.eqv, q] at r; exact r)
          | (rw [PyData.eqv] at r; exact r))
theorem s_ne : OpS K N oNe (zNe K) := by
  intro G H x y tx ty K' Q sr bx bY q o
  refine eq_core (R := fun b => Q (.bl (!b)) H) sr bx bY q (fun b k => o.sc sr (.bl (!b)) k) fun h => ?_
  rcases h with ⟨b, r, e⟩ | h
  · cases x <;> cases y <;> first
      | exact e.elim
      | (subst e; exact r)
  · obtain ⟨d, e, h1, h2, h3, h4, r⟩ := h
    have g : rNeD K x y H Q := ⟨d, e, h1, h2, h3, h4, r⟩
    cases h1 <;> cases h2 <;> first
      | exact g
      | exact r
      | (rename_i i j; first
          | (have q : (i == j) = decide (i = j) := by by_cases c : i = j <;> simp [c]
             rw [PyData.eqv, q] at r; exact r)
          | (rw [PyData.eqv] at r; exact r))
theorem s_lt : OpS K N oLt (zLt K) := by
  intro G H x y tx ty K' Q sr bx bY q o
  unfold oLt at q
  split at q
  · cases bw_int bx; cases bw_int bY
    exact o.sc sr (.bl _) q
  · cases bw_str bx; cases bw_str bY
    exact o.sc sr (.bl _) q
  · obtain ⟨ns, e1, q⟩ := oGet_elim q
    obtain ⟨ms, e2, q⟩ := oGet_elim q
    obtain ⟨a, vs, rfl, h1, r1⟩ := rp_tupD bx.val sr
    obtain ⟨b, ws, rfl, h2, r2⟩ := rp_tupD bY.val sr
    rw [ints?_eq e1] at r1
    rw [ints?_eq e2] at r2
    rw [rpAll_ints r1] at h1
    rw [rpAll_ints r2] at h2
    exact ⟨a, b, ns, ms, rfl, rfl, h1, h2, o.sc sr (.bl _) q⟩
  · exact q.elim
theorem s_le : OpS K N oLe zLe := by
  intro G H x y tx ty K' Q sr bx bY q o
  unfold oLe at q
  split at q
  · cases bw_int bx; cases bw_int bY
    exact o.sc sr (.bl _) q
  · exact q.elim
theorem s_gt : OpS K N oGt zGt := by
  intro G H x y tx ty K' Q sr bx bY q o
  unfold oGt at q
  split at q
  · cases bw_int bx; cases bw_int bY
    exact o.sc sr (.bl _) q
  · exact q.elim
theorem s_ge : OpS K N oGe zGe := by
  intro G H x y tx ty K' Q sr bx bY q o
  unfold oGe at q
  split at q
  · cases bw_int bx; cases bw_int bY
    exact o.sc sr (.bl _) q
  · exact q.elim
theorem bw_not_non {G H : Hp} {v : V} {d : D} (b : Bw K N G H v (.val d)) (h : d ≠ .non) : v ≠ .non := fun e => by
  subst e
  have r := b.val
  cases r
  exact h rfl
theorem s_is : OpS K N oIs zIs := by
  intro G H x y tx ty K' Q sr bx bY q o
  unfold oIs at q
  split at q
  · cases bw_non bx; cases bw_non bY
    exact o.sc sr (.bl _) q
  · cases bw_bl bx; cases bw_bl bY
    exact o.sc sr (.bl _) q
  · rename_i d hd
    cases bw_non bY
    have n := bw_not_non bx (fun e => by subst e; first | exact hd rfl rfl | exact hd rfl | simp_all)
    cases x with
    | non => exact (n rfl).elim
    | _ => exact o.sc sr (.bl false) q
  · cases bw_non bY
    obtain ⟨h, r, _⟩ := bx
    cases r
    exact o.sc sr (.bl false) q
  · exact q.elim
theorem s_isnot : OpS K N oIsNot zIsNot := by
  intro G H x y tx ty K' Q sr bx bY q o
  unfold oIsNot at q
  split at q
  · cases bw_non bx; cases bw_non bY
    exact o.sc sr (.bl _) q
  · cases bw_bl bx; cases bw_bl bY
    exact o.sc sr (.bl _) q
  · rename_i d hd
    cases bw_non bY
    have n := bw_not_non bx (fun e => by subst e; first | exact hd rfl rfl | exact hd rfl | simp_all)
    cases x with
    | non => exact (n rfl).elim
    | _ => exact o.sc sr (.bl true) q
  · cases bw_non bY
    obtain ⟨h, r, _⟩ := bx
    cases r
    exact o.sc sr (.bl true) q
  · exact q.elim
end
end Y
/-! Yf: in, [i], slices, built-ins by values, truth. -/
namespace Y
open PySem PySem.Spec PyProof.Rows L2 Z

/-! keys -/
def ixK {κ : Type} [DecidableEq κ] : List κ → κ → Option Nat
  | [], _ => none
  | k' :: ks, k => if k' = k then some 0 else (ixK ks k).map (· + 1)
def getK {κ α : Type} [DecidableEq κ] (ks : List κ) (ts : List α) (k : κ) : Option α := (ixK ks k).bind (ts[·]?)
theorem ixK_lt {κ : Type} [DecidableEq κ] {k : κ} : ∀ {ks : List κ} {j : Nat}, ixK ks k = some j → j < ks.length
  | [], _, h => by cases h
  | k' :: ks, j, h => by
    unfold ixK at h
    by_cases c : k' = k
    · rw [if_pos c] at h; cases h; exact Nat.succ_pos _
    · rw [if_neg c] at h
      cases q : ixK ks k with
      | none => rw [q] at h; cases h
      | some i => rw [q] at h; cases h; exact Nat.succ_lt_succ (ixK_lt q)
theorem valV_ix {κ : Type} [DecidableEq κ] {k : κ} : ∀ {ks : List κ} {vs : List V}, ks.length = vs.length → valV (ks.zip vs) k = (ixK ks k).bind (vs[·]?)
  | [], [], _ => rfl
  | k' :: ks, v :: vs, h => by
    rw [List.zip_cons_cons]
    unfold ixK
    by_cases c : k' = k
    · rw [if_pos c, valV_pos (p := (k', v)) c]; rfl
    · rw [if_neg c, valV_neg (p := (k', v)) c, valV_ix (by simpa using h)]
      cases ixK ks k <;> simp
theorem ixK_none {κ : Type} [DecidableEq κ] {k : κ} : ∀ {ks : List κ}, ixK ks k = none ↔ k ∉ ks
  | [] => by simp [ixK]
  | k' :: ks => by
    unfold ixK
    by_cases c : k' = k
    · rw [if_pos c]; simp [c]
    · rw [if_neg c, Option.map_eq_none_iff, ixK_none]; simp [Ne.symm c]
theorem ixK_isSome {κ : Type} [DecidableEq κ] {k : κ} {ks : List κ} : (ixK ks k).isSome = decide (k ∈ ks) := by
  cases q : ixK ks k with
  | none => rw [decide_eq_false (ixK_none.mp q)]; rfl
  | some i => rw [decide_eq_true (Classical.byContradiction fun h => by rw [ixK_none.mpr h] at q; cases q)]; rfl
def D.k1 : D → Option Key
  | .int i => some (.inl i)
  | .str s => some (.inr s)
  | _ => none
def k1s : List D → Option (List Key)
  | [] => some []
  | .int i :: ds => (k1s ds).map (.inl i :: ·)
  | .str s :: ds => (k1s ds).map (.inr s :: ·)
  | _ :: _ => none
def long : D → Bool
  | .str s => decide (2 ≤ s.length)
  | _ => false
def kstr (ds : List D) : Bool := !ds.isEmpty && ds.all long
def D.kt : D → Option (List Key)
  | .nd .tup ds => if kstr ds = true then none else k1s ds
  | _ => none
section
variable {K : PySem.W.Frag} {N : Nm} {G H : Hp}
theorem rp_k1 {v : V} {d : D} {k : Key} (r : Rp K N G v d) (e : d.k1 = some k) : v = kV k := by
  cases r with
  | int i => cases e; rfl
  | str s => cases e; rfl
  | _ => cases e
theorem rp_k1s : ∀ {vs : List V} {ds : List D} {ks : List Key}, RpAll K N G vs ds → k1s ds = some ks → vs = ks.map kV
  | _, _, _, .nil, e => by cases e; rfl
  | _, d :: ds, ks, .cons r t, e => by
    cases r with
    | int i =>
      rw [k1s] at e
      cases q : k1s ds with
      | none => rw [q] at e; cases e
      | some xs => rw [q] at e; cases e; rw [rp_k1s t q]; rfl
    | str i =>
      rw [k1s] at e
      cases q : k1s ds with
      | none => rw [q] at e; cases e
      | some xs => rw [q] at e; cases e; rw [rp_k1s t q]; rfl
    | _ => cases e
theorem kstr_of : ∀ {vs : List V} {ds : List D}, RpAll K N G vs ds → (∀ v ∈ vs, ∃ s : Str, v = .str s ∧ 2 ≤ s.length) → ds.all long = true
  | _, _, .nil, _ => rfl
  | _, _, .cons r t, h => by
    obtain ⟨s, e, l⟩ := h _ (List.mem_cons_self ..)
    rw [List.all_cons, kstr_of t fun v m => h v (List.mem_cons_of_mem _ m), Bool.and_true]
    subst e
    cases r
    exact decide_eq_true l
theorem rp_kt {v : V} {d : D} {ks : List Key} (r : Rp K N G v d) (e : d.kt = some ks) (sr : SameR G H) : ∃ b, v = .ref b ∧ H b = some (.tup (ks.map kV)) := by
  cases r with
  | @nd a s vs ds h ra =>
    cases s with
    | tup =>
      have e : (if kstr ds = true then none else k1s ds) = some ks := e
      by_cases hk : kstr ds = true
      · rw [if_pos hk] at e; cases e
      · rw [if_neg hk] at e
        rw [← rp_k1s ra e]
        rcases h with h | ⟨_, hn, hs⟩
        · rcases sr a _ h with q | ⟨q, _⟩
          · exact ⟨a, rfl, q⟩
          · rcases q with ⟨_, q⟩ | ⟨_, q⟩ <;> cases q
        · refine (hk ?_).elim
          unfold kstr
          rw [kstr_of ra hs]
          cases ra with
          | nil => exact (hn rfl).elim
          | cons _ _ => rfl
    | _ => cases e
  | _ => cases e
end

/-! in -/
def oneSign (s : Str) : Option Nat := if s.cps.size = 1 then s.cps[0]? else none
theorem one_eq {s : Str} {c : Nat} (h : oneSign s = some c) : s = ⟨#[c]⟩ := by
  obtain ⟨⟨l⟩⟩ := s
  unfold oneSign at h
  split at h
  · rename_i hl
    cases l with
    | nil => simp at hl
    | cons a r =>
      cases r with
      | nil => simp at h; rw [h]
      | cons _ _ => simp at hl
  · cases h
def D.flat : D → Bool
  | .non | .bl _ | .int _ | .str _ => true
  | _ => false
def inOk (s : Sh) (d : D) (ds : List D) : Prop := (d.flat = true ∧ ds.all D.flat = true) ∨ ((s = .lst ∨ s = .tup) ∧ d.good 64 ∧ ∀ e ∈ ds, D.good 63 e)
/-- is it among them -/
def amongD (d : D) (ds : List D) : Bool := ds.any fun z => PyData.eqv z.py d.py
def oInB (x y : T) (kb : KB) : Prop := match x with
  | .val d => match y with
    | .val (.str z) => (match d with | .str s => oGet (oneSign s) fun c => kb (decide (c ∈ z.cps.toList)) | _ => False)
    | y => match y.kids with
      | some (.dk ks, _) => oGet d.k1 fun k => kb (ixK ks k).isSome
      | some (.dt ks, _) => oGet d.kt fun k => kb (ixK ks k).isSome
      | _ => match y.ds with
        | some (.lst, ds) => inOk .lst d ds ∧ kb (amongD d ds)
        | some (.tup, ds) => inOk .tup d ds ∧ kb (amongD d ds)
        | some (.slst, ds) => inOk .slst d ds ∧ kb (amongD d ds)
        | _ => False
  | .nd s ts => match y.ds with
    | some (sh, ds) => (sh = .lst ∨ sh = .tup) ∧ (T.nd s ts).fz = true ∧ (T.nd s ts).frz.good 64 ∧ (∀ e ∈ ds, D.good 63 e) ∧ kb (amongD (T.nd s ts).frz ds)
    | none => False
  | _ => False
def oIn : F2 := fun x y K' => oInB x y fun b => K' (.val (.bl b))
def oNotIn : F2 := fun x y K' => oInB x y fun b => K' (.val (.bl (!b)))
section
variable {K : PySem.W.Frag} {N : Nm} {G H : Hp}
theorem eqV_py {x y : V} {d e : D} (r1 : Rp K N G x d) (r2 : Rp K N G y e) (f1 : d.flat = true) (f2 : e.flat = true) : eqV x y = PyData.eqv d.py e.py := by
  cases r1 <;> cases r2 <;> first
    | rfl
    | (simp [D.py, PyData.eqv, eqV]; done)
    | (exact Bool.noConfusion (show false = true from f1))
    | (exact Bool.noConfusion (show false = true from f2))
theorem flat_py {x : V} {d : D} (r1 : Rp K N G x d) (f1 : d.flat = true) : flatV x = true := by
  cases r1 <;> first | rfl | exact Bool.noConfusion (show false = true from f1)
theorem inV_py {x : V} {d : D} (r : Rp K N G x d) (f : d.flat = true) : ∀ {vs : List V} {ds : List D}, RpAll K N G vs ds → ds.all D.flat = true → inV x vs = amongD d ds ∧ vs.all flatV = true
  | _, _, .nil, _ => ⟨rfl, rfl⟩
  | _, _, .cons a t, h => by
    rw [List.all_cons, Bool.and_eq_true] at h
    obtain ⟨h1, h2⟩ := inV_py r f t h.2
    constructor
    · unfold inV amongD at *
      rw [List.any_cons, List.any_cons, h1, eqV_py a r h.1 f]
    · rw [List.all_cons, flat_py a h.1, h2]; rfl
theorem in_core {x y : V} {tx ty : T} {kb : KB} {R : Bool → Prop} {ZE : Prop} (sr : SameR G H) (bx : Bw K N G H x tx) (bY : Bw K N G H y ty) (q : oInB tx ty kb) (o : ∀ b, kb b → R b)
    (h1 : ∀ c z, x = .str ⟨#[c]⟩ → y = .str z → R (decide (c ∈ z.cps.toList)) → ZE)
    (h2 : ∀ p xs, y = .ref p → (SqL K H p xs ∨ SqT K H p xs) → flatV x = true → xs.all flatV = true → R (inV x xs) → ZE)
    (h3 : ∀ d ds, Dp K H x d → Dp K H y (.list ds) → SeqAt.shaped d = true → SeqAt.shaped (.list ds) = true → R (ds.any fun z => PyData.eqv z d) → ZE)
    (h5 : ∀ d ds, Dp K H x d → Dp K H y (.tuple ds) → SeqAt.shaped d = true → SeqAt.shaped (.tuple ds) = true → R (ds.any fun z => PyData.eqv z d) → ZE)
    (h4 : ∀ a o, y = .ref a → DGet H a x o → R o.isSome → ZE) : ZE := by
  unfold oInB at q
  cases tx with
  | val d =>
    simp only at q
    split at q
    · rename_i z
      cases bw_str bY
      cases d with
      | str s =>
        obtain ⟨c, e, q⟩ := oGet_elim q
        cases bw_str bx
        have es := one_eq e
        subst es
        exact h1 c z rfl rfl (o _ q)
      | _ => exact q.elim
    · split at q
      · rename_i ks ts e
        obtain ⟨k, e2, q⟩ := oGet_elim q
        obtain ⟨a, vs, rfl, ⟨hd, hl⟩, l2, hk, _⟩ := bw_kids bY e sr
        refine h4 a (valV (ks.zip vs) k) rfl (.inl ⟨_, k, hd, rp_k1 bx.val e2, rfl⟩) ?_
        have e3 : (valV (ks.zip vs) k).isSome = (ixK ks k).isSome := by
          rw [valV_ix hl]
          cases q2 : ixK ks k with
          | none => rfl
          | some j =>
            have := ixK_lt q2
            rw [Option.bind_some, List.getElem?_eq_getElem (by omega)]; rfl
        rw [e3]
        exact o _ q
      · rename_i ks ts e
        obtain ⟨k, e2, q⟩ := oGet_elim q
        obtain ⟨a, vs, rfl, ⟨hd, hl⟩, l2, hk, _⟩ := bw_kids bY e sr
        obtain ⟨b, e4, e5⟩ := rp_kt bx.val e2 sr
        refine h4 a (valV (ks.zip vs) k) rfl (.inr ⟨_, k, b, hd, e4, e5, rfl⟩) ?_
        have e3 : (valV (ks.zip vs) k).isSome = (ixK ks k).isSome := by
          rw [valV_ix hl]
          cases q2 : ixK ks k with
          | none => rfl
          | some j =>
            have := ixK_lt q2
            rw [Option.bind_some, List.getElem?_eq_getElem (by omega)]; rfl
        rw [e3]
        exact o _ q
      · have fin : ∀ {s : Sh} {ds : List D}, ty.ds = some (s, ds) → (s = .lst ∨ s = .tup ∨ s = .slst) → inOk s d ds → kb (amongD d ds) → ZE := fun {s ds} e hs io q => by
          obtain ⟨a, vs, rfl, hat, ra⟩ := bw_ds bY e sr
          have hsq : SqL K H a vs ∨ SqT K H a vs := by
            rcases hs with rfl | rfl | rfl
            · exact .inl (at_sqL (N := N) hat)
            · exact .inr (at_sqT (N := N) hat)
            · exact .inl hat
          have eD : (pys ds).any (fun z => PyData.eqv z d.py) = amongD d ds := by
            rw [pys_map, List.any_map]; rfl
          rcases io with ⟨f1, f2⟩ | ⟨rfl | rfl, g1, g2⟩
          · obtain ⟨e1, e2⟩ := inV_py bx.val f1 ra f2
            exact h2 a vs rfl hsq (flat_py bx.val f1) e2 (by rw [e1]; exact o _ q)
          · have gl : D.good 64 (.nd .lst ds) := g2
            refine h3 d.py (pys ds) (rp_dp sr 64 bx.val g1) (.lst (at_sqL (N := N) hat) (rpAll_dp sr 63 ra g2)) (good_shaped g1) ?_ ?_
            · have := good_shaped gl
              rw [D.py] at this
              exact this
            · rw [eD]
              exact o _ q
          · have gl : D.good 64 (.nd .tup ds) := g2
            refine h5 d.py (pys ds) (rp_dp sr 64 bx.val g1) (.tup (at_sqT (N := N) hat) (rpAll_dp sr 63 ra g2)) (good_shaped g1) ?_ ?_
            · have := good_shaped gl
              rw [D.py] at this
              exact this
            · rw [eD]
              exact o _ q
        split at q
        · rename_i e; exact fin e (.inl rfl) q.1 q.2
        · rename_i e; exact fin e (.inr (.inl rfl)) q.1 q.2
        · rename_i e; exact fin e (.inr (.inr rfl)) q.1 q.2
        · exact q.elim
  | nd s ts =>
    simp only at q
    split at q
    · rename_i sh ds e
      obtain ⟨hs, fz, g1, g2, q⟩ := q
      obtain ⟨a, vs, rfl, hat, ra⟩ := bw_ds bY e sr
      have eD : (pys ds).any (fun z => PyData.eqv z (T.nd s ts).frz.py) = amongD (T.nd s ts).frz ds := by
        rw [pys_map, List.any_map]; rfl
      rcases hs with rfl | rfl
      · have gl : D.good 64 (.nd .lst ds) := g2
        refine h3 _ (pys ds) (bw_dp bx sr fz g1) (.lst (at_sqL (N := N) hat) (rpAll_dp sr 63 ra g2)) (good_shaped g1) ?_ ?_
        · have := good_shaped gl
          rw [D.py] at this
          exact this
        · rw [eD]
          exact o _ q
      · have gl : D.good 64 (.nd .tup ds) := g2
        refine h5 _ (pys ds) (bw_dp bx sr fz g1) (.tup (at_sqT (N := N) hat) (rpAll_dp sr 63 ra g2)) (good_shaped g1) ?_ ?_
        · have := good_shaped gl
          rw [D.py] at this
          exact this
        · rw [eD]
          exact o _ q
    · exact q.elim
  | _ => exact q.elim
theorem s_in : OpS K N oIn (zIn K) := by
  intro G H x y tx ty K' Q sr bx bY q o
  exact in_core (R := fun b => Q (.bl b) H) sr bx bY q (fun b k => o.sc sr (.bl b) k)
    (fun c z e1 e2 r => .inl (.inl ⟨c, z, e1, e2, r⟩)) (fun p xs e1 h f1 f2 r => .inl (.inr ⟨p, xs, e1, h, f1, f2, r⟩))
    (fun d ds h1 h2 h3 h4 r => .inr (.inl (.inl ⟨d, ds, h1, h2, h3, h4, r⟩))) (fun d ds h1 h2 h3 h4 r => .inr (.inl (.inr ⟨d, ds, h1, h2, h3, h4, r⟩))) (fun a w e1 h r => .inr (.inr ⟨a, w, e1, h, r⟩))
theorem s_notin : OpS K N oNotIn (zNotIn K) := by
  intro G H x y tx ty K' Q sr bx bY q o
  exact in_core (R := fun b => Q (.bl (!b)) H) sr bx bY q (fun b k => o.sc sr (.bl (!b)) k)
    (fun c z e1 e2 r => .inl (.inl ⟨c, z, e1, e2, r⟩)) (fun p xs e1 h f1 f2 r => .inl (.inr ⟨p, xs, e1, h, f1, f2, r⟩))
    (fun d ds h1 h2 h3 h4 r => .inr (.inl (.inl ⟨d, ds, h1, h2, h3, h4, r⟩))) (fun d ds h1 h2 h3 h4 r => .inr (.inl (.inr ⟨d, ds, h1, h2, h3, h4, r⟩))) (fun a w e1 h r => .inr (.inr ⟨a, w, e1, h, r⟩))
end

/-! subscripts -/
def oIx : F2 := fun x y K' => match x with
  | .val (.str z) => (match y with | .val (.int i) => z.length ≤ sizeLine ∧ oGet (atI z.cps.toList i) fun c => K' (.val (.str ⟨#[c]⟩)) | _ => False)
  | x => match x.kids with
    | some (.dk ks, ts) => (match y with | .val d => oGet d.k1 fun k => oGet (getK ks ts k) K' | _ => False)
    | some (.dt ks, ts) => (match y with | .val d => oGet d.kt fun k => oGet (getK ks ts k) K' | _ => False)
    | some (.lst, ts) => (match y with | .val (.int i) => oGet (atI ts i) K' | _ => False)
    | some (.tup, ts) => (match y with | .val (.int i) => oGet (atI ts i) K' | _ => False)
    | some (.slst, ts) => (match y with | .val (.int i) => oGet (atI ts i) K' | _ => False)
    | _ => False
section
variable {K : PySem.W.Frag} {N : Nm} {G H : Hp}
theorem atI_ix {α : Type} {xs : List α} {i : Int} {c : α} (h : atI xs i = some c) : ∃ j, ixN xs.length i = some j ∧ xs[j]? = some c := by
  unfold atI at h
  cases q : ixN xs.length i with
  | none => rw [q] at h; cases h
  | some j => rw [q] at h; exact ⟨j, rfl, h⟩
theorem atI_mk {α : Type} {xs : List α} {i : Int} {j : Nat} {c : α} (h : ixN xs.length i = some j) (e : xs[j]? = some c) : atI xs i = some c := by
  unfold atI
  rw [h]; exact e
theorem s_ix : OpV K N oIx (zIx K) := by
  intro G H x y tx ty K' Q sr bx bY q o
  have seq : ∀ {s : Sh} {ts : List T} {i : Int}, tx.kids = some (s, ts) → (s = .lst ∨ s = .tup ∨ s = .slst) → y = .int i → oGet (atI ts i) K' → zIx K x y H Q := fun {s ts i} e hs ey q => by
    obtain ⟨c, e1, q⟩ := oGet_elim q
    obtain ⟨j, e2, e3⟩ := atI_ix e1
    obtain ⟨a, vs, rfl, hat, l2, hk, _⟩ := bw_kids bx e sr
    obtain ⟨w, e4, b⟩ := hk j c e3
    subst ey
    have e5 : atI vs i = some w := atI_mk (by rw [l2]; exact e2) e4
    have r := o c w G H q (Ext.refl sr) b
    rcases hs with rfl | rfl | rfl
    · exact .inl (.inl ⟨a, vs, i, w, rfl, rfl, at_sqL (N := N) hat, e5, r⟩)
    · exact .inl (.inr (.inl ⟨a, vs, i, w, rfl, rfl, at_sqT (N := N) hat, e5, r⟩))
    · exact .inl (.inl ⟨a, vs, i, w, rfl, rfl, hat, e5, r⟩)
  have gk : ∀ {κ : Type} [DecidableEq κ] {ks : List κ} {ts : List T} {vs : List V} {k : κ} {c : T}, getK ks ts k = some c → ks.length = vs.length → (∀ (j : Nat) (c : T), ts[j]? = some c → ∃ w, vs[j]? = some w ∧ Bw K N G H w c) → ∃ w, valV (ks.zip vs) k = some w ∧ Bw K N G H w c := fun {κ _ ks ts vs k c} e l hk => by
    unfold getK at e
    cases q : ixK ks k with
    | none => rw [q] at e; cases e
    | some j =>
      rw [q] at e
      obtain ⟨w, e1, b⟩ := hk j c e
      exact ⟨w, by rw [valV_ix l, q]; exact e1, b⟩
  unfold oIx at q
  split at q
  · rename_i z
    split at q
    · cases bw_str bx; cases bw_int bY
      obtain ⟨c, e, q2⟩ := oGet_elim q.2
      exact .inl (.inr (.inr ⟨z, _, c, rfl, rfl, q.1, e, o.sc sr (.str _) q2⟩))
    · exact q.elim
  · split at q
    · rename_i ks ts e
      split at q
      · obtain ⟨k, e1, q⟩ := oGet_elim q
        obtain ⟨c, e2, q⟩ := oGet_elim q
        obtain ⟨a, vs, rfl, ⟨hd, hl⟩, l2, hk, _⟩ := bw_kids bx e sr
        obtain ⟨w, e3, b⟩ := gk e2 hl hk
        exact .inr ⟨a, w, rfl, .inl ⟨_, k, hd, rp_k1 bY.val e1, e3.symm⟩, o c w G H q (Ext.refl sr) b⟩
      · exact q.elim
    · rename_i ks ts e
      split at q
      · obtain ⟨k, e1, q⟩ := oGet_elim q
        obtain ⟨c, e2, q⟩ := oGet_elim q
        obtain ⟨a, vs, rfl, ⟨hd, hl⟩, l2, hk, _⟩ := bw_kids bx e sr
        obtain ⟨w, e3, b⟩ := gk e2 hl hk
        obtain ⟨b', e4, e5⟩ := rp_kt bY.val e1 sr
        exact .inr ⟨a, w, rfl, .inr ⟨_, k, b', hd, e4, e5, e3.symm⟩, o c w G H q (Ext.refl sr) b⟩
      · exact q.elim
    · rename_i ts e
      split at q
      · exact seq e (.inl rfl) (bw_int bY) q
      · exact q.elim
    · rename_i ts e
      split at q
      · exact seq e (.inr (.inl rfl)) (bw_int bY) q
      · exact q.elim
    · rename_i ts e
      split at q
      · exact seq e (.inr (.inr rfl)) (bw_int bY) q
      · exact q.elim
    · exact q.elim
end

/-! built-ins of one thing -/
abbrev cb1 (r : List V → Hp → VK → Prop) : V → Hp → VK → Prop := fun x H Q => r [x] H Q
abbrev cb2 (r : List V → Hp → VK → Prop) : R2 := fun x y H Q => r [x, y] H Q
def oLen : F1 := fun x K' => match x with
  | .val (.str z) => z.length ≤ sizeLine ∧ K' (.val (.int (z.length : Nat)))
  | .nd (.dk _) ts => K' (.val (.int (ts.length : Nat)))
  | x => match x.kids with
    | some (.lst, ts) => K' (.val (.int (ts.length : Nat)))
    | some (.tup, ts) => K' (.val (.int (ts.length : Nat)))
    | some (.slst, ts) => K' (.val (.int (ts.length : Nat)))
    | _ => False
def oInt : F1 := fun x K' => match x with
  | .val (.int i) => K' (.val (.int i))
  | .val (.bl b) => K' (.val (.int (if b then 1 else 0)))
  | .val (.str a) => oGet (PySem.intText? a) fun n => a.length ≤ 640 ∧ K' (.val (.int n))
  | _ => False
def oStr : F1 := fun x K' => match x with
  | .val (.int i) => i.natAbs.log2 < 1920 ∧ K' (.val (.str (toString i)))
  | _ => False
def oList : F1 := fun x K' => match x.ds with
  | some (.lst, ds) => K' (.nd .lst (ds.map .val))
  | some (.tup, ds) => K' (.nd .lst (ds.map .val))
  | some (.slst, ds) => K' (.nd .lst (ds.map .val))
  | _ => False
def oTuple : F1 := fun x K' => match x.ds with
  | some (.lst, ds) => K' (.val (.tup ds))
  | some (.tup, ds) => K' (.val (.tup ds))
  | some (.slst, ds) => K' (.val (.tup ds))
  | _ => False
def bools? : List D → Option (List Bool)
  | [] => some []
  | .bl i :: ds => (bools? ds).map (i :: ·)
  | _ :: _ => none
theorem bools?_map : ∀ ns : List Bool, bools? (ns.map .bl) = some ns
  | [] => rfl
  | n :: ns => by rw [List.map_cons, bools?, bools?_map ns]; rfl
theorem bools?_eq : ∀ {ds : List D} {ns : List Bool}, bools? ds = some ns → ds = ns.map .bl
  | [], _, h => by cases h; rfl
  | .bl i :: ds, _, h => by
    rw [bools?] at h
    cases q : bools? ds with
    | none => rw [q] at h; cases h
    | some xs => rw [q] at h; cases h; rw [List.map_cons, bools?_eq q]
  | .non :: _, _, h => by cases h
  | .int _ :: _, _, h => by cases h
  | .str _ :: _, _, h => by cases h
  | .obj _ :: _, _, h => by cases h
  | .nd _ _ :: _, _, h => by cases h
def oAll : F1 := fun x K' => match x.ds with
  | some (.lst, ds) => oGet (bools? ds) fun bs => K' (.val (.bl (bs.all id)))
  | _ => False
def oAny : F1 := fun x K' => match x.ds with
  | some (.lst, ds) => oGet (bools? ds) fun bs => K' (.val (.bl (bs.any id)))
  | _ => False
def oSum : F1 := fun x K' => match x.ds with
  | some (.lst, ds) => oGet (ints? ds) fun ns => K' (.val (.int ns.sum))
  | _ => False
def oAbs : F1 := fun x K' => match x with
  | .val (.int i) => K' (.val (.int (if i < 0 then -i else i)))
  | _ => False
def oMin2 : F2 := fun x y K' => match x, y with
  | .val (.int i), .val (.int j) => K' (.val (.int (if j < i then j else i)))
  | _, _ => False
def oMax2 : F2 := fun x y K' => match x, y with
  | .val (.int i), .val (.int j) => K' (.val (.int (if j > i then j else i)))
  | _, _ => False
section
variable {K : PySem.W.Frag} {N : Nm}
theorem s_len : UnS K N oLen (cb1 (zLen K)) := by
  intro G H x tx K' Q sr bx q o
  have seq : ∀ {s : Sh} {ts : List T}, tx.kids = some (s, ts) → (s = .lst ∨ s = .tup ∨ s = .slst) → K' (.val (.int (ts.length : Nat))) → cb1 (zLen K) x H Q := fun {s ts} e hs q => by
    obtain ⟨a, vs, rfl, hat, l2, _, _⟩ := bw_kids bx e sr
    refine .inl ⟨.ref a, vs.length, rfl, ?_, by rw [l2]; exact o.sc sr (.int _) q⟩
    rcases hs with rfl | rfl | rfl
    · exact .inl ⟨vs, at_sqL (N := N) hat, rfl⟩
    · exact .inr ⟨vs, at_sqT (N := N) hat, rfl⟩
    · exact .inl ⟨vs, hat, rfl⟩
  unfold oLen at q
  split at q
  · rename_i z
    cases bw_str bx
    exact .inl ⟨.str z, z.length, rfl, ⟨q.1, rfl⟩, o.sc sr (.int _) q.2⟩
  · rename_i ks ts
    obtain ⟨h, r, sh⟩ := bx
    cases r with
    | @nd a _ vs _ ob hc i n r na =>
      obtain ⟨rfl, l⟩ := i
      refine .inr ⟨a, ks.zip vs, rfl, sh _ _ upd_same, ?_⟩
      rw [List.length_zip, l.1, Nat.min_self, r.len]
      exact o.sc sr (.int _) q
  · split at q
    · rename_i e; exact seq e (.inl rfl) q
    · rename_i e; exact seq e (.inr (.inl rfl)) q
    · rename_i e; exact seq e (.inr (.inr rfl)) q
    · exact q.elim
theorem s_int : UnS K N oInt (cb1 zInt) := by
  intro G H x tx K' Q sr bx q o
  unfold oInt at q
  split at q
  · cases bw_int bx; exact o.sc sr (.int _) q
  · cases bw_bl bx; exact o.sc sr (.int _) q
  · cases bw_str bx
    obtain ⟨n, e, l, q⟩ := oGet_elim q
    exact ⟨n, e, l, o.sc sr (.int _) q⟩
  · exact q.elim
theorem s_str : UnS K N oStr (cb1 zStr) := by
  intro G H x tx K' Q sr bx q o
  unfold oStr at q
  split at q
  · cases bw_int bx; exact ⟨q.1, o.sc sr (.str _) q.2⟩
  · exact q.elim
theorem s_list : UnS K N oList (cb1 (zList K)) := by
  intro G H x tx K' Q sr bx q o
  unfold oList at q
  split at q
  · rename_i e
    obtain ⟨a, vs, rfl, hat, ra⟩ := bw_ds bx e sr
    exact ⟨a, vs, rfl, .inl (at_sqL (N := N) hat), fun l n => o.lst sr ra q n⟩
  · rename_i e
    obtain ⟨a, vs, rfl, hat, ra⟩ := bw_ds bx e sr
    exact ⟨a, vs, rfl, .inr (at_sqT (N := N) hat), fun l n => o.lst sr ra q n⟩
  · rename_i e
    obtain ⟨a, vs, rfl, hat, ra⟩ := bw_ds bx e sr
    exact ⟨a, vs, rfl, .inl hat, fun l n => o.lst sr ra q n⟩
  · exact q.elim
theorem s_tuple : UnS K N oTuple (cb1 (zTuple K)) := by
  intro G H x tx K' Q sr bx q o
  unfold oTuple at q
  split at q
  · rename_i e
    obtain ⟨a, vs, rfl, hat, ra⟩ := bw_ds bx e sr
    exact ⟨a, vs, rfl, .inl ⟨at_sqL (N := N) hat, fun l n => o.tup sr ra q n⟩⟩
  · rename_i e
    have r := bw_tup bx e
    obtain ⟨a, vs, rfl, hat, ra⟩ := rp_tupD r sr
    exact ⟨a, vs, rfl, .inr ⟨hat, o.sc sr r q⟩⟩
  · rename_i e
    obtain ⟨a, vs, rfl, hat, ra⟩ := bw_ds bx e sr
    exact ⟨a, vs, rfl, .inl ⟨hat, fun l n => o.tup sr ra q n⟩⟩
  · exact q.elim
theorem s_all : UnS K N oAll (cb1 (rAll K)) := by
  intro G H x tx K' Q sr bx q o
  unfold oAll at q
  split at q
  · rename_i e
    obtain ⟨bs, e1, q⟩ := oGet_elim q
    obtain ⟨a, vs, rfl, hat, ra⟩ := bw_ds bx e sr
    rw [bools?_eq e1] at ra
    rw [rpAll_bools ra] at hat
    exact ⟨a, bs, rfl, at_sqL (N := N) hat, o.sc sr (.bl _) q⟩
  · exact q.elim
theorem s_any : UnS K N oAny (cb1 (rAny K)) := by
  intro G H x tx K' Q sr bx q o
  unfold oAny at q
  split at q
  · rename_i e
    obtain ⟨bs, e1, q⟩ := oGet_elim q
    obtain ⟨a, vs, rfl, hat, ra⟩ := bw_ds bx e sr
    rw [bools?_eq e1] at ra
    rw [rpAll_bools ra] at hat
    exact ⟨a, bs, rfl, at_sqL (N := N) hat, o.sc sr (.bl _) q⟩
  · exact q.elim
theorem s_sum : UnS K N oSum (cb1 (rSum K)) := by
  intro G H x tx K' Q sr bx q o
  unfold oSum at q
  split at q
  · rename_i e
    obtain ⟨bs, e1, q⟩ := oGet_elim q
    obtain ⟨a, vs, rfl, hat, ra⟩ := bw_ds bx e sr
    rw [ints?_eq e1] at ra
    rw [rpAll_ints ra] at hat
    exact ⟨a, bs, rfl, at_sqL (N := N) hat, o.sc sr (.int _) q⟩
  · exact q.elim
theorem s_abs : UnS K N oAbs (cb1 zAbs) := by
  intro G H x tx K' Q sr bx q o
  unfold oAbs at q
  split at q
  · cases bw_int bx; exact ⟨_, rfl, o.sc sr (.int _) q⟩
  · exact q.elim
theorem s_min2 : OpS K N oMin2 (cb2 zMin2) := by
  intro G H x y tx ty K' Q sr bx bY q o
  unfold oMin2 at q
  split at q
  · cases bw_int bx; cases bw_int bY; exact ⟨_, _, rfl, o.sc sr (.int _) q⟩
  · exact q.elim
theorem s_max2 : OpS K N oMax2 (cb2 zMax2) := by
  intro G H x y tx ty K' Q sr bx bY q o
  unfold oMax2 at q
  split at q
  · cases bw_int bx; cases bw_int bY; exact ⟨_, _, rfl, o.sc sr (.int _) q⟩
  · exact q.elim
end

/-! isinstance -/
inductive Ity where | bool | int | str | tuple | list | dict
  deriving DecidableEq
def Ity.s : Ity → String
  | .bool => "bool" | .int => "int" | .str => "str" | .tuple => "tuple" | .list => "list" | .dict => "dict"
def oIsi (n : Ity) : F1 := fun x K' => match x with
  | .val .non => K' (.val (.bl false))
  | .val (.bl _) => K' (.val (.bl (decide (n = .bool ∨ n = .int))))
  | .val (.int _) => K' (.val (.bl (decide (n = .int))))
  | .val (.str _) => K' (.val (.bl (decide (n = .str))))
  | x => match x.kids with
    | some (.tup, _) => K' (.val (.bl (decide (n = .tuple))))
    | some (.lst, _) => K' (.val (.bl (decide (n = .list))))
    | some (.dk _, _) => K' (.val (.bl (decide (n = .dict))))
    | _ => False
section
variable {K : PySem.W.Frag} {N : Nm}
abbrev isi1 (K : PySem.W.Frag) (n : Ity) : V → Hp → VK → Prop := fun x H Q => zIsi K [x, .ty n.s] H Q
theorem s_isi (n : Ity) : UnS K N (oIsi n) (isi1 K n) := by
  intro G H x tx K' Q sr bx q o
  unfold oIsi at q
  split at q
  · cases bw_non bx
    cases n <;> exact ⟨false, by decide +kernel, o.sc sr (.bl _) q⟩
  · cases bw_bl bx
    cases n <;> first | exact ⟨true, by decide +kernel, o.sc sr (.bl _) q⟩ | exact ⟨false, by decide +kernel, o.sc sr (.bl _) q⟩
  · cases bw_int bx
    cases n <;> first | exact ⟨true, by decide +kernel, o.sc sr (.bl _) q⟩ | exact ⟨false, by decide +kernel, o.sc sr (.bl _) q⟩
  · cases bw_str bx
    cases n <;> first | exact ⟨true, by decide +kernel, o.sc sr (.bl _) q⟩ | exact ⟨false, by decide +kernel, o.sc sr (.bl _) q⟩
  · split at q
    · rename_i e
      obtain ⟨a, vs, rfl, hat, _⟩ := bw_kids bx e sr
      have ty : TyX K H (.ref a) (.type "tuple") := by
        rcases hat with h | ⟨⟨o, its, m, h1, h2, _⟩, _⟩
        · exact .base (.tup h)
        · exact .kTuple h1 h2
      cases n <;> first | exact ⟨"tuple", true, ty, by decide +kernel, o.sc sr (.bl _) q⟩ | exact ⟨"tuple", false, ty, by decide +kernel, o.sc sr (.bl _) q⟩
    · rename_i e
      obtain ⟨a, vs, rfl, hat, _⟩ := bw_kids bx e sr
      have ty : TyX K H (.ref a) (.type "list") := .base (.lst hat)
      cases n <;> first | exact ⟨"list", true, ty, by decide +kernel, o.sc sr (.bl _) q⟩ | exact ⟨"list", false, ty, by decide +kernel, o.sc sr (.bl _) q⟩
    · rename_i e
      obtain ⟨a, vs, rfl, hat, _⟩ := bw_kids bx e sr
      have ty : TyX K H (.ref a) (.type "dict") := by
        rcases hat.1 with h | ⟨b, h⟩
        · exact .base (.dK h)
        · exact .fDict h
      cases n <;> first | exact ⟨"dict", true, ty, by decide +kernel, o.sc sr (.bl _) q⟩ | exact ⟨"dict", false, ty, by decide +kernel, o.sc sr (.bl _) q⟩
    · exact q.elim
end

/-! truth -/
def oTru (x : T) (kb : KB) : Prop := match x with
  | .val .non => kb false
  | .val (.bl b) => kb b
  | .val (.int i) => kb (i != 0)
  | .val (.str y) => y.length ≤ sizeLine ∧ kb ((y.length : Int) != 0)
  | .nd (.dk _) ts => kb (!ts.isEmpty)
  | x => match x.kids with
    | some (.lst, ts) => kb (!ts.isEmpty)
    | some (.tup, ts) => kb (!ts.isEmpty)
    | some (.slst, ts) => kb (!ts.isEmpty)
    | _ => False
theorem isEmpty_len {α β : Type} {xs : List α} {ys : List β} (h : xs.length = ys.length) : xs.isEmpty = ys.isEmpty := by
  cases xs <;> cases ys <;> simp_all
theorem tru_core {K : PySem.W.Frag} {N : Nm} {G H : Hp} {v : V} {t : T} {kb : KB} (sr : SameR G H) (b : Bw K N G H v t) (q : oTru t kb) : ∃ k, TruV K v H k ∧ kb k := by
  have seq : ∀ {s : Sh} {ts : List T}, t.kids = some (s, ts) → (s = .lst ∨ s = .tup ∨ s = .slst) → kb (!ts.isEmpty) → ∃ k, TruV K v H k ∧ kb k := fun {s ts} e hs q => by
    obtain ⟨a, vs, rfl, hat, l2, _, _⟩ := bw_kids b e sr
    refine ⟨_, ?_, q⟩
    have e2 : (!ts.isEmpty) = !vs.isEmpty := by rw [isEmpty_len l2]
    rcases hs with rfl | rfl | rfl
    · exact .inl ⟨vs, at_sqL (N := N) hat, e2⟩
    · exact .inr (.inl ⟨vs, at_sqT (N := N) hat, e2⟩)
    · exact .inl ⟨vs, hat, e2⟩
  unfold oTru at q
  split at q
  · cases bw_non b; exact ⟨_, rfl, q⟩
  · cases bw_bl b; exact ⟨_, rfl, q⟩
  · cases bw_int b; exact ⟨_, rfl, q⟩
  · cases bw_str b; exact ⟨_, ⟨q.1, rfl⟩, q.2⟩
  · rename_i ks ts
    obtain ⟨h, r, sh⟩ := b
    cases r with
    | @nd a _ vs _ ob hc i n r na =>
      obtain ⟨rfl, l⟩ := i
      refine ⟨_, .inr (.inr ⟨ks.zip vs, sh _ _ upd_same, rfl⟩), ?_⟩
      rw [isEmpty_len (ys := ts) (by rw [List.length_zip, l.1, Nat.min_self, r.len])]
      exact q
  · split at q
    · rename_i e; exact seq e (.inl rfl) q
    · rename_i e; exact seq e (.inr (.inl rfl)) q
    · rename_i e; exact seq e (.inr (.inr rfl)) q
    · exact q.elim
end Y
/-! Yg: tests, fields, displays, f-strings. -/
namespace Y
open PySem PySem.Spec PyProof.Rows L2 Z

theorem ofString_inj {a b : String} : Str.ofString a = Str.ofString b ↔ a = b := by
  constructor
  · intro h
    rw [Str.ofString_eq_toList, Str.ofString_eq_toList] at h
    have h1 : (a.toList.map Char.toNat).toArray = (b.toList.map Char.toNat).toArray := congrArg Str.cps h
    have h2 : a.toList.map Char.toNat = b.toList.map Char.toNat := by
      have := congrArg Array.toList h1
      simpa using this
    have inj : ∀ {l m : List Char}, l.map Char.toNat = m.map Char.toNat → l = m := by
      intro l
      induction l with
      | nil => intro m e; cases m with
        | nil => rfl
        | cons _ _ => simp at e
      | cons c l ih => intro m e; cases m with
        | nil => simp at e
        | cons d m =>
          rw [List.map_cons, List.map_cons] at e
          injection e with e1 e2
          rw [ih e2]
          congr 1
          exact Char.ext (UInt32.toNat_inj.mp e1)
    have h3 := inj h2
    exact String.toList_inj.mp h3
  · intro h; rw [h]

/-! boxes -/
def boxOf : Sg → Addr → Option T
  | [], _ => none
  | (b, t) :: S, a => if b = a then some t else boxOf S a
def boxI : Sg → Addr → Option Nat
  | [], _ => none
  | (b, t) :: S, a => if b = a then some 0 else (boxI S a).map (· + 1)
theorem boxOf_ix : ∀ {S : Sg} {a : Addr} {t : T}, boxOf S a = some t → ∃ j, boxI S a = some j ∧ S[j]? = some (a, t)
  | [], _, _, h => by cases h
  | (b, u) :: S, a, t, h => by
    unfold boxOf at h
    unfold boxI
    by_cases c : b = a
    · rw [if_pos c] at h ⊢
      cases h
      exact ⟨0, rfl, by rw [← c]; rfl⟩
    · rw [if_neg c] at h ⊢
      obtain ⟨j, e1, e2⟩ := boxOf_ix h
      exact ⟨j + 1, by rw [e1]; rfl, by simpa using e2⟩
section
variable {K : PySem.W.Frag} {N : Nm} {G F H : Hp} {ε : Env} {S : Sg} {σ : L2.St}
theorem RepR.bw {rs : List (Option V)} {ts : List T} {h : Hp} {j : Nat} {c : T} {v : V} (r : RepR K N G rs ts h) (sh : Same h H) (e : ts[j]? = some c) (e2 : rs[j]? = some (some v)) (nu : c ≠ .unk) : Bw K N G H v c := by
  obtain ⟨ow, h1, rest, e1, r1, d1, rfl, _⟩ := r.at e
  obtain ⟨w, rfl, r1b⟩ := r1 nu
  rw [e2] at e1
  cases e1
  exact ⟨h1, r1b, same_un_r d1.symm sh⟩
theorem Rel.box {a : Addr} {t : T} {vs : List V} {us : List T} (r : RelT K N G F vs us ε S σ H) (e : boxOf S a = some t) (nu : t ≠ .unk) : Bw K N G H (.ref a) t := by
  obtain ⟨j, _, e2⟩ := boxOf_ix e
  obtain ⟨⟨gh, fh, h, rr, sh, df, dg⟩, l1, l2⟩ := r
  obtain ⟨hx, hr, rx, rq, dx, rfl⟩ := rr.split l2
  refine rq.bw (j := ε.length + j) (same_un_r dx sh) ?_ ?_ nu
  · rw [List.getElem?_append_right (by omega)]
    have : ε.length + j - ε.length = j := by omega
    rw [this, List.getElem?_map, e2]; rfl
  · rw [List.getElem?_append_right (by omega)]
    have : ε.length + j - σ.length = j := by omega
    rw [this]
    unfold boxes
    rw [List.getElem?_map, e2]; rfl
end

/-! fields -/
def fldOf (Cs : List Cl) (f : String) (t : T) (K' : KC) : Prop := match t.kids with
  | some (.ins C fs, ts) => C ∈ Cs ∧ oGet (getK fs ts f) K'
  | _ => False
def fldT (Cs : List Cl) (f : String) (S : Sg) (t : T) (K' : KC) : Prop := match t with
  | .val (.obj a) => oGet (boxOf S a) fun t' => fldOf Cs f t' K'
  | t => fldOf Cs f t K'
def aFld (Cs : List Cl) (f : String) (a : RC) : RC := fun ε S K' => a ε S fun t => fldT Cs f S t K'
theorem lookup_valV {f : Str} : ∀ {kvs : List (Str × V)}, kvs.lookup f = valV kvs f
  | [] => rfl
  | (g, v) :: r => by
    rw [List.lookup_cons]
    by_cases c : g = f
    · rw [valV_pos (p := (g, v)) c]
      simp [c]
    · rw [valV_neg (p := (g, v)) c, ← lookup_valV]
      have : (f == g) = false := by simp [Ne.symm c]
      rw [this]
theorem ixK_ofString {f : String} : ∀ {fs : List String}, ixK (fs.map Str.ofString) (Str.ofString f) = ixK fs f
  | [] => rfl
  | g :: fs => by
    rw [List.map_cons]
    unfold ixK
    by_cases c : g = f
    · rw [if_pos c, if_pos (by rw [c])]
    · rw [if_neg c, if_neg (fun z => c (ofString_inj.mp z)), ixK_ofString]
section
variable {K : PySem.W.Frag} {N : Nm} {W : WX} {fx : Nat → Bool} {σ : L2.St} {H : Hp} {Q : VK} {a b c : RC} {x y z : RE}
theorem fldOf_ok {G : Hp} {Cs : List Cl} {f : String} {t : T} {v : V} {K' : KC} (sr : SameR G H) (bx : Bw K N G H v t) (q : fldOf Cs f t K') (o : ∀ w t', K' t' → Bw K N G H w t' → Q w H) : zFldV (Cs.map N.at) (Str.ofString f) v H Q := by
  unfold fldOf at q
  split at q
  · rename_i C fs ts e
    obtain ⟨hC, q⟩ := q
    obtain ⟨t', e1, q⟩ := oGet_elim q
    obtain ⟨a, vs, rfl, ⟨dx, hat, hl⟩, l2, hk, _⟩ := bw_kids bx e sr
    unfold getK at e1
    cases q2 : ixK fs f with
    | none => rw [q2] at e1; cases e1
    | some j =>
      rw [q2] at e1
      obtain ⟨w, e2, b⟩ := hk j t' e1
      refine ⟨a, N.at C, dx, _, w, rfl, List.mem_map_of_mem hC, hat, ?_, o w t' q b⟩
      rw [lookup_valV, valV_ix (by rw [List.length_map]; exact hl), ixK_ofString, q2]
      exact e2
  · exact q.elim
theorem kids_unk {t : T} {C : Cl} {fs : List String} {ts : List T} (h : t.kids = some (.ins C fs, ts)) : t ≠ .unk := fun e => by subst e; cases h
theorem fldT_ok {G F : Hp} {ε : Env} {S : Sg} {vs : List V} {us : List T} {Cs : List Cl} {f : String} {t : T} {v : V} {K' : KC} (r : RelT K N G F vs us ε S σ H) (bx : Bw K N G H v t) (q : fldT Cs f S t K') (o : ∀ w t', K' t' → Bw K N G H w t' → Q w H) : zFldV (Cs.map N.at) (Str.ofString f) v H Q := by
  unfold fldT at q
  split at q
  · rename_i a
    obtain ⟨t', e, q⟩ := oGet_elim q
    cases bw_obj bx
    have nu : t' ≠ .unk := by
      have q2 := q
      unfold fldOf at q2
      split at q2
      · rename_i e; exact kids_unk e
      · exact q2.elim
    exact fldOf_ok r.gh (Rel.box r e nu) q o
  · exact fldOf_ok r.gh bx q o
theorem conc_fld {Cs : List Cl} {f : String} (h : concC K N (aFld Cs f a) σ H Q) : zFld (Cs.map N.at) (Str.ofString f) (concC K N a) σ H Q := by
  obtain ⟨G, F, ε, S, K', r, q, k⟩ := h
  refine ⟨G, F, ε, S, _, r, q, fun t v G1 H1 q1 e1 b1 => ?_⟩
  exact fldT_ok (r.ext e1) b1 q1 fun w t' k' b => k _ _ _ _ k' e1 b
/-- .. of what a call has handed back -/
def eFld (Cs : List Cl) (f : String) (a : RE) : RE := fun A ε S K' => a A ε S fun t ε1 S1 => fldT Cs f S1 t (isV fun r => K' r ε1 S1)
theorem conc_efld {Cs : List Cl} {f : String} (h : concE K N W fx (eFld Cs f x) σ H Q) : zFld (Cs.map N.at) (Str.ofString f) (concE K N W fx x) σ H Q := by
  obtain ⟨G, F, P, ε, S, A, K', r, fi, fn, q, k, z⟩ := h
  refine ⟨G, F, P, ε, S, A, _, r, fi, fn, q, fun t v ε1 S1 G1 H1 q1 g1 r1 => ?_, z⟩
  refine fldT_ok r1 r1.bw q1 fun w t' k' b => ?_
  obtain ⟨d, rfl, k'⟩ := k'
  exact k _ _ _ _ _ _ k' g1 (r1.drop1.have b.val)

/-! ### tests -/
def bTest (a : RC) : RB := fun ε S kb => a ε S fun t => match t with | .val (.bl b) => kb b | _ => False
def bTru (a : RC) : RB := fun ε S kb => a ε S fun t => oTru t kb
def bNot (a : RB) : RB := fun ε S kb => a ε S fun k => kb (!k)
def bAnd (a b : RB) : RB := fun ε S kb => a ε S fun k => if k = true then b ε S kb else kb false
def bOr (a b : RB) : RB := fun ε S kb => a ε S fun k => if k = true then kb true else b ε S kb
def bE (a : RB) : RBE := fun _ ε S kb => a ε S fun k => kb k ε S
def eTest (a : RE) : RBE := fun A ε S kb => a A ε S fun t ε1 S1 => match t with | .val (.bl b) => kb b ε1 S1 | _ => False
def eTru (a : RE) : RBE := fun A ε S kb => a A ε S fun t ε1 S1 => oTru t fun b => kb b ε1 S1
def eNot (a : RBE) : RBE := fun A ε S kb => a A ε S fun k ε1 S1 => kb (!k) ε1 S1
def eAnd (a b : RBE) : RBE := fun A ε S kb => a A ε S fun k ε1 S1 => if k = true then b A ε1 S1 kb else kb false ε1 S1
def eOr (a b : RBE) : RBE := fun A ε S kb => a A ε S fun k ε1 S1 => if k = true then kb true ε1 S1 else b A ε1 S1 kb
variable {QB : Bool → Hp → Prop} {ra rb : RB} {xa xb : RBE}
theorem conc_test (h : concB K N (bTest a) σ H QB) : tTest (concC K N a) σ H QB := by
  obtain ⟨G, F, ε, S, K', r, q, k⟩ := h
  refine ⟨G, F, ε, S, _, r, q, fun t v G1 H1 q1 e1 b1 => ?_⟩
  split at q1
  · exact ⟨_, bw_bl b1, k _ _ _ q1 e1⟩
  · exact q1.elim
theorem conc_tru (h : concB K N (bTru a) σ H QB) : zTru K (concC K N a) σ H QB := by
  obtain ⟨G, F, ε, S, K', r, q, k⟩ := h
  refine ⟨G, F, ε, S, _, r, q, fun t v G1 H1 q1 e1 b1 => ?_⟩
  obtain ⟨b, h1, h2⟩ := tru_core e1.gh b1 q1
  exact ⟨b, h1, k _ _ _ h2 e1⟩
theorem conc_not (h : concB K N (bNot ra) σ H QB) : tNot (concB K N ra) σ H QB := by
  obtain ⟨G, F, ε, S, K', r, q, k⟩ := h
  exact ⟨G, F, ε, S, _, r, q, fun b G1 H1 q1 e1 => k _ _ _ q1 e1⟩
theorem conc_and (h : concB K N (bAnd ra rb) σ H QB) : tAnd (concB K N ra) (concB K N rb) σ H QB := by
  obtain ⟨G, F, ε, S, K', r, q, k⟩ := h
  refine ⟨G, F, ε, S, _, r, q, fun b G1 H1 q1 e1 => ?_⟩
  cases b with
  | true => exact ⟨G1, F, ε, S, _, r.ext e1, q1, fun b G2 H2 q2 e2 => k _ _ _ q2 (e1.trans e2)⟩
  | false => exact k _ _ _ q1 e1
theorem conc_or (h : concB K N (bOr ra rb) σ H QB) : tOr (concB K N ra) (concB K N rb) σ H QB := by
  obtain ⟨G, F, ε, S, K', r, q, k⟩ := h
  refine ⟨G, F, ε, S, _, r, q, fun b G1 H1 q1 e1 => ?_⟩
  cases b with
  | false => exact ⟨G1, F, ε, S, _, r.ext e1, q1, fun b G2 H2 q2 e2 => k _ _ _ q2 (e1.trans e2)⟩
  | true => exact k _ _ _ q1 e1
theorem conc_bE (h : concBE K N W fx (bE ra) σ H QB) : concB K N ra σ H QB := by
  obtain ⟨G, F, P, ε, S, A, K', r, fi, fn, q, k, z⟩ := h
  exact ⟨G, F, ε, S, _, r, q, fun b G1 H1 q1 e1 => k _ _ _ _ _ q1 (e1.gr r.fh) (r.ext e1)⟩
theorem conc_etest (h : concBE K N W fx (eTest x) σ H QB) : tTest (concE K N W fx x) σ H QB := by
  obtain ⟨G, F, P, ε, S, A, K', r, fi, fn, q, k, z⟩ := h
  refine ⟨G, F, P, ε, S, A, _, r, fi, fn, q, fun t v ε1 S1 G1 H1 q1 g1 r1 => ?_, z⟩
  have b1 := r1.bw
  split at q1
  · exact ⟨_, bw_bl b1, k _ _ _ _ _ q1 g1 r1.drop1⟩
  · exact q1.elim
theorem conc_etru (h : concBE K N W fx (eTru x) σ H QB) : zTru K (concE K N W fx x) σ H QB := by
  obtain ⟨G, F, P, ε, S, A, K', r, fi, fn, q, k, z⟩ := h
  refine ⟨G, F, P, ε, S, A, _, r, fi, fn, q, fun t v ε1 S1 G1 H1 q1 g1 r1 => ?_, z⟩
  obtain ⟨b, h1, h2⟩ := tru_core r1.gh r1.bw q1
  exact ⟨b, h1, k _ _ _ _ _ h2 g1 r1.drop1⟩
theorem conc_enot (h : concBE K N W fx (eNot xa) σ H QB) : tNot (concBE K N W fx xa) σ H QB := by
  obtain ⟨G, F, P, ε, S, A, K', r, fi, fn, q, k, z⟩ := h
  exact ⟨G, F, P, ε, S, A, _, r, fi, fn, q, fun b ε1 S1 G1 H1 q1 g1 r1 => k _ _ _ _ _ q1 g1 r1, z⟩
theorem conc_eand (h : concBE K N W fx (eAnd xa xb) σ H QB) : tAnd (concBE K N W fx xa) (concBE K N W fx xb) σ H QB := by
  obtain ⟨G, F, P, ε, S, A, K', r, fi, fn, q, k, z⟩ := h
  refine ⟨G, F, P, ε, S, A, _, r, fi, fn, q, fun b ε1 S1 G1 H1 q1 g1 r1 => ?_, z⟩
  cases b with
  | true => exact ⟨G1, F, P, ε1, S1, A, _, r1, fi, fn, q1, fun b ε2 S2 G2 H2 q2 g2 r2 => k _ _ _ _ _ q2 (g1.trans g2) r2, z.up g1⟩
  | false => exact k _ _ _ _ _ q1 g1 r1
theorem conc_eor (h : concBE K N W fx (eOr xa xb) σ H QB) : tOr (concBE K N W fx xa) (concBE K N W fx xb) σ H QB := by
  obtain ⟨G, F, P, ε, S, A, K', r, fi, fn, q, k, z⟩ := h
  refine ⟨G, F, P, ε, S, A, _, r, fi, fn, q, fun b ε1 S1 G1 H1 q1 g1 r1 => ?_, z⟩
  cases b with
  | false => exact ⟨G1, F, P, ε1, S1, A, _, r1, fi, fn, q1, fun b ε2 S2 G2 H2 q2 g2 r2 => k _ _ _ _ _ q2 (g1.trans g2) r2, z.up g1⟩
  | true => exact k _ _ _ _ _ q1 g1 r1

/-! ### values by tests -/
def aNotT (a : RC) : RC := fun ε S K' => a ε S fun t => oTru t fun k => K' (.val (.bl (!k)))
def aAndT (a b : RC) : RC := fun ε S K' => a ε S fun t => oTru t fun k => if k = true then b ε S K' else K' t
def aOrT (a b : RC) : RC := fun ε S K' => a ε S fun t => oTru t fun k => if k = true then K' t else b ε S K'
def eNotT (a : RE) : RE := fun A ε S K' => a A ε S fun t ε1 S1 => oTru t fun k => K' (.val (.bl (!k))) ε1 S1
def eAndT (a b : RE) : RE := fun A ε S K' => a A ε S fun t ε1 S1 => oTru t fun k => if k = true then b A ε1 S1 K' else K' t ε1 S1
def eOrT (a b : RE) : RE := fun A ε S K' => a A ε S fun t ε1 S1 => oTru t fun k => if k = true then K' t ε1 S1 else b A ε1 S1 K'
def aIf (c : RB) (a b : RC) : RC := fun ε S K' => c ε S fun k => if k = true then a ε S K' else b ε S K'
def eIf (c : RBE) (a b : RE) : RE := fun A ε S K' => c A ε S fun k ε1 S1 => if k = true then a A ε1 S1 K' else b A ε1 S1 K'
def aChain (f f' : F2) (a b c : RC) : RC := fun ε S K' => a ε S fun t => b ε S fun u => f t u fun r => match r with | .val (.bl k) => (if k = true then c ε S fun w => f' u w K' else K' (.val (.bl false))) | _ => False
def eChain (f f' : F2) (a b c : RE) : RE := fun A ε S K' => a A ε S fun t ε1 S1 => b A ε1 S1 fun u ε2 S2 => f t u fun r => match r with
  | .val (.bl k) => (if k = true then c A ε2 S2 fun w ε3 S3 => f' u w fun r' => K' r' ε3 S3 else K' (.val (.bl false)) ε2 S2) | _ => False
theorem conc_notT (h : concC K N (aNotT a) σ H Q) : tNotT K (concC K N a) σ H Q := by
  obtain ⟨G, F, ε, S, K', r, q, k⟩ := h
  refine ⟨G, F, ε, S, _, r, q, fun t v G1 H1 q1 e1 b1 => ?_⟩
  obtain ⟨b, h1, h2⟩ := tru_core e1.gh b1 q1
  exact ⟨b, h1, k _ _ _ _ h2 e1 (Bw.of (.bl _))⟩
theorem conc_andT (h : concC K N (aAndT a b) σ H Q) : tAndT K (concC K N a) (concC K N b) σ H Q := by
  obtain ⟨G, F, ε, S, K', r, q, k⟩ := h
  refine ⟨G, F, ε, S, _, r, q, fun t v G1 H1 q1 e1 b1 => ?_⟩
  obtain ⟨b, h1, h2⟩ := tru_core e1.gh b1 q1
  refine ⟨b, h1, ?_⟩
  cases b with
  | true => exact ⟨G1, F, ε, S, _, r.ext e1, h2, fun t v G2 H2 q2 e2 b2 => k _ _ _ _ q2 (e1.trans e2) b2⟩
  | false => exact k _ _ _ _ h2 e1 b1
theorem conc_orT (h : concC K N (aOrT a b) σ H Q) : tOrT K (concC K N a) (concC K N b) σ H Q := by
  obtain ⟨G, F, ε, S, K', r, q, k⟩ := h
  refine ⟨G, F, ε, S, _, r, q, fun t v G1 H1 q1 e1 b1 => ?_⟩
  obtain ⟨b, h1, h2⟩ := tru_core e1.gh b1 q1
  refine ⟨b, h1, ?_⟩
  cases b with
  | false => exact ⟨G1, F, ε, S, _, r.ext e1, h2, fun t v G2 H2 q2 e2 b2 => k _ _ _ _ q2 (e1.trans e2) b2⟩
  | true => exact k _ _ _ _ h2 e1 b1
theorem conc_enotT (h : concE K N W fx (eNotT x) σ H Q) : tNotT K (concE K N W fx x) σ H Q := by
  obtain ⟨G, F, P, ε, S, A, K', r, fi, fn, q, k, z⟩ := h
  refine ⟨G, F, P, ε, S, A, _, r, fi, fn, q, fun t v ε1 S1 G1 H1 q1 g1 r1 => ?_, z⟩
  obtain ⟨b, h1, h2⟩ := tru_core r1.gh r1.bw q1
  exact ⟨b, h1, k _ _ _ _ _ _ h2 g1 (r1.drop1.have (.bl _))⟩
theorem conc_eandT (h : concE K N W fx (eAndT x y) σ H Q) : tAndT K (concE K N W fx x) (concE K N W fx y) σ H Q := by
  obtain ⟨G, F, P, ε, S, A, K', r, fi, fn, q, k, z⟩ := h
  refine ⟨G, F, P, ε, S, A, _, r, fi, fn, q, fun t v ε1 S1 G1 H1 q1 g1 r1 => ?_, z⟩
  obtain ⟨b, h1, h2⟩ := tru_core r1.gh r1.bw q1
  refine ⟨b, h1, ?_⟩
  cases b with
  | true => exact ⟨G1, F, P, ε1, S1, A, _, r1.drop1, fi, fn, h2, fun t v ε2 S2 G2 H2 q2 g2 r2 => k _ _ _ _ _ _ q2 (g1.trans g2) r2, z.up g1⟩
  | false => exact k _ _ _ _ _ _ h2 g1 r1
theorem conc_eorT (h : concE K N W fx (eOrT x y) σ H Q) : tOrT K (concE K N W fx x) (concE K N W fx y) σ H Q := by
  obtain ⟨G, F, P, ε, S, A, K', r, fi, fn, q, k, z⟩ := h
  refine ⟨G, F, P, ε, S, A, _, r, fi, fn, q, fun t v ε1 S1 G1 H1 q1 g1 r1 => ?_, z⟩
  obtain ⟨b, h1, h2⟩ := tru_core r1.gh r1.bw q1
  refine ⟨b, h1, ?_⟩
  cases b with
  | false => exact ⟨G1, F, P, ε1, S1, A, _, r1.drop1, fi, fn, h2, fun t v ε2 S2 G2 H2 q2 g2 r2 => k _ _ _ _ _ _ q2 (g1.trans g2) r2, z.up g1⟩
  | true => exact k _ _ _ _ _ _ h2 g1 r1
theorem conc_if (h : concC K N (aIf ra a b) σ H Q) : tIf (concB K N ra) (concC K N a) (concC K N b) σ H Q := by
  obtain ⟨G, F, ε, S, K', r, q, k⟩ := h
  refine ⟨G, F, ε, S, _, r, q, fun b G1 H1 q1 e1 => ?_⟩
  cases b with
  | true => exact ⟨G1, F, ε, S, _, r.ext e1, q1, fun t v G2 H2 q2 e2 b2 => k _ _ _ _ q2 (e1.trans e2) b2⟩
  | false => exact ⟨G1, F, ε, S, _, r.ext e1, q1, fun t v G2 H2 q2 e2 b2 => k _ _ _ _ q2 (e1.trans e2) b2⟩
theorem conc_eif (h : concE K N W fx (eIf xa x y) σ H Q) : tIf (concBE K N W fx xa) (concE K N W fx x) (concE K N W fx y) σ H Q := by
  obtain ⟨G, F, P, ε, S, A, K', r, fi, fn, q, k, z⟩ := h
  refine ⟨G, F, P, ε, S, A, _, r, fi, fn, q, fun b ε1 S1 G1 H1 q1 g1 r1 => ?_, z⟩
  cases b with
  | true => exact ⟨G1, F, P, ε1, S1, A, _, r1, fi, fn, q1, fun t v ε2 S2 G2 H2 q2 g2 r2 => k _ _ _ _ _ _ q2 (g1.trans g2) r2, z.up g1⟩
  | false => exact ⟨G1, F, P, ε1, S1, A, _, r1, fi, fn, q1, fun t v ε2 S2 G2 H2 q2 g2 r2 => k _ _ _ _ _ _ q2 (g1.trans g2) r2, z.up g1⟩
theorem conc_chain {f f' : F2} {r r' : R2} (o : OpV K N f r) (o' : OpV K N f' r') (h : concC K N (aChain f f' a b c) σ H Q) : tChain r r' (concC K N a) (concC K N b) (concC K N c) σ H Q := by
  obtain ⟨G, F, ε, S, K', rr, q, k⟩ := h
  refine ⟨G, F, ε, S, _, rr, q, fun t v G1 H1 q1 e1 b1 => ?_⟩
  refine ⟨G1, F, ε, S, _, rr.ext e1, q1, fun u w G2 H2 q2 e2 b2 => ?_⟩
  refine o G2 H2 v w t u _ _ e2.gh (b1.ext e2) b2 q2 fun t' v' G3 H3 k' e3 b3 => ?_
  split at k'
  · rename_i kk
    refine ⟨kk, bw_bl b3, ?_⟩
    have e13 := (e1.trans e2).trans e3
    cases kk with
    | true =>
      refine ⟨G3, F, ε, S, _, rr.ext e13, k', fun s s' G4 H4 q4 e4 b4 => ?_⟩
      exact o' G4 H4 w s' u s _ _ e4.gh (b2.ext (e3.trans e4)) b4 q4 fun t5 v5 G5 H5 k5 e5 b5 => k _ _ _ _ k5 ((e13.trans e4).trans e5) b5
    | false => exact k _ _ _ _ k' e13 (Bw.of (.bl _))
  · exact k'.elim
theorem conc_echain {f f' : F2} {r r' : R2} (o : OpS K N f r) (o' : OpS K N f' r') (h : concE K N W fx (eChain f f' x y z) σ H Q) : tChain r r' (concE K N W fx x) (concE K N W fx y) (concE K N W fx z) σ H Q := by
  obtain ⟨G, F, P, ε, S, A, K', rr, fi, fn, q, k, zz⟩ := h
  refine conc_two (R := fun v w H2 => r v w H2 fun z H3 => ∃ k, z = .bl k ∧ (if k = true then concE K N W fx _ σ H3 fun w' H4 => r' w w' H4 Q else Q (.bl false) H3)) rr fi fn q zz fun t u v w ε2 S2 G2 H2 q2 g2 r2 => ?_
  refine o G2 H2 v w t u _ _ r2.gh r2.bw r2.drop1.bw q2 fun t' v' G3 H3 h k' e3 r3 s3 fr => ?_
  have rn := (r2.drop1.ext e3)
  have b3 : Bw K N G3 H3 v' t' := ⟨h, r3, s3⟩
  split at k'
  · rename_i kk
    refine ⟨kk, bw_bl b3, ?_⟩
    have g3 := g2.trans (e3.gr r2.fh)
    cases kk with
    | true =>
      obtain ⟨hu, ru, su, df, dg, rp⟩ := rn.park1
      refine ⟨G3, un F hu, P, ε2, S2, A, _, rp, fi, fn, k', fun s s' ε4 S4 G4 H4 q4 g4 r4 => ?_, zz.mono g3⟩
      have r5 := RelT.unpark (vs := [w]) (us := [u]) (xs := [s']) (ts := [s]) (repTs1 ru) df dg g4 r4
      exact o' G4 H4 w s' u s _ _ r5.gh r5.bw r5.drop1.bw q4 fun t5 v5 G5 H5 h5 k5 e5 rr5 s5 fr5 => k _ _ _ _ _ _ k5 ((g3.trans g4.unF).trans (e5.gr r5.fh)) (r5.drop1.drop1.new e5 rr5 s5 fr5)
    | false => exact k _ _ _ _ _ _ k' g3 (rn.drop1.have (.bl _))
  · exact k'.elim
end
end Y
/-! Yh: arguments, displays, f-strings, freezing reads, places. -/
namespace Y
open PySem PySem.Spec PyProof.Rows L2 Z

abbrev RA := AX → Env → Sg → (List T → Env → Sg → Prop) → Prop
abbrev RAC := Env → Sg → (List D → Prop) → Prop
section
variable (K : PySem.W.Frag) (N : Nm)
def concA (W : WX) (fx : Nat → Bool) (a : RA) : TA := fun σ H Q => ∃ G F P ε S A K', Rel K N G F ε S σ H ∧ Fix P σ ∧ FixIn fx P ∧ a A ε S K' ∧
  (∀ ts vs ε' S' G' H', K' ts ε' S' → Gr F G G' → RelT K N G' F vs ts ε' S' σ H' → Q vs H') ∧ XRel K N W G F P A
def concAC (a : RAC) : TA := fun σ H Q => ∃ G F ε S K', Rel K N G F ε S σ H ∧ a ε S K' ∧ ∀ ds vs G' H', K' ds → Ext G H G' H' → RpAll K N G' vs ds → Q vs H'
end
def aNil : RA := fun _ ε S K' => K' [] ε S
def aCons (x : RE) (r : RA) : RA := fun A ε S K' => x A ε S fun t ε1 S1 => r A ε1 S1 fun ts ε2 S2 => K' (t :: ts) ε2 S2
def acNil : RAC := fun _ _ K' => K' []
def acCons (x : RC) (r : RAC) : RAC := fun ε S K' => x ε S fun t => ∃ d, t = .val d ∧ r ε S fun ds => K' (d :: ds)
def aTup (r : RA) : RE := fun A ε S K' => r A ε S fun ts ε1 S1 => ts.length ≤ sizeLine ∧ fzs ts = true ∧ K' (.val (.tup (frzs ts))) ε1 S1
def aLst (r : RA) : RE := fun A ε S K' => r A ε S fun ts ε1 S1 => ts.length ≤ sizeLine ∧ K' (.nd .lst ts) ε1 S1
def acTup (r : RAC) : RC := fun ε S K' => r ε S fun ds => ds.length ≤ sizeLine ∧ K' (.val (.tup ds))
def acLst (r : RAC) : RC := fun ε S K' => r ε S fun ds => ds.length ≤ sizeLine ∧ K' (.nd .lst (ds.map .val))
section
variable {K : PySem.W.Frag} {N : Nm} {W : WX} {fx : Nat → Bool} {σ : L2.St} {H : Hp} {Q : VK} {QA : List V → Hp → Prop} {a b c : RC} {x y z : RE} {ra : RA} {rc : RAC}
theorem conc_nil (h : concA K N W fx aNil σ H QA) : tNil σ H QA := by
  obtain ⟨G, F, P, ε, S, A, K', r, fi, fn, q, k, z⟩ := h
  exact k _ _ _ _ _ _ q Gr.refl r
theorem conc_cons (h : concA K N W fx (aCons x ra) σ H QA) : tCons (concE K N W fx x) (concA K N W fx ra) σ H QA := by
  obtain ⟨G, F, P, ε, S, A, K', r, fi, fn, q, k, z⟩ := h
  refine ⟨G, F, P, ε, S, A, _, r, fi, fn, q, fun t v ε1 S1 G1 H1 q1 g1 r1 => ?_, z⟩
  obtain ⟨h, rt, sh, df, dg, rp⟩ := r1.park1
  refine ⟨G1, un F h, P, ε1, S1, A, _, rp, fi, fn, q1, fun ts vs ε2 S2 G2 H2 q2 g2 r2 => ?_, z.mono g1⟩
  exact k _ _ _ _ _ _ q2 (g1.trans g2.unF) (RelT.unpark (vs := [v]) (us := [t]) (repTs1 rt) df dg g2 r2)
theorem conc_nilC (h : concAC K N acNil σ H QA) : tNil σ H QA := by
  obtain ⟨G, F, ε, S, K', r, q, k⟩ := h
  exact k _ _ _ _ q (Ext.refl r.gh) .nil
theorem conc_consC (h : concAC K N (acCons a rc) σ H QA) : tCons (concC K N a) (concAC K N rc) σ H QA := by
  obtain ⟨G, F, ε, S, K', r, q, k⟩ := h
  refine ⟨G, F, ε, S, _, r, q, fun t v G1 H1 q1 e1 b1 => ?_⟩
  obtain ⟨d, rfl, q1⟩ := q1
  exact ⟨G1, F, ε, S, _, r.ext e1, q1, fun ds vs G2 H2 q2 e2 r2 => k _ _ _ _ q2 (e1.trans e2) (.cons (b1.val.up e2.gg) r2)⟩
theorem RelT.freezeAll {G F : Hp} {ε : Env} {S : Sg} {vs xs : List V} {us ts : List T} (r : RelT K N G F (vs ++ xs) (us ++ ts) ε S σ H) (l : vs.length = us.length) (fz : fzs us = true) :
    ∃ G', Gr F G G' ∧ RpAll K N G' vs (frzs us) ∧ RelT K N G' F xs ts ε S σ H := by
  obtain ⟨⟨gh, fh, h0, rr, sh, df, dg⟩, l1, l2⟩ := r
  rw [List.map_append, List.append_assoc, List.append_assoc] at rr
  obtain ⟨hx, hr, rx, rq, dx, rfl⟩ := rr.split l
  have e := un_comm dx
  rw [e] at sh df dg
  obtain ⟨f1, f2, f3⟩ := frz_step gh sh df dg dx
  refine ⟨un G hx, f2, rx.frozen same_unG fz (same_unH (disj_un.mp dg).2), ⟨f1, fh, hr, rq.up same_unG, same_un_l sh, (disj_un.mp df).1, f3⟩, l1, ?_⟩
  rw [List.length_append, List.length_append] at l2
  omega
theorem conc_tup (h : concE K N W fx (aTup ra) σ H Q) : tTup (concA K N W fx ra) σ H Q := by
  obtain ⟨G, F, P, ε, S, A, K', r, fi, fn, q, k, z⟩ := h
  refine ⟨G, F, P, ε, S, A, _, r, fi, fn, q, fun ts vs ε1 S1 G1 H1 q1 g1 r1 => ?_, z⟩
  obtain ⟨l, fz, q1⟩ := q1
  have lv : vs.length = ts.length := r1.2.2
  refine ⟨by rw [lv]; exact l, fun p hp => ?_⟩
  have r1' : RelT K N G1 F (vs ++ []) (ts ++ []) ε1 S1 σ H1 := by rw [List.append_nil, List.append_nil]; exact r1
  obtain ⟨G2, g2, ra, r2⟩ := r1'.freezeAll lv fz
  have e := ext_tup (vs := vs) r2.gh hp
  exact k _ _ _ _ _ _ q1 ((g1.trans g2).trans (e.gr r2.fh)) ((r2.ext e).have (.nd (.inl upd_same) (ra.up e.gg)))
theorem conc_lst (h : concE K N W fx (aLst ra) σ H Q) : tLst (concA K N W fx ra) σ H Q := by
  obtain ⟨G, F, P, ε, S, A, K', r, fi, fn, q, k, z⟩ := h
  refine ⟨G, F, P, ε, S, A, _, r, fi, fn, q, fun ts vs ε1 S1 G1 H1 q1 g1 r1 => ?_, z⟩
  obtain ⟨l, q1⟩ := q1
  have lv : vs.length = ts.length := r1.2.2
  refine ⟨by rw [lv]; exact l, fun p hp => ?_⟩
  refine k _ _ _ _ _ _ q1 g1 ?_
  obtain ⟨⟨gh, fh, h0, rr, sh, df, dg⟩, l1, l2⟩ := r1
  obtain ⟨hx, hr, rx, rq, dx, rfl⟩ := rr.split lv
  obtain ⟨n1, n2⟩ := un_eq_none.mp (sh.free hp)
  have e := Ext.same gh (same_new (o := .lst vs) hp)
  have fr := fresh_upd (o := HO.lst vs) hp gh
  refine ⟨⟨e.gh, fh.trans e.hh, un (upd hx p (.lst vs)) hr, ?_, ?_, ?_, ?_⟩, l1, rfl⟩
  · exact .cons (.nd rfl (fun z => nomatch z) rx n1) rq (disj_upd n2 dx)
  · rw [← upd_un]
    intro b u q
    by_cases c : b = p
    · subst c; rw [upd_same] at q ⊢; exact q
    · rw [upd_ne c] at q ⊢; exact sh b u q
  · rw [← upd_un]; exact disj_upd (fh.free hp) df
  · rw [← upd_un]
    refine disj_upd ?_ dg
    cases z : G1 p with
    | none => rfl
    | some u => rcases gh p u z with y | ⟨_, _, y⟩ <;> rw [hp] at y <;> cases y
theorem conc_tupC (h : concC K N (acTup rc) σ H Q) : tTup (concAC K N rc) σ H Q := by
  obtain ⟨G, F, ε, S, K', r, q, k⟩ := h
  refine ⟨G, F, ε, S, _, r, q, fun ds vs G1 H1 q1 e1 r1 => ?_⟩
  refine ⟨by rw [r1.len]; exact q1.1, fun p hp => ?_⟩
  have e := ext_tup (vs := vs) e1.gh hp
  exact k _ _ _ _ q1.2 (e1.trans e) (Bw.of (.nd (.inl upd_same) (r1.up e.gg)))
theorem conc_lstC (h : concC K N (acLst rc) σ H Q) : tLst (concAC K N rc) σ H Q := by
  obtain ⟨G, F, ε, S, K', r, q, k⟩ := h
  refine ⟨G, F, ε, S, _, r, q, fun ds vs G1 H1 q1 e1 r1 => ?_⟩
  refine ⟨by rw [r1.len]; exact q1.1, fun p hp => ?_⟩
  have e := Ext.same e1.gh (same_new (o := .lst vs) hp)
  refine k _ _ _ _ q1.2 (e1.trans e) ⟨upd emp p (.lst vs), .nd rfl (fun z => nomatch z) (repTs_vals r1) rfl, fun b u q => ?_⟩
  by_cases c : b = p
  · subst c; rw [upd_same] at q ⊢; exact q
  · rw [upd_ne c] at q; cases q

/-! f-strings -/
def oFmt : F1 := fun x K' => match x with
  | .val (.str y) => y.length ≤ sizeLine ∧ K' (.val (.str y))
  | .val (.int i) => i.natAbs.log2 < 1920 ∧ K' (.val (.str (toString i)))
  | _ => False
def rFmt : V → Hp → VK → Prop := fun x H1 Q => (∃ y : Str, x = .str y ∧ y.length ≤ sizeLine ∧ Q (.str y) H1) ∨ ∃ i : Int, x = .int i ∧ i.natAbs.log2 < 1920 ∧ Q (.str (toString i)) H1
theorem s_fmt : UnS K N oFmt rFmt := by
  intro G H x tx K' Q sr bx q o
  unfold oFmt at q
  split at q
  · cases bw_str bx; exact .inl ⟨_, rfl, q.1, o.sc sr (.str _) q.2⟩
  · cases bw_int bx; exact .inr ⟨_, rfl, q.1, o.sc sr (.str _) q.2⟩
  · exact q.elim
def aJs : List RC → Str → Env → Sg → (Str → Prop) → Prop
  | [], acc, _, _, K' => K' acc
  | a :: as, acc, ε, S, K' => a ε S fun t => match t with | .val (.str y) => (acc ++ y).length ≤ sizeLine ∧ aJs as (acc ++ y) ε S K' | _ => False
def aJoin (as : List RC) : RC := fun ε S K' => aJs as Str.empty ε S fun s => K' (.val (.str s))
theorem conc_js : ∀ {as : List RC} {acc : Str} {H : Hp} {QT : Str → Hp → Prop}, (∃ G F ε S K', Rel K N G F ε S σ H ∧ aJs as acc ε S K' ∧ ∀ s G' H', K' s → Ext G H G' H' → QT s H') → tJs (as.map (concC K N)) acc σ H QT
  | [], acc, H, QT, ⟨G, F, ε, S, K', r, q, k⟩ => k _ _ _ q (Ext.refl r.gh)
  | a :: as, acc, H, QT, ⟨G, F, ε, S, K', r, q, k⟩ => by
    refine ⟨G, F, ε, S, _, r, q, fun t v G1 H1 q1 e1 b1 => ?_⟩
    split at q1
    · cases bw_str b1
      exact ⟨_, rfl, q1.1, conc_js ⟨G1, F, ε, S, K', r.ext e1, q1.2, fun s G2 H2 k2 e2 => k _ _ _ k2 (e1.trans e2)⟩⟩
    · exact q1.elim
theorem conc_join {as : List RC} (h : concC K N (aJoin as) σ H Q) : zJoined (as.map (concC K N)) σ H Q := by
  obtain ⟨G, F, ε, S, K', r, q, k⟩ := h
  exact conc_js ⟨G, F, ε, S, _, r, q, fun s G1 H1 q1 e1 => k _ _ _ _ q1 e1 (Bw.of (.str _))⟩

/-! ### a name's thing is frozen, or moved -/
def eFrz (i : Nat) : RE := fun _ ε S K' => match ε[i]? with
  | some (.val d) => K' (.val d) ε S
  | some t => t.fz = true ∧ K' (.val t.frz) (ε.set i (.val t.frz)) S
  | none => False
def eMove (i : Nat) : RE := fun _ ε S K' => match ε[i]? with
  | some (.val d) => K' (.val d) ε S
  | some (.nd s ts) => K' (.nd s ts) (ε.set i .unk) S
  | _ => False
theorem env_get {ε : Env} {S : Sg} {i : Nat} {t : T} (e : ε[i]? = some t) : (ε ++ S.map (·.2))[i]? = some t := by rw [List.getElem?_append_left (List.getElem?_eq_some_iff.mp e).1]; exact e
theorem env_set {ε : Env} {S : Sg} {i : Nat} {t u : T} (e : ε[i]? = some t) : (ε ++ S.map (·.2)).set i u = ε.set i u ++ S.map (·.2) := by rw [List.set_append_left _ _ (List.getElem?_eq_some_iff.mp e).1]
theorem slot_get {σ : L2.St} {S : Sg} {i n : Nat} {o : Option V} (l : σ.length = n) (h : i < n) (e : (σ ++ boxes S)[i]? = some o) : σ[i]? = some o := by rw [← e]; exact (List.getElem?_append_left (by omega)).symm
theorem conc_frz {i : Nat} (h : concE K N W fx (eFrz i) σ H Q) : zVar i σ H Q := by
  obtain ⟨G, F, P, ε, S, A, K', r, fi, fn, q, k, z⟩ := h
  unfold eFrz at q
  split at q
  · rename_i d e
    obtain ⟨gh, fh, h0, rr, sh, df, dg⟩ := r.1
    obtain ⟨v, w, hu, rest, e1, ru, dd, rfl, va, _⟩ := RepR.focus (p := []) (u := .val d) rr (env_get e) rfl (fun z => nomatch z)
    cases (va H sh)
    have e3 := slot_get r.2.1 (List.getElem?_eq_some_iff.mp e).1 e1
    unfold zVar
    rw [e3]
    cases ru with
    | val rp => exact k _ _ _ _ _ _ q Gr.refl (r.have rp)
  · rename_i t nv e
    obtain ⟨fz, q⟩ := q
    obtain ⟨v, w, G', e1, va, g1, rp, r2⟩ := r.1.freeze (p := []) (env_get e) rfl fz
    cases va
    have e3 := slot_get r.2.1 (List.getElem?_eq_some_iff.mp e).1 e1
    unfold zVar
    rw [e3]
    have r3 : Rel K N G' F (ε.set i (.val t.frz)) S σ H := by
      refine ⟨?_, by rw [List.length_set]; exact r.2.1, rfl⟩
      have := env_set (S := S) (u := T.val t.frz) e
      have r2' : RelR K N G' F (([] : List V).map some ++ (σ ++ boxes S)) ((ε ++ S.map (·.2)).set i (.val t.frz)) H := r2
      rw [this] at r2'
      exact r2'
    exact k _ _ _ _ _ _ q g1 (r3.have rp)
  · exact q.elim
theorem conc_move {i : Nat} (h : concE K N W fx (eMove i) σ H Q) : zVar i σ H Q := by
  obtain ⟨G, F, P, ε, S, A, K', r, fi, fn, q, k, z⟩ := h
  unfold eMove at q
  split at q
  · rename_i d e
    obtain ⟨gh, fh, h0, rr, sh, df, dg⟩ := r.1
    obtain ⟨v, w, hu, rest, e1, ru, dd, rfl, va, _⟩ := RepR.focus (p := []) (u := .val d) rr (env_get e) rfl (fun z => nomatch z)
    cases (va H sh)
    have e3 := slot_get r.2.1 (List.getElem?_eq_some_iff.mp e).1 e1
    unfold zVar
    rw [e3]
    cases ru with
    | val rp => exact k _ _ _ _ _ _ q Gr.refl (r.have rp)
  · rename_i s ts e
    obtain ⟨⟨gh, fh, h0, rr, sh, df, dg⟩, l1, l2⟩ := r
    have rr : RepR K N G (σ ++ boxes S) (ε ++ S.map (·.2)) h0 := rr
    obtain ⟨v, w, hu, rest, e1, ru, dd, rfl, va, kk⟩ := RepR.focus (p := []) (u := .nd s ts) rr (env_get e) rfl (fun z => nomatch z)
    cases (va H sh)
    have e3 := slot_get l1 (List.getElem?_eq_some_iff.mp e).1 e1
    unfold zVar
    rw [e3]
    refine k _ _ _ _ _ _ q Gr.refl ⟨⟨gh, fh, un hu rest, ?_, ?_, ?_, ?_⟩, by rw [List.length_set]; exact l1, rfl⟩
    · have := kk G .unk emp (Same.refl _) .unk emp_disj
      rw [un_emp] at this
      have this : RepR K N G (σ ++ boxes S) ((ε ++ S.map (·.2)).set i .unk) rest := this
      rw [env_set e] at this
      exact .cons ru this dd
    · rw [un_comm dd]; exact sh
    · rw [un_comm dd]; exact df
    · rw [un_comm dd]; exact dg
  · exact q.elim

/-! ### places -/
inductive Rt where | slot (i : Nat) | box (a : Addr)
structure Pl where
  rt : Rt
  p : List Nat
def getP (ε : Env) (S : Sg) (pl : Pl) : Option T := match pl.rt with
  | .slot i => (ε[i]?).bind (getT pl.p)
  | .box a => (boxOf S a).bind (getT pl.p)
def setBox (S : Sg) (a : Addr) (u : T) : Sg := match S with
  | [] => []
  | (b, t) :: S => if b = a then (b, u) :: S else (b, t) :: setBox S a u
def setE (ε : Env) (pl : Pl) (u : T) : Env := match pl.rt with
  | .slot i => (match ε[i]? with | some c => ε.set i (setT u pl.p c) | none => ε)
  | .box _ => ε
def setS (S : Sg) (pl : Pl) (u : T) : Sg := match pl.rt with
  | .slot _ => S
  | .box a => (match boxOf S a with | some c => setBox S a (setT u pl.p c) | none => S)
abbrev RP := Env → Sg → (Pl → Prop) → Prop
def VAt (H : Hp) (σ : L2.St) (pl : Pl) (v : V) : Prop := match pl.rt with
  | .slot i => ∃ w, σ[i]? = some (some w) ∧ vAt H pl.p w = some v
  | .box a => vAt H pl.p (.ref a) = some v
theorem vAt_same {H H' : Hp} (s : Same H H') : ∀ {p : List Nat} {v w : V}, vAt H p v = some w → vAt H' p v = some w
  | [], _, _, e => e
  | j :: p, .ref a, w, e => by
    have e : (H a).bind (fun o => ((Y.kids o)[j]?).bind (vAt H p)) = some w := e
    cases q : H a with
    | none => rw [q] at e; cases e
    | some o =>
      rw [q] at e
      have e : ((Y.kids o)[j]?).bind (vAt H p) = some w := e
      show (H' a).bind (fun o => ((Y.kids o)[j]?).bind (vAt H' p)) = some w
      rw [s a o q]
      show ((Y.kids o)[j]?).bind (vAt H' p) = some w
      cases q2 : (Y.kids o)[j]? with
      | none => rw [q2] at e; cases e
      | some x => rw [q2] at e; exact vAt_same s e
  | j :: p, .non, w, e => by cases e
  | j :: p, .bl _, w, e => by cases e
  | j :: p, .int _, w, e => by cases e
  | j :: p, .str _, w, e => by cases e
  | j :: p, .byt _, w, e => by cases e
  | j :: p, .flt _, w, e => by cases e
  | j :: p, .ty _, w, e => by cases e
theorem VAt.same {H H' : Hp} {pl : Pl} {v : V} (s : Same H H') (h : VAt H σ pl v) : VAt H' σ pl v := by
  obtain ⟨rt, p⟩ := pl
  cases rt with
  | slot i => obtain ⟨w, e1, e2⟩ := h; exact ⟨w, e1, vAt_same s e2⟩
  | box a => exact vAt_same s h
theorem vAt_app {H : Hp} {j : Nat} : ∀ {p : List Nat} {v w x : V}, vAt H p v = some w → vAt H [j] w = some x → vAt H (p ++ [j]) v = some x
  | [], _, _, _, e, e2 => by cases e; exact e2
  | i :: p, .ref a, w, x, e, e2 => by
    have e : (H a).bind (fun o => ((Y.kids o)[i]?).bind (vAt H p)) = some w := e
    show (H a).bind (fun o => ((Y.kids o)[i]?).bind (vAt H (p ++ [j]))) = some x
    cases q : H a with
    | none => rw [q] at e; cases e
    | some o =>
      rw [q] at e
      have e : ((Y.kids o)[i]?).bind (vAt H p) = some w := e
      show ((Y.kids o)[i]?).bind (vAt H (p ++ [j])) = some x
      cases q2 : (Y.kids o)[i]? with
      | none => rw [q2] at e; cases e
      | some y => rw [q2] at e; exact vAt_app e e2
  | i :: p, .non, w, x, e, _ => by cases e
  | i :: p, .bl _, w, x, e, _ => by cases e
  | i :: p, .int _, w, x, e, _ => by cases e
  | i :: p, .str _, w, x, e, _ => by cases e
  | i :: p, .byt _, w, x, e, _ => by cases e
  | i :: p, .flt _, w, x, e, _ => by cases e
  | i :: p, .ty _, w, x, e, _ => by cases e
theorem getT_app {j : Nat} : ∀ {p : List Nat} {t u : T}, getT p t = some u → getT (p ++ [j]) t = getT [j] u
  | [], _, _, e => by cases e; rfl
  | i :: p, .nd s ts, u, e => by
    have e : (ts[i]?).bind (getT p) = some u := e
    show (ts[i]?).bind (getT (p ++ [j])) = _
    cases q : ts[i]? with
    | none => rw [q] at e; cases e
    | some c => rw [q] at e; exact getT_app e
  | i :: p, .lk a o s ts, u, e => by
    have e : (ts[i]?).bind (getT p) = some u := e
    show (ts[i]?).bind (getT (p ++ [j])) = _
    cases q : ts[i]? with
    | none => rw [q] at e; cases e
    | some c => rw [q] at e; exact getT_app e
  | i :: p, .val _, u, e => by cases e
  | i :: p, .unk, u, e => by cases e
  | i :: p, .hole _, u, e => by cases e
section
variable (K : PySem.W.Frag) (N : Nm)
def concP (r : RP) : TE := fun σ H Q => ∃ G F ε S K', Rel K N G F ε S σ H ∧ r ε S K' ∧ ∀ pl v G' H', K' pl → Ext G H G' H' → VAt H' σ pl v → Q v H'
end
/-- a place whose thing is a box: the box -/
def deref (ε : Env) (S : Sg) (pl : Pl) : Pl := match getP ε S pl with
  | some (.val (.obj a)) => ⟨.box a, []⟩
  | _ => pl
def pVar (i : Nat) : RP := fun ε S k => match ε[i]? with
  | some (.val (.obj a)) => k ⟨.box a, []⟩
  | some t => t ≠ .unk ∧ k ⟨.slot i, []⟩
  | none => False
def subP (pl : Pl) (own : Bool) (ts : List T) (j : Nat) (k : Pl → Prop) : Prop := match ts[j]? with
  | some (.val (.obj a)) => k ⟨.box a, []⟩
  | some c => own = true ∧ c ≠ .unk ∧ k ⟨pl.rt, pl.p ++ [j]⟩
  | none => False
def T.own : T → Bool
  | .nd .. => true
  | .lk .. => true
  | _ => false
def pFld (Cs : List Cl) (f : String) (r : RP) : RP := fun ε S k => r ε S fun pl => oGet (getP ε S pl) fun t => match t.kids with
  | some (.ins C fs, ts) => C ∈ Cs ∧ oGet (ixK fs f) fun j => subP pl t.own ts j k
  | _ => False
def pIx (r : RP) (y : RC) : RP := fun ε S k => r ε S fun pl => y ε S fun u => match u with
  | .val d => oGet (getP ε S pl) fun t => (match t.kids with
    | some (.dk ks, ts) => oGet d.k1 fun x => oGet (ixK ks x) fun j => subP pl t.own ts j k
    | some (.dt ks, ts) => oGet d.kt fun x => oGet (ixK ks x) fun j => subP pl t.own ts j k
    | some (.lst, ts) => (match d with | .int i => oGet (ixN ts.length i) fun j => subP pl t.own ts j k | _ => False)
    | _ => False)
  | _ => False
/-- what stands at a place -/
theorem Rel.place {G F : Hp} {ε : Env} {S : Sg} {xs : List V} {txs : List T} {pl : Pl} {t : T} {v : V} (r : RelT K N G F xs txs ε S σ H) (g : getP ε S pl = some t) (nu : t ≠ .unk) (va : VAt H σ pl v) : ∃ hu, RepT K N G v t hu ∧ Same hu H ∧ Disj hu G := by
  obtain ⟨⟨gh, fh, h0, rr, sh, df, dg⟩, l1, l2⟩ := r
  obtain ⟨hx, hr, rx, rq, dx, rfl⟩ := rr.split l2
  have sr := same_un_r dx sh
  obtain ⟨rt, p⟩ := pl
  cases rt with
  | slot i =>
    have g : (ε[i]?).bind (getT p) = some t := g
    cases q : ε[i]? with
    | none => rw [q] at g; cases g
    | some c =>
      rw [q] at g
      obtain ⟨v0, w, hu, rest, e1, ru, d, rfl, va2, _⟩ := rq.focus (env_get q) g nu
      obtain ⟨w', e2, e3⟩ := va
      rw [slot_get l1 (List.getElem?_eq_some_iff.mp q).1 e1] at e2
      cases e2
      rw [va2 H sr] at e3
      cases e3
      exact ⟨hu, ru, same_un_r d.symm sr, (disj_un.mp (disj_un.mp dg).2).2⟩
  | box a =>
    have g : (boxOf S a).bind (getT p) = some t := g
    cases q : boxOf S a with
    | none => rw [q] at g; cases g
    | some c =>
      rw [q] at g
      obtain ⟨j, _, ej⟩ := boxOf_ix q
      have i1 : (ε ++ S.map (·.2))[ε.length + j]? = some c := by
        rw [List.getElem?_append_right (by omega)]
        have : ε.length + j - ε.length = j := by omega
        rw [this, List.getElem?_map, ej]; rfl
      obtain ⟨v0, w, hu, rest, e1, ru, d, rfl, va2, _⟩ := rq.focus i1 g nu
      have e0 : v0 = .ref a := by
        rw [List.getElem?_append_right (by omega)] at e1
        have : ε.length + j - σ.length = j := by omega
        rw [this] at e1
        unfold boxes at e1
        rw [List.getElem?_map, ej] at e1
        exact (Option.some.inj (Option.some.inj e1)).symm
      subst e0
      have e3 : vAt H p (.ref a) = some v := va
      rw [va2 H sr] at e3
      cases e3
      exact ⟨hu, ru, same_un_r d.symm sr, (disj_un.mp (disj_un.mp dg).2).2⟩
theorem conc_pvar {i : Nat} (h : concP K N (pVar i) σ H Q) : zVar i σ H Q := by
  obtain ⟨G, F, ε, S, K', r, q, k⟩ := h
  have get : ∀ {t : T}, ε[i]? = some t → t ≠ .unk → ∃ v hu, σ[i]? = some (some v) ∧ RepT K N G v t hu := fun {t} e nu => by
    obtain ⟨gh, fh, h0, rr, sh, df, dg⟩ := r.1
    obtain ⟨v, w, hu, rest, e1, ru, dd, rfl, va, _⟩ := RepR.focus (p := []) (u := t) rr (env_get e) rfl nu
    cases (va H sh)
    exact ⟨v, hu, slot_get r.2.1 (List.getElem?_eq_some_iff.mp e).1 e1, ru⟩
  unfold pVar at q
  split at q
  · rename_i a e
    obtain ⟨v, hu, e3, ru⟩ := get e (fun z => nomatch z)
    unfold zVar
    rw [e3]
    cases ru with
    | val rp =>
      cases rp
      exact k _ _ _ _ q (Ext.refl r.gh) rfl
  · rename_i t _ e
    obtain ⟨v, hu, e3, ru⟩ := get e q.1
    unfold zVar
    rw [e3]
    exact k _ _ _ _ q.2 (Ext.refl r.gh) ⟨v, e3, rfl⟩
  · exact q.elim
/-- one step within a place -/
theorem sub_ok {G F : Hp} {ε : Env} {S : Sg} {pl : Pl} {t : T} {a : Addr} {s : Sh} {vs : List V} {ts : List T} {j : Nat} {kk : Pl → Prop} {hu : Hp} (r : Rel K N G F ε S σ H) (g : getP ε S pl = some t) (va : VAt H σ pl (.ref a)) (ek : t.kids = some (s, ts))
    (ru : RepT K N G (.ref a) t hu) (su : Same hu H) (hk : ∀ (j : Nat) (c : T), ts[j]? = some c → ∃ w, vs[j]? = some w ∧ Bw K N G H w c) (ka : t.own = true → ∃ o, H a = some o ∧ Y.kids o = vs) (q : subP pl t.own ts j kk) :
    ∃ w, vs[j]? = some w ∧ ∃ pl', kk pl' ∧ VAt H σ pl' w := by
  unfold subP at q
  split at q
  · rename_i b e
    obtain ⟨w, e1, bw⟩ := hk j _ e
    cases bw_obj bw
    exact ⟨_, e1, _, q, rfl⟩
  · rename_i c _ e
    obtain ⟨w, e1, bw⟩ := hk j _ e
    obtain ⟨ow, nu, q⟩ := q
    obtain ⟨o, eo, ko⟩ := ka ow
    refine ⟨w, e1, _, q, ?_⟩
    have st : vAt H [j] (.ref a) = some w := by
      show (H a).bind (fun o => ((Y.kids o)[j]?).bind (vAt H [])) = some w
      rw [eo]
      show ((Y.kids o)[j]?).bind (vAt H []) = some w
      rw [ko, e1]; rfl
    obtain ⟨rt, p⟩ := pl
    cases rt with
    | slot i => obtain ⟨w0, z1, z2⟩ := va; exact ⟨w0, z1, vAt_app z2 st⟩
    | box a' => exact vAt_app (p := p) va st
  · exact q.elim
theorem own_kids {G : Hp} {t : T} {a : Addr} {hu : Hp} {s : Sh} {ts : List T} {vs : List V} (ru : RepT K N G (.ref a) t hu) (su : Same hu H) (ek : t.kids = some (s, ts)) (ha : s.at K N H a vs) : t.own = true → ∃ o, H a = some o ∧ Y.kids o = vs := by
  have fin : ∀ {o : HO}, H a = some o → (∃ vs', (s.is N vs' o ∧ s ≠ .tup ∧ Y.kids o = vs') ∨ ∃ b o', o = .frz b o' ∧ s.is N vs' o' ∧ s ≠ .tup ∧ Y.kids o = vs') → ∃ o, H a = some o ∧ Y.kids o = vs := fun {o} e h => by
    obtain ⟨vs', h⟩ := h
    refine ⟨o, e, ?_⟩
    rcases h with ⟨i, n, _⟩ | ⟨b, o', rfl, i, n, _⟩
    · cases s with
      | tup => exact (n rfl).elim
      | slst => exact i.elim
      | lst => subst i; have : H a = some (.lst vs) := ha; rw [this] at e; cases e; rfl
      | dk ks =>
        obtain ⟨rfl, l⟩ := i
        obtain ⟨hr, l2⟩ := ha
        rcases hr with hr | ⟨_, hr⟩
        · rw [hr] at e; rw [← Option.some.inj e]; exact zip_snd l2
        · rw [hr] at e; cases e
      | dt ks =>
        obtain ⟨rfl, l⟩ := i
        obtain ⟨hr, l2⟩ := ha
        rcases hr with hr | ⟨_, hr⟩
        · rw [hr] at e; rw [← Option.some.inj e]; exact zip_snd l2
        · rw [hr] at e; cases e
      | ins C fs =>
        obtain ⟨dx, rfl, l⟩ := i
        obtain ⟨dx2, hr, l2⟩ := ha
        rw [hr] at e
        rw [← Option.some.inj e]
        exact zip_snd (by rw [List.length_map]; exact l2)
    · cases s with
      | tup => exact (n rfl).elim
      | slst => exact i.elim
      | lst => have : H a = some (.lst vs) := ha; rw [this] at e; cases e
      | dk ks =>
        obtain ⟨rfl, l⟩ := i
        obtain ⟨hr, l2⟩ := ha
        rcases hr with hr | ⟨_, hr⟩
        · rw [hr] at e; cases e
        · rw [hr] at e; rw [← Option.some.inj e]; exact zip_snd l2
      | dt ks =>
        obtain ⟨rfl, l⟩ := i
        obtain ⟨hr, l2⟩ := ha
        rcases hr with hr | ⟨_, hr⟩
        · rw [hr] at e; cases e
        · rw [hr] at e; rw [← Option.some.inj e]; exact zip_snd l2
      | ins C fs =>
        obtain ⟨dx, rfl, l⟩ := i
        obtain ⟨dx2, hr, l2⟩ := ha
        rw [hr] at e
        cases e
  intro ow
  cases t with
  | nd s' ts' =>
    cases ek
    cases ru with
    | nd i n r na => exact fin (su _ _ upd_same) ⟨_, .inl ⟨i, n, Sh.kids i n⟩⟩
  | lk a' ob s' ts' =>
    cases ru with
    | lk i n eo r na zz =>
      cases ob with
      | none => cases ek; subst eo; exact fin (su _ _ upd_same) ⟨_, .inl ⟨i, n, Sh.kids i n⟩⟩
      | some b =>
        subst eo
        have es : s = s' := by cases s' <;> first | (cases ek; done) | (cases ek; rfl)
        subst es
        exact fin (su _ _ upd_same) ⟨_, .inr ⟨b.1, _, rfl, i, n, Sh.kidsF i n⟩⟩
  | _ => cases ow
theorem kids_nu {t : T} {s : Sh} {ts : List T} (h : t.kids = some (s, ts)) : t ≠ .unk := fun e => by subst e; cases h
theorem conc_pfld {Cs : List Cl} {f : String} {r : RP} (h : concP K N (pFld Cs f r) σ H Q) : zFld (Cs.map N.at) (Str.ofString f) (concP K N r) σ H Q := by
  obtain ⟨G, F, ε, S, K', rr, q, k⟩ := h
  refine ⟨G, F, ε, S, _, rr, q, fun pl v G1 H1 q1 e1 va => ?_⟩
  obtain ⟨t, g, q1⟩ := oGet_elim q1
  split at q1
  · rename_i C fs ts ek
    obtain ⟨hC, q1⟩ := q1
    obtain ⟨j, ej, q1⟩ := oGet_elim q1
    have r1 := rr.ext e1
    obtain ⟨hu, ru, su, du⟩ := Rel.place r1 g (kids_nu ek) va
    obtain ⟨a, vs, rfl, hat, l2, hk, _⟩ := bw_kids ⟨hu, ru, su⟩ ek e1.gh
    obtain ⟨w, e2, pl', k', va'⟩ := sub_ok r1 g va ek ru su hk (own_kids ru su ek hat) q1
    obtain ⟨dx, hat, hl⟩ := hat
    refine ⟨a, N.at C, dx, _, w, rfl, List.mem_map_of_mem hC, hat, ?_, k _ _ _ _ k' e1 va'⟩
    rw [lookup_valV, valV_ix (by rw [List.length_map]; exact hl), ixK_ofString, ej]
    exact e2
  · exact q1.elim
theorem conc_pix {r : RP} (h : concP K N (pIx r a) σ H Q) : tOp (zIx K) (concP K N r) (concC K N a) σ H Q := by
  obtain ⟨G, F, ε, S, K', rr, q, k⟩ := h
  refine ⟨G, F, ε, S, _, rr, q, fun pl v G1 H1 q1 e1 va => ?_⟩
  refine ⟨G1, F, ε, S, _, rr.ext e1, q1, fun u y G2 H2 q2 e2 b2 => ?_⟩
  have va2 := va.same e2.hh
  split at q2
  · rename_i d
    obtain ⟨t, g, q2⟩ := oGet_elim q2
    have r2 := (rr.ext e1).ext e2
    split at q2
    · rename_i ks ts ek
      obtain ⟨x, ex, q2⟩ := oGet_elim q2
      obtain ⟨j, ej, q2⟩ := oGet_elim q2
      obtain ⟨hu, ru, su, du⟩ := Rel.place r2 g (kids_nu ek) va2
      obtain ⟨a, vs, rfl, hat, l2, hk, _⟩ := bw_kids ⟨hu, ru, su⟩ ek e2.gh
      obtain ⟨w, e5, pl', k', va'⟩ := sub_ok r2 g va2 ek ru su hk (own_kids ru su ek hat) q2
      obtain ⟨hd, hl⟩ := hat
      refine .inr ⟨a, w, rfl, .inl ⟨_, x, hd, rp_k1 b2.val ex, ?_⟩, k _ _ _ _ k' (e1.trans e2) va'⟩
      rw [valV_ix hl, ej]; exact e5.symm
    · rename_i ks ts ek
      obtain ⟨x, ex, q2⟩ := oGet_elim q2
      obtain ⟨j, ej, q2⟩ := oGet_elim q2
      obtain ⟨hu, ru, su, du⟩ := Rel.place r2 g (kids_nu ek) va2
      obtain ⟨a, vs, rfl, hat, l2, hk, _⟩ := bw_kids ⟨hu, ru, su⟩ ek e2.gh
      obtain ⟨w, e5, pl', k', va'⟩ := sub_ok r2 g va2 ek ru su hk (own_kids ru su ek hat) q2
      obtain ⟨hd, hl⟩ := hat
      obtain ⟨b', e6, e7⟩ := rp_kt b2.val ex e2.gh
      refine .inr ⟨a, w, rfl, .inr ⟨_, x, b', hd, e6, e7, ?_⟩, k _ _ _ _ k' (e1.trans e2) va'⟩
      rw [valV_ix hl, ej]; exact e5.symm
    · rename_i ts ek
      split at q2
      · obtain ⟨j, ej, q2⟩ := oGet_elim q2
        obtain ⟨hu, ru, su, du⟩ := Rel.place r2 g (kids_nu ek) va2
        obtain ⟨a, vs, rfl, hat, l2, hk, _⟩ := bw_kids ⟨hu, ru, su⟩ ek e2.gh
        obtain ⟨w, e5, pl', k', va'⟩ := sub_ok r2 g va2 ek ru su hk (own_kids ru su ek hat) q2
        cases bw_int b2
        exact .inl (.inl ⟨a, vs, _, w, rfl, rfl, at_sqL (N := N) hat, atI_mk (by rw [l2]; exact ej) e5, k _ _ _ _ k' (e1.trans e2) va'⟩)
      · exact q2.elim
    · exact q2.elim
  · exact q2.elim
end
end Y
/-! Yi: statements; writes at places. -/
namespace Y
open PySem PySem.Spec PyProof.Rows L2 Z

/-! ### writes -/
theorem boxes_set {a : Addr} {u : T} : ∀ {S : Sg}, boxes (setBox S a u) = boxes S
  | [] => rfl
  | (b, t) :: S => by
    unfold setBox
    by_cases c : b = a
    · rw [if_pos c]; rfl
    · rw [if_neg c]
      have ih := boxes_set (a := a) (u := u) (S := S)
      unfold boxes at ih ⊢
      rw [List.map_cons, List.map_cons, ih]
theorem setBox_snd {a : Addr} {u : T} : ∀ {S : Sg} {j : Nat}, boxI S a = some j → (setBox S a u).map (·.2) = (S.map (·.2)).set j u
  | [], _, h => by cases h
  | (b, t) :: S, j, h => by
    unfold boxI at h
    unfold setBox
    by_cases c : b = a
    · rw [if_pos c] at h ⊢
      cases h
      rfl
    · rw [if_neg c] at h ⊢
      cases q : boxI S a with
      | none => rw [q] at h; cases h
      | some i =>
        rw [q] at h
        cases h
        rw [List.map_cons, List.map_cons, setBox_snd q]; rfl
section
variable {K : PySem.W.Frag} {N : Nm} {G F H : Hp} {ε : Env} {S : Sg} {σ : L2.St}
/-- the contents of a node at a place are changed -/
theorem Rel.write {xs : List V} {txs : List T} {pl : Pl} {s : Sh} {us : List T} {v : V} (r : RelT K N G F xs txs ε S σ H) (g : getP ε S pl = some (.nd s us)) (va : VAt H σ pl v) :
    ∃ a vs o hc hx, v = .ref a ∧ s.is N vs o ∧ s ≠ .tup ∧ RepTs K N G vs us hc ∧ RepTs K N G xs txs hx ∧ Disj hx hc ∧ Same hc H ∧ Same hx H ∧ H a = some o ∧
      ∀ s' us' vs' o' hc' ys tys hy, s'.is N vs' o' → s' ≠ .tup → RepTs K N G vs' us' hc' → RepTs K N G ys tys hy → Disj hy hc' → (∀ b u, un hy hc' b = some u → un hx hc b = some u) →
        RelT K N G F ys tys (setE ε pl (.nd s' us')) (setS S pl (.nd s' us')) σ (upd H a o') := by
  obtain ⟨rr, l1, l2⟩ := r
  obtain ⟨rt, p⟩ := pl
  cases rt with
  | slot i =>
    have g : (ε[i]?).bind (getT p) = some (.nd s us) := g
    cases q : ε[i]? with
    | none => rw [q] at g; cases g
    | some c =>
      rw [q] at g
      obtain ⟨v0, a, vs, o, hc, hx, e1, va2, i1, n1, rc, rx, dx, sc, sx, ea, k⟩ := rr.write l2 (env_get q) g
      obtain ⟨w, e2, e3⟩ := va
      rw [slot_get l1 (List.getElem?_eq_some_iff.mp q).1 e1] at e2
      cases e2
      rw [va2] at e3
      cases e3
      refine ⟨a, vs, o, hc, hx, rfl, i1, n1, rc, rx, dx, sc, sx, ea, fun s' us' vs' o' hc' ys tys hy i' n' r' ry dy sub => ?_⟩
      have z := k s' us' vs' o' hc' ys tys hy i' n' r' ry dy sub
      rw [env_set q] at z
      refine ⟨?_, ?_, ry.len⟩
      · show RelR K N G F _ (tys ++ ((match ε[i]? with | some c => ε.set i (setT (.nd s' us') p c) | none => ε) ++ _)) _
        rw [q]; exact z
      · show _ = (match ε[i]? with | some c => ε.set i (setT (.nd s' us') p c) | none => ε).length
        rw [q, List.length_set]; exact l1
  | box b =>
    have g : (boxOf S b).bind (getT p) = some (.nd s us) := g
    cases q : boxOf S b with
    | none => rw [q] at g; cases g
    | some c =>
      rw [q] at g
      obtain ⟨j, ej0, ej⟩ := boxOf_ix q
      have i1 : (ε ++ S.map (·.2))[ε.length + j]? = some c := by
        rw [List.getElem?_append_right (by omega)]
        have : ε.length + j - ε.length = j := by omega
        rw [this, List.getElem?_map, ej]; rfl
      obtain ⟨v0, a, vs, o, hc, hx, e1, va2, i2, n1, rc, rx, dx, sc, sx, ea, k⟩ := rr.write l2 i1 g
      have e0 : v0 = .ref b := by
        rw [List.getElem?_append_right (by omega)] at e1
        have : ε.length + j - σ.length = j := by omega
        rw [this] at e1
        unfold boxes at e1
        rw [List.getElem?_map, ej] at e1
        exact (Option.some.inj (Option.some.inj e1)).symm
      subst e0
      have e3 : vAt H p (.ref b) = some v := va
      rw [va2] at e3
      cases e3
      refine ⟨a, vs, o, hc, hx, rfl, i2, n1, rc, rx, dx, sc, sx, ea, fun s' us' vs' o' hc' ys tys hy i' n' r' ry dy sub => ?_⟩
      have z := k s' us' vs' o' hc' ys tys hy i' n' r' ry dy sub
      have es : (ε ++ S.map (·.2)).set (ε.length + j) (setT (.nd s' us') p c) = ε ++ (setBox S b (setT (.nd s' us') p c)).map (·.2) := by
        rw [List.set_append_right _ _ (by omega), setBox_snd ej0]
        have : ε.length + j - ε.length = j := by omega
        rw [this]
      rw [es] at z
      refine ⟨?_, l1, ry.len⟩
      have eS : setS S ⟨.box b, p⟩ (.nd s' us') = setBox S b (setT (.nd s' us') p c) := by
        show (match boxOf S b with | some c => setBox S b (setT (.nd s' us') p c) | none => S) = _
        rw [q]
      rw [eS]
      show RelR K N G F (ys.map some ++ (σ ++ boxes (setBox S b (setT (.nd s' us') p c)))) (tys ++ (ε ++ (setBox S b (setT (.nd s' us') p c)).map (·.2))) _
      rw [boxes_set]
      exact z
/-- a name gets what is at hand -/
theorem Rel.assign {v : V} {t : T} {i : Nat} (r : RelT K N G F [v] [t] ε S σ H) (hi : i < ε.length) : Rel K N G F (ε.set i t) S (σ.set i (some v)) H := by
  obtain ⟨⟨gh, fh, h0, rr, sh, df, dg⟩, l1, l2⟩ := r
  cases rr with
  | @cons _ _ _ _ hv hr rv rr dd =>
    have e : (ε ++ S.map (·.2))[i]? = some (ε[i]) := env_get (List.getElem?_eq_getElem hi)
    have rr : RepR K N G (σ ++ boxes S) (ε ++ S.map (·.2)) hr := rr
    obtain ⟨ow, h1, rest, e1, r1, d1, rfl, k, _⟩ := rr.at e
    obtain ⟨d2, d3⟩ := disj_un'.mp dd
    have z := k G t v hv (Same.refl _) rv d2
    rw [List.set_append_left _ _ hi, List.set_append_left _ _ (by omega)] at z
    obtain ⟨df1, df2⟩ := disj_un.mp df
    obtain ⟨dg1, dg2⟩ := disj_un.mp dg
    refine ⟨⟨gh, fh, un rest hv, z, same_un (same_un_l (same_un_r dd sh)) (same_un_l sh), disj_un.mpr ⟨(disj_un.mp df2).1, df1⟩, disj_un.mpr ⟨(disj_un.mp dg2).1, dg1⟩⟩, by rw [List.length_set, List.length_set]; exact l1, rfl⟩
end

/-! ### statements -/
def sSeq (a b : AS) : AS := fun A ε S => a { A with nx := b A } ε S
def sNext : AS := fun A ε S => A.nx ε S
def sBrk : AS := fun A ε S => A.bk ε S
def sCont : AS := fun A ε S => A.ct ε S
def sAsg (i : Nat) (x : RE) : AS := fun A ε S => x A.ex ε S fun t ε1 S1 => i < ε1.length ∧ A.nx (ε1.set i t) S1
def sDrop (x : RE) : AS := fun A ε S => x A.ex ε S fun _ ε1 S1 => A.nx ε1 S1
def sRet (x : RE) : AS := fun A ε S => x A.ex ε S fun t ε1 S1 => A.rt t ε1 S1
def sRetN : AS := fun A ε S => A.rt (.val .non) ε S
def sIf (c : RBE) (a b : AS) : AS := fun A ε S => c A.ex ε S fun k ε1 S1 => if k = true then a A ε1 S1 else b A ε1 S1
def sAugI (i : Nat) (f : Int → Int → Int) (x : RE) : AS := fun A ε S => match ε[i]? with
  | some (.val (.int a)) => x A.ex ε S fun t ε1 S1 => (match t with | .val (.int b) => i < ε1.length ∧ A.nx (ε1.set i (.val (.int (f a b)))) S1 | _ => False)
  | _ => False
def sRaise (C : Cl) (r : RA) : AS := fun A ε S => r A.ex ε S fun ts ε1 S1 => ts.length ≤ sizeLine ∧ A.ex C [] ε1 S1
def putT (C : Cl) (fs : List String) (us : List T) (f : String) (t : T) : T := match ixK fs f with
  | some j => .nd (.ins C fs) (us.set j t)
  | none => .nd (.ins C (fs ++ [f])) (us ++ [t])
def sSetF (Cs : List Cl) (f : String) (r : RP) (x : RE) : AS := fun A ε S => x A.ex ε S fun t ε1 S1 => r ε1 S1 fun pl => match getP ε1 S1 pl with
  | some (.nd (.ins C fs) us) => C ∈ Cs ∧ fs.length < 1000 ∧ A.nx (setE ε1 pl (putT C fs us f t)) (setS S1 pl (putT C fs us f t))
  | _ => False
/-- an int field that grows -/
def sAugF (Cs : List Cl) (f : String) (g : Int → Int → Int) (r : RP) (a : RC) : AS := fun A ε S => r ε S fun pl => match getP ε S pl with
  | some (.nd (.ins C fs) us) => C ∈ Cs ∧ fs.length < 1000 ∧ (match getK fs us f with
    | some (.val (.int i)) => a ε S fun t => (match t with | .val (.int j) => A.nx (setE ε pl (putT C fs us f (.val (.int (g i j))))) (setS S pl (putT C fs us f (.val (.int (g i j))))) | _ => False)
    | _ => False)
  | _ => False
def putD (ks : List Key) (us : List T) (k : Key) (t : T) : T := match ixK ks k with
  | some j => .nd (.dk ks) (us.set j t)
  | none => .nd (.dk (ks ++ [k])) (us ++ [t])
def putE (ks : List (List Key)) (us : List T) (k : List Key) (t : T) : T := match ixK ks k with
  | some j => .nd (.dt ks) (us.set j t)
  | none => .nd (.dt (ks ++ [k])) (us ++ [t])
def sSetI (r : RP) (a : RC) (x : RE) : AS := fun A ε S => x A.ex ε S fun t ε1 S1 => r ε1 S1 fun pl => a ε1 S1 fun u => match u with
  | .val d => (match getP ε1 S1 pl with
    | some (.nd .lst us) => (match d with | .int i => oGet (ixN us.length i) fun j => A.nx (setE ε1 pl (.nd .lst (us.set j t))) (setS S1 pl (.nd .lst (us.set j t))) | _ => False)
    | some (.nd (.dk ks) us) => oGet d.k1 fun k => ks.length < sizeLine ∧ A.nx (setE ε1 pl (putD ks us k t)) (setS S1 pl (putD ks us k t))
    | some (.nd (.dt ks) us) => oGet d.kt fun k => ks.length < sizeLine ∧ A.nx (setE ε1 pl (putE ks us k t)) (setS S1 pl (putE ks us k t))
    | _ => False)
  | _ => False
def sAppC (r : RP) (a : RC) : AS := fun A ε S => r ε S fun pl => match getP ε S pl with
  | some (.nd .lst us) => a ε S fun t => (match t with
    | .val d => us.length < sizeLine ∧ A.nx (setE ε pl (.nd .lst (us ++ [.val d]))) (setS S pl (.nd .lst (us ++ [.val d])))
    | _ => False)
  | _ => False
def sAppV (i : Nat) (x : RE) : AS := fun A ε S => match ε[i]? with
  | some (.nd .lst _) => x A.ex ε S fun t ε1 S1 => (match ε1[i]? with
    | some (.nd .lst us) => us.length < sizeLine ∧ A.nx (ε1.set i (.nd .lst (us ++ [t]))) S1
    | _ => False)
  | _ => False
def sExtC (r : RP) (a : RC) : AS := fun A ε S => r ε S fun pl => match getP ε S pl with
  | some (.nd .lst us) => a ε S fun t => (match t.ds with
    | some (.lst, ds) => us.length + ds.length ≤ sizeLine ∧ A.nx (setE ε pl (.nd .lst (us ++ ds.map .val))) (setS S pl (.nd .lst (us ++ ds.map .val)))
    | _ => False)
  | _ => False
def sExtV (i : Nat) (x : RE) : AS := fun A ε S => match ε[i]? with
  | some (.nd .lst _) => x A.ex ε S fun t ε1 S1 => (match t.ds with
    | some (.lst, ds) => (match ε1[i]? with
      | some (.nd .lst us) => us.length + ds.length ≤ sizeLine ∧ A.nx (ε1.set i (.nd .lst (us ++ ds.map .val))) S1
      | _ => False)
    | _ => False)
  | _ => False
def ePop (r : RP) (a : RC) : RE := fun _ ε S K' => r ε S fun pl => match getP ε S pl with
  | some (.nd .lst us) => a ε S fun u => (match u with
    | .val (.int i) => -(2 ^ 63) ≤ i ∧ i < 2 ^ 63 ∧ oGet (seqIndex? i us.length) fun k => oGet us[k]? fun t => K' t (setE ε pl (.nd .lst (us.eraseIdx k))) (setS S pl (.nd .lst (us.eraseIdx k)))
    | _ => False)
  | _ => False
def eDictK : RE := fun _ ε S K' => K' (.nd (.dk []) []) ε S
def eDictT : RE := fun _ ε S K' => K' (.nd (.dt []) []) ε S
section
variable {K : PySem.W.Frag} {N : Nm} {W : WX} {fx : Nat → Bool} {σ : L2.St} {H : Hp} {Q : VK} {Ds : Ends} {a b c : RC} {x y z : RE} {ra : RA} {rp : RP} {s t : AS} {i : Nat} {P : Nat → Option V}
theorem EndsRel.up {G G1 F : Hp} {A : AD} (e : EndsRel K N W G F P A Ds) (g : Gr F G G1) : EndsRel K N W G1 F P A Ds :=
  ⟨fun ε S G' σ H a b c d => e.nx ε S G' σ H a (g.trans b) c d, fun ε S G' σ H a b c d => e.bk ε S G' σ H a (g.trans b) c d, fun ε S G' σ H a b c d => e.ct ε S G' σ H a (g.trans b) c d,
   fun t v ε S G' σ H a b c d => e.rt t v ε S G' σ H a (g.trans b) c d, e.ex.up g⟩
theorem conc_seq (h : concS K N W fx (sSeq s t) Ds σ H) : tSeq (concS K N W fx s) (concS K N W fx t) Ds σ H := by
  obtain ⟨G, F, P, ε, S, A, r, fi, fn, q, e⟩ := h
  exact ⟨G, F, P, ε, S, { A with nx := t A }, r, fi, fn, q, fun ε' S' G' σ' H' a g r' f' => ⟨G', F, P, ε', S', A, r', f', fn, a, e.up g⟩, e.bk, e.ct, e.rt, e.ex⟩
theorem conc_next (h : concS K N W fx sNext Ds σ H) : tNext Ds σ H := by
  obtain ⟨G, F, P, ε, S, A, r, fi, fn, q, e⟩ := h
  exact e.nx _ _ _ _ _ q Gr.refl r fi
theorem conc_brk (h : concS K N W fx sBrk Ds σ H) : tBreak Ds σ H := by
  obtain ⟨G, F, P, ε, S, A, r, fi, fn, q, e⟩ := h
  exact e.bk _ _ _ _ _ q Gr.refl r fi
theorem conc_cont (h : concS K N W fx sCont Ds σ H) : tCont Ds σ H := by
  obtain ⟨G, F, P, ε, S, A, r, fi, fn, q, e⟩ := h
  exact e.ct _ _ _ _ _ q Gr.refl r fi
theorem Fix.set {v : Option V} (fi : Fix P σ) (fn : FixIn fx P) (hi : fx i = false) : Fix P (σ.set i v) := fun j w e => by
  have : j ≠ i := fun z => by
    subst z
    have := fn j (by rw [e]; exact fun z => nomatch z)
    rw [hi] at this
    cases this
  rw [List.getElem?_set_ne (Ne.symm this)]
  exact fi j w e
theorem conc_asg (hi : fx i = false) (h : concS K N W fx (sAsg i x) Ds σ H) : tAsg (concE K N W fx x) (gName i) Ds σ H := by
  obtain ⟨G, F, P, ε, S, A, r, fi, fn, q, e⟩ := h
  refine ⟨G, F, P, ε, S, A.ex, _, r, fi, fn, q, fun t v ε1 S1 G1 H1 q1 g1 r1 => ?_, e.ex⟩
  exact e.nx _ _ _ _ _ q1.2 g1 (Rel.assign r1 q1.1) (fi.set fn hi)
theorem conc_drop (h : concS K N W fx (sDrop x) Ds σ H) : tDrop (concE K N W fx x) Ds σ H := by
  obtain ⟨G, F, P, ε, S, A, r, fi, fn, q, e⟩ := h
  exact ⟨G, F, P, ε, S, A.ex, _, r, fi, fn, q, fun t v ε1 S1 G1 H1 q1 g1 r1 => e.nx _ _ _ _ _ q1 g1 r1.drop1 fi, e.ex⟩
theorem conc_ret (h : concS K N W fx (sRet x) Ds σ H) : tRet (concE K N W fx x) Ds σ H := by
  obtain ⟨G, F, P, ε, S, A, r, fi, fn, q, e⟩ := h
  exact ⟨G, F, P, ε, S, A.ex, _, r, fi, fn, q, fun t v ε1 S1 G1 H1 q1 g1 r1 => e.rt _ _ _ _ _ _ _ q1 g1 r1 fi, e.ex⟩
theorem conc_retN (h : concS K N W fx sRetN Ds σ H) : tRetN Ds σ H := by
  obtain ⟨G, F, P, ε, S, A, r, fi, fn, q, e⟩ := h
  exact e.rt _ _ _ _ _ _ _ q Gr.refl (r.have .non) fi
theorem conc_sif {cc : RBE} (h : concS K N W fx (sIf cc s t) Ds σ H) : tIfS (concBE K N W fx cc) (concS K N W fx s) (concS K N W fx t) Ds σ H := by
  obtain ⟨G, F, P, ε, S, A, r, fi, fn, q, e⟩ := h
  refine ⟨G, F, P, ε, S, A.ex, _, r, fi, fn, q, fun k ε1 S1 G1 H1 q1 g1 r1 => ?_, e.ex⟩
  cases k with
  | true => exact ⟨G1, F, P, ε1, S1, A, r1, fi, fn, q1, e.up g1⟩
  | false => exact ⟨G1, F, P, ε1, S1, A, r1, fi, fn, q1, e.up g1⟩
theorem slot_bw {G F : Hp} {ε : Env} {S : Sg} {t : T} {vs : List V} {us : List T} (r : RelT K N G F vs us ε S σ H) (e : ε[i]? = some t) (nu : t ≠ .unk) : ∃ v, σ[i]? = some (some v) ∧ Bw K N G H v t := by
  obtain ⟨⟨gh, fh, h0, rr, sh, df, dg⟩, l1, l2⟩ := r
  obtain ⟨hx, hr, rx, rq, dx, rfl⟩ := rr.split l2
  have sr := same_un_r dx sh
  obtain ⟨v, w, hu, rest, e1, ru, d, rfl, va, _⟩ := rq.focus (p := []) (u := t) (env_get e) rfl nu
  cases (va H sr)
  exact ⟨v, slot_get l1 (List.getElem?_eq_some_iff.mp e).1 e1, hu, ru, same_un_r d.symm sr⟩
theorem conc_augI {f : Int → Int → Int} (hi : fx i = false) (h : concS K N W fx (sAugI i f x) Ds σ H) : zAug i (concE K N W fx x) (ipI f) Ds σ H := by
  obtain ⟨G, F, P, ε, S, A, r, fi, fn, q, e⟩ := h
  unfold sAugI at q
  split at q
  · rename_i a ei
    obtain ⟨v, ev, bv⟩ := slot_bw r ei (fun z => nomatch z)
    cases bw_int bv
    unfold zAug
    rw [ev]
    refine ⟨G, F, P, ε, S, A.ex, _, r, fi, fn, q, fun t w ε1 S1 G1 H1 q1 g1 r1 => ?_, e.ex⟩
    have b1 := r1.bw
    split at q1
    · rename_i b
      cases bw_int b1
      refine ⟨a, b, rfl, rfl, ?_⟩
      exact e.nx _ _ _ _ _ q1.2 g1 (Rel.assign (r1.drop1.have (.int _)) q1.1) (fi.set fn hi)
    · exact q1.elim
  · exact q.elim
theorem conc_raise {C : Cl} (h : concS K N W fx (sRaise C ra) Ds σ H) : zRaise (N.at C) W (concA K N W fx ra) Ds σ H := by
  obtain ⟨G, F, P, ε, S, A, r, fi, fn, q, e⟩ := h
  refine ⟨G, F, P, ε, S, A.ex, _, r, fi, fn, q, fun ts vs ε1 S1 G1 H1 q1 g1 r1 => ?_, e.ex⟩
  have lv : vs.length = ts.length := r1.2.2
  have r1' : RelT K N G1 F (vs ++ []) (ts ++ []) ε1 S1 σ H1 := by rw [List.append_nil, List.append_nil]; exact r1
  exact ⟨by rw [lv]; exact q1.1, e.ex C [] ε1 S1 G1 σ H1 none q1.2 g1 (r1'.drop lv) fi rfl⟩

/-! a field is set -/
theorem putF_zip {f : String} {y : V} : ∀ {fs : List String} {vs : List V}, fs.length = vs.length →
    putF (Str.ofString f) y ((fs.map Str.ofString).zip vs) = match ixK fs f with | some j => (fs.map Str.ofString).zip (vs.set j y) | none => ((fs ++ [f]).map Str.ofString).zip (vs ++ [y])
  | [], [], _ => rfl
  | g :: fs, v :: vs, h => by
    have ih := putF_zip (f := f) (y := y) (fs := fs) (vs := vs) (by simpa using h)
    rw [List.map_cons, List.zip_cons_cons]
    unfold ixK
    by_cases c : g = f
    · rw [if_pos c]
      subst c
      exact pf_eq
    · rw [if_neg c]
      have hn : Str.ofString g ≠ Str.ofString f := fun z => c (ofString_inj.mp z)
      cases q : ixK fs f with
      | none => rw [q] at ih; exact pf_ne hn ih
      | some j => rw [q] at ih; exact pf_ne hn ih
theorem RepTs.set_new {G h hx : Hp} {vs : List V} {us : List T} {j : Nat} {y : V} {t : T} (r : RepTs K N G vs us h) (hj : j < us.length) (rt : RepT K N G y t hx) (d : Disj hx h) :
    ∃ h', RepTs K N G (vs.set j y) (us.set j t) h' ∧ (∀ b u, h' b = some u → un hx h b = some u) := by
  have gen : ∀ {vs : List V} {us : List T} {h : Hp} {j : Nat}, RepTs K N G vs us h → j < us.length → Disj hx h → ∃ h', RepTs K N G (vs.set j y) (us.set j t) h' ∧ (∀ b u, h' b = some u → un hx h b = some u) := by
    intro vs us h j r
    induction us generalizing vs h j with
    | nil => intro hj; exact absurd hj (Nat.not_lt_zero _)
    | cons u us ih =>
      intro hj d
      cases r with
      | @cons v _ vs _ h1 h2 r1 r2 d12 =>
        obtain ⟨d1, d2⟩ := disj_un'.mp d
        cases j with
        | zero => exact ⟨un hx h2, .cons rt r2 d2, fun b u q => by
            rcases un_cases q with q | ⟨z, q⟩
            · exact un_some q
            · rw [un_none z]
              rcases d12 b with w | w
              · exact (un_none w).trans q
              · rw [w] at q; cases q⟩
        | succ j =>
          obtain ⟨h', r', s'⟩ := ih r2 (by simpa using hj) d2
          refine ⟨un h1 h', .cons r1 r' (fun b => ?_), fun b u q => ?_⟩
          · cases q : h' b with
            | none => exact .inr rfl
            | some o =>
              left
              rcases un_cases (s' b o q) with w | ⟨_, w⟩
              · exact (d1 b).resolve_left (by rw [w]; exact fun z => nomatch z)
              · exact (d12 b).resolve_right (by rw [w]; exact fun z => nomatch z)
          · rcases un_cases q with q | ⟨z, q⟩
            · have : hx b = none := (d1 b).resolve_right (by rw [q]; exact fun z => nomatch z)
              rw [un_none this]; exact un_some q
            · rcases un_cases (s' b u q) with w | ⟨w1, w⟩
              · exact un_some w
              · rw [un_none w1, un_none z]; exact w
  exact gen r hj d
theorem RepTs.snoc {G h hx : Hp} {vs : List V} {us : List T} {y : V} {t : T} (r : RepTs K N G vs us h) (rt : RepT K N G y t hx) (d : Disj hx h) : RepTs K N G (vs ++ [y]) (us ++ [t]) (un h hx) := by
  have gen : ∀ {vs : List V} {us : List T} {h : Hp}, RepTs K N G vs us h → Disj hx h → RepTs K N G (vs ++ [y]) (us ++ [t]) (un h hx) := by
    intro vs us h r
    induction us generalizing vs h with
    | nil => intro d; cases r; exact repTs1 rt
    | cons u us ih =>
      intro d
      cases r with
      | cons r1 r2 d12 =>
        obtain ⟨d1, d2⟩ := disj_un'.mp d
        rw [un_assoc]
        exact .cons r1 (ih r2 d2) (disj_un'.mpr ⟨d12, d1.symm⟩)
  exact gen r d
theorem sub_snoc {h hx : Hp} (d : Disj hx h) : ∀ b u, un emp (un h hx) b = some u → un hx h b = some u := fun b u q => by rw [un_comm d]; exact q
theorem ins_put {G : Hp} {C : Cl} {fs : List String} {us : List T} {vs : List V} {f : String} {y : V} {t : T} {hc hx : Hp} {dx : Addr} (r : RepTs K N G vs us hc) (l : fs.length = vs.length) (rt : RepT K N G y t hx) (d : Disj hx hc) :
    ∃ s' us' vs' hc', putT C fs us f t = .nd s' us' ∧ s' ≠ .tup ∧ s'.is N vs' (.ins (N.at C) dx (putF (Str.ofString f) y ((fs.map Str.ofString).zip vs))) ∧ RepTs K N G vs' us' hc' ∧ ∀ b u, un emp hc' b = some u → un hx hc b = some u := by
  rw [putF_zip l]
  unfold putT
  cases q : ixK fs f with
  | some j =>
    have hj := ixK_lt q
    obtain ⟨h', r', s'⟩ := r.set_new (j := j) (by rw [← r.len]; omega) rt d
    exact ⟨_, _, _, h', rfl, (fun z => nomatch z), ⟨dx, rfl, by rw [List.length_set]; exact l⟩, r', s'⟩
  | none => exact ⟨_, _, _, _, rfl, (fun z => nomatch z), ⟨dx, rfl, by rw [List.length_append, List.length_append, l]; rfl⟩, r.snoc rt d, sub_snoc d⟩
theorem conc_setF {Cs : List Cl} {f : String} (h : concS K N W fx (sSetF Cs f rp x) Ds σ H) : zSetF (Cs.map N.at) (Str.ofString f) (concP K N rp) (concE K N W fx x) Ds σ H := by
  obtain ⟨G, F, P, ε, S, A, r, fi, fn, q, e⟩ := h
  refine ⟨G, F, P, ε, S, A.ex, _, r, fi, fn, q, fun t v ε1 S1 G1 H1 q1 g1 r1 => ?_, e.ex⟩
  obtain ⟨ht, rt, st, df, dg, rk⟩ := r1.park1
  refine ⟨G1, un F ht, ε1, S1, _, rk, q1, fun pl w G2 H2 q2 e2 va => ?_⟩
  split at q2
  · rename_i C fs us g
    obtain ⟨hC, l1000, q2⟩ := q2
    have r2 := RelT.unpark (vs := [v]) (us := [t]) (repTs1 rt) df dg (e2.gr rk.fh) (rk.ext e2)
    obtain ⟨a, vs, o, hc, hx, rfl, i1, n1, rc, rx, dx, sc, sx, ea, k⟩ := Rel.write r2 g va
    obtain ⟨dxa, rfl, l⟩ := i1
    obtain ⟨s', us', vs', hc', e', n', i', r', sub⟩ := ins_put (C := C) (f := f) (dx := dxa) rc l (repTs1' rx) dx
    rw [e'] at q2
    refine ⟨a, N.at C, dxa, _, rfl, List.mem_map_of_mem hC, ea, by rw [List.length_zip, List.length_map]; omega, ?_⟩
    exact e.nx _ _ _ _ _ q2 (g1.trans (e2.gr r1.fh)) (k s' us' vs' _ hc' [] [] emp i' n' r' .nil emp_disj sub) fi
  · exact q2.elim
theorem lookup_getK {G : Hp} {fs : List String} {us : List T} {vs : List V} {hc : Hp} {f : String} {t : T} (rc : RepTs K N G vs us hc) (sc : Same hc H) (l : fs.length = vs.length) (e : getK fs us f = some t) : ∃ w, ((fs.map Str.ofString).zip vs).lookup (Str.ofString f) = some w ∧ Bw K N G H w t := by
  unfold getK at e
  cases q : ixK fs f with
  | none => rw [q] at e; cases e
  | some j =>
    rw [q] at e
    obtain ⟨w, e1, b⟩ := rc.bw sc e
    refine ⟨w, ?_, b⟩
    rw [lookup_valV, valV_ix (by rw [List.length_map]; exact l), ixK_ofString, q]
    exact e1
theorem conc_augF {Cs : List Cl} {f : String} {gg : Int → Int → Int} {rd : V → V → Hp → VK → Prop} (hrd : ∀ i j H Q, Q (.int (gg i j)) H → rd (.int i) (.int j) H Q) (h : concS K N W fx (sAugF Cs f gg rp a) Ds σ H) :
    zAugF (Cs.map N.at) (Str.ofString f) rd (concP K N rp) (concC K N a) Ds σ H := by
  obtain ⟨G, F, P, ε, S, A, r, fi, fn, q, e⟩ := h
  refine ⟨G, F, ε, S, _, r, q, fun pl w G2 H2 q2 e2 va => ?_⟩
  split at q2
  · rename_i C fs us g
    obtain ⟨hC, l1000, q2⟩ := q2
    split at q2
    · rename_i i eg
      have r2 := r.ext e2
      obtain ⟨b, vs, o, hc, hx, rfl, i1, n1, rc, rx, dx, sc, sx, ea, k⟩ := Rel.write r2 g va
      obtain ⟨dxa, rfl, l⟩ := i1
      obtain ⟨w, el, bw⟩ := lookup_getK rc sc l eg
      cases bw_int bw
      refine ⟨b, N.at C, dxa, _, _, rfl, List.mem_map_of_mem hC, ea, el, ?_⟩
      refine ⟨G2, F, ε, S, _, r2, q2, fun t v G3 H3 q3 e3 b3 => ?_⟩
      split at q3
      · rename_i j
        cases bw_int b3
        refine hrd _ _ _ _ ?_
        have r3 := r2.ext e3
        obtain ⟨b', vs', o', hc', hx', eb, i1', n1', rc', rx', dx', sc', sx', ea', k'⟩ := Rel.write r3 g (va.same e3.hh)
        cases eb
        obtain ⟨dxa', rfl, l'⟩ := i1'
        obtain ⟨s2, us2, vs2, hc2, e2', n2', i2', r2', sub2⟩ := ins_put (C := C) (f := f) (y := .int (gg i j)) (t := .val (.int (gg i j))) (dx := dxa') rc' l' (.val (.int _)) emp_disj
        rw [e2'] at q3
        refine ⟨dxa', _, ea', by rw [List.length_zip, List.length_map]; omega, ?_⟩
        refine e.nx _ _ _ _ _ q3 ((e2.trans e3).gr r.fh) (k' s2 us2 vs2 _ hc2 [] [] emp i2' n2' r2' .nil emp_disj (fun b u q => ?_)) fi
        have := sub2 b u q
        cases rx'
        exact this
      · exact q3.elim
    · exact q2.elim
  · exact q2.elim
end
end Y
/-! Yj: a[i] = x, append, extend, pop, new dicts. -/
namespace Y
open PySem PySem.Spec PyProof.Rows L2 Z
section
variable {K : PySem.W.Frag} {N : Nm} {W : WX} {fx : Nat → Bool} {σ : L2.St} {H : Hp} {Q : VK} {Ds : Ends} {a b c : RC} {x y z : RE} {ra : RA} {rp : RP} {s t : AS} {i : Nat} {P : Nat → Option V}
theorem putK_zip {κ : Type} [DecidableEq κ] {k : κ} {y : V} : ∀ {ks : List κ} {vs : List V}, ks.Nodup → ks.length = vs.length →
    putK (ks.zip vs) k y = match ixK ks k with | some j => ks.zip (vs.set j y) | none => (ks ++ [k]).zip (vs ++ [y]) := by
  have mapn : ∀ {ks : List κ} {vs : List V}, k ∉ ks → ((ks.zip vs).map fun kv => if kv.1 = k then (kv.1, y) else kv) = ks.zip vs := by
    intro ks
    induction ks with
    | nil => intro vs _; rfl
    | cons k' ks ih =>
      intro vs h
      cases vs with
      | nil => rfl
      | cons v vs =>
        rw [List.zip_cons_cons, List.map_cons, ih (fun z => h (List.mem_cons_of_mem _ z)), if_neg (fun z => h (by rw [show k' = k from z]; exact List.mem_cons_self ..))]
  have anyn : ∀ {ks : List κ} {vs : List V}, ks.length = vs.length → ((ks.zip vs).any fun kv => decide (kv.1 = k)) = (ixK ks k).isSome := fun {ks vs} l => by
    rw [valV_any, valV_ix l]
    cases q : ixK ks k with
    | none => rfl
    | some j =>
      have := ixK_lt q
      rw [Option.bind_some, List.getElem?_eq_getElem (by omega)]; rfl
  intro ks vs nd l
  unfold putK
  rw [anyn l]
  cases q : ixK ks k with
  | none =>
    rw [if_neg (by decide)]
    have : ∀ {ks : List κ} {vs : List V}, ks.length = vs.length → ks.zip vs ++ [(k, y)] = (ks ++ [k]).zip (vs ++ [y]) := by
      intro ks
      induction ks with
      | nil => intro vs h; cases vs with
        | nil => rfl
        | cons _ _ => simp at h
      | cons k' ks ih => intro vs h; cases vs with
        | nil => simp at h
        | cons v vs => rw [List.zip_cons_cons, List.cons_append, ih (by simpa using h)]; rfl
    exact this l
  | some j =>
    rw [if_pos (show (some j).isSome = true from rfl)]
    have : ∀ {ks : List κ} {vs : List V} {j : Nat}, ks.Nodup → ks.length = vs.length → ixK ks k = some j → ((ks.zip vs).map fun kv => if kv.1 = k then (kv.1, y) else kv) = ks.zip (vs.set j y) := by
      intro ks
      induction ks with
      | nil => intro vs j _ _ h; cases h
      | cons k' ks ih =>
        intro vs j nd h q
        cases vs with
        | nil => simp at h
        | cons v vs =>
          unfold ixK at q
          rw [List.nodup_cons] at nd
          by_cases c : k' = k
          · rw [if_pos c] at q
            cases q
            rw [List.zip_cons_cons, List.map_cons, if_pos c, List.set_cons_zero, List.zip_cons_cons, mapn (by rw [← c]; exact nd.1)]
          · rw [if_neg c] at q
            cases q2 : ixK ks k with
            | none => rw [q2] at q; cases q
            | some i =>
              rw [q2] at q
              cases q
              rw [List.zip_cons_cons, List.map_cons, if_neg c, List.set_cons_succ, List.zip_cons_cons, ih nd.2 (by simpa using h) q2]
    exact this nd l q
theorem nodup_snoc {κ : Type} [DecidableEq κ] {k : κ} {ks : List κ} (nd : ks.Nodup) (h : ixK ks k = none) : (ks ++ [k]).Nodup := by
  rw [List.nodup_append]
  refine ⟨nd, List.nodup_cons.mpr ⟨(fun z => nomatch z), List.nodup_nil⟩, fun a ha b hb => ?_⟩
  have : b = k := by simpa using hb
  subst this
  exact fun z => ixK_none.mp h (z ▸ ha)
theorem dk_put {G : Hp} {ks : List Key} {us : List T} {vs : List V} {k : Key} {y : V} {t : T} {hc hx : Hp} (r : RepTs K N G vs us hc) (l : ks.length = vs.length) (nd : ks.Nodup) (rt : RepT K N G y t hx) (d : Disj hx hc) :
    ∃ s' us' vs' hc', putD ks us k t = .nd s' us' ∧ s' ≠ .tup ∧ s'.is N vs' (.dK (putK (ks.zip vs) k y)) ∧ RepTs K N G vs' us' hc' ∧ ∀ b u, un emp hc' b = some u → un hx hc b = some u := by
  rw [putK_zip nd l]
  unfold putD
  cases q : ixK ks k with
  | some j =>
    have hj := ixK_lt q
    obtain ⟨h', r', s'⟩ := r.set_new (j := j) (by rw [← r.len]; omega) rt d
    exact ⟨_, _, _, h', rfl, (fun z => nomatch z), ⟨rfl, by rw [List.length_set]; exact l, nd⟩, r', s'⟩
  | none => exact ⟨_, _, _, _, rfl, (fun z => nomatch z), ⟨rfl, by rw [List.length_append, List.length_append, l]; rfl, nodup_snoc nd q⟩, r.snoc rt d, sub_snoc d⟩
theorem dt_put {G : Hp} {ks : List (List Key)} {us : List T} {vs : List V} {k : List Key} {y : V} {t : T} {hc hx : Hp} (r : RepTs K N G vs us hc) (l : ks.length = vs.length) (nd : ks.Nodup) (rt : RepT K N G y t hx) (d : Disj hx hc) :
    ∃ s' us' vs' hc', putE ks us k t = .nd s' us' ∧ s' ≠ .tup ∧ s'.is N vs' (.dT (putK (ks.zip vs) k y)) ∧ RepTs K N G vs' us' hc' ∧ ∀ b u, un emp hc' b = some u → un hx hc b = some u := by
  rw [putK_zip nd l]
  unfold putE
  cases q : ixK ks k with
  | some j =>
    have hj := ixK_lt q
    obtain ⟨h', r', s'⟩ := r.set_new (j := j) (by rw [← r.len]; omega) rt d
    exact ⟨_, _, _, h', rfl, (fun z => nomatch z), ⟨rfl, by rw [List.length_set]; exact l, nd⟩, r', s'⟩
  | none => exact ⟨_, _, _, _, rfl, (fun z => nomatch z), ⟨rfl, by rw [List.length_append, List.length_append, l]; rfl, nodup_snoc nd q⟩, r.snoc rt d, sub_snoc d⟩
theorem conc_setI (h : concS K N W fx (sSetI rp a x) Ds σ H) : tAsg (concE K N W fx x) (gSub (concP K N rp) (concC K N a) zSet) Ds σ H := by
  obtain ⟨G, F, P, ε, S, A, r, fi, fn, q, e⟩ := h
  refine ⟨G, F, P, ε, S, A.ex, _, r, fi, fn, q, fun t v ε1 S1 G1 H1 q1 g1 r1 => ?_, e.ex⟩
  obtain ⟨ht, rt, st, df, dg, rk⟩ := r1.park1
  refine ⟨G1, un F ht, ε1, S1, _, rk, q1, fun pl w G2 H2 q2 e2 va => ?_⟩
  refine ⟨G2, un F ht, ε1, S1, _, rk.ext e2, q2, fun u y G3 H3 q3 e3 b3 => ?_⟩
  have e23 := e2.trans e3
  split at q3
  · rename_i d
    have r3 := RelT.unpark (vs := [v]) (us := [t]) (repTs1 rt) df dg (e23.gr rk.fh) (rk.ext e23)
    have va3 := va.same e3.hh
    have gr := g1.trans (e23.gr r1.fh)
    split at q3
    · rename_i us g
      split at q3
      · rename_i i0
        obtain ⟨j, ej, q3⟩ := oGet_elim q3
        cases bw_int b3
        obtain ⟨ad, vs, o, hc, hx, rfl, i1, n1, rc, rx, dx, sc, sx, ea, k⟩ := Rel.write r3 g va3
        have i1 : o = .lst vs := i1
        subst i1
        have hj : j < us.length := by
          unfold ixN at ej
          split at ej
          · split at ej
            · cases ej; omega
            · cases ej
          · split at ej
            · cases ej; omega
            · cases ej
        obtain ⟨h', r', s'⟩ := rc.set_new hj (repTs1' rx) dx
        refine .inl ⟨ad, vs, i0, j, rfl, rfl, ea, by rw [rc.len]; exact ej, ?_⟩
        exact e.nx _ _ _ _ _ q3 gr (k .lst _ _ _ h' [] [] emp rfl (fun z => nomatch z) r' .nil emp_disj s') fi
      · exact q3.elim
    · rename_i ks us g
      obtain ⟨kk, ek, l0, q3⟩ := oGet_elim q3
      obtain ⟨ad, vs, o, hc, hx, rfl, i1, n1, rc, rx, dx, sc, sx, ea, k⟩ := Rel.write r3 g va3
      obtain ⟨rfl, l, nd⟩ := i1
      obtain ⟨s', us', vs', hc', e', n', i', r', sub⟩ := dk_put (k := kk) rc l nd (repTs1' rx) dx
      rw [e'] at q3
      refine .inr ⟨ad, _, rfl, .inl ⟨_, kk, ea, rp_k1 b3.val ek, by rw [List.length_zip]; omega, rfl⟩, ?_⟩
      exact e.nx _ _ _ _ _ q3 gr (k s' us' vs' _ hc' [] [] emp i' n' r' .nil emp_disj sub) fi
    · rename_i ks us g
      obtain ⟨kk, ek, l0, q3⟩ := oGet_elim q3
      obtain ⟨ad, vs, o, hc, hx, rfl, i1, n1, rc, rx, dx, sc, sx, ea, k⟩ := Rel.write r3 g va3
      obtain ⟨rfl, l, nd⟩ := i1
      obtain ⟨b', e6, e7⟩ := rp_kt b3.val ek e3.gh
      obtain ⟨s', us', vs', hc', e', n', i', r', sub⟩ := dt_put (k := kk) rc l nd (repTs1' rx) dx
      rw [e'] at q3
      refine .inr ⟨ad, _, rfl, .inr ⟨_, kk, b', ea, e6, e7, by rw [List.length_zip]; omega, rfl⟩, ?_⟩
      exact e.nx _ _ _ _ _ q3 gr (k s' us' vs' _ hc' [] [] emp i' n' r' .nil emp_disj sub) fi
    · exact q3.elim
  · exact q3.elim

/-! ### methods of lists -/
theorem ty_list {v : V} {ad : Addr} {vs : List V} (e : v = .ref ad) (h : H ad = some (.lst vs)) : tyV K "list" v H := by
  subst e
  exact .inl ⟨rfl, _, .inl (.inl h)⟩
theorem place_lst {G F : Hp} {ε : Env} {S : Sg} {xs : List V} {txs : List T} {pl : Pl} {us : List T} {v : V} (r : RelT K N G F xs txs ε S σ H) (g : getP ε S pl = some (.nd .lst us)) (va : VAt H σ pl v) : tyV K "list" v H := by
  obtain ⟨ad, vs, o, hc, hx, rfl, i1, n1, rc, rx, dx, sc, sx, ea, k⟩ := Rel.write r g va
  have i1 : o = .lst vs := i1
  subst i1
  exact ty_list rfl ea
theorem conc_appC (h : concS K N W fx (sAppC rp a) Ds σ H) : tDrop (tBM K "list" rAppend (concP K N rp) (tCons (concC K N a) tNil)) Ds σ H := by
  obtain ⟨G, F, P, ε, S, A, r, fi, fn, q, e⟩ := h
  refine ⟨G, F, ε, S, _, r, q, fun pl w G2 H2 q2 e2 va => ?_⟩
  split at q2
  · rename_i us g
    refine ⟨place_lst (r.ext e2) g va, G2, F, ε, S, _, r.ext e2, q2, fun u y G3 H3 q3 e3 b3 => ?_⟩
    split at q3
    · rename_i d
      have r3 := ((r.ext e2).ext e3).have b3.val
      obtain ⟨ad, vs, o, hc, hx, rfl, i1, n1, rc, rx, dx, sc, sx, ea, k⟩ := Rel.write r3 g (va.same e3.hh)
      have i1 : o = .lst vs := i1
      subst i1
      refine ⟨ad, vs, y, rfl, rfl, ea, by rw [rc.len]; exact q3.1, ?_⟩
      exact e.nx _ _ _ _ _ q3.2 ((e2.trans e3).gr r.fh) (k .lst _ _ _ _ [] [] emp rfl (fun z => nomatch z) (rc.snoc (repTs1' rx) dx) .nil emp_disj (sub_snoc dx)) fi
    · exact q3.elim
  · exact q2.elim
theorem setE_slot {ε : Env} {t u : T} {i : Nat} (e : ε[i]? = some t) : setE ε ⟨.slot i, []⟩ u = ε.set i u := by
  show (match ε[i]? with | some c => ε.set i (setT u [] c) | none => ε) = _
  rw [e]; rfl
theorem getP_slot {ε : Env} {S : Sg} {t : T} {i : Nat} (e : ε[i]? = some t) : getP ε S ⟨.slot i, []⟩ = some t := by
  show (ε[i]?).bind (getT []) = _
  rw [e]; rfl
theorem conc_appV (h : concS K N W fx (sAppV i x) Ds σ H) : tDrop (tBM K "list" rAppend (zVar i) (tCons (concE K N W fx x) tNil)) Ds σ H := by
  obtain ⟨G, F, P, ε, S, A, r, fi, fn, q, e⟩ := h
  unfold sAppV at q
  split at q
  · rename_i us0 e0
    obtain ⟨v, ev, bv⟩ := slot_bw r e0 (fun z => nomatch z)
    unfold tDrop tBM zVar
    rw [ev]
    refine ⟨place_lst r (getP_slot e0) ⟨v, ev, rfl⟩, G, F, P, ε, S, A.ex, _, r, fi, fn, q, fun t w ε1 S1 G1 H1 q1 g1 r1 => ?_, e.ex⟩
    split at q1
    · rename_i us e1
      obtain ⟨ad, vs, o, hc, hx, rfl, i1, n1, rc, rx, dx, sc, sx, ea, k⟩ := Rel.write r1 (getP_slot e1) (v := v) ⟨v, ev, rfl⟩
      have i1 : o = .lst vs := i1
      subst i1
      refine ⟨ad, vs, w, rfl, rfl, ea, by rw [rc.len]; exact q1.1, ?_⟩
      have z := k .lst _ _ _ _ [] [] emp rfl (fun z => nomatch z) (rc.snoc (repTs1' rx) dx) .nil emp_disj (sub_snoc dx)
      rw [setE_slot e1] at z
      exact e.nx _ _ _ _ _ q1.2 g1 z fi
    · exact q1.elim
  · exact q.elim
theorem RepTs.app {G h k : Hp} {vs ws : List V} {us ts : List T} (r : RepTs K N G vs us h) (q : RepTs K N G ws ts k) (d : Disj h k) : RepTs K N G (vs ++ ws) (us ++ ts) (un h k) := by
  have gen : ∀ {vs : List V} {us : List T} {h : Hp}, RepTs K N G vs us h → Disj h k → RepTs K N G (vs ++ ws) (us ++ ts) (un h k) := by
    intro vs us h r
    induction us generalizing vs h with
    | nil => intro d; cases r; exact q
    | cons u us ih =>
      intro d
      cases r with
      | cons r1 r2 d12 =>
        obtain ⟨d1, d2⟩ := disj_un.mp d
        rw [un_assoc]
        exact .cons r1 (ih r2 d2) (disj_un'.mpr ⟨d12, d1⟩)
  exact gen r d
theorem conc_extC (h : concS K N W fx (sExtC rp a) Ds σ H) : tDrop (tBM K "list" rExtend (concP K N rp) (tCons (concC K N a) tNil)) Ds σ H := by
  obtain ⟨G, F, P, ε, S, A, r, fi, fn, q, e⟩ := h
  refine ⟨G, F, ε, S, _, r, q, fun pl w G2 H2 q2 e2 va => ?_⟩
  split at q2
  · rename_i us g
    refine ⟨place_lst (r.ext e2) g va, G2, F, ε, S, _, r.ext e2, q2, fun u y G3 H3 q3 e3 b3 => ?_⟩
    split at q3
    · rename_i ds eds
      have r3 := (r.ext e2).ext e3
      obtain ⟨bd, ws, rfl, hat, ra⟩ := bw_ds b3 eds e3.gh
      obtain ⟨ad, vs, o, hc, hx, rfl, i1, n1, rc, rx, dx, sc, sx, ea, k⟩ := Rel.write r3 g (va.same e3.hh)
      have i1 : o = .lst vs := i1
      subst i1
      cases rx
      refine ⟨ad, bd, vs, ws, rfl, rfl, ea, hat, by rw [rc.len, ra.len]; exact q3.1, ?_⟩
      exact e.nx _ _ _ _ _ q3.2 ((e2.trans e3).gr r.fh) (k .lst _ _ _ _ [] [] emp rfl (fun z => nomatch z) (rc.app (repTs_vals ra) disj_emp) .nil emp_disj (fun b u q => by rw [un_emp] at q; exact q)) fi
    · exact q3.elim
  · exact q2.elim
theorem conc_extV (h : concS K N W fx (sExtV i x) Ds σ H) : tDrop (tBM K "list" rExtend (zVar i) (tCons (concE K N W fx x) tNil)) Ds σ H := by
  obtain ⟨G, F, P, ε, S, A, r, fi, fn, q, e⟩ := h
  unfold sExtV at q
  split at q
  · rename_i us0 e0
    obtain ⟨v, ev, bv⟩ := slot_bw r e0 (fun z => nomatch z)
    unfold tDrop tBM zVar
    rw [ev]
    refine ⟨place_lst r (getP_slot e0) ⟨v, ev, rfl⟩, G, F, P, ε, S, A.ex, _, r, fi, fn, q, fun t w ε1 S1 G1 H1 q1 g1 r1 => ?_, e.ex⟩
    split at q1
    · rename_i ds eds
      split at q1
      · rename_i us e1
        obtain ⟨bd, ws, rfl, hat, ra⟩ := bw_ds r1.bw eds r1.gh
        obtain ⟨ad, vs, o, hc, hx, rfl, i1, n1, rc, rx, dx, sc, sx, ea, k⟩ := Rel.write r1.drop1 (getP_slot e1) (v := v) ⟨v, ev, rfl⟩
        have i1 : o = .lst vs := i1
        subst i1
        cases rx
        refine ⟨ad, bd, vs, ws, rfl, rfl, ea, hat, by rw [rc.len, ra.len]; exact q1.1, ?_⟩
        have z := k .lst _ _ _ _ [] [] emp rfl (fun z => nomatch z) (rc.app (repTs_vals ra) disj_emp) .nil emp_disj (fun b u q => by rw [un_emp] at q; exact q)
        rw [setE_slot e1] at z
        exact e.nx _ _ _ _ _ q1.2 g1 z fi
      · exact q1.elim
    · exact q1.elim
  · exact q.elim
theorem RepTs.erase : ∀ {G h : Hp} {vs : List V} {us : List T} {j : Nat} {t : T}, RepTs K N G vs us h → us[j]? = some t →
    ∃ v h1 h2, vs[j]? = some v ∧ RepT K N G v t h1 ∧ RepTs K N G (vs.eraseIdx j) (us.eraseIdx j) h2 ∧ Disj h1 h2 ∧ ∀ b u, un h1 h2 b = some u → h b = some u
  | _, _, _, _, _, _, .nil, e => by simp at e
  | _, _, _, _, 0, t, .cons (h1 := h1) (h2 := h2) r q d, e => by
    have e' := Option.some.inj (show some _ = some t from e)
    subst e'
    exact ⟨_, h1, h2, rfl, r, q, d, fun _ _ z => z⟩
  | _, _, _, _, j + 1, t, .cons (h1 := ha) (h2 := hb) r q d, e => by
    obtain ⟨v, h1, h2, e1, r1, q1, d1, s1⟩ := RepTs.erase (j := j) (t := t) q (by simpa using e)
    have sub : ∀ b u, un h1 h2 b = some u → hb b = some u := s1
    have nn : ∀ b, hb b = none → h1 b = none ∧ h2 b = none := fun b n => by
      rw [← un_eq_none]
      cases z : un h1 h2 b with
      | none => rfl
      | some u => rw [sub b u z] at n; cases n
    refine ⟨v, h1, un ha h2, by simpa using e1, r1, .cons r q1 (fun b => (d b).imp id fun n => (nn b n).2), disj_un'.mpr ⟨fun b => (d b).elim .inr (fun n => .inl (nn b n).1), d1⟩, fun b u z => ?_⟩
    rcases un_cases z with z | ⟨n, z⟩
    · have : ha b = none := (d b).resolve_right (by rw [sub b u (un_some z)]; exact fun z => nomatch z)
      rw [un_none this]; exact sub b u (un_some z)
    · rcases un_cases z with z | ⟨n2, z⟩
      · exact un_some z
      · rw [un_none n2]; exact sub b u ((un_none n).trans z)
theorem conc_pop (h : concE K N W fx (ePop rp a) σ H Q) : tBM K "list" rPopAt (concP K N rp) (tCons (concC K N a) tNil) σ H Q := by
  obtain ⟨G, F, P, ε, S, A, K', r, fi, fn, q, kk, e⟩ := h
  refine ⟨G, F, ε, S, _, r, q, fun pl w G2 H2 q2 e2 va => ?_⟩
  split at q2
  · rename_i us g
    refine ⟨place_lst (r.ext e2) g va, G2, F, ε, S, _, r.ext e2, q2, fun u y G3 H3 q3 e3 b3 => ?_⟩
    split at q3
    · rename_i i0
      cases bw_int b3
      obtain ⟨l1, l2, q3⟩ := q3
      obtain ⟨j, ej, q3⟩ := oGet_elim q3
      obtain ⟨t, et, q3⟩ := oGet_elim q3
      have r3 := (r.ext e2).ext e3
      obtain ⟨ad, vs, o, hc, hx, rfl, i1, n1, rc, rx, dx, sc, sx, ea, k⟩ := Rel.write r3 g (va.same e3.hh)
      have i1 : o = .lst vs := i1
      subst i1
      cases rx
      obtain ⟨v, h1, h2, ev, rv, rr, d12, sub⟩ := rc.erase et
      refine ⟨ad, vs, i0, j, v, rfl, rfl, ea, l1, l2, by rw [rc.len]; exact ej, ev, ?_⟩
      exact kk _ _ _ _ _ _ q3 ((e2.trans e3).gr r.fh) (k .lst _ _ _ h2 [v] [t] h1 rfl (fun z => nomatch z) rr (repTs1 rv) d12 sub)
    · exact q3.elim
  · exact q2.elim
theorem RelT.newD {G F : Hp} {ε : Env} {S : Sg} {vs : List V} {us : List T} {p : Addr} {s : Sh} {o : HO} (r : RelT K N G F vs us ε S σ H) (n : H p = none) (i : s.is N [] o) (hs : s ≠ .tup) : RelT K N G F (.ref p :: vs) (.nd s [] :: us) ε S σ (upd H p o) :=
  r.new (Ext.same r.gh (same_new n)) (.nd i hs .nil rfl) (fun b u e => by
    by_cases c : b = p
    · subst c; rw [upd_same] at e ⊢; exact e
    · rw [upd_ne c] at e; cases e) (fresh_upd n r.gh)
theorem conc_dictK (h : concE K N W fx eDictK σ H Q) : tDNewK σ H Q := by
  obtain ⟨G, F, P, ε, S, A, K', r, fi, fn, q, kk, e⟩ := h
  exact fun p n => kk _ _ _ _ _ _ q Gr.refl (RelT.newD r n ⟨rfl, rfl, List.nodup_nil⟩ (fun z => nomatch z))
theorem conc_dictT (h : concE K N W fx eDictT σ H Q) : tDNewT σ H Q := by
  obtain ⟨G, F, P, ε, S, A, K', r, fi, fn, q, kk, e⟩ := h
  exact fun p n => kk _ _ _ _ _ _ q Gr.refl (RelT.newD r n ⟨rfl, rfl, List.nodup_nil⟩ (fun z => nomatch z))
end
end Y
/-! Yk: loops, comprehensions. -/
namespace Y
open PySem PySem.Spec PyProof.Rows L2 Z

/-! ### targets -/
abbrev RG := D → Env → Sg → (Env → Sg → Prop) → Prop
abbrev RGs := List D → Env → Sg → (Env → Sg → Prop) → Prop
def gaName (i : Nat) : RG := fun d ε S k => i < ε.length ∧ k (ε.set i (.val d)) S
def gaNil : RGs := fun ds ε S k => ds = [] ∧ k ε S
def gaCons (g : RG) (gs : RGs) : RGs := fun ds ε S k => match ds with | d :: r => g d ε S fun ε1 S1 => gs r ε1 S1 k | [] => False
def gaTup (n : Nat) (gs : RGs) : RG := fun d ε S k => match d with | .nd .tup ds => ds.length = n ∧ gs ds ε S k | _ => False
/-- what a target does: only slots of ws are written -/
def GOk (K : PySem.W.Frag) (N : Nm) (fx : Nat → Bool) (ws : List Nat) (ga : RG) (g : TG) : Prop := ∀ G F P ε S σ H v d k Q, Rel K N G F ε S σ H → Fix P σ → FixIn fx P → Rp K N G v d → ga d ε S k →
  (∀ ε' S' σ', k ε' S' → Rel K N G F ε' S' σ' H → Fix P σ' → (∀ vs, (∀ i ∈ ws, i ∈ vs) → wipe σ' vs = wipe σ vs) → Q σ' H) → g v σ H Q
def GsOk (K : PySem.W.Frag) (N : Nm) (fx : Nat → Bool) (ws : List Nat) (ga : RGs) (g : TGs) : Prop := ∀ G F P ε S σ H v d k Q, Rel K N G F ε S σ H → Fix P σ → FixIn fx P → RpAll K N G v d → ga d ε S k →
  (∀ ε' S' σ', k ε' S' → Rel K N G F ε' S' σ' H → Fix P σ' → (∀ vs, (∀ i ∈ ws, i ∈ vs) → wipe σ' vs = wipe σ vs) → Q σ' H) → g v σ H Q
theorem wipe_set {i : Nat} {x : Option V} : ∀ {vs : List Nat} {σ : L2.St}, i ∈ vs → wipe (σ.set i x) vs = wipe σ vs := by
  have comm : ∀ {vs : List Nat} {σ : L2.St} {i : Nat} {x : Option V}, i ∉ vs → wipe (σ.set i x) vs = (wipe σ vs).set i x := by
    intro vs
    induction vs with
    | nil => intro σ i x _; rfl
    | cons v vs ih =>
      intro σ i x h
      unfold wipe
      rw [ih (fun z => h (List.mem_cons_of_mem _ z)), List.set_comm]
      exact fun z => h (by rw [z]; exact List.mem_cons_self ..)
  intro vs
  induction vs with
  | nil => intro σ h; exact nomatch h
  | cons v vs ih =>
    intro σ h
    unfold wipe
    by_cases c : i ∈ vs
    · rw [ih c]
    · have e : i = v := (List.mem_cons.mp h).resolve_right c
      subst e
      rw [comm c, List.set_set]
theorem wipe_idem : ∀ {vs : List Nat} {σ : L2.St}, wipe (wipe σ vs) vs = wipe σ vs := by
  have gen : ∀ {ws vs : List Nat} {σ : L2.St}, (∀ i ∈ ws, i ∈ vs) → wipe (wipe σ ws) vs = wipe σ vs := by
    intro ws
    induction ws with
    | nil => intro vs σ _; rfl
    | cons w ws ih =>
      intro vs σ h
      show wipe ((wipe σ ws).set w none) vs = _
      rw [wipe_set (h w (List.mem_cons_self ..)), ih fun i m => h i (List.mem_cons_of_mem _ m)]
  intro vs σ
  exact gen fun i m => m
section
variable {K : PySem.W.Frag} {N : Nm} {fx : Nat → Bool}
theorem g_name {i : Nat} (hi : fx i = false) : GOk K N fx [i] (gaName i) (gName i) := by
  intro G F P ε S σ H v d k Q r fi fn rp q o
  exact o _ _ _ q.2 (Rel.assign (r.have rp) q.1) (fi.set fn hi) fun vs h => wipe_set (h i (List.mem_cons_self ..))
theorem g_nil : GsOk K N fx [] gaNil gNil := by
  intro G F P ε S σ H v d k Q r fi fn rp q o
  obtain ⟨rfl, q⟩ := q
  cases rp
  exact ⟨rfl, o _ _ _ q r fi fun _ _ => rfl⟩
theorem g_cons {ws us : List Nat} {ga : RG} {g : TG} {gas : RGs} {gs : TGs} (h : GOk K N fx ws ga g) (hs : GsOk K N fx us gas gs) : GsOk K N fx (ws ++ us) (gaCons ga gas) (gCons g gs) := by
  intro G F P ε S σ H v d k Q r fi fn rp q o
  cases rp with
  | nil => exact q.elim
  | cons r1 r2 =>
    refine ⟨_, _, rfl, h G F P ε S σ H _ _ _ _ r fi fn r1 q fun ε1 S1 σ1 q1 rr1 f1 w1 => ?_⟩
    refine hs G F P ε1 S1 σ1 H _ _ _ _ rr1 f1 fn r2 q1 fun ε2 S2 σ2 q2 rr2 f2 w2 => o _ _ _ q2 rr2 f2 fun vs hv => ?_
    rw [w2 vs fun i m => hv i (List.mem_append.mpr (.inr m)), w1 vs fun i m => hv i (List.mem_append.mpr (.inl m))]
theorem g_tup {ws : List Nat} {n : Nat} {gas : RGs} {gs : TGs} (h : GsOk K N fx ws gas gs) : GOk K N fx ws (gaTup n gas) (gTup K n gs) := by
  intro G F P ε S σ H v d k Q r fi fn rp q o
  unfold gaTup at q
  split at q
  · obtain ⟨a, vs, rfl, hat, ra⟩ := rp_tupD rp r.gh
    exact ⟨a, vs, rfl, hat, ra.len.trans q.1, h G F P ε S σ H _ _ _ _ r fi fn ra q.2 o⟩
  · exact q.elim
end
/-- several names at once -/
def sAsgG (x : RE) (g : RG) : AS := fun A ε S => x A.ex ε S fun t ε1 S1 => t.fz = true ∧ g t.frz ε1 S1 A.nx
section
variable {K : PySem.W.Frag} {N : Nm} {W : WX} {fx : Nat → Bool} {σ : L2.St} {H : Hp} {Q : VK} {Ds : Ends} {x : RE}
theorem conc_asgG {ws : List Nat} {ga : RG} {g : TG} (hg : GOk K N fx ws ga g) (h : concS K N W fx (sAsgG x ga) Ds σ H) : tAsg (concE K N W fx x) g Ds σ H := by
  obtain ⟨G, F, P, ε, S, A, r, fi, fn, q, e⟩ := h
  refine ⟨G, F, P, ε, S, A.ex, _, r, fi, fn, q, fun t v ε1 S1 G1 H1 q1 g1 r1 => ?_, e.ex⟩
  obtain ⟨G2, g2, rp, rr⟩ := r1.1.freeze0 q1.1
  have r2 : Rel K N G2 F ε1 S1 σ H1 := ⟨rr, r1.2.1, rfl⟩
  exact hg G2 F P ε1 S1 σ H1 v _ _ _ r2 fi fn rp q1.2 fun ε' S' σ' k r3 f3 _ => e.nx _ _ _ _ _ k (g1.trans g2) r3 f3
end

/-! ### what is walked -/
abbrev RI := AX → Env → Sg → (List D → Env → Sg → Prop) → Prop
/-- an iterator that gives these things -/
def Walks (K : PySem.W.Frag) (N : Nm) (G : Hp) (J : It) (ds : List D) : Prop := ∀ G' H, Same G G' → SameR G' H →
  (∀ i, i < ds.length → J.go i H) ∧ J.stop ds.length H ∧ ∀ i x H', i < ds.length → J.yld i H x H' → ∃ G2 d, ds[i]? = some d ∧ Ext G' H G2 H' ∧ Rp K N G2 x d
section
variable (K : PySem.W.Frag) (N : Nm)
def concI (W : WX) (fx : Nat → Bool) (ri : RI) : TI := fun σ H R => ∃ G F P ε S A K', Rel K N G F ε S σ H ∧ Fix P σ ∧ FixIn fx P ∧ ri A ε S K' ∧
  (∀ ds ε' S' G' H' J, K' ds ε' S' → Gr F G G' → Rel K N G' F ε' S' σ H' → Walks K N G' J ds → R J H') ∧ XRel K N W G F P A
end
def iaRng1 (x : RE) : RI := fun A ε S K' => x A ε S fun t ε1 S1 => match t with
  | .val (.int j) => -(2 ^ 62) ≤ j ∧ j < 2 ^ 62 ∧ K' ((List.range j.toNat).map fun k => .int (k : Nat)) ε1 S1
  | _ => False
def iaRng2 (x y : RE) : RI := fun A ε S K' => x A ε S fun t ε1 S1 => y A ε1 S1 fun u ε2 S2 => match t with
  | .val (.int i) => (match u with
    | .val (.int j) => (-(2 ^ 62) ≤ i ∧ i < 2 ^ 62 ∧ -(2 ^ 62) ≤ j ∧ j < 2 ^ 62) ∧ K' ((List.range (j - i).toNat).map fun k => .int (i + (k : Nat))) ε2 S2
    | _ => False)
  | _ => False
/-- a list or a tuple, frozen -/
def iaSeq (x : RE) : RI := fun A ε S K' => x A ε S fun t ε1 S1 => t.fz = true ∧ match t.frz with
  | .nd .lst ds => K' ds ε1 S1
  | .nd .tup ds => K' ds ε1 S1
  | .nd .slst ds => K' ds ε1 S1
  | _ => False
def iaStr (x : RE) : RI := fun A ε S K' => x A ε S fun t ε1 S1 => match t with
  | .val (.str z) => K' (z.cps.toList.map fun c => .str ⟨#[c]⟩) ε1 S1
  | _ => False
def enumD : Nat → List D → List D
  | _, [] => []
  | n, d :: ds => .tup [.int (n : Nat), d] :: enumD (n + 1) ds
def iaEnum (x : RE) : RI := fun A ε S K' => x A ε S fun t ε1 S1 => t.fz = true ∧ match t.frz with
  | .nd .lst ds => K' (enumD 0 ds) ε1 S1
  | .nd .slst ds => K' (enumD 0 ds) ε1 S1
  | _ => False
theorem enumD_get : ∀ {ds : List D} {n i : Nat} {d : D}, ds[i]? = some d → (enumD n ds)[i]? = some (.tup [.int ((n + i : Nat) : Int), d])
  | [], _, _, _, h => by simp at h
  | e :: ds, n, 0, d, h => by
    have e' := Option.some.inj (show some e = some d from h)
    subst e'; rfl
  | e :: ds, n, i + 1, d, h => by
    have := enumD_get (n := n + 1) (i := i) (d := d) (ds := ds) (by simpa using h)
    show (enumD (n + 1) ds)[i]? = _
    rw [this]
    have : n + 1 + i = n + (i + 1) := by omega
    rw [this]
theorem enumD_len : ∀ {ds : List D} {n : Nat}, (enumD n ds).length = ds.length
  | [], _ => rfl
  | _ :: ds, n => congrArg (· + 1) (enumD_len (ds := ds) (n := n + 1))
section
variable {K : PySem.W.Frag} {N : Nm} {W : WX} {fx : Nat → Bool} {σ : L2.St} {H : Hp} {Q : VK} {Ds : Ends} {x y : RE} {R : It → Hp → Prop} {G : Hp}
theorem walks_rng {lo : Int} {n : Nat} {ds : List D} (e : ds = (List.range n).map fun k => .int (lo + (k : Nat))) : Walks K N G (Itr lo n) ds := by
  have l : ds.length = n := by rw [e, List.length_map, List.length_range]
  intro G' H s sr
  refine ⟨fun i hi => by rw [l] at hi; exact hi, Nat.le_of_eq l.symm, fun i x H' hi y => ?_⟩
  obtain ⟨rfl, rfl⟩ := y
  rw [l] at hi
  refine ⟨G', .int (lo + (i : Nat)), ?_, Ext.refl sr, .int _⟩
  rw [e, List.getElem?_map, List.getElem?_range hi]; rfl
theorem walks_lst {a : Addr} {vs : List V} {ds : List D} (ha : ∀ H, SameR G H → SqL K H a vs) (r : RpAll K N G vs ds) : Walks K N G (Itl K a) ds := by
  intro G' H s sr
  have w := walk_list (K := K) (a := a) (xs := vs)
  have q := ha H (SameR.pre s sr)
  have l := r.len
  refine ⟨fun i hi => w.goes i H (by omega) q, by rw [← l]; exact w.stops H q, fun i x H' hi y => ?_⟩
  obtain ⟨rfl, e⟩ := w.yields i H x H' (by omega) q y
  obtain ⟨v, e1, r1⟩ := rpAll_get r (List.getElem?_eq_getElem hi)
  rw [e1] at e
  cases e
  exact ⟨G', _, List.getElem?_eq_getElem hi, Ext.refl sr, r1.up s⟩
theorem walks_tup {a : Addr} {vs : List V} {ds : List D} (ha : ∀ H, SameR G H → SqT K H a vs) (r : RpAll K N G vs ds) : Walks K N G (Itt K a) ds := by
  intro G' H s sr
  have w := walk_tup (K := K) (a := a) (xs := vs)
  have q := ha H (SameR.pre s sr)
  have l := r.len
  refine ⟨fun i hi => w.goes i H (by omega) q, by rw [← l]; exact w.stops H q, fun i x H' hi y => ?_⟩
  obtain ⟨rfl, e⟩ := w.yields i H x H' (by omega) q y
  obtain ⟨v, e1, r1⟩ := rpAll_get r (List.getElem?_eq_getElem hi)
  rw [e1] at e
  cases e
  exact ⟨G', _, List.getElem?_eq_getElem hi, Ext.refl sr, r1.up s⟩
theorem walks_str {z : Str} : Walks K N G (Its z) (z.cps.toList.map fun c => .str ⟨#[c]⟩) := by
  intro G' H s sr
  have l : (z.cps.toList.map fun c => D.str ⟨#[c]⟩).length = z.cps.size := by rw [List.length_map, Array.length_toList]
  refine ⟨fun i hi => by rw [l] at hi; exact hi, Nat.le_of_eq l.symm, fun i x H' hi y => ?_⟩
  obtain ⟨rfl, c, e, rfl⟩ := y
  refine ⟨G', .str ⟨#[c]⟩, ?_, Ext.refl sr, .str _⟩
  rw [List.getElem?_map, Array.getElem?_toList, e]; rfl
theorem walks_enum {a : Addr} {vs : List V} {ds : List D} (ha : ∀ H, SameR G H → SqL K H a vs) (r : RpAll K N G vs ds) : Walks K N G (Ite K a) (enumD 0 ds) := by
  intro G' H s sr
  have w := walk_enum (K := K) (a := a) (xs := vs)
  have q := ha H (SameR.pre s sr)
  have l := r.len
  rw [enumD_len]
  refine ⟨fun i hi => w.goes i H (by omega) q, by rw [← l]; exact w.stops H q, fun i x H' hi y => ?_⟩
  obtain ⟨T, a1, b1, rfl, hT, rfl, e1, e2⟩ := w.yields i H x H' (by omega) q y
  cases e1
  obtain ⟨v, e3, r1⟩ := rpAll_get r (List.getElem?_eq_getElem hi)
  have e2 : vs[i]? = some b1 := e2
  rw [e3] at e2
  have eb := Option.some.inj e2
  subst eb
  have ex := ext_tup (vs := [V.int (i : Nat), v]) sr hT
  refine ⟨_, _, enumD_get (List.getElem?_eq_getElem hi), ex, .nd (.inl upd_same) ?_⟩
  rw [Nat.zero_add]
  exact .cons (.int _) (.cons ((r1.up s).up ex.gg) .nil)
theorem conc_rng1 (h : concI K N W fx (iaRng1 x) σ H R) : iRng1 (tCons (concE K N W fx x) tNil) σ H R := by
  obtain ⟨G, F, P, ε, S, A, K', r, fi, fn, q, k, z⟩ := h
  refine ⟨G, F, P, ε, S, A, _, r, fi, fn, q, fun t v ε1 S1 G1 H1 q1 g1 r1 => ?_, z⟩
  have b1 := r1.bw
  split at q1
  · rename_i j
    cases bw_int b1
    refine ⟨j, rfl, q1.1, q1.2.1, k _ _ _ _ _ _ q1.2.2 g1 r1.drop1 (walks_rng (lo := 0) ?_)⟩
    congr 1
    funext k
    rw [Int.zero_add]
  · exact q1.elim
theorem conc_rng2 (h : concI K N W fx (iaRng2 x y) σ H R) : iRng2 (tCons (concE K N W fx x) (tCons (concE K N W fx y) tNil)) σ H R := by
  obtain ⟨G, F, P, ε, S, A, K', r, fi, fn, q, k, z⟩ := h
  refine conc_two (R := fun v w H2 => ∃ i j : Int, [v, w] = [.int i, .int j] ∧ (-(2 ^ 62) ≤ i ∧ i < 2 ^ 62 ∧ -(2 ^ 62) ≤ j ∧ j < 2 ^ 62) ∧ R (Itr i (j - i).toNat) H2) r fi fn q z fun t u v w ε2 S2 G2 H2 q2 g2 r2 => ?_
  have b1 := r2.bw
  have b2 := r2.drop1.bw
  split at q2
  · split at q2
    · cases bw_int b1; cases bw_int b2
      exact ⟨_, _, rfl, q2.1, k _ _ _ _ _ _ q2.2 g2 r2.drop1.drop1 (walks_rng rfl)⟩
    · exact q2.elim
  · exact q2.elim
theorem rd_sqL {s : Sh} {a : Addr} {vs : List V} (hs : s = .lst ∨ s = .slst) (h : s.rd K N G a vs) : ∀ H, SameR G H → SqL K H a vs := fun H sr => by
  rcases hs with rfl | rfl
  · exact at_sqL (N := N) (Sh.rd_at sr h)
  · exact Sh.rd_at (N := N) sr h
/-- a list or a tuple: which one is seen when it is there -/
def iSeqB (K : PySem.W.Frag) (te : TE) : TI := fun σ H R => te σ H fun v H1 => ∃ a, v = .ref a ∧ (((∃ xs, SqL K H1 a xs) ∧ R (Itl K a) H1) ∨ ((∃ xs, SqT K H1 a xs) ∧ R (Itt K a) H1))
theorem pi_seqB {X : Cx} {tg l : Expr} {te : TE} (hl : PE X l te) : PI X tg l (iSeqB X.K te) := ⟨fun pins s σ H R I0 h0 => by
  have st := hl.run pins s σ H _ I0 h0
  refine thn st fun w s' ⟨y, Hy, Iy, ry, b, eb, hb⟩ => ?_
  subst eb
  cases ry
  have new : ∀ (o : Obj), ∀ c ∈ [s'.heap.objs.size], _ := fun o c hc => by
    have ec : c = s'.heap.objs.size := by simpa using hc
    exact ec
  rcases hb with ⟨⟨zs, hz⟩, hR⟩ | ⟨⟨zs, hz⟩, hR⟩
  · obtain ⟨its, _, isl, _⟩ := Iy.list hz
    refine wpAny_pyIter_list isl.isList ⟨_, [s'.heap.objs.size], _, _, Hy, rfl, Iy.kept (t' := s'.toks) (fun c u ec => Heap.get?_push_of_some _ ec), turn_list b _, ⟨_, Heap.get?_push_size _ rfl, rfl, rfl⟩, fun c hc => ?_, hR⟩
    rw [new default c hc]
    exact Iy.fpOk (Nat.le_refl _) (Iy.hok.fresh (Nat.le_refl _))
  · obtain ⟨its, _, ist, _⟩ := Iy.tuple hz
    refine wpAny_pyIter_tuple (show s'.heap.IsTuple b its.toArray from ist) ⟨_, [s'.heap.objs.size], _, _, Hy, rfl, Iy.kept (t' := s'.toks) (fun c u ec => Heap.get?_push_of_some _ ec), turn_tuple b _, ⟨_, Heap.get?_push_size _ rfl, rfl, rfl⟩, fun c hc => ?_, hR⟩
    rw [new default c hc]
    exact Iy.fpOk (Nat.le_refl _) (Iy.hok.fresh (Nat.le_refl _))⟩
theorem conc_seqI (h : concI K N W fx (iaSeq x) σ H R) : iSeqB K (concE K N W fx x) σ H R := by
  obtain ⟨G, F, P, ε, S, A, K', r, fi, fn, q, k, z⟩ := h
  refine ⟨G, F, P, ε, S, A, _, r, fi, fn, q, fun t v ε1 S1 G1 H1 q1 g1 r1 => ?_, z⟩
  obtain ⟨fz, q1⟩ := q1
  obtain ⟨G2, g2, rp, rr⟩ := r1.1.freeze0 fz
  have r2 : Rel K N G2 F ε1 S1 σ H1 := ⟨rr, r1.2.1, rfl⟩
  split at q1
  · rename_i ds e
    rw [e] at rp
    cases rp with
    | nd hr ra =>
      have hl := rd_sqL (.inl rfl) hr
      exact ⟨_, rfl, .inl ⟨⟨_, hl _ r2.gh⟩, k _ _ _ _ _ _ q1 (g1.trans g2) r2 (walks_lst hl ra)⟩⟩
  · rename_i ds e
    rw [e] at rp
    cases rp with
    | nd hr ra =>
      have hl : ∀ H, SameR G2 H → SqT K H _ _ := fun H sr => at_sqT (N := N) (Sh.rd_at sr hr)
      exact ⟨_, rfl, .inr ⟨⟨_, hl _ r2.gh⟩, k _ _ _ _ _ _ q1 (g1.trans g2) r2 (walks_tup hl ra)⟩⟩
  · rename_i ds e
    rw [e] at rp
    cases rp with
    | nd hr ra =>
      have hl := rd_sqL (.inr rfl) hr
      exact ⟨_, rfl, .inl ⟨⟨_, hl _ r2.gh⟩, k _ _ _ _ _ _ q1 (g1.trans g2) r2 (walks_lst hl ra)⟩⟩
  · exact q1.elim
end
end Y
/-! Yl: for, while, comprehensions. -/
namespace Y
open PySem PySem.Spec PyProof.Rows L2 Z

def aForL (g : RG) (b : AS) (A : AD) : List D → Env → Sg → Prop
  | [], ε, S => A.nx ε S
  | d :: ds, ε, S => g d ε S fun ε1 S1 => b { A with nx := aForL g b A ds, ct := aForL g b A ds, bk := A.nx } ε1 S1
/-- .. by a word for the turn -/
def aForI (g : RG) (b : AS) (A : AD) (ds : List D) (ε : Env) (S : Sg) : Prop := ∃ Pv : Nat → Env → Sg → Prop, Pv 0 ε S ∧
  (∀ i d ε S, ds[i]? = some d → Pv i ε S → g d ε S fun ε1 S1 => b { A with nx := Pv (i + 1), ct := Pv (i + 1), bk := A.nx } ε1 S1) ∧ ∀ ε S, Pv ds.length ε S → A.nx ε S
def sFor (ri : RI) (g : RG) (b : AS) : AS := fun A ε S => ri A.ex ε S fun ds ε1 S1 => aForI g b A ds ε1 S1
def sWhile (c : RBE) (b : AS) : AS := fun A ε S => ∃ Pv : Nat → Env → Sg → Prop, (∃ m, Pv m ε S) ∧ ∀ m ε S, Pv m ε S → c A.ex ε S fun k ε1 S1 =>
  if k = true then b { A with nx := fun ε' S' => ∃ m', m' < m ∧ Pv m' ε' S', ct := fun ε' S' => ∃ m', m' < m ∧ Pv m' ε' S', bk := A.nx } ε1 S1 else A.nx ε1 S1
/-- slots are wiped -/
def wipeE (ε : Env) : List Nat → Env
  | [] => ε
  | v :: vs => (wipeE ε vs).set v .unk
/-- .. and get back what they held -/
def keepV (o : Option T) : T := match o with
  | some (.val d) => .val d
  | _ => .unk
theorem keepV_v {d : D} : keepV (some (.val d)) = .val d := rfl
theorem keepV_u : keepV (some .unk) = .unk := rfl
theorem keepV_n {s : Sh} {ts : List T} : keepV (some (.nd s ts)) = .unk := rfl
theorem keepV_0 : keepV none = .unk := rfl
def backE (ε1 : Env) (ε : Env) : List Nat → Env
  | [] => ε
  | v :: vs => backE ε1 (ε.set v (keepV ε1[v]?)) vs
def noX : AX := fun _ _ _ _ => False
def aLcI (g : RG) (tt : RBE) (x : RE) (vs : List Nat) (k : List T → Env → Sg → Prop) (ds : List D) (ε : Env) (S : Sg) : Prop := ∃ Pv : Nat → List T → Env → Sg → Prop, Pv 0 [] ε S ∧
  (∀ i d acc ε S, ds[i]? = some d → Pv i acc ε S → g d ε S fun ε1 S1 => tt noX ε1 S1 fun b ε2 S2 => if b = true then x noX ε2 S2 fun t ε3 S3 => acc.length < sizeLine ∧ Pv (i + 1) (acc ++ [t]) (wipeE ε3 vs) S3 else Pv (i + 1) acc (wipeE ε2 vs) S2) ∧
  ∀ acc ε S, Pv ds.length acc ε S → k acc ε S
def eLc (ri : RI) (g : RG) (tt : RBE) (x : RE) (vs : List Nat) : RE := fun A ε S K' => ri A ε S fun ds ε1 S1 => aLcI g tt x vs (fun ts ε2 S2 => K' (.nd .lst ts) (backE ε1 ε2 vs) S2) ds (wipeE ε1 vs) S1
def bYes : RBE := fun _ ε S kb => kb true ε S
abbrev W0 : WX := fun _ _ _ _ => False
section
variable {K : PySem.W.Frag} {N : Nm} {W : WX} {fx : Nat → Bool} {σ : L2.St} {H : Hp} {Q : VK} {Ds : Ends} {x y : RE} {R : It → Hp → Prop} {G G' F : Hp} {ri : RI} {b : AS} {c : RBE} {P : Nat → Option V} {ε : Env} {S : Sg}
theorem conc_strI (h : concI K N W fx (iaStr x) σ H R) : iStr (concE K N W fx x) σ H R := by
  obtain ⟨G, F, P, ε, S, A, K', r, fi, fn, q, k, z⟩ := h
  refine ⟨G, F, P, ε, S, A, _, r, fi, fn, q, fun t v ε1 S1 G1 H1 q1 g1 r1 => ?_, z⟩
  have b1 := r1.bw
  split at q1
  · rename_i z
    cases bw_str b1
    exact ⟨z, rfl, k _ _ _ _ _ _ q1 g1 r1.drop1 walks_str⟩
  · exact q1.elim
theorem conc_enumI (h : concI K N W fx (iaEnum x) σ H R) : iEnum K (tCons (concE K N W fx x) tNil) σ H R := by
  obtain ⟨G, F, P, ε, S, A, K', r, fi, fn, q, k, z⟩ := h
  refine ⟨G, F, P, ε, S, A, _, r, fi, fn, q, fun t v ε1 S1 G1 H1 q1 g1 r1 => ?_, z⟩
  obtain ⟨fz, q1⟩ := q1
  obtain ⟨G2, g2, rp, rr⟩ := r1.1.freeze0 fz
  have r2 : Rel K N G2 F ε1 S1 σ H1 := ⟨rr, r1.2.1, rfl⟩
  split at q1
  · rename_i ds e
    rw [e] at rp
    cases rp with
    | nd hr ra =>
      have hl := rd_sqL (.inl rfl) hr
      exact ⟨_, _, rfl, hl _ r2.gh, k _ _ _ _ _ _ q1 (g1.trans g2) r2 (walks_enum hl ra)⟩
  · rename_i ds e
    rw [e] at rp
    cases rp with
    | nd hr ra =>
      have hl := rd_sqL (.inr rfl) hr
      exact ⟨_, _, rfl, hl _ r2.gh, k _ _ _ _ _ _ q1 (g1.trans g2) r2 (walks_enum hl ra)⟩
  · exact q1.elim
theorem conc_for {ws : List Nat} {ga : RG} {g : TG} (hg : GOk K N fx ws ga g) (h : concS K N W fx (sFor ri ga b) Ds σ H) : tFor (concI K N W fx ri) g (concS K N W fx b) Ds σ H := by
  obtain ⟨G, F, P, ε, S, A, r, fi, fn, q, e⟩ := h
  refine ⟨G, F, P, ε, S, A.ex, _, r, fi, fn, q, fun ds ε1 S1 G1 H1 J q1 g1 r1 wk => ?_, e.ex⟩
  obtain ⟨Pv, p0, hs, hd⟩ := q1
  refine ⟨fun i m σ' H' => m = ds.length - i ∧ i ≤ ds.length ∧ ∃ G' ε' S', Gr F G G' ∧ Same G1 G' ∧ Rel K N G' F ε' S' σ' H' ∧ Fix P σ' ∧ Pv i ε' S',
    ⟨_, rfl, Nat.zero_le _, G1, ε1, S1, g1, Same.refl _, r1, fi, p0⟩, ?_⟩
  rintro i m σ' H' ⟨rfl, hi, G2, ε2, S2, g2, s2, r2, f2, q2⟩
  obtain ⟨w1, w2, w3⟩ := wk G2 H' s2 r2.gh
  by_cases hlt : i < ds.length
  · right
    refine ⟨w1 i hlt, fun σ3 H3 => ∃ G' ε' S', Gr F G G' ∧ Same G1 G' ∧ Rel K N G' F ε' S' σ3 H3 ∧ Fix P σ3 ∧ Pv (i + 1) ε' S', fun σ3 H3 h3 => ⟨_, by omega, rfl, hlt, h3⟩, fun v H3 y => ?_⟩
    obtain ⟨G3, d, e1, ex, rp⟩ := w3 i v H3 hlt y
    rw [List.getElem?_eq_getElem hlt] at e1
    have e1 := Option.some.inj e1
    subst e1
    have r3 := r2.ext ex
    have g3 := g2.trans (ex.gr r2.fh)
    refine hg G3 F P ε2 S2 σ' H3 v _ _ _ r3 f2 fn rp (hs i _ ε2 S2 (List.getElem?_eq_getElem hlt) q2) fun ε4 S4 σ4 q4 r4 f4 _ => ?_
    refine ⟨G3, F, P, ε4, S4, _, r4, f4, fn, q4, ?_⟩
    have go : ∀ ε5 S5 G5 σ5 H5, Pv (i + 1) ε5 S5 → Gr F G3 G5 → Rel K N G5 F ε5 S5 σ5 H5 → Fix P σ5 → ∃ G' ε' S', Gr F G G' ∧ Same G1 G' ∧ Rel K N G' F ε' S' σ5 H5 ∧ Fix P σ5 ∧ Pv (i + 1) ε' S' :=
      fun ε5 S5 G5 σ5 H5 q5 g5 r5 f5 => ⟨G5, ε5, S5, g3.trans g5, s2.trans (ex.gg.trans g5.gg), r5, f5, q5⟩
    exact ⟨go, fun ε5 S5 G5 σ5 H5 q5 g5 r5 f5 => e.nx _ _ _ _ _ q5 (g3.trans g5) r5 f5, go, fun t v ε5 S5 G5 σ5 H5 q5 g5 r5 f5 => e.rt _ _ _ _ _ _ _ q5 (g3.trans g5) r5 f5, e.ex.up g3⟩
  · left
    have ei : i = ds.length := by omega
    subst ei
    exact ⟨w2, e.nx _ _ _ _ _ (hd _ _ q2) g2 r2 f2⟩
theorem conc_while (h : concS K N W fx (sWhile c b) Ds σ H) : tWhile (concBE K N W fx c) (concS K N W fx b) Ds σ H := by
  obtain ⟨G, F, P, ε, S, A, r, fi, fn, ⟨Pv, ⟨m0, p0⟩, hs⟩, e⟩ := h
  refine ⟨fun m σ' H' => ∃ G' ε' S', Gr F G G' ∧ Rel K N G' F ε' S' σ' H' ∧ Fix P σ' ∧ Pv m ε' S', ⟨m0, G, ε, S, Gr.refl, r, fi, p0⟩, ?_⟩
  rintro m σ' H' ⟨G1, ε1, S1, g1, r1, f1, p1⟩
  refine ⟨G1, F, P, ε1, S1, A.ex, _, r1, f1, fn, hs m ε1 S1 p1, fun k ε2 S2 G2 H2 q2 g2 r2 => ?_, e.ex.up g1⟩
  cases k with
  | false => exact e.nx _ _ _ _ _ q2 (g1.trans g2) r2 f1
  | true =>
    rw [if_pos rfl] at q2 ⊢
    refine ⟨fun σ3 H3 => ∃ m', m' < m ∧ ∃ G' ε' S', Gr F G G' ∧ Rel K N G' F ε' S' σ3 H3 ∧ Fix P σ3 ∧ Pv m' ε' S', fun σ3 H3 h3 => h3, G2, F, P, ε2, S2, _, r2, f1, fn, q2, ?_⟩
    have g12 := g1.trans g2
    have go : ∀ ε5 S5 G5 σ5 H5, (∃ m', m' < m ∧ Pv m' ε5 S5) → Gr F G2 G5 → Rel K N G5 F ε5 S5 σ5 H5 → Fix P σ5 → ∃ m', m' < m ∧ ∃ G' ε' S', Gr F G G' ∧ Rel K N G' F ε' S' σ5 H5 ∧ Fix P σ5 ∧ Pv m' ε' S' :=
      fun ε5 S5 G5 σ5 H5 ⟨m', l, q5⟩ g5 r5 f5 => ⟨m', l, G5, ε5, S5, g12.trans g5, r5, f5, q5⟩
    exact ⟨go, fun ε5 S5 G5 σ5 H5 q5 g5 r5 f5 => e.nx _ _ _ _ _ q5 (g12.trans g5) r5 f5, go, fun t v ε5 S5 G5 σ5 H5 q5 g5 r5 f5 => e.rt _ _ _ _ _ _ _ q5 (g12.trans g5) r5 f5, e.ex.up g12⟩

/-! ### wiping -/
theorem Rel.forget {v : Nat} (r : Rel K N G F ε S σ H) : Rel K N G F (ε.set v .unk) S (σ.set v none) H := by
  by_cases hv : v < ε.length
  · obtain ⟨⟨gh, fh, h0, rr, sh, df, dg⟩, l1, l2⟩ := r
    have rr : RepR K N G (σ ++ boxes S) (ε ++ S.map (·.2)) h0 := rr
    obtain ⟨ow, h1, rest, e1, r1, d1, rfl, _, k⟩ := rr.at (env_get (List.getElem?_eq_getElem hv))
    have z := k G (Same.refl _)
    rw [List.set_append_left _ _ hv, List.set_append_left _ _ (by omega)] at z
    exact ⟨⟨gh, fh, rest, z, same_un_l sh, (disj_un.mp df).1, (disj_un.mp dg).1⟩, by rw [List.length_set, List.length_set]; exact l1, rfl⟩
  · rw [List.set_eq_of_length_le (by omega), List.set_eq_of_length_le (by have := r.2.1; omega)]
    exact r
theorem Rel.wipe : ∀ {vs : List Nat}, Rel K N G F ε S σ H → Rel K N G F (wipeE ε vs) S (wipe σ vs) H
  | [], r => r
  | v :: vs, r => Rel.forget (Rel.wipe r)
theorem RelT.lift {ε' : Env} {σ' : L2.St} {xs : List V} {ts : List T} (f : ∀ F, Rel K N G F ε S σ H → Rel K N G F ε' S σ' H) (r : RelT K N G F xs ts ε S σ H) : RelT K N G F xs ts ε' S σ' H := by
  have r' : RelT K N G F (xs ++ []) (ts ++ []) ε S σ H := by rw [List.append_nil, List.append_nil]; exact r
  obtain ⟨h, rv, _, df, dg, _, rk⟩ := r'.park r.2.2
  have z := RelT.unpark rv df dg Gr.refl (f _ rk)
  rw [List.append_nil, List.append_nil] at z
  exact z
theorem RelT.wipe {vs : List Nat} {xs : List V} {ts : List T} (r : RelT K N G F xs ts ε S σ H) : RelT K N G F xs ts (wipeE ε vs) S (L2.wipe σ vs) H := r.lift fun _ r => Rel.wipe r
theorem wipe_len : ∀ {vs : List Nat} {σ : L2.St}, (L2.wipe σ vs).length = σ.length
  | [], _ => rfl
  | v :: vs, σ => by unfold L2.wipe; rw [List.length_set]; exact wipe_len
theorem wipe_off : ∀ {vs : List Nat} {σ : L2.St} {j : Nat}, j ∉ vs → (L2.wipe σ vs)[j]? = σ[j]?
  | [], _, _, _ => rfl
  | v :: vs, σ, j, h => by
    unfold L2.wipe
    rw [List.getElem?_set_ne (fun z => h (by rw [← z]; exact List.mem_cons_self ..))]
    exact wipe_off fun z => h (List.mem_cons_of_mem _ z)
theorem Fix.wipe {vs : List Nat} (fi : Fix P σ) (fn : FixIn fx P) (hv : ∀ i ∈ vs, fx i = false) : Fix P (L2.wipe σ vs) := fun i v e => by
  have : i ∉ vs := fun m => by
    have := fn i (by rw [e]; exact fun z => nomatch z)
    rw [hv i m] at this
    cases this
  rw [wipe_off this]
  exact fi i v e
/-- one slot gets back what it held -/
theorem Rel.reset {G1 : Hp} {ε1 : Env} {S1 : Sg} {τ : L2.St} {H1 : Hp} {v : Nat} (old : Rel K N G1 F ε1 S1 σ H1) (sg : Same G1 G) (l : τ.length = σ.length) : ∀ F', Rel K N G F' ε S τ H →
    Rel K N G F' (ε.set v (match ε1[v]? with | some (.val d) => .val d | _ => .unk)) S (match σ[v]? with | some o => τ.set v o | none => τ) H := fun F' r => by
  have lε : ε.length = σ.length := r.2.1.symm.trans l
  by_cases hv : v < σ.length
  · rw [List.getElem?_eq_getElem hv]
    have unk : Rel K N G F' (ε.set v .unk) S (τ.set v σ[v]) H := by
      cases q : σ[v] with
      | none => exact Rel.forget r
      | some w =>
        obtain ⟨⟨gh, fh, h0, rr, sh, df, dg⟩, l1, l2⟩ := r
        exact Rel.assign (v := w) (t := .unk) ⟨⟨gh, fh, un emp h0, .cons .unk rr emp_disj, sh, df, dg⟩, l1, rfl⟩ (by omega)
    split
    · rename_i d e
      obtain ⟨w, e1, b⟩ := slot_bw old e (fun z => nomatch z)
      rw [List.getElem?_eq_getElem hv] at e1
      have e1 := Option.some.inj e1
      show Rel K N G F' _ S (τ.set v σ[v]) H
      rw [e1]
      exact Rel.assign (r.have (b.val.up sg)) (by omega)
    · exact unk
  · have e0 : σ[v]? = none := List.getElem?_eq_none (by omega)
    rw [e0, List.set_eq_of_length_le (by omega)]
    exact r
theorem Rel.back {G1 : Hp} {ε1 : Env} {S1 : Sg} {H1 : Hp} (old : Rel K N G1 F ε1 S1 σ H1) (sg : Same G1 G) : ∀ {vs : List Nat} {ε : Env} {τ : L2.St} {xs : List V} {ts : List T}, RelT K N G F xs ts ε S τ H → τ.length = σ.length → (∀ j, j ∉ vs → τ[j]? = σ[j]?) → RelT K N G F xs ts (backE ε1 ε vs) S σ H
  | [], ε, τ, xs, ts, r, l, ag => by
    have : τ = σ := List.ext_getElem? fun j => ag j (fun z => nomatch z)
    rw [← this]; exact r
  | v :: vs, ε, τ, xs, ts, r, l, ag => by
    have r2 := r.lift (Rel.reset (v := v) old sg l)
    unfold backE
    refine Rel.back (vs := vs) old sg r2 ?_ fun j hj => ?_
    · split
      · rw [List.length_set]; exact l
      · exact l
    · by_cases c : j = v
      · subst c
        split
        · rename_i o e
          have : j < τ.length := by rw [l]; exact (List.getElem?_eq_some_iff.mp e).1
          rw [List.getElem?_set_self this, e]
        · rename_i e
          rw [e]
          exact List.getElem?_eq_none (by rw [l]; exact List.getElem?_eq_none_iff.mp e)
      · have : τ[j]? = σ[j]? := ag j fun z => (List.mem_cons.mp z).elim c hj
        split
        · rw [List.getElem?_set_ne (Ne.symm c)]; exact this
        · exact this
/-- one more thing for the list that is being made -/
theorem RelT.push {p : Addr} {v : V} {t : T} {ts us : List T} {xs : List V} (r : RelT K N G F (.ref p :: v :: xs) (.nd .lst ts :: t :: us) ε S σ H) :
    ∃ acc, H p = some (.lst acc) ∧ acc.length = ts.length ∧ RelT K N G F (.ref p :: xs) (.nd .lst (ts ++ [t]) :: us) ε S σ (upd H p (.lst (acc ++ [v]))) := by
  obtain ⟨⟨gh, fh, h0, rr, sh, df, dg⟩, l1, l2⟩ := r
  cases rr with
  | @cons _ _ _ _ h1 h2 r1 r2 d12 =>
    cases r1 with
    | @nd a s vs us' o hc i n rs na =>
      have i : o = .lst vs := i
      subst i
      cases r2 with
      | @cons _ _ _ _ h3 h4 r3 r4 d34 =>
        obtain ⟨np, d5⟩ := upd_disj d12
        have d5 := d5 na
        obtain ⟨n3, n4⟩ := un_eq_none.mp np
        obtain ⟨dc3, dc4⟩ := disj_un'.mp d5
        obtain ⟨df1, df2⟩ := disj_un.mp df
        obtain ⟨df3, df4⟩ := disj_un.mp df2
        obtain ⟨dg1, dg2⟩ := disj_un.mp dg
        obtain ⟨dg3, dg4⟩ := disj_un.mp dg2
        obtain ⟨nf, dfc⟩ := upd_disj df1
        obtain ⟨ng, dgc⟩ := upd_disj dg1
        have hp : H p = some (.lst vs) := sh p _ (un_some upd_same)
        have key : ∀ b u, b ≠ p → un (un hc h3) h4 b = some u → H b = some u := fun b u c e => by
          refine sh b u ?_
          rcases un_cases e with e | ⟨z, e⟩
          · rcases un_cases e with e | ⟨z2, e⟩
            · exact un_some ((upd_ne c).trans e)
            · rw [un_none ((upd_ne c).trans z2)]; exact un_some e
          · obtain ⟨z1, z2⟩ := un_eq_none.mp z
            rw [un_none ((upd_ne c).trans z1), un_none z2]; exact e
        refine ⟨vs, hp, rs.len, ⟨fun b u e => ?_, fun b u e => ?_, un (upd (un hc h3) p (.lst (vs ++ [v]))) h4, ?_, ?_, ?_, ?_⟩, l1, by simpa using l2⟩
        · rw [upd_ne (ne_of_none e ng)]; exact gh b u e
        · rw [upd_ne (ne_of_none e nf)]; exact fh b u e
        · exact .cons (.nd rfl (fun z => nomatch z) (rs.snoc r3 dc3.symm) (un_eq_none.mpr ⟨na, n3⟩)) r4 (disj_upd n4 (disj_un.mpr ⟨dc4, d34⟩))
        · rw [← upd_un]
          intro b u e
          by_cases c : b = p
          · subst c; rw [upd_same] at e ⊢; exact e
          · rw [upd_ne c] at e ⊢; exact key b u c e
        · rw [← upd_un]; exact disj_upd nf (disj_un.mpr ⟨disj_un.mpr ⟨dfc na, df3⟩, df4⟩)
        · rw [← upd_un]; exact disj_upd ng (disj_un.mpr ⟨disj_un.mpr ⟨dgc na, dg3⟩, dg4⟩)
theorem xrel0 : XRel K N W0 G F P noX := fun _ _ _ _ _ _ _ _ h => h.elim
theorem conc_lcT {ws vs : List Nat} {ga : RG} {g : TG} {tt : RBE} {tc : TT} (htt : ∀ σ H Q, concBE K N W0 fx tt σ H Q → tc σ H Q) (hg : GOk K N fx ws ga g) (hws : ∀ i ∈ ws, i ∈ vs) (hfx : ∀ i ∈ vs, fx i = false) (h : concE K N W fx (eLc ri ga tt x vs) σ H Q) :
    tLc (concI K N W fx ri) g tc (concE K N W0 fx x) vs σ H Q := by
  obtain ⟨G, F, P, ε, S, A, K', r, fi, fn, q, k, z⟩ := h
  refine ⟨G, F, P, ε, S, A, _, r, fi, fn, q, fun ds ε1 S1 G1 H1 J q1 g1 r1 wk => ?_, z⟩
  intro p np
  have fw := fi.wipe (vs := vs) fn hfx
  obtain ⟨Pv, p0, hs, hd⟩ := q1
  refine ⟨fun i m H' => m = ds.length - i ∧ i ≤ ds.length ∧ ∃ G' ε' S' ts, Gr F G G' ∧ Same G1 G' ∧ RelT K N G' F [.ref p] [.nd .lst ts] ε' S' (L2.wipe σ vs) H' ∧ Pv i ts ε' S',
    ⟨_, rfl, Nat.zero_le _, G1, _, S1, [], g1, Same.refl _, RelT.newD (o := .lst []) r1.wipe np rfl (fun z => nomatch z), p0⟩, ?_⟩
  rintro i m H' ⟨rfl, hi, G2, ε2, S2, ts, g2, s2, r2, q2⟩
  obtain ⟨w1, w2, w3⟩ := wk G2 H' s2 r2.gh
  by_cases hlt : i < ds.length
  · right
    refine ⟨w1 i hlt, fun H3 => ∃ G' ε' S' ts, Gr F G G' ∧ Same G1 G' ∧ RelT K N G' F [.ref p] [.nd .lst ts] ε' S' (L2.wipe σ vs) H3 ∧ Pv (i + 1) ts ε' S',
      fun H3 h3 => ⟨_, by omega, rfl, hlt, h3⟩, fun v H3 y => ?_⟩
    obtain ⟨G3, d, e1, ex, rp⟩ := w3 i v H3 hlt y
    rw [List.getElem?_eq_getElem hlt] at e1
    have e1 := Option.some.inj e1
    subst e1
    have r3 := r2.ext ex
    have g3 := g2.trans (ex.gr r2.fh)
    have s3 := s2.trans ex.gg
    obtain ⟨hD, rD, sD, dfD, dgD, rk⟩ := r3.park1
    refine hg G3 (un F hD) P ε2 S2 _ H3 v _ _ _ rk fw fn rp (hs i _ ts ε2 S2 (List.getElem?_eq_getElem hlt) q2) fun ε4 S4 σ4 q4 r4 f4 w4 => ?_
    have w4' : L2.wipe σ4 vs = L2.wipe σ vs := (w4 vs hws).trans wipe_idem
    refine ⟨w4', htt _ _ _ ⟨G3, un F hD, P, ε4, S4, noX, _, r4, f4, fn, q4, fun b ε5 S5 G5 H5 q5 g5 r5 => ?_, xrel0⟩⟩
    cases b with
    | true =>
      rw [if_pos rfl] at q5 ⊢
      refine ⟨G5, un F hD, P, ε5, S5, noX, _, r5, f4, fn, q5, fun t w ε6 S6 G6 H6 q6 g6 r6 => ?_, xrel0⟩
      have r7 := RelT.unpark (vs := [V.ref p]) (us := [T.nd .lst ts]) (repTs1 rD) dfD dgD (g5.trans g6) r6
      obtain ⟨acc, ea, el, r8⟩ := RelT.push r7
      refine ⟨acc, ea, by rw [el]; exact q6.1, G6, _, S6, _, (g3.trans g5.unF).trans g6.unF, s3.trans (g5.gg.trans g6.gg), ?_, q6.2⟩
      have r9 := r8.wipe (vs := vs)
      rw [w4'] at r9
      exact r9
    | false =>
      rw [if_neg (by decide)] at q5 ⊢
      have r7 := RelT.unpark (vs := [V.ref p]) (us := [T.nd .lst ts]) (repTs1 rD) dfD dgD g5 r5
      refine ⟨G5, _, S5, ts, g3.trans g5.unF, s3.trans g5.gg, ?_, q5⟩
      have r9 := r7.wipe (vs := vs)
      rw [w4'] at r9
      exact r9
  · left
    have ei : i = ds.length := by omega
    subst ei
    refine ⟨w2, k _ _ _ _ _ _ (hd _ _ _ q2) g2 (Rel.back r1 s2 r2 wipe_len fun j hj => wipe_off hj)⟩
theorem conc_lc {ws vs : List Nat} {ga : RG} {g : TG} {tt : RBE} (hg : GOk K N fx ws ga g) (hws : ∀ i ∈ ws, i ∈ vs) (hfx : ∀ i ∈ vs, fx i = false) (h : concE K N W fx (eLc ri ga tt x vs) σ H Q) :
    tLc (concI K N W fx ri) g (concBE K N W0 fx tt) (concE K N W0 fx x) vs σ H Q := conc_lcT (fun _ _ _ h => h) hg hws hfx h
theorem conc_yes {QB : Bool → Hp → Prop} (h : concBE K N W fx bYes σ H QB) : tYes σ H QB := by
  obtain ⟨G, F, P, ε, S, A, K', r, fi, fn, q, k, z⟩ := h
  exact k _ _ _ _ _ q Gr.refl r
theorem conc_lcY {ws vs : List Nat} {ga : RG} {g : TG} (hg : GOk K N fx ws ga g) (hws : ∀ i ∈ ws, i ∈ vs) (hfx : ∀ i ∈ vs, fx i = false) (h : concE K N W fx (eLc ri ga bYes x vs) σ H Q) :
    tLc (concI K N W fx ri) g tYes (concE K N W0 fx x) vs σ H Q := conc_lcT (fun _ _ _ h => conc_yes h) hg hws hfx h
end
end Y
/-! Ym: defs, what they promise; calls. -/
namespace Y
open PySem PySem.Spec PyProof.Rows L2 Z

abbrev KF := T → List T → Sg → Prop
abbrev XF := Cl → List (String × D) → List T → Sg → Prop
/-- what a def does: its things, the boxes, what is wanted -/
abbrev AFun := List T → Sg → KF → XF → Prop
def spOf (K : PySem.W.Frag) (N : Nm) (n : Nat) (aF : AFun) : Sp := fun vs H Q E => ∃ G F ts S K' KX, vs.length = n ∧ RelT K N G F vs ts [] S [] H ∧ aF ts S K' KX ∧
  (∀ t ts' S' v G' H', K' t ts' S' → Gr F G G' → RelT K N G' F (v :: vs) (t :: ts') [] S' [] H' → Q v H') ∧
  (∀ C p ts' S' d G' H', KX C p ts' S' → Gr F G G' → RelT K N G' F vs ts' [] S' [] H' → XPay K N G' H' d p → E (.ref (N.at C)) d H')
/-- what the parameters that are never stored to hold in the end -/
def outs (fx : Nat → Bool) : Nat → Nat → Env → List T
  | _, 0, _ => []
  | i, n + 1, [] => .unk :: outs fx (i + 1) n []
  | i, n + 1, t :: ε => (if fx i = true then t else .unk) :: outs fx (i + 1) n ε
/-- a def by its body: m further names -/
def mkFun (fx : Nat → Bool) (n m : Nat) (body : AS) : AFun := fun ts S K' KX => body
  { nx := fun ε S' => K' (.val .non) (outs fx 0 n ε) S', rt := fun t ε S' => K' t (outs fx 0 n ε) S', bk := fun _ _ => False, ct := fun _ _ => False, ex := fun C p ε S' => KX C p (outs fx 0 n ε) S' }
  (ts ++ List.replicate m .unk) S
section
variable {K : PySem.W.Frag} {N : Nm} {G G' F H H' : Hp} {ε : Env} {S S' : Sg} {σ : L2.St} {fx : Nat → Bool}
def Sub (h k : Hp) : Prop := ∀ b u, h b = some u → k b = some u
theorem RepR.dropP : ∀ {rs bs : List (Option V)} {ts us : List T} {h : Hp}, rs.length = ts.length → RepR K N G (rs ++ bs) (ts ++ us) h → ∃ h', RepR K N G bs us h' ∧ Sub h' h
  | [], bs, [], us, h, _, r => ⟨h, r, fun _ _ e => e⟩
  | o :: rs, bs, t :: ts, us, h, l, r => by
    cases r with
    | non r => exact RepR.dropP (by simpa using l) r
    | @cons v _ _ _ h1 h2 r1 r2 d =>
      obtain ⟨h', r', s'⟩ := RepR.dropP (by simpa using l) r2
      refine ⟨h', r', fun b u e => ?_⟩
      have := s' b u e
      rcases d b with z | z
      · exact (un_none z).trans this
      · rw [z] at this; cases this
/-- the parameters, out of all slots -/
theorem RepR.outs : ∀ {vs : List V} {i0 : Nat} {τ bs : List (Option V)} {ε us : List T} {h : Hp}, τ.length = ε.length → (∀ j v, vs[j]? = some v → fx (i0 + j) = true → τ[j]? = some (some v)) →
    RepR K N G (τ ++ bs) (ε ++ us) h → ∃ h', RepR K N G (vs.map some ++ bs) (Y.outs fx i0 vs.length ε ++ us) h' ∧ Sub h' h
  | [], i0, τ, bs, ε, us, h, l, _, r => RepR.dropP l r
  | v :: vs, i0, [], bs, [], us, h, l, hf, r => by
    obtain ⟨h', r', s'⟩ := RepR.outs (vs := vs) (i0 := i0 + 1) (τ := []) (ε := []) rfl (fun j w e q => by
      have := hf (j + 1) w (by simpa using e) (by rw [← q]; congr 1; omega)
      simp at this) r
    exact ⟨un emp h', .cons .unk r' emp_disj, s'⟩
  | v :: vs, i0, [], bs, _ :: _, us, h, l, _, r => by simp at l
  | v :: vs, i0, o :: τ, bs, [], us, h, l, _, r => by simp at l
  | v :: vs, i0, o :: τ, bs, t :: ε, us, h, l, hf, r => by
    have hf' : ∀ j w, vs[j]? = some w → fx (i0 + 1 + j) = true → τ[j]? = some (some w) := fun j w e q => by
      have := hf (j + 1) w (by simpa using e) (by rw [← q]; congr 1; omega)
      simpa using this
    have l' : τ.length = ε.length := by simpa using l
    show ∃ h', RepR K N G (some v :: (vs.map some ++ bs)) ((if fx i0 = true then t else .unk) :: (Y.outs fx (i0 + 1) vs.length ε ++ us)) h' ∧ Sub h' h
    by_cases q : fx i0 = true
    · rw [if_pos q]
      have e0 := hf 0 v rfl q
      have e0 : o = some v := Option.some.inj e0
      subst e0
      cases r with
      | @cons _ _ _ _ h1 h2 r1 r2 d =>
        obtain ⟨h', r', s'⟩ := RepR.outs l' hf' r2
        refine ⟨un h1 h', .cons r1 r' (fun b => ?_), fun b u e => ?_⟩
        · rcases d b with z | z
          · exact .inl z
          · right
            cases q2 : h' b with
            | none => rfl
            | some u => rw [s' b u q2] at z; cases z
        · rcases un_cases e with e | ⟨z, e⟩
          · exact un_some e
          · exact (un_none z).trans (s' b u e)
    · rw [if_neg q]
      have drop : ∃ h2, RepR K N G (τ ++ bs) (ε ++ us) h2 ∧ Sub h2 h := by
        cases r with
        | non r => exact ⟨h, r, fun _ _ e => e⟩
        | @cons _ _ _ _ h1 h2 r1 r2 d =>
          refine ⟨h2, r2, fun b u e => ?_⟩
          rcases d b with z | z
          · exact (un_none z).trans e
          · rw [z] at e; cases e
      obtain ⟨h2, r2, s2⟩ := drop
      obtain ⟨h', r', s'⟩ := RepR.outs l' hf' r2
      exact ⟨un emp h', .cons .unk r' emp_disj, fun b u e => s2 b u (s' b u e)⟩
theorem outs_len : ∀ {n i0 : Nat} {ε : Env}, (outs fx i0 n ε).length = n
  | 0, _, _ => rfl
  | n + 1, _, [] => congrArg (· + 1) outs_len
  | n + 1, _, _ :: _ => congrArg (· + 1) outs_len
theorem RelR.sub {rs rs' : List (Option V)} {ts ts' : List T} (r : RelR K N G F rs ts H) (f : ∀ h, RepR K N G rs ts h → ∃ h', RepR K N G rs' ts' h' ∧ Sub h' h) : RelR K N G F rs' ts' H := by
  obtain ⟨gh, fh, h, rr, sh, df, dg⟩ := r
  obtain ⟨h', rr', s⟩ := f h rr
  have nn : ∀ {X : Hp}, Disj h X → Disj h' X := fun {X} d b => by
    cases q : h' b with
    | none => exact .inl rfl
    | some u => exact .inr ((d b).resolve_left (by rw [s b u q]; exact fun z => nomatch z))
  exact ⟨gh, fh, h', rr', fun b u e => sh b u (s b u e), nn df, nn dg⟩
theorem start_rel {vs : List V} {ts : List T} {m : Nat} {Ns : List Str} (hm : Ns.length = vs.length + m) (r : RelT K N G F vs ts [] S [] H) : Rel K N G F (ts ++ List.replicate m .unk) S (L2.start Ns vs) H := by
  obtain ⟨rr, l1, l2⟩ := r
  have e : Ns.length - vs.length = m := by omega
  unfold L2.start
  rw [e]
  refine ⟨rr.sub fun h q => ?_, by rw [List.length_append, List.length_append, List.length_map, List.length_replicate, List.length_replicate, l2], rfl⟩
  obtain ⟨hx, hr, rx, rq, dx, rfl⟩ := q.split l2
  refine ⟨un hx hr, ?_, fun _ _ e => e⟩
  show RepR K N G (vs.map some ++ List.replicate m none ++ boxes S) (ts ++ List.replicate m .unk ++ S.map (·.2)) _
  rw [List.append_assoc, List.append_assoc]
  refine RepR.join rx ?_ dx
  have gen : ∀ m, RepR K N G (List.replicate m none ++ boxes S) (List.replicate m T.unk ++ S.map (·.2)) hr := by
    intro m
    induction m with
    | zero => exact rq
    | succ m ih => rw [List.replicate_succ, List.replicate_succ]; exact .non ih
  exact gen m
/-- a def's body keeps its promise -/
theorem pure_of {n m : Nat} {Ns : List Str} {body : AS} {vs : List V} {Q : VK} {E : XK} (hm : Ns.length = n + m) (hfx : ∀ i, fx i = true → i < n) (h : spOf K N n (mkFun fx n m body) vs H Q E) :
    concS K N (WD E) fx body ⟨fun _ H' => Q .non H', Q, fun _ _ => False, fun _ _ => False⟩ (L2.start Ns vs) H := by
  obtain ⟨G, F, ts, S, K', KX, hn, r, q, k, kx⟩ := h
  subst hn
  have pe : ∀ i, fx i = true → (fun i => if fx i = true then vs[i]? else none) i = vs[i]? := fun i c => if_pos c
  have pn : ∀ i, ¬ fx i = true → (fun i => if fx i = true then vs[i]? else none) i = none := fun i c => if_neg c
  refine ⟨G, F, fun i => if fx i = true then vs[i]? else none, _, S, _, start_rel hm r, fun i v e => ?_, fun i e => ?_, q, ?_⟩
  · by_cases c : fx i = true
    · rw [pe i c] at e
      unfold L2.start
      rw [List.getElem?_append_left (by rw [List.length_map]; exact (List.getElem?_eq_some_iff.mp e).1), List.getElem?_map, e]; rfl
    · rw [pn i c] at e; cases e
  · by_cases c : fx i = true
    · exact c
    · exact (e (pn i c)).elim
  · have pf : ∀ {ε' : Env} {S' : Sg} {G' : Hp} {σ' : L2.St} {H' : Hp} {xs : List V} {us : List T}, RelT K N G' F xs us ε' S' σ' H' → Fix (fun i => if fx i = true then vs[i]? else none) σ' →
        RelT K N G' F (xs ++ vs) (us ++ outs fx 0 vs.length ε') [] S' [] H' := fun {ε' S' G' σ' H' xs us} r' fi => by
      obtain ⟨rr, l1, l2⟩ := r'
      refine ⟨rr.sub fun h q => ?_, rfl, by rw [List.length_append, List.length_append, outs_len, l2]⟩
      obtain ⟨hx, hr, rx, rq, dx, rfl⟩ := q.split l2
      obtain ⟨h', r', s'⟩ := RepR.outs (fx := fx) (i0 := 0) (vs := vs) l1 (fun j v e c => fi j v (by rw [Nat.zero_add] at c; rw [pe j c]; exact e)) rq
      refine ⟨un hx h', ?_, fun b u e => ?_⟩
      · show RepR K N G' ((xs ++ vs).map some ++ boxes S') ((us ++ outs fx 0 vs.length ε') ++ S'.map (·.2)) _
        rw [List.map_append, List.append_assoc, List.append_assoc]
        exact RepR.join rx r' (fun b => (dx b).imp id fun z => by
          cases q2 : h' b with
          | none => rfl
          | some u => rw [s' b u q2] at z; cases z)
      · rcases un_cases e with e | ⟨z, e⟩
        · exact un_some e
        · exact (un_none z).trans (s' b u e)
    exact ⟨fun ε' S' G' σ' H' a g r' f => k _ _ _ _ _ _ a g (pf (r'.have .non) f), fun _ _ _ _ _ a _ _ _ => a, fun _ _ _ _ _ a _ _ _ => a,
      fun t v ε' S' G' σ' H' a g r' f => k _ _ _ _ _ _ a g (pf r' f), fun C p ε' S' G' σ' H' d a g r' f y => kx _ _ _ _ _ _ _ a g (pf r' f) y⟩
theorem len_of {n : Nat} {aF : AFun} {vs : List V} {Q : VK} {E : XK} (h : spOf K N n aF vs H Q E) : vs.length = n := by
  obtain ⟨_, _, _, _, _, _, e, _⟩ := h
  exact e
end
end Y
/-! Yn: calls. -/
namespace Y
open PySem PySem.Spec PyProof.Rows L2 Z

abbrev Arg := T × Option Nat
abbrev RAr := AX → Env → Sg → (List Arg → Env → Sg → Prop) → Prop
def arNil : RAr := fun _ ε S k => k [] ε S
def arOwn (x : RE) (r : RAr) : RAr := fun A ε S k => x A ε S fun t ε1 S1 => r A ε1 S1 fun as ε2 S2 => k ((t, none) :: as) ε2 S2
def arVar (i : Nat) (r : RAr) : RAr := fun A ε S k => match ε[i]? with
  | some t => t ≠ .unk ∧ r A ε S fun as ε2 S2 => k ((.unk, some i) :: as) ε2 S2
  | none => False
def callV (aF : AFun) : List Arg → List T → Env → Sg → (T → List T → Env → Sg → Prop) → (Cl → List (String × D) → List T → Env → Sg → Prop) → Prop
  | [], acc, ε, S, k, kx => aF acc S (fun t ts' S' => k t ts' ε S') (fun C p ts' S' => kx C p ts' ε S')
  | (t, none) :: r, acc, ε, S, k, kx => callV aF r (acc ++ [t]) ε S k kx
  | (_, some i) :: r, acc, ε, S, k, kx => match ε[i]? with
    | some (.val d) => callV aF r (acc ++ [.val d]) ε S k kx
    | some (.nd s us) => callV aF r (acc ++ [.nd s us]) (ε.set i .unk) S (fun t ts' ε' S' => i < ε'.length ∧ oGet ts'[acc.length]? fun u => k t (ts'.set acc.length .unk) (ε'.set i u) S') (fun C p ts' ε' S' => i < ε'.length ∧ oGet ts'[acc.length]? fun u => kx C p (ts'.set acc.length .unk) (ε'.set i u) S')
    | _ => False
def aCall (n : Nat) (aF : AFun) (r : RAr) : RE := fun A ε S K' => r A ε S fun as ε1 S1 => as.length = n ∧ callV aF as [] ε1 S1 (fun t _ ε2 S2 => K' t ε2 S2) (fun C p _ ε2 S2 => A C p ε2 S2)
section
variable {K : PySem.W.Frag} {N : Nm} {G G' F H H' : Hp} {ε : Env} {S S' : Sg} {σ : L2.St} {fx : Nat → Bool} {W : WX} {Q : VK} {x : RE} {P : Nat → Option V}
/-- something goes from one root to another of the same value -/
theorem RepR.move {rs : List (Option V)} {ts : List T} {h : Hp} {i j : Nat} {t : T} {w : V} (r : RepR K N G rs ts h) (hj : ts[j]? = some t) (nu : t ≠ .unk) (ej : rs[j]? = some (some w)) (ei : rs[i]? = some (some w)) (ne : i ≠ j) (hi : i < ts.length) :
    ∃ h', RepR K N G rs ((ts.set j .unk).set i t) h' ∧ Sub h' h := by
  obtain ⟨ow, h1, rest, e1, r1, d1, rfl, k, _⟩ := r.at hj
  obtain ⟨w1, rfl, r1b⟩ := r1 nu
  rw [ej] at e1
  cases e1
  have z := k G .unk w emp (Same.refl _) .unk emp_disj
  rw [set_self ej, un_emp] at z
  have hi2 : (ts.set j .unk)[i]? = some ts[i] := by rw [List.getElem?_set_ne (Ne.symm ne)]; exact List.getElem?_eq_getElem hi
  obtain ⟨ow2, h2, rest2, e2, r2, d2, rfl, k2, _⟩ := z.at hi2
  obtain ⟨dd1, dd2⟩ := disj_un'.mp d1
  have z2 := k2 G t w h1 (Same.refl _) r1b dd1
  rw [set_self ei] at z2
  refine ⟨_, z2, fun b u e => ?_⟩
  rcases un_cases e with e | ⟨n, e⟩
  · exact un_some (un_some e)
  · have : h2 b = none := (dd2 b).resolve_left (by rw [e]; exact fun z => nomatch z)
    rw [un_none (un_eq_none.mpr ⟨n, this⟩)]; exact e
theorem app_mid {α : Type} {xs ys : List α} {j : Nat} {x : α} (h : j < xs.length) : (xs ++ ys).set j x = xs.set j x ++ ys := List.set_append_left _ _ h
theorem RelT.mvIn {vs : List V} {us : List T} {i j : Nat} {t : T} {w : V} (r : RelT K N G F vs us ε S σ H) (ej : vs[j]? = some w) (ei : σ[i]? = some (some w)) (e : ε[i]? = some t) (nu : t ≠ .unk) : RelT K N G F vs (us.set j t) (ε.set i .unk) S σ H := by
  obtain ⟨rr, l1, l2⟩ := r
  have hj : j < us.length := by rw [← l2]; exact (List.getElem?_eq_some_iff.mp ej).1
  have hi : i < ε.length := (List.getElem?_eq_some_iff.mp e).1
  have lm : (vs.map some).length = us.length := by rw [List.length_map]; exact l2
  refine ⟨rr.sub fun h q => ?_, by rw [List.length_set]; exact l1, by rw [List.length_set]; exact l2⟩
  have o1 : us.length + i - us.length = i := by omega
  have g1 : (us ++ (ε ++ S.map (·.2)))[us.length + i]? = some t := by
    rw [List.getElem?_append_right (by omega), o1]
    exact env_get e
  have g2 : (vs.map some ++ (σ ++ boxes S))[us.length + i]? = some (some w) := by
    rw [List.getElem?_append_right (by omega), lm, o1, List.getElem?_append_left (by omega)]
    exact ei
  have g3 : (vs.map some ++ (σ ++ boxes S))[j]? = some (some w) := by
    rw [List.getElem?_append_left (by omega), List.getElem?_map, ej]; rfl
  have z := q.move (i := j) (j := us.length + i) (t := t) (w := w) g1 nu g2 g3 (by omega) (by rw [List.length_append]; omega)
  obtain ⟨h', r', s'⟩ := z
  refine ⟨h', ?_, s'⟩
  have e1 : (us ++ (ε ++ S.map (·.2))).set (us.length + i) .unk = us ++ (ε.set i .unk ++ S.map (·.2)) := by
    rw [List.set_append_right _ _ (by omega)]
    have : us.length + i - us.length = i := by omega
    rw [this, List.set_append_left _ _ hi]
  rw [e1, List.set_append_left _ _ hj] at r'
  exact r'
theorem RelT.mvOut {vs : List V} {us : List T} {i j : Nat} {t : T} {w : V} (r : RelT K N G F vs us ε S σ H) (ej : vs[j]? = some w) (ei : σ[i]? = some (some w)) (e : us[j]? = some t) (hi : i < ε.length) : RelT K N G F vs (us.set j .unk) (ε.set i t) S σ H := by
  obtain ⟨rr, l1, l2⟩ := r
  have hj : j < us.length := (List.getElem?_eq_some_iff.mp e).1
  have lm : (vs.map some).length = us.length := by rw [List.length_map]; exact l2
  have rj : (vs.map some ++ (σ ++ boxes S))[j]? = some (some w) := by rw [List.getElem?_append_left (by omega), List.getElem?_map, ej]; rfl
  have ri : (vs.map some ++ (σ ++ boxes S))[us.length + i]? = some (some w) := by
    rw [List.getElem?_append_right (by omega), lm]
    have : us.length + i - us.length = i := by omega
    rw [this, List.getElem?_append_left (by omega)]; exact ei
  refine ⟨rr.sub fun h q => ?_, by rw [List.length_set]; exact l1, by rw [List.length_set]; exact l2⟩
  have es : ∀ t', (us.set j .unk ++ (ε ++ S.map (·.2))).set (us.length + i) t' = us.set j .unk ++ (ε.set i t' ++ S.map (·.2)) := fun t' => by
    rw [List.set_append_right _ _ (by rw [List.length_set]; omega), List.length_set]
    have : us.length + i - us.length = i := by omega
    rw [this, List.set_append_left _ _ hi]
  by_cases nu : t = .unk
  · subst nu
    obtain ⟨ow, h1, rest, e1, _, d1, rfl, k, _⟩ := q.at (j := us.length + i) (c := ε[i]) (by
      rw [List.getElem?_append_right (by omega)]; have : us.length + i - us.length = i := by omega
      rw [this]; exact env_get (List.getElem?_eq_getElem hi))
    have z := k G .unk w emp (Same.refl _) .unk emp_disj
    rw [set_self ri, un_emp] at z
    have eu : us.set j .unk = us := set_self e
    have := es .unk
    rw [eu] at this
    rw [this] at z
    rw [eu]
    exact ⟨rest, z, fun b u e => un_some e⟩
  · have z := q.move (i := us.length + i) (j := j) (t := t) (w := w) (by rw [List.getElem?_append_left hj]; exact e) nu rj ri (by omega) (by rw [List.length_append, List.length_append]; omega)
    obtain ⟨h', r', s'⟩ := z
    refine ⟨h', ?_, s'⟩
    rw [List.set_append_left _ _ hj, es] at r'
    exact r'
/-- for a call, the slots are set aside -/
theorem RelT.slots {vs : List V} {us : List T} (r : RelT K N G F vs us ε S σ H) : ∃ h, RepR K N G σ ε h ∧ Same h H ∧ Disj h F ∧ Disj h G ∧ RelT K N G (un F h) vs us [] S [] H := by
  obtain ⟨⟨gh, fh, h0, rr, sh, df, dg⟩, l1, l2⟩ := r
  obtain ⟨hx, hr, rx, rq, dx, rfl⟩ := rr.split l2
  have gen : ∀ {σ : L2.St} {ε : Env} {bs : List (Option V)} {ts : List T} {h : Hp}, σ.length = ε.length → RepR K N G (σ ++ bs) (ε ++ ts) h → ∃ h1 h2, RepR K N G σ ε h1 ∧ RepR K N G bs ts h2 ∧ Disj h1 h2 ∧ h = un h1 h2 := by
    intro σ
    induction σ with
    | nil => intro ε bs ts h l r; cases ε with
      | nil => exact ⟨emp, h, .nil, r, emp_disj, rfl⟩
      | cons _ _ => simp at l
    | cons o σ ih => intro ε bs ts h l r; cases ε with
      | nil => simp at l
      | cons t ε =>
        cases r with
        | non r =>
          obtain ⟨h1, h2, a, b, d, rfl⟩ := ih (by simpa using l) r
          exact ⟨h1, h2, .non a, b, d, rfl⟩
        | cons r1 r2 d12 =>
          obtain ⟨h1, h2, a, b, d, rfl⟩ := ih (by simpa using l) r2
          obtain ⟨d3, d4⟩ := disj_un'.mp d12
          exact ⟨un _ h1, h2, .cons r1 a d3, b, disj_un.mpr ⟨d4, d⟩, un_assoc.symm⟩
  obtain ⟨h1, h2, ra, rb, d, rfl⟩ := gen l1 rq
  obtain ⟨df1, df2⟩ := disj_un.mp df
  obtain ⟨df3, df4⟩ := disj_un.mp df2
  obtain ⟨dg1, dg2⟩ := disj_un.mp dg
  obtain ⟨dg3, dg4⟩ := disj_un.mp dg2
  obtain ⟨dx1, dx2⟩ := disj_un'.mp dx
  have s2 := same_un_r dx sh
  refine ⟨h1, ra, same_un_l s2, df3, dg3, ⟨gh, same_un fh (same_un_l s2), un hx h2, RepR.join rx rb dx2, same_un (same_un_l sh) (same_un_r d s2), disj_un'.mpr ⟨disj_un.mpr ⟨df1, df4⟩, disj_un.mpr ⟨dx1, d.symm⟩⟩, disj_un.mpr ⟨dg1, dg4⟩⟩, rfl, l2⟩
theorem RelT.unslots {vs : List V} {us : List T} {h : Hp} (l : σ.length = ε.length) (rv : RepR K N G σ ε h) (df : Disj h F) (dg : Disj h G) (gr : Gr (un F h) G G') (r : RelT K N G' (un F h) vs us [] S [] H) : RelT K N G' F vs us ε S σ H := by
  obtain ⟨⟨gh, fh, h0, rr, sh, df2, dg2⟩, l1, l2⟩ := r
  obtain ⟨hx, hb, rx, rb, dx, rfl⟩ := rr.split l2
  obtain ⟨d1, d2⟩ := disj_un'.mp df2
  obtain ⟨d3, d4⟩ := disj_un.mp d2
  have sh' : Same h H := same_un_r df.symm fh
  have gen : ∀ {σ : L2.St} {ε : Env} {bs : List (Option V)} {ts : List T} {h1 h2 : Hp}, RepR K N G' σ ε h1 → RepR K N G' bs ts h2 → Disj h1 h2 → RepR K N G' (σ ++ bs) (ε ++ ts) (un h1 h2) := by
    intro σ ε bs ts h1 h2 a
    induction a with
    | nil => intro b _; exact b
    | non a ih => intro b d; exact .non (ih b d)
    | cons r1 a d12 ih =>
      intro b d
      obtain ⟨d5, d6⟩ := disj_un.mp d
      rw [un_assoc]
      exact .cons r1 (ih b d6) (disj_un'.mpr ⟨d12, d5⟩)
  have dgh : Disj h G' := disj_gr (F := un F h) rv.noTup (fun a q z => q (un_eq_none.mp z).2) gr gh sh' dg
  obtain ⟨dg3, dg4⟩ := disj_un.mp dg2
  obtain ⟨df3, df4⟩ := disj_un.mp d1
  have rb : RepR K N G' (boxes S) (S.map (·.2)) hb := rb
  refine ⟨⟨gh, same_un_l fh, un hx (un h hb), RepR.join rx (gen (rv.up gr.gg) rb d4.symm) (disj_un'.mpr ⟨d3, dx⟩), same_un (same_un_l sh) (same_un sh' (same_un_r dx sh)), disj_un.mpr ⟨df3, disj_un.mpr ⟨df, df4⟩⟩, disj_un.mpr ⟨dg3, disj_un.mpr ⟨dgh, dg4⟩⟩⟩, l, l2⟩
/-- the arguments are known, the def is called -/
theorem callV_ok {aF : AFun} {E : XK} : ∀ {as : List Arg} {acc : List T} {vs : List V} {G F H : Hp} {ε : Env} {S : Sg} {k : T → List T → Env → Sg → Prop} {kx : Cl → List (String × D) → List T → Env → Sg → Prop},
    RelT K N G F vs (acc ++ as.map (·.1)) ε S σ H → (∀ j t i, as[j]? = some (t, some i) → ∃ v, vs[acc.length + j]? = some v ∧ σ[i]? = some (some v)) → callV aF as acc ε S k kx →
    (∀ t ts' ε' S' v G' H', k t ts' ε' S' → Gr F G G' → RelT K N G' F (v :: vs) (t :: ts') ε' S' σ H' → Q v H') →
    (∀ C p ts' ε' S' d G' H', kx C p ts' ε' S' → Gr F G G' → RelT K N G' F vs ts' ε' S' σ H' → XPay K N G' H' d p → E (.ref (N.at C)) d H') → spOf K N vs.length aF vs H Q E
  | [], acc, vs, G, F, H, ε, S, k, kx, r, _, q, o, ox => by
    rw [List.map_nil, List.append_nil] at r
    obtain ⟨h, rv, _, df, dg, r2⟩ := r.slots
    exact ⟨G, un F h, acc, S, _, _, rfl, r2, q, fun t ts' S' v G' H' kk gr r3 => o _ _ _ _ _ _ _ kk gr.unF (RelT.unslots r.2.1 rv df dg gr r3),
      fun C p ts' S' d G' H' kk gr r3 y => ox _ _ _ _ _ _ _ _ kk gr.unF (RelT.unslots r.2.1 rv df dg gr r3) y⟩
  | (t, none) :: as, acc, vs, G, F, H, ε, S, k, kx, r, hv, q, o, ox => by
    refine callV_ok (as := as) (acc := acc ++ [t]) (by rw [List.append_assoc]; exact r) (fun j t' i e => ?_) q o ox
    obtain ⟨v, e1, e2⟩ := hv (j + 1) t' i (by simpa using e)
    exact ⟨v, by rw [← e1, List.length_append, List.length_singleton]; congr 1; omega, e2⟩
  | (t0, some i) :: as, acc, vs, G, F, H, ε, S, k, kx, r, hv, q, o, ox => by
    obtain ⟨w, ew, es⟩ := hv 0 t0 i rfl
    rw [Nat.add_zero] at ew
    have hv' : ∀ (x : T) (j : Nat) (t' : T) (i' : Nat), as[j]? = some (t', some i') → ∃ v, vs[(acc ++ [x]).length + j]? = some v ∧ σ[i']? = some (some v) := fun x j t' i' e => by
      obtain ⟨v, e1, e2⟩ := hv (j + 1) t' i' (by simpa using e)
      exact ⟨v, by rw [← e1, List.length_append, List.length_singleton]; congr 1; omega, e2⟩
    have eset : ∀ x : T, (acc ++ List.map (·.1) ((t0, some i) :: as)).set acc.length x = (acc ++ [x]) ++ as.map (·.1) := fun x => by
      rw [List.map_cons, List.set_append_right _ _ (Nat.le_refl _), Nat.sub_self, List.set_cons_zero, List.append_assoc]; rfl
    unfold callV at q
    split at q
    · rename_i d e
      obtain ⟨v, e1, bv⟩ := slot_bw r e (fun z => nomatch z)
      rw [es] at e1
      have e1 := Option.some.inj (Option.some.inj e1)
      subst e1
      refine callV_ok (as := as) (acc := acc ++ [.val d]) ?_ (hv' _) q o ox
      -- a frozen thing is put in the argument's root
      have lr : (acc ++ List.map (·.1) ((t0, some i) :: as)).length = vs.length := r.2.2.symm
      obtain ⟨⟨gh, fh, h0, rr, sh, df, dg⟩, l1, l2⟩ := r
      have hlt : acc.length < (acc ++ List.map (·.1) ((t0, some i) :: as)).length := by rw [List.length_append, List.length_map, List.length_cons]; omega
      have ec : ((acc ++ List.map (·.1) ((t0, some i) :: as)) ++ (ε ++ S.map (·.2)))[acc.length]? = some t0 := by
        rw [List.getElem?_append_left hlt, List.getElem?_append_right (Nat.le_refl _), Nat.sub_self]; rfl
      obtain ⟨ow, h1, rest, e1, _, d1, rfl, kk, _⟩ := rr.at ec
      have z := kk G (.val d) w emp (Same.refl _) (.val bv.val) emp_disj
      have er : (vs.map some ++ (σ ++ boxes S))[acc.length]? = some (some w) := by
        rw [List.getElem?_append_left (by rw [List.length_map]; omega), List.getElem?_map, ew]; rfl
      rw [set_self er, un_emp, List.set_append_left _ _ hlt, eset] at z
      exact ⟨⟨gh, fh, rest, z, same_un_l sh, (disj_un.mp df).1, (disj_un.mp dg).1⟩, l1, by rw [l2]; simp [List.length_append]⟩
    · rename_i s us e
      have r2 := r.mvIn ew es e (fun z => nomatch z)
      rw [eset] at r2
      refine callV_ok (as := as) (acc := acc ++ [.nd s us]) r2 (hv' _) q (fun t ts' ε' S' v G' H' kk gr r3 => ?_) (fun C p ts' ε' S' d G' H' kk gr r3 y => ?_)
      · obtain ⟨hi, kk⟩ := kk
        obtain ⟨u, eu, kk⟩ := oGet_elim kk
        have r4 := RelT.mvOut (j := acc.length + 1) (t := u) (i := i) r3 (by simpa using ew) es (by simpa using eu) hi
        rw [List.set_cons_succ] at r4
        exact o _ _ _ _ _ _ _ kk gr r4
      · obtain ⟨hi, kk⟩ := kk
        obtain ⟨u, eu, kk⟩ := oGet_elim kk
        exact ox _ _ _ _ _ _ _ _ kk gr (RelT.mvOut r3 ew es eu hi) y
    · exact q.elim

/-! ### arguments -/
def concAr (K : PySem.W.Frag) (N : Nm) (W : WX) (fx : Nat → Bool) (a : RAr) : TA := fun σ H Q => ∃ G F P ε S A K', Rel K N G F ε S σ H ∧ Fix P σ ∧ FixIn fx P ∧ a A ε S K' ∧
  (∀ as vs ε' S' G' H', K' as ε' S' → Gr F G G' → RelT K N G' F vs (as.map (·.1)) ε' S' σ H' → (∀ (j : Nat) t i, as[j]? = some (t, some i) → ∃ v, vs[j]? = some v ∧ σ[i]? = some (some v)) → Q vs H') ∧ XRel K N W G F P A
variable {QA : List V → Hp → Prop} {ra : RAr} {i : Nat}
theorem conc_arNil (h : concAr K N W fx arNil σ H QA) : tNil σ H QA := by
  obtain ⟨G, F, P, ε, S, A, K', r, fi, fn, q, k, z⟩ := h
  exact k [] [] _ _ _ _ q Gr.refl r (fun j t i e => by simp at e)
theorem conc_arOwn (h : concAr K N W fx (arOwn x ra) σ H QA) : tCons (concE K N W fx x) (concAr K N W fx ra) σ H QA := by
  obtain ⟨G, F, P, ε, S, A, K', r, fi, fn, q, k, z⟩ := h
  refine ⟨G, F, P, ε, S, A, _, r, fi, fn, q, fun t v ε1 S1 G1 H1 q1 g1 r1 => ?_, z⟩
  obtain ⟨h, rt, sh, df, dg, rp⟩ := r1.park1
  refine ⟨G1, un F h, P, ε1, S1, A, _, rp, fi, fn, q1, fun as vs ε2 S2 G2 H2 q2 g2 r2 hv => ?_, z.mono g1⟩
  refine k _ _ _ _ _ _ q2 (g1.trans g2.unF) (RelT.unpark (vs := [v]) (us := [t]) (repTs1 rt) df dg g2 r2) fun j t' i e => ?_
  cases j with
  | zero => have := Option.some.inj e; cases this
  | succ j =>
    obtain ⟨w, e1, e2⟩ := hv j t' i (by simpa using e)
    exact ⟨w, by simpa using e1, e2⟩
theorem RelT.haveU {v : V} {xs : List V} {ts : List T} (r : RelT K N G F xs ts ε S σ H) : RelT K N G F (v :: xs) (.unk :: ts) ε S σ H := by
  obtain ⟨⟨gh, fh, h0, rr, sh, df, dg⟩, l1, l2⟩ := r
  exact ⟨⟨gh, fh, un emp h0, .cons .unk rr emp_disj, sh, df, dg⟩, l1, congrArg (· + 1) l2⟩
theorem conc_arVar (h : concAr K N W fx (arVar i ra) σ H QA) : tCons (zVar i) (concAr K N W fx ra) σ H QA := by
  obtain ⟨G, F, P, ε, S, A, K', r, fi, fn, q, k, z⟩ := h
  unfold arVar at q
  split at q
  · rename_i t e
    obtain ⟨v, ev, _⟩ := slot_bw r e q.1
    unfold tCons zVar
    rw [ev]
    refine ⟨G, F, P, ε, S, A, _, r, fi, fn, q.2, fun as vs ε2 S2 G2 H2 q2 g2 r2 hv => ?_, z⟩
    refine k _ _ _ _ _ _ q2 g2 r2.haveU fun j t' i' e' => ?_
    cases j with
    | zero => have := Option.some.inj e'; cases this; exact ⟨v, rfl, ev⟩
    | succ j =>
      obtain ⟨w, e1, e2⟩ := hv j t' i' (by simpa using e')
      exact ⟨w, by simpa using e1, e2⟩
  · exact q.elim
theorem RelT.keep1 {v : V} {t : T} {vs : List V} {us : List T} (r : RelT K N G F (v :: vs) (t :: us) ε S σ H) : RelT K N G F [v] [t] ε S σ H := by
  obtain ⟨rr, l1, l2⟩ := r
  refine ⟨rr.sub fun h q => ?_, l1, rfl⟩
  cases q with
  | @cons _ _ _ _ h1 h2 r1 r2 d =>
    obtain ⟨h', r', s'⟩ := RepR.dropP (rs := vs.map some) (ts := us) (by rw [List.length_map]; simpa using l2) r2
    refine ⟨un h1 h', .cons r1 r' (fun b => (d b).imp id fun z => by
      cases q2 : h' b with
      | none => rfl
      | some u => rw [s' b u q2] at z; cases z), fun b u e => ?_⟩
    rcases un_cases e with e | ⟨z, e⟩
    · exact un_some e
    · exact (un_none z).trans (s' b u e)
theorem conc_call {aF : AFun} {n : Nat} (h : concE K N W fx (aCall n aF ra) σ H Q) : tCallS (spOf K N n aF) (WE W) (concAr K N W fx ra) σ H Q := by
  obtain ⟨G, F, P, ε, S, A, K', r, fi, fn, q, k, z⟩ := h
  refine ⟨G, F, P, ε, S, A, _, r, fi, fn, q, fun as vs ε1 S1 G1 H1 q1 g1 r1 hv => ?_, z⟩
  obtain ⟨hn, q1⟩ := q1
  have ln : vs.length = n := by rw [← hn, ← List.length_map (f := fun a : Arg => a.1)]; exact r1.2.2
  subst ln
  refine callV_ok (acc := []) r1 (fun j t i e => ?_) q1 (fun t ts' ε' S' v G' H' kk gr r3 => ?_) (fun C p ts' ε' S' d G' H' kk gr r3 y => ?_)
  · obtain ⟨v, e1, e2⟩ := hv j t i e
    exact ⟨v, by rw [List.length_nil, Nat.zero_add]; exact e1, e2⟩
  · exact k _ _ _ _ _ _ kk (g1.trans gr) r3.keep1
  · have l : vs.length = ts'.length := r3.2.2
    have r4 : RelT K N G' F (vs ++ []) (ts' ++ []) ε' S' σ H' := by rw [List.append_nil, List.append_nil]; exact r3
    exact z C p ε' S' G' σ H' d kk (g1.trans gr) (r4.drop l) fi y
end
end Y
/-! Yo: methods, new instances, try. -/
namespace Y
open PySem PySem.Spec PyProof.Rows L2 Z

/-- an instance of C, m no name of its own -/
def insK (C : Cl) (m : String) (t : T) : Prop := match t.kids with | some (.ins C' fs, _) => C' = C ∧ ixK fs m = none | _ => False
def insOk (C : Cl) (m : String) (S : Sg) (t : T) : Prop := match t with
  | .val (.obj a) => oGet (boxOf S a) (insK C m)
  | t => insK C m t
def eMethE (C : Cl) (m : String) (n : Nat) (aF : AFun) (x : RE) (r : RAr) : RE := fun A ε S K' => x A ε S fun t ε1 S1 => insOk C m S1 t ∧ r A ε1 S1 fun as ε2 S2 => as.length + 1 = n ∧
  callV aF ((t, none) :: as) [] ε2 S2 (fun t _ ε3 S3 => K' t ε3 S3) (fun C p _ ε3 S3 => A C p ε3 S3)
def eMethV (C : Cl) (m : String) (n : Nat) (aF : AFun) (i : Nat) (r : RAr) : RE := fun A ε S K' => match ε[i]? with
  | some t => insOk C m S t ∧ r A ε S fun as ε2 S2 => as.length + 1 = n ∧ callV aF ((.unk, some i) :: as) [] ε2 S2 (fun t _ ε3 S3 => K' t ε3 S3) (fun C p _ ε3 S3 => A C p ε3 S3)
  | none => False
/-- the receiver is lent out of a place -/
def callP (aF : AFun) (pl : Pl) (ts : List T) (ε : Env) (S : Sg) (k : KE) (kx : AX) : Prop := match pl.rt with
  | .slot i => oGet ε[i]? fun tb => oGet (getT pl.p tb) fun u => u ≠ .unk ∧ aF (u :: ts) S (fun t ts' S' => oGet ts'[0]? fun u' => k t (ε.set i (setT u' pl.p tb)) S') (fun C p ts' S' => oGet ts'[0]? fun u' => kx C p (ε.set i (setT u' pl.p tb)) S')
  | .box a => match pl.p with
    | [] => aF (.val (.obj a) :: ts) S (fun t _ S' => k t ε S') (fun C p _ S' => kx C p ε S')
    | _ => oGet (boxOf S a) fun tb => oGet (getT pl.p tb) fun u => u ≠ .unk ∧ aF (u :: ts) (setBox S a .unk) (fun t ts' S' => oGet ts'[0]? fun u' => boxOf S' a = some .unk ∧ k t ε (setBox S' a (setT u' pl.p tb)))
        (fun C p ts' S' => oGet ts'[0]? fun u' => boxOf S' a = some .unk ∧ kx C p ε (setBox S' a (setT u' pl.p tb)))
def plT (ε : Env) (S : Sg) (pl : Pl) : Option T := match pl.rt, pl.p with
  | .box a, [] => some (.val (.obj a))
  | _, _ => getP ε S pl
def eMethP (C : Cl) (m : String) (n : Nat) (aF : AFun) (r : RP) (rc : RAC) : RE := fun A ε S K' => r ε S fun pl => oGet (plT ε S pl) fun t => insOk C m S t ∧ rc ε S fun ds => ds.length + 1 = n ∧ callP aF pl (ds.map .val) ε S K' A
def eMake (C : Cl) (n : Nat) (aF : AFun) (r : RAr) : RE := fun A ε S K' => r A ε S fun as ε1 S1 => as.length + 1 = n ∧
  callV aF as [.nd (.ins C []) []] ε1 S1 (fun t ts' ε2 S2 => t = .val .non ∧ oGet ts'[0]? fun u => K' u ε2 S2) (fun C p _ ε2 S2 => A C p ε2 S2)
/-- .. put in a box -/
def eBox (x : RE) : RE := fun A ε S K' => x A ε S fun t ε1 S1 => (match t with | .nd _ _ => True | _ => False) ∧ ∀ a, (∀ b s us, boxOf S1 b = some (.nd s us) → b ≠ a) → K' (.val (.obj a)) ε1 ((a, t) :: S1)
section
variable {K : PySem.W.Frag} {N : Nm} {G G' F H H' : Hp} {ε : Env} {S S' : Sg} {σ : L2.St} {fx : Nat → Bool} {W : WX} {Q : VK} {x : RE} {P : Nat → Option V} {ra : RAr} {rp : RP} {rc : RAC} {C : Cl} {m : String} {n : Nat} {aF : AFun} {i : Nat}
theorem ins_ok {v : V} {t : T} {us : List V} {ts : List T} {PP : Prop} (r : RelT K N G F us ts ε S σ H) (b : Bw K N G H v t) (h : insOk C m S t) (p : PP) : zMethV (N.at C) (Str.ofString m) v H PP := by
  have core : ∀ {v : V} {t : T}, Bw K N G H v t → insK C m t → zMethV (N.at C) (Str.ofString m) v H PP := fun {v t} b h => by
    unfold insK at h
    split at h
    · rename_i C' fs ts' e
      obtain ⟨rfl, hm⟩ := h
      obtain ⟨a, vs, rfl, ⟨dx, hat, hl⟩, _⟩ := bw_kids b e r.gh
      refine ⟨a, dx, _, rfl, hat, ?_, p⟩
      rw [lookup_valV, valV_ix (by rw [List.length_map]; exact hl), ixK_ofString, hm]; rfl
    · exact h.elim
  unfold insOk at h
  split at h
  · rename_i a
    obtain ⟨t', e, h⟩ := oGet_elim h
    cases bw_obj b
    have nu : t' ≠ .unk := fun z => by subst z; exact h.elim
    exact core (Rel.box r e nu) h
  · exact core b h
theorem conc_methE (h : concE K N W fx (eMethE C m n aF x ra) σ H Q) : zMeth (N.at C) (Str.ofString m) (spOf K N n aF) (WE W) (concE K N W fx x) (concAr K N W fx ra) σ H Q := by
  obtain ⟨G, F, P, ε, S, A, K', r, fi, fn, q, k, z⟩ := h
  refine ⟨G, F, P, ε, S, A, _, r, fi, fn, q, fun t v ε1 S1 G1 H1 q1 g1 r1 => ?_, z⟩
  refine ins_ok r1 r1.bw q1.1 ?_
  obtain ⟨h, rt, sh, df, dg, rk⟩ := r1.park1
  refine ⟨G1, un F h, P, ε1, S1, A, _, rk, fi, fn, q1.2, fun as vs ε2 S2 G2 H2 q2 g2 r2 hv => ?_, z.mono g1⟩
  obtain ⟨hn, q2⟩ := q2
  have r3 := RelT.unpark (vs := [v]) (us := [t]) (repTs1 rt) df dg g2 r2
  have ln : vs.length = as.length := by have := r2.2.2; rw [List.length_map] at this; exact this
  have e0 : (v :: vs).length = n := by rw [List.length_cons, ln]; exact hn
  rw [← e0]
  have g12 := g1.trans g2.unF
  refine callV_ok (as := (t, none) :: as) (acc := []) r3 (fun j t' i e => ?_) q2 (fun t ts' ε' S' w G' H' kk gr r4 => k _ _ _ _ _ _ kk (g12.trans gr) r4.keep1) (fun C p ts' ε' S' d G' H' kk gr r4 y => ?_)
  · cases j with
    | zero => have := Option.some.inj e; cases this
    | succ j =>
      obtain ⟨w, e1, e2⟩ := hv j t' i (by simpa using e)
      exact ⟨w, by simpa using e1, e2⟩
  · have r5 : RelT K N G' F ((v :: vs) ++ []) (ts' ++ []) ε' S' σ H' := by rw [List.append_nil, List.append_nil]; exact r4
    exact z C p ε' S' G' σ H' d kk (g12.trans gr) (r5.drop r4.2.2) fi y
theorem insOk_nu {t : T} (h : insOk C m S t) : t ≠ .unk := fun e => by subst e; exact h.elim
theorem conc_methV (h : concE K N W fx (eMethV C m n aF i ra) σ H Q) : zMeth (N.at C) (Str.ofString m) (spOf K N n aF) (WE W) (zVar i) (concAr K N W fx ra) σ H Q := by
  obtain ⟨G, F, P, ε, S, A, K', r, fi, fn, q, k, z⟩ := h
  unfold eMethV at q
  split at q
  · rename_i t e
    obtain ⟨v, ev, bv⟩ := slot_bw r e (insOk_nu q.1)
    unfold zMeth zVar
    rw [ev]
    refine ins_ok r bv q.1 ?_
    refine ⟨G, F, P, ε, S, A, _, r, fi, fn, q.2, fun as vs ε2 S2 G2 H2 q2 g2 r2 hv => ?_, z⟩
    obtain ⟨hn, q2⟩ := q2
    have ln : vs.length = as.length := by have := r2.2.2; rw [List.length_map] at this; exact this
    have e0 : (v :: vs).length = n := by rw [List.length_cons, ln]; exact hn
    rw [← e0]
    refine callV_ok (as := (.unk, some i) :: as) (acc := []) r2.haveU (fun j t' i' e' => ?_) q2 (fun t ts' ε' S' w G' H' kk gr r4 => k _ _ _ _ _ _ kk (g2.trans gr) r4.keep1) (fun C p ts' ε' S' d G' H' kk gr r4 y => ?_)
    · cases j with
      | zero => have := Option.some.inj e'; cases this; exact ⟨v, rfl, ev⟩
      | succ j =>
        obtain ⟨w, e1, e2⟩ := hv j t' i' (by simpa using e')
        exact ⟨w, by simpa using e1, e2⟩
    · have r5 : RelT K N G' F ((v :: vs) ++ []) (ts' ++ []) ε' S' σ H' := by rw [List.append_nil, List.append_nil]; exact r4
      exact z C p ε' S' G' σ H' d kk (g2.trans gr) (r5.drop r4.2.2) fi y
  · exact q.elim
theorem conc_make (h : concE K N W fx (eMake C n aF ra) σ H Q) : zMake (N.at C) (spOf K N n aF) (WE W) (concAr K N W fx ra) σ H Q := by
  obtain ⟨G, F, P, ε, S, A, K', r, fi, fn, q, k, z⟩ := h
  refine ⟨G, F, P, ε, S, A, _, r, fi, fn, q, fun as vs ε1 S1 G1 H1 q1 g1 r1 hv => ?_, z⟩
  intro a dx na ndx ne
  obtain ⟨hn, q1⟩ := q1
  have ln : vs.length = as.length := by have := r1.2.2; rw [List.length_map] at this; exact this
  have s1 : Same H1 (upd (upd H1 dx (.own a)) a (.ins (N.at C) dx [])) := fun b u e => by
    rw [upd_ne (ne_of_none e na), upd_ne (ne_of_none e ndx)]; exact e
  have fr : Fresh H1 G1 (upd emp a (.ins (N.at C) dx [])) := fresh_upd na r1.gh
  have r2 : RelT K N G1 F (.ref a :: vs) (.nd (.ins C []) [] :: as.map (·.1)) ε1 S1 σ _ := r1.new (Ext.same r1.gh s1) (.nd (vs := []) ⟨dx, rfl, rfl⟩ (fun z => nomatch z) .nil rfl) (fun b u e => by
    by_cases c : b = a
    · subst c; rw [upd_same] at e ⊢; exact e
    · rw [upd_ne c] at e; cases e) fr
  have e0 : (V.ref a :: vs).length = n := by rw [List.length_cons, ln]; exact hn
  rw [← e0]
  refine callV_ok (as := as) (acc := [.nd (.ins C []) []]) r2 (fun j t' i e => ?_) q1 (fun t ts' ε' S' w G' H' kk gr r4 => ?_) (fun C p ts' ε' S' d G' H' kk gr r4 y => ?_)
  · obtain ⟨w, e1, e2⟩ := hv j t' i e
    exact ⟨w, by rw [List.length_singleton, Nat.add_comm]; simpa using e1, e2⟩
  · obtain ⟨rfl, kk⟩ := kk
    obtain ⟨u, eu, kk⟩ := oGet_elim kk
    cases bw_non r4.bw
    refine ⟨rfl, ?_⟩
    cases ts' with
    | nil => cases eu
    | cons u' ts' =>
      have eu := Option.some.inj (show some u' = some u from eu)
      subst eu
      exact k _ _ _ _ _ _ kk (g1.trans gr) r4.drop1.keep1
  · have r5 : RelT K N G' F ((V.ref a :: vs) ++ []) (ts' ++ []) ε' S' σ H' := by rw [List.append_nil, List.append_nil]; exact r4
    exact z C p ε' S' G' σ H' d kk (g1.trans gr) (r5.drop r4.2.2) fi y
theorem conc_box (h : concE K N W fx (eBox x) σ H Q) : concE K N W fx x σ H Q := by
  obtain ⟨G, F, P, ε, S, A, K', r, fi, fn, q, k, z⟩ := h
  refine ⟨G, F, P, ε, S, A, _, r, fi, fn, q, fun t v ε1 S1 G1 H1 q1 g1 r1 => ?_, z⟩
  obtain ⟨ht, q1⟩ := q1
  split at ht
  · rename_i s us
    have ea : ∃ a, v = .ref a ∧ ∀ b s' us', boxOf S1 b = some (.nd s' us') → b ≠ a := by
      obtain ⟨⟨gh, fh, h0, rr, sh, df, dg⟩, l1, l2⟩ := r1
      cases rr with
      | @cons _ _ _ _ h1 h2 rt rr d =>
        cases rt with
        | @nd a _ vs _ o hc i nn rs na =>
          refine ⟨a, rfl, fun b s' us' e c => ?_⟩
          subst c
          obtain ⟨j, _, ej⟩ := boxOf_ix e
          have rr : RepR K N G1 (σ ++ boxes S1) (ε1 ++ S1.map (·.2)) h2 := rr
          have i1 : (ε1 ++ S1.map (·.2))[ε1.length + j]? = some (.nd s' us') := by
            rw [List.getElem?_append_right (by omega)]
            have : ε1.length + j - ε1.length = j := by omega
            rw [this, List.getElem?_map, ej]; rfl
          obtain ⟨ow, h3, rest, e1, rw1, d1, rfl, _⟩ := rr.at i1
          obtain ⟨w, rfl, rw1b⟩ := rw1 (fun z => nomatch z)
          have ew : w = .ref b := by
            rw [List.getElem?_append_right (by omega)] at e1
            have : ε1.length + j - σ.length = j := by omega
            rw [this] at e1
            unfold boxes at e1
            rw [List.getElem?_map, ej] at e1
            exact (Option.some.inj (Option.some.inj e1)).symm
          subst ew
          cases rw1b with
          | nd i2 nn2 rs2 na2 =>
            rcases d b with z | z
            · rw [upd_same] at z; cases z
            · have := (un_eq_none.mp z).2
              rw [upd_same] at this; cases this
    obtain ⟨a, rfl, fr⟩ := ea
    obtain ⟨h, rv, _, df, dg, r2⟩ := r1.slots
    have r3 : RelT K N G1 (un F h) [] [] [] ((a, .nd s us) :: S1) [] H1 := ⟨r2.1, rfl, rfl⟩
    exact k _ _ _ _ _ _ (q1 a fr) g1 ((RelT.unslots r1.2.1 rv df dg Gr.refl r3).have (.obj a))
  · exact ht.elim

/-! ### a receiver out of a place -/
theorem RepR.at2 : ∀ {rs : List (Option V)} {ts : List T} {h : Hp} {j : Nat} {c : T}, RepR K N G rs ts h → ts[j]? = some c →
    ∃ h1 rest, (∀ w, rs[j]? = some (some w) → RepT K N G w c h1) ∧ Disj h1 rest ∧ h = un rest h1 ∧ (∀ G' c' w' h1', Same G G' → RepT K N G' w' c' h1' → Disj h1' rest → RepR K N G' (rs.set j (some w')) (ts.set j c') (un rest h1'))
  | _, _, _, _, _, .nil, e => by simp at e
  | _, _, _, 0, c, .non (h := h) t, e => by
    have e' := Option.some.inj (show some _ = some c from e)
    subst e'
    refine ⟨emp, h, (fun w e => by cases (Option.some.inj e)), emp_disj, un_emp.symm, fun G' c' w' h1' s r' d' => ?_⟩
    rw [← un_comm d']
    exact .cons r' (t.up s) d'
  | _, _, _, 0, c, .cons (h1 := h1) (h2 := h2) r t d, e => by
    have e' := Option.some.inj (show some _ = some c from e)
    subst e'
    refine ⟨h1, h2, (fun w e => by cases (Option.some.inj e); exact r), d, un_comm d, fun G' c' w' h1' s r' d' => ?_⟩
    rw [← un_comm d']
    exact .cons r' (t.up s) d'
  | _, _, _, j + 1, c, .non t, e => by
    obtain ⟨h1, rest, r1, d1, rfl, k⟩ := RepR.at2 (j := j) (c := c) t (by simpa using e)
    exact ⟨h1, rest, fun w e => r1 w (by simpa using e), d1, rfl, fun G' c' w' h1' s r' d' => .non (k G' c' w' h1' s r' d')⟩
  | _, _, _, j + 1, c, .cons (h1 := ha) (h2 := hb) r t d, e => by
    obtain ⟨h1, rest, r1, d1, rfl, k⟩ := RepR.at2 (j := j) (c := c) t (by simpa using e)
    obtain ⟨da, db⟩ := disj_un'.mp d
    refine ⟨h1, un ha rest, fun w e => r1 w (by simpa using e), disj_un'.mpr ⟨db.symm, d1⟩, un_assoc.symm, fun G' c' w' h1' s r' d' => ?_⟩
    obtain ⟨p, q⟩ := disj_un'.mp d'
    rw [un_assoc]
    exact .cons (r.up s) (k G' c' w' h1' s r' q) (disj_un'.mpr ⟨da, p.symm⟩)
/-- lent out: what stands at a place comes to hand, its root is set aside -/
theorem RelR.lend {rs : List (Option V)} {ts : List T} {j : Nat} {tb u : T} {p : List Nat} (r : RelR K N G F rs ts H) (e : ts[j]? = some tb) (g : getT p tb = some u) (nu : u ≠ .unk) :
    ∃ v0 w hr, rs[j]? = some (some v0) ∧ vAt H p v0 = some w ∧ RelR K N G (un F hr) (some w :: rs) (u :: ts.set j .unk) H ∧ Disj hr F ∧
      ∀ F' G' H' rs' ts' j' c u', Disj hr F' → RelR K N G' (un F' hr) (some w :: rs') (u' :: ts') H' → Gr (un F hr) G G' → rs'[j']? = some (some v0) → ts'[j']? = some c → RelR K N G' F' rs' (ts'.set j' (setT u' p tb)) H' := by
  obtain ⟨gh, fh, h, rr, sh, df, dg⟩ := r
  obtain ⟨ow, h1, rest, e1, r1, d1, rfl, k, _⟩ := rr.at e
  have nc : tb ≠ .unk := fun z => by
    subst z
    cases p with
    | nil => cases g; exact nu rfl
    | cons _ _ => cases g
  obtain ⟨v0, rfl, r1b⟩ := r1 nc
  obtain ⟨w, hu, hr, r2, d2, rfl, va, k2⟩ := RepT.focus p r1b g
  obtain ⟨d3, d4⟩ := disj_un.mp d1
  obtain ⟨df1, df2⟩ := disj_un.mp df
  obtain ⟨df3, df4⟩ := disj_un.mp df2
  obtain ⟨dg1, dg2⟩ := disj_un.mp dg
  obtain ⟨dg3, dg4⟩ := disj_un.mp dg2
  have s2 := same_un_r d1.symm sh
  have su := same_un_r d2.symm s2
  have sr := same_un_l s2
  have z := k G .unk v0 emp (Same.refl _) .unk emp_disj
  rw [set_self e1, un_emp] at z
  refine ⟨v0, w, hr, e1, va H s2, ⟨gh, same_un fh sr, un hu rest, .cons r2 z d4, same_un su (same_un_l sh), disj_un'.mpr ⟨disj_un.mpr ⟨df4, df1⟩, disj_un.mpr ⟨d2, d3.symm⟩⟩, disj_un.mpr ⟨dg4, dg1⟩⟩, df3, ?_⟩
  intro F' G' H' rs' ts' j' c u' dF r' gr ej ec
  obtain ⟨gh', fh', h', rr', sh', df', dg'⟩ := r'
  cases rr' with
  | @cons _ _ _ _ hv hs rv rs2 dd =>
    obtain ⟨dfa, dfb⟩ := disj_un.mp df'
    obtain ⟨dfa1, dfa2⟩ := disj_un'.mp dfa
    obtain ⟨dfb1, dfb2⟩ := disj_un'.mp dfb
    obtain ⟨dga, dgb⟩ := disj_un.mp dg'
    obtain ⟨h4, rest4, _, d5, rfl, k4⟩ := rs2.at2 ec
    obtain ⟨dd1, dd2⟩ := disj_un'.mp dd
    obtain ⟨dfb3, dfb4⟩ := disj_un.mp dfb2
    have shr : Same hr H' := same_un_r dF.symm fh'
    have dgr : Disj hr G' := disj_gr (F := un F hr) (fun a o q => (r1b.noTup a o (un_some q))) (fun a q z => q (un_eq_none.mp z).2) gr gh' shr dg3
    have z4 := k4 G' (setT u' p tb) v0 (un hr hv) (Same.refl _) (k2 G' u' hv gr.gg rv dfa2) (disj_un.mpr ⟨dfb3.symm, dd1⟩)
    rw [set_self ej] at z4
    refine ⟨gh', same_un_l fh', _, z4, same_un (same_un_l (same_un_r dd sh')) (same_un shr (same_un_l sh')), disj_un.mpr ⟨(disj_un.mp dfb1).1, disj_un.mpr ⟨dF, dfa1⟩⟩, disj_un.mpr ⟨(disj_un.mp dgb).1, disj_un.mpr ⟨dgr, dga⟩⟩⟩
theorem RelT.haveAll : ∀ {vs : List V} {ds : List D}, Rel K N G F ε S σ H → RpAll K N G vs ds → RelT K N G F vs (ds.map .val) ε S σ H
  | _, _, r, .nil => r
  | _, _, r, .cons a b => RelT.have (RelT.haveAll r b) a
/-- a def called with things that are at hand -/
theorem call_now {vs : List V} {us : List T} {E : XK} {k : T → List T → Sg → Prop} {kx : Cl → List (String × D) → List T → Sg → Prop} (r : RelT K N G F vs us ε S σ H) (q : aF us S k kx)
    (o : ∀ t ts' S' v G' H', k t ts' S' → Gr F G G' → RelT K N G' F (v :: vs) (t :: ts') ε S' σ H' → Q v H')
    (ox : ∀ C p ts' S' d G' H', kx C p ts' S' → Gr F G G' → RelT K N G' F vs ts' ε S' σ H' → XPay K N G' H' d p → E (.ref (N.at C)) d H') : spOf K N vs.length aF vs H Q E := by
  obtain ⟨h, rv, _, df, dg, r2⟩ := r.slots
  exact ⟨G, un F h, us, S, _, _, rfl, r2, q, fun t ts' S' v G' H' kk gr r3 => o _ _ _ _ _ _ kk gr.unF (RelT.unslots r.2.1 rv df dg gr r3),
    fun C p ts' S' d G' H' kk gr r3 y => ox _ _ _ _ _ _ _ kk gr.unF (RelT.unslots r.2.1 rv df dg gr r3) y⟩
theorem XPay.up {d : Option Addr} {p : List (String × D)} (y : XPay K N G H d p) (s : Same G G') : XPay K N G' H d p := by
  cases d with
  | none => exact y
  | some a => obtain ⟨vs, h1, h2, h3⟩ := y; exact ⟨vs, h1, h2, h3.up s⟩
theorem boxOf_set {a : Addr} {u t : T} : ∀ {S : Sg}, boxOf S a = some t → boxOf (setBox S a u) a = some u
  | [], h => by cases h
  | (b, x) :: S, h => by
    unfold boxOf at h
    unfold setBox
    by_cases c : b = a
    · rw [if_pos c]; unfold boxOf; rw [if_pos c]
    · rw [if_neg c] at h ⊢; unfold boxOf; rw [if_neg c]; exact boxOf_set h
theorem un_swap {F h k : Hp} (d : Disj h k) : un (un F h) k = un (un F k) h := by rw [un_assoc, un_assoc, un_comm d]
theorem callP_ok {E : XK} {pl : Pl} {v : V} {vs : List V} {ds : List D} {k : KE} {kx : AX} (r : Rel K N G F ε S σ H) (va : VAt H σ pl v) (rd : RpAll K N G vs ds) (q : callP aF pl (ds.map .val) ε S k kx)
    (o : ∀ t ε' S' w G' H', k t ε' S' → Gr F G G' → RelT K N G' F [w] [t] ε' S' σ H' → Q w H')
    (ox : ∀ C p ε' S' d G' H', kx C p ε' S' → Gr F G G' → Rel K N G' F ε' S' σ H' → XPay K N G' H' d p → E (.ref (N.at C)) d H') : spOf K N (v :: vs).length aF (v :: vs) H Q E := by
  obtain ⟨rt, p⟩ := pl
  cases rt with
  | slot i =>
    obtain ⟨tb, e, q⟩ := oGet_elim q
    obtain ⟨u, g, nu, q⟩ := oGet_elim q
    obtain ⟨v0, w, hr, e1, va2, r2, dF, back⟩ := RelR.lend r.1 (env_get e) g nu
    have hi := (List.getElem?_eq_some_iff.mp e).1
    obtain ⟨w', e2, e3⟩ := va
    rw [slot_get r.2.1 hi e1] at e2
    cases e2
    rw [va2] at e3
    cases e3
    have r3 : RelT K N G (un F hr) [v] [u] (ε.set i .unk) S σ H := by
      refine ⟨?_, by rw [List.length_set]; exact r.2.1, rfl⟩
      have es := env_set (S := S) (u := T.unk) e
      have r2 : RelR K N G (un F hr) (some v :: (σ ++ boxes S)) (u :: (ε ++ S.map (·.2)).set i .unk) H := r2
      rw [es] at r2
      exact r2
    obtain ⟨hu, rv, su, df, dg, rk⟩ := r3.park1
    have r4 := RelT.unpark (vs := [v]) (us := [u]) (repTs1 rv) df dg Gr.refl (RelT.haveAll rk rd)
    have put : ∀ {F' : Hp} {u' : T} {S' : Sg} {G' H' : Hp}, Disj hr F' → Gr (un F hr) G G' → RelT K N G' (un F' hr) [v] [u'] (ε.set i .unk) S' σ H' → Rel K N G' F' (ε.set i (setT u' p tb)) S' σ H' := fun {F' u' S' G' H'} dF' gr r5 => by
      have hi2 : (ε.set i T.unk)[i]? = some .unk := List.getElem?_set_self hi
      have z := back F' G' H' (σ ++ boxes S') (ε.set i .unk ++ S'.map (·.2)) i .unk u' dF' r5.1 gr (by rw [List.getElem?_append_left (by have := r.2.1; omega)]; exact slot_get r.2.1 hi e1) (env_get hi2)
      rw [env_set hi2, List.set_set] at z
      exact ⟨z, by rw [List.length_set]; exact r.2.1, rfl⟩
    refine call_now r4 q (fun t ts' S' w G' H' kk gr r5 => ?_) (fun C p' ts' S' d G' H' kk gr r5 y => ?_)
    · obtain ⟨u', eu, kk⟩ := oGet_elim kk
      cases ts' with
      | nil => cases eu
      | cons x ts' =>
        have eu := Option.some.inj (show some x = some u' from eu)
        subst eu
        obtain ⟨ht, rt, st, dft, dgt, rk2⟩ := r5.park1
        obtain ⟨dt1, dt2⟩ := disj_un'.mp dft
        have rk3 := rk2.keep1
        rw [un_swap dt2.symm] at rk3
        have z := put (disj_un'.mpr ⟨dF, dt2.symm⟩) gr rk3
        exact o _ _ _ _ _ _ kk gr.unF (RelT.unpark (vs := [w]) (us := [t]) (repTs1 rt) dt1 dgt Gr.refl z)
    · obtain ⟨u', eu, kk⟩ := oGet_elim kk
      cases ts' with
      | nil => cases eu
      | cons x ts' =>
        have eu := Option.some.inj (show some x = some u' from eu)
        subst eu
        exact ox _ _ _ _ _ _ _ kk gr.unF (put dF gr r5.keep1) y
  | box a =>
    cases p with
    | nil =>
      have va : some (V.ref a) = some v := va
      cases va
      have r4 : RelT K N G F (V.ref a :: vs) (.val (.obj a) :: ds.map .val) ε S σ H := (RelT.haveAll r rd).have (.obj a)
      refine call_now r4 q (fun t ts' S' w G' H' kk gr r5 => o _ _ _ _ _ _ kk gr r5.keep1) (fun C p' ts' S' d G' H' kk gr r5 y => ?_)
      have r6 : RelT K N G' F ((V.ref a :: vs) ++ []) (ts' ++ []) ε S' σ H' := by rw [List.append_nil, List.append_nil]; exact r5
      exact ox _ _ _ _ _ _ _ kk gr (r6.drop r5.2.2) y
    | cons p0 ps =>
      obtain ⟨tb, e, q⟩ := oGet_elim q
      obtain ⟨u, g, nu, q⟩ := oGet_elim q
      obtain ⟨j, ej0, ej⟩ := boxOf_ix e
      have lσ := r.2.1
      have i1 : (ε ++ S.map (·.2))[ε.length + j]? = some tb := by
        rw [List.getElem?_append_right (by omega)]
        have : ε.length + j - ε.length = j := by omega
        rw [this, List.getElem?_map, ej]; rfl
      obtain ⟨v0, w, hr, e1, va2, r2, dF, back⟩ := RelR.lend r.1 i1 g nu
      have ev0 : v0 = .ref a := by
        have e1 : (σ ++ boxes S)[ε.length + j]? = some (some v0) := e1
        rw [List.getElem?_append_right (by omega)] at e1
        have : ε.length + j - σ.length = j := by omega
        rw [this] at e1
        unfold boxes at e1
        rw [List.getElem?_map, ej] at e1
        exact (Option.some.inj (Option.some.inj e1)).symm
      subst ev0
      have e3 : vAt H (p0 :: ps) (.ref a) = some v := va
      rw [va2] at e3
      cases e3
      have sbox : ∀ {S : Sg} {j : Nat} {t x : T}, boxI S a = some j → (ε ++ S.map (·.2)).set (ε.length + j) x = ε ++ (setBox S a x).map (·.2) := fun {S j t x} h => by
        rw [List.set_append_right _ _ (by omega), setBox_snd h]
        have : ε.length + j - ε.length = j := by omega
        rw [this]
      have r3 : RelT K N G (un F hr) [v] [u] ε (setBox S a .unk) σ H := by
        refine ⟨?_, lσ, rfl⟩
        have r2 : RelR K N G (un F hr) (some v :: (σ ++ boxes S)) (u :: (ε ++ S.map (·.2)).set (ε.length + j) .unk) H := r2
        rw [sbox (t := tb) ej0] at r2
        show RelR K N G (un F hr) (some v :: (σ ++ boxes (setBox S a .unk))) (u :: (ε ++ (setBox S a .unk).map (·.2))) H
        rw [boxes_set]
        exact r2
      obtain ⟨hu, rv, su, df, dg, rk⟩ := r3.park1
      have r4 := RelT.unpark (vs := [v]) (us := [u]) (repTs1 rv) df dg Gr.refl (RelT.haveAll rk rd)
      have put : ∀ {F' : Hp} {u' : T} {S' : Sg} {G' H' : Hp}, Disj hr F' → Gr (un F hr) G G' → boxOf S' a = some .unk → RelT K N G' (un F' hr) [v] [u'] ε S' σ H' → Rel K N G' F' ε (setBox S' a (setT u' (p0 :: ps) tb)) σ H' := fun {F' u' S' G' H'} dF' gr eb r5 => by
        obtain ⟨j', ej0', ej'⟩ := boxOf_ix eb
        have i2 : (ε ++ S'.map (·.2))[ε.length + j']? = some .unk := by
          rw [List.getElem?_append_right (by omega)]
          have : ε.length + j' - ε.length = j' := by omega
          rw [this, List.getElem?_map, ej']; rfl
        have i3 : (σ ++ boxes S')[ε.length + j']? = some (some (.ref a)) := by
          rw [List.getElem?_append_right (by omega)]
          have : ε.length + j' - σ.length = j' := by omega
          rw [this]
          unfold boxes
          rw [List.getElem?_map, ej']; rfl
        have z := back F' G' H' (σ ++ boxes S') (ε ++ S'.map (·.2)) (ε.length + j') .unk u' dF' r5.1 gr i3 i2
        rw [sbox (t := tb) ej0'] at z
        refine ⟨?_, lσ, rfl⟩
        show RelR K N G' F' (σ ++ boxes (setBox S' a (setT u' (p0 :: ps) tb))) (ε ++ (setBox S' a (setT u' (p0 :: ps) tb)).map (·.2)) H'
        rw [boxes_set]
        exact z
      refine call_now r4 q (fun t ts' S' w G' H' kk gr r5 => ?_) (fun C p' ts' S' d G' H' kk gr r5 y => ?_)
      · obtain ⟨u', eu, eb, kk⟩ := oGet_elim kk
        cases ts' with
        | nil => cases eu
        | cons x ts' =>
          have eu := Option.some.inj (show some x = some u' from eu)
          subst eu
          obtain ⟨ht, rt, st, dft, dgt, rk2⟩ := r5.park1
          obtain ⟨dt1, dt2⟩ := disj_un'.mp dft
          have rk3 := rk2.keep1
          rw [un_swap dt2.symm] at rk3
          have z := put (disj_un'.mpr ⟨dF, dt2.symm⟩) gr eb rk3
          exact o _ _ _ _ _ _ kk gr.unF (RelT.unpark (vs := [w]) (us := [t]) (repTs1 rt) dt1 dgt Gr.refl z)
      · obtain ⟨u', eu, eb, kk⟩ := oGet_elim kk
        cases ts' with
        | nil => cases eu
        | cons x ts' =>
          have eu := Option.some.inj (show some x = some u' from eu)
          subst eu
          exact ox _ _ _ _ _ _ _ kk gr.unF (put dF gr eb r5.keep1) y
theorem plT_bw {pl : Pl} {t : T} {v : V} (r : Rel K N G F ε S σ H) (e : plT ε S pl = some t) (va : VAt H σ pl v) (nu : t ≠ .unk) : Bw K N G H v t := by
  obtain ⟨rt, p⟩ := pl
  have gen : getP ε S ⟨rt, p⟩ = some t → Bw K N G H v t := fun g => by
    obtain ⟨h, rr, sh, _⟩ := Rel.place r g nu va
    exact ⟨h, rr, sh⟩
  cases rt with
  | slot i => exact gen (by cases p <;> exact e)
  | box a =>
    cases p with
    | nil =>
      have e : some (T.val (.obj a)) = some t := e
      cases e
      have va : some (V.ref a) = some v := va
      cases va
      exact Bw.of (.obj a)
    | cons _ _ => exact gen e
theorem conc_methP (h : concE K N W fx (eMethP C m n aF rp rc) σ H Q) : zMeth (N.at C) (Str.ofString m) (spOf K N n aF) (WE W) (concP K N rp) (concAC K N rc) σ H Q := by
  obtain ⟨G, F, P, ε, S, A, K', r, fi, fn, q, k, z⟩ := h
  refine ⟨G, F, ε, S, _, r, q, fun pl v G1 H1 q1 e1 va => ?_⟩
  obtain ⟨t, et, hi, q1⟩ := oGet_elim q1
  have r1 := r.ext e1
  refine ins_ok r1 (plT_bw r1 et va (insOk_nu hi)) hi ?_
  refine ⟨G1, F, ε, S, _, r1, q1, fun ds vs G2 H2 q2 e2 rd => ?_⟩
  obtain ⟨hn, q2⟩ := q2
  have e0 : (v :: vs).length = n := by rw [List.length_cons, rd.len]; exact hn
  rw [← e0]
  have g12 := (e1.trans e2).gr r.fh
  exact callP_ok (r1.ext e2) (va.same e2.hh) rd q2 (fun t ε' S' w G' H' kk gr r5 => k _ _ _ _ _ _ kk (g12.trans gr) r5) (fun C p ε' S' d G' H' kk gr r5 y => z C p ε' S' G' σ H' d kk (g12.trans gr) r5 fi y)
end
end Y
/-! Yp: slices, d.get, try. -/
namespace Y
open PySem PySem.Spec PyProof.Rows L2 Z

/-! slices -/
def cutL {α : Type} (xs : List α) (lo hi : Option Int) : List α := (xs.drop (HT.sIx xs.length 0 lo)).take (HT.sIx xs.length xs.length hi - HT.sIx xs.length 0 lo)
def oSl (x : T) (lo hi : Option Int) (K' : KC) : Prop := match x with
  | .val (.str z) => z.length ≤ sizeLine ∧ K' (.val (.str (cutS z lo hi)))
  | x => match x.ds with
    | some (.lst, ds) => K' (.nd .lst ((cutL ds lo hi).map .val))
    | some (.slst, ds) => K' (.nd .lst ((cutL ds lo hi).map .val))
    | some (.tup, ds) => K' (.val (.tup (cutL ds lo hi)))
    | _ => False
abbrev RO := Env → Sg → (Option Int → Prop) → Prop
def oNo : RO := fun _ _ k => k none
def oPart (a : RC) : RO := fun ε S k => a ε S fun t => match t with | .val (.int i) => k (some i) | _ => False
def aSl (a : RC) (l h : RO) : RC := fun ε S K' => a ε S fun t => l ε S fun lo => h ε S fun hi => oSl t lo hi K'
def aSlN (a : RC) (l h : RO) : RE := fun _ ε S K' => a ε S fun t => l ε S fun lo => h ε S fun hi => oSl t lo hi fun r => K' r ε S
def eSl (x : RE) (l h : RO) : RE := fun A ε S K' => x A ε S fun t ε1 S1 => l ε1 S1 fun lo => h ε1 S1 fun hi => oSl t lo hi fun r => K' r ε1 S1
section
variable {K : PySem.W.Frag} {N : Nm} {W : WX} {fx : Nat → Bool} {σ : L2.St} {H : Hp} {Q : VK} {a b c : RC} {x : RE} {l h : RO} {G : Hp}
def concO (K : PySem.W.Frag) (N : Nm) (l : RO) : TO := fun σ H Q => ∃ G F ε S K', Rel K N G F ε S σ H ∧ l ε S K' ∧ ∀ o G' H', K' o → Ext G H G' H' → Q o H'
theorem conc_noO {QO : Option Int → Hp → Prop} (h : concO K N oNo σ H QO) : tNoPart σ H QO := by
  obtain ⟨G, F, ε, S, K', r, q, k⟩ := h
  exact k _ _ _ q (Ext.refl r.gh)
theorem conc_part {QO : Option Int → Hp → Prop} (h : concO K N (oPart a) σ H QO) : tPart (concC K N a) σ H QO := by
  obtain ⟨G, F, ε, S, K', r, q, k⟩ := h
  refine ⟨G, F, ε, S, _, r, q, fun t v G1 H1 q1 e1 b1 => ?_⟩
  split at q1
  · exact ⟨_, bw_int b1, k _ _ _ q1 e1⟩
  · exact q1.elim
theorem rpAll_cut {vs : List V} {ds : List D} {lo hi : Option Int} (r : RpAll K N G vs ds) : RpAll K N G (cutV vs lo hi) (cutL ds lo hi) := by
  unfold cutV cutL
  rw [r.len]
  exact rpAll_take _ (rpAll_drop _ r)
theorem sl_core {x : V} {t : T} {lo hi : Option Int} {K' : KC} (sr : SameR G H) (bx : Bw K N G H x t) (q : oSl t lo hi K') (o : Out K N G H K' Q) : zSl K x lo hi H Q := by
  unfold oSl at q
  split at q
  · rename_i z
    cases bw_str bx
    exact .inr (.inr ⟨z, rfl, q.1, o.sc sr (.str _) q.2⟩)
  · split at q
    · rename_i ds e
      obtain ⟨a, vs, rfl, hat, ra⟩ := bw_ds bx e sr
      exact .inl ⟨a, vs, rfl, at_sqL (N := N) hat, fun p n => o.lst sr (rpAll_cut ra) q n⟩
    · rename_i ds e
      obtain ⟨a, vs, rfl, hat, ra⟩ := bw_ds bx e sr
      exact .inl ⟨a, vs, rfl, hat, fun p n => o.lst sr (rpAll_cut ra) q n⟩
    · rename_i ds e
      have tb := bw_tup bx e
      obtain ⟨a, vs, rfl, hat, ra⟩ := rp_tupD tb sr
      refine .inr (.inl ⟨a, vs, rfl, hat, fun ⟨h1, h2⟩ => ?_, fun _ p n => o.tup sr (rpAll_cut ra) q n⟩)
      have : cutL ds lo hi = ds := by
        unfold cutL
        rw [← ra.len, h1, h2, List.drop_zero, Nat.sub_zero, ra.len, List.take_length]
      rw [this] at q
      exact o.sc sr tb q
    · exact q.elim
theorem conc_sl (hh : concC K N (aSl a l h) σ H Q) : tSl (zSl K) (concC K N a) (concO K N l) (concO K N h) σ H Q := by
  obtain ⟨G, F, ε, S, K', r, q, k⟩ := hh
  refine ⟨G, F, ε, S, _, r, q, fun t v G1 H1 q1 e1 b1 => ?_⟩
  refine ⟨G1, F, ε, S, _, r.ext e1, q1, fun lo G2 H2 q2 e2 => ?_⟩
  refine ⟨G2, F, ε, S, _, (r.ext e1).ext e2, q2, fun hi G3 H3 q3 e3 => ?_⟩
  have e13 := (e1.trans e2).trans e3
  exact sl_core e3.gh (b1.ext (e2.trans e3)) q3 fun t' v' G4 H4 h4 k4 e4 r4 s4 _ => k _ _ _ _ k4 (e13.trans e4) ⟨h4, r4, s4⟩
theorem conc_slN (hh : concE K N W fx (aSlN a l h) σ H Q) : tSl (zSl K) (concC K N a) (concO K N l) (concO K N h) σ H Q := by
  obtain ⟨G, F, P, ε, S, A, K', r, fi, fn, q, k, z⟩ := hh
  refine ⟨G, F, ε, S, _, r, q, fun t v G1 H1 q1 e1 b1 => ?_⟩
  refine ⟨G1, F, ε, S, _, r.ext e1, q1, fun lo G2 H2 q2 e2 => ?_⟩
  refine ⟨G2, F, ε, S, _, (r.ext e1).ext e2, q2, fun hi G3 H3 q3 e3 => ?_⟩
  have e13 := (e1.trans e2).trans e3
  exact sl_core e3.gh (b1.ext (e2.trans e3)) q3 fun t' v' G4 H4 h4 k4 e4 r4 s4 fr => k _ _ _ _ _ _ k4 ((e13.trans e4).gr r.fh) ((r.ext e13).new e4 r4 s4 fr)
theorem conc_esl (hh : concE K N W fx (eSl x l h) σ H Q) : tSl (zSl K) (concE K N W fx x) (concO K N l) (concO K N h) σ H Q := by
  obtain ⟨G, F, P, ε, S, A, K', r, fi, fn, q, k, z⟩ := hh
  refine ⟨G, F, P, ε, S, A, _, r, fi, fn, q, fun t v ε1 S1 G1 H1 q1 g1 r1 => ?_, z⟩
  have rd := r1.drop1
  refine ⟨G1, F, ε1, S1, _, rd, q1, fun lo G2 H2 q2 e2 => ?_⟩
  refine ⟨G2, F, ε1, S1, _, rd.ext e2, q2, fun hi G3 H3 q3 e3 => ?_⟩
  have e23 := e2.trans e3
  exact sl_core e3.gh (r1.bw.ext e23) q3 fun t' v' G4 H4 h4 k4 e4 r4 s4 fr => k _ _ _ _ _ _ k4 (g1.trans ((e23.trans e4).gr rd.fh)) ((rd.ext e23).new e4 r4 s4 fr)

/-! d.get -/
def aGet1 (a b : RC) : RC := fun ε S K' => a ε S fun t => match t.kids with
  | some (.dk ks, ts) => b ε S fun u => (match u with | .val d => oGet d.k1 fun k => K' ((getK ks ts k).getD (.val .non)) | _ => False)
  | some (.dt ks, ts) => b ε S fun u => (match u with | .val d => oGet d.kt fun k => K' ((getK ks ts k).getD (.val .non)) | _ => False)
  | _ => False
def aGet2 (a b c : RC) : RC := fun ε S K' => a ε S fun t => match t.kids with
  | some (.dk ks, ts) => b ε S fun u => c ε S fun w => (match u with | .val d => oGet d.k1 fun k => K' ((getK ks ts k).getD w) | _ => False)
  | some (.dt ks, ts) => b ε S fun u => c ε S fun w => (match u with | .val d => oGet d.kt fun k => K' ((getK ks ts k).getD w) | _ => False)
  | _ => False
theorem getK_ok {κ : Type} [DecidableEq κ] {ks : List κ} {ts : List T} {vs : List V} {k : κ} {w : V} {u : T} (l : ks.length = vs.length) (lt : vs.length = ts.length) (hk : ∀ (j : Nat) (c : T), ts[j]? = some c → ∃ w, vs[j]? = some w ∧ Bw K N G H w c) (bu : Bw K N G H w u) :
    Bw K N G H ((valV (ks.zip vs) k).getD w) ((getK ks ts k).getD u) := by
  rw [valV_ix l]
  unfold getK
  cases q : ixK ks k with
  | none => exact bu
  | some j =>
    have hj := ixK_lt q
    obtain ⟨w', e1, b⟩ := hk j _ (List.getElem?_eq_getElem (by omega : j < ts.length))
    rw [Option.bind_some, Option.bind_some, e1, List.getElem?_eq_getElem (by omega : j < ts.length)]
    exact b
theorem kids_isD {t : T} {v : V} {s : Sh} {ts : List T} (b : Bw K N G H v t) (sr : SameR G H) (e : t.kids = some (s, ts)) (hs : (∃ ks, s = .dk ks) ∨ ∃ ks, s = .dt ks) : ∃ a, v = .ref a ∧ IsD H a := by
  obtain ⟨a, vs, rfl, hat, _⟩ := bw_kids b e sr
  rcases hs with ⟨ks, rfl⟩ | ⟨ks, rfl⟩
  · exact ⟨a, rfl, .inl ⟨_, hat.1⟩⟩
  · exact ⟨a, rfl, .inr ⟨_, hat.1⟩⟩
theorem conc_get1 (hh : concC K N (aGet1 a b) σ H Q) : tDGet1 (concC K N a) (concC K N b) σ H Q := by
  obtain ⟨G, F, ε, S, K', r, q, k⟩ := hh
  refine ⟨G, F, ε, S, _, r, q, fun t v G1 H1 q1 e1 b1 => ?_⟩
  split at q1
  · rename_i ks ts e
    obtain ⟨ad, rfl, hD⟩ := kids_isD b1 e1.gh e (.inl ⟨_, rfl⟩)
    refine ⟨ad, rfl, hD, G1, F, ε, S, _, r.ext e1, q1, fun u y G2 H2 q2 e2 b2 => ?_⟩
    split at q2
    · obtain ⟨kk, ek, q2⟩ := oGet_elim q2
      obtain ⟨ad', vs, ea, ⟨hd, hl⟩, lt, hk, _⟩ := bw_kids (b1.ext e2) e e2.gh
      cases ea
      exact ⟨valV (ks.zip vs) kk, .inl ⟨_, kk, hd, rp_k1 b2.val ek, rfl⟩, k _ _ _ _ q2 (e1.trans e2) (getK_ok hl lt hk (Bw.of .non))⟩
    · exact q2.elim
  · rename_i ks ts e
    obtain ⟨ad, rfl, hD⟩ := kids_isD b1 e1.gh e (.inr ⟨_, rfl⟩)
    refine ⟨ad, rfl, hD, G1, F, ε, S, _, r.ext e1, q1, fun u y G2 H2 q2 e2 b2 => ?_⟩
    split at q2
    · obtain ⟨kk, ek, q2⟩ := oGet_elim q2
      obtain ⟨ad', vs, ea, ⟨hd, hl⟩, lt, hk, _⟩ := bw_kids (b1.ext e2) e e2.gh
      cases ea
      obtain ⟨b', e4, e5⟩ := rp_kt b2.val ek e2.gh
      exact ⟨valV (ks.zip vs) kk, .inr ⟨_, kk, b', hd, e4, e5, rfl⟩, k _ _ _ _ q2 (e1.trans e2) (getK_ok hl lt hk (Bw.of .non))⟩
    · exact q2.elim
  · exact q1.elim
theorem conc_get2 (hh : concC K N (aGet2 a b c) σ H Q) : tDGet2 (concC K N a) (concC K N b) (concC K N c) σ H Q := by
  obtain ⟨G, F, ε, S, K', r, q, k⟩ := hh
  refine ⟨G, F, ε, S, _, r, q, fun t v G1 H1 q1 e1 b1 => ?_⟩
  split at q1
  · rename_i ks ts e
    obtain ⟨ad, rfl, hD⟩ := kids_isD b1 e1.gh e (.inl ⟨_, rfl⟩)
    refine ⟨ad, rfl, hD, G1, F, ε, S, _, r.ext e1, q1, fun u y G2 H2 q2 e2 b2 => ?_⟩
    refine ⟨G2, F, ε, S, _, (r.ext e1).ext e2, q2, fun w z G3 H3 q3 e3 b3 => ?_⟩
    split at q3
    · obtain ⟨kk, ek, q3⟩ := oGet_elim q3
      obtain ⟨ad', vs, ea, ⟨hd, hl⟩, lt, hk, _⟩ := bw_kids (b1.ext (e2.trans e3)) e e3.gh
      cases ea
      exact ⟨valV (ks.zip vs) kk, .inl ⟨_, kk, hd, rp_k1 b2.val ek, rfl⟩, k _ _ _ _ q3 ((e1.trans e2).trans e3) (getK_ok hl lt hk b3)⟩
    · exact q3.elim
  · rename_i ks ts e
    obtain ⟨ad, rfl, hD⟩ := kids_isD b1 e1.gh e (.inr ⟨_, rfl⟩)
    refine ⟨ad, rfl, hD, G1, F, ε, S, _, r.ext e1, q1, fun u y G2 H2 q2 e2 b2 => ?_⟩
    refine ⟨G2, F, ε, S, _, (r.ext e1).ext e2, q2, fun w z G3 H3 q3 e3 b3 => ?_⟩
    split at q3
    · obtain ⟨kk, ek, q3⟩ := oGet_elim q3
      obtain ⟨ad', vs, ea, ⟨hd, hl⟩, lt, hk, _⟩ := bw_kids (b1.ext (e2.trans e3)) e e3.gh
      cases ea
      obtain ⟨b', e4, e5⟩ := rp_kt (b2.val.up e3.gg) ek e3.gh
      exact ⟨valV (ks.zip vs) kk, .inr ⟨_, kk, b', hd, e4, e5, rfl⟩, k _ _ _ _ q3 ((e1.trans e2).trans e3) (getK_ok hl lt hk b3)⟩
    · exact q3.elim
  · exact q1.elim

/-! try -/
def pick (A : AD) : List (Cl × AS) → Cl → List (String × D) → Env → Sg → Prop
  | [], C, p, ε, S => A.ex C p ε S
  | (X, s) :: r, C, p, ε, S => if C.sub X = true then s { A with ex := noX } ε S else pick A r C p ε S
def sTry (Xs : List Cl) (b : AS) (hs : List (Cl × AS)) : AS := fun A ε S => b { A with ex := fun C p ε' S' => C ∈ Xs ∧ pick A hs C p ε' S' } ε S
theorem conc_try {Xs : List Cl} {b : AS} {hs : List (Cl × AS)} {Ds : Ends} (hex : ∀ C ∈ Xs, ∀ X ∈ hs.map (·.1), PySem.W.exmOne K (.ref (N.at C)) (.ref (N.at X)) = some (C.sub X)) (h : concS K N W fx (sTry Xs b hs) Ds σ H) :
    zTry K (fun Wv => concS K N Wv fx b) W (hs.map fun p => (.ref (N.at p.1), fun _ _ _ => concS K N W0 fx p.2)) Ds σ H := by
  obtain ⟨G, F, P, ε, S, A, r, fi, fn, q, e⟩ := h
  refine ⟨G, F, P, ε, S, _, r, fi, fn, q, e.nx, e.bk, e.ct, e.rt, ?_⟩
  rintro C p ε' S' G' σ' H' d ⟨hC, pk⟩ g r' f' y
  have gen : ∀ hs : List (Cl × AS), (∀ X ∈ hs.map (·.1), PySem.W.exmOne K (.ref (N.at C)) (.ref (N.at X)) = some (C.sub X)) → pick A hs C p ε' S' →
      wMany K W Ds (hs.map fun p => (.ref (N.at p.1), fun _ _ _ => concS K N W0 fx p.2)) (.ref (N.at C)) d σ' H' := by
    intro hs
    induction hs with
    | nil => intro _ pk; exact e.ex C p ε' S' G' σ' H' d pk g r' f' y
    | cons hd hs ih =>
      intro hx pk
      obtain ⟨X, s⟩ := hd
      refine ⟨C.sub X, hx X (List.mem_cons_self ..), fun c a _ => ?_, fun c => ?_⟩
      · unfold pick at pk
        rw [if_pos c] at pk
        have e' := e.up g
        exact ⟨G', F, P, ε', S', _, r', f', fn, pk, e'.nx, e'.bk, e'.ct, e'.rt, xrel0⟩
      · unfold pick at pk
        rw [if_neg (by rw [c]; decide)] at pk
        exact ih (fun X m => hx X (List.mem_cons_of_mem _ m)) pk
  exact gen hs (fun X m => hex C hC X m) pk
end
end Y
/-! Yq: what the generator leans on. -/
namespace Y
open PySem PySem.Spec PyProof.Rows L2 Z

def fxs (l : List Bool) : Nat → Bool := fun i => l.getD i false
theorem fxs_lt {l : List Bool} {n : Nat} (h : l.length = n) : ∀ i, fxs l i = true → i < n := fun i e => by
  rw [← h]
  refine Classical.byContradiction fun c => ?_
  unfold fxs at e
  rw [List.getD_eq_getElem?_getD, List.getElem?_eq_none (by omega)] at e
  cases e
theorem pi_weak {X : Cx} {tg e : Expr} {t t' : TI} (h : PI X tg e t) (k : ∀ σ H Q, t' σ H Q → t σ H Q) : PI X tg e t' := ⟨fun pins s σ H Q I q => h.run pins s σ H Q I (k σ H Q q)⟩
theorem po_weak {X : Cx} {e : Option Expr} {t t' : TO} (h : PO X e t) (k : ∀ σ H Q, t' σ H Q → t σ H Q) : PO X e t' := ⟨fun pins s σ H Q I q => h.run pins s σ H Q I (k σ H Q q)⟩
theorem hrd_add : ∀ (i j : Int) (H : Hp) (Q : VK), Q (.int (i + j)) H → rAdd (.int i) (.int j) H Q := fun i j H Q q => by rw [o_rAdd]; exact q
theorem hrd_sub : ∀ (i j : Int) (H : Hp) (Q : VK), Q (.int (i - j)) H → rSub (.int i) (.int j) H Q := fun i j H Q q => by rw [o_rSub]; exact q
section
variable {K : PySem.W.Frag} {N : Nm} {W : WX} {fx : Nat → Bool} {σ : L2.St} {H : Hp} {Q : VK} {rp : RP} {a : RC}
theorem rpAll_strs {G : Hp} : ∀ ss : List Str, RpAll K N G (ss.map V.str) (ss.map .str)
  | [] => .nil
  | s :: ss => .cons (.str s) (rpAll_strs ss)
/-- a tuple of words that the module has written -/
theorem rp_const {ad : Addr} {ss : List Str} (h : KTup K ad (ss.map V.str)) (h0 : ss ≠ []) (hl : (ss.all fun s => decide (2 ≤ s.length)) = true) : ∀ G, Rp K N G (.ref ad) (.tup (ss.map .str)) := fun G => by
  refine .nd (.inr ⟨h, ⟨fun e => h0 (List.map_eq_nil_iff.mp e), fun v m => ?_⟩⟩) (rpAll_strs ss)
  obtain ⟨s, hs, rfl⟩ := List.mem_map.mp m
  exact ⟨s, rfl, of_decide_eq_true (List.all_eq_true.mp hl s hs)⟩
/-- what stands at a place gets frozen -/
def eFrzP (r : RP) : RE := fun _ ε S K' => r ε S fun pl => match plT ε S pl with
  | some (.val d) => K' (.val d) ε S
  | some t => t.fz = true ∧ K' (.val t.frz) (setE ε pl (.val t.frz)) (setS S pl (.val t.frz))
  | none => False
theorem conc_frzP (h : concE K N W fx (eFrzP rp) σ H Q) : concP K N rp σ H Q := by
  obtain ⟨G, F, P, ε, S, A, K', r, fi, fn, q, k, z⟩ := h
  refine ⟨G, F, ε, S, _, r, q, fun pl v G1 H1 q1 e1 va => ?_⟩
  have r1 := r.ext e1
  have g1 := e1.gr r.fh (F := F)
  split at q1
  · rename_i d e
    exact k _ _ _ _ _ _ q1 g1 (r1.have (plT_bw r1 e va (fun z => nomatch z)).val)
  · rename_i t nv e
    obtain ⟨fz, q1⟩ := q1
    obtain ⟨rt, p⟩ := pl
    cases rt with
    | slot i =>
      have e : (ε[i]?).bind (getT p) = some t := by cases p <;> exact e
      cases q2 : ε[i]? with
      | none => rw [q2] at e; cases e
      | some c =>
        rw [q2] at e
        obtain ⟨v0, w, G2, e3, va2, g2, rp2, r2⟩ := r1.1.freeze (env_get q2) e fz
        obtain ⟨w', e4, e5⟩ := va
        rw [slot_get r1.2.1 (List.getElem?_eq_some_iff.mp q2).1 e3] at e4
        cases e4
        rw [va2] at e5
        cases e5
        have es : setE ε ⟨.slot i, p⟩ (.val t.frz) = ε.set i (setT (.val t.frz) p c) := by
          show (match ε[i]? with | some c => ε.set i (setT (.val t.frz) p c) | none => ε) = _
          rw [q2]
        rw [es] at q1
        have r2 : RelR K N G2 F (σ ++ boxes S) ((ε ++ S.map (·.2)).set i (setT (.val t.frz) p c)) H1 := r2
        rw [env_set q2] at r2
        have r3 : Rel K N G2 F (ε.set i (setT (.val t.frz) p c)) S σ H1 := ⟨r2, by rw [List.length_set]; exact r1.2.1, rfl⟩
        exact k _ _ _ _ _ _ q1 (g1.trans g2) (r3.have rp2)
    | box b =>
      cases p with
      | nil =>
        have e : some (T.val (.obj b)) = some t := e
        cases e
        exact (nv _ rfl).elim
      | cons p0 ps =>
        have e : (boxOf S b).bind (getT (p0 :: ps)) = some t := e
        cases q2 : boxOf S b with
        | none => rw [q2] at e; cases e
        | some c =>
          rw [q2] at e
          obtain ⟨j, ej0, ej⟩ := boxOf_ix q2
          have lσ := r1.2.1
          have i1 : (ε ++ S.map (·.2))[ε.length + j]? = some c := by
            rw [List.getElem?_append_right (by omega)]
            have : ε.length + j - ε.length = j := by omega
            rw [this, List.getElem?_map, ej]; rfl
          obtain ⟨v0, w, G2, e3, va2, g2, rp2, r2⟩ := r1.1.freeze i1 e fz
          have e3 : (σ ++ boxes S)[ε.length + j]? = some (some v0) := e3
          rw [List.getElem?_append_right (by omega)] at e3
          have o1 : ε.length + j - σ.length = j := by omega
          rw [o1] at e3
          unfold boxes at e3
          rw [List.getElem?_map, ej] at e3
          have e3 := Option.some.inj (Option.some.inj e3)
          subst e3
          have e5 : vAt H1 (p0 :: ps) (.ref b) = some v := va
          rw [va2] at e5
          cases e5
          have es : setS S ⟨.box b, p0 :: ps⟩ (.val t.frz) = setBox S b (setT (.val t.frz) (p0 :: ps) c) := by
            show (match boxOf S b with | some c => setBox S b (setT (.val t.frz) (p0 :: ps) c) | none => S) = _
            rw [q2]
          rw [es] at q1
          have r2 : RelR K N G2 F (σ ++ boxes S) ((ε ++ S.map (·.2)).set (ε.length + j) (setT (.val t.frz) (p0 :: ps) c)) H1 := r2
          have eS : (ε ++ S.map (·.2)).set (ε.length + j) (setT (.val t.frz) (p0 :: ps) c) = ε ++ (setBox S b (setT (.val t.frz) (p0 :: ps) c)).map (·.2) := by
            rw [List.set_append_right _ _ (by omega), setBox_snd ej0]
            have : ε.length + j - ε.length = j := by omega
            rw [this]
          rw [eS] at r2
          have r3 : Rel K N G2 F ε (setBox S b (setT (.val t.frz) (p0 :: ps) c)) σ H1 := by
            refine ⟨?_, lσ, rfl⟩
            show RelR K N G2 F (σ ++ boxes (setBox S b (setT (.val t.frz) (p0 :: ps) c))) _ H1
            rw [boxes_set]
            exact r2
          exact k _ _ _ _ _ _ q1 (g1.trans g2) (r3.have rp2)
  · exact q1.elim
/-- the script: a list to be read -/
theorem law_pre {ad : Addr} {ns : List Int} (hS : SqL K H ad (ns.map V.int)) : ∃ G F, RelT K N G F [.ref ad] [.val (.nd .slst (ns.map .int))] [] [] [] H := by
  refine ⟨H, emp, ⟨SameR.refl H, same_emp, un emp emp, .cons (.val (.nd hS ?_)) .nil emp_disj, same_emp, emp_disj, emp_disj⟩, rfl, rfl⟩
  induction ns with
  | nil => exact .nil
  | cons n ns ih => exact ints_rp (n :: ns)
theorem test_mono {t t' : TE} {QB : Bool → Hp → Prop} (f : ∀ σ H Q, t' σ H Q → t σ H Q) (h : tTest t' σ H QB) : tTest t σ H QB := f _ _ _ h
theorem asg_mono {t t' : TE} {g : TG} {Ds : Ends} (f : ∀ σ H Q, t' σ H Q → t σ H Q) (h : tAsg t' g Ds σ H) : tAsg t g Ds σ H := f _ _ _ h
variable {aF : AFun} {n : Nat} {C : Cl} {m : String} {i : Nat} {x : RE}
theorem conc_call0 (h : concE K N W fx (aCall n aF arNil) σ H Q) : tCallS (spOf K N n aF) (WE W) tNil σ H Q := conc_arNil (conc_call h)
theorem conc_make0 (h : concE K N W fx (eMake C n aF arNil) σ H Q) : zMake (N.at C) (spOf K N n aF) (WE W) tNil σ H Q := conc_arNil (conc_make h)
theorem zMethV_mono {c : Addr} {m : Str} {v : V} {P P' : Prop} (f : P → P') (h : zMethV c m v H P) : zMethV c m v H P' := by
  obtain ⟨a, dx, fs, e1, e2, e3, p⟩ := h
  exact ⟨a, dx, fs, e1, e2, e3, f p⟩
theorem conc_methV0 (h : concE K N W fx (eMethV C m n aF i arNil) σ H Q) : zMeth (N.at C) (Str.ofString m) (spOf K N n aF) (WE W) (zVar i) tNil σ H Q := by
  have h := conc_methV h
  unfold zMeth zVar at h ⊢
  split at h
  · exact zMethV_mono (fun p => conc_arNil p) h
  · exact h.elim
theorem conc_methE0 (h : concE K N W fx (eMethE C m n aF x arNil) σ H Q) : zMeth (N.at C) (Str.ofString m) (spOf K N n aF) (WE W) (concE K N W fx x) tNil σ H Q := by
  obtain ⟨G, F, P, ε, S, A, K', r, fi, fn, q, k, z⟩ := conc_methE h
  exact ⟨G, F, P, ε, S, A, K', r, fi, fn, q, fun t v ε' S' G' H' a b c => zMethV_mono (fun p => conc_arNil p) (k t v ε' S' G' H' a b c), z⟩
theorem conc_methP0 (h : concE K N W fx (eMethP C m n aF rp acNil) σ H Q) : zMeth (N.at C) (Str.ofString m) (spOf K N n aF) (WE W) (concP K N rp) tNil σ H Q := by
  obtain ⟨G, F, ε, S, K', r, q, k⟩ := conc_methP h
  exact ⟨G, F, ε, S, K', r, q, fun pl v G' H' a b c => zMethV_mono (fun p => conc_nilC p) (k pl v G' H' a b c)⟩
/-- the law's own promise -/
theorem law_of {vs : List V} {E : XK} {ad : Addr} {ns : List Int} (e : vs = [.ref ad]) (hS : SqL K H ad (ns.map V.int)) (hQ : ∀ H', Q (.bl true) H') (h : aF [.val (.nd .slst (ns.map .int))] [] (fun t _ _ => t = .val (.bl true)) (fun _ _ _ _ => False)) : spOf K N 1 aF vs H Q E := by
  subst e
  obtain ⟨G, F, r⟩ := law_pre (K := K) (N := N) hS
  refine ⟨G, F, _, [], _, _, rfl, r, h, fun t ts' S' v G' H' a _ r' => ?_, fun _ _ _ _ _ _ _ a => a.elim⟩
  subst a
  rw [bw_bl r'.bw]
  exact hQ H'
end
end Y
/-! Yr: proofs over readings. -/
namespace Y
open PySem PySem.Spec PyProof.Rows L2 Z

theorem iteI {c : Prop} [Decidable c] {A B : Prop} (h1 : c → A) (h2 : ¬c → B) : if c then A else B := by
  by_cases h : c
  · rw [if_pos h]; exact h1 h
  · rw [if_neg h]; exact h2 h
theorem oGetI {α : Type} {o : Option α} {k : α → Prop} {c : α} (e : o = some c) (h : k c) : oGet o k := by rw [e]; exact h
theorem isV_val {d : D} {k : KC} : isV k (.val d) = k (.val d) := propext ⟨fun ⟨d', e, h⟩ => by cases e; exact h, fun h => ⟨d, rfl, h⟩⟩
theorem map_snoc {ds : List D} {d : D} : ds.map T.val ++ [T.val d] = (ds ++ [d]).map T.val := by rw [List.map_append]; rfl
theorem map_app {ds es : List D} : ds.map T.val ++ es.map T.val = (ds ++ es).map T.val := List.map_append.symm
theorem frzs_map : ∀ {ds : List D}, frzs (ds.map T.val) = ds
  | [] => rfl
  | d :: ds => by rw [List.map_cons, frzs, frzs_map, T.frz]
theorem fzs_map : ∀ {ds : List D}, fzs (ds.map T.val) = true
  | [] => rfl
  | d :: ds => by rw [List.map_cons, fzs, fzs_map, T.fz]; rfl
theorem fz_nl {sh : Sh} {ds : List D} : (T.nd sh (ds.map .val)).fz = true := by unfold T.fz; exact fzs_map
theorem frz_nl {sh : Sh} {ds : List D} : (T.nd sh (ds.map .val)).frz = .nd sh ds := by unfold T.frz; rw [frzs_map]
theorem fz_v {d : D} : (T.val d).fz = true := by unfold T.fz; rfl
theorem frz_v {d : D} : (T.val d).frz = d := by unfold T.frz; rfl
theorem ds_lst {ds : List D} : T.ds (.nd .lst (ds.map .val)) = some (.lst, ds) := ds_nd
theorem eqv_self {d : D} (h : d.good 64) : PyData.eqv d.py d.py = true := SeqAt.eqv_refl _ (good_lay 64 h).1
/-! ### forms of the operators -/
section
variable {K' : KC} {kb : KB} {x y : T} {ds es : List D} {ts us : List T} {i j : Int} {s : Str} {d : D}
theorem o_len_str {z : Str} : oLen (.val (.str z)) K' = (z.length ≤ sizeLine ∧ K' (.val (.int (z.length : Nat)))) := rfl
theorem o_len_vl : oLen (.val (.nd .lst ds)) K' = K' (.val (.int (ds.length : Nat))) := by show K' (.val (.int ((ds.map T.val).length : Nat))) = _; rw [List.length_map]
theorem o_len_vt : oLen (.val (.nd .tup ds)) K' = K' (.val (.int (ds.length : Nat))) := by show K' (.val (.int ((ds.map T.val).length : Nat))) = _; rw [List.length_map]
theorem o_len_vs : oLen (.val (.nd .slst ds)) K' = K' (.val (.int (ds.length : Nat))) := by show K' (.val (.int ((ds.map T.val).length : Nat))) = _; rw [List.length_map]
theorem o_len_nl : oLen (.nd .lst ts) K' = K' (.val (.int (ts.length : Nat))) := rfl
theorem o_len_nk {ks : List Key} : oLen (.nd (.dk ks) ts) K' = K' (.val (.int (ts.length : Nat))) := rfl
theorem o_int_i : oInt (.val (.int i)) K' = K' (.val (.int i)) := rfl
theorem o_int_b {b : Bool} : oInt (.val (.bl b)) K' = K' (.val (.int (if b then 1 else 0))) := rfl
theorem o_int_s {a : Str} : oInt (.val (.str a)) K' = oGet (PySem.intText? a) fun n => a.length ≤ 640 ∧ K' (.val (.int n)) := rfl
theorem o_str_i : oStr (.val (.int i)) K' = (i.natAbs.log2 < 1920 ∧ K' (.val (.str (toString i)))) := rfl
theorem o_add_i : oAdd (.val (.int i)) (.val (.int j)) K' = K' (.val (.int (i + j))) := rfl
theorem o_add_s {a b : Str} : oAdd (.val (.str a)) (.val (.str b)) K' = (a.length + b.length ≤ sizeLine ∧ K' (.val (.str (a ++ b)))) := rfl
theorem o_add_tt : oAdd (.val (.nd .tup ds)) (.val (.nd .tup es)) K' = (ds.length + es.length ≤ sizeLine ∧ K' (.val (.nd .tup (ds ++ es)))) := rfl
theorem o_add_vv : oAdd (.val (.nd .lst ds)) (.val (.nd .lst es)) K' = (ds.length + es.length ≤ sizeLine ∧ K' (.nd .lst ((ds ++ es).map .val))) := rfl
theorem o_add_nn (hx : allVal ts = some ds) (hy : allVal us = some es) : oAdd (.nd .lst ts) (.nd .lst us) K' = (ds.length + es.length ≤ sizeLine ∧ K' (.nd .lst ((ds ++ es).map .val))) := by unfold oAdd; simp only [T.ds, hx, hy, Option.map_some]
theorem o_add_nv (hx : allVal ts = some ds) : oAdd (.nd .lst ts) (.val (.nd .lst es)) K' = (ds.length + es.length ≤ sizeLine ∧ K' (.nd .lst ((ds ++ es).map .val))) := by unfold oAdd; simp only [T.ds, hx, Option.map_some]
theorem o_add_vn (hy : allVal us = some es) : oAdd (.val (.nd .lst ds)) (.nd .lst us) K' = (ds.length + es.length ≤ sizeLine ∧ K' (.nd .lst ((ds ++ es).map .val))) := by unfold oAdd; simp only [T.ds, hy, Option.map_some]
theorem o_add_mm : oAdd (.nd .lst (ds.map .val)) (.nd .lst (es.map .val)) K' = (ds.length + es.length ≤ sizeLine ∧ K' (.nd .lst ((ds ++ es).map .val))) := o_add_nn (allVal_map _) (allVal_map _)
theorem o_add_m1 : oAdd (.nd .lst (ds.map .val)) (.nd .lst [.val d]) K' = (ds.length + 1 ≤ sizeLine ∧ K' (.nd .lst ((ds ++ [d]).map .val))) := o_add_nn (us := [.val d]) (es := [d]) (allVal_map _) rfl
theorem o_add_vm : oAdd (.val (.nd .lst ds)) (.nd .lst (es.map .val)) K' = (ds.length + es.length ≤ sizeLine ∧ K' (.nd .lst ((ds ++ es).map .val))) := o_add_vn (allVal_map _)
theorem o_add_mv : oAdd (.nd .lst (ds.map .val)) (.val (.nd .lst es)) K' = (ds.length + es.length ≤ sizeLine ∧ K' (.nd .lst ((ds ++ es).map .val))) := o_add_nv (allVal_map _)
theorem o_add_v1 : oAdd (.val (.nd .lst ds)) (.nd .lst [.val d]) K' = (ds.length + 1 ≤ sizeLine ∧ K' (.nd .lst ((ds ++ [d]).map .val))) := o_add_vn (us := [.val d]) (es := [d]) rfl
theorem o_sub_i : oSub (.val (.int i)) (.val (.int j)) K' = K' (.val (.int (i - j))) := rfl
theorem o_mul_i : oMul (.val (.int i)) (.val (.int j)) K' = (CMulB i j ∧ K' (.val (.int (i * j)))) := rfl
theorem o_mul_1 : oMul (.nd .lst [.val d]) (.val (.int i)) K' = (-(2 ^ 63) ≤ i ∧ i < 2 ^ 63 ∧ i.toNat ≤ sizeLine ∧ K' (.nd .lst ((List.replicate i.toNat d).map .val))) := by
  have e : (List.replicate i.toNat [d]).flatten = List.replicate i.toNat d := by
    induction i.toNat with
    | zero => rfl
    | succ n ih => rw [List.replicate_succ, List.flatten_cons, ih]; rfl
  show (-(2 ^ 63) ≤ i ∧ i < 2 ^ 63 ∧ [d].length * i.toNat ≤ sizeLine ∧ K' (.nd .lst ((List.replicate i.toNat [d]).flatten.map .val))) = _
  rw [e, List.length_singleton, Nat.one_mul]
theorem o_div_i : oDiv (.val (.int i)) (.val (.int j)) K' = (CDivW i j ∧ K' (.val (.int (i / j)))) := rfl
theorem o_mod_i : oMod (.val (.int i)) (.val (.int j)) K' = (0 < j ∧ K' (.val (.int (i % j)))) := rfl
theorem o_pow_i : oPow (.val (.int i)) (.val (.int j)) K' = (CPow i j ∧ K' (.val (.int (i ^ j.toNat)))) := rfl
theorem o_neg_i : oNeg (.val (.int i)) K' = K' (.val (.int (-i))) := rfl
theorem oEqN {α : Type} : oEqB (.val (.nd .tup ds)) (.val .non) kb = ((T.val (.nd .tup ds)).fz = true ∧ (T.val .non).fz = true ∧ (D.nd .tup ds).good 64 ∧ D.good 64 .non ∧ kb false) := rfl
theorem o_eq : oEq x y K' = oEqB x y fun b => K' (.val (.bl b)) := rfl
theorem o_ne : oNe x y K' = oEqB x y fun b => K' (.val (.bl (!b))) := rfl
theorem q_nn : oEqB (.val .non) (.val .non) kb = kb true := rfl
theorem q_ii : oEqB (.val (.int i)) (.val (.int j)) kb = kb (decide (i = j)) := rfl
theorem q_ss {a b : Str} : oEqB (.val (.str a)) (.val (.str b)) kb = kb (decide (a = b)) := rfl
theorem q_bb {a b : Bool} : oEqB (.val (.bl a)) (.val (.bl b)) kb = kb (decide (a = b)) := rfl
theorem q_ni : oEqB (.val .non) (.val (.int j)) kb = kb false := rfl
theorem q_in : oEqB (.val (.int j)) (.val .non) kb = kb false := rfl
theorem q_ns {a : Str} : oEqB (.val .non) (.val (.str a)) kb = kb false := rfl
theorem q_sn {a : Str} : oEqB (.val (.str a)) (.val .non) kb = kb false := rfl
theorem q_nb {a : Bool} : oEqB (.val .non) (.val (.bl a)) kb = kb false := rfl
theorem q_bn {a : Bool} : oEqB (.val (.bl a)) (.val .non) kb = kb false := rfl
theorem q_is {a : Str} : oEqB (.val (.int j)) (.val (.str a)) kb = kb false := rfl
theorem q_si {a : Str} : oEqB (.val (.str a)) (.val (.int j)) kb = kb false := rfl
/-- any two frozen things that are data -/
def qD (d e : D) (kb : KB) : Prop := d.good 64 ∧ e.good 64 ∧ kb (PyData.eqv d.py e.py)
theorem q_vnd {sh : Sh} : oEqB (.val d) (.val (.nd sh es)) kb = qD d (.nd sh es) kb := by
  have : oEqB (.val d) (.val (.nd sh es)) kb = ((T.val d).fz = true ∧ (T.val (.nd sh es)).fz = true ∧ (T.val d).frz.good 64 ∧ (T.val (.nd sh es)).frz.good 64 ∧ kb (PyData.eqv (T.val d).frz.py (T.val (.nd sh es)).frz.py)) := by cases d <;> rfl
  rw [this]
  exact propext ⟨fun h => h.2.2, fun h => ⟨rfl, rfl, h⟩⟩
theorem q_ndv {sh : Sh} : oEqB (.val (.nd sh ds)) (.val d) kb = qD (.nd sh ds) d kb := by
  have : oEqB (.val (.nd sh ds)) (.val d) kb = ((T.val (.nd sh ds)).fz = true ∧ (T.val d).fz = true ∧ (T.val (.nd sh ds)).frz.good 64 ∧ (T.val d).frz.good 64 ∧ kb (PyData.eqv (T.val (.nd sh ds)).frz.py (T.val d).frz.py)) := by cases d <;> rfl
  rw [this]
  exact propext ⟨fun h => h.2.2, fun h => ⟨rfl, rfl, h⟩⟩
theorem q_lv : oEqB (.nd .lst (ds.map .val)) (.val d) kb = qD (.nd .lst ds) d kb := by
  have : oEqB (.nd .lst (ds.map .val)) (.val d) kb = ((T.nd .lst (ds.map .val)).fz = true ∧ (T.val d).fz = true ∧ (T.nd .lst (ds.map .val)).frz.good 64 ∧ (T.val d).frz.good 64 ∧ kb (PyData.eqv (T.nd .lst (ds.map .val)).frz.py (T.val d).frz.py)) := by cases d <;> rfl
  rw [this, fz_nl, frz_nl, fz_v, frz_v]
  exact propext ⟨fun h => h.2.2, fun h => ⟨rfl, rfl, h⟩⟩
theorem q_vl : oEqB (.val d) (.nd .lst (ds.map .val)) kb = qD d (.nd .lst ds) kb := by
  have : oEqB (.val d) (.nd .lst (ds.map .val)) kb = ((T.val d).fz = true ∧ (T.nd .lst (ds.map .val)).fz = true ∧ (T.val d).frz.good 64 ∧ (T.nd .lst (ds.map .val)).frz.good 64 ∧ kb (PyData.eqv (T.val d).frz.py (T.nd .lst (ds.map .val)).frz.py)) := by cases d <;> rfl
  rw [this, fz_v, fz_nl, frz_nl, frz_v]
  exact propext ⟨fun h => h.2.2, fun h => ⟨rfl, rfl, h⟩⟩
theorem q_ll : oEqB (.nd .lst (ds.map .val)) (.nd .lst (es.map .val)) kb = qD (.nd .lst ds) (.nd .lst es) kb := by
  have : oEqB (.nd .lst (ds.map .val)) (.nd .lst (es.map .val)) kb = ((T.nd .lst (ds.map .val)).fz = true ∧ (T.nd .lst (es.map .val)).fz = true ∧ (T.nd .lst (ds.map .val)).frz.good 64 ∧ (T.nd .lst (es.map .val)).frz.good 64 ∧ kb (PyData.eqv (T.nd .lst (ds.map .val)).frz.py (T.nd .lst (es.map .val)).frz.py)) := rfl
  rw [this, fz_nl, fz_nl, frz_nl, frz_nl]
  exact propext ⟨fun h => h.2.2, fun h => ⟨rfl, rfl, h⟩⟩
theorem qD_self (h : d.good 64) (q : kb true) : qD d d kb := ⟨h, h, by rw [eqv_self h]; exact q⟩
theorem o_lt_i : oLt (.val (.int i)) (.val (.int j)) K' = K' (.val (.bl (decide (i < j)))) := rfl
theorem o_le_i : oLe (.val (.int i)) (.val (.int j)) K' = K' (.val (.bl (decide (i ≤ j)))) := rfl
theorem o_gt_i : oGt (.val (.int i)) (.val (.int j)) K' = K' (.val (.bl (decide (j < i)))) := rfl
theorem o_ge_i : oGe (.val (.int i)) (.val (.int j)) K' = K' (.val (.bl (decide (j ≤ i)))) := rfl
theorem o_is_nn : oIs (.val .non) (.val .non) K' = K' (.val (.bl true)) := rfl
theorem o_is_in : oIs (.val (.int i)) (.val .non) K' = K' (.val (.bl false)) := rfl
theorem o_is_sn {a : Str} : oIs (.val (.str a)) (.val .non) K' = K' (.val (.bl false)) := rfl
theorem o_is_bn {a : Bool} : oIs (.val (.bl a)) (.val .non) K' = K' (.val (.bl false)) := rfl
theorem o_is_dn {sh : Sh} : oIs (.val (.nd sh ds)) (.val .non) K' = K' (.val (.bl false)) := rfl
theorem o_is_on {a : Addr} : oIs (.val (.obj a)) (.val .non) K' = K' (.val (.bl false)) := rfl
theorem o_is_tn {sh : Sh} : oIs (.nd sh ts) (.val .non) K' = K' (.val (.bl false)) := rfl
theorem o_isn_nn : oIsNot (.val .non) (.val .non) K' = K' (.val (.bl false)) := rfl
theorem o_isn_in : oIsNot (.val (.int i)) (.val .non) K' = K' (.val (.bl true)) := rfl
theorem o_isn_sn {a : Str} : oIsNot (.val (.str a)) (.val .non) K' = K' (.val (.bl true)) := rfl
theorem o_isn_bn {a : Bool} : oIsNot (.val (.bl a)) (.val .non) K' = K' (.val (.bl true)) := rfl
theorem o_isn_dn {sh : Sh} : oIsNot (.val (.nd sh ds)) (.val .non) K' = K' (.val (.bl true)) := rfl
theorem o_isn_on {a : Addr} : oIsNot (.val (.obj a)) (.val .non) K' = K' (.val (.bl true)) := rfl
theorem o_isn_tn {sh : Sh} : oIsNot (.nd sh ts) (.val .non) K' = K' (.val (.bl true)) := rfl
theorem o_ix_s {z : Str} : oIx (.val (.str z)) (.val (.int i)) K' = (z.length ≤ sizeLine ∧ oGet (atI z.cps.toList i) fun c => K' (.val (.str ⟨#[c]⟩))) := rfl
theorem atI_mapF {α β : Type} {f : α → β} {xs : List α} {i : Int} : atI (xs.map f) i = (atI xs i).map f := by
  unfold atI
  rw [List.length_map]
  cases ixN xs.length i with
  | none => rfl
  | some j => simp
theorem oGet_map {α β : Type} {f : α → β} {o : Option α} {k : β → Prop} : oGet (o.map f) k = oGet o fun a => k (f a) := by cases o <;> rfl
theorem o_ix_vl : oIx (.val (.nd .lst ds)) (.val (.int i)) K' = oGet (atI ds i) fun d => K' (.val d) := by show oGet (atI (ds.map T.val) i) K' = _; rw [atI_mapF, oGet_map]
theorem o_ix_vt : oIx (.val (.nd .tup ds)) (.val (.int i)) K' = oGet (atI ds i) fun d => K' (.val d) := by show oGet (atI (ds.map T.val) i) K' = _; rw [atI_mapF, oGet_map]
theorem o_ix_vs : oIx (.val (.nd .slst ds)) (.val (.int i)) K' = oGet (atI ds i) fun d => K' (.val d) := by show oGet (atI (ds.map T.val) i) K' = _; rw [atI_mapF, oGet_map]
theorem o_ix_nl : oIx (.nd .lst ts) (.val (.int i)) K' = oGet (atI ts i) K' := rfl
theorem o_ix_nk {ks : List Key} : oIx (.nd (.dk ks) ts) (.val d) K' = oGet d.k1 fun k => oGet (getK ks ts k) K' := rfl
theorem o_ix_nt {ks : List (List Key)} : oIx (.nd (.dt ks) ts) (.val d) K' = oGet d.kt fun k => oGet (getK ks ts k) K' := rfl
theorem o_ix_vk {ks : List Key} : oIx (.val (.nd (.dk ks) ds)) (.val d) K' = oGet d.k1 fun k => oGet (getK ks (ds.map T.val) k) K' := rfl
theorem o_ix_vd {ks : List (List Key)} : oIx (.val (.nd (.dt ks) ds)) (.val d) K' = oGet d.kt fun k => oGet (getK ks (ds.map T.val) k) K' := rfl
theorem atI_0 {α : Type} {a : α} {l : List α} : atI (a :: l) 0 = some a := by unfold atI ixN; rw [if_pos (by decide), if_pos (by simp)]; rfl
theorem atI_1 {α : Type} {a b : α} {l : List α} : atI (a :: b :: l) 1 = some b := by unfold atI ixN; rw [if_pos (by decide), if_pos (by simp; omega)]; rfl
theorem atI_2 {α : Type} {a b c : α} {l : List α} : atI (a :: b :: c :: l) 2 = some c := by unfold atI ixN; rw [if_pos (by decide), if_pos (by simp; omega)]; rfl
theorem atI_3 {α : Type} {a b c e : α} {l : List α} : atI (a :: b :: c :: e :: l) 3 = some e := by unfold atI ixN; rw [if_pos (by decide), if_pos (by simp; omega)]; rfl
theorem atI_4 {α : Type} {a b c e f : α} {l : List α} : atI (a :: b :: c :: e :: f :: l) 4 = some f := by unfold atI ixN; rw [if_pos (by decide), if_pos (by simp; omega)]; rfl
theorem atI_5 {α : Type} {a b c e f g : α} {l : List α} : atI (a :: b :: c :: e :: f :: g :: l) 5 = some g := by unfold atI ixN; rw [if_pos (by decide), if_pos (by simp; omega)]; rfl
theorem o_list_vl : oList (.val (.nd .lst ds)) K' = K' (.nd .lst (ds.map .val)) := rfl
theorem o_list_vt : oList (.val (.nd .tup ds)) K' = K' (.nd .lst (ds.map .val)) := rfl
theorem o_list_vs : oList (.val (.nd .slst ds)) K' = K' (.nd .lst (ds.map .val)) := rfl
theorem o_list_nl : oList (.nd .lst (ds.map .val)) K' = K' (.nd .lst (ds.map .val)) := by unfold oList; simp only [ds_lst]
theorem o_tup_vl : oTuple (.val (.nd .lst ds)) K' = K' (.val (.tup ds)) := rfl
theorem o_tup_vt : oTuple (.val (.nd .tup ds)) K' = K' (.val (.tup ds)) := rfl
theorem o_tup_nl : oTuple (.nd .lst (ds.map .val)) K' = K' (.val (.tup ds)) := by unfold oTuple; simp only [ds_lst]
theorem o_tup_n0 : oTuple (.nd .lst []) K' = K' (.val (.tup [])) := rfl
theorem o_all_nl {bs : List Bool} (h : bools? ds = some bs) : oAll (.nd .lst (ds.map .val)) K' = K' (.val (.bl (bs.all id))) := by unfold oAll; simp only [ds_lst, h, oGet_some]
theorem o_any_nl {bs : List Bool} (h : bools? ds = some bs) : oAny (.nd .lst (ds.map .val)) K' = K' (.val (.bl (bs.any id))) := by unfold oAny; simp only [ds_lst, h, oGet_some]
theorem o_sum_nl {bs : List Int} (h : ints? ds = some bs) : oSum (.nd .lst (ds.map .val)) K' = K' (.val (.int bs.sum)) := by unfold oSum; simp only [ds_lst, h, oGet_some]
theorem o_abs_i : oAbs (.val (.int i)) K' = K' (.val (.int (if i < 0 then -i else i))) := rfl
theorem o_min_i : oMin2 (.val (.int i)) (.val (.int j)) K' = K' (.val (.int (if j < i then j else i))) := rfl
theorem o_max_i : oMax2 (.val (.int i)) (.val (.int j)) K' = K' (.val (.int (if j > i then j else i))) := rfl
theorem o_isi_n {t : Ity} : oIsi t (.val .non) K' = K' (.val (.bl false)) := rfl
theorem o_isi_b {t : Ity} {b : Bool} : oIsi t (.val (.bl b)) K' = K' (.val (.bl (decide (t = .bool ∨ t = .int)))) := rfl
theorem o_isi_i {t : Ity} : oIsi t (.val (.int i)) K' = K' (.val (.bl (decide (t = .int)))) := rfl
theorem o_isi_s {t : Ity} {a : Str} : oIsi t (.val (.str a)) K' = K' (.val (.bl (decide (t = .str)))) := rfl
theorem o_isi_t {t : Ity} : oIsi t (.val (.nd .tup ds)) K' = K' (.val (.bl (decide (t = .tuple)))) := rfl
theorem o_isi_l {t : Ity} : oIsi t (.val (.nd .lst ds)) K' = K' (.val (.bl (decide (t = .list)))) := rfl
theorem t_n : oTru (.val .non) kb = kb false := rfl
theorem t_b {b : Bool} : oTru (.val (.bl b)) kb = kb b := rfl
theorem t_i : oTru (.val (.int i)) kb = kb (i != 0) := rfl
theorem t_vl : oTru (.val (.nd .lst ds)) kb = kb (!ds.isEmpty) := by cases ds <;> rfl
theorem t_vt : oTru (.val (.nd .tup ds)) kb = kb (!ds.isEmpty) := by cases ds <;> rfl
theorem t_nl : oTru (.nd .lst ts) kb = kb (!ts.isEmpty) := rfl
theorem sl_vl {lo hi : Option Int} : oSl (.val (.nd .lst ds)) lo hi K' = K' (.nd .lst ((cutL ds lo hi).map .val)) := rfl
theorem sl_vs {lo hi : Option Int} : oSl (.val (.nd .slst ds)) lo hi K' = K' (.nd .lst ((cutL ds lo hi).map .val)) := rfl
theorem sl_vt {lo hi : Option Int} : oSl (.val (.nd .tup ds)) lo hi K' = K' (.val (.tup (cutL ds lo hi))) := rfl
theorem sl_nl {lo hi : Option Int} : oSl (.nd .lst (ds.map .val)) lo hi K' = K' (.nd .lst ((cutL ds lo hi).map .val)) := by unfold oSl; simp only [ds_lst]
theorem sl_s {z : Str} {lo hi : Option Int} : oSl (.val (.str z)) lo hi K' = (z.length ≤ sizeLine ∧ K' (.val (.str (cutS z lo hi)))) := rfl
theorem fmt_s {z : Str} : oFmt (.val (.str z)) K' = (z.length ≤ sizeLine ∧ K' (.val (.str z))) := rfl
theorem fmt_i : oFmt (.val (.int i)) K' = (i.natAbs.log2 < 1920 ∧ K' (.val (.str (toString i)))) := rfl
end
/-! cuts -/
theorem cutL_to {α : Type} {xs : List α} {j : Nat} : cutL xs none (some (j : Int)) = xs.take j := by
  unfold cutL
  rw [HT.sIx_none, HT.sIx_nat, List.drop_zero, Nat.sub_zero]
  by_cases h : j ≤ xs.length
  · rw [Nat.min_eq_left h]
  · rw [Nat.min_eq_right (by omega), List.take_of_length_le (by omega), List.take_of_length_le (by omega)]
theorem cutL_from {α : Type} {xs : List α} {j : Nat} : cutL xs (some (j : Int)) none = xs.drop j := by
  unfold cutL
  rw [HT.sIx_none, HT.sIx_nat, List.take_of_length_le (by rw [List.length_drop]; exact Nat.le_refl _)]
  by_cases h : j ≤ xs.length
  · rw [Nat.min_eq_left h]
  · rw [Nat.min_eq_right (by omega), List.drop_of_length_le (by omega), List.drop_of_length_le (by omega)]
theorem cutL_mid {α : Type} {xs : List α} {i j : Nat} (h : i ≤ xs.length) : cutL xs (some (i : Int)) (some (j : Int)) = (xs.drop i).take (j - i) := by
  unfold cutL
  rw [HT.sIx_nat, HT.sIx_nat, Nat.min_eq_left h]
  by_cases hj : j ≤ xs.length
  · rw [Nat.min_eq_left hj]
  · rw [Nat.min_eq_right (by omega)]
    rw [List.take_of_length_le (by rw [List.length_drop]; omega), List.take_of_length_le (by rw [List.length_drop]; omega)]
theorem cutL_all {α : Type} {xs : List α} : cutL xs none none = xs := by
  unfold cutL
  rw [HT.sIx_none, HT.sIx_none, List.drop_zero, Nat.sub_zero, List.take_length]
/-! things at a place of a list -/
theorem atG {α : Type} {xs : List α} {i : Int} {k : α → Prop} (h0 : 0 ≤ i) (h1 : i < (xs.length : Int)) (h : ∀ z, xs[i.toNat]? = some z → z ∈ xs → k z) : oGet (atI xs i) k := by
  have hlt : i.toNat < xs.length := by omega
  have e : i = ((i.toNat : Nat) : Int) := by omega
  have e2 : atI xs i = some xs[i.toNat] := by
    conv => lhs; rw [e]
    exact atI_nat (List.getElem?_eq_getElem hlt)
  exact oGetI e2 (h _ (List.getElem?_eq_getElem hlt) (List.getElem_mem hlt))
theorem atN {α : Type} {xs : List α} {i : Nat} {z : α} (h : xs[i]? = some z) : atI xs (i : Int) = some z := atI_nat h
/-! loops -/
section
variable {g : RG} {b : AS} {nx bk ct : Env → Sg → Prop} {rt : T → Env → Sg → Prop} {ex : AX} {ε : Env} {S : Sg} {ds : List D}
theorem forI (Pv : Nat → Env → Sg → Prop) (h0 : Pv 0 ε S) (hs : ∀ i d ε S (nx' : Env → Sg → Prop), ds[i]? = some d → i < ds.length → Pv i ε S → (∀ ε' S', Pv (i + 1) ε' S' → nx' ε' S') → g d ε S fun ε1 S1 => b ⟨nx', rt, nx, nx', ex⟩ ε1 S1) (hd : ∀ ε S, Pv ds.length ε S → nx ε S) : aForI g b ⟨nx, rt, bk, ct, ex⟩ ds ε S :=
  ⟨Pv, h0, fun i d ε S e p => hs i d ε S _ e (List.getElem?_eq_some_iff.mp e).1 p fun _ _ h => h, hd⟩
theorem forR {n : Nat} {c : Nat → D} (Pv : Nat → Env → Sg → Prop) (h0 : Pv 0 ε S) (hs : ∀ i ε S (nx' : Env → Sg → Prop), i < n → Pv i ε S → (∀ ε' S', Pv (i + 1) ε' S' → nx' ε' S') → g (c i) ε S fun ε1 S1 => b ⟨nx', rt, nx, nx', ex⟩ ε1 S1) (hd : ∀ ε S, Pv n ε S → nx ε S) : aForI g b ⟨nx, rt, bk, ct, ex⟩ ((List.range n).map c) ε S := by
  have l : ((List.range n).map c).length = n := by rw [List.length_map, List.length_range]
  refine forI Pv h0 (fun i d ε S nx' e hi p kk => ?_) (fun ε S p => hd ε S (by rw [l] at p; exact p))
  rw [l] at hi
  rw [List.getElem?_map, List.getElem?_range hi] at e
  cases e
  exact hs i ε S nx' hi p kk
/-- turn by turn -/
theorem forU {A : AD} (h : aForL g b A ds ε S) : aForI g b A ds ε S := by
  refine ⟨fun i ε S => aForL g b A (ds.drop i) ε S, h, fun i d ε S e p => ?_, fun ε S p => ?_⟩
  · obtain ⟨hi, e⟩ := List.getElem?_eq_some_iff.mp e
    have p : aForL g b A (ds.drop i) ε S := p
    rw [List.drop_eq_getElem_cons hi, e] at p
    exact p
  · have p : aForL g b A (ds.drop ds.length) ε S := p
    rw [List.drop_length] at p
    exact p
theorem cut {t : AS} (Mid : Env → Sg → Prop) (k : ∀ ε' S', Mid ε' S' → nx ε' S') (h : ∀ nx' : Env → Sg → Prop, (∀ ε' S', Mid ε' S' → nx' ε' S') → t ⟨nx', rt, bk, ct, ex⟩ ε S) : t ⟨nx, rt, bk, ct, ex⟩ ε S := h nx k
theorem whileI {c : RBE} (Pv : Nat → Env → Sg → Prop) (m : Nat) (h0 : Pv m ε S) (hs : ∀ m ε S (nx' : Env → Sg → Prop), Pv m ε S → (∀ m' ε' S', m' < m → Pv m' ε' S' → nx' ε' S') → c ex ε S fun k ε1 S1 => if k = true then b ⟨nx', rt, nx, nx', ex⟩ ε1 S1 else nx ε1 S1) : sWhile c b ⟨nx, rt, bk, ct, ex⟩ ε S :=
  ⟨Pv, ⟨m, h0⟩, fun m ε S p => hs m ε S _ p fun m' _ _ l q => ⟨m', l, q⟩⟩
theorem ifS {c : RBE} {u : AS} {A : AD} (h : c A.ex ε S fun k ε1 S1 => if k = true then b A ε1 S1 else u A ε1 S1) : sIf c b u A ε S := h
end
section
variable {g : RG} {tt : RBE} {x : RE} {vs : List Nat} {k : List T → Env → Sg → Prop} {ds : List D} {ε : Env} {S : Sg}
theorem lcM (f : D → D) (hl : ds.length ≤ 1000000) (hs : ∀ d, d ∈ ds → ∀ kk : T → Env → Sg → Prop, (∀ ε3, wipeE ε3 vs = ε → kk (.val (f d)) ε3 S) → g d ε S fun ε1 S1 => x noX ε1 S1 kk)
    (hd : k ((ds.map f).map .val) ε S) : aLcI g bYes x vs k ds ε S := by
  refine ⟨fun i acc ε' S' => ε' = ε ∧ S' = S ∧ acc = ((ds.take i).map f).map .val, ⟨rfl, rfl, rfl⟩, ?_, ?_⟩
  · rintro i d acc _ _ e ⟨rfl, rfl, rfl⟩
    obtain ⟨hi, e⟩ := List.getElem?_eq_some_iff.mp e
    refine hs d (e ▸ List.getElem_mem hi) _ fun ε3 w => ?_
    refine ⟨by rw [List.length_map, List.length_map, List.length_take, sizeLine_eq]; omega, w, rfl, ?_⟩
    rw [List.take_succ_eq_append_getElem hi, List.map_append, List.map_append, e]; rfl
  · rintro acc _ _ ⟨rfl, rfl, rfl⟩
    rw [List.take_length]; exact hd
theorem lcR {n : Nat} {c : Nat → D} (f : Nat → D) (hl : n ≤ 1000000) (hs : ∀ i, i < n → ∀ kk : T → Env → Sg → Prop, (∀ ε3, wipeE ε3 vs = ε → kk (.val (f i)) ε3 S) → g (c i) ε S fun ε1 S1 => x noX ε1 S1 kk)
    (hd : k (((List.range n).map f).map .val) ε S) : aLcI g bYes x vs k ((List.range n).map c) ε S := by
  have l : ((List.range n).map c).length = n := by rw [List.length_map, List.length_range]
  refine ⟨fun i acc ε' S' => ε' = ε ∧ S' = S ∧ acc = ((List.range i).map f).map .val, ⟨rfl, rfl, rfl⟩, ?_, ?_⟩
  · rintro i d acc _ _ e ⟨rfl, rfl, rfl⟩
    have hi : i < n := by rw [← l]; exact (List.getElem?_eq_some_iff.mp e).1
    rw [List.getElem?_map, List.getElem?_range hi] at e
    cases e
    refine hs i hi _ fun ε3 w => ?_
    refine ⟨by rw [List.length_map, List.length_map, List.length_range, sizeLine_eq]; omega, w, rfl, ?_⟩
    rw [List.range_succ, List.map_append, List.map_append]; rfl
  · rintro acc _ _ ⟨rfl, rfl, rfl⟩
    rw [l]; exact hd
end
end Y
/-! Ys: lengths of texts, small things. -/
namespace Y
open PySem PySem.Spec PyProof.Rows L2 Z

theorem ll_cat {a b : Str} {m n : Nat} (h1 : a.length ≤ m) (h2 : b.length ≤ n) : (a ++ b).length ≤ m + n := by rw [Z.len_cat]; omega
theorem ll_emp : Str.empty.length ≤ 0 := Nat.le_refl _
theorem ll_lit {s : String} : (Str.ofString s).length ≤ s.toList.length := by rw [PyProof.Rows.ofString_length]; exact Nat.le_refl _
theorem lgS {p : Int} (h0 : -1000000000000000 ≤ p) (h1 : p ≤ 1000000000000000) : p.natAbs.log2 < 1920 := Nat.lt_of_lt_of_le (lg_lt (n := 60) (by decide) (by omega)) (by decide)
theorem lgB {p : Int} (h : lg p ≤ 1900) : p.natAbs.log2 < 1920 := Nat.lt_of_le_of_lt h (by decide)
theorem lgB' {p : Int} (h : lg p < 1920) : p.natAbs.log2 < 1920 := h
theorem ll_int {p : Int} (h : p.natAbs.log2 < 1920) : (Str.ofString (toString p)).length ≤ 1000 := len_int h
theorem ll_le {n m : Nat} (h : n ≤ m) : m ≤ 16777216 → n ≤ sizeLine := fun h' => sizeLine_eq ▸ Nat.le_trans h h'
theorem map_erase {α β : Type} {f : α → β} : ∀ {xs : List α} {i : Nat}, (xs.map f).eraseIdx i = (xs.eraseIdx i).map f
  | [], _ => rfl
  | _ :: _, 0 => rfl
  | x :: xs, i + 1 => by
    show f x :: (xs.map f).eraseIdx i = f x :: (xs.eraseIdx i).map f
    rw [map_erase]
theorem popG {xs : List D} {i : Int} {k : Nat → T → Prop} (h0 : 0 ≤ i) (h1 : i < (xs.length : Int)) (h : ∀ z, xs[i.toNat]? = some z → z ∈ xs → k i.toNat (.val z)) :
    oGet (seqIndex? i xs.length) fun j => oGet (xs.map T.val)[j]? fun t => k j t := by
  have hlt : i.toNat < xs.length := by omega
  have e : seqIndex? i xs.length = some i.toNat := by
    unfold seqIndex?
    simp only [if_neg (by omega : ¬ i < 0)]
    rw [if_pos (by simp only [Bool.and_eq_true, decide_eq_true_eq]; exact ⟨h0, h1⟩)]
  rw [e]
  show oGet (xs.map T.val)[i.toNat]? _
  rw [List.getElem?_map, List.getElem?_eq_getElem hlt]
  exact h _ (List.getElem?_eq_getElem hlt) (List.getElem_mem hlt)
theorem ifP {c : Prop} [Decidable c] {A B : Prop} (h : c) (a : A) : if c then A else B := by rw [if_pos h]; exact a
theorem ifN {c : Prop} [Decidable c] {A B : Prop} (h : ¬c) (b : B) : if c then A else B := by rw [if_neg h]; exact b
/-- one of a displayed list of integers -/
theorem pickZ {ts : List T} {i : Int} {k : T → Prop} (zs : List Int) (e : ts = zs.map fun z => .val (.int z)) (Pz : Int → Prop) (hP : ∀ z ∈ zs, Pz z) (h0 : 0 ≤ i) (h1 : i < (zs.length : Int)) (h : ∀ z, Pz z → k (.val (.int z))) : oGet (atI ts i) k := by
  subst e
  rw [atI_mapF, oGet_map]
  exact atG h0 h1 fun z _ hz => h z (hP z hz)
theorem pickG {ts : List T} {i : Int} {k : T → Prop} (Pt : T → Prop) (hP : ∀ t ∈ ts, Pt t) (h0 : 0 ≤ i) (h1 : i < (ts.length : Int)) (h : ∀ t, Pt t → k t) : oGet (atI ts i) k := atG h0 h1 fun z _ hz => h z (hP z hz)
/-- one of a displayed list of texts -/
theorem pickS {ts : List T} {i : Int} {k : T → Prop} (zs : List Str) (e : ts = zs.map fun z => .val (.str z)) (Ps : Str → Prop) (hP : ∀ z ∈ zs, Ps z) (h0 : 0 ≤ i) (h1 : i < (zs.length : Int)) (h : ∀ z, Ps z → k (.val (.str z))) : oGet (atI ts i) k := by
  subst e
  rw [atI_mapF, oGet_map]
  exact atG h0 h1 fun z _ hz => h z (hP z hz)
theorem emod_b (a : Int) {n : Int} (h : 0 < n) : 0 ≤ a % n ∧ a % n < n := ⟨Int.emod_nonneg a (by omega), Int.emod_lt_of_pos a h⟩
theorem q_self {d : D} {kb : KB} (h : d.good 64) (q : kb true) : oEqB (.val d) (.val d) kb := by
  have gen : (T.val d).fz = true ∧ (T.val d).fz = true ∧ (T.val d).frz.good 64 ∧ (T.val d).frz.good 64 ∧ kb (PyData.eqv (T.val d).frz.py (T.val d).frz.py) := by
    rw [fz_v, frz_v, eqv_self h]; exact ⟨rfl, rfl, h, h, q⟩
  cases d with
  | non => exact q
  | bl b => show kb (decide (b = b)); rw [decide_eq_true rfl]; exact q
  | int b => show kb (decide (b = b)); rw [decide_eq_true rfl]; exact q
  | str b => show kb (decide (b = b)); rw [decide_eq_true rfl]; exact q
  | obj a => exact gen
  | nd sh ds => exact gen
theorem good_mono {n : Nat} : ∀ {m : Nat} {d : D}, n ≤ m → d.good n → d.good m := by
  induction n with
  | zero => intro m d _ h; exact h.elim
  | succ n ih =>
    intro m d l h
    obtain ⟨m, rfl⟩ : ∃ k, m = k + 1 := ⟨m - 1, by omega⟩
    cases d with
    | non => trivial
    | bl b => trivial
    | int b => trivial
    | str b => exact h
    | obj a => exact h.elim
    | nd sh ds => cases sh with
      | tup => exact fun e he => ih (by omega) (h e he)
      | lst => exact fun e he => ih (by omega) (h e he)
      | slst => exact h.elim
      | dk ks => exact h.elim
      | dt ks => exact h.elim
      | ins C fs => exact h.elim
theorem cutI_to {α : Type} {xs : List α} {j : Int} (h : 0 ≤ j) : cutL xs none (some j) = xs.take j.toNat := by
  obtain ⟨m, rfl⟩ := Int.eq_ofNat_of_zero_le h
  exact cutL_to
theorem cutI_from {α : Type} {xs : List α} {j : Int} (h : 0 ≤ j) : cutL xs (some j) none = xs.drop j.toNat := by
  obtain ⟨m, rfl⟩ := Int.eq_ofNat_of_zero_le h
  exact cutL_from
theorem cut_erase {α : Type} {xs : List α} {j : Int} (h : 0 ≤ j) : cutL xs none (some j) ++ cutL xs (some (j + 1)) none = xs.eraseIdx j.toNat := by
  rw [cutI_to h, cutI_from (by omega), List.eraseIdx_eq_take_drop_succ]
  have : (j + 1).toNat = j.toNat + 1 := by omega
  rw [this]
theorem cutL_len {α : Type} {xs : List α} {a b : Option Int} : (cutL xs a b).length ≤ xs.length := by
  unfold cutL
  rw [List.length_take, List.length_drop]
  omega
theorem good_tup {n : Nat} {ds : List D} (h : ∀ d ∈ ds, d.good n) : (D.nd .tup ds).good (n + 1) := h
theorem good_lst {n : Nat} {ds : List D} (h : ∀ d ∈ ds, d.good n) : (D.nd .lst ds).good (n + 1) := h
end Y
/-! Yt: plain data (no truth values in it), equality and membership. -/
namespace Y
open PySem PySem.Spec PyProof.Rows L2 Z

def D.pl : Nat → D → Prop
  | 0, _ => False
  | _ + 1, .non => True
  | _ + 1, .int _ => True
  | _ + 1, .str s => PyData.strOk s = true
  | n + 1, .nd .tup ds => ∀ d ∈ ds, D.pl n d
  | n + 1, .nd .lst ds => ∀ d ∈ ds, D.pl n d
  | _ + 1, _ => False
theorem pl_good {n : Nat} : ∀ {d : D}, d.pl n → d.good n := by
  induction n with
  | zero => intro d h; exact h.elim
  | succ n ih =>
    intro d h
    cases d with
    | non => trivial
    | bl b => trivial
    | int b => trivial
    | str b => exact h
    | obj a => exact h.elim
    | nd sh ds => cases sh with
      | tup => exact fun e he => ih (h e he)
      | lst => exact fun e he => ih (h e he)
      | slst => exact h.elim
      | dk ks => exact h.elim
      | dt ks => exact h.elim
      | ins C fs => exact h.elim
theorem pl_mono {n : Nat} : ∀ {m : Nat} {d : D}, n ≤ m → d.pl n → d.pl m := by
  induction n with
  | zero => intro m d _ h; exact h.elim
  | succ n ih =>
    intro m d l h
    obtain ⟨m, rfl⟩ : ∃ k, m = k + 1 := ⟨m - 1, by omega⟩
    cases d with
    | non => trivial
    | bl b => exact h.elim
    | int b => trivial
    | str b => exact h
    | obj a => exact h.elim
    | nd sh ds => cases sh with
      | tup => exact fun e he => ih (by omega) (h e he)
      | lst => exact fun e he => ih (by omega) (h e he)
      | slst => exact h.elim
      | dk ks => exact h.elim
      | dt ks => exact h.elim
      | ins C fs => exact h.elim
theorem eqvs_pl {n : Nat} (ih : ∀ {d e : D} {m : Nat}, d.pl n → e.pl m → PyData.eqv d.py e.py = true → d = e) : ∀ {ds es : List D} {m : Nat}, (∀ d ∈ ds, D.pl n d) → (∀ e ∈ es, D.pl m e) → PyData.eqvAll (pys ds) (pys es) = true → ds = es
  | [], [], _, _, _, _ => rfl
  | [], _ :: _, _, _, _, h => by rw [pys, pys, PyData.eqvAll] at h; cases h
  | _ :: _, [], _, _, _, h => by rw [pys, pys, PyData.eqvAll] at h; cases h
  | d :: ds, e :: es, m, hd, he, h => by
    rw [pys, pys, PyData.eqvAll, Bool.and_eq_true] at h
    rw [ih (hd d (List.mem_cons_self ..)) (he e (List.mem_cons_self ..)) h.1, eqvs_pl ih (fun d hx => hd d (List.mem_cons_of_mem _ hx)) (fun e hx => he e (List.mem_cons_of_mem _ hx)) h.2]
theorem eqv_pl {n : Nat} : ∀ {d e : D} {m : Nat}, d.pl n → e.pl m → PyData.eqv d.py e.py = true → d = e := by
  induction n with
  | zero => intro d e m h; exact h.elim
  | succ n ih =>
    intro d e m h h' q
    cases m with
    | zero => exact h'.elim
    | succ m =>
    cases d with
    | non => cases e with
      | non => rfl
      | nd sh es => cases sh <;> first | exact h'.elim | (simp [D.py, PyData.eqv] at q)
      | _ => first | exact h'.elim | (simp [D.py, PyData.eqv] at q)
    | bl b => exact h.elim
    | int b => cases e with
      | int c => simp [D.py, PyData.eqv] at q; rw [q]
      | nd sh es => cases sh <;> first | exact h'.elim | (simp [D.py, PyData.eqv] at q)
      | _ => first | exact h'.elim | (simp [D.py, PyData.eqv] at q)
    | str b => cases e with
      | str c => simp [D.py, PyData.eqv] at q; rw [q]
      | nd sh es => cases sh <;> first | exact h'.elim | (simp [D.py, PyData.eqv] at q)
      | _ => first | exact h'.elim | (simp [D.py, PyData.eqv] at q)
    | obj a => exact h.elim
    | nd sh ds => cases sh with
      | tup => cases e with
        | nd sh es => cases sh with
          | tup => simp only [D.py, PyData.eqv] at q; rw [eqvs_pl ih h h' q]
          | _ => first | exact h'.elim | (simp [D.py, PyData.eqv] at q)
        | _ => first | exact h'.elim | (simp [D.py, PyData.eqv] at q)
      | lst => cases e with
        | nd sh es => cases sh with
          | lst => simp only [D.py, PyData.eqv] at q; rw [eqvs_pl ih h h' q]
          | _ => first | exact h'.elim | (simp [D.py, PyData.eqv] at q)
        | _ => first | exact h'.elim | (simp [D.py, PyData.eqv] at q)
      | _ => exact h.elim
theorem eqv_ne {d e : D} {n m : Nat} (hd : d.pl n) (he : e.pl m) (h : d ≠ e) : PyData.eqv d.py e.py = false := by
  cases z : PyData.eqv d.py e.py with
  | false => rfl
  | true => exact (h (eqv_pl hd he z)).elim
theorem qD_pl {d e : D} {kb : KB} (hd : d.pl 64) (he : e.pl 64) (h1 : d = e → kb true) (h2 : d ≠ e → kb false) : qD d e kb := by
  refine ⟨pl_good hd, pl_good he, ?_⟩
  by_cases h : d = e
  · subst h; rw [eqv_self (pl_good hd)]; exact h1 rfl
  · rw [eqv_ne hd he h]; exact h2 h
theorem q_gen {d e : D} {kb : KB} (h : qD d e kb) : oEqB (.val d) (.val e) kb := by
  obtain ⟨g1, g2, k⟩ := h
  have gen : (T.val d).fz = true ∧ (T.val e).fz = true ∧ (T.val d).frz.good 64 ∧ (T.val e).frz.good 64 ∧ kb (PyData.eqv (T.val d).frz.py (T.val e).frz.py) := by
    rw [fz_v, frz_v, fz_v, frz_v]; exact ⟨rfl, rfl, g1, g2, k⟩
  cases d <;> cases e <;> first
    | exact gen
    | exact k
    | (simp only [D.py, PyData.eqv] at k; first | exact k | (show kb (decide _); first | (rw [← Bool.beq_eq_decide_eq]; exact k) | (rw [← beq_eq_decide]; exact k) | (simpa using k)))
theorem q_pl {d e : D} {kb : KB} (hd : d.pl 64) (he : e.pl 64) (h1 : d = e → kb true) (h2 : d ≠ e → kb false) : oEqB (.val d) (.val e) kb := q_gen (qD_pl hd he h1 h2)
/-! membership -/
section
variable {K' : KC} {kb : KB} {d : D} {ds : List D} {ts : List T}
theorem o_in {x y : T} : oIn x y K' = oInB x y fun b => K' (.val (.bl b)) := rfl
theorem o_nin {x y : T} : oNotIn x y K' = oInB x y fun b => K' (.val (.bl (!b))) := rfl
theorem i_vt : oInB (.val d) (.val (.nd .tup ds)) kb = (inOk .tup d ds ∧ kb (amongD d ds)) := rfl
theorem i_vl : oInB (.val d) (.val (.nd .lst ds)) kb = (inOk .lst d ds ∧ kb (amongD d ds)) := rfl
theorem i_vs : oInB (.val d) (.val (.nd .slst ds)) kb = (inOk .slst d ds ∧ kb (amongD d ds)) := rfl
theorem i_nl : oInB (.val d) (.nd .lst (ds.map .val)) kb = (inOk .lst d ds ∧ kb (amongD d ds)) := by
  unfold oInB
  simp only [T.kids, ds_lst]
theorem i_nl0 : oInB (.val d) (.nd .lst []) kb = (inOk .lst d [] ∧ kb false) := i_nl (ds := [])
theorem i_dk {ks : List Key} : oInB (.val d) (.nd (.dk ks) ts) kb = oGet d.k1 fun k => kb (ixK ks k).isSome := rfl
theorem i_dt {ks : List (List Key)} : oInB (.val d) (.nd (.dt ks) ts) kb = oGet d.kt fun k => kb (ixK ks k).isSome := rfl
theorem i_vdk {ks : List Key} : oInB (.val d) (.val (.nd (.dk ks) ds)) kb = oGet d.k1 fun k => kb (ixK ks k).isSome := rfl
theorem i_vdt {ks : List (List Key)} : oInB (.val d) (.val (.nd (.dt ks) ds)) kb = oGet d.kt fun k => kb (ixK ks k).isSome := rfl
theorem i_nt {es : List D} : oInB (.nd .lst (ds.map .val)) (.val (.nd .tup es)) kb = ((D.nd .lst ds).good 64 ∧ (∀ e ∈ es, D.good 63 e) ∧ kb (amongD (.nd .lst ds) es)) := by
  have : oInB (.nd .lst (ds.map .val)) (.val (.nd .tup es)) kb = ((Sh.tup = .lst ∨ Sh.tup = .tup) ∧ (T.nd .lst (ds.map .val)).fz = true ∧ (T.nd .lst (ds.map .val)).frz.good 64 ∧ (∀ e ∈ es, D.good 63 e) ∧ kb (amongD (T.nd .lst (ds.map .val)).frz es)) := rfl
  rw [this, fz_nl, frz_nl]
  exact propext ⟨fun h => h.2.2, fun h => ⟨.inr rfl, rfl, h⟩⟩
theorem i_ss {z s : Str} : oInB (.val (.str s)) (.val (.str z)) kb = oGet (oneSign s) fun c => kb (decide (c ∈ z.cps.toList)) := rfl
theorem am_nil : amongD d [] = false := rfl
theorem am_cons {e : D} : amongD d (e :: ds) = (PyData.eqv e.py d.py || amongD d ds) := rfl
theorem am_s {a b : Str} : PyData.eqv (D.str a).py (D.str b).py = decide (a = b) := by
  show (a == b) = _
  by_cases h : a = b
  · rw [decide_eq_true h]; exact beq_iff_eq.mpr h
  · rw [decide_eq_false h]; exact beq_eq_false_iff_ne.mpr h
theorem am_i {a b : Int} : PyData.eqv (D.int a).py (D.int b).py = decide (a = b) := by
  show (a == b) = _
  by_cases h : a = b
  · rw [decide_eq_true h]; exact beq_iff_eq.mpr h
  · rw [decide_eq_false h]; exact beq_eq_false_iff_ne.mpr h
theorem am_ni {b : Int} : PyData.eqv (D.non).py (D.int b).py = false := rfl
theorem am_in {b : Int} : PyData.eqv (D.int b).py (D.non).py = false := rfl
theorem am_ns {b : Str} : PyData.eqv (D.non).py (D.str b).py = false := rfl
theorem am_sn {b : Str} : PyData.eqv (D.str b).py (D.non).py = false := rfl
theorem am_ints {z : Int} {zs : List Int} : amongD (.int z) (zs.map .int) = decide (z ∈ zs) := by
  induction zs with
  | nil => rfl
  | cons a as ih =>
    rw [List.map_cons, am_cons, am_i, ih]
    by_cases h : a = z
    · simp [h]
    · have : ¬ z = a := fun e => h e.symm
      simp [h, this]
theorem am_strs {z : Str} {zs : List Str} : amongD (.str z) (zs.map .str) = decide (z ∈ zs) := by
  induction zs with
  | nil => rfl
  | cons a as ih =>
    rw [List.map_cons, am_cons, am_s, ih]
    by_cases h : a = z
    · simp [h]
    · have : ¬ z = a := fun e => h e.symm
      simp [h, this]
theorem am_pl {n : Nat} (hd : d.pl n) (hs : ∀ e ∈ ds, e.pl 64) : (amongD d ds = true ↔ d ∈ ds) := by
  induction ds with
  | nil => exact ⟨fun h => (Bool.noConfusion (show false = true from h)), fun h => nomatch h⟩
  | cons a as ih =>
    have ih := ih fun e he => hs e (List.mem_cons_of_mem _ he)
    have ha := hs a (List.mem_cons_self ..)
    rw [am_cons, Bool.or_eq_true, ih, List.mem_cons]
    refine or_congr_left ⟨fun q => (eqv_pl ha hd q).symm, fun q => ?_⟩
    rw [q]; exact eqv_self (pl_good ha)
theorem flats_int {zs : List Int} : (zs.map D.int).all D.flat = true := by rw [List.all_map]; exact List.all_eq_true.mpr fun _ _ => rfl
theorem flats_str {zs : List Str} : (zs.map D.str).all D.flat = true := by rw [List.all_map]; exact List.all_eq_true.mpr fun _ _ => rfl
theorem in_flat {s : Sh} (h : d.flat = true) (hs : ds.all D.flat = true) : inOk s d ds := .inl ⟨h, hs⟩
theorem in_pl (h : d.pl 64) (hs : ∀ e ∈ ds, D.pl 63 e) : inOk .lst d ds := .inr ⟨.inl rfl, pl_good h, fun e he => pl_good (hs e he)⟩
theorem in_plT (h : d.pl 64) (hs : ∀ e ∈ ds, D.pl 63 e) : inOk .tup d ds := .inr ⟨.inr rfl, pl_good h, fun e he => pl_good (hs e he)⟩
end
theorem ixN_10 : ixN 1 0 = some 0 := rfl
theorem at_last {α : Type} {xs : List α} {x : α} : atI (xs ++ [x]) (-1) = some x := by
  unfold atI ixN
  rw [if_neg (by decide), if_pos (by rw [List.length_append]; simp; omega)]
  show (xs ++ [x])[_]? = _
  have e : (-1 + ((xs ++ [x]).length : Int)).toNat = xs.length := by rw [List.length_append]; simp; omega
  rw [e]
  simp
theorem at_one {α : Type} {x : α} : atI [x] (-1) = some x := at_last (xs := [])
/-! texts -/
theorem strOk_ofString {s : String} : PyData.strOk (Str.ofString s) = true := by
  unfold PyData.strOk
  rw [Str.ofString_eq_toList]
  simp only [List.all_toArray, List.all_map, List.all_eq_true, Function.comp_apply, decide_eq_true_eq, Array.all_eq_true_iff_forall_mem, List.mem_toArray, List.mem_map, forall_exists_index, and_imp, forall_apply_eq_imp_iff₂]
  intro c _
  have := c.valid
  have h : c.toNat = c.val.toNat := rfl
  rw [h]
  rcases this with h | h <;> omega
theorem strOk_cat {a b : Str} (h1 : PyData.strOk a = true) (h2 : PyData.strOk b = true) : PyData.strOk (a ++ b) = true := by
  unfold PyData.strOk at *
  show (a.cps ++ b.cps).all _ = true
  rw [Array.all_append, h1, h2]; rfl
theorem strOk_emp : PyData.strOk Str.empty = true := by decide +kernel
theorem strOk_cut {a : Str} {lo hi : Option Int} (h : PyData.strOk a = true) : PyData.strOk (cutS a lo hi) = true := by
  unfold PyData.strOk cutS at *
  rw [Array.all_eq_true_iff_forall_mem] at h ⊢
  intro x hx
  refine h x ?_
  exact Array.mem_toList_iff.mp (List.mem_of_mem_drop (List.mem_of_mem_take (List.mem_toArray.mp hx)))
theorem cutS_len {a : Str} {lo hi : Option Int} : (cutS a lo hi).length ≤ a.length := by
  unfold cutS
  show (List.toArray _).size ≤ a.cps.size
  rw [List.size_toArray, List.length_take, List.length_drop, Array.length_toList]
  omega
theorem ll_cut {a : Str} {lo hi : Option Int} {m : Nat} (h : a.length ≤ m) : (cutS a lo hi).length ≤ m := Nat.le_trans cutS_len h
/-! one statement at a time: what comes later is out of sight -/
structure Kt (t : AS) (A : AD) where
  nx : Env → Sg → Prop
  key : ∀ ε S, t A ε S → nx ε S
theorem seqO {s t : AS} {A : AD} {ε : Env} {S : Sg} (h : ∀ c : Kt t A, s ⟨c.nx, A.rt, A.bk, A.ct, A.ex⟩ ε S) : sSeq s t A ε S := h ⟨t A, fun _ _ h => h⟩
theorem nxI {t : AS} {A : AD} {c : Kt t A} {ε : Env} {S : Sg} (k : t A ε S) : c.nx ε S := c.key ε S k
theorem ll_add {a b : Str} {m n : Nat} (h1 : a.length ≤ m) (h2 : b.length ≤ n) : a.length + b.length ≤ m + n := Nat.add_le_add h1 h2
theorem pls_mono {n m : Nat} {ds : List D} (l : n ≤ m) (h : ∀ d ∈ ds, D.pl n d) : ∀ d ∈ ds, D.pl m d := fun d hd => pl_mono l (h d hd)
theorem goods_mono {n m : Nat} {ds : List D} (l : n ≤ m) (h : ∀ d ∈ ds, D.good n d) : ∀ d ∈ ds, D.good m d := fun d hd => good_mono l (h d hd)
theorem pls_app {n : Nat} {ds es : List D} (h : ∀ d ∈ ds, D.pl n d) (h2 : ∀ d ∈ es, D.pl n d) : ∀ d ∈ ds ++ es, D.pl n d := fun d hd => (List.mem_append.mp hd).elim (h d) (h2 d)
theorem pls_int {n : Nat} {zs : List Int} : ∀ d ∈ zs.map D.int, D.pl (n + 1) d := fun d hd => by
  obtain ⟨z, _, rfl⟩ := List.mem_map.mp hd; trivial
theorem pls_tup {n : Nat} {ds : List D} (h : ∀ d ∈ ds, D.pl n d) : (D.nd .tup ds).pl (n + 1) := h
theorem pls_lst {n : Nat} {ds : List D} (h : ∀ d ∈ ds, D.pl n d) : (D.nd .lst ds).pl (n + 1) := h
theorem o_is_bb {K' : KC} {a b : Bool} : oIs (.val (.bl a)) (.val (.bl b)) K' = K' (.val (.bl (a == b))) := rfl
theorem o_isn_bb {K' : KC} {a b : Bool} : oIsNot (.val (.bl a)) (.val (.bl b)) K' = K' (.val (.bl (!(a == b)))) := rfl
/-! comprehensions -/
section
variable {g : RG} {tt : RBE} {x : RE} {vs : List Nat} {k : List T → Env → Sg → Prop} {ds : List D} {ε : Env} {S : Sg}
theorem lcI (Pv : Nat → List T → Env → Sg → Prop) (h0 : Pv 0 [] ε S)
    (hs : ∀ i d acc ε S (yes : T → Env → Sg → Prop) (no : Env → Sg → Prop), ds[i]? = some d → i < ds.length → Pv i acc ε S → (∀ t ε3 S3, acc.length < sizeLine → Pv (i + 1) (acc ++ [t]) (wipeE ε3 vs) S3 → yes t ε3 S3) →
      (∀ ε2 S2, Pv (i + 1) acc (wipeE ε2 vs) S2 → no ε2 S2) → g d ε S fun ε1 S1 => tt noX ε1 S1 fun b ε2 S2 => if b = true then x noX ε2 S2 yes else no ε2 S2)
    (hd : ∀ acc ε S, Pv ds.length acc ε S → k acc ε S) : aLcI g tt x vs k ds ε S :=
  ⟨Pv, h0, fun i d acc ε S e p => hs i d acc ε S _ _ e (List.getElem?_eq_some_iff.mp e).1 p (fun t ε3 S3 l q => ⟨l, q⟩) (fun _ _ q => q), hd⟩
theorem lcF (p : D → Bool) (f : D → D) (hl : ds.length ≤ 1000000)
    (hs : ∀ d, d ∈ ds → ∀ (yes : T → Env → Sg → Prop) (no : Env → Sg → Prop), (p d = true → ∀ ε3, wipeE ε3 vs = ε → yes (.val (f d)) ε3 S) → (p d = false → ∀ ε2, wipeE ε2 vs = ε → no ε2 S) → g d ε S fun ε1 S1 => tt noX ε1 S1 fun b ε2 S2 => if b = true then x noX ε2 S2 yes else no ε2 S2)
    (hd : k (((ds.filter p).map f).map .val) ε S) : aLcI g tt x vs k ds ε S := by
  refine lcI (fun i acc ε' S' => ε' = ε ∧ S' = S ∧ acc = (((ds.take i).filter p).map f).map .val) ⟨rfl, rfl, rfl⟩ ?_ ?_
  · rintro i d acc _ _ yes no e hi ⟨rfl, rfl, rfl⟩ hy hn
    obtain ⟨_, e⟩ := List.getElem?_eq_some_iff.mp e
    have tk : (ds.take (i + 1)).filter p = (ds.take i).filter p ++ (if p d = true then [d] else []) := by
      rw [List.take_succ_eq_append_getElem hi, List.filter_append, e]
      congr 1
      by_cases h : p d = true
      · rw [if_pos h, List.filter_cons_of_pos h]; rfl
      · rw [if_neg h, List.filter_cons_of_neg h]; rfl
    have ll : ((((ds.take i).filter p).map f).map T.val).length < sizeLine := by
      rw [List.length_map, List.length_map, sizeLine_eq]
      have := List.length_filter_le p (ds.take i)
      rw [List.length_take] at this
      omega
    refine hs d (e ▸ List.getElem_mem hi) _ _ (fun h ε3 w => hy _ _ _ ll ⟨w, rfl, ?_⟩) (fun h ε2 w => hn _ _ ⟨w, rfl, ?_⟩)
    · rw [tk, if_pos h, List.map_append, List.map_append]; rfl
    · rw [tk, if_neg (by rw [h]; exact Bool.noConfusion), List.append_nil]
  · rintro acc _ _ ⟨rfl, rfl, rfl⟩
    rw [List.take_length]; exact hd
theorem lcFR {n : Nat} {c : Nat → D} (p : Nat → Bool) (f : Nat → D) (hl : n ≤ 1000000)
    (hs : ∀ i, i < n → ∀ (yes : T → Env → Sg → Prop) (no : Env → Sg → Prop), (p i = true → ∀ ε3, wipeE ε3 vs = ε → yes (.val (f i)) ε3 S) → (p i = false → ∀ ε2, wipeE ε2 vs = ε → no ε2 S) → g (c i) ε S fun ε1 S1 => tt noX ε1 S1 fun b ε2 S2 => if b = true then x noX ε2 S2 yes else no ε2 S2)
    (hd : k ((((List.range n).filter p).map f).map .val) ε S) : aLcI g tt x vs k ((List.range n).map c) ε S := by
  have l : ((List.range n).map c).length = n := by rw [List.length_map, List.length_range]
  refine lcI (fun i acc ε' S' => ε' = ε ∧ S' = S ∧ acc = (((List.range i).filter p).map f).map .val) ⟨rfl, rfl, rfl⟩ ?_ ?_
  · rintro i d acc _ _ yes no e hi ⟨rfl, rfl, rfl⟩ hy hn
    rw [l] at hi
    rw [List.getElem?_map, List.getElem?_range hi] at e
    cases e
    have tk : (List.range (i + 1)).filter p = (List.range i).filter p ++ (if p i = true then [i] else []) := by
      rw [List.range_succ, List.filter_append]
      congr 1
      by_cases h : p i = true
      · rw [if_pos h, List.filter_cons_of_pos h]; rfl
      · rw [if_neg h, List.filter_cons_of_neg h]; rfl
    have ll : ((((List.range i).filter p).map f).map T.val).length < sizeLine := by
      rw [List.length_map, List.length_map, sizeLine_eq]
      have := List.length_filter_le p (List.range i)
      rw [List.length_range] at this
      omega
    refine hs i hi _ _ (fun h ε3 w => hy _ _ _ ll ⟨w, rfl, ?_⟩) (fun h ε2 w => hn _ _ ⟨w, rfl, ?_⟩)
    · rw [tk, if_pos h, List.map_append, List.map_append]; rfl
    · rw [tk, if_neg (by rw [h]; exact Bool.noConfusion), List.append_nil]
  · rintro acc _ _ ⟨rfl, rfl, rfl⟩
    rw [l]; exact hd
end
/-- a list of things, owned or frozen -/
def Lt (t : T) (ds : List D) : Prop := t = .val (.nd .lst ds) ∨ t = .nd .lst (ds.map .val)
theorem free_len {n : Nat} {taken : List Int} : n ≤ ((List.range n).filter fun j => !decide (((j : Nat) : Int) ∈ taken)).length + taken.length := by
  induction taken generalizing n with
  | nil =>
    simp only [List.not_mem_nil, decide_false, Bool.not_false, List.length_nil, Nat.add_zero]
    rw [List.filter_eq_self.mpr (fun _ _ => rfl), List.length_range]
    exact Nat.le_refl _
  | cons a as ih =>
    have h1 := ih (n := n)
    have h2 : ((List.range n).filter fun j => !decide (((j : Nat) : Int) ∈ as)).length ≤ ((List.range n).filter fun j => !decide (((j : Nat) : Int) ∈ a :: as)).length + 1 := by
      have key : ∀ l : List Nat, l.Nodup → (l.filter fun j => !decide (((j : Nat) : Int) ∈ as)).length ≤ (l.filter fun j => !decide (((j : Nat) : Int) ∈ a :: as)).length + 1 := by
        intro l
        induction l with
        | nil => intro _; simp
        | cons j js ihj =>
          intro nd
          have nd' := (List.nodup_cons.mp nd)
          by_cases hj : ((j : Nat) : Int) ∈ as
          · have : ((j : Nat) : Int) ∈ a :: as := List.mem_cons_of_mem _ hj
            simp only [List.filter_cons, hj, this, decide_true, Bool.not_true, Bool.false_eq_true, if_false]
            exact ihj nd'.2
          · by_cases hja : ((j : Nat) : Int) = a
            · have : ((j : Nat) : Int) ∈ a :: as := by rw [hja]; exact List.mem_cons_self ..
              simp only [List.filter_cons, hj, this, decide_true, decide_false, Bool.not_true, Bool.not_false, Bool.false_eq_true, if_false, if_true, List.length_cons]
              have e : (js.filter fun j => !decide (((j : Nat) : Int) ∈ as)) = js.filter fun j => !decide (((j : Nat) : Int) ∈ a :: as) := by
                apply List.filter_congr
                intro i hi
                have ne : ((i : Nat) : Int) ≠ a := by
                  intro q
                  have : i = j := by omega
                  subst this
                  exact nd'.1 hi
                simp [List.mem_cons, ne]
              rw [e]; omega
            · have : ¬ ((j : Nat) : Int) ∈ a :: as := by
                intro q
                rcases List.mem_cons.mp q with q | q
                · exact hja q
                · exact hj q
              simp only [List.filter_cons, hj, this, decide_false, Bool.not_false, if_true, List.length_cons]
              have := ihj nd'.2
              omega
      exact key _ List.nodup_range
    rw [List.length_cons]
    omega
theorem atI_cons {α : Type} {a : α} {l : List α} {n : Nat} : atI (a :: l) (@OfNat.ofNat Int n instOfNat) = (a :: l)[n]? := by
  show atI (a :: l) (n : Int) = _
  unfold atI ixN
  rw [if_pos (by omega)]
  by_cases h : n < (a :: l).length
  · rw [if_pos (by omega)]; rfl
  · rw [if_neg (by omega), List.getElem?_eq_none (by omega)]; rfl
theorem atC_0 {α : Type} {a : α} {l : List α} : atI (a :: l) 0 = (a :: l)[0]? := atI_cons
theorem atC_1 {α : Type} {a : α} {l : List α} : atI (a :: l) 1 = (a :: l)[1]? := atI_cons
theorem atC_2 {α : Type} {a : α} {l : List α} : atI (a :: l) 2 = (a :: l)[2]? := atI_cons
theorem atC_3 {α : Type} {a : α} {l : List α} : atI (a :: l) 3 = (a :: l)[3]? := atI_cons
theorem atC_4 {α : Type} {a : α} {l : List α} : atI (a :: l) 4 = (a :: l)[4]? := atI_cons
theorem atC_5 {α : Type} {a : α} {l : List α} : atI (a :: l) 5 = (a :: l)[5]? := atI_cons
theorem atC_6 {α : Type} {a : α} {l : List α} : atI (a :: l) 6 = (a :: l)[6]? := atI_cons
theorem atC_7 {α : Type} {a : α} {l : List α} : atI (a :: l) 7 = (a :: l)[7]? := atI_cons
theorem atC_8 {α : Type} {a : α} {l : List α} : atI (a :: l) 8 = (a :: l)[8]? := atI_cons
theorem atC_9 {α : Type} {a : α} {l : List α} : atI (a :: l) 9 = (a :: l)[9]? := atI_cons
theorem atC_10 {α : Type} {a : α} {l : List α} : atI (a :: l) 10 = (a :: l)[10]? := atI_cons
theorem atC_11 {α : Type} {a : α} {l : List α} : atI (a :: l) 11 = (a :: l)[11]? := atI_cons
theorem atC_12 {α : Type} {a : α} {l : List α} : atI (a :: l) 12 = (a :: l)[12]? := atI_cons
theorem atC_13 {α : Type} {a : α} {l : List α} : atI (a :: l) 13 = (a :: l)[13]? := atI_cons
theorem atC_14 {α : Type} {a : α} {l : List α} : atI (a :: l) 14 = (a :: l)[14]? := atI_cons
theorem atC_15 {α : Type} {a : α} {l : List α} : atI (a :: l) 15 = (a :: l)[15]? := atI_cons
section
variable {K' : KC} {d : D}
theorem o_is_ne (h : d ≠ .non) : oIs (.val d) (.val .non) K' = K' (.val (.bl false)) := by cases d <;> first | exact (h rfl).elim | rfl
theorem o_isn_ne (h : d ≠ .non) : oIsNot (.val d) (.val .non) K' = K' (.val (.bl true)) := by cases d <;> first | exact (h rfl).elim | rfl
end
theorem cutF {g : RG} {b : AS} {nx bk ct : Env → Sg → Prop} {rt : T → Env → Sg → Prop} {ex : AX} {ε : Env} {S : Sg} {ds : List D} (Mid : Env → Sg → Prop) (k : ∀ ε' S', Mid ε' S' → nx ε' S')
    (h : ∀ nx' : Env → Sg → Prop, (∀ ε' S', Mid ε' S' → nx' ε' S') → aForI g b ⟨nx', rt, bk, ct, ex⟩ ds ε S) : aForI g b ⟨nx, rt, bk, ct, ex⟩ ds ε S := h nx k
end Y
/-! Yu: methods of texts, places of an item, displays of dicts, sorted, steps, del, dicts comprehended. -/
namespace Y
open PySem PySem.Spec PyProof.Rows L2 Z

/-! ### methods with one argument -/
abbrev cbm (r : V → List V → Hp → VK → Prop) : R2 := fun x y H Q => r x [y] H Q
def isS (t : T) (k : Str → Prop) : Prop := match t with | .val (.str s) => k s | _ => False
def aM1 (f : F2) (a b : RC) : RC := fun ε S K' => a ε S fun t => isS t fun s => b ε S fun u => f (.val (.str s)) u K'
/-- the receiver calm, the argument owned -/
def eM1 (f : F2) (a : RC) (x : RE) : RE := fun A ε S K' => a ε S fun t => isS t fun s => x A ε S fun u ε1 S1 => f (.val (.str s)) u fun r => K' r ε1 S1
def oStarts : F2 := fun x y K' => match x, y with
  | .val (.str a), .val (.str b) => K' (.val (.bl (Txt.startswith a b)))
  | _, _ => False
def strs? : List D → Option (List Str)
  | [] => some []
  | .str s :: r => (strs? r).map (s :: ·)
  | _ :: _ => none
theorem strs?_map : ∀ ss : List Str, strs? (ss.map .str) = some ss
  | [] => rfl
  | s :: ss => by rw [List.map_cons, strs?, strs?_map]; rfl
theorem strs?_eq : ∀ {ds : List D} {ss : List Str}, strs? ds = some ss → ds = ss.map .str
  | [], _, h => by cases h; rfl
  | .str s :: r, ss, h => by
    rw [strs?] at h
    cases q : strs? r with
    | none => rw [q] at h; cases h
    | some t => rw [q] at h; cases h; rw [strs?_eq q]; rfl
  | .non :: _, _, h => by cases h
  | .bl _ :: _, _, h => by cases h
  | .int _ :: _, _, h => by cases h
  | .obj _ :: _, _, h => by cases h
  | .nd _ _ :: _, _, h => by cases h
def oJoin : F2 := fun x y K' => match x with
  | .val (.str a) => (match y.ds with
    | some (.lst, ds) => oGet (strs? ds) fun ys => (ys.map (·.length)).sum + ys.length * a.length ≤ 16777216 ∧ K' (.val (.str (Txt.join a ys)))
    | some (.tup, ds) => oGet (strs? ds) fun ys => (ys.map (·.length)).sum + ys.length * a.length ≤ 16777216 ∧ K' (.val (.str (Txt.join a ys)))
    | _ => False)
  | _ => False
section
variable {K : PySem.W.Frag} {N : Nm} {W : WX} {fx : Nat → Bool} {σ : L2.St} {H : Hp} {Q : VK} {a b c : RC} {x y : RE} {f : F2} {r : V → List V → Hp → VK → Prop} {G : Hp}
theorem rpStrsE : ∀ {vs : List V} {ns : List Str}, RpAll K N G vs (ns.map .str) → vs = ns.map V.str
  | _, [], h => by cases h; rfl
  | _, n :: ns, h => by cases h with | cons r t => cases r; rw [rpStrsE t]; rfl
theorem s_starts : OpS K N oStarts (cbm fun x xs H Q => ∃ a b, x = .str a ∧ xs = [.str b] ∧ Q (.bl (Txt.startswith a b)) H) := by
  intro G H x y tx ty K' Q sr bx bY q o
  unfold oStarts at q
  split at q
  · cases bw_str bx; cases bw_str bY
    exact ⟨_, _, rfl, rfl, o.sc sr (.bl _) q⟩
  · exact q.elim
theorem s_join : OpS K N oJoin (cbm fun x xs H Q => ∃ a p, ∃ ys : List Str, x = .str a ∧ xs = [.ref p] ∧ (SqL K H p (ys.map V.str) ∨ SqT K H p (ys.map V.str)) ∧
      (ys.map (·.length)).sum + ys.length * a.length ≤ 16777216 ∧ Q (.str (Txt.join a ys)) H) := by
  intro G H x y tx ty K' Q sr bx bY q o
  unfold oJoin at q
  split at q
  · cases bw_str bx
    split at q
    · rename_i e
      obtain ⟨ys, e1, l, q⟩ := oGet_elim q
      obtain ⟨a, vs, rfl, hat, ra⟩ := bw_ds bY e sr
      rw [strs?_eq e1] at ra
      rw [rpStrsE ra] at hat
      exact ⟨_, a, ys, rfl, rfl, .inl (at_sqL (N := N) hat), l, o.sc sr (.str _) q⟩
    · rename_i e
      obtain ⟨ys, e1, l, q⟩ := oGet_elim q
      obtain ⟨a, vs, rfl, hat, ra⟩ := bw_ds bY e sr
      rw [strs?_eq e1] at ra
      rw [rpStrsE ra] at hat
      exact ⟨_, a, ys, rfl, rfl, .inr (at_sqT (N := N) hat), l, o.sc sr (.str _) q⟩
    · exact q.elim
  · exact q.elim
theorem isS_elim {t : T} {k : Str → Prop} (h : isS t k) : ∃ s, t = .val (.str s) ∧ k s := by
  unfold isS at h
  split at h
  · exact ⟨_, rfl, h⟩
  · exact h.elim
theorem conc_m1 (o : OpV K N f (cbm r)) (h : concC K N (aM1 f a b) σ H Q) : tM1 r (concC K N a) (concC K N b) σ H Q := by
  obtain ⟨G, F, ε, S, K', r', q, k⟩ := h
  refine ⟨G, F, ε, S, _, r', q, fun t v G1 H1 q1 e1 b1 => ?_⟩
  obtain ⟨s, rfl, q1⟩ := isS_elim q1
  refine ⟨⟨s, bw_str b1⟩, G1, F, ε, S, _, r'.ext e1, q1, fun u w G2 H2 q2 e2 b2 => ?_⟩
  exact o G2 H2 v w _ u K' Q e2.gh (b1.ext e2) b2 q2 fun t' v' G3 H3 k' e3 b3 => k _ _ _ _ k' ((e1.trans e2).trans e3) b3
theorem conc_em1 (o : OpS K N f (cbm r)) (h : concE K N W fx (eM1 f a x) σ H Q) : tM1 r (concC K N a) (concE K N W fx x) σ H Q := by
  obtain ⟨G, F, P, ε, S, A, K', r', fi, fn, q, k, z⟩ := h
  refine ⟨G, F, ε, S, _, r', q, fun t v G1 H1 q1 e1 b1 => ?_⟩
  obtain ⟨s, rfl, q1⟩ := isS_elim q1
  obtain rfl := bw_str b1
  have gr1 := e1.gr r'.fh
  refine ⟨⟨s, rfl⟩, G1, F, P, ε, S, A, _, r'.ext e1, fi, fn, q1, fun u w ε2 S2 G2 H2 q2 g2 r2 => ?_, z.up gr1⟩
  have rd := r2.drop1
  exact o G2 H2 (.str s) w _ u _ Q r2.gh (Bw.of (.str s)) r2.bw q2 fun t' v' G3 H3 h k' e3 r3 s3 fr => k _ _ _ _ _ _ k' ((gr1.trans g2).trans (e3.gr r2.fh)) (rd.new e3 r3 s3 fr)
/-! the place of an item -/
def fstIx (d : D) : List D → Nat → Option Nat
  | [], _ => none
  | e :: r, n => if PyData.eqv e.py d.py = true then some n else fstIx d r (n + 1)
theorem fstIx_some {d : D} : ∀ {ds : List D} {n j : Nat}, fstIx d ds n = some j → ∃ i z, j = n + i ∧ ds[i]? = some z ∧ PyData.eqv z.py d.py = true ∧ ∀ m z', m < i → ds[m]? = some z' → PyData.eqv z'.py d.py = false
  | [], _, _, h => by cases h
  | e :: r, n, j, h => by
    unfold fstIx at h
    by_cases c : PyData.eqv e.py d.py = true
    · rw [if_pos c] at h
      cases h
      exact ⟨0, e, rfl, rfl, c, fun m _ l _ => absurd l (Nat.not_lt_zero m)⟩
    · rw [if_neg c] at h
      obtain ⟨i, z, e1, e2, e3, e4⟩ := fstIx_some h
      refine ⟨i + 1, z, by omega, e2, e3, fun m z' l q => ?_⟩
      cases m with
      | zero => cases q; exact Bool.eq_false_iff.mpr c
      | succ m => exact e4 m z' (by omega) q
/-- flat things in a list -/
def oIdxL : F2 := fun x y K' => match y with
  | .val d => (match x.ds with
    | some (.lst, ds) => d.flat = true ∧ ds.all D.flat = true ∧ oGet (fstIx d ds 0) fun j => K' (.val (.int (j : Nat)))
    | _ => False)
  | _ => False
theorem s_idxL : OpS K N oIdxL (cbm (rIndex K)) := by
  intro G H x y tx ty K' Q sr bx bY q o
  unfold oIdxL at q
  split at q
  · rename_i d
    split at q
    · rename_i ds e
      obtain ⟨f1, f2, q⟩ := q
      obtain ⟨j, ej, q⟩ := oGet_elim q
      obtain ⟨i, z, e1, e2, e3, e4⟩ := fstIx_some ej
      have e1 : j = i := by omega
      subst e1
      obtain ⟨a, vs, rfl, hat, ra⟩ := bw_ds bx e sr
      obtain ⟨w, ew, rw'⟩ := rpAll_get ra e2
      have fz : ∀ {e : D}, e ∈ ds → e.flat = true := fun h => List.all_eq_true.mp f2 _ h
      refine ⟨a, vs, y, j, w, rfl, rfl, at_sqL (N := N) hat, flat_py bY.val f1, (inV_py bY.val f1 ra f2).2, ew, ?_, fun m z' l ez => ?_, o.sc sr (.int _) q⟩
      · rw [eqV_py rw' bY.val (fz (List.mem_of_getElem? e2)) f1]; exact e3
      · have hm : m < ds.length := by rw [← ra.len]; exact (List.getElem?_eq_some_iff.mp ez).1
        obtain ⟨w2, ew2, rw2⟩ := rpAll_get ra (List.getElem?_eq_getElem hm)
        rw [ez] at ew2
        cases ew2
        rw [eqV_py rw2 bY.val (fz (List.getElem_mem hm)) f1]
        exact e4 m _ l (List.getElem?_eq_getElem hm)
    · exact q.elim
  · exact q.elim
theorem isL_ty {t : Y.T} {v : V} {ds : List D} (b : Bw K N G H v t) (sr : SameR G H) (h : t.ds = some (.lst, ds)) : tyV K "list" v H := by
  obtain ⟨a, vs, rfl, hat, _⟩ := bw_ds b h sr
  exact .inl ⟨rfl, vs, at_sqL (N := N) hat⟩
def aIdxL (a b : RC) : RC := fun ε S K' => a ε S fun t => (∃ ds, t.ds = some (.lst, ds)) ∧ b ε S fun u => oIdxL t u K'
theorem conc_idxL (h : concC K N (aIdxL a b) σ H Q) : tBM K "list" (rIndex K) (concC K N a) (tCons (concC K N b) tNil) σ H Q := by
  obtain ⟨G, F, ε, S, K', r', q, k⟩ := h
  refine ⟨G, F, ε, S, _, r', q, fun t v G1 H1 q1 e1 b1 => ?_⟩
  obtain ⟨⟨ds, ed⟩, q1⟩ := q1
  refine ⟨isL_ty b1 e1.gh ed, G1, F, ε, S, _, r'.ext e1, q1, fun u w G2 H2 q2 e2 b2 => ?_⟩
  exact s_idxL.v G2 H2 v w t u K' Q e2.gh (b1.ext e2) b2 q2 fun t' v' G3 H3 k' e3 b3 => k _ _ _ _ k' ((e1.trans e2).trans e3) b3
/-! ### displays of dicts -/
def dpK : List (RC × RE) → AX → Env → Sg → (List Key → List T → Env → Sg → Prop) → Prop
  | [], _, ε, S, k => k [] [] ε S
  | (a, x) :: r, A, ε, S, k => a ε S fun u => match u with
    | .val d => oGet d.k1 fun kk => x A ε S fun t ε1 S1 => dpK r A ε1 S1 fun ks ts ε2 S2 => k (kk :: ks) (t :: ts) ε2 S2
    | _ => False
def ndK : List Key → Prop
  | [] => True
  | k :: ks => ixK ks k = none ∧ ndK ks
theorem ndK_nd : ∀ {ks : List Key}, ndK ks → ks.Nodup
  | [], _ => List.nodup_nil
  | _ :: _, h => List.nodup_cons.mpr ⟨ixK_none.mp h.1, ndK_nd h.2⟩
def eDisp (ps : List (RC × RE)) : RE := fun A ε S K' => dpK ps A ε S fun ks ts ε1 S1 => ks.length ≤ 15 ∧ ndK ks ∧ K' (.nd (.dk ks) ts) ε1 S1
theorem RelT.fill {F : Hp} {ε : Env} {S : Sg} {p : Addr} {ks : List Key} {vs xs : List V} {ts us : List T} (r : RelT K N G F (.ref p :: (vs ++ xs)) (.nd (.dk []) [] :: (ts ++ us)) ε S σ H) (l : vs.length = ts.length) (lk : ks.length = vs.length) (nd : ks.Nodup) :
    H p = some (.dK []) ∧ RelT K N G F (.ref p :: xs) (.nd (.dk ks) ts :: us) ε S σ (upd H p (.dK (ks.zip vs))) := by
  obtain ⟨⟨gh, fh, h0, rr, sh, df, dg⟩, l1, l2⟩ := r
  cases rr with
  | @cons _ _ _ _ h1 h2 r1 r2 d12 =>
    cases r1 with
    | @nd a s vs0 us' o hc i n rs na =>
      cases rs
      obtain ⟨rfl, _⟩ := i
      have r2' : RepR K N G (vs.map some ++ (xs.map some ++ (σ ++ boxes S))) (ts ++ (us ++ (ε ++ S.map (·.2)))) h2 := by
        have r2 : RepR K N G ((vs ++ xs).map some ++ (σ ++ boxes S)) ((ts ++ us) ++ (ε ++ S.map (·.2))) h2 := r2
        rw [List.map_append, List.append_assoc, List.append_assoc] at r2; exact r2
      obtain ⟨hx, hr, rx, rq, dx, rfl⟩ := r2'.split l
      obtain ⟨np, _⟩ := upd_disj d12
      obtain ⟨n3, n4⟩ := un_eq_none.mp np
      obtain ⟨df1, df2⟩ := disj_un.mp df
      obtain ⟨dg1, dg2⟩ := disj_un.mp dg
      obtain ⟨nf, _⟩ := upd_disj df1
      obtain ⟨ng, _⟩ := upd_disj dg1
      have hp : H p = some (.dK []) := sh p _ (un_some upd_same)
      have key : ∀ b u, b ≠ p → un hx hr b = some u → H b = some u := fun b u c e => sh b u (by rw [un_none ((upd_ne c).trans rfl)]; exact e)
      refine ⟨hp, ⟨fun b u e => ?_, fun b u e => ?_, un (upd hx p (.dK (ks.zip vs))) hr, ?_, ?_, ?_, ?_⟩, l1, ?_⟩
      · rw [upd_ne (ne_of_none e ng)]; exact gh b u e
      · rw [upd_ne (ne_of_none e nf)]; exact fh b u e
      · exact .cons (.nd ⟨rfl, lk, nd⟩ (fun z => nomatch z) rx n3) rq (disj_upd n4 dx)
      · rw [← upd_un]
        intro b u e
        by_cases c : b = p
        · subst c; rw [upd_same] at e ⊢; exact e
        · rw [upd_ne c] at e ⊢; exact key b u c e
      · rw [← upd_un]; exact disj_upd nf df2
      · rw [← upd_un]; exact disj_upd ng dg2
      · rw [List.length_cons, List.length_append] at l2
        rw [List.length_cons, List.length_append] at l2
        rw [List.length_cons, List.length_cons]
        omega
theorem merge_nd : ∀ {more acc : List (Key × V)}, (acc.map (·.1) ++ more.map (·.1)).Nodup → mergeK acc more = acc ++ more
  | [], acc, _ => by rw [List.append_nil]; rfl
  | p :: r, acc, h => by
    have n : valV acc p.1 = none := by
      cases q : valV acc p.1 with
      | none => rfl
      | some v =>
        exfalso
        have : p.1 ∈ acc.map (·.1) := by
          unfold valV at q
          cases q2 : acc.find? fun kv => decide (kv.1 = p.1) with
          | none => rw [q2] at q; cases q
          | some kv =>
            have e := List.find?_some q2
            have m := List.mem_of_find?_eq_some q2
            exact List.mem_map.mpr ⟨kv, m, by simpa using e⟩
        have := (List.nodup_append.mp h).2.2 _ this p.1 (by simp)
        exact this rfl
    show mergeK (putK acc p.1 p.2) r = _
    rw [putK_new p.2 n, merge_nd (acc := acc ++ [(p.1, p.2)]) (by rw [List.map_append, List.append_assoc]; exact h), List.append_assoc]
    rfl
theorem dp_core {P : Nat → Option V} {A : AX} : ∀ {ps : List (RC × RE)} {G F H : Hp} {ε : Env} {S : Sg} {k : List Key → List T → Env → Sg → Prop} {QP : List (V × V) → Hp → Prop}, Rel K N G F ε S σ H → Fix P σ → FixIn fx P → dpK ps A ε S k → XRel K N W G F P A →
    (∀ ks ts vs ε' S' G' H', k ks ts ε' S' → Gr F G G' → RelT K N G' F vs ts ε' S' σ H' → ks.length = vs.length → QP ((ks.zip vs).map fun kv => (kV kv.1, kv.2)) H') → tPairs (ps.map fun p => (concC K N p.1, concE K N W fx p.2)) σ H QP
  | [], _, _, _, _, _, _, _, r, _, _, q, _, kk => kk [] [] [] _ _ _ _ q Gr.refl r rfl
  | (a, x) :: ps, G, F, H, ε, S, k, QP, r, fi, fn, q, z, kk => by
    refine ⟨G, F, ε, S, _, r, q, fun t v G1 H1 q1 e1 b1 => ?_⟩
    split at q1
    · rename_i d
      obtain ⟨kk0, ek, q1⟩ := oGet_elim q1
      have ev : v = kV kk0 := rp_k1 b1.val ek
      have gr1 := e1.gr r.fh
      refine ⟨G1, F, P, ε, S, A, _, r.ext e1, fi, fn, q1, fun t w ε1 S1 G2 H2 q2 g2 r2 => ?_, z.up gr1⟩
      obtain ⟨ht, rt, st, df, dg, rk⟩ := r2.park1
      refine dp_core rk fi fn q2 ((z.up gr1).mono g2) fun ks ts vs ε' S' G' H' qk g rr lk => ?_
      have r3 := RelT.unpark (vs := [w]) (us := [t]) (repTs1 rt) df dg g rr
      rw [ev]
      exact kk (kk0 :: ks) (t :: ts) (w :: vs) _ _ _ _ qk ((gr1.trans g2).trans g.unF) r3 (by simp [lk])
    · exact q1.elim
theorem conc_disp {ps : List (RC × RE)} (h : concE K N W fx (eDisp ps) σ H Q) : tDisp (ps.map fun p => (concC K N p.1, concE K N W fx p.2)) σ H Q := by
  obtain ⟨G, F, P, ε, S, A, K', r, fi, fn, q, k, z⟩ := h
  intro p np
  have r1 := RelT.newD (vs := []) (us := []) (o := .dK []) (s := .dk []) r np ⟨rfl, rfl, List.nodup_nil⟩ (fun z => nomatch z)
  obtain ⟨hD, rD, sD, dfD, dgD, rk⟩ := r1.park1
  refine dp_core rk fi fn q (z.mono Gr.refl) fun ks ts vs ε' S' G' H' qk g rr lk => ?_
  obtain ⟨l15, nd, qk⟩ := qk
  have nd := ndK_nd nd
  have r7 := RelT.unpark (vs := [V.ref p]) (us := [T.nd (.dk []) []]) (repTs1 rD) dfD dgD g rr
  have lt : vs.length = ts.length := rr.2.2
  obtain ⟨hp, r8⟩ := RelT.fill (vs := vs) (xs := []) (ts := ts) (us := []) (by rw [List.append_nil, List.append_nil]; exact r7) lt lk nd
  refine ⟨hp, ks.zip vs, rfl, by rw [List.length_zip]; omega, ?_⟩
  rw [merge_nd (acc := []) (by rw [List.map_nil, List.nil_append, zip_fst lk]; exact nd), List.nil_append]
  exact k _ _ _ _ _ _ qk g.unF r8
/-! ### sorted -/
def oSorted : F1 := fun x K' => match x.ds with
  | some (.lst, ds) => (match ints? ds with
    | some ns => ∀ ns' : List Int, ns'.Perm ns → ns'.Pairwise (· ≤ ·) → K' (.nd .lst ((ns'.map D.int).map .val))
    | none => oGet (strs? ds) fun ss => ss.length < 64 ∧ ∀ ys : List Str, ys.Perm ss → sortedS ys = true → K' (.nd .lst ((ys.map D.str).map .val)))
  | _ => False
def rSortedIS (K : PySem.W.Frag) : List V → Hp → VK → Prop := fun vs H Q => rSortedI K vs H Q ∨ rSortedS K vs H Q
theorem cr_sortedIS {X : Cx} : CallR X (.builtin "sorted") (rSortedIS X.K) := by
  intro pins s σ H vs us Q I r h
  rcases h with h | h
  · exact cr_sortedI pins s σ H vs us Q I r h
  · exact cr_sortedS pins s σ H vs us Q I r h
theorem strs_rp : ∀ (ns : List Str), RpAll K N G (ns.map V.str) (ns.map .str)
  | [] => .nil
  | n :: ns => .cons (.str n) (strs_rp ns)
theorem s_sorted : UnS K N oSorted (cb1 (rSortedIS K)) := by
  intro G H x tx K' Q sr bx q o
  unfold oSorted at q
  split at q
  · rename_i e
    obtain ⟨a, vs, rfl, hat, ra⟩ := bw_ds bx e sr
    split at q
    · rename_i ns e1
      rw [ints?_eq e1] at ra
      rw [rpAll_ints ra] at hat
      exact .inl ⟨a, ns, rfl, at_sqL (N := N) hat, fun ns' p h1 h2 n => o.lst sr (ints_rp ns') (q ns' h1 h2) n⟩
    · obtain ⟨ss, e1, l, q⟩ := oGet_elim q
      rw [strs?_eq e1] at ra
      rw [rpStrsE ra] at hat
      exact .inr ⟨a, ss, rfl, at_sqL (N := N) hat, l, fun ns' p h1 h2 n => o.lst sr (strs_rp ns') (q ns' h1 h2) n⟩
  · exact q.elim
/-! ### three numbers -/
def oMax3 (x y z : T) (K' : KC) : Prop := match x, y, z with
  | .val (.int i), .val (.int j), .val (.int l) => K' (.val (.int (max (max i j) l)))
  | _, _, _ => False
def eMax3 (x y z : RE) : RE := fun A ε S K' => x A ε S fun t ε1 S1 => y A ε1 S1 fun u ε2 S2 => z A ε2 S2 fun w ε3 S3 => oMax3 t u w fun r => K' r ε3 S3
/-! ### a step range -/
def iaRng3 (x y : RE) (c : Int) : RI := fun A ε S K' => x A ε S fun t ε1 S1 => y A ε1 S1 fun u ε2 S2 => match t with
  | .val (.int i) => (match u with
    | .val (.int j) => ∃ n : Nat, RgC i j c n ∧ K' ((List.range n).map fun k => .int (i + (k : Nat) * c)) ε2 S2
    | _ => False)
  | _ => False
end
end Y
/-! Yv: dicts comprehended, del, steps, the greatest of three. -/
namespace Y
open PySem PySem.Spec PyProof.Rows L2 Z

section
variable {K : PySem.W.Frag} {N : Nm} {W : WX} {fx : Nat → Bool} {σ : L2.St} {H : Hp} {Q : VK} {a b c : RC} {x y z : RE} {G F : Hp} {ε : Env} {S : Sg} {Ds : Ends} {rp : RP}
/-! ### the greatest of three -/
theorem nu_max3 (i j l : Int) : nuMax3 (.int i) (.int j) (.int l) = some (.int (max (max i j) l)) := by
  have two : ∀ i j : Int, nuMax2 (.int i) (.int j) = some (.int (max i j)) := fun i j => by
    show some (if decide (i < j) = true then V.int j else V.int i) = _
    by_cases h : i < j
    · rw [if_pos (decide_eq_true h), Int.max_eq_right (by omega)]
    · rw [if_neg (by rw [decide_eq_true_eq]; exact h), Int.max_eq_left (by omega)]
  unfold nuMax3
  rw [two]
  exact two _ _
theorem conc_max3 (h : concE K N W fx (eMax3 x y z) σ H Q) : tCB (rNuC3 nuMax3) (tCons (concE K N W fx x) (tCons (concE K N W fx y) (tCons (concE K N W fx z) tNil))) σ H Q := by
  obtain ⟨G, F, P, ε, S, A, K', r, fi, fn, q, k, zz⟩ := h
  refine ⟨G, F, P, ε, S, A, _, r, fi, fn, q, fun t v ε1 S1 G1 H1 q1 g1 r1 => ?_, zz⟩
  obtain ⟨ht, rt, st, df, dg, rk⟩ := r1.park1
  refine ⟨G1, un F ht, P, ε1, S1, A, _, rk, fi, fn, q1, fun u w ε2 S2 G2 H2 q2 g2 r2 => ?_, zz.mono g1⟩
  obtain ⟨ht2, rt2, st2, df2, dg2, rk2⟩ := r2.park1
  refine ⟨G2, un (un F ht) ht2, P, ε2, S2, A, _, rk2, fi, fn, q2, fun t3 v3 ε3 S3 G3 H3 q3 g3 r3 => ?_, (zz.mono g1).mono g2⟩
  unfold oMax3 at q3
  split at q3
  · have b1 : Bw K N G1 H1 v _ := r1.bw
    have b2 := r2.bw
    have b3 := r3.bw
    cases bw_int b1; cases bw_int b2; cases bw_int b3
    have rd := r3.drop1.lessF.lessF
    exact ⟨_, _, _, _, rfl, nu_max3 _ _ _, k _ _ _ _ _ _ q3 ((g1.trans g2.unF).trans g3.unF.unF) (rd.have (.int _))⟩
  · exact q3.elim
/-! ### a step range -/
theorem walks_rngC {lo c : Int} {n : Nat} {ds : List D} (e : ds = (List.range n).map fun k => .int (lo + (k : Nat) * c)) : Walks K N G (Itc lo c n) ds := by
  have l : ds.length = n := by rw [e, List.length_map, List.length_range]
  intro G' H s sr
  refine ⟨fun i hi => by rw [l] at hi; exact hi, Nat.le_of_eq l.symm, fun i x H' hi y => ?_⟩
  obtain ⟨rfl, rfl⟩ := y
  rw [l] at hi
  refine ⟨G', .int (lo + (i : Nat) * c), ?_, Ext.refl sr, .int _⟩
  rw [e, List.getElem?_map, List.getElem?_range hi]; rfl
theorem conc_rng3 {c : Int} {R : It → Hp → Prop} (h : concI K N W fx (iaRng3 x y c) σ H R) : iRng3 (tCons (concE K N W fx x) (tCons (concE K N W fx y) (tCons (tC (.int c)) tNil))) σ H R := by
  obtain ⟨G, F, P, ε, S, A, K', r, fi, fn, q, k, z⟩ := h
  refine conc_two (R := fun v w H2 => ∃ (i j c' : Int) (n : Nat), [v, w, V.int c] = [.int i, .int j, .int c'] ∧ RgC i j c' n ∧ R (Itc i c' n) H2) r fi fn q z fun t u v w ε2 S2 G2 H2 q2 g2 r2 => ?_
  have b1 := r2.bw
  have b2 := r2.drop1.bw
  split at q2
  · split at q2
    · cases bw_int b1; cases bw_int b2
      obtain ⟨n, rg, q2⟩ := q2
      exact ⟨_, _, _, n, rfl, rg, k _ _ _ _ _ _ q2 g2 r2.drop1.drop1 (walks_rngC rfl)⟩
    · exact q2.elim
  · exact q2.elim
/-! ### del d[k] -/
def sDel (r : RP) (a : RC) : AS := fun A ε S => r ε S fun pl => a ε S fun u => match u with
  | .val d => (match getP ε S pl with
    | some (.nd (.dk ks) us) => oGet d.k1 fun k => oGet (ixK ks k) fun j => A.nx (setE ε pl (.nd (.dk (ks.eraseIdx j)) (us.eraseIdx j))) (setS S pl (.nd (.dk (ks.eraseIdx j)) (us.eraseIdx j)))
    | _ => False)
  | _ => False
theorem drop_zip {k : Key} : ∀ {ks : List Key} {vs : List V} {j : Nat}, ks.Nodup → ks.length = vs.length → ixK ks k = some j → dropK (ks.zip vs) k = (ks.eraseIdx j).zip (vs.eraseIdx j)
  | [], _, _, _, _, h => by cases h
  | k' :: ks, [], _, _, l, _ => by simp at l
  | k' :: ks, v :: vs, j, nd, l, h => by
    unfold ixK at h
    rw [List.nodup_cons] at nd
    by_cases c : k' = k
    · rw [if_pos c] at h
      cases h
      show (List.filter (fun kv => decide (kv.1 ≠ k)) ((k', v) :: ks.zip vs)) = ks.zip vs
      rw [List.filter_cons_of_neg (by simp [c])]
      refine List.filter_eq_self.mpr fun p hp => ?_
      have := (List.of_mem_zip (a := p.1) (b := p.2) hp).1
      simp only [ne_eq, decide_not, Bool.not_eq_eq_eq_not, Bool.not_true, decide_eq_false_iff_not]
      intro e
      exact nd.1 (by rw [c, ← e]; exact this)
    · rw [if_neg c] at h
      cases q : ixK ks k with
      | none => rw [q] at h; cases h
      | some i =>
        rw [q] at h
        cases h
        show (List.filter (fun kv => decide (kv.1 ≠ k)) ((k', v) :: ks.zip vs)) = (k', v) :: (ks.eraseIdx i).zip (vs.eraseIdx i)
        rw [List.filter_cons_of_pos (by simp [c])]
        have := drop_zip nd.2 (by simpa using l) q
        unfold dropK at this
        rw [this]
theorem conc_del (h : concS K N W fx (sDel rp a) Ds σ H) : sDDel (concP K N rp) (concC K N a) Ds σ H := by
  obtain ⟨G, F, P, ε, S, A, r, fi, fn, q, e⟩ := h
  refine ⟨G, F, ε, S, _, r, q, fun pl w G2 H2 q2 e2 va => ?_⟩
  refine ⟨G2, F, ε, S, _, r.ext e2, q2, fun u y G3 H3 q3 e3 b3 => ?_⟩
  split at q3
  · rename_i d
    split at q3
    · rename_i ks us g
      obtain ⟨kk, ek, q3⟩ := oGet_elim q3
      obtain ⟨j, ej, q3⟩ := oGet_elim q3
      have r3 := (r.ext e2).ext e3
      obtain ⟨ad, vs, o, hc, hx, rfl, i1, n1, rc, rx, dx, sc, sx, ea, k⟩ := Rel.write r3 g (va.same e3.hh)
      obtain ⟨rfl, l, nd⟩ := i1
      cases rx
      have hj := ixK_lt ej
      have hju : j < us.length := by rw [← rc.len]; omega
      obtain ⟨v, h1, h2, ev, rv, rr, d12, sub⟩ := rc.erase (List.getElem?_eq_getElem hju)
      refine ⟨ad, ks.zip vs, kk, rfl, ea, rp_k1 b3.val ek, ?_, ?_⟩
      · rw [valV_ix l, ej, Option.bind_some, ev]; rfl
      · rw [drop_zip nd l ej]
        have nd' : (ks.eraseIdx j).Nodup := nd.sublist (List.eraseIdx_sublist ..)
        have l' : (ks.eraseIdx j).length = (vs.eraseIdx j).length := by rw [List.length_eraseIdx, List.length_eraseIdx, l]
        refine e.nx _ _ _ _ _ q3 ((e2.trans e3).gr r.fh) (k (.dk (ks.eraseIdx j)) _ _ _ h2 [] [] emp ⟨rfl, l', nd'⟩ (fun z => nomatch z) rr .nil emp_disj fun b u z => ?_) fi
        have z : h2 b = some u := z
        have : h1 b = none := by
          rcases d12 b with d | d
          · exact d
          · rw [z] at d; cases d
        rw [un_none rfl]
        exact sub b u (by rw [un_none this]; exact z)
    · exact q3.elim
  · exact q3.elim
/-! ### dicts comprehended -/
def aDcI (g : RG) (tt : RBE) (xk xv : RE) (vs : List Nat) (k : List Key → List T → Env → Sg → Prop) (ds : List D) (ε : Env) (S : Sg) : Prop := ∃ Pv : Nat → List Key → List T → Env → Sg → Prop, Pv 0 [] [] ε S ∧
  (∀ i d ks ts ε S, ds[i]? = some d → Pv i ks ts ε S → g d ε S fun ε1 S1 => tt noX ε1 S1 fun b ε2 S2 => if b = true then xk noX ε2 S2 fun u ε3 S3 => (match u with
      | .val d' => oGet d'.k1 fun kk => xv noX ε3 S3 fun t ε4 S4 => ks.length < sizeLine ∧ (match ixK ks kk with | some j => Pv (i + 1) ks (ts.set j t) (wipeE ε4 vs) S4 | none => Pv (i + 1) (ks ++ [kk]) (ts ++ [t]) (wipeE ε4 vs) S4)
      | _ => False) else Pv (i + 1) ks ts (wipeE ε2 vs) S2) ∧
  ∀ ks ts ε S, Pv ds.length ks ts ε S → k ks ts ε S
def eDc (ri : RI) (g : RG) (tt : RBE) (xk xv : RE) (vs : List Nat) : RE := fun A ε S K' => ri A ε S fun ds ε1 S1 => aDcI g tt xk xv vs (fun ks ts ε2 S2 => K' (.nd (.dk ks) ts) (backE ε1 ε2 vs) S2) ds (wipeE ε1 vs) S1
/-- one more pair for the dict that is being made -/
theorem RelT.pushD {p : Addr} {v : V} {t : T} {ks : List Key} {ts us : List T} {xs : List V} {k : Key} (r : RelT K N G F (.ref p :: v :: xs) (.nd (.dk ks) ts :: t :: us) ε S σ H) :
    ∃ acc s' us', H p = some (.dK acc) ∧ acc.length = ks.length ∧ putD ks ts k t = .nd s' us' ∧ RelT K N G F (.ref p :: xs) (putD ks ts k t :: us) ε S σ (upd H p (.dK (putK acc k v))) := by
  obtain ⟨⟨gh, fh, h0, rr, sh, df, dg⟩, l1, l2⟩ := r
  cases rr with
  | @cons _ _ _ _ h1 h2 r1 r2 d12 =>
    cases r1 with
    | @nd a s vs us' o hc i n rs na =>
      obtain ⟨rfl, lk, nd⟩ := i
      cases r2 with
      | @cons _ _ _ _ h3 h4 r3 r4 d34 =>
        obtain ⟨np, d5⟩ := upd_disj d12
        have d5 := d5 na
        obtain ⟨n3, n4⟩ := un_eq_none.mp np
        obtain ⟨dc3, dc4⟩ := disj_un'.mp d5
        obtain ⟨df1, df2⟩ := disj_un.mp df
        obtain ⟨df3, df4⟩ := disj_un.mp df2
        obtain ⟨dg1, dg2⟩ := disj_un.mp dg
        obtain ⟨dg3, dg4⟩ := disj_un.mp dg2
        obtain ⟨nf, dfc⟩ := upd_disj df1
        obtain ⟨ng, dgc⟩ := upd_disj dg1
        have hp : H p = some (.dK (ks.zip vs)) := sh p _ (un_some upd_same)
        obtain ⟨s', us2, vs', hc', e', n', i', r', sub⟩ := dk_put (k := k) rs lk nd r3 dc3.symm
        -- what the new children use is of the old
        have sub2 : ∀ b u, hc' b = some u → (un hc h3) b = some u := fun b u z => by
          have z2 := sub b u (by rw [un_none rfl]; exact z)
          rw [un_comm dc3.symm] at z2
          exact z2
        have subn : ∀ b, (un hc h3) b = none → hc' b = none := fun b z => by
          cases q : hc' b with
          | none => rfl
          | some u => rw [sub2 b u q] at z; cases z
        have key : ∀ b u, b ≠ p → un hc' h4 b = some u → H b = some u := fun b u c e => by
          refine sh b u ?_
          rcases un_cases e with e | ⟨z, e⟩
          · have e := sub2 b u e
            rcases un_cases e with e | ⟨z2, e⟩
            · exact un_some ((upd_ne c).trans e)
            · rw [un_none ((upd_ne c).trans z2)]; exact un_some e
          · -- of the rest
            have zz : hc b = none ∧ h3 b = none := by
              constructor
              · rcases dc4 b with q | q
                · exact q
                · rw [e] at q; cases q
              · rcases d34 b with q | q
                · exact q
                · rw [e] at q; cases q
            rw [un_none ((upd_ne c).trans zz.1), un_none zz.2]; exact e
        have dj : ∀ {Z : Hp}, Disj hc Z → Disj h3 Z → Disj hc' Z := fun {Z} d1 d2 b => by
          rcases d1 b with q | q
          · rcases d2 b with q2 | q2
            · exact .inl (subn b (un_eq_none.mpr ⟨q, q2⟩))
            · exact .inr q2
          · exact .inr q
        refine ⟨ks.zip vs, s', us2, hp, by rw [List.length_zip]; omega, e', ?_⟩
        rw [e']
        refine ⟨⟨fun b u e => ?_, fun b u e => ?_, un (upd hc' p (.dK (putK (ks.zip vs) k v))) h4, ?_, ?_, ?_, ?_⟩, l1, by simpa using l2⟩
        · rw [upd_ne (ne_of_none e ng)]; exact gh b u e
        · rw [upd_ne (ne_of_none e nf)]; exact fh b u e
        · exact .cons (.nd i' n' r' (subn p (un_eq_none.mpr ⟨na, n3⟩))) r4 (disj_upd n4 (dj dc4 d34))
        · rw [← upd_un]
          intro b u e
          by_cases c : b = p
          · subst c; rw [upd_same] at e ⊢; exact e
          · rw [upd_ne c] at e ⊢; exact key b u c e
        · rw [← upd_un]; exact disj_upd nf (disj_un.mpr ⟨dj (dfc na) df3, df4⟩)
        · rw [← upd_un]; exact disj_upd ng (disj_un.mpr ⟨dj (dgc na) dg3, dg4⟩)
theorem conc_dcT {ri : RI} {ws vs : List Nat} {ga : RG} {g : TG} {tt : RBE} {tc : TT} {xk xv : RE} (htt : ∀ σ H Q, concBE K N W0 fx tt σ H Q → tc σ H Q) (hg : GOk K N fx ws ga g) (hws : ∀ i ∈ ws, i ∈ vs) (hfx : ∀ i ∈ vs, fx i = false) (h : concE K N W fx (eDc ri ga tt xk xv vs) σ H Q) :
    tDc (concI K N W fx ri) g tc (concE K N W0 fx xk) (concE K N W0 fx xv) vs σ H Q := by
  obtain ⟨G, F, P, ε, S, A, K', r, fi, fn, q, k, z⟩ := h
  refine ⟨G, F, P, ε, S, A, _, r, fi, fn, q, fun ds ε1 S1 G1 H1 J q1 g1 r1 wk => ?_, z⟩
  intro p np
  have fw := fi.wipe (vs := vs) fn hfx
  obtain ⟨Pv, p0, hs, hd⟩ := q1
  refine ⟨fun i m H' => m = ds.length - i ∧ i ≤ ds.length ∧ ∃ G' ε' S' ks ts, Gr F G G' ∧ Same G1 G' ∧ RelT K N G' F [.ref p] [.nd (.dk ks) ts] ε' S' (L2.wipe σ vs) H' ∧ Pv i ks ts ε' S',
    ⟨_, rfl, Nat.zero_le _, G1, _, S1, [], [], g1, Same.refl _, RelT.newD (o := .dK []) r1.wipe np ⟨rfl, rfl, List.nodup_nil⟩ (fun z => nomatch z), p0⟩, ?_⟩
  rintro i m H' ⟨rfl, hi, G2, ε2, S2, ks, ts, g2, s2, r2, q2⟩
  obtain ⟨w1, w2, w3⟩ := wk G2 H' s2 r2.gh
  by_cases hlt : i < ds.length
  · right
    refine ⟨w1 i hlt, fun H3 => ∃ G' ε' S' ks ts, Gr F G G' ∧ Same G1 G' ∧ RelT K N G' F [.ref p] [.nd (.dk ks) ts] ε' S' (L2.wipe σ vs) H3 ∧ Pv (i + 1) ks ts ε' S',
      fun H3 h3 => ⟨_, by omega, rfl, hlt, h3⟩, fun v H3 y => ?_⟩
    obtain ⟨G3, d, e1, ex, rp⟩ := w3 i v H3 hlt y
    rw [List.getElem?_eq_getElem hlt] at e1
    have e1 := Option.some.inj e1
    subst e1
    have r3 := r2.ext ex
    have g3 := g2.trans (ex.gr r2.fh)
    have s3 := s2.trans ex.gg
    obtain ⟨hD, rD, sD, dfD, dgD, rk⟩ := r3.park1
    refine hg G3 (un F hD) P ε2 S2 _ H3 v _ _ _ rk fw fn rp (hs i _ ks ts ε2 S2 (List.getElem?_eq_getElem hlt) q2) fun ε4 S4 σ4 q4 r4 f4 w4 => ?_
    have w4' : L2.wipe σ4 vs = L2.wipe σ vs := (w4 vs hws).trans wipe_idem
    refine ⟨w4', htt _ _ _ ⟨G3, un F hD, P, ε4, S4, noX, _, r4, f4, fn, q4, fun b ε5 S5 G5 H5 q5 g5 r5 => ?_, xrel0⟩⟩
    cases b with
    | true =>
      rw [if_pos rfl] at q5 ⊢
      refine ⟨G5, un F hD, P, ε5, S5, noX, _, r5, f4, fn, q5, fun u w ε6 S6 G6 H6 q6 g6 r6 => ?_, xrel0⟩
      split at q6
      · rename_i d'
        obtain ⟨kk, ek, q6⟩ := oGet_elim q6
        have ew : w = kV kk := rp_k1 r6.bw.val ek
        refine ⟨G6, un F hD, P, ε6, S6, noX, _, r6.drop1, f4, fn, q6, fun t w2 ε7 S7 G7 H7 q7 g7 r7 => ?_, xrel0⟩
        have g57 := (g5.trans g6).trans g7
        have r8 := RelT.unpark (vs := [V.ref p]) (us := [T.nd (.dk ks) ts]) (repTs1 rD) dfD dgD g57 r7
        obtain ⟨acc, s', us', ea, el, e', r9⟩ := RelT.pushD (k := kk) r8
        have r10 := r9.wipe (vs := vs)
        rw [w4'] at r10
        obtain ⟨lz, q7⟩ := q7
        refine ⟨acc, kk, ew, ea, by rw [el]; exact lz, G7, wipeE ε7 vs, S7, ?_⟩
        unfold putD at r10
        cases qi : ixK ks kk with
        | some j =>
          rw [qi] at r10 q7
          exact ⟨ks, ts.set j t, g3.trans g57.unF, s3.trans g57.gg, r10, q7⟩
        | none =>
          rw [qi] at r10 q7
          exact ⟨ks ++ [kk], ts ++ [t], g3.trans g57.unF, s3.trans g57.gg, r10, q7⟩
      · exact q6.elim
    | false =>
      rw [if_neg (by decide)] at q5 ⊢
      have r7 := RelT.unpark (vs := [V.ref p]) (us := [T.nd (.dk ks) ts]) (repTs1 rD) dfD dgD g5 r5
      refine ⟨G5, _, S5, ks, ts, g3.trans g5.unF, s3.trans g5.gg, ?_, q5⟩
      have r9 := r7.wipe (vs := vs)
      rw [w4'] at r9
      exact r9
  · left
    have ei : i = ds.length := by omega
    subst ei
    refine ⟨w2, k _ _ _ _ _ _ (hd _ _ _ _ q2) g2 (Rel.back r1 s2 r2 wipe_len fun j hj => wipe_off hj)⟩
theorem conc_dc {ri : RI} {ws vs : List Nat} {ga : RG} {g : TG} {tt : RBE} {xk xv : RE} (hg : GOk K N fx ws ga g) (hws : ∀ i ∈ ws, i ∈ vs) (hfx : ∀ i ∈ vs, fx i = false) (h : concE K N W fx (eDc ri ga tt xk xv vs) σ H Q) :
    tDc (concI K N W fx ri) g (concBE K N W0 fx tt) (concE K N W0 fx xk) (concE K N W0 fx xv) vs σ H Q := conc_dcT (fun _ _ _ h => h) hg hws hfx h
theorem conc_dcY {ri : RI} {ws vs : List Nat} {ga : RG} {g : TG} {xk xv : RE} (hg : GOk K N fx ws ga g) (hws : ∀ i ∈ ws, i ∈ vs) (hfx : ∀ i ∈ vs, fx i = false) (h : concE K N W fx (eDc ri ga bYes xk xv vs) σ H Q) :
    tDc (concI K N W fx ri) g tYes (concE K N W0 fx xk) (concE K N W0 fx xv) vs σ H Q := conc_dcT (fun _ _ _ h => conc_yes h) hg hws hfx h
end
end Y
namespace Y
open PySem PySem.Spec PyProof.Rows L2 Z
/-! ### forms -/
section
variable {K' : KC} {kb : KB} {a b : Str} {i j l : Int}
theorem o_starts : oStarts (.val (.str a)) (.val (.str b)) K' = K' (.val (.bl (Txt.startswith a b))) := rfl
theorem o_max3 : oMax3 (.val (.int i)) (.val (.int j)) (.val (.int l)) K' = K' (.val (.int (max (max i j) l))) := rfl
theorem isS_s {k : Str → Prop} : isS (.val (.str a)) k = k a := rfl
theorem o_join_n {ys : List Str} : oJoin (.val (.str a)) (.nd .lst ((ys.map D.str).map .val)) K' = ((ys.map (·.length)).sum + ys.length * a.length ≤ 16777216 ∧ K' (.val (.str (Txt.join a ys)))) := by
  unfold oJoin; simp only [ds_lst, strs?_map, oGet_some]
theorem sortedII {ns : List Int} (h : ∀ ns' : List Int, ns'.Perm ns → ns'.Pairwise (· ≤ ·) → K' (.nd .lst ((ns'.map D.int).map .val))) : oSorted (.nd .lst ((ns.map D.int).map .val)) K' := by
  unfold oSorted; simp only [ds_lst, ints?_map]; exact h
theorem ints?_str {s : Str} {ss : List Str} : ints? ((s :: ss).map .str) = none := rfl
theorem sortedSI {ss : List Str} (hl : ss.length < 64) (h : ∀ ys : List Str, ys.Perm ss → sortedS ys = true → K' (.nd .lst ((ys.map D.str).map .val))) : oSorted (.nd .lst ((ss.map D.str).map .val)) K' := by
  unfold oSorted
  simp only [ds_lst]
  cases ss with
  | nil =>
    show ∀ ns' : List Int, ns'.Perm [] → _ → _
    intro ns' p _
    rw [p.eq_nil]
    exact h [] (List.Perm.refl _) rfl
  | cons s ss =>
    rw [ints?_str]
    simp only [strs?_map, oGet_some]
    exact ⟨hl, h⟩
end
end Y
/-! Yw: loops over mapped lists; texts that begin with a text. -/
namespace Y
open PySem PySem.Spec PyProof.Rows L2 Z

section
variable {g : RG} {b : AS} {nx bk ct : Env → Sg → Prop} {rt : T → Env → Sg → Prop} {ex : AX} {ε : Env} {S : Sg}
/-- a fold over a mapped list -/
theorem forFold {α β : Type} {xs : List α} {f : α → D} (step : β → α → β) (I : β → Env → Sg → Prop) (b0 : β) (h0 : I b0 ε S)
    (hs : ∀ q x ε S (nx' : Env → Sg → Prop), x ∈ xs → I q ε S → (∀ ε' S', I (step q x) ε' S' → nx' ε' S') → g (f x) ε S fun ε1 S1 => b ⟨nx', rt, nx, nx', ex⟩ ε1 S1)
    (hd : ∀ ε S, I (xs.foldl step b0) ε S → nx ε S) : aForI g b ⟨nx, rt, bk, ct, ex⟩ (xs.map f) ε S := by
  refine forI (fun i ε S => I ((xs.take i).foldl step b0) ε S) h0 (fun i d ε S nx' e hi p kk => ?_) (fun ε S p => hd ε S ?_)
  · rw [List.length_map] at hi
    rw [List.getElem?_map, List.getElem?_eq_getElem hi] at e
    cases e
    refine hs _ _ ε S nx' (List.getElem_mem hi) p fun ε' S' q => kk ε' S' ?_
    rw [List.take_succ_eq_append_getElem hi, List.foldl_append]
    exact q
  · rw [List.length_map, List.take_length] at p; exact p
/-- each item of a mapped list, one state for all turns -/
theorem forEach {α : Type} {xs : List α} {f : α → D} (I : Env → Sg → Prop) (h0 : I ε S)
    (hs : ∀ x ε S (nx' : Env → Sg → Prop), x ∈ xs → I ε S → (∀ ε' S', I ε' S' → nx' ε' S') → g (f x) ε S fun ε1 S1 => b ⟨nx', rt, nx, nx', ex⟩ ε1 S1)
    (hd : ∀ ε S, I ε S → nx ε S) : aForI g b ⟨nx, rt, bk, ct, ex⟩ (xs.map f) ε S :=
  forFold (fun _ _ => ()) (fun _ => I) () h0 (fun _ x ε S nx' m p kk => hs x ε S nx' m p kk) hd
end
/-! texts -/
theorem str_ext {a b : Str} (h : a.cps.toList = b.cps.toList) : a = b := by
  cases a; cases b
  congr
  exact Array.toList_inj.mp h
theorem len_cps {a : Str} : a.cps.toList.length = a.length := by rw [Array.length_toList]; rfl
theorem cutS_to {a : Str} {n : Nat} : (cutS a none (some (n : Int))).cps.toList = a.cps.toList.take n := by
  unfold cutS
  rw [HT.sIx_none, HT.sIx_nat, List.drop_zero, Nat.sub_zero]
  show (a.cps.toList.take (min n a.length)) = _
  by_cases h : n ≤ a.length
  · rw [Nat.min_eq_left h]
  · rw [Nat.min_eq_right (by omega), List.take_of_length_le (by rw [len_cps]; exact Nat.le_refl _), List.take_of_length_le (by rw [len_cps]; omega)]
theorem starts_cut {a p : Str} : decide (cutS a none (some (p.length : Int)) = p) = Txt.startswith a p := by
  have e1 : (cutS a none (some (p.length : Int)) = p) ↔ a.cps.toList.take p.length = p.cps.toList := by
    rw [← cutS_to]
    exact ⟨fun h => by rw [h], str_ext⟩
  have e2 : PySem.Builtin.Str.subAt a p 0 = true ↔ a.cps.toList.take p.length = p.cps.toList := by
    unfold PySem.Builtin.Str.subAt
    rw [beq_iff_eq, ← Array.toList_inj, Array.toList_extract, List.extract_eq_drop_take, List.drop_zero, Nat.zero_add, Nat.sub_zero]
  have e3 : a.cps.toList.take p.length = p.cps.toList → 0 + p.length ≤ a.length := fun h => by
    have := congrArg List.length h
    rw [List.length_take, len_cps, len_cps] at this
    omega
  unfold Txt.startswith
  by_cases h : a.cps.toList.take p.length = p.cps.toList
  · rw [decide_eq_true (e1.mpr h), decide_eq_true (e3 h), e2.mpr h]; rfl
  · rw [decide_eq_false (fun q => h (e1.mp q)), Bool.eq_false_iff.mpr (fun q => h (e2.mp q)), Bool.and_false]
/-! comprehensions over mapped lists -/
section
variable {g : RG} {tt : RBE} {x : RE} {vs : List Nat} {k : List T → Env → Sg → Prop} {ε : Env} {S : Sg} {α : Type} {xs : List α} {h : α → D}
theorem lcMap (f : α → D) (hl : xs.length ≤ 1000000) (hs : ∀ a, a ∈ xs → ∀ kk : T → Env → Sg → Prop, (∀ ε3, wipeE ε3 vs = ε → kk (.val (f a)) ε3 S) → g (h a) ε S fun ε1 S1 => x noX ε1 S1 kk)
    (hd : k ((xs.map f).map .val) ε S) : aLcI g bYes x vs k (xs.map h) ε S := by
  refine ⟨fun i acc ε' S' => ε' = ε ∧ S' = S ∧ acc = ((xs.take i).map f).map .val, ⟨rfl, rfl, rfl⟩, ?_, ?_⟩
  · rintro i d acc _ _ e ⟨rfl, rfl, rfl⟩
    obtain ⟨hi, e⟩ := List.getElem?_eq_some_iff.mp e
    rw [List.length_map] at hi
    rw [List.getElem_map] at e
    subst e
    refine hs xs[i] (List.getElem_mem hi) _ fun ε3 w => ?_
    refine ⟨by rw [List.length_map, List.length_map, List.length_take, sizeLine_eq]; omega, w, rfl, ?_⟩
    rw [List.take_succ_eq_append_getElem hi, List.map_append, List.map_append]; rfl
  · rintro acc _ _ ⟨rfl, rfl, rfl⟩
    rw [List.length_map, List.take_length]; exact hd
theorem lcMapF (p : α → Bool) (f : α → D) (hl : xs.length ≤ 1000000)
    (hs : ∀ a, a ∈ xs → ∀ (yes : T → Env → Sg → Prop) (no : Env → Sg → Prop), (p a = true → ∀ ε3, wipeE ε3 vs = ε → yes (.val (f a)) ε3 S) → (p a = false → ∀ ε2, wipeE ε2 vs = ε → no ε2 S) → g (h a) ε S fun ε1 S1 => tt noX ε1 S1 fun b ε2 S2 => if b = true then x noX ε2 S2 yes else no ε2 S2)
    (hd : k (((xs.filter p).map f).map .val) ε S) : aLcI g tt x vs k (xs.map h) ε S := by
  refine lcI (fun i acc ε' S' => ε' = ε ∧ S' = S ∧ acc = (((xs.take i).filter p).map f).map .val) ⟨rfl, rfl, rfl⟩ ?_ ?_
  · rintro i d acc _ _ yes no e hi ⟨rfl, rfl, rfl⟩ hy hn
    obtain ⟨_, e⟩ := List.getElem?_eq_some_iff.mp e
    rw [List.length_map] at hi
    rw [List.getElem_map] at e
    subst e
    have tk : (xs.take (i + 1)).filter p = (xs.take i).filter p ++ (if p xs[i] = true then [xs[i]] else []) := by
      rw [List.take_succ_eq_append_getElem hi, List.filter_append]
      congr 1
      by_cases h : p xs[i] = true
      · rw [if_pos h, List.filter_cons_of_pos h]; rfl
      · rw [if_neg h, List.filter_cons_of_neg h]; rfl
    have ll : ((((xs.take i).filter p).map f).map T.val).length < sizeLine := by
      rw [List.length_map, List.length_map, sizeLine_eq]
      have := List.length_filter_le p (xs.take i)
      rw [List.length_take] at this
      omega
    refine hs xs[i] (List.getElem_mem hi) _ _ (fun h ε3 w => hy _ _ _ ll ⟨w, rfl, ?_⟩) (fun h ε2 w => hn _ _ ⟨w, rfl, ?_⟩)
    · rw [tk, if_pos h, List.map_append, List.map_append]; rfl
    · rw [tk, if_neg (by rw [h]; exact Bool.noConfusion), List.append_nil]
  · rintro acc _ _ ⟨rfl, rfl, rfl⟩
    rw [List.length_map, List.take_length]; exact hd
end
section
variable {g : RG} {b : AS} {nx bk ct : Env → Sg → Prop} {rt : T → Env → Sg → Prop} {ex : AX} {ε : Env} {S : Sg}
/-- a mapped list, by what is done of it -/
theorem forM {α : Type} {xs : List α} {f : α → D} (Pv : List α → Env → Sg → Prop) (h0 : Pv [] ε S)
    (hs : ∀ q x r ε S (nx' : Env → Sg → Prop), xs = q ++ x :: r → Pv q ε S → (∀ ε' S', Pv (q ++ [x]) ε' S' → nx' ε' S') → g (f x) ε S fun ε1 S1 => b ⟨nx', rt, nx, nx', ex⟩ ε1 S1)
    (hd : ∀ ε S, Pv xs ε S → nx ε S) : aForI g b ⟨nx, rt, bk, ct, ex⟩ (xs.map f) ε S := by
  refine forI (fun i ε S => Pv (xs.take i) ε S) h0 (fun i d ε S nx' e hi p kk => ?_) (fun ε S p => hd ε S ?_)
  · rw [List.length_map] at hi
    rw [List.getElem?_map, List.getElem?_eq_getElem hi] at e
    cases e
    refine hs _ xs[i] (xs.drop (i + 1)) ε S nx' ?_ p fun ε' S' q => kk ε' S' ?_
    · rw [← List.drop_eq_getElem_cons hi, List.take_append_drop]
    · rw [List.take_succ_eq_append_getElem hi]; exact q
  · rw [List.length_map, List.take_length] at p; exact p
end
end Y
/-! Yx: walks over a list that stays owned; what is appended may be made by calls. -/
namespace Y
open PySem PySem.Spec PyProof.Rows L2 Z

section
variable {K : PySem.W.Frag} {N : Nm} {W : WX} {fx : Nat → Bool} {σ : L2.St} {H : Hp} {Q : VK} {G F : Hp} {ε : Env} {S : Sg} {Ds : Ends} {rp : RP} {b : AS} {x : RE}
/-- the thing at a place, and what is left -/
theorem Rel.part {pl : Pl} {t : T} (r : Rel K N G F ε S σ H) (g : getP ε S pl = some t) (nu : t ≠ .unk) :
    ∃ v hu rest, RepT K N G v t hu ∧ Same hu H ∧ Disj hu F ∧ Disj hu G ∧ Same rest H ∧ Disj rest F ∧ Disj rest G ∧ Disj hu rest ∧ VAt H σ pl v ∧
      ∀ G' t' hu', Same G G' → RepT K N G' v t' hu' → Disj hu' rest → RepR K N G' (σ ++ boxes (setS S pl t')) (setE ε pl t' ++ (setS S pl t').map (·.2)) (un rest hu') ∧ σ.length = (setE ε pl t').length := by
  obtain ⟨⟨gh, fh, h0, rr, sh, df, dg⟩, l1, l2⟩ := r
  have rr : RepR K N G (σ ++ boxes S) (ε ++ S.map (·.2)) h0 := rr
  obtain ⟨rt, p⟩ := pl
  cases rt with
  | slot i =>
    have g : (ε[i]?).bind (getT p) = some t := g
    cases q : ε[i]? with
    | none => rw [q] at g; cases g
    | some c =>
      rw [q] at g
      obtain ⟨v0, w, hu, rest, e1, ru, d, rfl, va2, kk⟩ := rr.focus (env_get q) g nu
      have e3 := slot_get l1 (List.getElem?_eq_some_iff.mp q).1 e1
      refine ⟨w, hu, rest, ru, same_un_r d.symm sh, (disj_un.mp df).2, (disj_un.mp dg).2, same_un_l sh, (disj_un.mp df).1, (disj_un.mp dg).1, d, ⟨v0, e3, va2 H sh⟩, fun G' t' hu' s r' d' => ?_⟩
      have z := kk G' t' hu' s r' d'
      rw [env_set q] at z
      have eE : setE ε ⟨.slot i, p⟩ t' = ε.set i (setT t' p c) := by
        show (match ε[i]? with | some c => ε.set i (setT t' p c) | none => ε) = _
        rw [q]
      rw [eE]
      exact ⟨z, by rw [List.length_set]; exact l1⟩
  | box a =>
    have g : (boxOf S a).bind (getT p) = some t := g
    cases q : boxOf S a with
    | none => rw [q] at g; cases g
    | some c =>
      rw [q] at g
      obtain ⟨j, ej0, ej⟩ := boxOf_ix q
      have i1 : (ε ++ S.map (·.2))[ε.length + j]? = some c := by
        rw [List.getElem?_append_right (by omega)]
        have : ε.length + j - ε.length = j := by omega
        rw [this, List.getElem?_map, ej]; rfl
      obtain ⟨v0, w, hu, rest, e1, ru, d, rfl, va2, kk⟩ := rr.focus i1 g nu
      have e0 : v0 = .ref a := by
        rw [List.getElem?_append_right (by omega)] at e1
        have : ε.length + j - σ.length = j := by omega
        rw [this] at e1
        unfold boxes at e1
        rw [List.getElem?_map, ej] at e1
        exact (Option.some.inj (Option.some.inj e1)).symm
      subst e0
      refine ⟨w, hu, rest, ru, same_un_r d.symm sh, (disj_un.mp df).2, (disj_un.mp dg).2, same_un_l sh, (disj_un.mp df).1, (disj_un.mp dg).1, d, va2 H sh, fun G' t' hu' s r' d' => ?_⟩
      have z := kk G' t' hu' s r' d'
      have es : (ε ++ S.map (·.2)).set (ε.length + j) (setT t' p c) = ε ++ (setBox S a (setT t' p c)).map (·.2) := by
        rw [List.set_append_right _ _ (by omega), setBox_snd ej0]
        have : ε.length + j - ε.length = j := by omega
        rw [this]
      rw [es] at z
      have eS : setS S ⟨.box a, p⟩ t' = setBox S a (setT t' p c) := by
        show (match boxOf S a with | some c => setBox S a (setT t' p c) | none => S) = _
        rw [q]
      rw [eS, boxes_set]
      exact ⟨z, l1⟩
theorem VAt.uniq {pl : Pl} {v w : V} (h : VAt H σ pl v) (h' : VAt H σ pl w) : v = w := by
  obtain ⟨rt, p⟩ := pl
  cases rt with
  | slot i =>
    obtain ⟨w1, e1, e2⟩ := h
    obtain ⟨w2, e3, e4⟩ := h'
    rw [e1] at e3
    cases e3
    rw [e2] at e4
    exact Option.some.inj e4
  | box a =>
    have h : vAt H p (.ref a) = some v := h
    have h' : vAt H p (.ref a) = some w := h'
    rw [h] at h'
    exact Option.some.inj h'
/-- .. is taken out, a hole stays -/
theorem Rel.take {pl : Pl} {s : Sh} {us : List T} {v : V} (r : Rel K N G F ε S σ H) (g : getP ε S pl = some (.nd s us)) (va : VAt H σ pl v) :
    ∃ a hu, v = .ref a ∧ RepT K N G (.ref a) (.nd s us) hu ∧ Same hu H ∧ Disj hu F ∧ Disj hu G ∧ Rel K N G (un F hu) (setE ε pl (.hole a)) (setS S pl (.hole a)) σ H := by
  obtain ⟨w, hu, rest, ru, sh, df, dg, sr, dfr, dgr, d, va2, kk⟩ := Rel.part r g (fun z => nomatch z)
  have ev : v = w := va.uniq va2
  subst ev
  have hv : ∃ a, v = .ref a := by cases ru; exact ⟨_, rfl⟩
  obtain ⟨a, rfl⟩ := hv
  obtain ⟨z, l⟩ := kk G (.hole a) emp (Same.refl _) (.hole a) emp_disj
  rw [un_emp] at z
  exact ⟨a, hu, rfl, ru, sh, df, dg, ⟨r.gh, same_un r.fh sh, rest, z, sr, disj_un'.mpr ⟨dfr, d.symm⟩, dgr⟩, l, rfl⟩
/-- .. and put back, perhaps changed -/
theorem Rel.put {pl : Pl} {t : T} {a : Addr} {hu : Hp} (r : Rel K N G (un F hu) ε S σ H) (g : getP ε S pl = some (.hole a)) (rt : RepT K N G (.ref a) t hu) (df : Disj hu F) (dg : Disj hu G) :
    Rel K N G F (setE ε pl t) (setS S pl t) σ H := by
  obtain ⟨w, h1, rest, ru, sh, df1, dg1, sr, dfr, dgr, d, va2, kk⟩ := Rel.part r g (fun z => nomatch z)
  cases ru
  obtain ⟨dr1, dr2⟩ := disj_un'.mp dfr
  obtain ⟨z, l⟩ := kk G t hu (Same.refl _) rt dr2.symm
  exact ⟨⟨r.gh, same_un_l r.fh, un rest hu, z, same_un sr (same_un_r df.symm r.fh), disj_un.mpr ⟨dr1, df⟩, disj_un.mpr ⟨dgr, dg⟩⟩, l, rfl⟩
theorem Rel.putG {pl : Pl} {t : T} {a : Addr} {hu G1 : Hp} {vs : List V} {us : List T} (r : RelT K N G (un F hu) vs us ε S σ H) (g : getP ε S pl = some (.hole a)) (rt : RepT K N G1 (.ref a) t hu) (df : Disj hu F) (dg : Disj hu G1) (gr : Gr (un F hu) G1 G) :
    RelT K N G F vs us (setE ε pl t) (setS S pl t) σ H := by
  have r0 : RelT K N G (un F hu) (vs ++ []) (us ++ []) ε S σ H := by rw [List.append_nil, List.append_nil]; exact r
  obtain ⟨h, rv, sh, d1, d2, _, rk⟩ := r0.park r.2.2
  have sF : Same (un F hu) H := r.fh
  have dg' : Disj hu G := disj_gr (F := un F hu) rt.noTup (fun a q z => q (un_eq_none.mp z).2) gr r.gh (same_un_r df.symm sF) dg
  obtain ⟨d3, d4⟩ := disj_un'.mp d1
  have e : un (un F hu) h = un (un F h) hu := by rw [un_assoc, un_comm d4.symm, ← un_assoc]
  rw [e] at rk
  have z := Rel.put rk g (rt.up gr.gg) (disj_un'.mpr ⟨df, d4.symm⟩) dg'
  have := RelT.unpark (vs := vs) (us := us) (xs := []) (ts := []) rv d3 d2 Gr.refl z
  rw [List.append_nil, List.append_nil] at this
  exact this
/-! ### walks that lean on the frame -/
def WalksF (K : PySem.W.Frag) (N : Nm) (F G : Hp) (J : It) (ds : List D) : Prop := ∀ G' H, Same G G' → SameR G' H → Same F H →
  (∀ i, i < ds.length → J.go i H) ∧ J.stop ds.length H ∧ ∀ i x H', i < ds.length → J.yld i H x H' → ∃ G2 d, ds[i]? = some d ∧ Ext G' H G2 H' ∧ Rp K N G2 x d
theorem walksF_of {J : It} {ds : List D} (w : Walks K N G J ds) : WalksF K N F G J ds := fun G' H s sr _ => w G' H s sr
theorem walksF_lst {a : Addr} {vs : List V} {ds : List D} (ha : ∀ H, Same F H → SqL K H a vs) (r : RpAll K N G vs ds) : WalksF K N F G (Itl K a) ds := by
  intro G' H s sr sf
  have w := walk_list (K := K) (a := a) (xs := vs)
  have q := ha H sf
  have l := r.len
  refine ⟨fun i hi => w.goes i H (by omega) q, by rw [← l]; exact w.stops H q, fun i x H' hi y => ?_⟩
  obtain ⟨rfl, e⟩ := w.yields i H x H' (by omega) q y
  obtain ⟨v, e1, r1⟩ := rpAll_get r (List.getElem?_eq_getElem hi)
  rw [e1] at e
  cases e
  exact ⟨G', _, List.getElem?_eq_getElem hi, Ext.refl sr, r1.up s⟩
theorem walksF_enum {a : Addr} {vs : List V} {ds : List D} (ha : ∀ H, Same F H → SqL K H a vs) (r : RpAll K N G vs ds) : WalksF K N F G (Ite K a) (enumD 0 ds) := by
  intro G' H s sr sf
  have w := walk_enum (K := K) (a := a) (xs := vs)
  have q := ha H sf
  have l := r.len
  rw [enumD_len]
  refine ⟨fun i hi => w.goes i H (by omega) q, by rw [← l]; exact w.stops H q, fun i x H' hi y => ?_⟩
  obtain ⟨T, a1, b1, rfl, hT, rfl, e1, e2⟩ := w.yields i H x H' (by omega) q y
  cases e1
  obtain ⟨v, e3, r1⟩ := rpAll_get r (List.getElem?_eq_getElem hi)
  have e2 : vs[i]? = some b1 := e2
  rw [e3] at e2
  have eb := Option.some.inj e2
  subst eb
  have ex := ext_tup (vs := [V.int (i : Nat), v]) sr hT
  refine ⟨_, _, enumD_get (List.getElem?_eq_getElem hi), ex, .nd (.inl upd_same) ?_⟩
  rw [Nat.zero_add]
  exact .cons (.int _) (.cons ((r1.up s).up ex.gg) .nil)
inductive Pit where | seq | enum
def Pit.w : Pit → List D → List D
  | .seq, ds => ds
  | .enum, ds => enumD 0 ds
def Pit.it (K : PySem.W.Frag) : Pit → Addr → It
  | .seq, a => Itl K a
  | .enum, a => Ite K a
def Pit.ti (K : PySem.W.Frag) : Pit → TE → TI
  | .seq, t => iSeqB K t
  | .enum, t => iEnum K (tCons t tNil)
theorem Pit.walks {p : Pit} {a : Addr} {vs : List V} {ds : List D} (ha : ∀ H, Same F H → SqL K H a vs) (r : RpAll K N G vs ds) : WalksF K N F G (p.it K a) (p.w ds) := by
  cases p
  · exact walksF_lst ha r
  · exact walksF_enum ha r
theorem Pit.walksG {p : Pit} {a : Addr} {vs : List V} {ds : List D} (ha : ∀ H, SameR G H → SqL K H a vs) (r : RpAll K N G vs ds) : WalksF K N F G (p.it K a) (p.w ds) := by
  cases p
  · exact walksF_of (walks_lst ha r)
  · exact walksF_of (walks_enum ha r)
theorem pit_ok {p : Pit} {R : It → Hp → Prop} (h : concP K N rp σ H fun v H1 => ∃ a, v = .ref a ∧ ((∃ vs, SqL K H1 a vs ∧ R (p.it K a) H1) ∨ (p = .seq ∧ (∃ vs, SqT K H1 a vs) ∧ R (Itt K a) H1))) : p.ti K (concP K N rp) σ H R := by
  obtain ⟨G, F, ε, S, K', r, q, k⟩ := h
  cases p with
  | seq =>
    refine ⟨G, F, ε, S, K', r, q, fun pl v G' H' k' e va => ?_⟩
    obtain ⟨a, rfl, h⟩ := k pl v G' H' k' e va
    rcases h with ⟨vs, h1, h2⟩ | ⟨_, h1, h2⟩
    · exact ⟨a, rfl, .inl ⟨⟨vs, h1⟩, h2⟩⟩
    · exact ⟨a, rfl, .inr ⟨h1, h2⟩⟩
  | enum =>
    refine ⟨G, F, ε, S, K', r, q, fun pl v G' H' k' e va => ?_⟩
    obtain ⟨a, rfl, h⟩ := k pl v G' H' k' e va
    rcases h with ⟨vs, h1, h2⟩ | ⟨h0, _⟩
    · exact ⟨a, vs, rfl, h1, h2⟩
    · cases h0
/-! ### for x in a list at a place -/
def back (pl : Pl) (t : T) (a : Addr) (k : Env → Sg → Prop) : Env → Sg → Prop := fun ε' S' => getP ε' S' pl = some (.hole a) ∧ k (setE ε' pl t) (setS S' pl t)
def sForP (p : Pit) (rp : RP) (g : RG) (b : AS) : AS := fun A ε S => rp ε S fun pl => match getP ε S pl with
  | some (.nd .lst us) => oGet (allVal us) fun ds => ∀ a, aForI g b ⟨back pl (.nd .lst us) a A.nx, fun t => back pl (.nd .lst us) a (A.rt t), fun _ _ => False, fun _ _ => False, fun C p => back pl (.nd .lst us) a (A.ex C p)⟩ (p.w ds) (setE ε pl (.hole a)) (setS S pl (.hole a))
  | some (.val (.nd .lst ds)) => aForI g b A (p.w ds) ε S
  | some (.val (.nd .slst ds)) => aForI g b A (p.w ds) ε S
  | some (.val (.nd .tup ds)) => p = .seq ∧ aForI g b A ds ε S
  | _ => False
theorem loop_core {P : Nat → Option V} {ws : List Nat} {ga : RG} {g : TG} {J : It} {ds : List D} {A : AD} (hg : GOk K N fx ws ga g) (wk : WalksF K N F G J ds) (r : Rel K N G F ε S σ H) (fi : Fix P σ) (fn : FixIn fx P) (q : aForI ga b A ds ε S) (e : EndsRel K N W G F P A Ds) :
    ∃ Wv : Nat → Nat → L2.St → Hp → Prop, (∃ m, Wv 0 m σ H) ∧ ∀ i m σ H, Wv i m σ H →
      (J.stop i H ∧ Ds.nx σ H) ∨ (J.go i H ∧ ∃ Nx : L2.St → Hp → Prop, (∀ σ' H', Nx σ' H' → ∃ m', m' < m ∧ Wv (i + 1) m' σ' H') ∧ ∀ x H', J.yld i H x H' → g x σ H' fun σ2 H2 => concS K N W fx b { Ds with nx := Nx, ct := Nx, bk := Ds.nx } σ2 H2) := by
  obtain ⟨Pv, p0, hs, hd⟩ := q
  refine ⟨fun i m σ' H' => m = ds.length - i ∧ i ≤ ds.length ∧ ∃ G' ε' S', Gr F G G' ∧ Rel K N G' F ε' S' σ' H' ∧ Fix P σ' ∧ Pv i ε' S',
    ⟨_, rfl, Nat.zero_le _, G, ε, S, Gr.refl, r, fi, p0⟩, ?_⟩
  rintro i m σ' H' ⟨rfl, hi, G2, ε2, S2, g2, r2, f2, q2⟩
  obtain ⟨w1, w2, w3⟩ := wk G2 H' g2.gg r2.gh r2.fh
  by_cases hlt : i < ds.length
  · right
    refine ⟨w1 i hlt, fun σ3 H3 => ∃ G' ε' S', Gr F G G' ∧ Rel K N G' F ε' S' σ3 H3 ∧ Fix P σ3 ∧ Pv (i + 1) ε' S', fun σ3 H3 h3 => ⟨_, by omega, rfl, hlt, h3⟩, fun v H3 y => ?_⟩
    obtain ⟨G3, d, e1, ex, rp⟩ := w3 i v H3 hlt y
    rw [List.getElem?_eq_getElem hlt] at e1
    have e1 := Option.some.inj e1
    subst e1
    have r3 := r2.ext ex
    have g3 := g2.trans (ex.gr r2.fh)
    refine hg G3 F P ε2 S2 σ' H3 v _ _ _ r3 f2 fn rp (hs i _ ε2 S2 (List.getElem?_eq_getElem hlt) q2) fun ε4 S4 σ4 q4 r4 f4 _ => ?_
    refine ⟨G3, F, P, ε4, S4, _, r4, f4, fn, q4, ?_⟩
    have go : ∀ ε5 S5 G5 σ5 H5, Pv (i + 1) ε5 S5 → Gr F G3 G5 → Rel K N G5 F ε5 S5 σ5 H5 → Fix P σ5 → ∃ G' ε' S', Gr F G G' ∧ Rel K N G' F ε' S' σ5 H5 ∧ Fix P σ5 ∧ Pv (i + 1) ε' S' :=
      fun ε5 S5 G5 σ5 H5 q5 g5 r5 f5 => ⟨G5, ε5, S5, g3.trans g5, r5, f5, q5⟩
    exact ⟨go, fun ε5 S5 G5 σ5 H5 q5 g5 r5 f5 => e.nx _ _ _ _ _ q5 (g3.trans g5) r5 f5, go, fun t v ε5 S5 G5 σ5 H5 q5 g5 r5 f5 => e.rt _ _ _ _ _ _ _ q5 (g3.trans g5) r5 f5, e.ex.up g3⟩
  · left
    have ei : i = ds.length := by omega
    subst ei
    exact ⟨w2, e.nx _ _ _ _ _ (hd _ _ q2) g2 r2 f2⟩
/-- what is taken out of a place: a list's items -/
theorem lst_items {a : Addr} {us : List T} {ds : List D} {hu : Hp} (ru : RepT K N G (.ref a) (.nd .lst us) hu) (e : allVal us = some ds) (dfu : Disj hu F) : ∃ vs, RpAll K N G vs ds ∧ ∀ H', Same (un F hu) H' → SqL K H' a vs := by
  cases ru with
  | @nd _ _ vs _ o hc i n rs na =>
    have i : o = .lst vs := i
    subst i
    exact ⟨vs, rs.vals e, fun H' s => SqL.of (same_un_r dfu.symm s a _ upd_same)⟩
theorem seq_at {pl : Pl} {s : Sh} {ds : List D} {v : V} (r : Rel K N G F ε S σ H) (g : getP ε S pl = some (.val (.nd s ds))) (va : VAt H σ pl v) : ∃ a vs, v = .ref a ∧ s.rd K N G a vs ∧ RpAll K N G vs ds := by
  obtain ⟨hu, ru, _, _⟩ := Rel.place r g (fun z => nomatch z) va
  cases ru with
  | val rp => cases rp with
    | nd hr ra => exact ⟨_, _, rfl, hr, ra⟩
theorem conc_forP {p : Pit} {ws : List Nat} {ga : RG} {g : TG} (hg : GOk K N fx ws ga g) (h : concS K N W fx (sForP p rp ga b) Ds σ H) : tFor (p.ti K (concP K N rp)) g (concS K N W fx b) Ds σ H := by
  obtain ⟨G, F, P, ε, S, A, r, fi, fn, q, e⟩ := h
  refine pit_ok ⟨G, F, ε, S, _, r, q, fun pl v G1 H1 q1 e1 va => ?_⟩
  have r1 := r.ext e1
  have g1 := e1.gr r.fh
  split at q1
  · rename_i us g0
    obtain ⟨ds, eds, q1⟩ := oGet_elim q1
    obtain ⟨a, hu, rfl, ru, su, dfu, dgu, rk⟩ := Rel.take r1 g0 va
    obtain ⟨vs, ra, sq⟩ := lst_items (F := F) ru eds dfu
    refine ⟨a, rfl, .inl ⟨vs, sq _ rk.fh, loop_core hg (Pit.walks sq ra) rk fi fn (q1 a) ⟨?_, ?_, ?_, ?_, ?_⟩⟩⟩
    · exact fun ε5 S5 G5 σ5 H5 q5 g5 r5 f5 => e.nx _ _ _ _ _ q5.2 (g1.trans g5.unF) (Rel.putG r5 q5.1 ru dfu dgu g5) f5
    · exact fun ε5 S5 G5 σ5 H5 q5 _ _ _ => q5.elim
    · exact fun ε5 S5 G5 σ5 H5 q5 _ _ _ => q5.elim
    · exact fun t v ε5 S5 G5 σ5 H5 q5 g5 r5 f5 => e.rt _ _ _ _ _ _ _ q5.2 (g1.trans g5.unF) (Rel.putG r5 q5.1 ru dfu dgu g5) f5
    · exact fun C p ε5 S5 G5 σ5 H5 d q5 g5 r5 f5 y => e.ex _ _ _ _ _ _ _ _ q5.2 (g1.trans g5.unF) (Rel.putG r5 q5.1 ru dfu dgu g5) f5 y
  · rename_i ds g0
    obtain ⟨a, vs, rfl, hr, ra⟩ := seq_at r1 g0 va
    have hl := rd_sqL (.inl rfl) hr
    exact ⟨a, rfl, .inl ⟨vs, hl _ r1.gh, loop_core hg (Pit.walksG hl ra) r1 fi fn q1 (e.up g1)⟩⟩
  · rename_i ds g0
    obtain ⟨a, vs, rfl, hr, ra⟩ := seq_at r1 g0 va
    have hl := rd_sqL (.inr rfl) hr
    exact ⟨a, rfl, .inl ⟨vs, hl _ r1.gh, loop_core hg (Pit.walksG hl ra) r1 fi fn q1 (e.up g1)⟩⟩
  · rename_i ds g0
    obtain ⟨a, vs, rfl, hr, ra⟩ := seq_at r1 g0 va
    have hl : ∀ H, SameR G1 H → SqT K H a vs := fun H sr => at_sqT (N := N) (Sh.rd_at sr hr)
    exact ⟨a, rfl, .inr ⟨q1.1, ⟨vs, hl _ r1.gh⟩, loop_core hg (walksF_of (walks_tup hl ra)) r1 fi fn q1.2 (e.up g1)⟩⟩
  · exact q1.elim
end
end Y
/-! Yy: comprehensions over a list that stays owned; what is appended may be made by calls. -/
namespace Y
open PySem PySem.Spec PyProof.Rows L2 Z

def eLcP (p : Pit) (rp : RP) (g : RG) (tt : RBE) (x : RE) (vs : List Nat) : RE := fun A ε S K' => rp ε S fun pl => match getP ε S pl with
  | some (.nd .lst us) => oGet (allVal us) fun ds => ∀ a, aLcI g tt x vs (fun ts ε2 S2 => back pl (.nd .lst us) a (K' (.nd .lst ts)) (backE (setE ε pl (.hole a)) ε2 vs) S2) (p.w ds) (wipeE (setE ε pl (.hole a)) vs) (setS S pl (.hole a))
  | some (.val (.nd .lst ds)) => aLcI g tt x vs (fun ts ε2 S2 => K' (.nd .lst ts) (backE ε ε2 vs) S2) (p.w ds) (wipeE ε vs) S
  | some (.val (.nd .slst ds)) => aLcI g tt x vs (fun ts ε2 S2 => K' (.nd .lst ts) (backE ε ε2 vs) S2) (p.w ds) (wipeE ε vs) S
  | some (.val (.nd .tup ds)) => p = .seq ∧ aLcI g tt x vs (fun ts ε2 S2 => K' (.nd .lst ts) (backE ε ε2 vs) S2) ds (wipeE ε vs) S
  | _ => False
section
variable {K : PySem.W.Frag} {N : Nm} {W : WX} {fx : Nat → Bool} {σ : L2.St} {H : Hp} {Q : VK} {G F : Hp} {ε : Env} {S : Sg} {Ds : Ends} {rp : RP} {b : AS} {x : RE}
theorem lc_coreY {P : Nat → Option V} {ws vs : List Nat} {ga : RG} {g : TG} {tt : RBE} {tc : TT} {J : It} {ds : List D} {k : List T → Env → Sg → Prop} (htt : ∀ σ H Q, concBE K N W0 fx tt σ H Q → tc σ H Q) (hg : GOk K N fx ws ga g) (hws : ∀ i ∈ ws, i ∈ vs) (hfx : ∀ i ∈ vs, fx i = false)
    (wk : WalksF K N F G J ds) (r : Rel K N G F ε S σ H) (fi : Fix P σ) (fn : FixIn fx P) (q : aLcI ga tt x vs k ds (wipeE ε vs) S)
    (fin : ∀ ts ε2 S2 G2 H' p, k ts ε2 S2 → Gr F G G2 → RelT K N G2 F [.ref p] [.nd .lst ts] (backE ε ε2 vs) S2 σ H' → Q (.ref p) H') :
    ∀ D, H D = none → ∃ Wv : Nat → Nat → Hp → Prop, (∃ m, Wv 0 m (upd H D (.lst []))) ∧ ∀ i m H, Wv i m H →
      (J.stop i H ∧ Q (.ref D) H) ∨ (J.go i H ∧ ∃ Nx : Hp → Prop, (∀ H', Nx H' → ∃ m', m' < m ∧ Wv (i + 1) m' H') ∧ ∀ y H', J.yld i H y H' → g y (L2.wipe σ vs) H' fun σ2 H2 => L2.wipe σ2 vs = L2.wipe σ vs ∧ tc σ2 H2 fun b H3 =>
        if b = true then concE K N W0 fx x σ2 H3 fun y H4 => ∃ acc, H4 D = some (.lst acc) ∧ acc.length < sizeLine ∧ Nx (upd H4 D (.lst (acc ++ [y]))) else Nx H3) := by
  intro p np
  have fw := fi.wipe (vs := vs) fn hfx
  obtain ⟨Pv, p0, hs, hd⟩ := q
  refine ⟨fun i m H' => m = ds.length - i ∧ i ≤ ds.length ∧ ∃ G' ε' S' ts, Gr F G G' ∧ RelT K N G' F [.ref p] [.nd .lst ts] ε' S' (L2.wipe σ vs) H' ∧ Pv i ts ε' S',
    ⟨_, rfl, Nat.zero_le _, G, _, S, [], Gr.refl, RelT.newD (o := .lst []) (RelT.wipe r) np rfl (fun z => nomatch z), p0⟩, ?_⟩
  rintro i m H' ⟨rfl, hi, G2, ε2, S2, ts, g2, r2, q2⟩
  obtain ⟨w1, w2, w3⟩ := wk G2 H' g2.gg r2.gh r2.fh
  by_cases hlt : i < ds.length
  · right
    refine ⟨w1 i hlt, fun H3 => ∃ G' ε' S' ts, Gr F G G' ∧ RelT K N G' F [.ref p] [.nd .lst ts] ε' S' (L2.wipe σ vs) H3 ∧ Pv (i + 1) ts ε' S',
      fun H3 h3 => ⟨_, by omega, rfl, hlt, h3⟩, fun v H3 y => ?_⟩
    obtain ⟨G3, d, e1, ex, rp⟩ := w3 i v H3 hlt y
    rw [List.getElem?_eq_getElem hlt] at e1
    have e1 := Option.some.inj e1
    subst e1
    have r3 := r2.ext ex
    have g3 := g2.trans (ex.gr r2.fh)
    obtain ⟨hD, rD, sD, dfD, dgD, rk⟩ := r3.park1
    refine hg G3 (un F hD) P ε2 S2 _ H3 v _ _ _ rk fw fn rp (hs i _ ts ε2 S2 (List.getElem?_eq_getElem hlt) q2) fun ε4 S4 σ4 q4 r4 f4 w4 => ?_
    have w4' : L2.wipe σ4 vs = L2.wipe σ vs := (w4 vs hws).trans wipe_idem
    refine ⟨w4', htt _ _ _ ⟨G3, un F hD, P, ε4, S4, noX, _, r4, f4, fn, q4, fun b ε5 S5 G5 H5 q5 g5 r5 => ?_, xrel0⟩⟩
    cases b with
    | true =>
      rw [if_pos rfl] at q5 ⊢
      refine ⟨G5, un F hD, P, ε5, S5, noX, _, r5, f4, fn, q5, fun t w ε6 S6 G6 H6 q6 g6 r6 => ?_, xrel0⟩
      have r7 := RelT.unpark (vs := [V.ref p]) (us := [T.nd .lst ts]) (repTs1 rD) dfD dgD (g5.trans g6) r6
      obtain ⟨acc, ea, el, r8⟩ := RelT.push r7
      refine ⟨acc, ea, by rw [el]; exact q6.1, G6, _, S6, _, (g3.trans g5.unF).trans g6.unF, ?_, q6.2⟩
      have r9 := r8.wipe (vs := vs)
      rw [w4'] at r9
      exact r9
    | false =>
      rw [if_neg (by decide)] at q5 ⊢
      have r7 := RelT.unpark (vs := [V.ref p]) (us := [T.nd .lst ts]) (repTs1 rD) dfD dgD g5 r5
      refine ⟨G5, _, S5, ts, g3.trans g5.unF, ?_, q5⟩
      have r9 := r7.wipe (vs := vs)
      rw [w4'] at r9
      exact r9
  · left
    have ei : i = ds.length := by omega
    subst ei
    exact ⟨w2, fin _ _ _ _ _ _ (hd _ _ _ q2) g2 (Rel.back r g2.gg r2 wipe_len fun j hj => wipe_off hj)⟩
theorem conc_lcPT {p : Pit} {ws vs : List Nat} {ga : RG} {g : TG} {tt : RBE} {tc : TT} (htt : ∀ σ H Q, concBE K N W0 fx tt σ H Q → tc σ H Q) (hg : GOk K N fx ws ga g) (hws : ∀ i ∈ ws, i ∈ vs) (hfx : ∀ i ∈ vs, fx i = false) (h : concE K N W fx (eLcP p rp ga tt x vs) σ H Q) :
    tLc (p.ti K (concP K N rp)) g tc (concE K N W0 fx x) vs σ H Q := by
  obtain ⟨G, F, P, ε, S, A, K', r, fi, fn, q, k, z⟩ := h
  refine pit_ok ⟨G, F, ε, S, _, r, q, fun pl v G1 H1 q1 e1 va => ?_⟩
  have r1 := r.ext e1
  have g1 := e1.gr r.fh
  split at q1
  · rename_i us g0
    obtain ⟨ds, eds, q1⟩ := oGet_elim q1
    obtain ⟨a, hu, rfl, ru, su, dfu, dgu, rk⟩ := Rel.take r1 g0 va
    obtain ⟨ws', ra, sq⟩ := lst_items (F := F) ru eds dfu
    refine ⟨a, rfl, .inl ⟨ws', sq _ rk.fh, lc_coreY htt hg hws hfx (Pit.walks sq ra) rk fi fn (q1 a) fun ts ε2 S2 G2 H' p' q5 g5 r5 => ?_⟩⟩
    exact k _ _ _ _ _ _ q5.2 (g1.trans g5.unF) (Rel.putG r5 q5.1 ru dfu dgu g5)
  · rename_i ds g0
    obtain ⟨a, ws', rfl, hr, ra⟩ := seq_at r1 g0 va
    have hl := rd_sqL (.inl rfl) hr
    exact ⟨a, rfl, .inl ⟨ws', hl _ r1.gh, lc_coreY htt hg hws hfx (Pit.walksG hl ra) r1 fi fn q1 fun ts ε2 S2 G2 H' p' q5 g5 r5 => k _ _ _ _ _ _ q5 (g1.trans g5) r5⟩⟩
  · rename_i ds g0
    obtain ⟨a, ws', rfl, hr, ra⟩ := seq_at r1 g0 va
    have hl := rd_sqL (.inr rfl) hr
    exact ⟨a, rfl, .inl ⟨ws', hl _ r1.gh, lc_coreY htt hg hws hfx (Pit.walksG hl ra) r1 fi fn q1 fun ts ε2 S2 G2 H' p' q5 g5 r5 => k _ _ _ _ _ _ q5 (g1.trans g5) r5⟩⟩
  · rename_i ds g0
    obtain ⟨a, ws', rfl, hr, ra⟩ := seq_at r1 g0 va
    have hl : ∀ H, SameR G1 H → SqT K H a ws' := fun H sr => at_sqT (N := N) (Sh.rd_at sr hr)
    exact ⟨a, rfl, .inr ⟨q1.1, ⟨ws', hl _ r1.gh⟩, lc_coreY htt hg hws hfx (walksF_of (walks_tup hl ra)) r1 fi fn q1.2 fun ts ε2 S2 G2 H' p' q5 g5 r5 => k _ _ _ _ _ _ q5 (g1.trans g5) r5⟩⟩
  · exact q1.elim
theorem conc_lcP {p : Pit} {ws vs : List Nat} {ga : RG} {g : TG} {tt : RBE} (hg : GOk K N fx ws ga g) (hws : ∀ i ∈ ws, i ∈ vs) (hfx : ∀ i ∈ vs, fx i = false) (h : concE K N W fx (eLcP p rp ga tt x vs) σ H Q) :
    tLc (p.ti K (concP K N rp)) g (concBE K N W0 fx tt) (concE K N W0 fx x) vs σ H Q := conc_lcPT (fun _ _ _ h => h) hg hws hfx h
theorem conc_lcPY {p : Pit} {ws vs : List Nat} {ga : RG} {g : TG} (hg : GOk K N fx ws ga g) (hws : ∀ i ∈ ws, i ∈ vs) (hfx : ∀ i ∈ vs, fx i = false) (h : concE K N W fx (eLcP p rp ga bYes x vs) σ H Q) :
    tLc (p.ti K (concP K N rp)) g tYes (concE K N W0 fx x) vs σ H Q := conc_lcPT (fun _ _ _ h => conc_yes h) hg hws hfx h
/-! ### what is appended is made by calls -/
def sAppH (rp : RP) (x : RE) : AS := fun A ε S => rp ε S fun pl => match getP ε S pl with
  | some (.nd .lst us) => ∀ a, x (fun C p => back pl (.nd .lst us) a (A.ex C p)) (setE ε pl (.hole a)) (setS S pl (.hole a)) fun t ε1 S1 => getP ε1 S1 pl = some (.hole a) ∧ us.length < sizeLine ∧ A.nx (setE ε1 pl (.nd .lst (us ++ [t]))) (setS S1 pl (.nd .lst (us ++ [t])))
  | _ => False
theorem conc_appH (h : concS K N W fx (sAppH rp x) Ds σ H) : tDrop (tBM K "list" rAppend (concP K N rp) (tCons (concE K N W fx x) tNil)) Ds σ H := by
  obtain ⟨G, F, P, ε, S, A, r, fi, fn, q, e⟩ := h
  refine ⟨G, F, ε, S, _, r, q, fun pl v G1 H1 q1 e1 va => ?_⟩
  have r1 := r.ext e1
  have g1 := e1.gr r.fh
  split at q1
  · rename_i us g0
    refine ⟨place_lst r1 g0 va, ?_⟩
    obtain ⟨a, hu, rfl, ru, su, dfu, dgu, rk⟩ := Rel.take r1 g0 va
    refine ⟨G1, un F hu, P, _, _, _, _, rk, fi, fn, q1 a, fun t w ε2 S2 G2 H2 q2 g2 r2 => ?_, fun C p ε5 S5 G5 σ5 H5 d q5 g5 r5 f5 y => e.ex _ _ _ _ _ _ _ _ q5.2 (g1.trans g5.unF) (Rel.putG r5 q5.1 ru dfu dgu g5) f5 y⟩
    obtain ⟨gh, lz, q2⟩ := q2
    have sF : Same (un F hu) H2 := r2.fh
    have dG2 : Disj hu G2 := disj_gr (F := un F hu) ru.noTup (fun b q z => q (un_eq_none.mp z).2) g2 r2.gh (same_un_r dfu.symm sF) dgu
    obtain ⟨h, rw', sh, d1, d2, rk2⟩ := r2.park1
    obtain ⟨v', h0', rest, rv, _, _, _, sr, dfr, dgr, _, _, kk⟩ := Rel.part rk2 gh (fun z => nomatch z)
    cases rv
    obtain ⟨dr1, drh⟩ := disj_un'.mp dfr
    obtain ⟨drF, dru⟩ := disj_un'.mp dr1
    obtain ⟨dhF, dhu⟩ := disj_un'.mp d1
    cases ru with
    | @nd _ _ vs _ o hc i n rs na =>
      have i : o = .lst vs := i
      subst i
      have ea : H2 a = some (.lst vs) := same_un_r dfu.symm sF a _ upd_same
      obtain ⟨nFa, dcF⟩ := upd_disj dfu
      obtain ⟨nGa, dcG⟩ := upd_disj dG2
      obtain ⟨nra, dcr⟩ := upd_disj dru.symm
      obtain ⟨nha, dch⟩ := upd_disj dhu.symm
      have dcF := dcF na
      have dcG := dcG na
      have dcr := dcr na
      have dch := dch na
      have nn : un hc h a = none := un_eq_none.mpr ⟨na, nha⟩
      have sc : Same hc H2 := same_upd_l (same_un_r dfu.symm sF) na
      have rt' : RepT K N G2 (.ref a) (.nd .lst (us ++ [t])) (upd (un hc h) a (.lst (vs ++ [w]))) := .nd rfl (fun z => nomatch z) ((rs.up g2.gg).snoc rw' dch.symm) nn
      have dd : Disj (upd (un hc h) a (.lst (vs ++ [w]))) rest := disj_upd nra (disj_un.mpr ⟨dcr, drh.symm⟩)
      obtain ⟨z, l⟩ := kk G2 _ _ (Same.refl _) rt' dd
      refine ⟨a, vs, w, rfl, rfl, ea, by rw [rs.len]; exact lz, ?_⟩
      refine e.nx _ _ _ _ _ q2 (g1.trans g2.unF) ⟨⟨fun b u eb => ?_, fun b u eb => ?_, _, z, fun b u eb => ?_, disj_un.mpr ⟨drF, disj_upd nFa (disj_un.mpr ⟨dcF, dhF⟩)⟩, disj_un.mpr ⟨dgr, disj_upd nGa (disj_un.mpr ⟨dcG, d2⟩)⟩⟩, l, rfl⟩ fi
      · rw [upd_ne (ne_of_none eb nGa)]; exact r2.gh b u eb
      · rw [upd_ne (ne_of_none eb nFa)]; exact same_un_l sF b u eb
      · by_cases c : b = a
        · subst c
          rw [un_none nra, upd_same] at eb
          rw [upd_same]; exact eb
        · rw [upd_ne c]
          rcases un_cases eb with eb | ⟨_, eb⟩
          · exact sr b u eb
          · rw [upd_ne c] at eb
            rcases un_cases eb with eb | ⟨_, eb⟩
            · exact sc b u eb
            · exact sh b u eb
  · exact q1.elim
end
end Y
/-! Yz: the greatest of a list with a default. -/
namespace Y
open PySem PySem.Spec PyProof.Rows L2 Z

def maxOf (ns : List Int) (d : Int) : Int := match ns with
  | [] => d
  | n :: r => r.foldl max n
def rMaxDf (K : PySem.W.Frag) : List V → List V → Hp → VK → Prop := fun vs zs H Q => ∃ (a : Addr) (ns : List Int) (d : Int), vs = [V.ref a] ∧ zs = [V.int d] ∧ SqL K H a (ns.map V.int) ∧ Q (.int (maxOf ns d)) H
theorem ints_dpAll {K : PySem.W.Frag} {H : Hp} : ∀ ns : List Int, DpAll K H (ns.map V.int) (ns.map PyData.int)
  | [] => .nil
  | n :: ns => .cons (.int n) (ints_dpAll ns)
theorem depth_ints : ∀ ns : List Int, PyData.depthAll (ns.map PyData.int) = 0
  | [] => rfl
  | n :: ns => by
    rw [List.map_cons, PyData.depthAll, depth_ints ns]; rfl
theorem alike_ints (ns : List Int) : PySem.W.AlikeAll (ns.map PyData.int) := by
  refine ⟨fun x hx y hy => ?_, fun x hx => ?_⟩
  · obtain ⟨i, _, rfl⟩ := List.mem_map.mp hx
    obtain ⟨j, _, rfl⟩ := List.mem_map.mp hy
    rfl
  · obtain ⟨i, _, rfl⟩ := List.mem_map.mp hx
    exact fun z => nomatch z
theorem cr_maxDf {X : Cx} (hc : X.calm = true) (hu : X.A.units + 66 < cLine) : CallRK X (.builtin "max") [Str.ofString "default"] (rMaxDf X.K) := by
  intro pins s σ H vs zs us ws Q I r rz h
  obtain ⟨a, ns, d, rfl, rfl, hs, q⟩ := h
  obtain rfl := Vals.ref1 r
  obtain ⟨w1, rfl, t, rfl⟩ := vals1 rz
  obtain ⟨its, rv, hl, _⟩ := I.list hs
  obtain ⟨as, ra⟩ := Dp.readsAll I (ns.map PyData.int) _ its (ints_dpAll ns) rv
  have hl' : s.heap.IsList a its.toArray := hl.isList
  refine PySem.W.max_list_default (I.ok.hd hc) hl' (show ReadsAll s.heap its.toArray.toList _ as from ra) (alike_ints ns) (by rw [depth_ints]; omega) (fun e h' tk k => ?_) (fun y ys i v h' tk bs e _ rd k => ?_)
  · have e : ns = [] := List.map_eq_nil_iff.mp e
    subst e
    exact ⟨.int d, H, I.kept k, ⟨_, rfl⟩, q⟩
  · cases ns with
    | nil => cases e
    | cons n ns =>
      rw [List.map_cons] at e
      injection e with e1 e2
      subst e1 e2
      rw [PySem.W.maxD_ints] at rd
      cases rd
      exact ⟨.int (maxOf (n :: ns) d), H, I.kept k, ⟨_, rfl⟩, q⟩
def eMaxDf (x : RE) (d : Int) : RE := fun A ε S K' => x A ε S fun t ε1 S1 => match t.ds with
  | some (.lst, ds) => oGet (ints? ds) fun ns => K' (.val (.int (maxOf ns d))) ε1 S1
  | _ => False
section
variable {K : PySem.W.Frag} {N : Nm} {W : WX} {fx : Nat → Bool} {σ : L2.St} {H : Hp} {Q : VK} {x : RE}
theorem conc_maxDf {d : Int} (h : concE K N W fx (eMaxDf x d) σ H Q) : tCKw (rMaxDf K) (tCons (concE K N W fx x) tNil) (tCons (tC (.int d)) tNil) σ H Q := by
  obtain ⟨G, F, P, ε, S, A, K', r, fi, fn, q, k, z⟩ := h
  refine ⟨G, F, P, ε, S, A, _, r, fi, fn, q, fun t v ε1 S1 G1 H1 q1 g1 r1 => ?_, z⟩
  split at q1
  · rename_i ds e
    obtain ⟨ns, e1, q1⟩ := oGet_elim q1
    obtain ⟨a, vs, rfl, hat, ra⟩ := bw_ds r1.bw e r1.gh
    rw [ints?_eq e1] at ra
    rw [rpAll_ints ra] at hat
    exact ⟨a, ns, d, rfl, rfl, at_sqL (N := N) hat, k _ _ _ _ _ _ q1 g1 (r1.drop1.have (.int _))⟩
  · exact q1.elim
end
theorem maxDfI {ns : List Int} {d : Int} {K' : KE} {ε : Env} {S : Sg} (h : K' (.val (.int (maxOf ns d))) ε S) : (match (T.nd .lst ((ns.map D.int).map .val)).ds with
  | some (.lst, ds) => oGet (ints? ds) fun ns => K' (.val (.int (maxOf ns d))) ε S
  | _ => False) := by
  simp only [ds_lst, ints?_map, oGet_some]
  exact h
/-! dicts comprehended over mapped lists -/
def putP (p : List Key × List D) (k : Key) (d : D) : List Key × List D := match ixK p.1 k with
  | some j => (p.1, p.2.set j d)
  | none => (p.1 ++ [k], p.2 ++ [d])
def dfold {α : Type} (kf : α → Key) (vf : α → D) (xs : List α) : List Key × List D := xs.foldl (fun q a => putP q (kf a) (vf a)) ([], [])
theorem putP_len {p : List Key × List D} {k : Key} {d : D} (h : p.1.length = p.2.length) : (putP p k d).1.length = (putP p k d).2.length ∧ (putP p k d).1.length ≤ p.1.length + 1 := by
  unfold putP
  cases ixK p.1 k with
  | some j => exact ⟨by rw [List.length_set]; exact h, Nat.le_succ _⟩
  | none => exact ⟨by rw [List.length_append, List.length_append, h]; rfl, by rw [List.length_append]; exact Nat.le_refl _⟩
theorem dfold_snoc {α : Type} {kf : α → Key} {vf : α → D} {xs : List α} {a : α} : dfold kf vf (xs ++ [a]) = putP (dfold kf vf xs) (kf a) (vf a) := by
  unfold dfold; rw [List.foldl_append]; rfl
theorem list_snoc_ind {α : Type} {P : List α → Prop} (h0 : P []) (hs : ∀ xs a, P xs → P (xs ++ [a])) : ∀ xs, P xs := by
  intro xs
  have key : ∀ n (xs : List α), xs.length = n → P xs := by
    intro n
    induction n with
    | zero => intro xs h; rw [List.length_eq_zero_iff.mp h]; exact h0
    | succ n ih =>
      intro xs h
      rcases List.eq_nil_or_concat xs with e | ⟨ys, a, e⟩
      · rw [e]; exact h0
      · rw [e, List.concat_eq_append]
        refine hs ys a (ih ys ?_)
        rw [e, List.length_concat] at h
        omega
  exact key _ xs rfl
theorem dfold_len {α : Type} {kf : α → Key} {vf : α → D} : ∀ xs : List α, (dfold kf vf xs).1.length = (dfold kf vf xs).2.length ∧ (dfold kf vf xs).1.length ≤ xs.length :=
  list_snoc_ind ⟨rfl, Nat.le_refl _⟩ fun xs a ih => by
    rw [dfold_snoc, List.length_append]
    obtain ⟨h1, h2⟩ := putP_len (k := kf a) (d := vf a) ih.1
    exact ⟨h1, Nat.le_trans h2 (Nat.succ_le_succ ih.2)⟩
theorem ixK_snoc {ks : List Key} {k k' : Key} : ixK (ks ++ [k]) k' = match ixK ks k' with | some j => some j | none => if k = k' then some ks.length else none := by
  induction ks with
  | nil => rfl
  | cons c ks ih =>
    rw [List.cons_append, ixK, ixK, ih]
    by_cases q : c = k'
    · rw [if_pos q, if_pos q]
    · rw [if_neg q, if_neg q]
      cases ixK ks k' with
      | some j => rfl
      | none =>
        by_cases q2 : k = k'
        · rw [if_pos q2]; show Option.map _ _ = _; simp [q2]
        · simp [q2]
theorem ixK_at {ks : List Key} {k : Key} : ∀ {j : Nat}, ixK ks k = some j → ks[j]? = some k := by
  induction ks with
  | nil => intro j h; cases h
  | cons c ks ih =>
    intro j h
    unfold ixK at h
    by_cases q : c = k
    · rw [if_pos q] at h; cases h; rw [← q]; rfl
    · rw [if_neg q] at h
      cases e : ixK ks k with
      | none => rw [e] at h; cases h
      | some i => rw [e] at h; cases h; exact ih e
theorem getK_put {p : List Key × List D} {k k' : Key} {d : D} (h : p.1.length = p.2.length) : getK (putP p k d).1 (putP p k d).2 k' = if k' = k then some d else getK p.1 p.2 k' := by
  unfold putP
  cases q : ixK p.1 k with
  | some j =>
    have hj := ixK_lt q
    show (ixK p.1 k').bind (fun i => (p.2.set j d)[i]?) = _
    by_cases c : k' = k
    · subst c
      rw [q, if_pos rfl, Option.bind_some, List.getElem?_set_self (by omega)]
    · rw [if_neg c]
      unfold getK
      cases q2 : ixK p.1 k' with
      | none => rfl
      | some i =>
        rw [Option.bind_some, Option.bind_some, List.getElem?_set_ne]
        intro z
        subst z
        have e1 := ixK_at q
        have e2 := ixK_at q2
        rw [e1] at e2
        exact c (Option.some.inj e2).symm
  | none =>
    show (ixK (p.1 ++ [k]) k').bind (fun i => (p.2 ++ [d])[i]?) = _
    rw [ixK_snoc]
    by_cases c : k' = k
    · subst c
      rw [q, if_pos rfl, if_pos rfl, Option.bind_some, h, List.getElem?_append_right (Nat.le_refl _), Nat.sub_self]; rfl
    · rw [if_neg c]
      unfold getK
      cases q2 : ixK p.1 k' with
      | none =>
        have c2 : ¬ k = k' := fun z => c z.symm
        simp [c2]
      | some i =>
        have hi := ixK_lt q2
        rw [Option.bind_some, Option.bind_some, List.getElem?_append_left (by omega)]
theorem putP_nd {p : List Key × List D} {k : Key} {d : D} (h : p.1.Nodup) : (putP p k d).1.Nodup := by
  unfold putP
  cases q : ixK p.1 k with
  | some j => exact h
  | none => exact nodup_snoc h q
section
variable {g : RG} {tt : RBE} {xk xv : RE} {vs : List Nat} {k : List Key → List T → Env → Sg → Prop} {ε : Env} {S : Sg} {α : Type} {xs : List α} {h : α → D}
theorem dcMapF (p : α → Bool) (kf : α → Key) (vf : α → D) (hl : xs.length ≤ 1000000)
    (hs : ∀ a, a ∈ xs → ∀ (yes : Key → T → Env → Sg → Prop) (no : Env → Sg → Prop), (p a = true → ∀ ε4, wipeE ε4 vs = ε → yes (kf a) (.val (vf a)) ε4 S) → (p a = false → ∀ ε2, wipeE ε2 vs = ε → no ε2 S) →
      g (h a) ε S fun ε1 S1 => tt noX ε1 S1 fun b ε2 S2 => if b = true then xk noX ε2 S2 fun u ε3 S3 => (match u with | .val d' => oGet d'.k1 fun kk => xv noX ε3 S3 fun t ε4 S4 => yes kk t ε4 S4 | _ => False) else no ε2 S2)
    (hd : k (dfold kf vf (xs.filter p)).1 ((dfold kf vf (xs.filter p)).2.map .val) ε S) : aDcI g tt xk xv vs k (xs.map h) ε S := by
  refine ⟨fun i ks ts ε' S' => ε' = ε ∧ S' = S ∧ ks = (dfold kf vf ((xs.take i).filter p)).1 ∧ ts = (dfold kf vf ((xs.take i).filter p)).2.map .val, ⟨rfl, rfl, rfl, rfl⟩, ?_, ?_⟩
  · rintro i d ks ts _ _ e ⟨rfl, rfl, rfl, rfl⟩
    obtain ⟨hi, e⟩ := List.getElem?_eq_some_iff.mp e
    rw [List.length_map] at hi
    rw [List.getElem_map] at e
    subst e
    have tk : (xs.take (i + 1)).filter p = (xs.take i).filter p ++ (if p xs[i] = true then [xs[i]] else []) := by
      rw [List.take_succ_eq_append_getElem hi, List.filter_append]
      congr 1
      by_cases h : p xs[i] = true
      · rw [if_pos h, List.filter_cons_of_pos h]; rfl
      · rw [if_neg h, List.filter_cons_of_neg h]; rfl
    have ll := (dfold_len (kf := kf) (vf := vf) ((xs.take i).filter p)).2
    have l2 := List.length_filter_le p (xs.take i)
    rw [List.length_take] at l2
    refine hs xs[i] (List.getElem_mem hi) (fun kk t ε4 S4 => (dfold kf vf ((xs.take i).filter p)).1.length < sizeLine ∧ (match ixK (dfold kf vf ((xs.take i).filter p)).1 kk with | some j => _ | none => _)) _ (fun q ε4 w => ⟨by rw [sizeLine_eq]; omega, ?_⟩) (fun q ε2 w => ⟨w, rfl, ?_, ?_⟩)
    · have ef : dfold kf vf ((xs.take (i + 1)).filter p) = putP (dfold kf vf ((xs.take i).filter p)) (kf xs[i]) (vf xs[i]) := by
        rw [tk, if_pos q, dfold_snoc]
      unfold putP at ef
      cases qi : ixK (dfold kf vf ((xs.take i).filter p)).1 (kf xs[i]) with
      | some j =>
        rw [qi] at ef
        refine ⟨w, rfl, by rw [ef], by rw [ef, List.map_set]⟩
      | none =>
        rw [qi] at ef
        refine ⟨w, rfl, by rw [ef], by rw [ef, List.map_append]; rfl⟩
    · rw [tk, if_neg (by rw [q]; exact Bool.noConfusion), List.append_nil]
    · rw [tk, if_neg (by rw [q]; exact Bool.noConfusion), List.append_nil]
  · rintro ks ts _ _ ⟨rfl, rfl, rfl, rfl⟩
    rw [List.length_map, List.take_length]; exact hd
end
end Y
/-! Yza: walks over the keys of a dict that a field holds; the dict is read meanwhile, and not written. -/
namespace Y
open PySem PySem.Spec PyProof.Rows L2 Z

def isDk : Sh → Bool
  | .dk _ | .dt _ => true
  | _ => false
def kD : Key → D
  | .inl i => .int i
  | .inr s => .str s
def keysD : Sh → List D
  | .dk ks => ks.map kD
  | .dt ks => ks.map fun k => .tup (k.map kD)
  | _ => []
def ItL (a : Addr) (b : Obj × HO) : It := match b.2 with
  | .dK kvs => Itk a b.1 kvs
  | .dT kvs => Itkt a b.1 kvs
  | _ => Itk a b.1 []
section
variable {K : PySem.W.Frag} {N : Nm} {W : WX} {fx : Nat → Bool} {σ : L2.St} {H : Hp} {Q : VK} {G F : Hp} {ε : Env} {S : Sg} {Ds : Ends} {rp : RP} {b : AS} {x : RE}
theorem same_at {h H : Hp} {a : Addr} {o u : HO} (s : Same (upd h a o) H) (n : h a = none) : Same (upd h a u) (upd H a u) := fun c w e => by
  by_cases q : c = a
  · subst q; rw [upd_same] at e ⊢; exact e
  · rw [upd_ne q] at e ⊢; exact s c w ((upd_ne q).trans e)
theorem same_off {h H : Hp} {a : Addr} {u : HO} (s : Same h H) (n : h a = none) : Same h (upd H a u) := fun c w e => by
  by_cases q : c = a
  · subst q; rw [n] at e; cases e
  · rw [upd_ne q]; exact s c w e
theorem sameR_off {h H : Hp} {a : Addr} {u : HO} (s : SameR h H) (n : h a = none) : SameR h (upd H a u) := fun c w e => by
  by_cases q : c = a
  · subst q; rw [n] at e; cases e
  · rw [upd_ne q]; exact s c w e
theorem Rel.lock {pl : Pl} {sh : Sh} {us : List T} {v : V} (r : Rel K N G F ε S σ H) (g : getP ε S pl = some (.nd sh us)) (va : VAt H σ pl v) (hd : isDk sh = true) :
    ∃ a u, v = .ref a ∧ H a = some u ∧ Mut (some u) ∧ ∀ od, Rel K N G F (setE ε pl (.lk a (some (od, u)) sh us)) (setS S pl (.lk a (some (od, u)) sh us)) σ (upd H a (.frz od u)) := by
  obtain ⟨w, hu, rest, ru, sh1, df, dg, sr, dfr, dgr, d, va2, kk⟩ := Rel.part r g (fun z => nomatch z)
  have ev : v = w := va.uniq va2
  subst ev
  cases ru with
  | @nd a _ vs _ o hc i n rs na =>
    have ha : H a = some o := sh1 a _ upd_same
    obtain ⟨nF, dF⟩ := upd_disj df
    obtain ⟨nG, dG⟩ := upd_disj dg
    obtain ⟨nR, dR⟩ := upd_disj d
    refine ⟨a, o, rfl, ha, ?_, fun od => ?_⟩
    · cases sh with
      | dk ks => obtain ⟨rfl, _⟩ := i; trivial
      | dt ks => obtain ⟨rfl, _⟩ := i; trivial
      | _ => cases hd
    · obtain ⟨z, l⟩ := kk G (.lk a (some (od, o)) sh us) (upd hc a (.frz od o)) (Same.refl _) (.lk i n rfl rs na (fun b e => by cases e; rfl)) (disj_upd nR (dR na))
      exact ⟨⟨sameR_off r.gh nG, same_off r.fh nF, _, z, same_un (same_off sr nR) (same_at sh1 na), disj_un.mpr ⟨dfr, disj_upd nF (dF na)⟩, disj_un.mpr ⟨dgr, disj_upd nG (dG na)⟩⟩, l, rfl⟩
theorem Rel.unlock {pl : Pl} {sh : Sh} {us : List T} {a : Addr} {od : Obj} {u : HO} (r : Rel K N G F ε S σ H) (g : getP ε S pl = some (.lk a (some (od, u)) sh us)) :
    H a = some (.frz od u) ∧ (∃ vs, sh.is N vs u ∧ vs.length = us.length) ∧ Rel K N G F (setE ε pl (.nd sh us)) (setS S pl (.nd sh us)) σ (upd H a u) := by
  obtain ⟨w, hu, rest, ru, sh1, df, dg, sr, dfr, dgr, d, va2, kk⟩ := Rel.part r g (fun z => nomatch z)
  cases ru with
  | @lk _ _ vs _ _ o o' hc i n eo rs na zz =>
    have eu : o = u := zz _ rfl
    subst eu
    subst eo
    obtain ⟨nF, dF⟩ := upd_disj df
    obtain ⟨nG, dG⟩ := upd_disj dg
    obtain ⟨nR, dR⟩ := upd_disj d
    refine ⟨sh1 a _ upd_same, ⟨vs, i, rs.len⟩, ?_⟩
    obtain ⟨z, l⟩ := kk G (.nd sh us) (upd hc a o) (Same.refl _) (.nd i n rs na) (disj_upd nR (dR na))
    exact ⟨⟨sameR_off r.gh nG, same_off r.fh nF, _, z, same_un (same_off sr nR) (same_at sh1 na), disj_un.mpr ⟨dfr, disj_upd nF (dF na)⟩, disj_un.mpr ⟨dgr, disj_upd nG (dG na)⟩⟩, l, rfl⟩
theorem Rel.unlockG {pl : Pl} {sh : Sh} {us : List T} {a : Addr} {od : Obj} {u : HO} {xs : List V} {ts : List T} (r : RelT K N G F xs ts ε S σ H) (g : getP ε S pl = some (.lk a (some (od, u)) sh us)) :
    H a = some (.frz od u) ∧ (∃ vs, sh.is N vs u ∧ vs.length = us.length) ∧ RelT K N G F xs ts (setE ε pl (.nd sh us)) (setS S pl (.nd sh us)) σ (upd H a u) := by
  have r0 : RelT K N G F (xs ++ []) (ts ++ []) ε S σ H := by rw [List.append_nil, List.append_nil]; exact r
  obtain ⟨h, rv, s, d1, d2, _, rk⟩ := r0.park r.2.2
  obtain ⟨e1, e2, z⟩ := Rel.unlock rk g
  refine ⟨e1, e2, ?_⟩
  have := RelT.unpark (vs := xs) (us := ts) (xs := []) (ts := []) rv d1 d2 Gr.refl z
  rw [List.append_nil, List.append_nil] at this
  exact this
/-- a tuple that is seen is frozen -/
theorem seen_tup {q : Addr} {xs : List V} (sr : SameR G H) (e : H q = some (.tup xs)) : ∃ G2, Ext G H G2 H ∧ G2 q = some (.tup xs) := by
  have old : ∀ o, G q = some o → o = .tup xs := fun o e1 => by
    rcases sr q o e1 with z | ⟨z, c, w⟩
    · rw [e] at z; exact (Option.some.inj z).symm
    · rw [e] at w; cases w
  refine ⟨upd G q (.tup xs), ⟨Same.refl _, fun c o e1 => ?_, fun c o e1 => ?_, fun c o e1 n => ?_⟩, upd_same⟩
  · by_cases z : c = q
    · subst z; rw [upd_same, old o e1]
    · rw [upd_ne z]; exact e1
  · by_cases z : c = q
    · subst z; rw [upd_same] at e1; rw [← Option.some.inj e1]; exact .inl e
    · rw [upd_ne z] at e1; exact sr c o e1
  · by_cases z : c = q
    · subst z; rw [upd_same] at e1; exact .inr ⟨xs, (Option.some.inj e1).symm⟩
    · rw [upd_ne z] at e1; rw [n] at e1; cases e1
theorem rp_key (k : Key) : Rp K N G (kV k) (kD k) := by
  cases k with
  | inl i => exact .int i
  | inr s => exact .str s
theorem rp_keys : ∀ ks : List Key, RpAll K N G (ks.map kV) (ks.map kD)
  | [] => .nil
  | k :: ks => .cons (rp_key k) (rp_keys ks)
/-! ### walks that lean on what a place holds -/
def WalksK (K : PySem.W.Frag) (N : Nm) (F G : Hp) (J : It) (pl : Pl) (lt : T) (ds : List D) : Prop := ∀ (xs : List V) (ts : List T) G' ε S σ H, Same G G' → RelT K N G' F xs ts ε S σ H → getP ε S pl = some lt →
  (∀ i, i < ds.length → J.go i H) ∧ J.stop ds.length H ∧ ∀ i x H', i < ds.length → J.yld i H x H' → ∃ G2 d, ds[i]? = some d ∧ Ext G' H G2 H' ∧ Rp K N G2 x d
theorem zip_get {α β : Type} {xs : List α} {ys : List β} {i : Nat} {p : α × β} (h : (xs.zip ys)[i]? = some p) : xs[i]? = some p.1 := by
  rw [List.getElem?_zip_eq_some] at h
  exact h.1
theorem walksK {pl : Pl} {sh : Sh} {us : List T} {a : Addr} {bb : Obj × HO} (hd : isDk sh = true) : WalksK K N F G (ItL a bb) pl (.lk a (some bb) sh us) (keysD sh) := by
  intro xs ts G' ε S σ H s r g
  obtain ⟨od, u⟩ := bb
  obtain ⟨ea, ⟨vs, i, l⟩, _⟩ := Rel.unlockG r g
  cases sh with
  | dk ks =>
    obtain ⟨rfl, hl, _⟩ := i
    have lz : (ks.zip vs).length = (keysD (.dk ks)).length := by
      show _ = (ks.map kD).length
      rw [List.length_zip, List.length_map]; omega
    refine ⟨fun j hj => ⟨ea, by rw [lz]; exact hj⟩, ⟨ea, Nat.le_of_eq lz⟩, fun j x H' hj y => ?_⟩
    obtain ⟨rfl, k, v, e, rfl⟩ := y
    have e1 := zip_get e
    refine ⟨G', kD k, ?_, Ext.refl r.gh, rp_key k⟩
    show (ks.map kD)[j]? = _
    rw [List.getElem?_map, e1]; rfl
  | dt ks =>
    obtain ⟨rfl, hl, _⟩ := i
    have lz : (ks.zip vs).length = (keysD (.dt ks)).length := by
      show _ = (ks.map _).length
      rw [List.length_zip, List.length_map]; omega
    refine ⟨fun j hj => ⟨ea, by rw [lz]; exact hj⟩, ⟨ea, Nat.le_of_eq lz⟩, fun j x H' hj y => ?_⟩
    obtain ⟨rfl, k, v, q, e, rfl, eq⟩ := y
    have e1 := zip_get e
    obtain ⟨G2, ex, e2⟩ := seen_tup r.gh eq
    refine ⟨G2, .tup (k.map kD), ?_, ex, .nd (.inl e2) (rp_keys k)⟩
    show (ks.map _)[j]? = _
    rw [List.getElem?_map, e1]; rfl
  | _ => cases hd
def aForK (pl : Pl) (lt : T) (g : RG) (b : AS) (A : AD) (ds : List D) (ε : Env) (S : Sg) : Prop := ∃ Pv : Nat → Env → Sg → Prop, (∀ i ε S, Pv i ε S → getP ε S pl = some lt) ∧ Pv 0 ε S ∧
  (∀ i d ε S, ds[i]? = some d → Pv i ε S → g d ε S fun ε1 S1 => b { A with nx := Pv (i + 1), ct := Pv (i + 1), bk := A.nx } ε1 S1) ∧ ∀ ε S, Pv ds.length ε S → A.nx ε S
def aLcK (pl : Pl) (lt : T) (g : RG) (tt : RBE) (x : RE) (vs : List Nat) (k : List T → Env → Sg → Prop) (ds : List D) (ε : Env) (S : Sg) : Prop := ∃ Pv : Nat → List T → Env → Sg → Prop, (∀ i acc ε S, Pv i acc ε S → getP ε S pl = some lt) ∧ Pv 0 [] ε S ∧
  (∀ i d acc ε S, ds[i]? = some d → Pv i acc ε S → g d ε S fun ε1 S1 => tt noX ε1 S1 fun b ε2 S2 => if b = true then x noX ε2 S2 fun t ε3 S3 => acc.length < sizeLine ∧ Pv (i + 1) (acc ++ [t]) (wipeE ε3 vs) S3 else Pv (i + 1) acc (wipeE ε2 vs) S2) ∧
  ∀ acc ε S, Pv ds.length acc ε S → k acc ε S
theorem lc_coreK {P : Nat → Option V} {ws vs : List Nat} {pl : Pl} {lt : T} {ga : RG} {g : TG} {tt : RBE} {tc : TT} {J : It} {ds : List D} {k : List T → Env → Sg → Prop} (htt : ∀ σ H Q, concBE K N W0 fx tt σ H Q → tc σ H Q) (hg : GOk K N fx ws ga g) (hws : ∀ i ∈ ws, i ∈ vs) (hfx : ∀ i ∈ vs, fx i = false)
    (wk : WalksK K N F G J pl lt ds) (r : Rel K N G F ε S σ H) (fi : Fix P σ) (fn : FixIn fx P) (q : aLcK pl lt ga tt x vs k ds (wipeE ε vs) S)
    (fin : ∀ ts ε2 S2 G2 H' p, k ts ε2 S2 → Gr F G G2 → RelT K N G2 F [.ref p] [.nd .lst ts] (backE ε ε2 vs) S2 σ H' → Q (.ref p) H') :
    ∀ D, H D = none → ∃ Wv : Nat → Nat → Hp → Prop, (∃ m, Wv 0 m (upd H D (.lst []))) ∧ ∀ i m H, Wv i m H →
      (J.stop i H ∧ Q (.ref D) H) ∨ (J.go i H ∧ ∃ Nx : Hp → Prop, (∀ H', Nx H' → ∃ m', m' < m ∧ Wv (i + 1) m' H') ∧ ∀ y H', J.yld i H y H' → g y (L2.wipe σ vs) H' fun σ2 H2 => L2.wipe σ2 vs = L2.wipe σ vs ∧ tc σ2 H2 fun b H3 =>
        if b = true then concE K N W0 fx x σ2 H3 fun y H4 => ∃ acc, H4 D = some (.lst acc) ∧ acc.length < sizeLine ∧ Nx (upd H4 D (.lst (acc ++ [y]))) else Nx H3) := by
  intro p np
  have fw := fi.wipe (vs := vs) fn hfx
  obtain ⟨Pv, pg, p0, hs, hd⟩ := q
  refine ⟨fun i m H' => m = ds.length - i ∧ i ≤ ds.length ∧ ∃ G' ε' S' ts, Gr F G G' ∧ RelT K N G' F [.ref p] [.nd .lst ts] ε' S' (L2.wipe σ vs) H' ∧ Pv i ts ε' S',
    ⟨_, rfl, Nat.zero_le _, G, _, S, [], Gr.refl, RelT.newD (o := .lst []) (RelT.wipe r) np rfl (fun z => nomatch z), p0⟩, ?_⟩
  rintro i m H' ⟨rfl, hi, G2, ε2, S2, ts, g2, r2, q2⟩
  obtain ⟨w1, w2, w3⟩ := wk _ _ _ _ _ _ _ g2.gg r2 (pg _ _ _ _ q2)
  by_cases hlt : i < ds.length
  · right
    refine ⟨w1 i hlt, fun H3 => ∃ G' ε' S' ts, Gr F G G' ∧ RelT K N G' F [.ref p] [.nd .lst ts] ε' S' (L2.wipe σ vs) H3 ∧ Pv (i + 1) ts ε' S',
      fun H3 h3 => ⟨_, by omega, rfl, hlt, h3⟩, fun v H3 y => ?_⟩
    obtain ⟨G3, d, e1, ex, rp⟩ := w3 i v H3 hlt y
    rw [List.getElem?_eq_getElem hlt] at e1
    have e1 := Option.some.inj e1
    subst e1
    have r3 := r2.ext ex
    have g3 := g2.trans (ex.gr r2.fh)
    obtain ⟨hD, rD, sD, dfD, dgD, rk⟩ := r3.park1
    refine hg G3 (un F hD) P ε2 S2 _ H3 v _ _ _ rk fw fn rp (hs i _ ts ε2 S2 (List.getElem?_eq_getElem hlt) q2) fun ε4 S4 σ4 q4 r4 f4 w4 => ?_
    have w4' : L2.wipe σ4 vs = L2.wipe σ vs := (w4 vs hws).trans wipe_idem
    refine ⟨w4', htt _ _ _ ⟨G3, un F hD, P, ε4, S4, noX, _, r4, f4, fn, q4, fun b ε5 S5 G5 H5 q5 g5 r5 => ?_, xrel0⟩⟩
    cases b with
    | true =>
      rw [if_pos rfl] at q5 ⊢
      refine ⟨G5, un F hD, P, ε5, S5, noX, _, r5, f4, fn, q5, fun t w ε6 S6 G6 H6 q6 g6 r6 => ?_, xrel0⟩
      have r7 := RelT.unpark (vs := [V.ref p]) (us := [T.nd .lst ts]) (repTs1 rD) dfD dgD (g5.trans g6) r6
      obtain ⟨acc, ea, el, r8⟩ := RelT.push r7
      refine ⟨acc, ea, by rw [el]; exact q6.1, G6, _, S6, _, (g3.trans g5.unF).trans g6.unF, ?_, q6.2⟩
      have r9 := r8.wipe (vs := vs)
      rw [w4'] at r9
      exact r9
    | false =>
      rw [if_neg (by decide)] at q5 ⊢
      have r7 := RelT.unpark (vs := [V.ref p]) (us := [T.nd .lst ts]) (repTs1 rD) dfD dgD g5 r5
      refine ⟨G5, _, S5, ts, g3.trans g5.unF, ?_, q5⟩
      have r9 := r7.wipe (vs := vs)
      rw [w4'] at r9
      exact r9
  · left
    have ei : i = ds.length := by omega
    subst ei
    exact ⟨w2, fin _ _ _ _ _ _ (hd _ _ _ q2) g2 (Rel.back r g2.gg r2 wipe_len fun j hj => wipe_off hj)⟩
theorem loop_coreK {P : Nat → Option V} {ws : List Nat} {pl : Pl} {lt : T} {ga : RG} {g : TG} {J : It} {ds : List D} {A : AD} (hg : GOk K N fx ws ga g) (wk : WalksK K N F G J pl lt ds) (r : Rel K N G F ε S σ H) (fi : Fix P σ) (fn : FixIn fx P) (q : aForK pl lt ga b A ds ε S) (e : EndsRel K N W G F P A Ds) :
    ∃ Wv : Nat → Nat → L2.St → Hp → Prop, (∃ m, Wv 0 m σ H) ∧ ∀ i m σ H, Wv i m σ H →
      (J.stop i H ∧ Ds.nx σ H) ∨ (J.go i H ∧ ∃ Nx : L2.St → Hp → Prop, (∀ σ' H', Nx σ' H' → ∃ m', m' < m ∧ Wv (i + 1) m' σ' H') ∧ ∀ x H', J.yld i H x H' → g x σ H' fun σ2 H2 => concS K N W fx b { Ds with nx := Nx, ct := Nx, bk := Ds.nx } σ2 H2) := by
  obtain ⟨Pv, pg, p0, hs, hd⟩ := q
  refine ⟨fun i m σ' H' => m = ds.length - i ∧ i ≤ ds.length ∧ ∃ G' ε' S', Gr F G G' ∧ Rel K N G' F ε' S' σ' H' ∧ Fix P σ' ∧ Pv i ε' S',
    ⟨_, rfl, Nat.zero_le _, G, ε, S, Gr.refl, r, fi, p0⟩, ?_⟩
  rintro i m σ' H' ⟨rfl, hi, G2, ε2, S2, g2, r2, f2, q2⟩
  obtain ⟨w1, w2, w3⟩ := wk [] [] _ _ _ _ _ g2.gg r2 (pg _ _ _ q2)
  by_cases hlt : i < ds.length
  · right
    refine ⟨w1 i hlt, fun σ3 H3 => ∃ G' ε' S', Gr F G G' ∧ Rel K N G' F ε' S' σ3 H3 ∧ Fix P σ3 ∧ Pv (i + 1) ε' S', fun σ3 H3 h3 => ⟨_, by omega, rfl, hlt, h3⟩, fun v H3 y => ?_⟩
    obtain ⟨G3, d, e1, ex, rp⟩ := w3 i v H3 hlt y
    rw [List.getElem?_eq_getElem hlt] at e1
    have e1 := Option.some.inj e1
    subst e1
    have r3 := r2.ext ex
    have g3 := g2.trans (ex.gr r2.fh)
    refine hg G3 F P ε2 S2 σ' H3 v _ _ _ r3 f2 fn rp (hs i _ ε2 S2 (List.getElem?_eq_getElem hlt) q2) fun ε4 S4 σ4 q4 r4 f4 _ => ?_
    refine ⟨G3, F, P, ε4, S4, _, r4, f4, fn, q4, ?_⟩
    have go : ∀ ε5 S5 G5 σ5 H5, Pv (i + 1) ε5 S5 → Gr F G3 G5 → Rel K N G5 F ε5 S5 σ5 H5 → Fix P σ5 → ∃ G' ε' S', Gr F G G' ∧ Rel K N G' F ε' S' σ5 H5 ∧ Fix P σ5 ∧ Pv (i + 1) ε' S' :=
      fun ε5 S5 G5 σ5 H5 q5 g5 r5 f5 => ⟨G5, ε5, S5, g3.trans g5, r5, f5, q5⟩
    exact ⟨go, fun ε5 S5 G5 σ5 H5 q5 g5 r5 f5 => e.nx _ _ _ _ _ q5 (g3.trans g5) r5 f5, go, fun t v ε5 S5 G5 σ5 H5 q5 g5 r5 f5 => e.rt _ _ _ _ _ _ _ q5 (g3.trans g5) r5 f5, e.ex.up g3⟩
  · left
    have ei : i = ds.length := by omega
    subst ei
    exact ⟨w2, e.nx _ _ _ _ _ (hd _ _ q2) g2 r2 f2⟩
/-! ### the dict of a field -/
def bkL (pl : Pl) (a : Addr) (bb : Obj × HO) (sh : Sh) (us : List T) (k : Env → Sg → Prop) : Env → Sg → Prop := fun ε' S' => getP ε' S' pl = some (.lk a (some bb) sh us) ∧ k (setE ε' pl (.nd sh us)) (setS S' pl (.nd sh us))
/-- the field's place and what it holds -/
def fldK (i : Nat) (Cs : List Cl) (f : String) (ε : Env) (S : Sg) (k : Pl → Sh → List T → Prop) : Prop := pVar i ε S fun p0 => oGet (getP ε S p0) fun t => match t with
  | .nd (.ins C fs) us => C ∈ Cs ∧ oGet (ixK fs f) fun j => (match us[j]? with
    | some (.nd sh ts) => isDk sh = true ∧ k ⟨p0.rt, [j]⟩ sh ts
    | _ => False)
  | _ => False
def eLcK (i : Nat) (Cs : List Cl) (f : String) (g : RG) (tt : RBE) (x : RE) (vs : List Nat) : RE := fun A ε S K' => fldK i Cs f ε S fun pl sh us => ∀ a bb,
  aLcK pl (.lk a (some bb) sh us) g tt x vs (fun ts ε2 S2 => bkL pl a bb sh us (K' (.nd .lst ts)) (backE (setE ε pl (.lk a (some bb) sh us)) ε2 vs) S2) (keysD sh) (wipeE (setE ε pl (.lk a (some bb) sh us)) vs) (setS S pl (.lk a (some bb) sh us))
def sForK (i : Nat) (Cs : List Cl) (f : String) (g : RG) (b : AS) : AS := fun A ε S => fldK i Cs f ε S fun pl sh us => ∀ a bb,
  aForK pl (.lk a (some bb) sh us) g b ⟨bkL pl a bb sh us A.nx, fun t => bkL pl a bb sh us (A.rt t), fun _ _ => False, fun _ _ => False, fun _ _ _ _ => False⟩ (keysD sh) (setE ε pl (.lk a (some bb) sh us)) (setS S pl (.lk a (some bb) sh us))
theorem fldK_elim {i : Nat} {Cs : List Cl} {f : String} {k : Pl → Sh → List T → Prop} (r : Rel K N G F ε S σ H) (q : fldK i Cs f ε S k) :
    ∃ pl sh us a u, k pl sh us ∧ isDk sh = true ∧ H a = some u ∧ Mut (some u) ∧ ∀ od, Rel K N G F (setE ε pl (.lk a (some (od, u)) sh us)) (setS S pl (.lk a (some (od, u)) sh us)) σ (upd H a (.frz od u)) ∧
      (∀ K2 : Pl → Prop, K2 pl → pFld Cs f (pVar i) (setE ε pl (.lk a (some (od, u)) sh us)) (setS S pl (.lk a (some (od, u)) sh us)) K2) ∧ getP (setE ε pl (.lk a (some (od, u)) sh us)) (setS S pl (.lk a (some (od, u)) sh us)) pl = some (.lk a (some (od, u)) sh us) := by
  have core : ∀ (rt : Rt) (C : Cl) (fs : List String) (us0 : List T) (j : Nat) (sh : Sh) (us : List T), getP ε S ⟨rt, []⟩ = some (.nd (.ins C fs) us0) → C ∈ Cs → ixK fs f = some j → us0[j]? = some (.nd sh us) → isDk sh = true → k ⟨rt, [j]⟩ sh us →
      (∀ L K2, (∃ a bb, L = T.lk a bb sh us) → K2 ⟨rt, []⟩ → pVar i (setE ε ⟨rt, [j]⟩ L) (setS S ⟨rt, [j]⟩ L) K2) → (∀ L, getP (setE ε ⟨rt, [j]⟩ L) (setS S ⟨rt, [j]⟩ L) ⟨rt, []⟩ = some (.nd (.ins C fs) (us0.set j L))) →
      (∀ L t, getP (setE ε ⟨rt, [j]⟩ L) (setS S ⟨rt, [j]⟩ L) ⟨rt, []⟩ = some t → getP (setE ε ⟨rt, [j]⟩ L) (setS S ⟨rt, [j]⟩ L) ⟨rt, [j]⟩ = getT [j] t) → getP ε S ⟨rt, [j]⟩ = some (.nd sh us) →
      ∃ pl sh us a u, k pl sh us ∧ isDk sh = true ∧ H a = some u ∧ Mut (some u) ∧ ∀ od, Rel K N G F (setE ε pl (.lk a (some (od, u)) sh us)) (setS S pl (.lk a (some (od, u)) sh us)) σ (upd H a (.frz od u)) ∧
      (∀ K2 : Pl → Prop, K2 pl → pFld Cs f (pVar i) (setE ε pl (.lk a (some (od, u)) sh us)) (setS S pl (.lk a (some (od, u)) sh us)) K2) ∧ getP (setE ε pl (.lk a (some (od, u)) sh us)) (setS S pl (.lk a (some (od, u)) sh us)) pl = some (.lk a (some (od, u)) sh us) := by
    intro rt C fs us0 j sh us e0 hC hf ej hd hk pv pg pg2 g
    obtain ⟨v, _, _, _, _, _, _, _, _, _, _, va, _⟩ := Rel.part r g (fun z => nomatch z)
    obtain ⟨a, u, rfl, ha, mu, rl⟩ := Rel.lock r g va hd
    have hlt := (List.getElem?_eq_some_iff.mp ej).1
    refine ⟨⟨rt, [j]⟩, sh, us, a, u, hk, hd, ha, mu, fun od => ⟨rl od, fun K2 h2 => ?_, ?_⟩⟩
    · refine pv _ _ ⟨a, _, rfl⟩ ?_
      refine oGetI (pg _) ⟨hC, oGetI hf ?_⟩
      unfold subP
      rw [List.getElem?_set_self hlt]
      exact ⟨rfl, (fun z => nomatch z), h2⟩
    · rw [pg2 _ _ (pg _)]
      show ((us0.set j _)[j]?).bind (getT []) = _
      rw [List.getElem?_set_self hlt]; rfl
  unfold fldK pVar at q
  split at q
  · rename_i x e
    obtain ⟨t, e0, q⟩ := oGet_elim q
    split at q
    · rename_i C fs us0
      obtain ⟨hC, q⟩ := q
      obtain ⟨j, hf, q⟩ := oGet_elim q
      split at q
      · rename_i sh us ej
        have e1 : boxOf S x = some (.nd (.ins C fs) us0) := by
          have : (boxOf S x).bind (getT []) = some (.nd (.ins C fs) us0) := e0
          cases z : boxOf S x with
          | none => rw [z] at this; cases this
          | some c => rw [z] at this; exact congrArg some (Option.some.inj this)
        have eS : ∀ L, setS S ⟨.box x, [j]⟩ L = setBox S x (.nd (.ins C fs) (us0.set j L)) := fun L => by
          show (match boxOf S x with | some c => setBox S x (setT L [j] c) | none => S) = _
          rw [e1]
          show setBox S x (.nd (.ins C fs) (match us0[j]? with | some c => us0.set j (setT L [] c) | none => us0)) = _
          rw [ej]; rfl
        refine core (.box x) C fs us0 j sh us e0 hC hf ej q.1 q.2 (fun L K2 _ h2 => ?_) (fun L => ?_) (fun L t ht => ?_) ?_
        · unfold pVar
          show match ε[i]? with | some (.val (.obj a)) => K2 ⟨.box a, []⟩ | some t => t ≠ .unk ∧ K2 ⟨.slot i, []⟩ | none => False
          rw [e]; exact h2
        · show (boxOf (setS S ⟨.box x, [j]⟩ L) x).bind (getT []) = _
          rw [eS, boxOf_set e1]; rfl
        · have ht : (boxOf (setS S ⟨.box x, [j]⟩ L) x).bind (getT []) = some t := ht
          show (boxOf (setS S ⟨.box x, [j]⟩ L) x).bind (getT [j]) = _
          cases z : boxOf (setS S ⟨.box x, [j]⟩ L) x with
          | none => rw [z] at ht; cases ht
          | some c => rw [z] at ht; rw [← Option.some.inj ht]; rfl
        · show (boxOf S x).bind (getT [j]) = _
          rw [e1]
          show (us0[j]?).bind (getT []) = _
          rw [ej]; rfl
      · exact q.elim
    · exact q.elim
  · rename_i c e hno
    obtain ⟨hu, q⟩ := q
    obtain ⟨t, e0, q⟩ := oGet_elim q
    split at q
    · rename_i C fs us0
      obtain ⟨hC, q⟩ := q
      obtain ⟨j, hf, q⟩ := oGet_elim q
      split at q
      · rename_i sh us ej
        have e1 : c = .nd (.ins C fs) us0 := by
          have : (ε[i]?).bind (getT []) = some (.nd (.ins C fs) us0) := e0
          rw [hno] at this
          exact Option.some.inj this
        subst e1
        have hlt : i < ε.length := (List.getElem?_eq_some_iff.mp hno).1
        have eE : ∀ L, setE ε ⟨.slot i, [j]⟩ L = ε.set i (.nd (.ins C fs) (us0.set j L)) := fun L => by
          show (match ε[i]? with | some c => ε.set i (setT L [j] c) | none => ε) = _
          rw [hno]
          show ε.set i (.nd (.ins C fs) (match us0[j]? with | some c => us0.set j (setT L [] c) | none => us0)) = _
          rw [ej]; rfl
        refine core (.slot i) C fs us0 j sh us e0 hC hf ej q.1 q.2 (fun L K2 _ h2 => ?_) (fun L => ?_) (fun L t ht => ?_) ?_
        · unfold pVar
          rw [eE, List.getElem?_set_self hlt]
          exact ⟨(fun z => nomatch z), h2⟩
        · show ((setE ε ⟨.slot i, [j]⟩ L)[i]?).bind (getT []) = _
          rw [eE, List.getElem?_set_self hlt]; rfl
        · have ht : ((setE ε ⟨.slot i, [j]⟩ L)[i]?).bind (getT []) = some t := ht
          show ((setE ε ⟨.slot i, [j]⟩ L)[i]?).bind (getT [j]) = _
          rw [eE, List.getElem?_set_self hlt] at ht ⊢
          rw [← Option.some.inj ht]; rfl
        · show (ε[i]?).bind (getT [j]) = _
          rw [hno]
          show (us0[j]?).bind (getT []) = _
          rw [ej]; rfl
      · exact q.elim
    · exact q.elim
  · exact q.elim
theorem keys_ok {pl : Pl} {sh : Sh} {us : List T} {a : Addr} {od : Obj} {u : HO} {R : It → Hp → Prop} (hd : isDk sh = true) (rk : Rel K N G F ε S σ H) (rp' : ∀ K2 : Pl → Prop, K2 pl → rp ε S K2) (gl : getP ε S pl = some (.lk a (some (od, u)) sh us))
    (h : ∀ G1 H1, Ext G H G1 H1 → Rel K N G1 F ε S σ H1 → R (ItL a (od, u)) H1) : iKeys (concP K N rp) σ H R := by
  refine ⟨G, F, ε, S, fun p => p = pl, rk, rp' _ rfl, fun pl' v G1 H1 e e1 va => ?_⟩
  subst e
  have r1 := rk.ext e1
  have h1 := h G1 H1 e1 r1
  obtain ⟨w, hu, _, ru, _, _, _, _, _, _, _, va2, _⟩ := Rel.part r1 gl (fun z => nomatch z)
  have ev : v = w := va.uniq va2
  subst ev
  have hv : v = .ref a := by cases ru; rfl
  subst hv
  obtain ⟨ea, ⟨vs, i, _⟩, _⟩ := Rel.unlock r1 gl
  cases sh with
  | dk ks => obtain ⟨rfl, _⟩ := i; exact ⟨a, od, rfl, .inl ⟨_, ea, h1⟩⟩
  | dt ks => obtain ⟨rfl, _⟩ := i; exact ⟨a, od, rfl, .inr ⟨_, ea, h1⟩⟩
  | _ => cases hd
theorem conc_lcKT {i : Nat} {Cs : List Cl} {f : String} {ws vs : List Nat} {ga : RG} {g : TG} {tt : RBE} {tc : TT} (htt : ∀ σ H Q, concBE K N W0 fx tt σ H Q → tc σ H Q) (hg : GOk K N fx ws ga g) (hws : ∀ i ∈ ws, i ∈ vs) (hfx : ∀ i ∈ vs, fx i = false) (h : concE K N W fx (eLcK i Cs f ga tt x vs) σ H Q) :
    tLockE (tLc (iKeys (concP K N (pFld Cs f (pVar i)))) g tc (concE K N W0 fx x) vs) σ H Q := by
  obtain ⟨G, F, P, ε, S, A, K', r, fi, fn, q, k, z⟩ := h
  obtain ⟨pl, sh, us, a, u, q, hd, ha, mu, rl⟩ := fldK_elim r q
  refine ⟨a, u, ha, mu, fun od => ?_⟩
  obtain ⟨rk, rp, gl⟩ := rl od
  refine keys_ok hd rk rp gl fun G1 H1 e1 r1 => ?_
  refine lc_coreK (Q := fun v H' => H' a = some (.frz od u) ∧ Q v (upd H' a u)) htt hg hws hfx (walksK hd) r1 fi fn (q a (od, u)) fun ts ε2 S2 G2 H' p' q5 g5 r5 => ?_
  obtain ⟨e5, _, r6⟩ := Rel.unlockG r5 q5.1
  exact ⟨e5, k _ _ _ _ _ _ q5.2 ((e1.gr rk.fh).trans g5) r6⟩
theorem conc_lcK {i : Nat} {Cs : List Cl} {f : String} {ws vs : List Nat} {ga : RG} {g : TG} {tt : RBE} (hg : GOk K N fx ws ga g) (hws : ∀ i ∈ ws, i ∈ vs) (hfx : ∀ i ∈ vs, fx i = false) (h : concE K N W fx (eLcK i Cs f ga tt x vs) σ H Q) :
    tLockE (tLc (iKeys (concP K N (pFld Cs f (pVar i)))) g (concBE K N W0 fx tt) (concE K N W0 fx x) vs) σ H Q := conc_lcKT (fun _ _ _ h => h) hg hws hfx h
theorem conc_lcKY {i : Nat} {Cs : List Cl} {f : String} {ws vs : List Nat} {ga : RG} {g : TG} (hg : GOk K N fx ws ga g) (hws : ∀ i ∈ ws, i ∈ vs) (hfx : ∀ i ∈ vs, fx i = false) (h : concE K N W fx (eLcK i Cs f ga bYes x vs) σ H Q) :
    tLockE (tLc (iKeys (concP K N (pFld Cs f (pVar i)))) g tYes (concE K N W0 fx x) vs) σ H Q := conc_lcKT (fun _ _ _ h => conc_yes h) hg hws hfx h
theorem conc_forK {i : Nat} {Cs : List Cl} {f : String} {ws : List Nat} {ga : RG} {g : TG} (hg : GOk K N fx ws ga g) (h : concS K N W fx (sForK i Cs f ga b) Ds σ H) : tLock (tFor (iKeys (concP K N (pFld Cs f (pVar i)))) g (concS K N W fx b)) Ds σ H := by
  obtain ⟨G, F, P, ε, S, A, r, fi, fn, q, e⟩ := h
  obtain ⟨pl, sh, us, a, u, q, hd, ha, mu, rl⟩ := fldK_elim r q
  refine ⟨a, u, ha, mu, fun od => ?_⟩
  obtain ⟨rk, rp, gl⟩ := rl od
  refine keys_ok hd rk rp gl fun G1 H1 e1 r1 => ?_
  have g1 := e1.gr rk.fh (F := F)
  refine loop_coreK hg (walksK hd) r1 fi fn (q a (od, u)) ⟨?_, ?_, ?_, ?_, ?_⟩
  · intro ε5 S5 G5 σ5 H5 q5 g5 r5 f5
    obtain ⟨e5, _, r6⟩ := Rel.unlockG r5 q5.1
    exact ⟨e5, e.nx _ _ _ _ _ q5.2 (g1.trans g5) r6 f5⟩
  · exact fun ε5 S5 G5 σ5 H5 q5 _ _ _ => q5.elim
  · exact fun ε5 S5 G5 σ5 H5 q5 _ _ _ => q5.elim
  · intro t v ε5 S5 G5 σ5 H5 q5 g5 r5 f5
    obtain ⟨e5, _, r6⟩ := Rel.unlockG r5 q5.1
    exact ⟨e5, e.rt _ _ _ _ _ _ _ q5.2 (g1.trans g5) r6 f5⟩
  · exact fun C p ε5 S5 G5 σ5 H5 d q5 _ _ _ _ => q5.elim
/-! ### proof rules -/
theorem lcK_map {pl : Pl} {lt : T} {g : RG} {tt : RBE} {vs : List Nat} {k : List T → Env → Sg → Prop} {α : Type} {xs : List α} {h : α → D} (p : α → Bool) (f : α → D) (hl : xs.length ≤ 1000000) (hgp : getP ε S pl = some lt)
    (hs : ∀ a, a ∈ xs → ∀ (yes : T → Env → Sg → Prop) (no : Env → Sg → Prop), (p a = true → ∀ ε3, wipeE ε3 vs = ε → yes (.val (f a)) ε3 S) → (p a = false → ∀ ε2, wipeE ε2 vs = ε → no ε2 S) → g (h a) ε S fun ε1 S1 => tt noX ε1 S1 fun b ε2 S2 => if b = true then x noX ε2 S2 yes else no ε2 S2)
    (hd : k (((xs.filter p).map f).map .val) ε S) : aLcK pl lt g tt x vs k (xs.map h) ε S := by
  refine ⟨fun i acc ε' S' => ε' = ε ∧ S' = S ∧ acc = (((xs.take i).filter p).map f).map .val, ?_, ⟨rfl, rfl, rfl⟩, ?_, ?_⟩
  · rintro i acc _ _ ⟨rfl, rfl, _⟩; exact hgp
  · rintro i d acc _ _ e ⟨rfl, rfl, rfl⟩
    obtain ⟨hi, e⟩ := List.getElem?_eq_some_iff.mp e
    rw [List.length_map] at hi
    rw [List.getElem_map] at e
    subst e
    have tk : (xs.take (i + 1)).filter p = (xs.take i).filter p ++ (if p xs[i] = true then [xs[i]] else []) := by
      rw [List.take_succ_eq_append_getElem hi, List.filter_append]
      congr 1
      by_cases h : p xs[i] = true
      · rw [if_pos h, List.filter_cons_of_pos h]; rfl
      · rw [if_neg h, List.filter_cons_of_neg h]; rfl
    have ll : ((((xs.take i).filter p).map f).map T.val).length < sizeLine := by
      rw [List.length_map, List.length_map, sizeLine_eq]
      have := List.length_filter_le p (xs.take i)
      rw [List.length_take] at this
      omega
    refine hs xs[i] (List.getElem_mem hi) _ _ (fun h ε3 w => ⟨ll, w, rfl, ?_⟩) (fun h ε2 w => ⟨w, rfl, ?_⟩)
    · rw [tk, if_pos h, List.map_append, List.map_append]; rfl
    · rw [tk, if_neg (by rw [h]; exact Bool.noConfusion), List.append_nil]
  · rintro acc _ _ ⟨rfl, rfl, rfl⟩
    rw [List.length_map, List.take_length]; exact hd
theorem forK_I {pl : Pl} {lt : T} {g : RG} {nx bk ct : Env → Sg → Prop} {rt : T → Env → Sg → Prop} {ex : AX} {α : Type} {xs : List α} {f : α → D} (Pv : List α → Env → Sg → Prop) (hgp : ∀ q ε S, Pv q ε S → getP ε S pl = some lt) (h0 : Pv [] ε S)
    (hs : ∀ q y r ε S (nx' : Env → Sg → Prop), xs = q ++ y :: r → Pv q ε S → (∀ ε' S', Pv (q ++ [y]) ε' S' → nx' ε' S') → g (f y) ε S fun ε1 S1 => b ⟨nx', rt, nx, nx', ex⟩ ε1 S1)
    (hd : ∀ ε S, Pv xs ε S → nx ε S) : aForK pl lt g b ⟨nx, rt, bk, ct, ex⟩ (xs.map f) ε S := by
  refine ⟨fun i ε S => Pv (xs.take i) ε S, fun i ε S p => hgp _ _ _ p, h0, fun i d ε S e p => ?_, fun ε S p => hd ε S ?_⟩
  · obtain ⟨hi, e1⟩ := List.getElem?_eq_some_iff.mp e
    rw [List.length_map] at hi
    rw [List.getElem_map] at e1
    subst e1
    refine hs _ xs[i] (xs.drop (i + 1)) ε S _ ?_ p fun ε' S' q => ?_
    · rw [← List.drop_eq_getElem_cons hi, List.take_append_drop]
    · show Pv (xs.take (i + 1)) ε' S'
      rw [List.take_succ_eq_append_getElem hi]; exact q
  · rw [List.length_map] at p
    have p : Pv (xs.take xs.length) ε S := p
    rw [List.take_length] at p; exact p
end
theorem cutL_map {α β : Type} {f : α → β} {xs : List α} {a b : Option Int} : cutL (xs.map f) a b = (cutL xs a b).map f := by
  unfold cutL
  rw [List.map_take, List.map_drop, List.length_map]
theorem cutL_seg {α : Type} {xs : List α} {i j : Nat} : cutL xs (some (i : Int)) (some ((i + j : Nat) : Int)) = (xs.drop i).take j := by
  unfold cutL
  rw [HT.sIx_nat, HT.sIx_nat]
  by_cases h : i ≤ xs.length
  · rw [Nat.min_eq_left h]
    by_cases h2 : i + j ≤ xs.length
    · rw [Nat.min_eq_left h2]; congr 1; omega
    · rw [Nat.min_eq_right (by omega), List.take_of_length_le (by rw [List.length_drop]; omega), List.take_of_length_le (by rw [List.length_drop]; omega)]
  · have e1 : min i xs.length = xs.length := Nat.min_eq_right (by omega)
    rw [e1, List.drop_eq_nil_of_le (Nat.le_refl _), List.drop_eq_nil_of_le (by omega), List.take_nil, List.take_nil]
end Y
namespace Y
open PySem PySem.Spec PyProof.Rows L2 Z
/-! LineDesk___init__: 0 self 1 numbers 2 number -/
def fx_LineDesk___init__ : Nat → Bool := fxs [true, true]
def b_LineDesk___init__ : AS :=
  sSetF [.LineDesk] "_states" (pVar 0) (eDc (iaSeq (eFrz 1)) (gaName 2) (bYes) (eFrz 2) (aTup (aCons (aCE (aK (.str (Str.ofString "idle")))) (aNil))) [2])
def a_LineDesk___init__ : AFun := mkFun fx_LineDesk___init__ 2 1 b_LineDesk___init__
/-! LineDesk_busy_lines: 0 self 1 number -/
def fx_LineDesk_busy_lines : Nat → Bool := fxs [true]
def b_LineDesk_busy_lines : AS :=
  sRet (aE1 oTuple (aE1 oSorted (eLcK 0 [.LineDesk] "_states" (gaName 1) (bE (bTest (aC2 oNe (aC2 oIx (aFld [.LineDesk] "_states" (aVar 0)) (aVar 1)) (acTup (acCons (aK (.str (Str.ofString "idle"))) (acNil)))))) (eFrz 1) [1])))
def a_LineDesk_busy_lines : AFun := mkFun fx_LineDesk_busy_lines 1 1 b_LineDesk_busy_lines
/-! LineDesk_has_line: 0 self 1 number -/
def fx_LineDesk_has_line : Nat → Bool := fxs [true, true]
def b_LineDesk_has_line : AS :=
  sRet (aCE (aC2 oIn (aVar 1) (aFld [.LineDesk] "_states" (aVar 0))))
def a_LineDesk_has_line : AFun := mkFun fx_LineDesk_has_line 2 0 b_LineDesk_has_line
/-! _law_draws: 0 script 1 count 2 draws 3 k 4 cell -/
def fx__law_draws : Nat → Bool := fxs [true, true]
def b__law_draws : AS :=
  sSeq (sAsg 2 (aLst (aNil)))
    (sSeq (sFor (iaRng1 (eFrz 1)) (gaName 3)
      (sSeq (sAsg 4 (aCE (aK (.int 0))))
    (sSeq (sIf (bE (bTest (aC2 oGt (aC1 oLen (aVar 0)) (aK (.int 0))))) (sAsg 4 (aCE (aC1 oInt (aC2 oIx (aVar 0) (aC2 oMod (aVar 3) (aC1 oLen (aVar 0))))))) (sNext))
    (sSeq (sIf (bE (bTest (aC2 oLt (aVar 4) (aK (.int 0))))) (sAsg 4 (aCE (aC2 oSub (aK (.int 1)) (aC2 oMul (aK (.int 2)) (aVar 4))))) (sNext))
    (sSeq (sIf (bE (bOr (bTest (aC2 oLt (aVar 4) (aK (.int 1000000000)))) (bTest (aC2 oGe (aVar 3) (aC1 oLen (aVar 0)))))) (sSeq (sAsg 4 (aCE (aC2 oMod (aC1 oInt (aC2 oAdd (aC2 oMul (aVar 4) (aK (.int 6364136223846793005))) (aC2 oMul (aK (.int 1442695040888963407)) (aC2 oAdd (aVar 3) (aK (.int 1)))))) (aK (.int 9223372036854775783)))))
    (sAsg 4 (aCE (aC2 oMod (aC1 oInt (aC2 oAdd (aC2 oAdd (aC2 oMul (aVar 4) (aK (.int 2862933555777941757))) (aK (.int 3037000493))) (aVar 3))) (aK (.int 18446744073709551557)))))) (sNext))
    (sAppV 2 (eFrz 4)))))))
    (sRet (eMove 2)))
def a__law_draws : AFun := mkFun fx__law_draws 2 3 b__law_draws
/-! _law_lines: 0 draw 1 many 2 head 3 place 4 first 5 k -/
def fx__law_lines : Nat → Bool := fxs [true, true]
def b__law_lines : AS :=
  sSeq (sAsg 2 (aCE (aC1 oStr (aC2 oAdd (aK (.int 1000)) (aC2 oMod (aC1 oInt (aVar 0)) (aK (.int 9000)))))))
    (sSeq (sAsg 3 (aCE (aC2 oMod (aC1 oInt (aC2 oDiv (aVar 0) (aK (.int 9000)))) (aK (.int 5)))))
    (sSeq (sAsg 4 (aCE (aK (.int 0))))
    (sSeq (sIf (bE (bTest (aC2 oGt (aVar 1) (aK (.int 9))))) (sAsg 4 (aCE (aK (.int 10)))) (sNext))
    (sRet (eLc (iaRng1 (eFrz 1)) (gaName 5) (bYes) (aN2 oAdd (aC2 oAdd (aSl (aVar 2) (oNo) (oPart (aVar 3))) (aC1 oStr (aC2 oAdd (aVar 4) (aVar 5)))) (aSl (aVar 2) (oPart (aVar 3)) (oNo))) [5])))))
def a__law_lines : AFun := mkFun fx__law_lines 2 4 b__law_lines
/-! LineDesk_line_state: 0 self 1 number -/
def fx_LineDesk_line_state : Nat → Bool := fxs [true, true]
def b_LineDesk_line_state : AS :=
  sSeq (sIf (bE (bTest (aC2 oNotIn (aVar 1) (aFld [.LineDesk] "_states" (aVar 0))))) (sRaise .NoSuchLine (aCons (aCE (aJoin [aK (.str (Str.ofString "line ")), aC1 oFmt (aVar 1)])) (aNil))) (sNext))
    (sRet (aCE (aC2 oIx (aFld [.LineDesk] "_states" (aVar 0)) (aVar 1))))
def a_LineDesk_line_state : AFun := mkFun fx_LineDesk_line_state 2 0 b_LineDesk_line_state
/-! LineDesk_put_state: 0 self 1 number 2 state -/
def fx_LineDesk_put_state : Nat → Bool := fxs [true, true, true]
def b_LineDesk_put_state : AS :=
  sSeq (sDrop (eMethV .LineDesk "line_state" 2 a_LineDesk_line_state 0 (arVar 1 (arNil))))
    (sSetI (pFld [.LineDesk] "_states" (pVar 0)) (aVar 1) (eFrz 2))
def a_LineDesk_put_state : AFun := mkFun fx_LineDesk_put_state 3 0 b_LineDesk_put_state
/-! _law_put: 0 desk 1 line 2 state -/
def fx__law_put : Nat → Bool := fxs [true, true, true]
def b__law_put : AS :=
  sSeq (sTry [.NoSuchLine] (sDrop (eMethV .LineDesk "put_state" 3 a_LineDesk_put_state 0 (arVar 1 (arVar 2 (arNil))))) ((.NoSuchLine, sRet (aCE (aK (.str (Str.ofString "none"))))) :: (.LineError, sRet (aCE (aK (.str (Str.ofString "other"))))) :: []))
    (sRet (aCE (aK (.str (Str.ofString "put")))))
def a__law_put : AFun := mkFun fx__law_put 3 0 b__law_put
/-! _law_some_state: 0 draw 1 call_id 2 kind -/
def fx__law_some_state : Nat → Bool := fxs [true]
def b__law_some_state : AS :=
  sSeq (sAsg 1 (aTup (aCons (aCE (aC2 oMod (aC1 oInt (aVar 0)) (aK (.int 6)))) (aCons (aN2 oAdd (aK (.int 1)) (aC2 oMod (aC1 oInt (aC2 oDiv (aVar 0) (aK (.int 6)))) (aK (.int 9)))) (aCons (aCE (aC2 oMod (aC1 oInt (aC2 oDiv (aVar 0) (aK (.int 54)))) (aK (.int 200)))) (aNil))))))
    (sSeq (sAsg 2 (aCE (aC2 oMod (aC1 oInt (aC2 oDiv (aVar 0) (aK (.int 10800)))) (aK (.int 5)))))
    (sSeq (sIf (bE (bTest (aC2 oEq (aVar 2) (aK (.int 0))))) (sRet (aTup (aCons (aCE (aK (.str (Str.ofString "idle")))) (aNil)))) (sNext))
    (sSeq (sIf (bE (bTest (aC2 oEq (aVar 2) (aK (.int 4))))) (sRet (aTup (aCons (aCE (aK (.str (Str.ofString "tone")))) (aCons (aCE (aC2 oIx (acLst (acCons (aK (.str (Str.ofString "hung up"))) (acCons (aK (.str (Str.ofString "busy"))) (acCons (aK (.str (Str.ofString "lost"))) (acCons (aK (.str (Str.ofString "no answer"))) (acNil)))))) (aC2 oMod (aC1 oInt (aVar 0)) (aK (.int 4))))) (aNil))))) (sNext))
    (sRet (aTup (aCons (aCE (aC2 oIx (acLst (acCons (aK (.str (Str.ofString ""))) (acCons (aK (.str (Str.ofString "calling"))) (acCons (aK (.str (Str.ofString "ringing"))) (acCons (aK (.str (Str.ofString "talking"))) (acNil)))))) (aVar 2))) (aCons (eFrz 1) (aNil))))))))
def a__law_some_state : AFun := mkFun fx__law_some_state 1 2 b__law_some_state
/-! _law_told: 0 desk 1 line -/
def fx__law_told : Nat → Bool := fxs [true, true]
def b__law_told : AS :=
  sTry [.NoSuchLine] (sRet (aTup (aCons (aCE (aK (.str (Str.ofString "told")))) (aCons (eMethV .LineDesk "line_state" 2 a_LineDesk_line_state 0 (arVar 1 (arNil))) (aNil))))) ((.NoSuchLine, sRet (aTup (aCons (aCE (aK (.str (Str.ofString "refused")))) (aCons (aTup (aNil)) (aNil))))) :: [])
def a__law_told : AFun := mkFun fx__law_told 2 0 b__law_told
/-! law: 0 script 1 draws 2 many 3 numbers 4 known 5 desk 6 states 7 line 8 k 9 state 10 put 11 number 12 due 13 one -/
def fx_law : Nat → Bool := fxs [true]
def b_law : AS :=
  sSeq (sAsg 1 (aCall 2 a__law_draws (arVar 0 (arOwn (aCE (aK (.int 26))) (arNil)))))
    (sSeq (sAsg 2 (aCE (aK (.int 8))))
    (sSeq (sIf (bE (bTest (aC2 oEq (aC2 oMod (aC1 oInt (aC2 oDiv (aC2 oIx (aVar 1) (aK (.int 1))) (aK (.int 24)))) (aK (.int 4))) (aK (.int 0))))) (sAsg 2 (aCE (aK (.int 24)))) (sNext))
    (sSeq (sAsg 3 (aCall 2 a__law_lines (arOwn (aCE (aC2 oIx (aVar 1) (aK (.int 0)))) (arOwn (aN2 oAdd (aVar 2) (aK (.int 1))) (arNil)))))
    (sSeq (sAsg 4 (aSlN (aVar 3) (oNo) (oPart (aC2 oAdd (aK (.int 1)) (aC2 oMod (aC1 oInt (aC2 oIx (aVar 1) (aK (.int 1)))) (aVar 2))))))
    (sSeq (sAsg 5 (eMake .LineDesk 2 a_LineDesk___init__ (arOwn (aE1 oTuple (eFrz 4)) (arNil))))
    (sSeq (sAsg 6 (eDictK))
    (sSeq (sForP .seq (pVar 4) (gaName 7)
      (sSetI (pVar 6) (aVar 7) (aTup (aCons (aCE (aK (.str (Str.ofString "idle")))) (aNil)))))
    (sSeq (sFor (iaRng2 (aCE (aK (.int 2))) (aCE (aK (.int 26)))) (gaName 8)
      (sSeq (sAsg 7 (aCE (aC2 oIx (aVar 3) (aC2 oMod (aC1 oInt (aC2 oIx (aVar 1) (aVar 8))) (aC1 oLen (aVar 3))))))
    (sSeq (sAsg 9 (aCall 1 a__law_some_state (arOwn (aCE (aC2 oDiv (aC2 oIx (aVar 1) (aVar 8)) (aC1 oLen (aVar 3)))) (arNil))))
    (sSeq (sAsg 10 (aCE (aK (.str (Str.ofString "none")))))
    (sSeq (sIf (bE (bTest (aC2 oIn (aVar 7) (aVar 4)))) (sSeq (sAsg 10 (aCE (aK (.str (Str.ofString "put")))))
    (sSetI (pVar 6) (aVar 7) (eFrz 9))) (sNext))
    (sSeq (sIf (eTest (aE2 oNe (aCall 3 a__law_put (arVar 5 (arVar 7 (arVar 9 (arNil))))) (eFrz 10))) (sRet (aCE (aK (.bl false)))) (sNext))
    (sSeq (sForP .seq (pVar 3) (gaName 11)
      (sSeq (sAsg 12 (aTup (aCons (aCE (aK (.str (Str.ofString "refused")))) (aCons (aTup (aNil)) (aNil)))))
    (sSeq (sIf (bE (bTest (aC2 oIn (aVar 11) (aVar 4)))) (sAsg 12 (aTup (aCons (aCE (aK (.str (Str.ofString "told")))) (aCons (aCE (aC2 oIx (aVar 6) (aVar 11))) (aNil))))) (sNext))
    (sIf (eOr (eTest (aE2 oNe (aCall 2 a__law_told (arVar 5 (arVar 11 (arNil)))) (eFrz 12))) (eTest (aE2 oNe (eMethV .LineDesk "has_line" 2 a_LineDesk_has_line 5 (arVar 11 (arNil))) (aCE (aC2 oIn (aVar 11) (aVar 4)))))) (sRet (aCE (aK (.bl false)))) (sNext)))))
    (sIf (eTest (aE2 oNe (eMethV .LineDesk "busy_lines" 1 a_LineDesk_busy_lines 5 (arNil)) (aE1 oTuple (aE1 oSorted (eLcP .seq (pVar 4) (gaName 13) (bE (bTest (aC2 oNe (aC2 oIx (aVar 6) (aVar 13)) (acTup (acCons (aK (.str (Str.ofString "idle"))) (acNil)))))) (eFrz 13) [13]))))) (sRet (aCE (aK (.bl false)))) (sNext)))))))))
    (sRet (aCE (aK (.bl true))))))))))))
def a_law : AFun := mkFun fx_law 1 13 b_law
section
local macro_rules | `(tactic| walk_at "ev") => `(tactic| simp only [sNext, sBrk, sCont, sAsg, sDrop, sRet, sRetN, sAugI, sRaise, sSetF, sAugF, sSetI, sAppC, sAppV, sExtC, sExtV, sFor, sAsgG, sTry, pick, aVar, aK, aC1, aC2, aN1, aN2, aE1, aE2, isV_val, aV1, aV2, aCE, aFld, fldT, fldOf, eFld, bTest, bTru, bNot, bAnd, bOr, bE, eTest, eTru, eNot, eAnd, eOr, aNotT, aAndT, aOrT, eNotT, eAndT, eOrT, aIf, eIf, aChain, eChain, aNil, aCons, acNil, acCons, aTup, aLst, acTup, acLst, aJs, aJoin, eFrz, eMove, pVar, subP, T.own, pFld, pIx, getP, setE, setS, boxOf, setBox, getT, setT, putT, putD, putE, ePop, eDictK, eDictT, gaName, gaNil, gaCons, gaTup, iaRng1, iaRng2, iaSeq, iaStr, iaEnum, enumD, eLc, wipeE, backE, bYes, fxs, outs, mkFun, arNil, arOwn, arVar, callV, aCall, insK, insOk, eMethE, eMethV, callP, plT, eMethP, eMake, eBox, oNo, oPart, aSl, aSlN, eSl, aGet1, aGet2, eFrzP, noX, T.fz, fzs, T.frz, frzs, T.kids, allVal, oGet_some, oGet_none, oGet_map, atC_0, atC_1, atC_2, atC_3, atC_4, atC_5, atC_6, atC_7, atC_8, atC_9, atC_10, atC_11, atC_12, atC_13, atC_14, atC_15, atI_mapF, frzs_map, fzs_map, fz_nl, frz_nl, map_snoc, map_erase, allVal_map, ixK, getK, D.k1, ofString_inj, List.getElem?_cons_succ, List.getElem?_cons_zero, List.set_cons_succ, List.set_cons_zero, List.length_cons, List.length_nil, Nat.reduceAdd, Nat.reduceLT, Nat.reduceLeDiff, Nat.reduceEqDiff, Nat.reduceSub, String.reduceEq, Bool.and_self, Bool.and_true, Bool.true_and, Bool.or_true, Bool.true_or, Bool.false_or, Bool.or_false, Bool.and_false, Bool.false_and, true_and, and_true, ne_eq, reduceCtorEq, not_false_eq_true, exists_eq_left, exists_eq_left', Option.map_some, Option.map_none, Option.bind_some, Option.bind_none, Option.getD_some, Option.getD_none, List.getD_cons_succ, List.getD_cons_zero, List.replicate_succ, List.replicate_zero, List.cons_append, List.nil_append, List.append_nil, List.map_cons, List.map_nil, List.length_map, decide_eq_true_eq, decide_true, decide_false, Bool.not_true, Bool.not_false, if_true, if_false, ite_true, ite_false, Bool.false_eq_true, List.mem_cons, List.not_mem_nil, or_false, false_or, or_true, true_or, exists_and_left, exists_eq', T.val.injEq, D.nd.injEq, T.nd.injEq, D.str.injEq, D.int.injEq, List.cons.injEq, List.cons_ne_nil, o_len_str, o_len_vl, o_len_vt, o_len_vs, o_len_nl, o_len_nk, o_int_i, o_int_b, o_int_s, o_str_i, o_add_i, o_add_s, o_add_tt, o_add_vv, o_add_mm, o_add_m1, o_add_vm, o_add_mv, o_add_v1, o_sub_i, o_mul_i, o_mul_1, o_div_i, o_mod_i, o_pow_i, o_neg_i, o_eq, o_ne, q_nn, q_ii, q_ss, q_bb, q_ni, q_in, q_ns, q_sn, q_nb, q_bn, q_is, q_si, q_vnd, q_ndv, q_lv, q_vl, q_ll, o_lt_i, o_le_i, o_gt_i, o_ge_i, o_in, o_nin, i_vt, i_vl, i_vs, i_nl, i_nl0, i_dk, i_dt, i_vdk, i_vdt, i_ss, i_nt, am_nil, am_cons, am_s, am_i, am_ni, am_in, am_ns, am_sn, am_ints, am_strs, ixN_10, at_last, at_one, Bool.or_eq_true, Bool.and_eq_true, Bool.not_eq_eq_eq_not, decide_eq_false_iff_not, o_is_bb, o_isn_bb, beq_self_eq_true, o_is_nn, o_is_in, o_is_sn, o_is_bn, o_is_dn, o_is_on, o_is_tn, o_isn_nn, o_isn_in, o_isn_sn, o_isn_bn, o_isn_dn, o_isn_on, o_isn_tn, o_ix_s, o_ix_vl, o_ix_vt, o_ix_vs, o_ix_nl, o_ix_nk, o_ix_nt, o_ix_vk, o_ix_vd, o_list_vl, o_list_vt, o_list_vs, o_list_nl, o_tup_vl, o_tup_vt, o_tup_nl, o_tup_n0, o_abs_i, o_min_i, o_max_i, o_isi_n, o_isi_b, o_isi_i, o_isi_s, o_isi_t, o_isi_l, t_n, t_b, t_i, t_vl, t_vt, t_nl, sl_vl, sl_vs, sl_vt, sl_nl, sl_s, fmt_s, fmt_i, isS_s, aM1, eM1, o_starts, o_join_n, dpK, eDisp, ndK, sDel, eMax3, o_max3, iaRng3, eDc, keepV_v, keepV_u, keepV_n, keepV_0, sForP, back, Pit.w, eLcP, sAppH, Sum.inr.injEq, Sum.inl.injEq, eMaxDf, eLcK, sForK, fldK, bkL, isDk, keysD])
local macro_rules | `(tactic| walk_at "side") => `(tactic| first | (with_reducible assumption) | omega | decide | ((with_reducible apply cdiv) <;> omega) | ((with_reducible apply cmul) <;> omega) | walk_at "sm" | walk_at "len" | ((with_reducible apply in_flat); (· rfl); (· first | rfl | exact flats_int | exact flats_str)) | (simp only [List.length_append, List.length_map, List.length_cons, List.length_nil, List.length_replicate]; omega))
local macro_rules | `(tactic| walk_at "dec") => `(tactic| first | (with_reducible assumption) | omega | decide)
set_option hygiene false in
local macro_rules | `(tactic| walk_at "go") => `(tactic| repeat (first | ((with_reducible refine seqO fun cc => ?_)) | walk_at "ev" | ((with_reducible refine nxI ?_); (try clear cc)) | ((with_reducible refine And.intro ?_ ?_); (· walk_at "side")) | ((with_reducible refine ifP ?_ ?_); (· walk_at "dec")) | ((with_reducible refine ifN ?_ ?_); (· walk_at "dec"))))
local macro_rules | `(tactic| walk_at "gi") => `(tactic| (refine ifS ?_; walk_at "go"))
local macro_rules | `(tactic| walk_at "sm") => `(tactic| first | (with_reducible assumption) | ((with_reducible apply lgS) <;> omega) | ((with_reducible apply lgB); assumption) | ((with_reducible apply lgB'); assumption))
local macro_rules | `(tactic| walk_at "ln") => `(tactic| first | (with_reducible assumption) | (with_reducible exact ll_emp) | ((with_reducible apply ll_int); walk_at "sm") | (with_reducible exact ll_lit) | ((with_reducible apply ll_cut); walk_at "ln") | ((with_reducible apply ll_add); (· walk_at "ln"); (· walk_at "ln")) | ((with_reducible apply ll_cat); (· walk_at "ln"); (· walk_at "ln")))
local macro_rules | `(tactic| walk_at "len") => `(tactic| ((with_reducible apply ll_le); (· walk_at "ln"); (· decide)))
local macro_rules | `(tactic| walk_at "gd") => `(tactic| (simp only [D.good, strOk_ofString, List.forall_mem_cons, List.mem_cons, List.not_mem_nil, forall_eq_or_imp, or_false, forall_eq, false_imp_iff, implies_true, and_true, true_and]; first | done | decide +kernel | (repeat (first | (with_reducible assumption) | ((with_reducible refine pl_mono ?_ (by assumption)); decide) | ((with_reducible refine pls_mono ?_ (by assumption)); decide) | ((with_reducible refine good_mono ?_ (by assumption)); decide) | ((with_reducible refine goods_mono ?_ (by assumption)); decide) | walk_at "so" | (with_reducible refine And.intro ?_ ?_) | decide +kernel))))
local macro_rules | `(tactic| walk_at "pl") => `(tactic| (simp only [D.pl, strOk_ofString, List.forall_mem_cons, List.mem_cons, List.not_mem_nil, forall_eq_or_imp, or_false, forall_eq, false_imp_iff, implies_true, and_true, true_and]; first | done | decide +kernel | (repeat (first | (with_reducible assumption) | ((with_reducible refine pl_mono ?_ (by assumption)); decide) | ((with_reducible refine pls_mono ?_ (by assumption)); decide) | ((with_reducible refine good_mono ?_ (by assumption)); decide) | ((with_reducible refine goods_mono ?_ (by assumption)); decide) | walk_at "so" | (with_reducible refine And.intro ?_ ?_) | decide +kernel))))
local macro_rules | `(tactic| walk_at "so") => `(tactic| first | (with_reducible assumption) | (with_reducible exact strOk_ofString) | (with_reducible exact strOk_emp) | ((with_reducible apply strOk_cut); walk_at "so") | ((with_reducible apply strOk_cat) <;> walk_at "so"))
/-- a draw: not negative, of not too many bits -/
def Big (d : Int) : Prop := 0 ≤ d ∧ lg d ≤ 2000000
theorem draw_step {cell : Int} (k : Int) (h0 : 0 ≤ k) (hk : k ≤ 1000) (h : lg cell ≤ 1100000) : CMulB cell 6364136223846793005 ∧ CMulB 1442695040888963407 (k + 1) ∧ CMulB (((cell * 6364136223846793005 + 1442695040888963407 * (k + 1)) % 9223372036854775783)) 2862933555777941757 ∧
    Big ((((cell * 6364136223846793005 + 1442695040888963407 * (k + 1)) % 9223372036854775783) * 2862933555777941757 + 3037000493 + k) % 18446744073709551557) := by
  refine ⟨cmul_lg h (lg_small (n := 64) (by decide) (by decide)) (by decide), cmul (by decide) (by omega), ?_, ?_⟩
  · have h1 := Int.emod_nonneg (cell * 6364136223846793005 + 1442695040888963407 * (k + 1)) (by decide : (9223372036854775783 : Int) ≠ 0)
    have h2 := Int.emod_lt_of_pos (cell * 6364136223846793005 + 1442695040888963407 * (k + 1)) (by decide : (0 : Int) < 9223372036854775783)
    exact cmul (by omega) (by decide)
  · generalize (((cell * 6364136223846793005 + 1442695040888963407 * (k + 1)) % 9223372036854775783) * 2862933555777941757 + 3037000493 + k) = u
    have h1 := Int.emod_nonneg u (by decide : (18446744073709551557 : Int) ≠ 0)
    have h2 := Int.emod_lt_of_pos u (by decide : (0 : Int) < 18446744073709551557)
    exact ⟨h1, Nat.le_trans (lg_small (n := 64) (by decide) (by omega)) (by decide)⟩
theorem draw_neg {z : Int} (h : lg z ≤ 1048576) : CMulB 2 z ∧ lg (1 - 2 * z) ≤ 1100000 := by
  have e2 : lg 2 ≤ 2 := lg_small (by decide) (by decide)
  have e1 : lg 1 ≤ 1 := lg_small (by decide) (by decide)
  refine ⟨cmul_lg e2 h (by decide), ?_⟩
  have h1 := lg_mul 2 z
  have h2 := lg_add 1 (-(2 * z))
  have h3 : lg (-(2 * z)) ≤ lg (2 * z) := lg_le (by omega)
  have e : (1 : Int) - 2 * z = 1 + -(2 * z) := by omega
  rw [e]
  omega
theorem s_law_draws {ns : List Int} {c : Int} {S : Sg} {K' : KF} {KX : XF} (hl : ns.length ≤ 63) (hb : ∀ z ∈ ns, Builtin.Int.intBits z ≤ 1048576) (h0 : 0 ≤ c) (hc : c ≤ 1000)
    (k : ∀ ds : List Int, ds.length = c.toNat → (∀ d ∈ ds, Big d) → K' (.nd .lst ((ds.map .int).map .val)) [.val (.nd .slst (ns.map .int)), .val (.int c)] S) :
    a__law_draws [.val (.nd .slst (ns.map .int)), .val (.int c)] S K' KX := by
  have sz := sizeLine_eq
  unfold a__law_draws b__law_draws fx__law_draws
  walk_at "go"
  refine forR (fun i ε S' => ∃ (ds : List Int) (t3 t4 : T), ε = [.val (.nd .slst (ns.map .int)), .val (.int c), .nd .lst ((ds.map .int).map .val), t3, t4] ∧ S = S' ∧ ds.length = i ∧ ∀ d ∈ ds, Big d) ⟨[], _, _, rfl, rfl, rfl, fun _ h => nomatch h⟩ ?_ ?_
  · rintro i _ _ nx hi ⟨ds, t3, t4, rfl, rfl, hn, hB⟩ next
    walk_at "go"
    refine cut (fun ε S' => ∃ z : Int, ε = [.val (.nd .slst (ns.map .int)), .val (.int c), .nd .lst ((ds.map .int).map .val), .val (.int i), .val (.int z)] ∧ S = S' ∧ lg z ≤ 1048576) ?_ fun nx' key => ?_
    rotate_left
    · walk_at "gi"
      refine iteI (fun h1 => ?_) (fun h1 => ?_)
      · walk_at "go"
        have hm := Int.emod_nonneg (i : Int) (by omega : ((ns.length : Nat) : Int) ≠ 0)
        have hM := Int.emod_lt_of_pos (i : Int) (by omega : (0 : Int) < ((ns.length : Nat) : Int))
        refine atG hm hM fun z _ hz => ?_
        walk_at "go"
        exact key _ _ ⟨z, rfl, rfl, lg_bits (hb z hz)⟩
      · exact key _ _ ⟨0, rfl, rfl, by decide⟩
    rintro _ _ ⟨z, rfl, rfl, hz⟩
    walk_at "go"
    refine cut (fun ε S' => ∃ z : Int, ε = [.val (.nd .slst (ns.map .int)), .val (.int c), .nd .lst ((ds.map .int).map .val), .val (.int i), .val (.int z)] ∧ S = S' ∧ lg z ≤ 1100000 ∧ 0 ≤ z) ?_ fun nx' key => ?_
    rotate_left
    · walk_at "gi"
      refine iteI (fun h1 => ?_) (fun h1 => ?_)
      · refine ⟨(draw_neg hz).1, key _ _ ⟨_, rfl, rfl, (draw_neg hz).2, by omega⟩⟩
      · exact key _ _ ⟨_, rfl, rfl, by omega, by omega⟩
    rintro _ _ ⟨y, rfl, rfl, hy, hy0⟩
    walk_at "go"
    obtain ⟨d1, d2, d3, d4⟩ := draw_step (cell := y) i (by omega) (by omega) hy
    refine cut (fun ε S' => ∃ z : Int, ε = [.val (.nd .slst (ns.map .int)), .val (.int c), .nd .lst ((ds.map .int).map .val), .val (.int i), .val (.int z)] ∧ S = S' ∧ Big z) ?_ fun nx' key => ?_
    rotate_left
    · walk_at "gi"
      refine iteI (fun h1 => ?_) (fun h1 => ?_)
      · walk_at "go"
        exact key _ _ ⟨_, rfl, rfl, d4⟩
      · refine iteI (fun h1 => ?_) (fun h1 => ?_)
        · walk_at "go"
          exact key _ _ ⟨_, rfl, rfl, d4⟩
        · exact key _ _ ⟨_, rfl, rfl, hy0, by omega⟩
    rintro _ _ ⟨x, rfl, rfl, hx⟩
    walk_at "go"
    refine next _ _ ⟨ds ++ [x], _, _, by rw [List.map_append (f := D.int)]; rfl, rfl, by rw [List.length_append, hn]; rfl, fun d hd => ?_⟩
    rcases List.mem_append.mp hd with hd | hd
    · exact hB d hd
    · rw [List.mem_singleton.mp hd]; exact hx
  · rintro _ _ ⟨ds, t3, t4, rfl, rfl, hn, hB⟩
    walk_at "go"
    exact k ds hn hB
theorem Big.div {z m : Int} (h : Big z) (hm : 0 < m) : Big (z / m) := by
  refine ⟨Int.ediv_nonneg h.1 (by omega), Nat.le_trans (lg_le ?_) h.2⟩
  have := Int.ediv_le_self m h.1
  have := Int.ediv_nonneg h.1 (by omega : 0 ≤ m)
  omega

open PySem.Spec in
theorem lt_tr : ∀ {a b c : List Nat}, ltCps b a = false → ltCps c b = false → ltCps c a = false
  | [], [], [], _, _ => rfl
  | [], [], _ :: _, _, _ => rfl
  | [], _ :: _, [], _, h => by cases h
  | [], _ :: _, _ :: _, _, _ => rfl
  | _ :: _, [], _, h, _ => by cases h
  | _ :: _, _ :: _, [], _, h => by cases h
  | a :: r, b :: t, c :: u, h1, h2 => by
    simp only [ltCps, Bool.or_eq_false_iff, decide_eq_false_iff_not, Bool.and_eq_false_imp, beq_iff_eq] at h1 h2 ⊢
    refine ⟨by omega, fun e => ?_⟩
    exact lt_tr (h1.2 (by omega)) (h2.2 (by omega))
open PySem.Spec in
theorem lt_anti : ∀ {a b : List Nat}, ltCps b a = false → ltCps a b = false → a = b
  | [], [], _, _ => rfl
  | [], _ :: _, _, h => by cases h
  | _ :: _, [], h, _ => by cases h
  | a :: r, b :: t, h1, h2 => by
    simp only [ltCps, Bool.or_eq_false_iff, decide_eq_false_iff_not, Bool.and_eq_false_imp, beq_iff_eq] at h1 h2
    have e : a = b := by omega
    subst e
    rw [lt_anti (h1.2 rfl) (h2.2 rfl)]
open PySem.Spec in
theorem rising_pw : ∀ {r : List Str} {x : Str}, risingS x r = true → (x :: r).Pairwise (fun a b => ltCps b.cps.toList a.cps.toList = false)
  | [], x, _ => List.pairwise_singleton ..
  | y :: r, x, h => by
    unfold risingS at h
    rw [Bool.and_eq_true, Bool.not_eq_true'] at h
    have ih := rising_pw h.2
    refine List.pairwise_cons.mpr ⟨fun z hz => ?_, ih⟩
    rcases List.mem_cons.mp hz with rfl | hz
    · exact h.1
    · exact lt_tr h.1 ((List.pairwise_cons.mp ih).1 z hz)
theorem sortedS_uniq {a b : List Str} (ha : sortedS a = true) (hb : sortedS b = true) (h : a.Perm b) : a = b := by
  have pw : ∀ {l : List Str}, sortedS l = true → l.Pairwise (fun a b => PySem.Spec.ltCps b.cps.toList a.cps.toList = false) := fun {l} q => by
    cases l with
    | nil => exact List.Pairwise.nil
    | cons x r => exact rising_pw q
  exact List.Perm.eq_of_pairwise (fun x y _ _ h1 h2 => str_ext (lt_anti h1 h2)) (pw ha) (pw hb) h

section
variable {S : Sg} {K' : KF} {KX : XF}
theorem tos_inj : ∀ i : Fin 25, ∀ j : Fin 25, (Str.ofString (toString (10 + (i.val : Int))) = Str.ofString (toString (10 + (j.val : Int))) → i = j) ∧ (Str.ofString (toString (0 + (i.val : Int))) = Str.ofString (toString (0 + (j.val : Int))) → i = j) := by decide +kernel
theorem cat_inj {a b x y : Str} (h : a ++ x ++ b = a ++ y ++ b) : x = y := by
  have e : ∀ u v : Str, (u ++ v).cps.toList = u.cps.toList ++ v.cps.toList := fun u v => TL.tl_append u v
  refine str_ext ?_
  have := congrArg (fun z : Str => z.cps.toList) h
  simp only [e] at this
  exact List.append_cancel_left (List.append_cancel_right this)
theorem s_law_lines {d many : Int} (hd : Big d) (hm : many = 9 ∨ many = 25) (k : ∀ ls : List Str, (ls.length : Int) = many → ls.Nodup → (∀ s ∈ ls, PyData.strOk s = true ∧ s.length ≤ 3000) → K' (.nd .lst ((ls.map .str).map .val)) [.val (.int d), .val (.int many)] S) :
    a__law_lines [.val (.int d), .val (.int many)] S K' KX := by
  have sz := sizeLine_eq
  have h0 := hd.1
  obtain ⟨m0, m1⟩ := emod_b d (n := 9000) (by decide)
  obtain ⟨p0, p1⟩ := emod_b (d / 9000) (n := 5) (by decide)
  unfold a__law_lines b__law_lines fx__law_lines
  walk_at "go"
  generalize hh : Str.ofString (toString (1000 + d % 9000)) = head
  have lh : head.length ≤ 1000 := by rw [← hh]; exact ll_int (lgS (by omega) (by omega))
  have oh : PyData.strOk head = true := by rw [← hh]; exact strOk_ofString
  generalize d / 9000 % 5 = p at *
  refine cut (fun ε S' => ∃ f : Int, (f = 0 ∨ f = 10) ∧ ε = [.val (.int d), .val (.int many), .val (.str head), .val (.int p), .val (.int f), .unk] ∧ S = S') ?_ fun nx' key => ?_
  rotate_left
  · refine ifS ?_
    walk_at "go"
    refine iteI (fun h1 => ?_) (fun h1 => ?_)
    · walk_at "go"
      exact key _ _ ⟨10, .inr rfl, rfl, rfl⟩
    · walk_at "go"
      exact key _ _ ⟨0, .inl rfl, rfl, rfl⟩
  rintro _ _ ⟨f, hf, rfl, rfl⟩
  walk_at "go"
  refine lcR (fun i : Nat => .str (cutS head none (some p) ++ Str.ofString (toString (f + (i : Int))) ++ cutS head (some p) none)) (by omega) (fun i hi kk kn => ?_) ?_
  · have l1 := cutS_len (a := head) (lo := none) (hi := some p)
    have l2 := cutS_len (a := head) (lo := some p) (hi := none)
    have l3 : (Str.ofString (toString (f + (i : Int)))).length ≤ 1000 := ll_int (lgS (by omega) (by omega))
    have la := ll_cat (a := cutS head none (some p)) (b := Str.ofString (toString (f + (i : Int)))) (m := 1000) (n := 1000) (by omega) l3
    walk_at "go"
    exact kn _ rfl
  have e : (List.range many.toNat).map (fun i : Nat => D.str (cutS head none (some p) ++ Str.ofString (toString (f + (i : Int))) ++ cutS head (some p) none)) = ((List.range many.toNat).map fun i : Nat => cutS head none (some p) ++ Str.ofString (toString (f + (i : Int))) ++ cutS head (some p) none).map .str := by rw [List.map_map]; rfl
  rw [e]
  refine k _ (by rw [List.length_map, List.length_range]; omega) ?_ (fun s hs => ?_)
  · refine List.pairwise_map.mpr (List.Pairwise.imp_of_mem (fun {i j} mi mj hij => ?_) List.nodup_range)
    intro q
    have mi := List.mem_range.mp mi
    have mj := List.mem_range.mp mj
    have e1 := cat_inj q
    have key := tos_inj ⟨i, by omega⟩ ⟨j, by omega⟩
    rcases hf with rfl | rfl
    · exact hij (Fin.mk.inj (key.2 e1))
    · exact hij (Fin.mk.inj (key.1 e1))
  · obtain ⟨i, hi, rfl⟩ := List.mem_map.mp hs
    have hi := List.mem_range.mp hi
    have l1 := cutS_len (a := head) (lo := none) (hi := some p)
    have l2 := cutS_len (a := head) (lo := some p) (hi := none)
    have l3 : (Str.ofString (toString (f + (i : Int)))).length ≤ 1000 := ll_int (lgS (by omega) (by omega))
    refine ⟨strOk_cat (strOk_cat (strOk_cut oh) strOk_ofString) (strOk_cut oh), ?_⟩
    rw [Z.len_cat, Z.len_cat]; omega
/-- a state of a line -/
def StOk (d : D) : Prop := d.good 60
theorem s_law_some_state {d : Int} (hd : Big d) (k : ∀ s : D, StOk s → K' (.val s) [.val (.int d)] S) : a__law_some_state [.val (.int d)] S K' KX := by
  have sz := sizeLine_eq
  have h0 := hd.1
  unfold a__law_some_state b__law_some_state fx__law_some_state
  obtain ⟨a0, a1⟩ := emod_b (d / 10800) (n := 5) (by decide)
  obtain ⟨b0, b1⟩ := emod_b d (n := 4) (by decide)
  walk_at "go"
  refine ifS ?_
  walk_at "go"
  refine iteI (fun h1 => ?_) (fun h1 => ?_)
  · walk_at "go"
    refine k _ ?_
    unfold StOk; walk_at "gd"
  walk_at "go"
  refine ifS ?_
  walk_at "go"
  refine iteI (fun h2 => ?_) (fun h2 => ?_)
  · walk_at "go"
    refine pickS [Str.ofString "hung up", Str.ofString "busy", Str.ofString "lost", Str.ofString "no answer"] rfl (fun z => PyData.strOk z = true) (by decide +kernel) b0 b1 fun w hw => ?_
    walk_at "go"
    refine k _ ?_
    unfold StOk; walk_at "gd"
  walk_at "go"
  refine pickS [Str.ofString "", Str.ofString "calling", Str.ofString "ringing", Str.ofString "talking"] rfl (fun z => PyData.strOk z = true) (by decide +kernel) (by omega) (by show _ < (4 : Int); omega) fun w hw => ?_
  walk_at "go"
  refine k _ ?_
  unfold StOk; walk_at "gd"
/-! the desk -/
abbrev dT (ls : List Str) (vs : List D) : T := .nd (.dk (ls.map .inr)) (vs.map .val)
abbrev tDesk (ls : List Str) (vs : List D) : T := .nd (.ins .LineDesk ["_states"]) [dT ls vs]
theorem ix_in {ls : List Str} {l : Str} : (ixK (ls.map (Sum.inr : Str → Key)) (.inr l)).isSome = decide (l ∈ ls) := by
  rw [ixK_isSome]
  congr 1
  simp
theorem s_has_line {ls : List Str} {vs : List D} {l : Str} (k : K' (.val (.bl (decide (l ∈ ls)))) [tDesk ls vs, .val (.str l)] S) : a_LineDesk_has_line [tDesk ls vs, .val (.str l)] S K' KX := by
  unfold a_LineDesk_has_line b_LineDesk_has_line fx_LineDesk_has_line
  walk_at "go"
  rw [ix_in]
  exact k
theorem s_line_state {ls : List Str} {vs : List D} {l : Str} (hl : ls.length = vs.length) (ll : l.length ≤ 3000) (k : ∀ j d, ixK (ls.map (Sum.inr : Str → Key)) (.inr l) = some j → vs[j]? = some d → K' (.val d) [tDesk ls vs, .val (.str l)] S)
    (kx : l ∉ ls → KX .NoSuchLine [] [tDesk ls vs, .val (.str l)] S) : a_LineDesk_line_state [tDesk ls vs, .val (.str l)] S K' KX := by
  have sz := sizeLine_eq
  unfold a_LineDesk_line_state b_LineDesk_line_state fx_LineDesk_line_state
  walk_at "go"
  refine ifS ?_
  walk_at "go"
  rw [ix_in]
  refine iteI (fun h1 => ?_) (fun h1 => ?_)
  · walk_at "go"
    exact kx (by simpa using h1)
  · walk_at "go"
    have h2 : l ∈ ls := by simpa using h1
    obtain ⟨j, ej⟩ : ∃ j, ixK (ls.map (Sum.inr : Str → Key)) (.inr l) = some j := by
      cases q : ixK (ls.map (Sum.inr : Str → Key)) (.inr l) with
      | none => have := ix_in (ls := ls) (l := l); rw [q] at this; simp [h2] at this
      | some j => exact ⟨j, rfl⟩
    have lj := ixK_lt ej
    rw [List.length_map] at lj
    have hv : vs[j]? = some vs[j] := List.getElem?_eq_getElem (by omega)
    rw [ej]
    refine oGetI (c := T.val vs[j]) ?_ ⟨_, rfl, k j _ ej hv⟩
    show (List.map T.val vs)[j]? = _
    rw [List.getElem?_map, hv]; rfl
theorem s_put_state {ls : List Str} {vs : List D} {l : Str} {s : D} (h64 : ls.length < 64) (hl : ls.length = vs.length) (ll : l.length ≤ 3000) (k : ∀ j, ixK (ls.map (Sum.inr : Str → Key)) (.inr l) = some j → K' (.val .non) [tDesk ls (vs.set j s), .val (.str l), .val s] S)
    (kx : l ∉ ls → KX .NoSuchLine [] [tDesk ls vs, .val (.str l), .val s] S) : a_LineDesk_put_state [tDesk ls vs, .val (.str l), .val s] S K' KX := by
  have sz := sizeLine_eq
  unfold a_LineDesk_put_state b_LineDesk_put_state fx_LineDesk_put_state
  walk_at "go"
  refine s_line_state hl ll (fun j d ej hv => ?_) (fun h => ?_)
  · walk_at "go"
    have lj := ixK_lt ej
    rw [List.length_map] at lj
    rw [ej]
    have k := k j ej
    unfold tDesk dT at k
    rw [List.map_set] at k
    exact k
  · walk_at "go"
    exact kx h
abbrev idle : D := .tup [.str (Str.ofString "idle")]
/-- the state of a line -/
def stOf (ls : List Str) (vs : List D) (l : Str) : D := ((ixK (ls.map (Sum.inr : Str → Key)) (.inr l)).bind (vs[·]?)).getD .non
def isBusy (ls : List Str) (vs : List D) (l : Str) : Bool := !(PyData.eqv (stOf ls vs l).py idle.py)
theorem st_get {ls : List Str} {vs : List D} {l : Str} (hl : ls.length = vs.length) (h : l ∈ ls) : (ixK (ls.map (Sum.inr : Str → Key)) (.inr l)).bind (fun x => (List.map T.val vs)[x]?) = some (.val (stOf ls vs l)) ∧ stOf ls vs l ∈ vs := by
  unfold stOf
  cases q : ixK (ls.map (Sum.inr : Str → Key)) (.inr l) with
  | none => have := ix_in (ls := ls) (l := l); rw [q] at this; simp [h] at this
  | some j =>
    have lj := ixK_lt q
    rw [List.length_map] at lj
    have hv : vs[j]? = some vs[j] := List.getElem?_eq_getElem (by omega)
    refine ⟨?_, ?_⟩
    · show (List.map T.val vs)[j]? = _
      rw [List.getElem?_map, hv, Option.bind_some, hv]; rfl
    · rw [Option.bind_some, hv]
      exact List.getElem_mem _
theorem good_idle : D.good 64 idle := by walk_at "gd"
theorem ls_keys {ls : List Str} : (ls.map (Sum.inr : Str → Key)).map kD = ls.map D.str := by rw [List.map_map]; rfl
theorem s_busy {ls : List Str} {vs : List D} (hl : ls.length = vs.length) (h64 : ls.length < 64) (hv : ∀ d ∈ vs, StOk d) (k : ∀ ys : List Str, ys.Perm (ls.filter (isBusy ls vs)) → sortedS ys = true → K' (.val (.tup (ys.map .str))) [tDesk ls vs] S) : a_LineDesk_busy_lines [tDesk ls vs] S K' KX := by
  have sz := sizeLine_eq
  unfold a_LineDesk_busy_lines b_LineDesk_busy_lines fx_LineDesk_busy_lines
  walk_at "go"
  intro a bb
  rw [ls_keys]
  refine lcK_map (xs := ls) (h := D.str) (isBusy ls vs) D.str (by omega) rfl (fun l hm yes no ky kn => ?_) ?_
  · obtain ⟨e1, m1⟩ := st_get hl hm
    walk_at "go"
    refine oGetI e1 ?_
    walk_at "go"
    refine ⟨good_mono (by decide) (hv _ m1), good_idle, ?_⟩
    unfold isBusy at ky kn
    refine iteI (fun h1 => ?_) (fun h1 => ?_)
    · refine ky ?_ _ rfl
      rw [h1]; rfl
    · refine kn ?_ _ rfl
      rw [Bool.not_eq_false] at h1
      rw [h1]; rfl
  walk_at "go"
  refine sortedSI (by have := List.length_filter_le (isBusy ls vs) ls; omega) fun ys hp hs => ?_
  walk_at "go"
  exact k ys hp hs
theorem dfold_nodup {v : D} : ∀ {ls : List Str}, ls.Nodup → dfold (Sum.inr : Str → Key) (fun _ => v) ls = (ls.map .inr, ls.map fun _ => v) := by
  intro ls
  induction ls using list_snoc_ind with
  | h0 => intro _; rfl
  | hs xs a ih =>
    intro h
    rw [List.nodup_append] at h
    rw [dfold_snoc, ih h.1]
    have n : ixK (xs.map (Sum.inr : Str → Key)) (.inr a) = none := by
      rw [ixK_none]
      intro m
      obtain ⟨b, hb, e⟩ := List.mem_map.mp m
      cases e
      exact h.2.2 _ hb _ (List.mem_singleton.mpr rfl) rfl
    unfold putP
    rw [n, List.map_append, List.map_append]; rfl
theorem s_desk {ls : List Str} (hn : ls.Nodup) (h64 : ls.length < 64) (k : K' (.val .non) [tDesk ls (ls.map fun _ => D.tup [.str (Str.ofString "idle")]), .val (.tup (ls.map .str))] S) : a_LineDesk___init__ [.nd (.ins .LineDesk []) [], .val (.tup (ls.map .str))] S K' KX := by
  have sz := sizeLine_eq
  unfold a_LineDesk___init__ b_LineDesk___init__ fx_LineDesk___init__
  walk_at "go"
  refine dcMapF (xs := ls) (h := D.str) (fun _ => true) Sum.inr (fun _ => D.tup [.str (Str.ofString "idle")]) (by omega) (fun a ha yes no hy hn => ?_) ?_
  · walk_at "go"
    exact hy rfl _ rfl
  have ef : dfold (Sum.inr : Str → Key) (fun _ => idle) (ls.filter fun _ => true) = (ls.map .inr, ls.map fun _ => idle) := by
    rw [List.filter_eq_self.mpr (fun _ _ => rfl)]
    exact dfold_nodup hn
  rw [ef]
  walk_at "go"
  exact k

theorem s_law_put {ls : List Str} {vs : List D} {l : Str} {s : D} (h64 : ls.length < 64) (hl : ls.length = vs.length) (ll : l.length ≤ 3000)
    (k : ∀ j, l ∈ ls → ixK (ls.map (Sum.inr : Str → Key)) (.inr l) = some j → K' (.val (.str (Str.ofString "put"))) [tDesk ls (vs.set j s), .val (.str l), .val s] S)
    (kn : l ∉ ls → K' (.val (.str (Str.ofString "none"))) [tDesk ls vs, .val (.str l), .val s] S) : a__law_put [tDesk ls vs, .val (.str l), .val s] S K' KX := by
  have sz := sizeLine_eq
  unfold a__law_put b__law_put fx__law_put
  walk_at "go"
  refine s_put_state h64 hl ll (fun j ej => ?_) (fun h => ?_)
  · have m : l ∈ ls := by
      have := ix_in (ls := ls) (l := l)
      rw [ej] at this
      simpa using this
    walk_at "go"
    exact k j m ej
  · walk_at "go"
    exact kn h
theorem s_law_told {ls : List Str} {vs : List D} {l : Str} (hl : ls.length = vs.length) (ll : l.length ≤ 3000)
    (k : l ∈ ls → K' (.val (.tup [.str (Str.ofString "told"), stOf ls vs l])) [tDesk ls vs, .val (.str l)] S)
    (kn : l ∉ ls → K' (.val (.tup [.str (Str.ofString "refused"), .tup []])) [tDesk ls vs, .val (.str l)] S) : a__law_told [tDesk ls vs, .val (.str l)] S K' KX := by
  have sz := sizeLine_eq
  unfold a__law_told b__law_told fx__law_told
  walk_at "go"
  refine s_line_state hl ll (fun j d ej hv => ?_) (fun h => ?_)
  · have m : l ∈ ls := by
      have := ix_in (ls := ls) (l := l)
      rw [ej] at this
      simpa using this
    have e : stOf ls vs l = d := by unfold stOf; rw [ej, Option.bind_some, hv]; rfl
    have k := k m
    rw [e] at k
    walk_at "go"
    exact k
  · walk_at "go"
    exact kn h
end
theorem main_law (ns : List Int) (hl : ns.length ≤ 63) (hb : ∀ z ∈ ns, Builtin.Int.intBits z ≤ 1048576) :
    a_law [.val (.nd .slst (ns.map .int))] [] (fun t _ _ => t = .val (.bl true)) (fun _ _ _ _ => False) := by
  have sz := sizeLine_eq
  unfold a_law b_law fx_law
  walk_at "go"
  refine s_law_draws hl hb (by decide) (by decide) fun ds lds bds => ?_
  have lds : ds.length = 26 := lds
  have dr : ∀ j : Nat, j < 26 → ∃ d, ds[j]? = some d ∧ Big d := fun j hj => ⟨ds[j]'(by omega), List.getElem?_eq_getElem (by omega), bds _ (List.getElem_mem _)⟩
  obtain ⟨d0, f0, g0⟩ := dr 0 (by omega)
  obtain ⟨d1, f1, g1⟩ := dr 1 (by omega)
  have h0 : atI ds 0 = some d0 := atN f0
  have h1 : atI ds 1 = some d1 := atN f1
  walk_at "go"
  refine cut (fun ε S' => ∃ m : Int, (m = 8 ∨ m = 24) ∧ ε = [.val (.nd .slst (ns.map .int)), .nd .lst ((ds.map .int).map .val), .val (.int m), .unk, .unk, .unk, .unk, .unk, .unk, .unk, .unk, .unk, .unk, .unk] ∧ S' = []) ?_ fun nx' key => ?_
  rotate_left
  · refine ifS ?_
    walk_at "go"
    refine oGetI h1 ?_
    walk_at "go"
    refine iteI (fun c1 => ?_) (fun c1 => ?_)
    · walk_at "go"
      exact key _ _ ⟨24, .inr rfl, rfl, rfl⟩
    · walk_at "go"
      exact key _ _ ⟨8, .inl rfl, rfl, rfl⟩
  rintro _ _ ⟨m, hm, rfl, rfl⟩
  walk_at "go"
  refine oGetI h0 ?_
  walk_at "go"
  refine s_law_lines g0 (by omega) fun nums ln nd ok => ?_
  walk_at "go"
  refine oGetI h1 ?_
  walk_at "go"
  obtain ⟨q0, q1⟩ := emod_b d1 (n := m) (by omega)
  have ek : cutL (nums.map D.str) none (some (1 + d1 % m)) = (nums.take (1 + d1 % m).toNat).map .str := by rw [cutL_map, cutI_to (by omega)]
  rw [ek]
  have sub : (nums.take (1 + d1 % m).toNat).Sublist nums := List.take_sublist ..
  have nd2 := nd.sublist sub
  have ok2 : ∀ s ∈ nums.take (1 + d1 % m).toNat, PyData.strOk s = true ∧ s.length ≤ 3000 := fun s hs => ok s (sub.subset hs)
  have l2 : (nums.take (1 + d1 % m).toNat).length ≤ 25 := by rw [List.length_take]; omega
  have l1 : nums.length ≤ 25 := by omega
  have l0 : 0 < nums.length := by omega
  generalize nums.take (1 + d1 % m).toNat = kn at nd2 ok2 l2
  clear ek sub q0 q1 ln h1 h0
  refine s_desk nd2 (by omega) ?_
  walk_at "go"
  refine forM (fun q ε S' => ∃ t7 : T, ε = [.val (.nd .slst (ns.map .int)), .nd .lst ((ds.map .int).map .val), .val (.int m), .nd .lst ((nums.map .str).map .val), .val (.nd .lst (kn.map .str)), tDesk kn (kn.map fun _ => idle), dT q (q.map fun _ => idle), t7, .unk, .unk, .unk, .unk, .unk, .unk] ∧ S' = []) ⟨_, rfl, rfl⟩ ?_ ?_
  · rintro q x r _ _ nx' eq ⟨t7, rfl, rfl⟩ kk
    have n : ixK (q.map (Sum.inr : Str → Key)) (.inr x) = none := by
      rw [ixK_none]
      intro hm
      obtain ⟨b, hb, e⟩ := List.mem_map.mp hm
      cases e
      rw [eq, List.nodup_append] at nd2
      exact nd2.2.2 _ hb _ (List.mem_cons_self ..) rfl
    have lq : q.length ≤ 25 := by
      rw [eq, List.length_append] at l2; omega
    walk_at "go"
    rw [n]
    refine kk _ _ ⟨.val (.str x), ?_, rfl⟩
    unfold dT
    rw [List.map_append (f := (Sum.inr : Str → Key)), List.map_append (f := fun _ : Str => idle)]; rfl
  rintro _ _ ⟨t7, rfl, rfl⟩
  walk_at "go"
  refine forR (fun i ε S' => ∃ (vs : List D) (t7 t8 t9 t10 t11 t12 t13 : T), ε = [.val (.nd .slst (ns.map .int)), .nd .lst ((ds.map .int).map .val), .val (.int m), .nd .lst ((nums.map .str).map .val), .val (.nd .lst (kn.map .str)), tDesk kn vs, dT kn vs, t7, t8, t9, t10, t11, t12, t13] ∧ S' = [] ∧ kn.length = vs.length ∧ ∀ d ∈ vs, StOk d)
    ⟨kn.map fun _ => idle, _, _, _, _, _, _, _, rfl, rfl, by rw [List.length_map], fun d hd => by obtain ⟨_, _, rfl⟩ := List.mem_map.mp hd; unfold StOk; walk_at "gd"⟩ ?_ ?_
  · rintro i _ _ nx' hi ⟨vs, t7, t8, t9, t10, t11, t12, t13, rfl, rfl, lv, ov⟩ kk
    have hi : i < 24 := hi
    obtain ⟨d, f, g⟩ := dr (2 + i) (by omega)
    have hd : atI ds (2 + (i : Int)) = some d := by have := atN f; rwa [show ((2 + i : Nat) : Int) = 2 + (i : Int) by omega] at this
    obtain ⟨p0, p1⟩ := emod_b d (n := ((nums.length : Nat) : Int)) (by omega)
    walk_at "go"
    refine oGetI hd ?_
    walk_at "go"
    refine atG p0 p1 fun l _ hm => ?_
    obtain ⟨ol, ll⟩ := ok l hm
    walk_at "go"
    refine oGetI hd ?_
    walk_at "go"
    refine s_law_some_state (g.div (by omega)) fun s hs => ?_
    walk_at "go"
    refine cut (fun ε S' => ∃ (vs2 : List D) (w : Str), ε = [.val (.nd .slst (ns.map .int)), .nd .lst ((ds.map .int).map .val), .val (.int m), .nd .lst ((nums.map .str).map .val), .val (.nd .lst (kn.map .str)), tDesk kn vs, dT kn vs2, .val (.str l), .val (.int (2 + i)), .val s, .val (.str w), t11, t12, t13] ∧ S' = [] ∧
      ((∃ j, l ∈ kn ∧ ixK (kn.map (Sum.inr : Str → Key)) (.inr l) = some j ∧ vs2 = vs.set j s ∧ w = Str.ofString "put") ∨ (l ∉ kn ∧ vs2 = vs ∧ w = Str.ofString "none"))) ?_ fun nx2 key => ?_
    rotate_left
    · refine ifS ?_
      walk_at "go"
      refine iteI (fun h1 => ?_) (fun h1 => ?_)
      · obtain ⟨j, ej⟩ : ∃ j, ixK (kn.map (Sum.inr : Str → Key)) (.inr l) = some j := by
          cases q : ixK (kn.map (Sum.inr : Str → Key)) (.inr l) with
          | none => have := ix_in (ls := kn) (l := l); rw [q] at this; simp [h1] at this
          | some j => exact ⟨j, rfl⟩
        walk_at "go"
        rw [ej]
        refine key _ _ ⟨vs.set j s, Str.ofString "put", ?_, rfl, .inl ⟨j, h1, ej, rfl, rfl⟩⟩
        unfold dT
        rw [List.map_set]
      · walk_at "go"
        exact key _ _ ⟨vs, Str.ofString "none", rfl, rfl, .inr ⟨h1, rfl, rfl⟩⟩
    rintro _ _ ⟨vs2, w, rfl, rfl, alt⟩
    have lv2 : kn.length = vs2.length := by
      rcases alt with ⟨j, _, _, rfl, _⟩ | ⟨_, rfl, _⟩
      · rw [List.length_set]; exact lv
      · exact lv
    have ov2 : ∀ d ∈ vs2, StOk d := by
      rcases alt with ⟨j, _, _, rfl, _⟩ | ⟨_, rfl, _⟩
      · intro d hd
        rcases List.mem_or_eq_of_mem_set hd with hd | rfl
        · exact ov d hd
        · exact hs
      · exact ov
    walk_at "go"
    refine cut (fun ε S' => ε = [.val (.nd .slst (ns.map .int)), .nd .lst ((ds.map .int).map .val), .val (.int m), .nd .lst ((nums.map .str).map .val), .val (.nd .lst (kn.map .str)), tDesk kn vs2, dT kn vs2, .val (.str l), .val (.int (2 + i)), .val s, .val (.str w), t11, t12, t13] ∧ S' = []) ?_ fun nx3 key2 => ?_
    rotate_left
    · refine ifS ?_
      walk_at "go"
      refine s_law_put (by omega) lv ll (fun j hin ej => ?_) (fun hout => ?_)
      · rcases alt with ⟨j2, _, ej2, rfl, rfl⟩ | ⟨h, _⟩
        · rw [ej] at ej2
          cases ej2
          walk_at "go"
          exact key2 _ _ ⟨rfl, rfl⟩
        · exact (h hin).elim
      · rcases alt with ⟨_, h, _⟩ | ⟨_, rfl, rfl⟩
        · exact (hout h).elim
        · walk_at "go"
          exact key2 _ _ ⟨rfl, rfl⟩
    rintro _ _ ⟨rfl, rfl⟩
    clear alt lv ov
    walk_at "go"
    intro ah
    refine forEach (fun ε S' => ∃ t11 t12 : T, ε = [.val (.nd .slst (ns.map .int)), .nd .lst ((ds.map .int).map .val), .val (.int m), .hole ah, .val (.nd .lst (kn.map .str)), tDesk kn vs2, dT kn vs2, .val (.str l), .val (.int (2 + i)), .val s, .val (.str w), t11, t12, t13] ∧ S' = []) ⟨_, _, rfl, rfl⟩ ?_ ?_
    · rintro x _ _ nx4 hx ⟨t11, t12, rfl, rfl⟩ k4
      obtain ⟨ox, lx⟩ := ok x hx
      walk_at "go"
      refine cut (fun ε S' => ε = [.val (.nd .slst (ns.map .int)), .nd .lst ((ds.map .int).map .val), .val (.int m), .hole ah, .val (.nd .lst (kn.map .str)), tDesk kn vs2, dT kn vs2, .val (.str l), .val (.int (2 + i)), .val s, .val (.str w), .val (.str x), .val (if x ∈ kn then .tup [.str (Str.ofString "told"), stOf kn vs2 x] else .tup [.str (Str.ofString "refused"), .tup []]), t13] ∧ S' = []) ?_ fun nx5 key3 => ?_
      rotate_left
      · refine ifS ?_
        walk_at "go"
        refine iteI (fun h1 => ?_) (fun h1 => ?_)
        · obtain ⟨e1, m1⟩ := st_get lv2 h1
          walk_at "go"
          refine oGetI e1 ?_
          walk_at "go"
          exact key3 _ _ ⟨by rw [if_pos h1], rfl⟩
        · walk_at "go"
          exact key3 _ _ ⟨by rw [if_neg h1], rfl⟩
      rintro _ _ ⟨rfl, rfl⟩
      walk_at "go"
      refine ifS ?_
      walk_at "go"
      refine s_law_told lv2 lx (fun h1 => ?_) (fun h1 => ?_)
      · obtain ⟨e1, m1⟩ := st_get lv2 h1
        rw [if_pos h1]
        walk_at "go"
        refine qD_self ?_ ?_
        · have := good_mono (m := 63) (by decide) (ov2 _ m1)
          walk_at "gd"
        walk_at "go"
        refine s_has_line ?_
        walk_at "go"
        exact k4 _ _ ⟨_, _, rfl, rfl⟩
      · rw [if_neg h1]
        walk_at "go"
        refine qD_self (by walk_at "gd") ?_
        walk_at "go"
        refine s_has_line ?_
        walk_at "go"
        exact k4 _ _ ⟨_, _, rfl, rfl⟩
    · rintro _ _ ⟨t11, t12, rfl, rfl⟩
      refine ⟨rfl, ?_⟩
      walk_at "go"
      refine ifS ?_
      walk_at "go"
      refine s_busy lv2 (by omega) ov2 fun ys hp hs => ?_
      walk_at "go"
      refine lcMapF (isBusy kn vs2) D.str (by omega) (fun x hm yes no ky kn' => ?_) ?_
      · obtain ⟨e1, m1⟩ := st_get lv2 hm
        walk_at "go"
        refine oGetI e1 ?_
        walk_at "go"
        refine ⟨good_mono (by decide) (ov2 _ m1), good_idle, ?_⟩
        unfold isBusy at ky kn'
        refine iteI (fun h1 => ?_) (fun h1 => ?_)
        · refine ky ?_ _ rfl
          rw [h1]; rfl
        · refine kn' ?_ _ rfl
          rw [Bool.not_eq_false] at h1
          rw [h1]; rfl
      walk_at "go"
      refine sortedSI (by have := List.length_filter_le (isBusy kn vs2) kn; omega) fun zs hp2 hs2 => ?_
      have e : ys = zs := sortedS_uniq hs hs2 (hp.trans hp2.symm)
      subst e
      walk_at "go"
      refine qD_self ?_ ?_
      · refine good_tup (n := 63) fun d hd => ?_
        obtain ⟨y, hy, rfl⟩ := List.mem_map.mp hd
        have := (hp.mem_iff.mp hy)
        exact (ok2 y (List.mem_filter.mp this).1).1
      walk_at "go"
      exact kk _ _ ⟨vs2, _, _, _, _, _, _, _, rfl, rfl, lv2, ov2⟩
  · rintro _ _ ⟨vs, t7, t8, t9, t10, t11, t12, t13, rfl, rfl, lv, ov⟩
    walk_at "go"

end
def sp_law (K : PySem.W.Frag) (N : Nm) : Sp := fun vs H Q _ => ∃ (a : Addr) (ns : List Int), vs = [.ref a] ∧ SqL K H a (ns.map V.int) ∧ ns.length ≤ 63 ∧ (∀ z ∈ ns, Builtin.Int.intBits z ≤ 1048576) ∧ ∀ H', Q (.bl true) H'
theorem len_law {K : PySem.W.Frag} {N : Nm} {vs : List V} {H : Hp} {Q : VK} {E : XK} (h : sp_law K N vs H Q E) : vs.length = 1 := by
  obtain ⟨_, _, rfl, _⟩ := h
  rfl
theorem law_sp {K : PySem.W.Frag} {N : Nm} {vs : List V} {H : Hp} {Q : VK} {E : XK} (h : sp_law K N vs H Q E) : spOf K N 1 a_law vs H Q E := by
  obtain ⟨a, ns, e, hS, hl, hb, hQ⟩ := h
  exact law_of e hS hQ (main_law ns hl hb)
def topS (i : Nat) : Stmt := PySem.Challenge.pw_copperline_k35_lines_and_their_states.main.body.getD i (.Pass ⟨0, 0, 0, 0⟩)
abbrev n_LineDesk___init__ : List Str := ["self", "numbers", "number"]
abbrev st_LineDesk___init__ : Stmt := inClass (topS 4) 0
theorem sc_LineDesk___init__ : FnScope ["self", "numbers", "number"] ["self", "numbers"] (defScope st_LineDesk___init__) := ⟨rfl, rfl, rfl, by decide +kernel, rfl, by decide +kernel, by decide +kernel⟩
abbrev n_LineDesk_busy_lines : List Str := ["self", "number"]
abbrev st_LineDesk_busy_lines : Stmt := inClass (topS 4) 4
theorem sc_LineDesk_busy_lines : FnScope ["self", "number"] ["self"] (defScope st_LineDesk_busy_lines) := ⟨rfl, rfl, rfl, by decide +kernel, rfl, by decide +kernel, by decide +kernel⟩
abbrev n_LineDesk_has_line : List Str := ["self", "number"]
abbrev st_LineDesk_has_line : Stmt := inClass (topS 4) 1
theorem sc_LineDesk_has_line : FnScope ["self", "number"] ["self", "number"] (defScope st_LineDesk_has_line) := ⟨rfl, rfl, rfl, by decide +kernel, rfl, by decide +kernel, by decide +kernel⟩
abbrev n__law_draws : List Str := ["script", "count", "draws", "k", "cell"]
abbrev st__law_draws : Stmt := topS 6
theorem sc__law_draws : FnScope ["script", "count", "draws", "k", "cell"] ["script", "count"] (defScope st__law_draws) := ⟨rfl, rfl, rfl, by decide +kernel, rfl, by decide +kernel, by decide +kernel⟩
abbrev n__law_lines : List Str := ["draw", "many", "head", "place", "first", "k"]
abbrev st__law_lines : Stmt := topS 7
theorem sc__law_lines : FnScope ["draw", "many", "head", "place", "first", "k"] ["draw", "many"] (defScope st__law_lines) := ⟨rfl, rfl, rfl, by decide +kernel, rfl, by decide +kernel, by decide +kernel⟩
abbrev n_LineDesk_line_state : List Str := ["self", "number"]
abbrev st_LineDesk_line_state : Stmt := inClass (topS 4) 2
theorem sc_LineDesk_line_state : FnScope ["self", "number"] ["self", "number"] (defScope st_LineDesk_line_state) := ⟨rfl, rfl, rfl, by decide +kernel, rfl, by decide +kernel, by decide +kernel⟩
abbrev n_LineDesk_put_state : List Str := ["self", "number", "state"]
abbrev st_LineDesk_put_state : Stmt := inClass (topS 4) 3
theorem sc_LineDesk_put_state : FnScope ["self", "number", "state"] ["self", "number", "state"] (defScope st_LineDesk_put_state) := ⟨rfl, rfl, rfl, by decide +kernel, rfl, by decide +kernel, by decide +kernel⟩
abbrev n__law_put : List Str := ["desk", "line", "state"]
abbrev st__law_put : Stmt := topS 9
theorem sc__law_put : FnScope ["desk", "line", "state"] ["desk", "line", "state"] (defScope st__law_put) := ⟨rfl, rfl, rfl, by decide +kernel, rfl, by decide +kernel, by decide +kernel⟩
abbrev n__law_some_state : List Str := ["draw", "call_id", "kind"]
abbrev st__law_some_state : Stmt := topS 8
theorem sc__law_some_state : FnScope ["draw", "call_id", "kind"] ["draw"] (defScope st__law_some_state) := ⟨rfl, rfl, rfl, by decide +kernel, rfl, by decide +kernel, by decide +kernel⟩
abbrev n__law_told : List Str := ["desk", "line"]
abbrev st__law_told : Stmt := topS 10
theorem sc__law_told : FnScope ["desk", "line"] ["desk", "line"] (defScope st__law_told) := ⟨rfl, rfl, rfl, by decide +kernel, rfl, by decide +kernel, by decide +kernel⟩
abbrev n_law : List Str := ["script", "draws", "many", "numbers", "known", "desk", "states", "line", "k", "state", "put", "number", "due", "one"]
abbrev st_law : Stmt := topS 11
theorem sc_law : FnScope ["script", "draws", "many", "numbers", "known", "desk", "states", "line", "k", "state", "put", "number", "due", "one"] ["script"] (defScope st_law) := ⟨rfl, rfl, rfl, by decide +kernel, rfl, by decide +kernel, by decide +kernel⟩
/-- what the top has written -/
structure Al (K : PySem.W.Frag) (mg : Str → Option Value) (N : Nm) where
  a_LineDesk___init__ : Addr
  d_LineDesk___init__ : FuncData
  F_LineDesk___init__ : Fun K "__init__" "LineDesk.__init__" st_LineDesk___init__ a_LineDesk___init__ d_LineDesk___init__
  B_LineDesk___init__ : Binds K d_LineDesk___init__ ["self", "numbers"] []
  a_LineDesk_busy_lines : Addr
  d_LineDesk_busy_lines : FuncData
  F_LineDesk_busy_lines : Fun K "busy_lines" "LineDesk.busy_lines" st_LineDesk_busy_lines a_LineDesk_busy_lines d_LineDesk_busy_lines
  B_LineDesk_busy_lines : Binds K d_LineDesk_busy_lines ["self"] []
  me_LineDesk_busy_lines : Meth K N.c_LineDesk "busy_lines" a_LineDesk_busy_lines
  a_LineDesk_has_line : Addr
  d_LineDesk_has_line : FuncData
  F_LineDesk_has_line : Fun K "has_line" "LineDesk.has_line" st_LineDesk_has_line a_LineDesk_has_line d_LineDesk_has_line
  B_LineDesk_has_line : Binds K d_LineDesk_has_line ["self", "number"] []
  me_LineDesk_has_line : Meth K N.c_LineDesk "has_line" a_LineDesk_has_line
  a__law_draws : Addr
  d__law_draws : FuncData
  F__law_draws : Fun K "_law_draws" "_law_draws" st__law_draws a__law_draws d__law_draws
  B__law_draws : Binds K d__law_draws ["script", "count"] []
  m__law_draws : mg "_law_draws" = some (.ref a__law_draws)
  a__law_lines : Addr
  d__law_lines : FuncData
  F__law_lines : Fun K "_law_lines" "_law_lines" st__law_lines a__law_lines d__law_lines
  B__law_lines : Binds K d__law_lines ["draw", "many"] []
  m__law_lines : mg "_law_lines" = some (.ref a__law_lines)
  a_LineDesk_line_state : Addr
  d_LineDesk_line_state : FuncData
  F_LineDesk_line_state : Fun K "line_state" "LineDesk.line_state" st_LineDesk_line_state a_LineDesk_line_state d_LineDesk_line_state
  B_LineDesk_line_state : Binds K d_LineDesk_line_state ["self", "number"] []
  me_LineDesk_line_state : Meth K N.c_LineDesk "line_state" a_LineDesk_line_state
  a_LineDesk_put_state : Addr
  d_LineDesk_put_state : FuncData
  F_LineDesk_put_state : Fun K "put_state" "LineDesk.put_state" st_LineDesk_put_state a_LineDesk_put_state d_LineDesk_put_state
  B_LineDesk_put_state : Binds K d_LineDesk_put_state ["self", "number", "state"] []
  me_LineDesk_put_state : Meth K N.c_LineDesk "put_state" a_LineDesk_put_state
  a__law_put : Addr
  d__law_put : FuncData
  F__law_put : Fun K "_law_put" "_law_put" st__law_put a__law_put d__law_put
  B__law_put : Binds K d__law_put ["desk", "line", "state"] []
  m__law_put : mg "_law_put" = some (.ref a__law_put)
  a__law_some_state : Addr
  d__law_some_state : FuncData
  F__law_some_state : Fun K "_law_some_state" "_law_some_state" st__law_some_state a__law_some_state d__law_some_state
  B__law_some_state : Binds K d__law_some_state ["draw"] []
  m__law_some_state : mg "_law_some_state" = some (.ref a__law_some_state)
  a__law_told : Addr
  d__law_told : FuncData
  F__law_told : Fun K "_law_told" "_law_told" st__law_told a__law_told d__law_told
  B__law_told : Binds K d__law_told ["desk", "line"] []
  m__law_told : mg "_law_told" = some (.ref a__law_told)
  a_law : Addr
  d_law : FuncData
  F_law : Fun K "law" "law" st_law a_law d_law
  B_law : Binds K d_law ["script"] []
  m_law : mg "law" = some (.ref a_law)
  m_LineDesk : mg "LineDesk" = some (.ref N.c_LineDesk)
  cl_LineDesk : Cls K N.c_LineDesk
  mk_LineDesk : Mk K N.c_LineDesk a_LineDesk___init__
  na_LineDesk__states : NoAttr K N.c_LineDesk "_states"
  m_LineError : mg "LineError" = some (.ref N.c_LineError)
  x_LineError : PySem.W.excIn K N.c_LineError [.type "ValueError", .type "Exception", .type "BaseException", .type "object"] "ValueError.__new__" = true
  k_LineError : PySem.W.keepIn K (.ref N.c_LineError) = true
  s_LineError : PySem.W.subIn K (.ref N.c_LineError) (.type "BaseException") = some true
  ty_LineError : PySem.W.typeIn K (.ref N.c_LineError) = some (.type "type")
  m_NoSuchLine : mg "NoSuchLine" = some (.ref N.c_NoSuchLine)
  x_NoSuchLine : PySem.W.excIn K N.c_NoSuchLine [.type "ValueError", .type "Exception", .type "BaseException", .type "object"] "ValueError.__new__" = true
  k_NoSuchLine : PySem.W.keepIn K (.ref N.c_NoSuchLine) = true
  s_NoSuchLine : PySem.W.subIn K (.ref N.c_NoSuchLine) (.type "BaseException") = some true
  ty_NoSuchLine : PySem.W.typeIn K (.ref N.c_NoSuchLine) = some (.type "type")
  ex_LineError_LineError : PySem.W.exmOne K (.ref N.c_LineError) (.ref N.c_LineError) = some true
  ex_LineError_NoSuchLine : PySem.W.exmOne K (.ref N.c_LineError) (.ref N.c_NoSuchLine) = some false
  ex_NoSuchLine_LineError : PySem.W.exmOne K (.ref N.c_NoSuchLine) (.ref N.c_LineError) = some true
  ex_NoSuchLine_NoSuchLine : PySem.W.exmOne K (.ref N.c_NoSuchLine) (.ref N.c_NoSuchLine) = some true
  b_int : mg "int" = none
  b_len : mg "len" = none
  b_range : mg "range" = none
  b_sorted : mg "sorted" = none
  b_str : mg "str" = none
  b_tuple : mg "tuple" = none
section
variable {P : Program} {w : World} {K : PySem.W.Frag} {mg : Str → Option Value} {base : Heap} {N : Nm}
theorem ok_LineDesk___init__ (A : Al K mg N) : FnOk P w K mg base (L2.CX P w) 1 A.a_LineDesk___init__ A.d_LineDesk___init__ ["self", "numbers"] (spOf K N 2 a_LineDesk___init__) := by
  refine A.F_LineDesk___init__.okX (k := 0) sc_LineDesk___init__ (fun vs H Q E h => len_of h) (fun cdv A0 outer s H vs Q E hr h => ⟨concS K N (WD E) fx_LineDesk___init__ b_LineDesk___init__, ?_, pure_of (n := 2) (m := 1) rfl (fxs_lt rfl) h⟩)
  exact (pss_one (ps_weak (t' := concS _ N (WD E) fx_LineDesk___init__ (sSetF [.LineDesk] "_states" _ _)) (ps_fldZ (FldOk.cons A.cl_LineDesk A.na_LineDesk__states FldOk.nil) (pe_weak (t' := concP _ N (pVar 0)) (zv 0) (fun _ _ _ h => (conc_pvar h :))) (pe_weak (t' := concE _ N (WD E) fx_LineDesk___init__ (eDc (iaSeq (eFrz 1)) (gaName 2) (bYes) (eFrz 2) (aTup (aCons (aCE (aK (.str (Str.ofString "idle")))) (aNil))) [2])) (pe_dc (own := [("number", 2)]) (wi := concI _ N (WD E) fx_LineDesk___init__ (iaSeq (eFrz 1))) (g := gName 2) (tt := tYes) (tk := concE _ N Y.W0 fx_LineDesk___init__ (eFrz 2)) (tv := concE _ N Y.W0 fx_LineDesk___init__ (aTup (aCons (aCE (aK (.str (Str.ofString "idle")))) (aNil)))) (by rfl) sc_LineDesk___init__.nd (pi_weak (t' := concI _ N (WD E) fx_LineDesk___init__ (iaSeq _)) (pi_seqB (pe_weak (t' := concE _ N (WD E) fx_LineDesk___init__ (eFrz 1)) (zv 1) (fun _ _ _ h => (conc_frz h :)))) (fun _ _ _ h => (conc_seqI h :))) (blkOk_by (by change blkC n_LineDesk___init__ (defScope st_LineDesk___init__) _ _ = true; decide +kernel)) (fun _ _ _ _ _ => (pg_name (i := 2) sc_LineDesk___init__.nd rfl (by first | exact Or.inl rfl | exact Or.inr rfl))) (fun _ _ _ _ _ => pts_nil) (fun _ _ _ _ _ => (pe_weak (t' := concE _ N Y.W0 fx_LineDesk___init__ (eFrz 2)) (zv 2) (fun _ _ _ h => (conc_frz h :)))) (fun _ _ _ _ _ => (pe_weak (t' := concE _ N Y.W0 fx_LineDesk___init__ (aTup _)) (pe_tup (pa_weak (t' := concA _ N Y.W0 fx_LineDesk___init__ (aCons _ _)) (pa_cons (pe_weak (t' := concE _ N Y.W0 fx_LineDesk___init__ (aCE _)) ((pe_weak (t' := concC _ N (aK (.str (Str.ofString "idle")))) (pe_str) (fun _ _ _ h => (conc_k (fun _ => .str _) h :)))) (fun _ _ _ h => (conc_ce h :))) (pa_weak (t' := concA _ N Y.W0 fx_LineDesk___init__ aNil) pa_nil (fun _ _ _ h => (conc_nil h :)))) (fun _ _ _ h => (conc_cons h :)))) (fun _ _ _ h => (conc_tup h :))))) (fun _ _ _ h => ((fun h => conc_dcY (g_name (i := 2) rfl) (by decide) (by decide) h) h :)))) (fun _ _ _ h => (conc_setF h :))))
theorem ok_LineDesk_busy_lines (A : Al K mg N) : FnOk P w K mg base (L2.CX P w) 1 A.a_LineDesk_busy_lines A.d_LineDesk_busy_lines ["self"] (spOf K N 1 a_LineDesk_busy_lines) := by
  refine A.F_LineDesk_busy_lines.okX (k := 0) sc_LineDesk_busy_lines (fun vs H Q E h => len_of h) (fun cdv A0 outer s H vs Q E hr h => ⟨concS K N (WD E) fx_LineDesk_busy_lines b_LineDesk_busy_lines, ?_, pure_of (n := 1) (m := 1) rfl (fxs_lt rfl) h⟩)
  exact (pss_one (ps_weak (t' := concS _ N (WD E) fx_LineDesk_busy_lines (sRet _)) (ps_ret (pe_weak (t' := concE _ N (WD E) fx_LineDesk_busy_lines (aE1 oTuple _)) (pe_callTy cr_tuple (by rfl) A.b_tuple zb_tuple (pa_cons (pe_weak (t' := concE _ N (WD E) fx_LineDesk_busy_lines (aE1 oSorted _)) (pe_callB cr_sortedIS (by rfl) A.b_sorted zb_sorted (pa_cons (pe_weak (t' := concE _ N (WD E) fx_LineDesk_busy_lines (eLcK 0 [.LineDesk] "_states" (gaName 1) (bE (bTest (aC2 oNe (aC2 oIx (aFld [.LineDesk] "_states" (aVar 0)) (aVar 1)) (acTup (acCons (aK (.str (Str.ofString "idle"))) (acNil)))))) (eFrz 1) [1])) (pe_lock (pe_lc (own := [("number", 1)]) (wi := iKeys (concP _ N (pFld [.LineDesk] "_states" (pVar 0)))) (g := gName 1) (tt := concBE _ N Y.W0 fx_LineDesk_busy_lines (bE (bTest (aC2 oNe (aC2 oIx (aFld [.LineDesk] "_states" (aVar 0)) (aVar 1)) (acTup (acCons (aK (.str (Str.ofString "idle"))) (acNil))))))) (te := concE _ N Y.W0 fx_LineDesk_busy_lines (eFrz 1)) (by rfl) sc_LineDesk_busy_lines.nd (pi_keys (pe_weak (t' := concP _ N (pFld [.LineDesk] "_states" _)) (pe_fldZ (FldOk.cons A.cl_LineDesk A.na_LineDesk__states FldOk.nil) (pe_weak (t' := concP _ N (pVar 0)) (zv 0) (fun _ _ _ h => (conc_pvar h :)))) (fun _ _ _ h => (conc_pfld h :)))) (blkOk_by (by change blkC n_LineDesk_busy_lines (defScope st_LineDesk_busy_lines) _ _ = true; decide +kernel)) (fun _ _ _ _ _ => (pg_name (i := 1) sc_LineDesk_busy_lines.nd rfl (by first | exact Or.inl rfl | exact Or.inr rfl))) (fun _ _ _ _ _ => pts_one (pt_weak (t' := concBE _ N Y.W0 fx_LineDesk_busy_lines (bE _)) ((pt_weak (t' := concB _ N (bTest _)) ((pt_weak (t' := tTest (concC _ N (aC2 oNe _ _))) (pt_cmpR (op_zNe hr.units) (pe_weak (t' := concC _ N (aC2 oIx _ _)) (pe_ix (ix_z (hu_of hr)) (pe_weak (t' := concC _ N (aFld [.LineDesk] "_states" _)) (pe_fldZ (FldOk.cons A.cl_LineDesk A.na_LineDesk__states FldOk.nil) (pe_weak (t' := concC _ N (aVar 0)) (zv 0) (fun _ _ _ h => (conc_var h :)))) (fun _ _ _ h => (conc_fld h :))) (pe_weak (t' := concC _ N (aVar 1)) (zv 1) (fun _ _ _ h => (conc_var h :))) (fun _ _ => rfl)) (fun _ _ _ h => (conc_c2 s_ix h :))) (pe_weak (t' := concC _ N (acTup _)) (pe_tup (pa_weak (t' := concAC _ N (acCons _ _)) (pa_cons (pe_weak (t' := concC _ N (aK (.str (Str.ofString "idle")))) (pe_str) (fun _ _ _ h => (conc_k (fun _ => .str _) h :))) (pa_weak (t' := concAC _ N acNil) pa_nil (fun _ _ _ h => (conc_nilC h :)))) (fun _ _ _ h => (conc_consC h :)))) (fun _ _ _ h => (conc_tupC h :))) (nomark _)) (fun _ _ _ h => test_mono (fun _ _ _ h => (conc_c2 s_ne.v h :)) h))) (fun _ _ _ h => (conc_test h :)))) (fun _ _ _ h => (conc_bE h :)))) (fun _ _ _ _ _ => (pe_weak (t' := concE _ N Y.W0 fx_LineDesk_busy_lines (eFrz 1)) (zv 1) (fun _ _ _ h => (conc_frz h :)))))) (fun _ _ _ h => ((fun h => conc_lcK (g_name (i := 1) rfl) (by decide) (by decide) h) h :))) pa_nil)) (fun _ _ _ h => (conc_e1 s_sorted h :))) pa_nil)) (fun _ _ _ h => (conc_e1 s_tuple h :)))) (fun _ _ _ h => (conc_ret h :))))
theorem ok_LineDesk_has_line (A : Al K mg N) : FnOk P w K mg base (L2.CX P w) 1 A.a_LineDesk_has_line A.d_LineDesk_has_line ["self", "number"] (spOf K N 2 a_LineDesk_has_line) := by
  refine A.F_LineDesk_has_line.okX (k := 0) sc_LineDesk_has_line (fun vs H Q E h => len_of h) (fun cdv A0 outer s H vs Q E hr h => ⟨concS K N (WD E) fx_LineDesk_has_line b_LineDesk_has_line, ?_, pure_of (n := 2) (m := 0) rfl (fxs_lt rfl) h⟩)
  exact (pss_one (ps_weak (t' := concS _ N (WD E) fx_LineDesk_has_line (sRet _)) (ps_ret (pe_weak (t' := concE _ N (WD E) fx_LineDesk_has_line (aCE _)) ((pe_weak (t' := concC _ N (aC2 oIn _ _)) (pe_cmpR (op_zIn (hu66 hr)) (pe_weak (t' := concC _ N (aVar 1)) (zv 1) (fun _ _ _ h => (conc_var h :))) (pe_weak (t' := concC _ N (aFld [.LineDesk] "_states" _)) (pe_fldZ (FldOk.cons A.cl_LineDesk A.na_LineDesk__states FldOk.nil) (pe_weak (t' := concC _ N (aVar 0)) (zv 0) (fun _ _ _ h => (conc_var h :)))) (fun _ _ _ h => (conc_fld h :))) (by rfl)) (fun _ _ _ h => (conc_c2 s_in.v h :)))) (fun _ _ _ h => (conc_ce h :)))) (fun _ _ _ h => (conc_ret h :))))
theorem ok__law_draws (A : Al K mg N) : FnOk P w K mg base (L2.CX P w) 1 A.a__law_draws A.d__law_draws ["script", "count"] (spOf K N 2 a__law_draws) := by
  refine A.F__law_draws.okX (k := 0) sc__law_draws (fun vs H Q E h => len_of h) (fun cdv A0 outer s H vs Q E hr h => ⟨concS K N (WD E) fx__law_draws b__law_draws, ?_, pure_of (n := 2) (m := 3) rfl (fxs_lt rfl) h⟩)
  exact (pss_weak (t' := concS _ N (WD E) fx__law_draws (sSeq _ _)) (pss_cons (ps_weak (t' := concS _ N (WD E) fx__law_draws (sAsg 2 _)) (ps_set (i := 2) sc__law_draws.nd rfl (by first | exact Or.inl rfl | exact Or.inr rfl) (pe_weak (t' := concE _ N (WD E) fx__law_draws (aLst _)) (pe_lst (pa_weak (t' := concA _ N (WD E) fx__law_draws aNil) pa_nil (fun _ _ _ h => (conc_nil h :)))) (fun _ _ _ h => (conc_lst h :)))) (fun _ _ _ h => (conc_asg rfl h :)))
    (pss_weak (t' := concS _ N (WD E) fx__law_draws (sSeq _ _)) (pss_cons (ps_weak (t' := concS _ N (WD E) fx__law_draws (sFor _ (gaName 3) _)) (ps_for (passes_of rfl) rfl (pi_weak (t' := concI _ N (WD E) fx__law_draws (iaRng1 _)) (pi_range1 rfl A.b_range (pa_cons (pe_weak (t' := concE _ N (WD E) fx__law_draws (eFrz 1)) (zv 1) (fun _ _ _ h => (conc_frz h :))) pa_nil)) (fun _ _ _ h => (conc_rng1 h :))) (pg_name (i := 3) sc__law_draws.nd rfl (by first | exact Or.inl rfl | exact Or.inr rfl))
      (pss_weak (t' := concS _ N (WD E) fx__law_draws (sSeq _ _)) (pss_cons (ps_weak (t' := concS _ N (WD E) fx__law_draws (sAsg 4 _)) (ps_set (i := 4) sc__law_draws.nd rfl (by first | exact Or.inl rfl | exact Or.inr rfl) (pe_weak (t' := concE _ N (WD E) fx__law_draws (aCE _)) ((pe_weak (t' := concC _ N (aK (.int 0))) (pe_int) (fun _ _ _ h => (conc_k (fun _ => .int _) h :)))) (fun _ _ _ h => (conc_ce h :)))) (fun _ _ _ h => (conc_asg rfl h :)))
    (pss_weak (t' := concS _ N (WD E) fx__law_draws (sSeq _ _)) (pss_cons (ps_weak (t' := concS _ N (WD E) fx__law_draws (sIf _ _ _)) (ps_if (pt_weak (t' := concBE _ N (WD E) fx__law_draws (bE _)) ((pt_weak (t' := concB _ N (bTest _)) ((pt_weak (t' := tTest (concC _ N (aC2 oGt _ _))) (pt_cmpR op_zGt (pe_weak (t' := concC _ N (aC1 oLen _)) (pe_callB cr_len (by rfl) A.b_len zb_len (pa_cons (pe_weak (t' := concC _ N (aVar 0)) (zv 0) (fun _ _ _ h => (conc_var h :))) pa_nil)) (fun _ _ _ h => (conc_c1 s_len.v h :))) (pe_weak (t' := concC _ N (aK (.int 0))) (pe_int) (fun _ _ _ h => (conc_k (fun _ => .int _) h :))) (nomark _)) (fun _ _ _ h => test_mono (fun _ _ _ h => (conc_c2 s_gt.v h :)) h))) (fun _ _ _ h => (conc_test h :)))) (fun _ _ _ h => (conc_bE h :))) (pss_one (ps_weak (t' := concS _ N (WD E) fx__law_draws (sAsg 4 _)) (ps_set (i := 4) sc__law_draws.nd rfl (by first | exact Or.inl rfl | exact Or.inr rfl) (pe_weak (t' := concE _ N (WD E) fx__law_draws (aCE _)) ((pe_weak (t' := concC _ N (aC1 oInt _)) (pe_callTy cr_int (by rfl) A.b_int zb_int (pa_cons (pe_weak (t' := concC _ N (aC2 oIx _ _)) (pe_ix (ix_z (hu_of hr)) (pe_weak (t' := concC _ N (aVar 0)) (zv 0) (fun _ _ _ h => (conc_var h :))) (pe_weak (t' := concC _ N (aC2 oMod _ _)) (pe_op op_zMod (pe_weak (t' := concC _ N (aVar 3)) (zv 3) (fun _ _ _ h => (conc_var h :))) (pe_weak (t' := concC _ N (aC1 oLen _)) (pe_callB cr_len (by rfl) A.b_len zb_len (pa_cons (pe_weak (t' := concC _ N (aVar 0)) (zv 0) (fun _ _ _ h => (conc_var h :))) pa_nil)) (fun _ _ _ h => (conc_c1 s_len.v h :)))) (fun _ _ _ h => (conc_c2 s_mod.v h :))) (fun _ _ => rfl)) (fun _ _ _ h => (conc_c2 s_ix h :))) pa_nil)) (fun _ _ _ h => (conc_c1 s_int.v h :)))) (fun _ _ _ h => (conc_ce h :)))) (fun _ _ _ h => (conc_asg rfl h :)))) (pss_weak (t' := concS _ N (WD E) fx__law_draws sNext) pss_nil (fun _ _ _ h => (conc_next h :)))) (fun _ _ _ h => (conc_sif h :)))
    (pss_weak (t' := concS _ N (WD E) fx__law_draws (sSeq _ _)) (pss_cons (ps_weak (t' := concS _ N (WD E) fx__law_draws (sIf _ _ _)) (ps_if (pt_weak (t' := concBE _ N (WD E) fx__law_draws (bE _)) ((pt_weak (t' := concB _ N (bTest _)) ((pt_weak (t' := tTest (concC _ N (aC2 oLt _ _))) (pt_cmpR (op_zLt hr.units) (pe_weak (t' := concC _ N (aVar 4)) (zv 4) (fun _ _ _ h => (conc_var h :))) (pe_weak (t' := concC _ N (aK (.int 0))) (pe_int) (fun _ _ _ h => (conc_k (fun _ => .int _) h :))) (nomark _)) (fun _ _ _ h => test_mono (fun _ _ _ h => (conc_c2 s_lt.v h :)) h))) (fun _ _ _ h => (conc_test h :)))) (fun _ _ _ h => (conc_bE h :))) (pss_one (ps_weak (t' := concS _ N (WD E) fx__law_draws (sAsg 4 _)) (ps_set (i := 4) sc__law_draws.nd rfl (by first | exact Or.inl rfl | exact Or.inr rfl) (pe_weak (t' := concE _ N (WD E) fx__law_draws (aCE _)) ((pe_weak (t' := concC _ N (aC2 oSub _ _)) (pe_op op_zSub (pe_weak (t' := concC _ N (aK (.int 1))) (pe_int) (fun _ _ _ h => (conc_k (fun _ => .int _) h :))) (pe_weak (t' := concC _ N (aC2 oMul _ _)) (pe_op op_zMul (pe_weak (t' := concC _ N (aK (.int 2))) (pe_int) (fun _ _ _ h => (conc_k (fun _ => .int _) h :))) (pe_weak (t' := concC _ N (aVar 4)) (zv 4) (fun _ _ _ h => (conc_var h :)))) (fun _ _ _ h => (conc_c2 s_mul.v h :)))) (fun _ _ _ h => (conc_c2 s_sub.v h :)))) (fun _ _ _ h => (conc_ce h :)))) (fun _ _ _ h => (conc_asg rfl h :)))) (pss_weak (t' := concS _ N (WD E) fx__law_draws sNext) pss_nil (fun _ _ _ h => (conc_next h :)))) (fun _ _ _ h => (conc_sif h :)))
    (pss_weak (t' := concS _ N (WD E) fx__law_draws (sSeq _ _)) (pss_cons (ps_weak (t' := concS _ N (WD E) fx__law_draws (sIf _ _ _)) (ps_if (pt_weak (t' := concBE _ N (WD E) fx__law_draws (bE _)) ((PW.pt (pw_weak (t' := concB _ N (bOr _ _)) (pw_or (pt_weak (t' := concB _ N (bTest _)) ((pt_weak (t' := tTest (concC _ N (aC2 oLt _ _))) (pt_cmpR (op_zLt hr.units) (pe_weak (t' := concC _ N (aVar 4)) (zv 4) (fun _ _ _ h => (conc_var h :))) (pe_weak (t' := concC _ N (aK (.int 1000000000))) (pe_int) (fun _ _ _ h => (conc_k (fun _ => .int _) h :))) (nomark _)) (fun _ _ _ h => test_mono (fun _ _ _ h => (conc_c2 s_lt.v h :)) h))) (fun _ _ _ h => (conc_test h :))) (pw_or1 (pt_weak (t' := concB _ N (bTest _)) ((pt_weak (t' := tTest (concC _ N (aC2 oGe _ _))) (pt_cmpR op_zGe (pe_weak (t' := concC _ N (aVar 3)) (zv 3) (fun _ _ _ h => (conc_var h :))) (pe_weak (t' := concC _ N (aC1 oLen _)) (pe_callB cr_len (by rfl) A.b_len zb_len (pa_cons (pe_weak (t' := concC _ N (aVar 0)) (zv 0) (fun _ _ _ h => (conc_var h :))) pa_nil)) (fun _ _ _ h => (conc_c1 s_len.v h :))) (nomark _)) (fun _ _ _ h => test_mono (fun _ _ _ h => (conc_c2 s_ge.v h :)) h))) (fun _ _ _ h => (conc_test h :))))) (fun _ _ _ h => (conc_or h :))))) (fun _ _ _ h => (conc_bE h :))) (pss_weak (t' := concS _ N (WD E) fx__law_draws (sSeq _ _)) (pss_cons (ps_weak (t' := concS _ N (WD E) fx__law_draws (sAsg 4 _)) (ps_set (i := 4) sc__law_draws.nd rfl (by first | exact Or.inl rfl | exact Or.inr rfl) (pe_weak (t' := concE _ N (WD E) fx__law_draws (aCE _)) ((pe_weak (t' := concC _ N (aC2 oMod _ _)) (pe_op op_zMod (pe_weak (t' := concC _ N (aC1 oInt _)) (pe_callTy cr_int (by rfl) A.b_int zb_int (pa_cons (pe_weak (t' := concC _ N (aC2 oAdd _ _)) (pe_op op_zAdd (pe_weak (t' := concC _ N (aC2 oMul _ _)) (pe_op op_zMul (pe_weak (t' := concC _ N (aVar 4)) (zv 4) (fun _ _ _ h => (conc_var h :))) (pe_weak (t' := concC _ N (aK (.int 6364136223846793005))) (pe_int) (fun _ _ _ h => (conc_k (fun _ => .int _) h :)))) (fun _ _ _ h => (conc_c2 s_mul.v h :))) (pe_weak (t' := concC _ N (aC2 oMul _ _)) (pe_op op_zMul (pe_weak (t' := concC _ N (aK (.int 1442695040888963407))) (pe_int) (fun _ _ _ h => (conc_k (fun _ => .int _) h :))) (pe_weak (t' := concC _ N (aC2 oAdd _ _)) (pe_op op_zAdd (pe_weak (t' := concC _ N (aVar 3)) (zv 3) (fun _ _ _ h => (conc_var h :))) (pe_weak (t' := concC _ N (aK (.int 1))) (pe_int) (fun _ _ _ h => (conc_k (fun _ => .int _) h :)))) (fun _ _ _ h => (conc_c2 s_add.v h :)))) (fun _ _ _ h => (conc_c2 s_mul.v h :)))) (fun _ _ _ h => (conc_c2 s_add.v h :))) pa_nil)) (fun _ _ _ h => (conc_c1 s_int.v h :))) (pe_weak (t' := concC _ N (aK (.int 9223372036854775783))) (pe_int) (fun _ _ _ h => (conc_k (fun _ => .int _) h :)))) (fun _ _ _ h => (conc_c2 s_mod.v h :)))) (fun _ _ _ h => (conc_ce h :)))) (fun _ _ _ h => (conc_asg rfl h :)))
    (pss_one (ps_weak (t' := concS _ N (WD E) fx__law_draws (sAsg 4 _)) (ps_set (i := 4) sc__law_draws.nd rfl (by first | exact Or.inl rfl | exact Or.inr rfl) (pe_weak (t' := concE _ N (WD E) fx__law_draws (aCE _)) ((pe_weak (t' := concC _ N (aC2 oMod _ _)) (pe_op op_zMod (pe_weak (t' := concC _ N (aC1 oInt _)) (pe_callTy cr_int (by rfl) A.b_int zb_int (pa_cons (pe_weak (t' := concC _ N (aC2 oAdd _ _)) (pe_op op_zAdd (pe_weak (t' := concC _ N (aC2 oAdd _ _)) (pe_op op_zAdd (pe_weak (t' := concC _ N (aC2 oMul _ _)) (pe_op op_zMul (pe_weak (t' := concC _ N (aVar 4)) (zv 4) (fun _ _ _ h => (conc_var h :))) (pe_weak (t' := concC _ N (aK (.int 2862933555777941757))) (pe_int) (fun _ _ _ h => (conc_k (fun _ => .int _) h :)))) (fun _ _ _ h => (conc_c2 s_mul.v h :))) (pe_weak (t' := concC _ N (aK (.int 3037000493))) (pe_int) (fun _ _ _ h => (conc_k (fun _ => .int _) h :)))) (fun _ _ _ h => (conc_c2 s_add.v h :))) (pe_weak (t' := concC _ N (aVar 3)) (zv 3) (fun _ _ _ h => (conc_var h :)))) (fun _ _ _ h => (conc_c2 s_add.v h :))) pa_nil)) (fun _ _ _ h => (conc_c1 s_int.v h :))) (pe_weak (t' := concC _ N (aK (.int 18446744073709551557))) (pe_int) (fun _ _ _ h => (conc_k (fun _ => .int _) h :)))) (fun _ _ _ h => (conc_c2 s_mod.v h :)))) (fun _ _ _ h => (conc_ce h :)))) (fun _ _ _ h => (conc_asg rfl h :))))) (fun _ _ _ h => (conc_seq h :))) (pss_weak (t' := concS _ N (WD E) fx__law_draws sNext) pss_nil (fun _ _ _ h => (conc_next h :)))) (fun _ _ _ h => (conc_sif h :)))
    (pss_one (ps_weak (t' := concS _ N (WD E) fx__law_draws (sAppV 2 _)) (ps_expr (pe_bm PySem.F.plainAttrs_list PySem.F.slot_list_append PySem.F.type_list_append mt_append (zv 2) (pa_cons (pe_weak (t' := concE _ N (WD E) fx__law_draws (eFrz 4)) (zv 4) (fun _ _ _ h => (conc_frz h :))) pa_nil))) (fun _ _ _ h => (conc_appV h :))))) (fun _ _ _ h => (conc_seq h :)))) (fun _ _ _ h => (conc_seq h :)))) (fun _ _ _ h => (conc_seq h :)))) (fun _ _ _ h => (conc_seq h :)))) (fun _ _ _ h => (conc_for (g_name (i := 3) rfl) h :)))
    (pss_one (ps_weak (t' := concS _ N (WD E) fx__law_draws (sRet _)) (ps_ret (pe_weak (t' := concE _ N (WD E) fx__law_draws (eMove 2)) (zv 2) (fun _ _ _ h => (conc_move h :)))) (fun _ _ _ h => (conc_ret h :))))) (fun _ _ _ h => (conc_seq h :)))) (fun _ _ _ h => (conc_seq h :)))
theorem ok__law_lines (A : Al K mg N) : FnOk P w K mg base (L2.CX P w) 1 A.a__law_lines A.d__law_lines ["draw", "many"] (spOf K N 2 a__law_lines) := by
  refine A.F__law_lines.okX (k := 0) sc__law_lines (fun vs H Q E h => len_of h) (fun cdv A0 outer s H vs Q E hr h => ⟨concS K N (WD E) fx__law_lines b__law_lines, ?_, pure_of (n := 2) (m := 4) rfl (fxs_lt rfl) h⟩)
  exact (pss_weak (t' := concS _ N (WD E) fx__law_lines (sSeq _ _)) (pss_cons (ps_weak (t' := concS _ N (WD E) fx__law_lines (sAsg 2 _)) (ps_set (i := 2) sc__law_lines.nd rfl (by first | exact Or.inl rfl | exact Or.inr rfl) (pe_weak (t' := concE _ N (WD E) fx__law_lines (aCE _)) ((pe_weak (t' := concC _ N (aC1 oStr _)) (pe_callTy cr_str (by rfl) A.b_str zb_str (pa_cons (pe_weak (t' := concC _ N (aC2 oAdd _ _)) (pe_op op_zAdd (pe_weak (t' := concC _ N (aK (.int 1000))) (pe_int) (fun _ _ _ h => (conc_k (fun _ => .int _) h :))) (pe_weak (t' := concC _ N (aC2 oMod _ _)) (pe_op op_zMod (pe_weak (t' := concC _ N (aC1 oInt _)) (pe_callTy cr_int (by rfl) A.b_int zb_int (pa_cons (pe_weak (t' := concC _ N (aVar 0)) (zv 0) (fun _ _ _ h => (conc_var h :))) pa_nil)) (fun _ _ _ h => (conc_c1 s_int.v h :))) (pe_weak (t' := concC _ N (aK (.int 9000))) (pe_int) (fun _ _ _ h => (conc_k (fun _ => .int _) h :)))) (fun _ _ _ h => (conc_c2 s_mod.v h :)))) (fun _ _ _ h => (conc_c2 s_add.v h :))) pa_nil)) (fun _ _ _ h => (conc_c1 s_str.v h :)))) (fun _ _ _ h => (conc_ce h :)))) (fun _ _ _ h => (conc_asg rfl h :)))
    (pss_weak (t' := concS _ N (WD E) fx__law_lines (sSeq _ _)) (pss_cons (ps_weak (t' := concS _ N (WD E) fx__law_lines (sAsg 3 _)) (ps_set (i := 3) sc__law_lines.nd rfl (by first | exact Or.inl rfl | exact Or.inr rfl) (pe_weak (t' := concE _ N (WD E) fx__law_lines (aCE _)) ((pe_weak (t' := concC _ N (aC2 oMod _ _)) (pe_op op_zMod (pe_weak (t' := concC _ N (aC1 oInt _)) (pe_callTy cr_int (by rfl) A.b_int zb_int (pa_cons (pe_weak (t' := concC _ N (aC2 oDiv _ _)) (pe_op op_zDiv (pe_weak (t' := concC _ N (aVar 0)) (zv 0) (fun _ _ _ h => (conc_var h :))) (pe_weak (t' := concC _ N (aK (.int 9000))) (pe_int) (fun _ _ _ h => (conc_k (fun _ => .int _) h :)))) (fun _ _ _ h => (conc_c2 s_div.v h :))) pa_nil)) (fun _ _ _ h => (conc_c1 s_int.v h :))) (pe_weak (t' := concC _ N (aK (.int 5))) (pe_int) (fun _ _ _ h => (conc_k (fun _ => .int _) h :)))) (fun _ _ _ h => (conc_c2 s_mod.v h :)))) (fun _ _ _ h => (conc_ce h :)))) (fun _ _ _ h => (conc_asg rfl h :)))
    (pss_weak (t' := concS _ N (WD E) fx__law_lines (sSeq _ _)) (pss_cons (ps_weak (t' := concS _ N (WD E) fx__law_lines (sAsg 4 _)) (ps_set (i := 4) sc__law_lines.nd rfl (by first | exact Or.inl rfl | exact Or.inr rfl) (pe_weak (t' := concE _ N (WD E) fx__law_lines (aCE _)) ((pe_weak (t' := concC _ N (aK (.int 0))) (pe_int) (fun _ _ _ h => (conc_k (fun _ => .int _) h :)))) (fun _ _ _ h => (conc_ce h :)))) (fun _ _ _ h => (conc_asg rfl h :)))
    (pss_weak (t' := concS _ N (WD E) fx__law_lines (sSeq _ _)) (pss_cons (ps_weak (t' := concS _ N (WD E) fx__law_lines (sIf _ _ _)) (ps_if (pt_weak (t' := concBE _ N (WD E) fx__law_lines (bE _)) ((pt_weak (t' := concB _ N (bTest _)) ((pt_weak (t' := tTest (concC _ N (aC2 oGt _ _))) (pt_cmpR op_zGt (pe_weak (t' := concC _ N (aVar 1)) (zv 1) (fun _ _ _ h => (conc_var h :))) (pe_weak (t' := concC _ N (aK (.int 9))) (pe_int) (fun _ _ _ h => (conc_k (fun _ => .int _) h :))) (nomark _)) (fun _ _ _ h => test_mono (fun _ _ _ h => (conc_c2 s_gt.v h :)) h))) (fun _ _ _ h => (conc_test h :)))) (fun _ _ _ h => (conc_bE h :))) (pss_one (ps_weak (t' := concS _ N (WD E) fx__law_lines (sAsg 4 _)) (ps_set (i := 4) sc__law_lines.nd rfl (by first | exact Or.inl rfl | exact Or.inr rfl) (pe_weak (t' := concE _ N (WD E) fx__law_lines (aCE _)) ((pe_weak (t' := concC _ N (aK (.int 10))) (pe_int) (fun _ _ _ h => (conc_k (fun _ => .int _) h :)))) (fun _ _ _ h => (conc_ce h :)))) (fun _ _ _ h => (conc_asg rfl h :)))) (pss_weak (t' := concS _ N (WD E) fx__law_lines sNext) pss_nil (fun _ _ _ h => (conc_next h :)))) (fun _ _ _ h => (conc_sif h :)))
    (pss_one (ps_weak (t' := concS _ N (WD E) fx__law_lines (sRet _)) (ps_ret (pe_weak (t' := concE _ N (WD E) fx__law_lines (eLc (iaRng1 (eFrz 1)) (gaName 5) (bYes) (aN2 oAdd (aC2 oAdd (aSl (aVar 2) (oNo) (oPart (aVar 3))) (aC1 oStr (aC2 oAdd (aVar 4) (aVar 5)))) (aSl (aVar 2) (oPart (aVar 3)) (oNo))) [5])) (pe_lc (own := [("k", 5)]) (wi := concI _ N (WD E) fx__law_lines (iaRng1 (eFrz 1))) (g := gName 5) (tt := tYes) (te := concE _ N Y.W0 fx__law_lines (aN2 oAdd (aC2 oAdd (aSl (aVar 2) (oNo) (oPart (aVar 3))) (aC1 oStr (aC2 oAdd (aVar 4) (aVar 5)))) (aSl (aVar 2) (oPart (aVar 3)) (oNo)))) (by rfl) sc__law_lines.nd (pi_weak (t' := concI _ N (WD E) fx__law_lines (iaRng1 _)) (pi_range1 rfl A.b_range (pa_cons (pe_weak (t' := concE _ N (WD E) fx__law_lines (eFrz 1)) (zv 1) (fun _ _ _ h => (conc_frz h :))) pa_nil)) (fun _ _ _ h => (conc_rng1 h :))) (blkOk_by (by change blkC n__law_lines (defScope st__law_lines) _ _ = true; decide +kernel)) (fun _ _ _ _ _ => (pg_name (i := 5) sc__law_lines.nd rfl (by first | exact Or.inl rfl | exact Or.inr rfl))) (fun _ _ _ _ _ => pts_nil) (fun _ _ _ _ _ => (pe_weak (t' := concE _ N Y.W0 fx__law_lines (aN2 oAdd _ _)) (pe_op op_zAdd (pe_weak (t' := concC _ N (aC2 oAdd _ _)) (pe_op op_zAdd (pe_weak (t' := concC _ N (aSl _ _ _)) (pe_slice sl_z (pe_weak (t' := concC _ N (aVar 2)) (zv 2) (fun _ _ _ h => (conc_var h :))) (po_weak (t' := concO _ N oNo) po_none (fun _ _ _ h => (conc_noO h :))) (po_weak (t' := concO _ N (oPart _)) (po_some (pe_weak (t' := concC _ N (aVar 3)) (zv 3) (fun _ _ _ h => (conc_var h :)))) (fun _ _ _ h => (conc_part h :)))) (fun _ _ _ h => (conc_sl h :))) (pe_weak (t' := concC _ N (aC1 oStr _)) (pe_callTy cr_str (by rfl) A.b_str zb_str (pa_cons (pe_weak (t' := concC _ N (aC2 oAdd _ _)) (pe_op op_zAdd (pe_weak (t' := concC _ N (aVar 4)) (zv 4) (fun _ _ _ h => (conc_var h :))) (pe_weak (t' := concC _ N (aVar 5)) (zv 5) (fun _ _ _ h => (conc_var h :)))) (fun _ _ _ h => (conc_c2 s_add.v h :))) pa_nil)) (fun _ _ _ h => (conc_c1 s_str.v h :)))) (fun _ _ _ h => (conc_c2 s_add.v h :))) (pe_weak (t' := concC _ N (aSl _ _ _)) (pe_slice sl_z (pe_weak (t' := concC _ N (aVar 2)) (zv 2) (fun _ _ _ h => (conc_var h :))) (po_weak (t' := concO _ N (oPart _)) (po_some (pe_weak (t' := concC _ N (aVar 3)) (zv 3) (fun _ _ _ h => (conc_var h :)))) (fun _ _ _ h => (conc_part h :))) (po_weak (t' := concO _ N oNo) po_none (fun _ _ _ h => (conc_noO h :)))) (fun _ _ _ h => (conc_sl h :)))) (fun _ _ _ h => (conc_n2 s_add h :))))) (fun _ _ _ h => ((fun h => conc_lcY (g_name (i := 5) rfl) (by decide) (by decide) h) h :)))) (fun _ _ _ h => (conc_ret h :))))) (fun _ _ _ h => (conc_seq h :)))) (fun _ _ _ h => (conc_seq h :)))) (fun _ _ _ h => (conc_seq h :)))) (fun _ _ _ h => (conc_seq h :)))
theorem ok_LineDesk_line_state (A : Al K mg N) : FnOk P w K mg base (L2.CX P w) 1 A.a_LineDesk_line_state A.d_LineDesk_line_state ["self", "number"] (spOf K N 2 a_LineDesk_line_state) := by
  refine A.F_LineDesk_line_state.okX (k := 0) sc_LineDesk_line_state (fun vs H Q E h => len_of h) (fun cdv A0 outer s H vs Q E hr h => ⟨concS K N (WD E) fx_LineDesk_line_state b_LineDesk_line_state, ?_, pure_of (n := 2) (m := 0) rfl (fxs_lt rfl) h⟩)
  exact (pss_weak (t' := concS _ N (WD E) fx_LineDesk_line_state (sSeq _ _)) (pss_cons (ps_weak (t' := concS _ N (WD E) fx_LineDesk_line_state (sIf _ _ _)) (ps_if (pt_weak (t' := concBE _ N (WD E) fx_LineDesk_line_state (bE _)) ((pt_weak (t' := concB _ N (bTest _)) ((pt_weak (t' := tTest (concC _ N (aC2 oNotIn _ _))) (pt_cmpR (op_zNotIn (hu66 hr)) (pe_weak (t' := concC _ N (aVar 1)) (zv 1) (fun _ _ _ h => (conc_var h :))) (pe_weak (t' := concC _ N (aFld [.LineDesk] "_states" _)) (pe_fldZ (FldOk.cons A.cl_LineDesk A.na_LineDesk__states FldOk.nil) (pe_weak (t' := concC _ N (aVar 0)) (zv 0) (fun _ _ _ h => (conc_var h :)))) (fun _ _ _ h => (conc_fld h :))) (by rfl)) (fun _ _ _ h => test_mono (fun _ _ _ h => (conc_c2 s_notin.v h :)) h))) (fun _ _ _ h => (conc_test h :)))) (fun _ _ _ h => (conc_bE h :))) (pss_one (ps_weak (t' := concS _ N (WD E) fx_LineDesk_line_state (sRaise .NoSuchLine _)) (ps_raise (by rfl) (takes_of rfl rfl rfl rfl) (pmk_ownA PySem.F.excBase_ValueError A.x_NoSuchLine A.m_NoSuchLine A.k_NoSuchLine (raises_own A.s_NoSuchLine A.ty_NoSuchLine) (by rfl) (pa_weak (t' := concA _ N (WD E) fx_LineDesk_line_state (aCons _ _)) (pa_cons (pe_weak (t' := concE _ N (WD E) fx_LineDesk_line_state (aCE _)) ((pe_weak (t' := concC _ N (aJoin [aK (.str (Str.ofString "line ")), aC1 oFmt (aVar 1)])) (pe_joined (pj_cons (pe_weak (t' := concC _ N (aK (.str (Str.ofString "line ")))) pe_str (fun _ _ _ h => (conc_k (fun _ => .str _) h :))) (pj_cons (pe_weak (t' := concC _ N (aC1 oFmt _)) (pe_fmt (pe_weak (t' := concC _ N (aVar 1)) (zv 1) (fun _ _ _ h => (conc_var h :)))) (fun _ _ _ h => (conc_c1 s_fmt.v h :))) pj_nil))) (fun _ _ _ h => (conc_join (as := [aK (.str (Str.ofString "line ")), aC1 oFmt (aVar 1)]) h :)))) (fun _ _ _ h => (conc_ce h :))) (pa_weak (t' := concA _ N (WD E) fx_LineDesk_line_state aNil) pa_nil (fun _ _ _ h => (conc_nil h :)))) (fun _ _ _ h => (conc_cons h :))))) (fun _ _ _ h => (conc_raise h :)))) (pss_weak (t' := concS _ N (WD E) fx_LineDesk_line_state sNext) pss_nil (fun _ _ _ h => (conc_next h :)))) (fun _ _ _ h => (conc_sif h :)))
    (pss_one (ps_weak (t' := concS _ N (WD E) fx_LineDesk_line_state (sRet _)) (ps_ret (pe_weak (t' := concE _ N (WD E) fx_LineDesk_line_state (aCE _)) ((pe_weak (t' := concC _ N (aC2 oIx _ _)) (pe_ix (ix_z (hu_of hr)) (pe_weak (t' := concC _ N (aFld [.LineDesk] "_states" _)) (pe_fldZ (FldOk.cons A.cl_LineDesk A.na_LineDesk__states FldOk.nil) (pe_weak (t' := concC _ N (aVar 0)) (zv 0) (fun _ _ _ h => (conc_var h :)))) (fun _ _ _ h => (conc_fld h :))) (pe_weak (t' := concC _ N (aVar 1)) (zv 1) (fun _ _ _ h => (conc_var h :))) (fun _ _ => rfl)) (fun _ _ _ h => (conc_c2 s_ix h :)))) (fun _ _ _ h => (conc_ce h :)))) (fun _ _ _ h => (conc_ret h :))))) (fun _ _ _ h => (conc_seq h :)))
theorem ok_LineDesk_put_state (A : Al K mg N) : FnOk P w K mg base (L2.CX P w) 2 A.a_LineDesk_put_state A.d_LineDesk_put_state ["self", "number", "state"] (spOf K N 3 a_LineDesk_put_state) := by
  refine A.F_LineDesk_put_state.okX (k := 1) sc_LineDesk_put_state (fun vs H Q E h => len_of h) (fun cdv A0 outer s H vs Q E hr h => ⟨concS K N (WD E) fx_LineDesk_put_state b_LineDesk_put_state, ?_, pure_of (n := 3) (m := 0) rfl (fxs_lt rfl) h⟩)
  exact (pss_weak (t' := concS _ N (WD E) fx_LineDesk_put_state (sSeq _ _)) (pss_cons (ps_weak (t' := concS _ N (WD E) fx_LineDesk_put_state (sDrop _)) (ps_expr (pe_weak (t' := concE _ N (WD E) fx_LineDesk_put_state (eMethV .LineDesk "line_state" 2 a_LineDesk_line_state 0 _)) (pe_methS (zv 0) A.cl_LineDesk A.me_LineDesk_line_state (ok_LineDesk_line_state A) (hr.mono (by decide)) A.B_LineDesk_line_state (fun σ => passAt (takes_of rfl rfl rfl rfl) σ) (pa_weak (t' := concAr _ N (WD E) fx_LineDesk_put_state (arVar 1 _)) (pa_cons (zv 1) (pa_weak (t' := concAr _ N (WD E) fx_LineDesk_put_state arNil) pa_nil (fun _ _ _ h => (conc_arNil h :)))) (fun _ _ _ h => (conc_arVar h :)))) (fun _ _ _ h => (conc_methV h :)))) (fun _ _ _ h => (conc_drop h :)))
    (pss_one (ps_weak (t' := concS _ N (WD E) fx_LineDesk_put_state (sSetI _ _ _)) (ps_asg (pe_weak (t' := concE _ N (WD E) fx_LineDesk_put_state (eFrz 2)) (zv 2) (fun _ _ _ h => (conc_frz h :))) (pg_sub (pe_weak (t' := concP _ N (pFld [.LineDesk] "_states" _)) (pe_fldZ (FldOk.cons A.cl_LineDesk A.na_LineDesk__states FldOk.nil) (pe_weak (t' := concP _ N (pVar 0)) (zv 0) (fun _ _ _ h => (conc_pvar h :)))) (fun _ _ _ h => (conc_pfld h :))) (pe_weak (t' := concC _ N (aVar 1)) (zv 1) (fun _ _ _ h => (conc_var h :))) (set_z (hu_of hr)))) (fun _ _ _ h => (conc_setI h :))))) (fun _ _ _ h => (conc_seq h :)))
theorem ok__law_put (A : Al K mg N) : FnOk P w K mg base (L2.CX P w) 3 A.a__law_put A.d__law_put ["desk", "line", "state"] (spOf K N 3 a__law_put) := by
  refine A.F__law_put.okX (k := 2) sc__law_put (fun vs H Q E h => len_of h) (fun cdv A0 outer s H vs Q E hr h => ⟨concS K N (WD E) fx__law_put b__law_put, ?_, pure_of (n := 3) (m := 0) rfl (fxs_lt rfl) h⟩)
  exact (pss_weak (t' := concS _ N (WD E) fx__law_put (sSeq _ _)) (pss_cons (ps_weak (t' := concS _ N (WD E) fx__law_put (sTry [.NoSuchLine] (sDrop (eMethV .LineDesk "put_state" 3 a_LineDesk_put_state 0 (arVar 1 (arVar 2 (arNil))))) ((.NoSuchLine, sRet (aCE (aK (.str (Str.ofString "none"))))) :: (.LineError, sRet (aCE (aK (.str (Str.ofString "other"))))) :: []))) (ps_try_many (tb := fun W1v => concS _ N W1v fx__law_put (sDrop (eMethV .LineDesk "put_state" 3 a_LineDesk_put_state 0 (arVar 1 (arVar 2 (arNil)))))) (Wout := (WD E)) rfl rfl (takes_of rfl rfl rfl rfl) (fun W1v pn1 xe1 tk1 po1 => (pss_one (ps_weak (t' := concS _ N W1v fx__law_put (sDrop _)) (ps_expr (pe_weak (t' := concE _ N W1v fx__law_put (eMethV .LineDesk "put_state" 3 a_LineDesk_put_state 0 _)) (pe_methS (zv 0) A.cl_LineDesk A.me_LineDesk_put_state (ok_LineDesk_put_state A) (hr.mono (by decide)) A.B_LineDesk_put_state (fun σ => passAt tk1 σ) (pa_weak (t' := concAr _ N W1v fx__law_put (arVar 1 _)) (pa_cons (zv 1) (pa_weak (t' := concAr _ N W1v fx__law_put (arVar 2 _)) (pa_cons (zv 2) (pa_weak (t' := concAr _ N W1v fx__law_put arNil) pa_nil (fun _ _ _ h => (conc_arNil h :)))) (fun _ _ _ h => (conc_arVar h :)))) (fun _ _ _ h => (conc_arVar h :)))) (fun _ _ _ h => (conc_methV h :)))) (fun _ _ _ h => (conc_drop h :))))) (.cons ⟨rfl, by decide, .inl A.m_NoSuchLine⟩ (fun a oe cls d pn _ _ => (pss_one (ps_weak (t' := concS _ N Y.W0 fx__law_put (sRet _)) (ps_ret (pe_weak (t' := concE _ N Y.W0 fx__law_put (aCE _)) ((pe_weak (t' := concC _ N (aK (.str (Str.ofString "none")))) (pe_str) (fun _ _ _ h => (conc_k (fun _ => .str _) h :)))) (fun _ _ _ h => (conc_ce h :)))) (fun _ _ _ h => (conc_ret h :))))) (.cons ⟨rfl, by decide, .inl A.m_LineError⟩ (fun a oe cls d pn _ _ => (pss_one (ps_weak (t' := concS _ N Y.W0 fx__law_put (sRet _)) (ps_ret (pe_weak (t' := concE _ N Y.W0 fx__law_put (aCE _)) ((pe_weak (t' := concC _ N (aK (.str (Str.ofString "other")))) (pe_str) (fun _ _ _ h => (conc_k (fun _ => .str _) h :)))) (fun _ _ _ h => (conc_ce h :)))) (fun _ _ _ h => (conc_ret h :))))) .nil))) (fun _ _ _ h => (conc_try (hs := (.NoSuchLine, sRet (aCE (aK (.str (Str.ofString "none"))))) :: (.LineError, sRet (aCE (aK (.str (Str.ofString "other"))))) :: []) ((fun C hC X hX => by
    simp only [List.mem_cons, List.not_mem_nil, or_false, List.map_cons, List.map_nil] at hC hX
    rcases hC with rfl <;> rcases hX with rfl | rfl
    all_goals first
      | exact A.ex_NoSuchLine_NoSuchLine
      | exact A.ex_NoSuchLine_LineError)) h :)))
    (pss_one (ps_weak (t' := concS _ N (WD E) fx__law_put (sRet _)) (ps_ret (pe_weak (t' := concE _ N (WD E) fx__law_put (aCE _)) ((pe_weak (t' := concC _ N (aK (.str (Str.ofString "put")))) (pe_str) (fun _ _ _ h => (conc_k (fun _ => .str _) h :)))) (fun _ _ _ h => (conc_ce h :)))) (fun _ _ _ h => (conc_ret h :))))) (fun _ _ _ h => (conc_seq h :)))
theorem ok__law_some_state (A : Al K mg N) : FnOk P w K mg base (L2.CX P w) 1 A.a__law_some_state A.d__law_some_state ["draw"] (spOf K N 1 a__law_some_state) := by
  refine A.F__law_some_state.okX (k := 0) sc__law_some_state (fun vs H Q E h => len_of h) (fun cdv A0 outer s H vs Q E hr h => ⟨concS K N (WD E) fx__law_some_state b__law_some_state, ?_, pure_of (n := 1) (m := 2) rfl (fxs_lt rfl) h⟩)
  exact (pss_weak (t' := concS _ N (WD E) fx__law_some_state (sSeq _ _)) (pss_cons (ps_weak (t' := concS _ N (WD E) fx__law_some_state (sAsg 1 _)) (ps_set (i := 1) sc__law_some_state.nd rfl (by first | exact Or.inl rfl | exact Or.inr rfl) (pe_weak (t' := concE _ N (WD E) fx__law_some_state (aTup _)) (pe_tup (pa_weak (t' := concA _ N (WD E) fx__law_some_state (aCons _ _)) (pa_cons (pe_weak (t' := concE _ N (WD E) fx__law_some_state (aCE _)) ((pe_weak (t' := concC _ N (aC2 oMod _ _)) (pe_op op_zMod (pe_weak (t' := concC _ N (aC1 oInt _)) (pe_callTy cr_int (by rfl) A.b_int zb_int (pa_cons (pe_weak (t' := concC _ N (aVar 0)) (zv 0) (fun _ _ _ h => (conc_var h :))) pa_nil)) (fun _ _ _ h => (conc_c1 s_int.v h :))) (pe_weak (t' := concC _ N (aK (.int 6))) (pe_int) (fun _ _ _ h => (conc_k (fun _ => .int _) h :)))) (fun _ _ _ h => (conc_c2 s_mod.v h :)))) (fun _ _ _ h => (conc_ce h :))) (pa_weak (t' := concA _ N (WD E) fx__law_some_state (aCons _ _)) (pa_cons (pe_weak (t' := concE _ N (WD E) fx__law_some_state (aN2 oAdd _ _)) (pe_op op_zAdd (pe_weak (t' := concC _ N (aK (.int 1))) (pe_int) (fun _ _ _ h => (conc_k (fun _ => .int _) h :))) (pe_weak (t' := concC _ N (aC2 oMod _ _)) (pe_op op_zMod (pe_weak (t' := concC _ N (aC1 oInt _)) (pe_callTy cr_int (by rfl) A.b_int zb_int (pa_cons (pe_weak (t' := concC _ N (aC2 oDiv _ _)) (pe_op op_zDiv (pe_weak (t' := concC _ N (aVar 0)) (zv 0) (fun _ _ _ h => (conc_var h :))) (pe_weak (t' := concC _ N (aK (.int 6))) (pe_int) (fun _ _ _ h => (conc_k (fun _ => .int _) h :)))) (fun _ _ _ h => (conc_c2 s_div.v h :))) pa_nil)) (fun _ _ _ h => (conc_c1 s_int.v h :))) (pe_weak (t' := concC _ N (aK (.int 9))) (pe_int) (fun _ _ _ h => (conc_k (fun _ => .int _) h :)))) (fun _ _ _ h => (conc_c2 s_mod.v h :)))) (fun _ _ _ h => (conc_n2 s_add h :))) (pa_weak (t' := concA _ N (WD E) fx__law_some_state (aCons _ _)) (pa_cons (pe_weak (t' := concE _ N (WD E) fx__law_some_state (aCE _)) ((pe_weak (t' := concC _ N (aC2 oMod _ _)) (pe_op op_zMod (pe_weak (t' := concC _ N (aC1 oInt _)) (pe_callTy cr_int (by rfl) A.b_int zb_int (pa_cons (pe_weak (t' := concC _ N (aC2 oDiv _ _)) (pe_op op_zDiv (pe_weak (t' := concC _ N (aVar 0)) (zv 0) (fun _ _ _ h => (conc_var h :))) (pe_weak (t' := concC _ N (aK (.int 54))) (pe_int) (fun _ _ _ h => (conc_k (fun _ => .int _) h :)))) (fun _ _ _ h => (conc_c2 s_div.v h :))) pa_nil)) (fun _ _ _ h => (conc_c1 s_int.v h :))) (pe_weak (t' := concC _ N (aK (.int 200))) (pe_int) (fun _ _ _ h => (conc_k (fun _ => .int _) h :)))) (fun _ _ _ h => (conc_c2 s_mod.v h :)))) (fun _ _ _ h => (conc_ce h :))) (pa_weak (t' := concA _ N (WD E) fx__law_some_state aNil) pa_nil (fun _ _ _ h => (conc_nil h :)))) (fun _ _ _ h => (conc_cons h :)))) (fun _ _ _ h => (conc_cons h :)))) (fun _ _ _ h => (conc_cons h :)))) (fun _ _ _ h => (conc_tup h :)))) (fun _ _ _ h => (conc_asg rfl h :)))
    (pss_weak (t' := concS _ N (WD E) fx__law_some_state (sSeq _ _)) (pss_cons (ps_weak (t' := concS _ N (WD E) fx__law_some_state (sAsg 2 _)) (ps_set (i := 2) sc__law_some_state.nd rfl (by first | exact Or.inl rfl | exact Or.inr rfl) (pe_weak (t' := concE _ N (WD E) fx__law_some_state (aCE _)) ((pe_weak (t' := concC _ N (aC2 oMod _ _)) (pe_op op_zMod (pe_weak (t' := concC _ N (aC1 oInt _)) (pe_callTy cr_int (by rfl) A.b_int zb_int (pa_cons (pe_weak (t' := concC _ N (aC2 oDiv _ _)) (pe_op op_zDiv (pe_weak (t' := concC _ N (aVar 0)) (zv 0) (fun _ _ _ h => (conc_var h :))) (pe_weak (t' := concC _ N (aK (.int 10800))) (pe_int) (fun _ _ _ h => (conc_k (fun _ => .int _) h :)))) (fun _ _ _ h => (conc_c2 s_div.v h :))) pa_nil)) (fun _ _ _ h => (conc_c1 s_int.v h :))) (pe_weak (t' := concC _ N (aK (.int 5))) (pe_int) (fun _ _ _ h => (conc_k (fun _ => .int _) h :)))) (fun _ _ _ h => (conc_c2 s_mod.v h :)))) (fun _ _ _ h => (conc_ce h :)))) (fun _ _ _ h => (conc_asg rfl h :)))
    (pss_weak (t' := concS _ N (WD E) fx__law_some_state (sSeq _ _)) (pss_cons (ps_weak (t' := concS _ N (WD E) fx__law_some_state (sIf _ _ _)) (ps_if (pt_weak (t' := concBE _ N (WD E) fx__law_some_state (bE _)) ((pt_weak (t' := concB _ N (bTest _)) ((pt_weak (t' := tTest (concC _ N (aC2 oEq _ _))) (pt_cmpR (op_zEq hr.units) (pe_weak (t' := concC _ N (aVar 2)) (zv 2) (fun _ _ _ h => (conc_var h :))) (pe_weak (t' := concC _ N (aK (.int 0))) (pe_int) (fun _ _ _ h => (conc_k (fun _ => .int _) h :))) (nomark _)) (fun _ _ _ h => test_mono (fun _ _ _ h => (conc_c2 s_eq.v h :)) h))) (fun _ _ _ h => (conc_test h :)))) (fun _ _ _ h => (conc_bE h :))) (pss_one (ps_weak (t' := concS _ N (WD E) fx__law_some_state (sRet _)) (ps_ret (pe_weak (t' := concE _ N (WD E) fx__law_some_state (aTup _)) (pe_tup (pa_weak (t' := concA _ N (WD E) fx__law_some_state (aCons _ _)) (pa_cons (pe_weak (t' := concE _ N (WD E) fx__law_some_state (aCE _)) ((pe_weak (t' := concC _ N (aK (.str (Str.ofString "idle")))) (pe_str) (fun _ _ _ h => (conc_k (fun _ => .str _) h :)))) (fun _ _ _ h => (conc_ce h :))) (pa_weak (t' := concA _ N (WD E) fx__law_some_state aNil) pa_nil (fun _ _ _ h => (conc_nil h :)))) (fun _ _ _ h => (conc_cons h :)))) (fun _ _ _ h => (conc_tup h :)))) (fun _ _ _ h => (conc_ret h :)))) (pss_weak (t' := concS _ N (WD E) fx__law_some_state sNext) pss_nil (fun _ _ _ h => (conc_next h :)))) (fun _ _ _ h => (conc_sif h :)))
    (pss_weak (t' := concS _ N (WD E) fx__law_some_state (sSeq _ _)) (pss_cons (ps_weak (t' := concS _ N (WD E) fx__law_some_state (sIf _ _ _)) (ps_if (pt_weak (t' := concBE _ N (WD E) fx__law_some_state (bE _)) ((pt_weak (t' := concB _ N (bTest _)) ((pt_weak (t' := tTest (concC _ N (aC2 oEq _ _))) (pt_cmpR (op_zEq hr.units) (pe_weak (t' := concC _ N (aVar 2)) (zv 2) (fun _ _ _ h => (conc_var h :))) (pe_weak (t' := concC _ N (aK (.int 4))) (pe_int) (fun _ _ _ h => (conc_k (fun _ => .int _) h :))) (nomark _)) (fun _ _ _ h => test_mono (fun _ _ _ h => (conc_c2 s_eq.v h :)) h))) (fun _ _ _ h => (conc_test h :)))) (fun _ _ _ h => (conc_bE h :))) (pss_one (ps_weak (t' := concS _ N (WD E) fx__law_some_state (sRet _)) (ps_ret (pe_weak (t' := concE _ N (WD E) fx__law_some_state (aTup _)) (pe_tup (pa_weak (t' := concA _ N (WD E) fx__law_some_state (aCons _ _)) (pa_cons (pe_weak (t' := concE _ N (WD E) fx__law_some_state (aCE _)) ((pe_weak (t' := concC _ N (aK (.str (Str.ofString "tone")))) (pe_str) (fun _ _ _ h => (conc_k (fun _ => .str _) h :)))) (fun _ _ _ h => (conc_ce h :))) (pa_weak (t' := concA _ N (WD E) fx__law_some_state (aCons _ _)) (pa_cons (pe_weak (t' := concE _ N (WD E) fx__law_some_state (aCE _)) ((pe_weak (t' := concC _ N (aC2 oIx _ _)) (pe_ix (ix_z (hu_of hr)) (pe_weak (t' := concC _ N (acLst _)) (pe_lst (pa_weak (t' := concAC _ N (acCons _ _)) (pa_cons (pe_weak (t' := concC _ N (aK (.str (Str.ofString "hung up")))) (pe_str) (fun _ _ _ h => (conc_k (fun _ => .str _) h :))) (pa_weak (t' := concAC _ N (acCons _ _)) (pa_cons (pe_weak (t' := concC _ N (aK (.str (Str.ofString "busy")))) (pe_str) (fun _ _ _ h => (conc_k (fun _ => .str _) h :))) (pa_weak (t' := concAC _ N (acCons _ _)) (pa_cons (pe_weak (t' := concC _ N (aK (.str (Str.ofString "lost")))) (pe_str) (fun _ _ _ h => (conc_k (fun _ => .str _) h :))) (pa_weak (t' := concAC _ N (acCons _ _)) (pa_cons (pe_weak (t' := concC _ N (aK (.str (Str.ofString "no answer")))) (pe_str) (fun _ _ _ h => (conc_k (fun _ => .str _) h :))) (pa_weak (t' := concAC _ N acNil) pa_nil (fun _ _ _ h => (conc_nilC h :)))) (fun _ _ _ h => (conc_consC h :)))) (fun _ _ _ h => (conc_consC h :)))) (fun _ _ _ h => (conc_consC h :)))) (fun _ _ _ h => (conc_consC h :)))) (fun _ _ _ h => (conc_lstC h :))) (pe_weak (t' := concC _ N (aC2 oMod _ _)) (pe_op op_zMod (pe_weak (t' := concC _ N (aC1 oInt _)) (pe_callTy cr_int (by rfl) A.b_int zb_int (pa_cons (pe_weak (t' := concC _ N (aVar 0)) (zv 0) (fun _ _ _ h => (conc_var h :))) pa_nil)) (fun _ _ _ h => (conc_c1 s_int.v h :))) (pe_weak (t' := concC _ N (aK (.int 4))) (pe_int) (fun _ _ _ h => (conc_k (fun _ => .int _) h :)))) (fun _ _ _ h => (conc_c2 s_mod.v h :))) (fun _ _ => rfl)) (fun _ _ _ h => (conc_c2 s_ix h :)))) (fun _ _ _ h => (conc_ce h :))) (pa_weak (t' := concA _ N (WD E) fx__law_some_state aNil) pa_nil (fun _ _ _ h => (conc_nil h :)))) (fun _ _ _ h => (conc_cons h :)))) (fun _ _ _ h => (conc_cons h :)))) (fun _ _ _ h => (conc_tup h :)))) (fun _ _ _ h => (conc_ret h :)))) (pss_weak (t' := concS _ N (WD E) fx__law_some_state sNext) pss_nil (fun _ _ _ h => (conc_next h :)))) (fun _ _ _ h => (conc_sif h :)))
    (pss_one (ps_weak (t' := concS _ N (WD E) fx__law_some_state (sRet _)) (ps_ret (pe_weak (t' := concE _ N (WD E) fx__law_some_state (aTup _)) (pe_tup (pa_weak (t' := concA _ N (WD E) fx__law_some_state (aCons _ _)) (pa_cons (pe_weak (t' := concE _ N (WD E) fx__law_some_state (aCE _)) ((pe_weak (t' := concC _ N (aC2 oIx _ _)) (pe_ix (ix_z (hu_of hr)) (pe_weak (t' := concC _ N (acLst _)) (pe_lst (pa_weak (t' := concAC _ N (acCons _ _)) (pa_cons (pe_weak (t' := concC _ N (aK (.str (Str.ofString "")))) (pe_str) (fun _ _ _ h => (conc_k (fun _ => .str _) h :))) (pa_weak (t' := concAC _ N (acCons _ _)) (pa_cons (pe_weak (t' := concC _ N (aK (.str (Str.ofString "calling")))) (pe_str) (fun _ _ _ h => (conc_k (fun _ => .str _) h :))) (pa_weak (t' := concAC _ N (acCons _ _)) (pa_cons (pe_weak (t' := concC _ N (aK (.str (Str.ofString "ringing")))) (pe_str) (fun _ _ _ h => (conc_k (fun _ => .str _) h :))) (pa_weak (t' := concAC _ N (acCons _ _)) (pa_cons (pe_weak (t' := concC _ N (aK (.str (Str.ofString "talking")))) (pe_str) (fun _ _ _ h => (conc_k (fun _ => .str _) h :))) (pa_weak (t' := concAC _ N acNil) pa_nil (fun _ _ _ h => (conc_nilC h :)))) (fun _ _ _ h => (conc_consC h :)))) (fun _ _ _ h => (conc_consC h :)))) (fun _ _ _ h => (conc_consC h :)))) (fun _ _ _ h => (conc_consC h :)))) (fun _ _ _ h => (conc_lstC h :))) (pe_weak (t' := concC _ N (aVar 2)) (zv 2) (fun _ _ _ h => (conc_var h :))) (fun _ _ => rfl)) (fun _ _ _ h => (conc_c2 s_ix h :)))) (fun _ _ _ h => (conc_ce h :))) (pa_weak (t' := concA _ N (WD E) fx__law_some_state (aCons _ _)) (pa_cons (pe_weak (t' := concE _ N (WD E) fx__law_some_state (eFrz 1)) (zv 1) (fun _ _ _ h => (conc_frz h :))) (pa_weak (t' := concA _ N (WD E) fx__law_some_state aNil) pa_nil (fun _ _ _ h => (conc_nil h :)))) (fun _ _ _ h => (conc_cons h :)))) (fun _ _ _ h => (conc_cons h :)))) (fun _ _ _ h => (conc_tup h :)))) (fun _ _ _ h => (conc_ret h :))))) (fun _ _ _ h => (conc_seq h :)))) (fun _ _ _ h => (conc_seq h :)))) (fun _ _ _ h => (conc_seq h :)))) (fun _ _ _ h => (conc_seq h :)))
theorem ok__law_told (A : Al K mg N) : FnOk P w K mg base (L2.CX P w) 2 A.a__law_told A.d__law_told ["desk", "line"] (spOf K N 2 a__law_told) := by
  refine A.F__law_told.okX (k := 1) sc__law_told (fun vs H Q E h => len_of h) (fun cdv A0 outer s H vs Q E hr h => ⟨concS K N (WD E) fx__law_told b__law_told, ?_, pure_of (n := 2) (m := 0) rfl (fxs_lt rfl) h⟩)
  exact (pss_one (ps_weak (t' := concS _ N (WD E) fx__law_told (sTry [.NoSuchLine] (sRet (aTup (aCons (aCE (aK (.str (Str.ofString "told")))) (aCons (eMethV .LineDesk "line_state" 2 a_LineDesk_line_state 0 (arVar 1 (arNil))) (aNil))))) ((.NoSuchLine, sRet (aTup (aCons (aCE (aK (.str (Str.ofString "refused")))) (aCons (aTup (aNil)) (aNil))))) :: []))) (ps_try_many (tb := fun W1v => concS _ N W1v fx__law_told (sRet (aTup (aCons (aCE (aK (.str (Str.ofString "told")))) (aCons (eMethV .LineDesk "line_state" 2 a_LineDesk_line_state 0 (arVar 1 (arNil))) (aNil)))))) (Wout := (WD E)) rfl rfl (takes_of rfl rfl rfl rfl) (fun W1v pn1 xe1 tk1 po1 => (pss_one (ps_weak (t' := concS _ N W1v fx__law_told (sRet _)) (ps_ret (pe_weak (t' := concE _ N W1v fx__law_told (aTup _)) (pe_tup (pa_weak (t' := concA _ N W1v fx__law_told (aCons _ _)) (pa_cons (pe_weak (t' := concE _ N W1v fx__law_told (aCE _)) ((pe_weak (t' := concC _ N (aK (.str (Str.ofString "told")))) (pe_str) (fun _ _ _ h => (conc_k (fun _ => .str _) h :)))) (fun _ _ _ h => (conc_ce h :))) (pa_weak (t' := concA _ N W1v fx__law_told (aCons _ _)) (pa_cons (pe_weak (t' := concE _ N W1v fx__law_told (eMethV .LineDesk "line_state" 2 a_LineDesk_line_state 0 _)) (pe_methS (zv 0) A.cl_LineDesk A.me_LineDesk_line_state (ok_LineDesk_line_state A) (hr.mono (by decide)) A.B_LineDesk_line_state (fun σ => passAt tk1 σ) (pa_weak (t' := concAr _ N W1v fx__law_told (arVar 1 _)) (pa_cons (zv 1) (pa_weak (t' := concAr _ N W1v fx__law_told arNil) pa_nil (fun _ _ _ h => (conc_arNil h :)))) (fun _ _ _ h => (conc_arVar h :)))) (fun _ _ _ h => (conc_methV h :))) (pa_weak (t' := concA _ N W1v fx__law_told aNil) pa_nil (fun _ _ _ h => (conc_nil h :)))) (fun _ _ _ h => (conc_cons h :)))) (fun _ _ _ h => (conc_cons h :)))) (fun _ _ _ h => (conc_tup h :)))) (fun _ _ _ h => (conc_ret h :))))) (.cons ⟨rfl, by decide, .inl A.m_NoSuchLine⟩ (fun a oe cls d pn _ _ => (pss_one (ps_weak (t' := concS _ N Y.W0 fx__law_told (sRet _)) (ps_ret (pe_weak (t' := concE _ N Y.W0 fx__law_told (aTup _)) (pe_tup (pa_weak (t' := concA _ N Y.W0 fx__law_told (aCons _ _)) (pa_cons (pe_weak (t' := concE _ N Y.W0 fx__law_told (aCE _)) ((pe_weak (t' := concC _ N (aK (.str (Str.ofString "refused")))) (pe_str) (fun _ _ _ h => (conc_k (fun _ => .str _) h :)))) (fun _ _ _ h => (conc_ce h :))) (pa_weak (t' := concA _ N Y.W0 fx__law_told (aCons _ _)) (pa_cons (pe_weak (t' := concE _ N Y.W0 fx__law_told (aTup _)) (pe_tup (pa_weak (t' := concA _ N Y.W0 fx__law_told aNil) pa_nil (fun _ _ _ h => (conc_nil h :)))) (fun _ _ _ h => (conc_tup h :))) (pa_weak (t' := concA _ N Y.W0 fx__law_told aNil) pa_nil (fun _ _ _ h => (conc_nil h :)))) (fun _ _ _ h => (conc_cons h :)))) (fun _ _ _ h => (conc_cons h :)))) (fun _ _ _ h => (conc_tup h :)))) (fun _ _ _ h => (conc_ret h :))))) .nil)) (fun _ _ _ h => (conc_try (hs := (.NoSuchLine, sRet (aTup (aCons (aCE (aK (.str (Str.ofString "refused")))) (aCons (aTup (aNil)) (aNil))))) :: []) ((fun C hC X hX => by
    simp only [List.mem_cons, List.not_mem_nil, or_false, List.map_cons, List.map_nil] at hC hX
    rcases hC with rfl <;> rcases hX with rfl
    all_goals first
      | exact A.ex_NoSuchLine_NoSuchLine)) h :))))
theorem ok_law (A : Al K mg N) : FnOk P w K mg base (L2.CX P w) 4 A.a_law A.d_law ["script"] (sp_law K N) := by
  refine A.F_law.okX (k := 3) sc_law (fun vs H Q E h => len_law h) (fun cdv A0 outer s H vs Q E hr h => ⟨concS K N (WD E) fx_law b_law, ?_, pure_of (n := 1) (m := 13) rfl (fxs_lt rfl) (law_sp h)⟩)
  exact (pss_weak (t' := concS _ N (WD E) fx_law (sSeq _ _)) (pss_cons (ps_weak (t' := concS _ N (WD E) fx_law (sAsg 1 _)) (ps_set (i := 1) sc_law.nd rfl (by first | exact Or.inl rfl | exact Or.inr rfl) (pe_weak (t' := concE _ N (WD E) fx_law (aCall 2 a__law_draws _)) (pe_callS (ok__law_draws A) (hr.mono (by decide)) rfl A.m__law_draws A.F__law_draws.kp A.B__law_draws (fun σ => passAt (takes_of rfl rfl rfl rfl) σ) (pa_weak (t' := concAr _ N (WD E) fx_law (arVar 0 _)) (pa_cons (zv 0) (pa_weak (t' := concAr _ N (WD E) fx_law (arOwn _ _)) (pa_cons (pe_weak (t' := concE _ N (WD E) fx_law (aCE _)) ((pe_weak (t' := concC _ N (aK (.int 26))) (pe_int) (fun _ _ _ h => (conc_k (fun _ => .int _) h :)))) (fun _ _ _ h => (conc_ce h :))) (pa_weak (t' := concAr _ N (WD E) fx_law arNil) pa_nil (fun _ _ _ h => (conc_arNil h :)))) (fun _ _ _ h => (conc_arOwn h :)))) (fun _ _ _ h => (conc_arVar h :)))) (fun _ _ _ h => (conc_call h :)))) (fun _ _ _ h => (conc_asg rfl h :)))
    (pss_weak (t' := concS _ N (WD E) fx_law (sSeq _ _)) (pss_cons (ps_weak (t' := concS _ N (WD E) fx_law (sAsg 2 _)) (ps_set (i := 2) sc_law.nd rfl (by first | exact Or.inl rfl | exact Or.inr rfl) (pe_weak (t' := concE _ N (WD E) fx_law (aCE _)) ((pe_weak (t' := concC _ N (aK (.int 8))) (pe_int) (fun _ _ _ h => (conc_k (fun _ => .int _) h :)))) (fun _ _ _ h => (conc_ce h :)))) (fun _ _ _ h => (conc_asg rfl h :)))
    (pss_weak (t' := concS _ N (WD E) fx_law (sSeq _ _)) (pss_cons (ps_weak (t' := concS _ N (WD E) fx_law (sIf _ _ _)) (ps_if (pt_weak (t' := concBE _ N (WD E) fx_law (bE _)) ((pt_weak (t' := concB _ N (bTest _)) ((pt_weak (t' := tTest (concC _ N (aC2 oEq _ _))) (pt_cmpR (op_zEq hr.units) (pe_weak (t' := concC _ N (aC2 oMod _ _)) (pe_op op_zMod (pe_weak (t' := concC _ N (aC1 oInt _)) (pe_callTy cr_int (by rfl) A.b_int zb_int (pa_cons (pe_weak (t' := concC _ N (aC2 oDiv _ _)) (pe_op op_zDiv (pe_weak (t' := concC _ N (aC2 oIx _ _)) (pe_ix (ix_z (hu_of hr)) (pe_weak (t' := concC _ N (aVar 1)) (zv 1) (fun _ _ _ h => (conc_var h :))) (pe_weak (t' := concC _ N (aK (.int 1))) (pe_int) (fun _ _ _ h => (conc_k (fun _ => .int _) h :))) (fun _ _ => rfl)) (fun _ _ _ h => (conc_c2 s_ix h :))) (pe_weak (t' := concC _ N (aK (.int 24))) (pe_int) (fun _ _ _ h => (conc_k (fun _ => .int _) h :)))) (fun _ _ _ h => (conc_c2 s_div.v h :))) pa_nil)) (fun _ _ _ h => (conc_c1 s_int.v h :))) (pe_weak (t' := concC _ N (aK (.int 4))) (pe_int) (fun _ _ _ h => (conc_k (fun _ => .int _) h :)))) (fun _ _ _ h => (conc_c2 s_mod.v h :))) (pe_weak (t' := concC _ N (aK (.int 0))) (pe_int) (fun _ _ _ h => (conc_k (fun _ => .int _) h :))) (nomark _)) (fun _ _ _ h => test_mono (fun _ _ _ h => (conc_c2 s_eq.v h :)) h))) (fun _ _ _ h => (conc_test h :)))) (fun _ _ _ h => (conc_bE h :))) (pss_one (ps_weak (t' := concS _ N (WD E) fx_law (sAsg 2 _)) (ps_set (i := 2) sc_law.nd rfl (by first | exact Or.inl rfl | exact Or.inr rfl) (pe_weak (t' := concE _ N (WD E) fx_law (aCE _)) ((pe_weak (t' := concC _ N (aK (.int 24))) (pe_int) (fun _ _ _ h => (conc_k (fun _ => .int _) h :)))) (fun _ _ _ h => (conc_ce h :)))) (fun _ _ _ h => (conc_asg rfl h :)))) (pss_weak (t' := concS _ N (WD E) fx_law sNext) pss_nil (fun _ _ _ h => (conc_next h :)))) (fun _ _ _ h => (conc_sif h :)))
    (pss_weak (t' := concS _ N (WD E) fx_law (sSeq _ _)) (pss_cons (ps_weak (t' := concS _ N (WD E) fx_law (sAsg 3 _)) (ps_set (i := 3) sc_law.nd rfl (by first | exact Or.inl rfl | exact Or.inr rfl) (pe_weak (t' := concE _ N (WD E) fx_law (aCall 2 a__law_lines _)) (pe_callS (ok__law_lines A) (hr.mono (by decide)) rfl A.m__law_lines A.F__law_lines.kp A.B__law_lines (fun σ => passAt (takes_of rfl rfl rfl rfl) σ) (pa_weak (t' := concAr _ N (WD E) fx_law (arOwn _ _)) (pa_cons (pe_weak (t' := concE _ N (WD E) fx_law (aCE _)) ((pe_weak (t' := concC _ N (aC2 oIx _ _)) (pe_ix (ix_z (hu_of hr)) (pe_weak (t' := concC _ N (aVar 1)) (zv 1) (fun _ _ _ h => (conc_var h :))) (pe_weak (t' := concC _ N (aK (.int 0))) (pe_int) (fun _ _ _ h => (conc_k (fun _ => .int _) h :))) (fun _ _ => rfl)) (fun _ _ _ h => (conc_c2 s_ix h :)))) (fun _ _ _ h => (conc_ce h :))) (pa_weak (t' := concAr _ N (WD E) fx_law (arOwn _ _)) (pa_cons (pe_weak (t' := concE _ N (WD E) fx_law (aN2 oAdd _ _)) (pe_op op_zAdd (pe_weak (t' := concC _ N (aVar 2)) (zv 2) (fun _ _ _ h => (conc_var h :))) (pe_weak (t' := concC _ N (aK (.int 1))) (pe_int) (fun _ _ _ h => (conc_k (fun _ => .int _) h :)))) (fun _ _ _ h => (conc_n2 s_add h :))) (pa_weak (t' := concAr _ N (WD E) fx_law arNil) pa_nil (fun _ _ _ h => (conc_arNil h :)))) (fun _ _ _ h => (conc_arOwn h :)))) (fun _ _ _ h => (conc_arOwn h :)))) (fun _ _ _ h => (conc_call h :)))) (fun _ _ _ h => (conc_asg rfl h :)))
    (pss_weak (t' := concS _ N (WD E) fx_law (sSeq _ _)) (pss_cons (ps_weak (t' := concS _ N (WD E) fx_law (sAsg 4 _)) (ps_set (i := 4) sc_law.nd rfl (by first | exact Or.inl rfl | exact Or.inr rfl) (pe_weak (t' := concE _ N (WD E) fx_law (aSlN _ _ _)) (pe_slice sl_z (pe_weak (t' := concC _ N (aVar 3)) (zv 3) (fun _ _ _ h => (conc_var h :))) (po_weak (t' := concO _ N oNo) po_none (fun _ _ _ h => (conc_noO h :))) (po_weak (t' := concO _ N (oPart _)) (po_some (pe_weak (t' := concC _ N (aC2 oAdd _ _)) (pe_op op_zAdd (pe_weak (t' := concC _ N (aK (.int 1))) (pe_int) (fun _ _ _ h => (conc_k (fun _ => .int _) h :))) (pe_weak (t' := concC _ N (aC2 oMod _ _)) (pe_op op_zMod (pe_weak (t' := concC _ N (aC1 oInt _)) (pe_callTy cr_int (by rfl) A.b_int zb_int (pa_cons (pe_weak (t' := concC _ N (aC2 oIx _ _)) (pe_ix (ix_z (hu_of hr)) (pe_weak (t' := concC _ N (aVar 1)) (zv 1) (fun _ _ _ h => (conc_var h :))) (pe_weak (t' := concC _ N (aK (.int 1))) (pe_int) (fun _ _ _ h => (conc_k (fun _ => .int _) h :))) (fun _ _ => rfl)) (fun _ _ _ h => (conc_c2 s_ix h :))) pa_nil)) (fun _ _ _ h => (conc_c1 s_int.v h :))) (pe_weak (t' := concC _ N (aVar 2)) (zv 2) (fun _ _ _ h => (conc_var h :)))) (fun _ _ _ h => (conc_c2 s_mod.v h :)))) (fun _ _ _ h => (conc_c2 s_add.v h :)))) (fun _ _ _ h => (conc_part h :)))) (fun _ _ _ h => (conc_slN h :)))) (fun _ _ _ h => (conc_asg rfl h :)))
    (pss_weak (t' := concS _ N (WD E) fx_law (sSeq _ _)) (pss_cons (ps_weak (t' := concS _ N (WD E) fx_law (sAsg 5 _)) (ps_set (i := 5) sc_law.nd rfl (by first | exact Or.inl rfl | exact Or.inr rfl) (pe_weak (t' := concE _ N (WD E) fx_law (eMake .LineDesk 2 a_LineDesk___init__ _)) (pe_makeS A.mk_LineDesk (ok_LineDesk___init__ A) (hr.mono (by decide)) rfl A.m_LineDesk A.B_LineDesk___init__ (fun σ => passAt (takes_of rfl rfl rfl rfl) σ) (pa_weak (t' := concAr _ N (WD E) fx_law (arOwn _ _)) (pa_cons (pe_weak (t' := concE _ N (WD E) fx_law (aE1 oTuple _)) (pe_callTy cr_tuple (by rfl) A.b_tuple zb_tuple (pa_cons (pe_weak (t' := concE _ N (WD E) fx_law (eFrz 4)) (zv 4) (fun _ _ _ h => (conc_frz h :))) pa_nil)) (fun _ _ _ h => (conc_e1 s_tuple h :))) (pa_weak (t' := concAr _ N (WD E) fx_law arNil) pa_nil (fun _ _ _ h => (conc_arNil h :)))) (fun _ _ _ h => (conc_arOwn h :)))) (fun _ _ _ h => (conc_make h :)))) (fun _ _ _ h => (conc_asg rfl h :)))
    (pss_weak (t' := concS _ N (WD E) fx_law (sSeq _ _)) (pss_cons (ps_weak (t' := concS _ N (WD E) fx_law (sAsg 6 _)) (ps_set (i := 6) sc_law.nd rfl (by first | exact Or.inl rfl | exact Or.inr rfl) (pe_weak (t' := concE _ N (WD E) fx_law (eDictK)) (pe_dnewK) (fun _ _ _ h => (conc_dictK h :)))) (fun _ _ _ h => (conc_asg rfl h :)))
    (pss_weak (t' := concS _ N (WD E) fx_law (sSeq _ _)) (pss_cons (ps_weak (t' := concS _ N (WD E) fx_law (sForP .seq _ (gaName 7) _)) (ps_for (passes_of rfl) rfl (pi_seqB (pe_weak (t' := concP _ N (pVar 4)) (zv 4) (fun _ _ _ h => (conc_pvar h :)))) (pg_name (i := 7) sc_law.nd rfl (by first | exact Or.inl rfl | exact Or.inr rfl))
      (pss_one (ps_weak (t' := concS _ N (WD E) fx_law (sSetI _ _ _)) (ps_asg (pe_weak (t' := concE _ N (WD E) fx_law (aTup _)) (pe_tup (pa_weak (t' := concA _ N (WD E) fx_law (aCons _ _)) (pa_cons (pe_weak (t' := concE _ N (WD E) fx_law (aCE _)) ((pe_weak (t' := concC _ N (aK (.str (Str.ofString "idle")))) (pe_str) (fun _ _ _ h => (conc_k (fun _ => .str _) h :)))) (fun _ _ _ h => (conc_ce h :))) (pa_weak (t' := concA _ N (WD E) fx_law aNil) pa_nil (fun _ _ _ h => (conc_nil h :)))) (fun _ _ _ h => (conc_cons h :)))) (fun _ _ _ h => (conc_tup h :))) (pg_sub (pe_weak (t' := concP _ N (pVar 6)) (zv 6) (fun _ _ _ h => (conc_pvar h :))) (pe_weak (t' := concC _ N (aVar 7)) (zv 7) (fun _ _ _ h => (conc_var h :))) (set_z (hu_of hr)))) (fun _ _ _ h => (conc_setI h :))))) (fun _ _ _ h => (conc_forP (p := .seq) (g_name (i := 7) rfl) h :)))
    (pss_weak (t' := concS _ N (WD E) fx_law (sSeq _ _)) (pss_cons (ps_weak (t' := concS _ N (WD E) fx_law (sFor _ (gaName 8) _)) (ps_for (passes_of rfl) rfl (pi_weak (t' := concI _ N (WD E) fx_law (iaRng2 _ _)) (pi_range2 rfl A.b_range (pa_cons (pe_weak (t' := concE _ N (WD E) fx_law (aCE _)) ((pe_weak (t' := concC _ N (aK (.int 2))) (pe_int) (fun _ _ _ h => (conc_k (fun _ => .int _) h :)))) (fun _ _ _ h => (conc_ce h :))) (pa_cons (pe_weak (t' := concE _ N (WD E) fx_law (aCE _)) ((pe_weak (t' := concC _ N (aK (.int 26))) (pe_int) (fun _ _ _ h => (conc_k (fun _ => .int _) h :)))) (fun _ _ _ h => (conc_ce h :))) pa_nil))) (fun _ _ _ h => (conc_rng2 h :))) (pg_name (i := 8) sc_law.nd rfl (by first | exact Or.inl rfl | exact Or.inr rfl))
      (pss_weak (t' := concS _ N (WD E) fx_law (sSeq _ _)) (pss_cons (ps_weak (t' := concS _ N (WD E) fx_law (sAsg 7 _)) (ps_set (i := 7) sc_law.nd rfl (by first | exact Or.inl rfl | exact Or.inr rfl) (pe_weak (t' := concE _ N (WD E) fx_law (aCE _)) ((pe_weak (t' := concC _ N (aC2 oIx _ _)) (pe_ix (ix_z (hu_of hr)) (pe_weak (t' := concC _ N (aVar 3)) (zv 3) (fun _ _ _ h => (conc_var h :))) (pe_weak (t' := concC _ N (aC2 oMod _ _)) (pe_op op_zMod (pe_weak (t' := concC _ N (aC1 oInt _)) (pe_callTy cr_int (by rfl) A.b_int zb_int (pa_cons (pe_weak (t' := concC _ N (aC2 oIx _ _)) (pe_ix (ix_z (hu_of hr)) (pe_weak (t' := concC _ N (aVar 1)) (zv 1) (fun _ _ _ h => (conc_var h :))) (pe_weak (t' := concC _ N (aVar 8)) (zv 8) (fun _ _ _ h => (conc_var h :))) (fun _ _ => rfl)) (fun _ _ _ h => (conc_c2 s_ix h :))) pa_nil)) (fun _ _ _ h => (conc_c1 s_int.v h :))) (pe_weak (t' := concC _ N (aC1 oLen _)) (pe_callB cr_len (by rfl) A.b_len zb_len (pa_cons (pe_weak (t' := concC _ N (aVar 3)) (zv 3) (fun _ _ _ h => (conc_var h :))) pa_nil)) (fun _ _ _ h => (conc_c1 s_len.v h :)))) (fun _ _ _ h => (conc_c2 s_mod.v h :))) (fun _ _ => rfl)) (fun _ _ _ h => (conc_c2 s_ix h :)))) (fun _ _ _ h => (conc_ce h :)))) (fun _ _ _ h => (conc_asg rfl h :)))
    (pss_weak (t' := concS _ N (WD E) fx_law (sSeq _ _)) (pss_cons (ps_weak (t' := concS _ N (WD E) fx_law (sAsg 9 _)) (ps_set (i := 9) sc_law.nd rfl (by first | exact Or.inl rfl | exact Or.inr rfl) (pe_weak (t' := concE _ N (WD E) fx_law (aCall 1 a__law_some_state _)) (pe_callS (ok__law_some_state A) (hr.mono (by decide)) rfl A.m__law_some_state A.F__law_some_state.kp A.B__law_some_state (fun σ => passAt (takes_of rfl rfl rfl rfl) σ) (pa_weak (t' := concAr _ N (WD E) fx_law (arOwn _ _)) (pa_cons (pe_weak (t' := concE _ N (WD E) fx_law (aCE _)) ((pe_weak (t' := concC _ N (aC2 oDiv _ _)) (pe_op op_zDiv (pe_weak (t' := concC _ N (aC2 oIx _ _)) (pe_ix (ix_z (hu_of hr)) (pe_weak (t' := concC _ N (aVar 1)) (zv 1) (fun _ _ _ h => (conc_var h :))) (pe_weak (t' := concC _ N (aVar 8)) (zv 8) (fun _ _ _ h => (conc_var h :))) (fun _ _ => rfl)) (fun _ _ _ h => (conc_c2 s_ix h :))) (pe_weak (t' := concC _ N (aC1 oLen _)) (pe_callB cr_len (by rfl) A.b_len zb_len (pa_cons (pe_weak (t' := concC _ N (aVar 3)) (zv 3) (fun _ _ _ h => (conc_var h :))) pa_nil)) (fun _ _ _ h => (conc_c1 s_len.v h :)))) (fun _ _ _ h => (conc_c2 s_div.v h :)))) (fun _ _ _ h => (conc_ce h :))) (pa_weak (t' := concAr _ N (WD E) fx_law arNil) pa_nil (fun _ _ _ h => (conc_arNil h :)))) (fun _ _ _ h => (conc_arOwn h :)))) (fun _ _ _ h => (conc_call h :)))) (fun _ _ _ h => (conc_asg rfl h :)))
    (pss_weak (t' := concS _ N (WD E) fx_law (sSeq _ _)) (pss_cons (ps_weak (t' := concS _ N (WD E) fx_law (sAsg 10 _)) (ps_set (i := 10) sc_law.nd rfl (by first | exact Or.inl rfl | exact Or.inr rfl) (pe_weak (t' := concE _ N (WD E) fx_law (aCE _)) ((pe_weak (t' := concC _ N (aK (.str (Str.ofString "none")))) (pe_str) (fun _ _ _ h => (conc_k (fun _ => .str _) h :)))) (fun _ _ _ h => (conc_ce h :)))) (fun _ _ _ h => (conc_asg rfl h :)))
    (pss_weak (t' := concS _ N (WD E) fx_law (sSeq _ _)) (pss_cons (ps_weak (t' := concS _ N (WD E) fx_law (sIf _ _ _)) (ps_if (pt_weak (t' := concBE _ N (WD E) fx_law (bE _)) ((pt_weak (t' := concB _ N (bTest _)) ((pt_weak (t' := tTest (concC _ N (aC2 oIn _ _))) (pt_cmpR (op_zIn (hu66 hr)) (pe_weak (t' := concC _ N (aVar 7)) (zv 7) (fun _ _ _ h => (conc_var h :))) (pe_weak (t' := concC _ N (aVar 4)) (zv 4) (fun _ _ _ h => (conc_var h :))) (by rfl)) (fun _ _ _ h => test_mono (fun _ _ _ h => (conc_c2 s_in.v h :)) h))) (fun _ _ _ h => (conc_test h :)))) (fun _ _ _ h => (conc_bE h :))) (pss_weak (t' := concS _ N (WD E) fx_law (sSeq _ _)) (pss_cons (ps_weak (t' := concS _ N (WD E) fx_law (sAsg 10 _)) (ps_set (i := 10) sc_law.nd rfl (by first | exact Or.inl rfl | exact Or.inr rfl) (pe_weak (t' := concE _ N (WD E) fx_law (aCE _)) ((pe_weak (t' := concC _ N (aK (.str (Str.ofString "put")))) (pe_str) (fun _ _ _ h => (conc_k (fun _ => .str _) h :)))) (fun _ _ _ h => (conc_ce h :)))) (fun _ _ _ h => (conc_asg rfl h :)))
    (pss_one (ps_weak (t' := concS _ N (WD E) fx_law (sSetI _ _ _)) (ps_asg (pe_weak (t' := concE _ N (WD E) fx_law (eFrz 9)) (zv 9) (fun _ _ _ h => (conc_frz h :))) (pg_sub (pe_weak (t' := concP _ N (pVar 6)) (zv 6) (fun _ _ _ h => (conc_pvar h :))) (pe_weak (t' := concC _ N (aVar 7)) (zv 7) (fun _ _ _ h => (conc_var h :))) (set_z (hu_of hr)))) (fun _ _ _ h => (conc_setI h :))))) (fun _ _ _ h => (conc_seq h :))) (pss_weak (t' := concS _ N (WD E) fx_law sNext) pss_nil (fun _ _ _ h => (conc_next h :)))) (fun _ _ _ h => (conc_sif h :)))
    (pss_weak (t' := concS _ N (WD E) fx_law (sSeq _ _)) (pss_cons (ps_weak (t' := concS _ N (WD E) fx_law (sIf _ _ _)) (ps_if (pt_weak (t' := concBE _ N (WD E) fx_law (eTest _)) ((pt_weak (t' := tTest (concE _ N (WD E) fx_law (aE2 oNe _ _))) (pt_cmpR (op_zNe hr.units) (pe_weak (t' := concE _ N (WD E) fx_law (aCall 3 a__law_put _)) (pe_callS (ok__law_put A) (hr.mono (by decide)) rfl A.m__law_put A.F__law_put.kp A.B__law_put (fun σ => passAt (takes_of rfl rfl rfl rfl) σ) (pa_weak (t' := concAr _ N (WD E) fx_law (arVar 5 _)) (pa_cons (zv 5) (pa_weak (t' := concAr _ N (WD E) fx_law (arVar 7 _)) (pa_cons (zv 7) (pa_weak (t' := concAr _ N (WD E) fx_law (arVar 9 _)) (pa_cons (zv 9) (pa_weak (t' := concAr _ N (WD E) fx_law arNil) pa_nil (fun _ _ _ h => (conc_arNil h :)))) (fun _ _ _ h => (conc_arVar h :)))) (fun _ _ _ h => (conc_arVar h :)))) (fun _ _ _ h => (conc_arVar h :)))) (fun _ _ _ h => (conc_call h :))) (pe_weak (t' := concE _ N (WD E) fx_law (eFrz 10)) (zv 10) (fun _ _ _ h => (conc_frz h :))) (nomark _)) (fun _ _ _ h => test_mono (fun _ _ _ h => (conc_e2 s_ne h :)) h))) (fun _ _ _ h => (conc_etest h :))) (pss_one (ps_weak (t' := concS _ N (WD E) fx_law (sRet _)) (ps_ret (pe_weak (t' := concE _ N (WD E) fx_law (aCE _)) ((pe_weak (t' := concC _ N (aK (.bl false))) (pe_bl) (fun _ _ _ h => (conc_k (fun _ => .bl _) h :)))) (fun _ _ _ h => (conc_ce h :)))) (fun _ _ _ h => (conc_ret h :)))) (pss_weak (t' := concS _ N (WD E) fx_law sNext) pss_nil (fun _ _ _ h => (conc_next h :)))) (fun _ _ _ h => (conc_sif h :)))
    (pss_weak (t' := concS _ N (WD E) fx_law (sSeq _ _)) (pss_cons (ps_weak (t' := concS _ N (WD E) fx_law (sForP .seq _ (gaName 11) _)) (ps_for (passes_of rfl) rfl (pi_seqB (pe_weak (t' := concP _ N (pVar 3)) (zv 3) (fun _ _ _ h => (conc_pvar h :)))) (pg_name (i := 11) sc_law.nd rfl (by first | exact Or.inl rfl | exact Or.inr rfl))
      (pss_weak (t' := concS _ N (WD E) fx_law (sSeq _ _)) (pss_cons (ps_weak (t' := concS _ N (WD E) fx_law (sAsg 12 _)) (ps_set (i := 12) sc_law.nd rfl (by first | exact Or.inl rfl | exact Or.inr rfl) (pe_weak (t' := concE _ N (WD E) fx_law (aTup _)) (pe_tup (pa_weak (t' := concA _ N (WD E) fx_law (aCons _ _)) (pa_cons (pe_weak (t' := concE _ N (WD E) fx_law (aCE _)) ((pe_weak (t' := concC _ N (aK (.str (Str.ofString "refused")))) (pe_str) (fun _ _ _ h => (conc_k (fun _ => .str _) h :)))) (fun _ _ _ h => (conc_ce h :))) (pa_weak (t' := concA _ N (WD E) fx_law (aCons _ _)) (pa_cons (pe_weak (t' := concE _ N (WD E) fx_law (aTup _)) (pe_tup (pa_weak (t' := concA _ N (WD E) fx_law aNil) pa_nil (fun _ _ _ h => (conc_nil h :)))) (fun _ _ _ h => (conc_tup h :))) (pa_weak (t' := concA _ N (WD E) fx_law aNil) pa_nil (fun _ _ _ h => (conc_nil h :)))) (fun _ _ _ h => (conc_cons h :)))) (fun _ _ _ h => (conc_cons h :)))) (fun _ _ _ h => (conc_tup h :)))) (fun _ _ _ h => (conc_asg rfl h :)))
    (pss_weak (t' := concS _ N (WD E) fx_law (sSeq _ _)) (pss_cons (ps_weak (t' := concS _ N (WD E) fx_law (sIf _ _ _)) (ps_if (pt_weak (t' := concBE _ N (WD E) fx_law (bE _)) ((pt_weak (t' := concB _ N (bTest _)) ((pt_weak (t' := tTest (concC _ N (aC2 oIn _ _))) (pt_cmpR (op_zIn (hu66 hr)) (pe_weak (t' := concC _ N (aVar 11)) (zv 11) (fun _ _ _ h => (conc_var h :))) (pe_weak (t' := concC _ N (aVar 4)) (zv 4) (fun _ _ _ h => (conc_var h :))) (by rfl)) (fun _ _ _ h => test_mono (fun _ _ _ h => (conc_c2 s_in.v h :)) h))) (fun _ _ _ h => (conc_test h :)))) (fun _ _ _ h => (conc_bE h :))) (pss_one (ps_weak (t' := concS _ N (WD E) fx_law (sAsg 12 _)) (ps_set (i := 12) sc_law.nd rfl (by first | exact Or.inl rfl | exact Or.inr rfl) (pe_weak (t' := concE _ N (WD E) fx_law (aTup _)) (pe_tup (pa_weak (t' := concA _ N (WD E) fx_law (aCons _ _)) (pa_cons (pe_weak (t' := concE _ N (WD E) fx_law (aCE _)) ((pe_weak (t' := concC _ N (aK (.str (Str.ofString "told")))) (pe_str) (fun _ _ _ h => (conc_k (fun _ => .str _) h :)))) (fun _ _ _ h => (conc_ce h :))) (pa_weak (t' := concA _ N (WD E) fx_law (aCons _ _)) (pa_cons (pe_weak (t' := concE _ N (WD E) fx_law (aCE _)) ((pe_weak (t' := concC _ N (aC2 oIx _ _)) (pe_ix (ix_z (hu_of hr)) (pe_weak (t' := concC _ N (aVar 6)) (zv 6) (fun _ _ _ h => (conc_var h :))) (pe_weak (t' := concC _ N (aVar 11)) (zv 11) (fun _ _ _ h => (conc_var h :))) (fun _ _ => rfl)) (fun _ _ _ h => (conc_c2 s_ix h :)))) (fun _ _ _ h => (conc_ce h :))) (pa_weak (t' := concA _ N (WD E) fx_law aNil) pa_nil (fun _ _ _ h => (conc_nil h :)))) (fun _ _ _ h => (conc_cons h :)))) (fun _ _ _ h => (conc_cons h :)))) (fun _ _ _ h => (conc_tup h :)))) (fun _ _ _ h => (conc_asg rfl h :)))) (pss_weak (t' := concS _ N (WD E) fx_law sNext) pss_nil (fun _ _ _ h => (conc_next h :)))) (fun _ _ _ h => (conc_sif h :)))
    (pss_one (ps_weak (t' := concS _ N (WD E) fx_law (sIf _ _ _)) (ps_if (PW.pt (pw_weak (t' := concBE _ N (WD E) fx_law (eOr _ _)) (pw_or (pt_weak (t' := concBE _ N (WD E) fx_law (eTest _)) ((pt_weak (t' := tTest (concE _ N (WD E) fx_law (aE2 oNe _ _))) (pt_cmpR (op_zNe hr.units) (pe_weak (t' := concE _ N (WD E) fx_law (aCall 2 a__law_told _)) (pe_callS (ok__law_told A) (hr.mono (by decide)) rfl A.m__law_told A.F__law_told.kp A.B__law_told (fun σ => passAt (takes_of rfl rfl rfl rfl) σ) (pa_weak (t' := concAr _ N (WD E) fx_law (arVar 5 _)) (pa_cons (zv 5) (pa_weak (t' := concAr _ N (WD E) fx_law (arVar 11 _)) (pa_cons (zv 11) (pa_weak (t' := concAr _ N (WD E) fx_law arNil) pa_nil (fun _ _ _ h => (conc_arNil h :)))) (fun _ _ _ h => (conc_arVar h :)))) (fun _ _ _ h => (conc_arVar h :)))) (fun _ _ _ h => (conc_call h :))) (pe_weak (t' := concE _ N (WD E) fx_law (eFrz 12)) (zv 12) (fun _ _ _ h => (conc_frz h :))) (nomark _)) (fun _ _ _ h => test_mono (fun _ _ _ h => (conc_e2 s_ne h :)) h))) (fun _ _ _ h => (conc_etest h :))) (pw_or1 (pt_weak (t' := concBE _ N (WD E) fx_law (eTest _)) ((pt_weak (t' := tTest (concE _ N (WD E) fx_law (aE2 oNe _ _))) (pt_cmpR (op_zNe hr.units) (pe_weak (t' := concE _ N (WD E) fx_law (eMethV .LineDesk "has_line" 2 a_LineDesk_has_line 5 _)) (pe_methS (zv 5) A.cl_LineDesk A.me_LineDesk_has_line (ok_LineDesk_has_line A) (hr.mono (by decide)) A.B_LineDesk_has_line (fun σ => passAt (takes_of rfl rfl rfl rfl) σ) (pa_weak (t' := concAr _ N (WD E) fx_law (arVar 11 _)) (pa_cons (zv 11) (pa_weak (t' := concAr _ N (WD E) fx_law arNil) pa_nil (fun _ _ _ h => (conc_arNil h :)))) (fun _ _ _ h => (conc_arVar h :)))) (fun _ _ _ h => (conc_methV h :))) (pe_weak (t' := concE _ N (WD E) fx_law (aCE _)) ((pe_weak (t' := concC _ N (aC2 oIn _ _)) (pe_cmpR (op_zIn (hu66 hr)) (pe_weak (t' := concC _ N (aVar 11)) (zv 11) (fun _ _ _ h => (conc_var h :))) (pe_weak (t' := concC _ N (aVar 4)) (zv 4) (fun _ _ _ h => (conc_var h :))) (by rfl)) (fun _ _ _ h => (conc_c2 s_in.v h :)))) (fun _ _ _ h => (conc_ce h :))) (nomark _)) (fun _ _ _ h => test_mono (fun _ _ _ h => (conc_e2 s_ne h :)) h))) (fun _ _ _ h => (conc_etest h :))))) (fun _ _ _ h => (conc_eor h :)))) (pss_one (ps_weak (t' := concS _ N (WD E) fx_law (sRet _)) (ps_ret (pe_weak (t' := concE _ N (WD E) fx_law (aCE _)) ((pe_weak (t' := concC _ N (aK (.bl false))) (pe_bl) (fun _ _ _ h => (conc_k (fun _ => .bl _) h :)))) (fun _ _ _ h => (conc_ce h :)))) (fun _ _ _ h => (conc_ret h :)))) (pss_weak (t' := concS _ N (WD E) fx_law sNext) pss_nil (fun _ _ _ h => (conc_next h :)))) (fun _ _ _ h => (conc_sif h :))))) (fun _ _ _ h => (conc_seq h :)))) (fun _ _ _ h => (conc_seq h :)))) (fun _ _ _ h => (conc_forP (p := .seq) (g_name (i := 11) rfl) h :)))
    (pss_one (ps_weak (t' := concS _ N (WD E) fx_law (sIf _ _ _)) (ps_if (pt_weak (t' := concBE _ N (WD E) fx_law (eTest _)) ((pt_weak (t' := tTest (concE _ N (WD E) fx_law (aE2 oNe _ _))) (pt_cmpR (op_zNe hr.units) (pe_weak (t' := concE _ N (WD E) fx_law (eMethV .LineDesk "busy_lines" 1 a_LineDesk_busy_lines 5 arNil)) (pe_meth0S (zv 5) A.cl_LineDesk A.me_LineDesk_busy_lines (ok_LineDesk_busy_lines A) (hr.mono (by decide)) A.B_LineDesk_busy_lines (fun σ => passAt (takes_of rfl rfl rfl rfl) σ)) (fun _ _ _ h => (conc_methV0 h :))) (pe_weak (t' := concE _ N (WD E) fx_law (aE1 oTuple _)) (pe_callTy cr_tuple (by rfl) A.b_tuple zb_tuple (pa_cons (pe_weak (t' := concE _ N (WD E) fx_law (aE1 oSorted _)) (pe_callB cr_sortedIS (by rfl) A.b_sorted zb_sorted (pa_cons (pe_weak (t' := concE _ N (WD E) fx_law (eLcP .seq (pVar 4) (gaName 13) (bE (bTest (aC2 oNe (aC2 oIx (aVar 6) (aVar 13)) (acTup (acCons (aK (.str (Str.ofString "idle"))) (acNil)))))) (eFrz 13) [13])) (pe_lc (own := [("one", 13)]) (wi := iSeqB _ (concP _ N (pVar 4))) (g := gName 13) (tt := concBE _ N Y.W0 fx_law (bE (bTest (aC2 oNe (aC2 oIx (aVar 6) (aVar 13)) (acTup (acCons (aK (.str (Str.ofString "idle"))) (acNil))))))) (te := concE _ N Y.W0 fx_law (eFrz 13)) (by rfl) sc_law.nd (pi_seqB (pe_weak (t' := concP _ N (pVar 4)) (zv 4) (fun _ _ _ h => (conc_pvar h :)))) (blkOk_by (by change blkC n_law (defScope st_law) _ _ = true; decide +kernel)) (fun _ _ _ _ _ => (pg_name (i := 13) sc_law.nd rfl (by first | exact Or.inl rfl | exact Or.inr rfl))) (fun _ _ _ _ _ => pts_one (pt_weak (t' := concBE _ N Y.W0 fx_law (bE _)) ((pt_weak (t' := concB _ N (bTest _)) ((pt_weak (t' := tTest (concC _ N (aC2 oNe _ _))) (pt_cmpR (op_zNe hr.units) (pe_weak (t' := concC _ N (aC2 oIx _ _)) (pe_ix (ix_z (hu_of hr)) (pe_weak (t' := concC _ N (aVar 6)) (zv 6) (fun _ _ _ h => (conc_var h :))) (pe_weak (t' := concC _ N (aVar 13)) (zv 13) (fun _ _ _ h => (conc_var h :))) (fun _ _ => rfl)) (fun _ _ _ h => (conc_c2 s_ix h :))) (pe_weak (t' := concC _ N (acTup _)) (pe_tup (pa_weak (t' := concAC _ N (acCons _ _)) (pa_cons (pe_weak (t' := concC _ N (aK (.str (Str.ofString "idle")))) (pe_str) (fun _ _ _ h => (conc_k (fun _ => .str _) h :))) (pa_weak (t' := concAC _ N acNil) pa_nil (fun _ _ _ h => (conc_nilC h :)))) (fun _ _ _ h => (conc_consC h :)))) (fun _ _ _ h => (conc_tupC h :))) (nomark _)) (fun _ _ _ h => test_mono (fun _ _ _ h => (conc_c2 s_ne.v h :)) h))) (fun _ _ _ h => (conc_test h :)))) (fun _ _ _ h => (conc_bE h :)))) (fun _ _ _ _ _ => (pe_weak (t' := concE _ N Y.W0 fx_law (eFrz 13)) (zv 13) (fun _ _ _ h => (conc_frz h :))))) (fun _ _ _ h => ((fun h => conc_lcP (p := .seq) (g_name (i := 13) rfl) (by decide) (by decide) h) h :))) pa_nil)) (fun _ _ _ h => (conc_e1 s_sorted h :))) pa_nil)) (fun _ _ _ h => (conc_e1 s_tuple h :))) (nomark _)) (fun _ _ _ h => test_mono (fun _ _ _ h => (conc_e2 s_ne h :)) h))) (fun _ _ _ h => (conc_etest h :))) (pss_one (ps_weak (t' := concS _ N (WD E) fx_law (sRet _)) (ps_ret (pe_weak (t' := concE _ N (WD E) fx_law (aCE _)) ((pe_weak (t' := concC _ N (aK (.bl false))) (pe_bl) (fun _ _ _ h => (conc_k (fun _ => .bl _) h :)))) (fun _ _ _ h => (conc_ce h :)))) (fun _ _ _ h => (conc_ret h :)))) (pss_weak (t' := concS _ N (WD E) fx_law sNext) pss_nil (fun _ _ _ h => (conc_next h :)))) (fun _ _ _ h => (conc_sif h :))))) (fun _ _ _ h => (conc_seq h :)))) (fun _ _ _ h => (conc_seq h :)))) (fun _ _ _ h => (conc_seq h :)))) (fun _ _ _ h => (conc_seq h :)))) (fun _ _ _ h => (conc_seq h :)))) (fun _ _ _ h => (conc_seq h :)))) (fun _ _ _ h => (conc_for (g_name (i := 8) rfl) h :)))
    (pss_one (ps_weak (t' := concS _ N (WD E) fx_law (sRet _)) (ps_ret (pe_weak (t' := concE _ N (WD E) fx_law (aCE _)) ((pe_weak (t' := concC _ N (aK (.bl true))) (pe_bl) (fun _ _ _ h => (conc_k (fun _ => .bl _) h :)))) (fun _ _ _ h => (conc_ce h :)))) (fun _ _ _ h => (conc_ret h :))))) (fun _ _ _ h => (conc_seq h :)))) (fun _ _ _ h => (conc_seq h :)))) (fun _ _ _ h => (conc_seq h :)))) (fun _ _ _ h => (conc_seq h :)))) (fun _ _ _ h => (conc_seq h :)))) (fun _ _ _ h => (conc_seq h :)))) (fun _ _ _ h => (conc_seq h :)))) (fun _ _ _ h => (conc_seq h :)))) (fun _ _ _ h => (conc_seq h :)))
end

theorem walk {l : PySem.W.OpenLaw} {k : Nat} {q : Program} {loose : List Str} {XP : (Str → Option Value) → Heap → Prop} {YP : World → Heap → Prop} {d : DefRec} {K : Params → PySem.W.Frag} (hn : l.most = some 63) (hdf : d.params.defaults = []) (hr : Room k callerA)
    (hY : ∀ (w : World) (h : Heap), YP w h → (K w.params).In h)
    (F : ∀ (w : World) (mg : Str → Option Value) (fa : Addr) (h : Heap), (K w.params).In h → h.Ns mainGlobals mg → mg d.name = some (.ref fa) →
      ∃ (N : Nm) (fd : FuncData), (∀ (s : Shared) (u : Value), BindsTo s fd ⟨[u], []⟩ [("script", u)]) ∧ ∀ base : Heap, (K w.params).In base → base.Ns mainGlobals mg → FnOk l.prog w (K w.params) mg base (L2.CX l.prog w) k fa fd ["script"] (sp_law (K w.params) N)) :
    PySem.W.WalkO q loose XP YP l.row.toRowW d [] (fun f vs => PySem.call f vs) := by
  refine Att.attach_callB hn hdf fun w s₀ s₁ mg mb fa o pm cd doc a vs ns G Y ho hd hcd hmg hobj hints hlen hbits hg => ?_
  have KX := hY w _ Y
  obtain ⟨N, fd, hb, hF⟩ := F w mg fa _ KX G.T.g hmg
  exact law_call KX G.T.g G.T.b G.T.builtins G.T.nolimit hg hobj hints (Nat.le_trans hlen (by decide)) hr hF hb (fun H hO hS => ⟨a, ns, rfl, hS, hlen, hbits, fun _ => rfl⟩) fun H e s' hc => by
    obtain ⟨_, _, _, _, _, _, _, _, _, _, _, _, z⟩ := hc
    exact z
theorem all_mk {P : Program} {w : World} {K : PySem.W.Frag} {h : Heap} {mg : Str → Option Value} {fa : Addr} {a_LineDesk___init__ : Addr} {od_LineDesk___init__ an_LineDesk___init__ : Option Addr} {sl_LineDesk___init__ : Array (Option Value)} {oc_LineDesk___init__ kV_LineDesk___init__ dc_LineDesk___init__ pm_LineDesk___init__ cd_LineDesk___init__ ct_LineDesk___init__ : Value} {a_LineDesk_busy_lines : Addr} {od_LineDesk_busy_lines an_LineDesk_busy_lines : Option Addr} {sl_LineDesk_busy_lines : Array (Option Value)} {oc_LineDesk_busy_lines kV_LineDesk_busy_lines dc_LineDesk_busy_lines pm_LineDesk_busy_lines cd_LineDesk_busy_lines ct_LineDesk_busy_lines : Value} {a_LineDesk_has_line : Addr} {od_LineDesk_has_line an_LineDesk_has_line : Option Addr} {sl_LineDesk_has_line : Array (Option Value)} {oc_LineDesk_has_line kV_LineDesk_has_line dc_LineDesk_has_line pm_LineDesk_has_line cd_LineDesk_has_line ct_LineDesk_has_line : Value} {a__law_draws : Addr} {od__law_draws an__law_draws : Option Addr} {sl__law_draws : Array (Option Value)} {oc__law_draws kV__law_draws dc__law_draws pm__law_draws cd__law_draws ct__law_draws : Value} {a__law_lines : Addr} {od__law_lines an__law_lines : Option Addr} {sl__law_lines : Array (Option Value)} {oc__law_lines kV__law_lines dc__law_lines pm__law_lines cd__law_lines ct__law_lines : Value} {a_LineDesk_line_state : Addr} {od_LineDesk_line_state an_LineDesk_line_state : Option Addr} {sl_LineDesk_line_state : Array (Option Value)} {oc_LineDesk_line_state kV_LineDesk_line_state dc_LineDesk_line_state pm_LineDesk_line_state cd_LineDesk_line_state ct_LineDesk_line_state : Value} {a_LineDesk_put_state : Addr} {od_LineDesk_put_state an_LineDesk_put_state : Option Addr} {sl_LineDesk_put_state : Array (Option Value)} {oc_LineDesk_put_state kV_LineDesk_put_state dc_LineDesk_put_state pm_LineDesk_put_state cd_LineDesk_put_state ct_LineDesk_put_state : Value} {a__law_put : Addr} {od__law_put an__law_put : Option Addr} {sl__law_put : Array (Option Value)} {oc__law_put kV__law_put dc__law_put pm__law_put cd__law_put ct__law_put : Value} {a__law_some_state : Addr} {od__law_some_state an__law_some_state : Option Addr} {sl__law_some_state : Array (Option Value)} {oc__law_some_state kV__law_some_state dc__law_some_state pm__law_some_state cd__law_some_state ct__law_some_state : Value} {a__law_told : Addr} {od__law_told an__law_told : Option Addr} {sl__law_told : Array (Option Value)} {oc__law_told kV__law_told dc__law_told pm__law_told cd__law_told ct__law_told : Value} {a_law : Addr} {od_law an_law : Option Addr} {sl_law : Array (Option Value)} {oc_law kV_law dc_law pm_law cd_law ct_law : Value} {c_LineDesk : Addr} {c_LineError : Addr} {c_NoSuchLine : Addr}
    (X : K.In h) (G : h.Ns mainGlobals mg) (hfa : mg "law" = some (.ref fa))
    (aC_LineDesk : PySem.W.nsIn K mainGlobals "LineDesk" = some (some (.ref c_LineDesk)))
    (pg_LineDesk : PySem.W.plainGet K c_LineDesk Str.empty = true)
    (hd_LineDesk : PySem.W.hasDictIn K c_LineDesk = true)
    (po_LineDesk : PySem.W.plainOver K c_LineDesk = true)
    (sa_LineDesk : PySem.W.findIn K (.ref c_LineDesk) "__setattr__" = some (some (.builtin "object.__setattr__")))
    (mk_LineDesk : PySem.W.makesIn K c_LineDesk = true)
    (kc_LineDesk : PySem.W.keepIn K (.ref c_LineDesk) = true)
    (aF_LineDesk___init__ : PySem.W.findIn K (.ref c_LineDesk) "__init__" = some (some (.ref a_LineDesk___init__)))
    (iF_LineDesk___init__ : PySem.W.isFn K (.ref a_LineDesk___init__) = true)
    (lF_LineDesk___init__ : K.lookup a_LineDesk___init__ = some ⟨oc_LineDesk___init__, od_LineDesk___init__, .func (PySem.W.fnOf "__init__" "LineDesk.__init__" (defArgs st_LineDesk___init__) (defBody st_LineDesk___init__) (defScope st_LineDesk___init__) .none kV_LineDesk___init__ dc_LineDesk___init__ pm_LineDesk___init__ an_LineDesk___init__ cd_LineDesk___init__ ct_LineDesk___init__), sl_LineDesk___init__⟩)
    (cF_LineDesk___init__ : PySem.W.codeIn K cd_LineDesk___init__ "LineDesk.__init__" = true)
    (kF_LineDesk___init__ : PySem.W.keepIn K (.ref a_LineDesk___init__) = true)
    (aF_LineDesk_busy_lines : PySem.W.findIn K (.ref c_LineDesk) "busy_lines" = some (some (.ref a_LineDesk_busy_lines)))
    (iF_LineDesk_busy_lines : PySem.W.isFn K (.ref a_LineDesk_busy_lines) = true)
    (lF_LineDesk_busy_lines : K.lookup a_LineDesk_busy_lines = some ⟨oc_LineDesk_busy_lines, od_LineDesk_busy_lines, .func (PySem.W.fnOf "busy_lines" "LineDesk.busy_lines" (defArgs st_LineDesk_busy_lines) (defBody st_LineDesk_busy_lines) (defScope st_LineDesk_busy_lines) .none kV_LineDesk_busy_lines dc_LineDesk_busy_lines pm_LineDesk_busy_lines an_LineDesk_busy_lines cd_LineDesk_busy_lines ct_LineDesk_busy_lines), sl_LineDesk_busy_lines⟩)
    (cF_LineDesk_busy_lines : PySem.W.codeIn K cd_LineDesk_busy_lines "LineDesk.busy_lines" = true)
    (kF_LineDesk_busy_lines : PySem.W.keepIn K (.ref a_LineDesk_busy_lines) = true)
    (aF_LineDesk_has_line : PySem.W.findIn K (.ref c_LineDesk) "has_line" = some (some (.ref a_LineDesk_has_line)))
    (iF_LineDesk_has_line : PySem.W.isFn K (.ref a_LineDesk_has_line) = true)
    (lF_LineDesk_has_line : K.lookup a_LineDesk_has_line = some ⟨oc_LineDesk_has_line, od_LineDesk_has_line, .func (PySem.W.fnOf "has_line" "LineDesk.has_line" (defArgs st_LineDesk_has_line) (defBody st_LineDesk_has_line) (defScope st_LineDesk_has_line) .none kV_LineDesk_has_line dc_LineDesk_has_line pm_LineDesk_has_line an_LineDesk_has_line cd_LineDesk_has_line ct_LineDesk_has_line), sl_LineDesk_has_line⟩)
    (cF_LineDesk_has_line : PySem.W.codeIn K cd_LineDesk_has_line "LineDesk.has_line" = true)
    (kF_LineDesk_has_line : PySem.W.keepIn K (.ref a_LineDesk_has_line) = true)
    (aF__law_draws : PySem.W.nsIn K mainGlobals "_law_draws" = some (some (.ref a__law_draws)))
    (lF__law_draws : K.lookup a__law_draws = some ⟨oc__law_draws, od__law_draws, .func (PySem.W.fnOf "_law_draws" "_law_draws" (defArgs st__law_draws) (defBody st__law_draws) (defScope st__law_draws) .none kV__law_draws dc__law_draws pm__law_draws an__law_draws cd__law_draws ct__law_draws), sl__law_draws⟩)
    (cF__law_draws : PySem.W.codeIn K cd__law_draws "_law_draws" = true)
    (kF__law_draws : PySem.W.keepIn K (.ref a__law_draws) = true)
    (aF__law_lines : PySem.W.nsIn K mainGlobals "_law_lines" = some (some (.ref a__law_lines)))
    (lF__law_lines : K.lookup a__law_lines = some ⟨oc__law_lines, od__law_lines, .func (PySem.W.fnOf "_law_lines" "_law_lines" (defArgs st__law_lines) (defBody st__law_lines) (defScope st__law_lines) .none kV__law_lines dc__law_lines pm__law_lines an__law_lines cd__law_lines ct__law_lines), sl__law_lines⟩)
    (cF__law_lines : PySem.W.codeIn K cd__law_lines "_law_lines" = true)
    (kF__law_lines : PySem.W.keepIn K (.ref a__law_lines) = true)
    (aF_LineDesk_line_state : PySem.W.findIn K (.ref c_LineDesk) "line_state" = some (some (.ref a_LineDesk_line_state)))
    (iF_LineDesk_line_state : PySem.W.isFn K (.ref a_LineDesk_line_state) = true)
    (lF_LineDesk_line_state : K.lookup a_LineDesk_line_state = some ⟨oc_LineDesk_line_state, od_LineDesk_line_state, .func (PySem.W.fnOf "line_state" "LineDesk.line_state" (defArgs st_LineDesk_line_state) (defBody st_LineDesk_line_state) (defScope st_LineDesk_line_state) .none kV_LineDesk_line_state dc_LineDesk_line_state pm_LineDesk_line_state an_LineDesk_line_state cd_LineDesk_line_state ct_LineDesk_line_state), sl_LineDesk_line_state⟩)
    (cF_LineDesk_line_state : PySem.W.codeIn K cd_LineDesk_line_state "LineDesk.line_state" = true)
    (kF_LineDesk_line_state : PySem.W.keepIn K (.ref a_LineDesk_line_state) = true)
    (aF_LineDesk_put_state : PySem.W.findIn K (.ref c_LineDesk) "put_state" = some (some (.ref a_LineDesk_put_state)))
    (iF_LineDesk_put_state : PySem.W.isFn K (.ref a_LineDesk_put_state) = true)
    (lF_LineDesk_put_state : K.lookup a_LineDesk_put_state = some ⟨oc_LineDesk_put_state, od_LineDesk_put_state, .func (PySem.W.fnOf "put_state" "LineDesk.put_state" (defArgs st_LineDesk_put_state) (defBody st_LineDesk_put_state) (defScope st_LineDesk_put_state) .none kV_LineDesk_put_state dc_LineDesk_put_state pm_LineDesk_put_state an_LineDesk_put_state cd_LineDesk_put_state ct_LineDesk_put_state), sl_LineDesk_put_state⟩)
    (cF_LineDesk_put_state : PySem.W.codeIn K cd_LineDesk_put_state "LineDesk.put_state" = true)
    (kF_LineDesk_put_state : PySem.W.keepIn K (.ref a_LineDesk_put_state) = true)
    (aF__law_put : PySem.W.nsIn K mainGlobals "_law_put" = some (some (.ref a__law_put)))
    (lF__law_put : K.lookup a__law_put = some ⟨oc__law_put, od__law_put, .func (PySem.W.fnOf "_law_put" "_law_put" (defArgs st__law_put) (defBody st__law_put) (defScope st__law_put) .none kV__law_put dc__law_put pm__law_put an__law_put cd__law_put ct__law_put), sl__law_put⟩)
    (cF__law_put : PySem.W.codeIn K cd__law_put "_law_put" = true)
    (kF__law_put : PySem.W.keepIn K (.ref a__law_put) = true)
    (aF__law_some_state : PySem.W.nsIn K mainGlobals "_law_some_state" = some (some (.ref a__law_some_state)))
    (lF__law_some_state : K.lookup a__law_some_state = some ⟨oc__law_some_state, od__law_some_state, .func (PySem.W.fnOf "_law_some_state" "_law_some_state" (defArgs st__law_some_state) (defBody st__law_some_state) (defScope st__law_some_state) .none kV__law_some_state dc__law_some_state pm__law_some_state an__law_some_state cd__law_some_state ct__law_some_state), sl__law_some_state⟩)
    (cF__law_some_state : PySem.W.codeIn K cd__law_some_state "_law_some_state" = true)
    (kF__law_some_state : PySem.W.keepIn K (.ref a__law_some_state) = true)
    (aF__law_told : PySem.W.nsIn K mainGlobals "_law_told" = some (some (.ref a__law_told)))
    (lF__law_told : K.lookup a__law_told = some ⟨oc__law_told, od__law_told, .func (PySem.W.fnOf "_law_told" "_law_told" (defArgs st__law_told) (defBody st__law_told) (defScope st__law_told) .none kV__law_told dc__law_told pm__law_told an__law_told cd__law_told ct__law_told), sl__law_told⟩)
    (cF__law_told : PySem.W.codeIn K cd__law_told "_law_told" = true)
    (kF__law_told : PySem.W.keepIn K (.ref a__law_told) = true)
    (aF_law : PySem.W.nsIn K mainGlobals "law" = some (some (.ref a_law)))
    (lF_law : K.lookup a_law = some ⟨oc_law, od_law, .func (PySem.W.fnOf "law" "law" (defArgs st_law) (defBody st_law) (defScope st_law) .none kV_law dc_law pm_law an_law cd_law ct_law), sl_law⟩)
    (cF_law : PySem.W.codeIn K cd_law "law" = true)
    (kF_law : PySem.W.keepIn K (.ref a_law) = true)
    (na_LineDesk__states : PySem.W.findIn K (.ref c_LineDesk) "_states" = some none)
    (aX_LineError : PySem.W.nsIn K mainGlobals "LineError" = some (some (.ref c_LineError)))
    (xX_LineError : PySem.W.excIn K c_LineError [.type "ValueError", .type "Exception", .type "BaseException", .type "object"] "ValueError.__new__" = true)
    (kX_LineError : PySem.W.keepIn K (.ref c_LineError) = true)
    (sX_LineError : PySem.W.subIn K (.ref c_LineError) (.type "BaseException") = some true)
    (tX_LineError : PySem.W.typeIn K (.ref c_LineError) = some (.type "type"))
    (iX_LineError : PySem.W.isClsIn K c_LineError = true)
    (aX_NoSuchLine : PySem.W.nsIn K mainGlobals "NoSuchLine" = some (some (.ref c_NoSuchLine)))
    (xX_NoSuchLine : PySem.W.excIn K c_NoSuchLine [.type "ValueError", .type "Exception", .type "BaseException", .type "object"] "ValueError.__new__" = true)
    (kX_NoSuchLine : PySem.W.keepIn K (.ref c_NoSuchLine) = true)
    (sX_NoSuchLine : PySem.W.subIn K (.ref c_NoSuchLine) (.type "BaseException") = some true)
    (tX_NoSuchLine : PySem.W.typeIn K (.ref c_NoSuchLine) = some (.type "type"))
    (iX_NoSuchLine : PySem.W.isClsIn K c_NoSuchLine = true)
    (eX_LineError_LineError : PySem.W.subIn K (.ref c_LineError) (.ref c_LineError) = some true)
    (eX_LineError_NoSuchLine : PySem.W.subIn K (.ref c_LineError) (.ref c_NoSuchLine) = some false)
    (eX_NoSuchLine_LineError : PySem.W.subIn K (.ref c_NoSuchLine) (.ref c_LineError) = some true)
    (eX_NoSuchLine_NoSuchLine : PySem.W.subIn K (.ref c_NoSuchLine) (.ref c_NoSuchLine) = some true)
    (b_int : PySem.W.nsIn K mainGlobals "int" = some none)
    (b_len : PySem.W.nsIn K mainGlobals "len" = some none)
    (b_range : PySem.W.nsIn K mainGlobals "range" = some none)
    (b_sorted : PySem.W.nsIn K mainGlobals "sorted" = some none)
    (b_str : PySem.W.nsIn K mainGlobals "str" = some none)
    (b_tuple : PySem.W.nsIn K mainGlobals "tuple" = some none)
    : ∃ (N : Nm) (fd : FuncData), (∀ (s : Shared) (v : Value), BindsTo s fd ⟨[v], []⟩ [("script", v)]) ∧ ∀ base : Heap, K.In base → base.Ns mainGlobals mg → FnOk P w K mg base (L2.CX P w) 4 fa fd ["script"] (sp_law K N) := by
  have e : a_law = fa := by have e := hfa.symm.trans (PySem.W.mg_of X G aF_law); injection e with e; injection e with e; exact e.symm
  subst e
  have F_LineDesk___init__ := fun_mk (st := st_LineDesk___init__) lF_LineDesk___init__ cF_LineDesk___init__ kF_LineDesk___init__
  have B_LineDesk___init__ := F_LineDesk___init__.binds (ps := ["self", "numbers"]) fun _ _ _ _ _ _ us hl => match us, hl with | [_, _], _ => rfl
  have F_LineDesk_busy_lines := fun_mk (st := st_LineDesk_busy_lines) lF_LineDesk_busy_lines cF_LineDesk_busy_lines kF_LineDesk_busy_lines
  have B_LineDesk_busy_lines := F_LineDesk_busy_lines.binds (ps := ["self"]) fun _ _ _ _ _ _ us hl => match us, hl with | [_], _ => rfl
  have F_LineDesk_has_line := fun_mk (st := st_LineDesk_has_line) lF_LineDesk_has_line cF_LineDesk_has_line kF_LineDesk_has_line
  have B_LineDesk_has_line := F_LineDesk_has_line.binds (ps := ["self", "number"]) fun _ _ _ _ _ _ us hl => match us, hl with | [_, _], _ => rfl
  have F__law_draws := fun_mk (st := st__law_draws) lF__law_draws cF__law_draws kF__law_draws
  have B__law_draws := F__law_draws.binds (ps := ["script", "count"]) fun _ _ _ _ _ _ us hl => match us, hl with | [_, _], _ => rfl
  have F__law_lines := fun_mk (st := st__law_lines) lF__law_lines cF__law_lines kF__law_lines
  have B__law_lines := F__law_lines.binds (ps := ["draw", "many"]) fun _ _ _ _ _ _ us hl => match us, hl with | [_, _], _ => rfl
  have F_LineDesk_line_state := fun_mk (st := st_LineDesk_line_state) lF_LineDesk_line_state cF_LineDesk_line_state kF_LineDesk_line_state
  have B_LineDesk_line_state := F_LineDesk_line_state.binds (ps := ["self", "number"]) fun _ _ _ _ _ _ us hl => match us, hl with | [_, _], _ => rfl
  have F_LineDesk_put_state := fun_mk (st := st_LineDesk_put_state) lF_LineDesk_put_state cF_LineDesk_put_state kF_LineDesk_put_state
  have B_LineDesk_put_state := F_LineDesk_put_state.binds (ps := ["self", "number", "state"]) fun _ _ _ _ _ _ us hl => match us, hl with | [_, _, _], _ => rfl
  have F__law_put := fun_mk (st := st__law_put) lF__law_put cF__law_put kF__law_put
  have B__law_put := F__law_put.binds (ps := ["desk", "line", "state"]) fun _ _ _ _ _ _ us hl => match us, hl with | [_, _, _], _ => rfl
  have F__law_some_state := fun_mk (st := st__law_some_state) lF__law_some_state cF__law_some_state kF__law_some_state
  have B__law_some_state := F__law_some_state.binds (ps := ["draw"]) fun _ _ _ _ _ _ us hl => match us, hl with | [_], _ => rfl
  have F__law_told := fun_mk (st := st__law_told) lF__law_told cF__law_told kF__law_told
  have B__law_told := F__law_told.binds (ps := ["desk", "line"]) fun _ _ _ _ _ _ us hl => match us, hl with | [_, _], _ => rfl
  have F_law := fun_mk (st := st_law) lF_law cF_law kF_law
  have B_law := F_law.binds (ps := ["script"]) fun _ _ _ _ _ _ us hl => match us, hl with | [_], _ => rfl
  let N : Nm := { c_LineDesk := c_LineDesk, c_LineError := c_LineError, c_NoSuchLine := c_NoSuchLine }
  let A : Al K mg N := {
    a_LineDesk___init__ := a_LineDesk___init__,
    d_LineDesk___init__ := _,
    F_LineDesk___init__ := F_LineDesk___init__,
    B_LineDesk___init__ := B_LineDesk___init__,
    a_LineDesk_busy_lines := a_LineDesk_busy_lines,
    d_LineDesk_busy_lines := _,
    F_LineDesk_busy_lines := F_LineDesk_busy_lines,
    B_LineDesk_busy_lines := B_LineDesk_busy_lines,
    me_LineDesk_busy_lines := ⟨aF_LineDesk_busy_lines, iF_LineDesk_busy_lines, kF_LineDesk_busy_lines⟩,
    a_LineDesk_has_line := a_LineDesk_has_line,
    d_LineDesk_has_line := _,
    F_LineDesk_has_line := F_LineDesk_has_line,
    B_LineDesk_has_line := B_LineDesk_has_line,
    me_LineDesk_has_line := ⟨aF_LineDesk_has_line, iF_LineDesk_has_line, kF_LineDesk_has_line⟩,
    a__law_draws := a__law_draws,
    d__law_draws := _,
    F__law_draws := F__law_draws,
    B__law_draws := B__law_draws,
    m__law_draws := PySem.W.mg_of X G aF__law_draws,
    a__law_lines := a__law_lines,
    d__law_lines := _,
    F__law_lines := F__law_lines,
    B__law_lines := B__law_lines,
    m__law_lines := PySem.W.mg_of X G aF__law_lines,
    a_LineDesk_line_state := a_LineDesk_line_state,
    d_LineDesk_line_state := _,
    F_LineDesk_line_state := F_LineDesk_line_state,
    B_LineDesk_line_state := B_LineDesk_line_state,
    me_LineDesk_line_state := ⟨aF_LineDesk_line_state, iF_LineDesk_line_state, kF_LineDesk_line_state⟩,
    a_LineDesk_put_state := a_LineDesk_put_state,
    d_LineDesk_put_state := _,
    F_LineDesk_put_state := F_LineDesk_put_state,
    B_LineDesk_put_state := B_LineDesk_put_state,
    me_LineDesk_put_state := ⟨aF_LineDesk_put_state, iF_LineDesk_put_state, kF_LineDesk_put_state⟩,
    a__law_put := a__law_put,
    d__law_put := _,
    F__law_put := F__law_put,
    B__law_put := B__law_put,
    m__law_put := PySem.W.mg_of X G aF__law_put,
    a__law_some_state := a__law_some_state,
    d__law_some_state := _,
    F__law_some_state := F__law_some_state,
    B__law_some_state := B__law_some_state,
    m__law_some_state := PySem.W.mg_of X G aF__law_some_state,
    a__law_told := a__law_told,
    d__law_told := _,
    F__law_told := F__law_told,
    B__law_told := B__law_told,
    m__law_told := PySem.W.mg_of X G aF__law_told,
    a_law := a_law,
    d_law := _,
    F_law := F_law,
    B_law := B_law,
    m_law := PySem.W.mg_of X G aF_law,
    m_LineDesk := PySem.W.mg_of X G aC_LineDesk,
    cl_LineDesk := ⟨pg_LineDesk, hd_LineDesk, po_LineDesk, sa_LineDesk⟩,
    mk_LineDesk := ⟨mk_LineDesk, aF_LineDesk___init__, iF_LineDesk___init__, kc_LineDesk⟩,
    na_LineDesk__states := na_LineDesk__states,
    m_LineError := PySem.W.mg_of X G aX_LineError,
    x_LineError := xX_LineError,
    k_LineError := kX_LineError,
    s_LineError := sX_LineError,
    ty_LineError := tX_LineError,
    m_NoSuchLine := PySem.W.mg_of X G aX_NoSuchLine,
    x_NoSuchLine := xX_NoSuchLine,
    k_NoSuchLine := kX_NoSuchLine,
    s_NoSuchLine := sX_NoSuchLine,
    ty_NoSuchLine := tX_NoSuchLine,
    ex_LineError_LineError := exm_of sX_LineError iX_LineError tX_LineError eX_LineError_LineError sX_LineError,
    ex_LineError_NoSuchLine := exm_of sX_LineError iX_NoSuchLine tX_NoSuchLine eX_LineError_NoSuchLine sX_NoSuchLine,
    ex_NoSuchLine_LineError := exm_of sX_NoSuchLine iX_LineError tX_LineError eX_NoSuchLine_LineError sX_LineError,
    ex_NoSuchLine_NoSuchLine := exm_of sX_NoSuchLine iX_NoSuchLine tX_NoSuchLine eX_NoSuchLine_NoSuchLine sX_NoSuchLine,
    b_int := PySem.W.mg_none_of X G b_int,
    b_len := PySem.W.mg_none_of X G b_len,
    b_range := PySem.W.mg_none_of X G b_range,
    b_sorted := PySem.W.mg_none_of X G b_sorted,
    b_str := PySem.W.mg_none_of X G b_str,
    b_tuple := PySem.W.mg_none_of X G b_tuple }
  exact ⟨N, _, fun s v => .of_eq rfl, fun base _ _ => ok_law A⟩
end Y

open PySem PySem.W PyProof.Rows in
set_option maxRecDepth 100000 in
set_option maxHeartbeats 0 in
theorem PySem.Challenge.cw_copperline_k35_lines_and_their_states_holds : PySem.Challenge.rw_copperline_k35_lines_and_their_states.Holds := by
  w_on; o_law; k_head; (case hw => w_witness2)
  k_fill
  refine Y.walk (l := PySem.Challenge.rw_copperline_k35_lines_and_their_states) (k := 4) rfl rfl ⟨rfl, by decide, by decide⟩ (fun w h Y => PySem.W.kIn_of Y) ?F
  case F =>
    intro w mg fa h KX G hmg
    refine' Y.all_mk KX G hmg ?aC_LineDesk ?pg_LineDesk ?hd_LineDesk ?po_LineDesk ?sa_LineDesk ?mk_LineDesk ?kc_LineDesk ?aF_LineDesk___init__ ?iF_LineDesk___init__ ?lF_LineDesk___init__ ?cF_LineDesk___init__ ?kF_LineDesk___init__ ?aF_LineDesk_busy_lines ?iF_LineDesk_busy_lines ?lF_LineDesk_busy_lines ?cF_LineDesk_busy_lines ?kF_LineDesk_busy_lines ?aF_LineDesk_has_line ?iF_LineDesk_has_line ?lF_LineDesk_has_line ?cF_LineDesk_has_line ?kF_LineDesk_has_line ?aF__law_draws ?lF__law_draws ?cF__law_draws ?kF__law_draws ?aF__law_lines ?lF__law_lines ?cF__law_lines ?kF__law_lines ?aF_LineDesk_line_state ?iF_LineDesk_line_state ?lF_LineDesk_line_state ?cF_LineDesk_line_state ?kF_LineDesk_line_state ?aF_LineDesk_put_state ?iF_LineDesk_put_state ?lF_LineDesk_put_state ?cF_LineDesk_put_state ?kF_LineDesk_put_state ?aF__law_put ?lF__law_put ?cF__law_put ?kF__law_put ?aF__law_some_state ?lF__law_some_state ?cF__law_some_state ?kF__law_some_state ?aF__law_told ?lF__law_told ?cF__law_told ?kF__law_told ?aF_law ?lF_law ?cF_law ?kF_law ?na_LineDesk__states ?aX_LineError ?xX_LineError ?kX_LineError ?sX_LineError ?tX_LineError ?iX_LineError ?aX_NoSuchLine ?xX_NoSuchLine ?kX_NoSuchLine ?sX_NoSuchLine ?tX_NoSuchLine ?iX_NoSuchLine ?eX_LineError_LineError ?eX_LineError_NoSuchLine ?eX_NoSuchLine_LineError ?eX_NoSuchLine_NoSuchLine ?b_int ?b_len ?b_range ?b_sorted ?b_str ?b_tuple
    (case aC_LineDesk => k_is)
    (case pg_LineDesk => k_is)
    (case hd_LineDesk => k_is)
    (case po_LineDesk => k_is)
    (case sa_LineDesk => k_is)
    (case mk_LineDesk => k_is)
    (case kc_LineDesk => k_is)
    (case aF_LineDesk___init__ => k_is)
    (case iF_LineDesk___init__ => k_is)
    (case lF_LineDesk___init__ => k_is)
    (case cF_LineDesk___init__ => k_is)
    (case kF_LineDesk___init__ => k_is)
    (case aF_LineDesk_busy_lines => k_is)
    (case iF_LineDesk_busy_lines => k_is)
    (case lF_LineDesk_busy_lines => k_is)
    (case cF_LineDesk_busy_lines => k_is)
    (case kF_LineDesk_busy_lines => k_is)
    (case aF_LineDesk_has_line => k_is)
    (case iF_LineDesk_has_line => k_is)
    (case lF_LineDesk_has_line => k_is)
    (case cF_LineDesk_has_line => k_is)
    (case kF_LineDesk_has_line => k_is)
    (case aF__law_draws => k_is)
    (case lF__law_draws => k_is)
    (case cF__law_draws => k_is)
    (case kF__law_draws => k_is)
    (case aF__law_lines => k_is)
    (case lF__law_lines => k_is)
    (case cF__law_lines => k_is)
    (case kF__law_lines => k_is)
    (case aF_LineDesk_line_state => k_is)
    (case iF_LineDesk_line_state => k_is)
    (case lF_LineDesk_line_state => k_is)
    (case cF_LineDesk_line_state => k_is)
    (case kF_LineDesk_line_state => k_is)
    (case aF_LineDesk_put_state => k_is)
    (case iF_LineDesk_put_state => k_is)
    (case lF_LineDesk_put_state => k_is)
    (case cF_LineDesk_put_state => k_is)
    (case kF_LineDesk_put_state => k_is)
    (case aF__law_put => k_is)
    (case lF__law_put => k_is)
    (case cF__law_put => k_is)
    (case kF__law_put => k_is)
    (case aF__law_some_state => k_is)
    (case lF__law_some_state => k_is)
    (case cF__law_some_state => k_is)
    (case kF__law_some_state => k_is)
    (case aF__law_told => k_is)
    (case lF__law_told => k_is)
    (case cF__law_told => k_is)
    (case kF__law_told => k_is)
    (case aF_law => k_is)
    (case lF_law => k_is)
    (case cF_law => k_is)
    (case kF_law => k_is)
    (case na_LineDesk__states => k_is)
    (case aX_LineError => k_is)
    (case xX_LineError => k_exc)
    (case kX_LineError => k_is)
    (case sX_LineError => k_is)
    (case tX_LineError => k_is)
    (case iX_LineError => k_is)
    (case aX_NoSuchLine => k_is)
    (case xX_NoSuchLine => k_exc)
    (case kX_NoSuchLine => k_is)
    (case sX_NoSuchLine => k_is)
    (case tX_NoSuchLine => k_is)
    (case iX_NoSuchLine => k_is)
    (case eX_LineError_LineError => first | k_is | rfl)
    (case eX_LineError_NoSuchLine => first | k_is | rfl)
    (case eX_NoSuchLine_LineError => first | k_is | rfl)
    (case eX_NoSuchLine_NoSuchLine => first | k_is | rfl)
    (case b_int => k_is)
    (case b_len => k_is)
    (case b_range => k_is)
    (case b_sorted => k_is)
    (case b_str => k_is)
    (case b_tuple => k_is)
