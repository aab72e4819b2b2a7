import PyProof.Rows.All
import Wide.All
import OpenK.AllK
import Wide.FinOn
import HandS.ForMost
import HandS.Exc
import HandS.ExcOwn
import HandS.TryOnly
import HandS.TryMany
import HandS.WordsExc
import HandS.IsInst
import HandS.TupAny
import HandS.Wide
import HandS.Flow
import HandS.Style
import HandS.TupLe
import HandS.Deep
import HandS.FStr
import HandS.Small
import HandS.EndBits
import HandS.Walk
import HandS.SortInts
import PySem.Challenge.RW_copperline_k00_numbers_and_references
set_option Elab.async false
set_option linter.all false
set_option maxRecDepth 100000
set_option maxHeartbeats 4000000
/-! Zk: sums of rules by values; readings taken step by step. -/
namespace Z
open PySem PySem.Spec PyProof.Rows L2

/-! ### worlds: G is what never changes, H is all -/
structure Grow (G H G' H' : Hp) : Prop where
  hh : Same H H'
  gg : Same G G'
  gh : Same G' H'
  nw : ∀ b o, G' b = some o → G b = none → H b = none
theorem Grow.refl {G H : Hp} (s : Same G H) : Grow G H G H := ⟨Same.refl _, Same.refl _, s, fun b o e n => by rw [e] at n; cases n⟩
theorem Grow.trans {G H G1 H1 G2 H2 : Hp} (a : Grow G H G1 H1) (b : Grow G1 H1 G2 H2) : Grow G H G2 H2 :=
  ⟨a.hh.trans b.hh, a.gg.trans b.gg, b.gh, fun c o e n => by
    cases q : G1 c with
    | some o' => exact a.nw c o' q n
    | none => exact a.hh.free (b.nw c o e q)⟩
/-- a new thing that is to stay -/
theorem Grow.new {G H : Hp} {p : Addr} {o : HO} (s : Same G H) (h : H p = none) : Grow G H (upd G p o) (upd H p o) :=
  ⟨fun b u e => by rw [upd_ne (ne_of_none e h)]; exact e,
   fun b u e => by rw [upd_ne (ne_of_none (s b u e) h)]; exact e,
   fun b u e => by
     by_cases q : b = p
     · subst q; rw [upd_same] at e ⊢; exact e
     · rw [upd_ne q] at e ⊢; exact s b u e,
   fun b u e n => by
     by_cases q : b = p
     · subst q; exact h
     · rw [upd_ne q, n] at e; cases e⟩
theorem Grow.off {G H G' H' : Hp} (g : Grow G H G' H') {l : Addr} {o : HO} (h : H l = some o) (n : G l = none) : G' l = none := by
  cases q : G' l with
  | none => rfl
  | some u => have := g.nw l u q n; rw [h] at this; cases this
/-- what is not of G may change -/
theorem same_mut {G H : Hp} {l : Addr} {o : HO} (s : Same G H) (n : G l = none) : Same G (upd H l o) := fun b u e => by
  rw [upd_ne (ne_of_none e n)]; exact s b u e
theorem same_new {H : Hp} {p : Addr} {o : HO} (h : H p = none) : Same H (upd H p o) := fun b u e => by
  rw [upd_ne (ne_of_none e h)]; exact e
theorem none_of_same {G H : Hp} {p : Addr} (s : Same G H) (h : H p = none) : G p = none := s.free h

theorem hp_ne {H : Hp} {a b : Addr} {o u : HO} (h : H b = some o) (n : b ≠ a) : upd H a u b = some o := (upd_ne n).trans h

theorem hp_same {H H' : Hp} {b : Addr} {o : HO} (s : Same H H') (h : H b = some o) : H' b = some o := s b o h
theorem hp_grow {G H G' H' : Hp} {b : Addr} {o : HO} (s : Grow G H G' H') (h : H b = some o) : H' b = some o := s.hh b o h
theorem sl_same {K : PySem.W.Frag} {H H' : Hp} {b : Addr} {xs : List V} (s : Same H H') (h : SqL K H b xs) : SqL K H' b xs := s.seq h
theorem sl_grow {K : PySem.W.Frag} {G H G' H' : Hp} {b : Addr} {xs : List V} (s : Grow G H G' H') (h : SqL K H b xs) : SqL K H' b xs := s.hh.seq h

/-! ### data -/
mutual
inductive Rp (K : PySem.W.Frag) (G : Hp) : V → PyData → Prop
  | non : Rp K G .non .none
  | bl (b : Bool) : Rp K G (.bl b) (.bool b)
  | int (i : Int) : Rp K G (.int i) (.int i)
  | str (x : Str) : Rp K G (.str x) (.str x)
  | lst {a : Addr} {xs : List V} {ds : List PyData} : G a = some (.lst xs) → RpAll K G xs ds → Rp K G (.ref a) (.list ds)
  | tup {a : Addr} {xs : List V} {ds : List PyData} : SqT K G a xs → RpAll K G xs ds → Rp K G (.ref a) (.tuple ds)
inductive RpAll (K : PySem.W.Frag) (G : Hp) : List V → List PyData → Prop
  | nil : RpAll K G [] []
  | cons {v : V} {vs : List V} {d : PyData} {ds : List PyData} : Rp K G v d → RpAll K G vs ds → RpAll K G (v :: vs) (d :: ds)
end
theorem sqT_up {K : PySem.W.Frag} {G G' : Hp} (s : Same G G') {a : Addr} {xs : List V} (h : SqT K G a xs) : SqT K G' a xs := by
  rcases h with (h | ⟨o, h⟩) | h
  · exact .inl (.inl (s _ _ h))
  · exact .inl (.inr ⟨o, s _ _ h⟩)
  · exact .inr h
theorem st_same {K : PySem.W.Frag} {H H' : Hp} {b : Addr} {xs : List V} (s : Same H H') (h : SqT K H b xs) : SqT K H' b xs := sqT_up s h
theorem st_grow {K : PySem.W.Frag} {G H G' H' : Hp} {b : Addr} {xs : List V} (s : Grow G H G' H') (h : SqT K H b xs) : SqT K H' b xs := sqT_up s.hh h
mutual
theorem Rp.up {K : PySem.W.Frag} {G G' : Hp} (s : Same G G') : ∀ {v : V} {d : PyData}, Rp K G v d → Rp K G' v d
  | _, _, .non => .non
  | _, _, .bl b => .bl b
  | _, _, .int i => .int i
  | _, _, .str x => .str x
  | _, _, .lst h a => .lst (s _ _ h) (RpAll.up s a)
  | _, _, .tup h a => .tup (sqT_up s h) (RpAll.up s a)
theorem RpAll.up {K : PySem.W.Frag} {G G' : Hp} (s : Same G G') : ∀ {vs : List V} {ds : List PyData}, RpAll K G vs ds → RpAll K G' vs ds
  | _, _, .nil => .nil
  | _, _, .cons h a => .cons (Rp.up s h) (RpAll.up s a)
end
mutual
theorem Rp.dp {K : PySem.W.Frag} {G : Hp} : ∀ {v : V} {d : PyData}, Rp K G v d → Dp K G v d
  | _, _, .non => .non
  | _, _, .bl b => .bl b
  | _, _, .int i => .int i
  | _, _, .str x => .str x
  | _, _, .lst h a => .lst (SqL.of h) (RpAll.dp a)
  | _, _, .tup h a => .tup h (RpAll.dp a)
theorem RpAll.dp {K : PySem.W.Frag} {G : Hp} : ∀ {vs : List V} {ds : List PyData}, RpAll K G vs ds → DpAll K G vs ds
  | _, _, .nil => .nil
  | _, _, .cons h a => .cons (Rp.dp h) (RpAll.dp a)
end
theorem RpAll.len {K : PySem.W.Frag} {G : Hp} : ∀ {vs : List V} {ds : List PyData}, RpAll K G vs ds → vs.length = ds.length
  | _, _, .nil => rfl
  | _, _, .cons _ a => congrArg (· + 1) (RpAll.len a)
theorem RpAll.get {K : PySem.W.Frag} {G : Hp} : ∀ {vs : List V} {ds : List PyData} {i : Nat} {d : PyData}, RpAll K G vs ds → ds[i]? = some d → ∃ v, vs[i]? = some v ∧ Rp K G v d
  | _, _, _, _, .nil, e => by simp at e
  | _, _, 0, _, .cons r _, e => by simp at e; subst e; exact ⟨_, rfl, r⟩
  | _, _, i + 1, d, .cons _ t, e => by
    obtain ⟨u, h1, h2⟩ := RpAll.get (i := i) (d := d) t (by simpa using e)
    exact ⟨u, by simpa using h1, h2⟩
theorem RpAll.getV {K : PySem.W.Frag} {G : Hp} : ∀ {vs : List V} {ds : List PyData} {i : Nat} {v : V}, RpAll K G vs ds → vs[i]? = some v → ∃ d, ds[i]? = some d ∧ Rp K G v d
  | _, _, _, _, .nil, e => by simp at e
  | _, _, 0, _, .cons r _, e => by simp at e; subst e; exact ⟨_, rfl, r⟩
  | _, _, i + 1, d, .cons _ t, e => by
    obtain ⟨u, h1, h2⟩ := RpAll.getV (i := i) (v := d) t (by simpa using e)
    exact ⟨u, by simpa using h1, h2⟩
theorem RpAll.append {K : PySem.W.Frag} {G : Hp} : ∀ {vs ws : List V} {ds es : List PyData}, RpAll K G vs ds → RpAll K G ws es → RpAll K G (vs ++ ws) (ds ++ es)
  | _, _, _, _, .nil, s => s
  | _, _, _, _, .cons r t, s => .cons r (RpAll.append t s)
theorem RpAll.take {K : PySem.W.Frag} {G : Hp} : ∀ {vs : List V} {ds : List PyData} (n : Nat), RpAll K G vs ds → RpAll K G (vs.take n) (ds.take n)
  | _, _, 0, _ => .nil
  | _, _, _ + 1, .nil => .nil
  | _, _, n + 1, .cons r t => .cons r (RpAll.take n t)
theorem RpAll.drop {K : PySem.W.Frag} {G : Hp} : ∀ {vs : List V} {ds : List PyData} (n : Nat), RpAll K G vs ds → RpAll K G (vs.drop n) (ds.drop n)
  | _, _, 0, r => r
  | _, _, _ + 1, .nil => .nil
  | _, _, n + 1, .cons _ t => RpAll.drop n t
theorem RpAll.ints {K : PySem.W.Frag} {G : Hp} : ∀ (ns : List Int), RpAll K G (ns.map V.int) (ns.map PyData.int)
  | [] => .nil
  | n :: ns => .cons (.int n) (RpAll.ints ns)
theorem RpAll.ints_inv {K : PySem.W.Frag} {G : Hp} : ∀ {vs : List V} {ns : List Int}, RpAll K G vs (ns.map PyData.int) → vs = ns.map V.int
  | _, [], h => by cases h; rfl
  | _, n :: ns, h => by
    cases h with
    | cons a b => cases a; rw [RpAll.ints_inv b]; rfl
theorem rp_tup {K : PySem.W.Frag} {G : Hp} {v : V} {ds : List PyData} (h : Rp K G v (.tuple ds)) : ∃ p xs, v = .ref p ∧ SqT K G p xs ∧ RpAll K G xs ds := by
  cases h with
  | tup h a => exact ⟨_, _, rfl, h, a⟩
theorem rp_lst {K : PySem.W.Frag} {G : Hp} {v : V} {ds : List PyData} (h : Rp K G v (.list ds)) : ∃ p xs, v = .ref p ∧ G p = some (.lst xs) ∧ RpAll K G xs ds := by
  cases h with
  | lst h a => exact ⟨_, _, rfl, h, a⟩
theorem rp_int {K : PySem.W.Frag} {G : Hp} {v : V} {i : Int} (h : Rp K G v (.int i)) : v = .int i := by cases h; rfl
theorem rp_str {K : PySem.W.Frag} {G : Hp} {v : V} {i : Str} (h : Rp K G v (.str i)) : v = .str i := by cases h; rfl
theorem rp_bool {K : PySem.W.Frag} {G : Hp} {v : V} {i : Bool} (h : Rp K G v (.bool i)) : v = .bl i := by cases h; rfl
theorem rp_none {K : PySem.W.Frag} {G : Hp} {v : V} (h : Rp K G v .none) : v = .non := by cases h; rfl

/-! ### what a call hands back -/
/-- data: made anew or of what stood -/
def Ret (K : PySem.W.Frag) (G H : Hp) (d : PyData) (Q : VK) : Prop := ∀ v G' H', Grow G H G' H' → Rp K G' v d → Q v H'
/-- a value -/
def RetV (H : Hp) (v : V) (Q : VK) : Prop := ∀ H', Same H H' → Q v H'
/-- a new list -/
def RetL (H : Hp) (xs : List V) (Q : VK) : Prop := ∀ p H', H p = none → Same H H' → H' p = some (.lst xs) → Q (.ref p) H'
/-- a new list of data -/
def RetD (K : PySem.W.Frag) (G H : Hp) (ds : List PyData) (Q : VK) : Prop := ∀ p xs G' H', H p = none → Grow G H G' H' → G' p = none → H' p = some (.lst xs) → RpAll K G' xs ds → Q (.ref p) H'
theorem RetV.go {H H1 : Hp} {v : V} {Q : VK} (r : RetV H v Q) (s : Same H H1) : Q v H1 := r _ s
theorem RetV.of {H H1 : Hp} {v : V} {Q : VK} (r : RetV H v Q) (s : Same H H1) : RetV H1 v Q := fun H' s' => r H' (s.trans s')

/-! ### operators: sums of rules -/
section
variable {X : Cx}
theorem OpR.or {f : Value → Value → Sem Value} {r r' : R2} (h : OpR X f r) (h' : OpR X f r') : OpR X f (fun x y H Q => r x y H Q ∨ r' x y H Q) := by
  intro pins s σ H x y v u Q I rx ry q
  rcases q with q | q
  · exact h pins s σ H x y v u Q I rx ry q
  · exact h' pins s σ H x y v u Q I rx ry q
theorem CallR.or {f : Value} {r r' : List V → Hp → VK → Prop} (h : CallR X f r) (h' : CallR X f r') : CallR X f (fun xs H Q => r xs H Q ∨ r' xs H Q) := by
  intro pins s σ H xs us Q I rx q
  rcases q with q | q
  · exact h pins s σ H xs us Q I rx q
  · exact h' pins s σ H xs us Q I rx q
theorem SlR.or {r r' : V → Option Int → Option Int → Hp → VK → Prop} (h : SlR X r) (h' : SlR X r') : SlR X (fun x l u H Q => r x l u H Q ∨ r' x l u H Q) := by
  intro pins s σ H x v vl vu lo hi sl Q I rx hs p1 p2 q
  rcases q with q | q
  · exact h pins s σ H x v vl vu lo hi sl Q I rx hs p1 p2 q
  · exact h' pins s σ H x v vl vu lo hi sl Q I rx hs p1 p2 q
/-- * of great ints -/
def CMulB (i j : Int) : Prop := i.natAbs.log2 + j.natAbs.log2 < 100000000
theorem CMulB.ok {i j : Int} (h : CMulB i j) : IntMulOk i j := by
  have b : ∀ x : Int, Builtin.Int.intBits x ≤ x.natAbs.log2 + 1 := fun x => by
    unfold Builtin.Int.intBits
    split <;> omega
  have h1 := b i
  have h2 := b j
  have h3 : i.natAbs.log2 + j.natAbs.log2 < 100000000 := h
  have e : bitsLine = 134217728 := by decide
  unfold IntMulOk
  intro z
  rw [Bool.and_eq_true] at z
  have z2 := z.2
  unfold Builtin.Int.intTooBig at z2
  have z3 := of_decide_eq_true z2
  rw [e] at z3
  omega
theorem op_mulB : OpR X (binaryOp .Mult) (rI CMulB fun i j => .int (i * j)) := opI fun _ _ _ _ _ _ _ hc q => mul_int q hc.ok
def zAdd (K : PySem.W.Frag) : R2 := fun x y H Q => match x, y with
  | .int i, .int j => Q (.int (i + j)) H
  | .str a, .str b => a.length + b.length ≤ sizeLine ∧ Q (.str (a ++ b)) H
  | .ref _, .ref _ => rCat x y H Q ∨ rCatA K x y H Q
  | _, _ => False
theorem op_zAdd : OpR X (binaryOp .Add) (zAdd X.K) := by
  intro pins s σ H x y v u Q I rx ry h
  cases x <;> cases y <;> first
    | exact h.elim
    | exact op_add pins s σ H _ _ v u Q I rx ry ⟨_, _, rfl, rfl, h⟩
    | exact op_add_str pins s σ H _ _ v u Q I rx ry ⟨_, _, rfl, rfl, h.1, h.2⟩
    | exact (op_cat.or op_catA) pins s σ H _ _ v u Q I rx ry h
def zSub : R2 := fun x y H Q => match x, y with
  | .int i, .int j => Q (.int (i - j)) H
  | _, _ => False
theorem op_zSub : OpR X (binaryOp .Sub) zSub := by
  intro pins s σ H x y v u Q I rx ry h
  cases x <;> cases y <;> first
    | exact h.elim
    | exact op_sub pins s σ H _ _ v u Q I rx ry ⟨_, _, rfl, rfl, h⟩
def zMul : R2 := fun x y H Q => match x, y with
  | .int i, .int j => CMulB i j ∧ Q (.int (i * j)) H
  | .ref _, .int _ => rRep x y H Q
  | _, _ => False
theorem op_zMul : OpR X (binaryOp .Mult) zMul := by
  intro pins s σ H x y v u Q I rx ry h
  cases x <;> cases y <;> first
    | exact h.elim
    | exact op_mulB pins s σ H _ _ v u Q I rx ry ⟨_, _, rfl, rfl, h.1, h.2⟩
    | exact op_rep pins s σ H _ _ v u Q I rx ry h
def zDiv : R2 := fun x y H Q => match x, y with
  | .int i, .int j => CDivW i j ∧ Q (.int (i / j)) H
  | _, _ => False
theorem op_zDiv : OpR X (binaryOp .FloorDiv) zDiv := by
  intro pins s σ H x y v u Q I rx ry h
  cases x <;> cases y <;> first
    | exact h.elim
    | exact op_fdivW pins s σ H _ _ v u Q I rx ry ⟨_, _, rfl, rfl, h.1, h.2⟩
def zMod : R2 := fun x y H Q => match x, y with
  | .int i, .int j => 0 < j ∧ Q (.int (i % j)) H
  | _, _ => False
theorem op_zMod : OpR X (binaryOp .Mod) zMod := by
  intro pins s σ H x y v u Q I rx ry h
  cases x <;> cases y <;> first
    | exact h.elim
    | exact op_mod pins s σ H _ _ v u Q I rx ry ⟨_, _, rfl, rfl, h.1, h.2⟩
def zPow : R2 := fun x y H Q => match x, y with
  | .int i, .int j => CPow i j ∧ Q (.int (i ^ j.toNat)) H
  | _, _ => False
theorem op_zPow : OpR X (binaryOp .Pow) zPow := by
  intro pins s σ H x y v u Q I rx ry h
  cases x <;> cases y <;> first
    | exact h.elim
    | exact op_pow pins s σ H _ _ v u Q I rx ry ⟨_, _, rfl, rfl, h.1, h.2⟩
/-- == and !=: two scalars, or data of any depth -/
def zEq (K : PySem.W.Frag) : R2 := fun x y H Q => match x, y with
  | .non, .non => Q (.bl true) H
  | .int i, .int j => Q (.bl (decide (i = j))) H
  | .str i, .str j => Q (.bl (decide (i = j))) H
  | .bl i, .bl j => Q (.bl (decide (i = j))) H
  | .non, .int _ | .non, .bl _ | .non, .str _ | .int _, .non | .bl _, .non | .str _, .non | .int _, .str _ | .str _, .int _ | .bl _, .str _ | .str _, .bl _ => Q (.bl false) H
  | x, y => rEqD K x y H Q
def zNe (K : PySem.W.Frag) : R2 := fun x y H Q => match x, y with
  | .non, .non => Q (.bl false) H
  | .int i, .int j => Q (.bl (!decide (i = j))) H
  | .str i, .str j => Q (.bl (!decide (i = j))) H
  | .bl i, .bl j => Q (.bl (!decide (i = j))) H
  | .non, .int _ | .non, .bl _ | .non, .str _ | .int _, .non | .bl _, .non | .str _, .non | .int _, .str _ | .str _, .int _ | .bl _, .str _ | .str _, .bl _ => Q (.bl true) H
  | x, y => rNeD K x y H Q
theorem dec_int (i j : Int) : decide (V.int i = V.int j) = decide (i = j) := decide_eq_decide.mpr ⟨fun h => by cases h; rfl, fun h => by rw [h]⟩
theorem dec_str (i j : Str) : decide (V.str i = V.str j) = decide (i = j) := decide_eq_decide.mpr ⟨fun h => by cases h; rfl, fun h => by rw [h]⟩
theorem dec_bl (i j : Bool) : decide (V.bl i = V.bl j) = decide (i = j) := decide_eq_decide.mpr ⟨fun h => by cases h; rfl, fun h => by rw [h]⟩
theorem op_zEq (hu : X.A.units + 64 < cLine) : OpR X (compareOp .Eq) (zEq X.K) := by
  intro pins s σ H x y v u Q I rx ry h
  cases x <;> cases y <;> first
    | exact op_eqD hu pins s σ H _ _ v u Q I rx ry h
    | exact op_eq pins s σ H _ _ v u Q I rx ry ⟨rfl, by rw [dec_int]; exact h⟩
    | exact op_eq pins s σ H _ _ v u Q I rx ry ⟨rfl, by rw [dec_str]; exact h⟩
    | exact op_eq pins s σ H _ _ v u Q I rx ry ⟨rfl, by rw [dec_bl]; exact h⟩
    | exact op_eq pins s σ H _ _ v u Q I rx ry ⟨rfl, h⟩
theorem op_zNe (hu : X.A.units + 64 < cLine) : OpR X (compareOp .NotEq) (zNe X.K) := by
  intro pins s σ H x y v u Q I rx ry h
  cases x <;> cases y <;> first
    | exact op_neD hu pins s σ H _ _ v u Q I rx ry h
    | exact op_ne pins s σ H _ _ v u Q I rx ry ⟨rfl, by rw [dec_int]; exact h⟩
    | exact op_ne pins s σ H _ _ v u Q I rx ry ⟨rfl, by rw [dec_str]; exact h⟩
    | exact op_ne pins s σ H _ _ v u Q I rx ry ⟨rfl, by rw [dec_bl]; exact h⟩
    | exact op_ne pins s σ H _ _ v u Q I rx ry ⟨rfl, h⟩
def zLt (K : PySem.W.Frag) : R2 := fun x y H Q => match x, y with
  | .int i, .int j => Q (.bl (decide (i < j))) H
  | .str i, .str j => Q (.bl (decide (i.cps.toList < j.cps.toList))) H
  | .ref _, .ref _ => rLtT K x y H Q
  | _, _ => False
theorem op_zLt (hu : X.A.units + 64 < cLine) : OpR X (compareOp .Lt) (zLt X.K) := by
  intro pins s σ H x y v u Q I rx ry h
  cases x <;> cases y <;> first
    | exact h.elim
    | exact op_lt pins s σ H _ _ v u Q I rx ry ⟨_, _, rfl, rfl, h⟩
    | exact op_lt_str pins s σ H _ _ v u Q I rx ry ⟨_, _, rfl, rfl, h⟩
    | exact op_ltT (by omega) pins s σ H _ _ v u Q I rx ry h
def zLe : R2 := fun x y H Q => match x, y with
  | .int i, .int j => Q (.bl (decide (i ≤ j))) H
  | _, _ => False
theorem op_zLe : OpR X (compareOp .LtE) zLe := by
  intro pins s σ H x y v u Q I rx ry h
  cases x <;> cases y <;> first
    | exact h.elim
    | exact op_le pins s σ H _ _ v u Q I rx ry ⟨_, _, rfl, rfl, h⟩
def zGt : R2 := fun x y H Q => match x, y with
  | .int i, .int j => Q (.bl (decide (j < i))) H
  | _, _ => False
theorem op_zGt : OpR X (compareOp .Gt) zGt := by
  intro pins s σ H x y v u Q I rx ry h
  cases x <;> cases y <;> first
    | exact h.elim
    | exact op_gt pins s σ H _ _ v u Q I rx ry ⟨_, _, rfl, rfl, h⟩
def zGe : R2 := fun x y H Q => match x, y with
  | .int i, .int j => Q (.bl (decide (j ≤ i))) H
  | _, _ => False
theorem op_zGe : OpR X (compareOp .GtE) zGe := by
  intro pins s σ H x y v u Q I rx ry h
  cases x <;> cases y <;> first
    | exact h.elim
    | exact op_ge pins s σ H _ _ v u Q I rx ry ⟨_, _, rfl, rfl, h⟩
/-- in: a text's sign, a sequence of flat things, a list of data, a dict -/
def rInDict : R2 := fun y x H Q => ∃ a o, x = .ref a ∧ DGet H a y o ∧ Q (.bl o.isSome) H
def rNotInDict : R2 := fun y x H Q => ∃ a o, x = .ref a ∧ DGet H a y o ∧ Q (.bl (!o.isSome)) H
theorem op_inDict (hu : X.A.units + 1 < cLine) : OpR X (compareOp .In) rInDict := by
  intro pins s σ H y x u v Q I ry rx h
  obtain ⟨a, o, rfl, g, q⟩ := h
  obtain rfl : v = Value.ref a := rx
  exact d_in hu I g ry fun s3 I3 => ⟨.bl o.isSome, H, I3, rfl, q⟩
theorem op_notInDict (hu : X.A.units + 1 < cLine) : OpR X (compareOp .NotIn) rNotInDict := by
  intro pins s σ H y x u v Q I ry rx h
  obtain ⟨a, o, rfl, g, q⟩ := h
  obtain rfl : v = Value.ref a := rx
  exact d_notIn hu I g ry fun s3 I3 => ⟨.bl (!o.isSome), H, I3, rfl, q⟩
def rInS1 : R2 := fun x y H Q => ∃ (c : Nat) (z : Str), x = .str ⟨#[c]⟩ ∧ y = .str z ∧ Q (.bl (decide (c ∈ z.cps.toList))) H
def rNotInS1 : R2 := fun x y H Q => ∃ (c : Nat) (z : Str), x = .str ⟨#[c]⟩ ∧ y = .str z ∧ Q (.bl (!decide (c ∈ z.cps.toList))) H
def zIn (K : PySem.W.Frag) : R2 := fun x y H Q => (rInS1 x y H Q ∨ rIn K false x y H Q) ∨ (rInD K x y H Q ∨ rInDict x y H Q)
def zNotIn (K : PySem.W.Frag) : R2 := fun x y H Q => (rNotInS1 x y H Q ∨ rIn K true x y H Q) ∨ (rNotInD K x y H Q ∨ rNotInDict x y H Q)
theorem op_zIn (hu : X.A.units + 66 < cLine) : OpR X (compareOp .In) (zIn X.K) := (op_in_sign.or op_in_seq).or ((op_inD (by omega)).or (op_inDict (by omega)))
theorem op_zNotIn (hu : X.A.units + 66 < cLine) : OpR X (compareOp .NotIn) (zNotIn X.K) := (op_notIn_sign.or op_notIn_seq).or ((op_notInD (by omega)).or (op_notInDict (by omega)))
/-- is, is not: None, bools -/
def zIs : R2 := fun x y H Q => match x, y with
  | .bl a, .bl b => Q (.bl (decide (a = b))) H
  | x, .non => Q (.bl (decide (x = .non))) H
  | _, _ => False
theorem op_zIs : OpR X (compareOp .Is) zIs := by
  intro pins s σ H x y v u Q I rx ry h
  cases x <;> cases y <;> first
    | exact h.elim
    | exact op_isN pins s σ H _ _ v u Q I rx ry ⟨rfl, h⟩
    | exact op_isBl pins s σ H _ _ v u Q I rx ry ⟨_, _, rfl, rfl, h⟩
def zIsNot : R2 := fun x y H Q => match x, y with
  | .bl a, .bl b => Q (.bl (!decide (a = b))) H
  | x, .non => Q (.bl (!decide (x = .non))) H
  | _, _ => False
theorem op_zIsNot : OpR X (compareOp .IsNot) zIsNot := by
  intro pins s σ H x y v u Q I rx ry h
  cases x <;> cases y <;> first
    | exact h.elim
    | exact op_notN pins s σ H _ _ v u Q I rx ry ⟨rfl, h⟩
    | exact op_notBl pins s σ H _ _ v u Q I rx ry ⟨_, _, rfl, rfl, h⟩
/-- a[i]: list, tuple, text, dict -/
def zIx (K : PySem.W.Frag) : R2 := fun x y H Q => (rIxL K x y H Q ∨ rIxT K x y H Q ∨ rIxS x y H Q) ∨ ∃ a v, x = .ref a ∧ DGet H a y (some v) ∧ Q v H
theorem ix_dict (hu : X.A.units + 1 < cLine) : IxR X (fun x y H Q => ∃ a v, x = .ref a ∧ DGet H a y (some v) ∧ Q v H) := by
  intro value slice pins s σ H x y v u Q I rx ry h hs
  obtain ⟨a, z, rfl, g, q⟩ := h
  obtain rfl : v = Value.ref a := rx
  exact tail_any (dict_typeIs I g) PySem.F.slot_dict_getitem.lookup (d_getItem hu I g ry fun w' s3 I3 rw' => ⟨z, H, I3, rw', q⟩) hs
theorem ix_z (hu : X.A.units + 1 < cLine) : IxR X (zIx X.K) := ix_seq.or (ix_dict hu)
/-- a[i:j] -/
def zSl (K : PySem.W.Frag) : V → Option Int → Option Int → Hp → VK → Prop := fun x lo hi H Q => rSlL K x lo hi H Q ∨ (rSlA K x lo hi H Q ∨ rSlS x lo hi H Q)
theorem sl_z : SlR X (zSl X.K) := SlR.or sl_list (SlR.or sl_tupA sl_str)
/-- a name's slot -/
def zVar (i : Nat) : TE := fun σ H Q => match σ[i]? with
  | some (some v) => Q v H
  | _ => False
theorem zv (i : Nat) {x : Str} {pos : Pos} (hN : X.N[i]? = some x := by rfl) (hv : Vis X.env.scope x := by first | exact Or.inl rfl | exact Or.inr (Or.inl rfl) | exact Or.inr (Or.inr rfl)) (hd : (x == ("__debug__" : Str)) = false := by decide)
    (hcd : (x == ("__classdict__" : Str)) = false := by decide) : PE X (.Name x pos) (zVar i) := ⟨fun pins s σ H Q I h => (pe_var (i := i) hN hv hd hcd).run pins s σ H Q I (by
  unfold zVar at h
  split at h
  · exact ⟨_, by assumption, h⟩
  · exact h.elim)⟩
/-- len -/
def zLen (K : PySem.W.Frag) : List V → Hp → VK → Prop := fun xs H Q => (∃ x n, xs = [x] ∧ LenV K x H n ∧ Q (.int n) H) ∨ ∃ a kvs, xs = [V.ref a] ∧ H a = some (.dK kvs) ∧ Q (.int kvs.length) H
theorem cr_len : CallR X (.builtin "len") (zLen X.K) := CallR.or call_len call_lenD
end
end Z
/-! Zx: readings evaluated by equations. -/
namespace Z
open PySem PySem.Spec PyProof.Rows L2
section
variable {K : PySem.W.Frag} {σ σ' : L2.St} {H : Hp} {Q : VK} {QA : List V → Hp → Prop} {QB : Bool → Hp → Prop} {QO : Option Int → Hp → Prop} {QS : L2.St → Hp → Prop} {D : Ends} {i : Nat} {v x y : V} {ta tb tc te : TE} {tA tr : TA} {r : R2} {c d : TT} {t u : TS} {g : TG}
def zTru (K : PySem.W.Frag) (te : TE) : TT := fun σ H Q => te σ H fun x H' => ∃ k, TruV K x H' k ∧ Q k H'
def zAug (i : Nat) (te : TE) (ti : TIp) : TS := fun D σ H => match σ[i]? with
  | some (some x) => te σ H fun y H1 => ti x y H1 fun z H2 => gName i z σ H2 D.nx
  | _ => False
theorem ps_zaug {X : Cx} {i : Nat} {x : Str} {e : Expr} {te : TE} {op : Operator} {ti : TIp} {pos pos' : Pos} (hN : X.N.Nodup) (hi : X.N[i]? = some x) (hx : Loc X.env.scope x) (he : PE X e te) (ho : PIp X op ti) (hf : X.fn x = true ∨ X.env.scope.names.lookup x = some .local := by first | exact .inl rfl | exact .inr rfl | assumption) :
    PS X (.AugAssign (.Name x pos') op e pos) (zAug i te ti) := ⟨fun pins s σ H D I h => (ps_aug (i := i) hN hi hx he ho hf).run pins s σ H D I (by
  unfold zAug at h
  split at h
  · exact ⟨_, by assumption, h⟩
  · exact h.elim)⟩

theorem e_v0 {l : L2.St} : zVar 0 (some v :: l) H Q = Q v H := rfl
theorem e_n0 {l : L2.St} {w : Option V} : gName 0 v (w :: l) H QS = QS (some v :: l) H := rfl
theorem e_v1 {a0 : Option V} {l : L2.St} : zVar 1 (a0 :: some v :: l) H Q = Q v H := rfl
theorem e_n1 {a0 : Option V} {l : L2.St} {w : Option V} : gName 1 v (a0 :: w :: l) H QS = QS (a0 :: some v :: l) H := rfl
theorem e_v2 {a0 a1 : Option V} {l : L2.St} : zVar 2 (a0 :: a1 :: some v :: l) H Q = Q v H := rfl
theorem e_n2 {a0 a1 : Option V} {l : L2.St} {w : Option V} : gName 2 v (a0 :: a1 :: w :: l) H QS = QS (a0 :: a1 :: some v :: l) H := rfl
theorem e_v3 {a0 a1 a2 : Option V} {l : L2.St} : zVar 3 (a0 :: a1 :: a2 :: some v :: l) H Q = Q v H := rfl
theorem e_n3 {a0 a1 a2 : Option V} {l : L2.St} {w : Option V} : gName 3 v (a0 :: a1 :: a2 :: w :: l) H QS = QS (a0 :: a1 :: a2 :: some v :: l) H := rfl
theorem e_v4 {a0 a1 a2 a3 : Option V} {l : L2.St} : zVar 4 (a0 :: a1 :: a2 :: a3 :: some v :: l) H Q = Q v H := rfl
theorem e_n4 {a0 a1 a2 a3 : Option V} {l : L2.St} {w : Option V} : gName 4 v (a0 :: a1 :: a2 :: a3 :: w :: l) H QS = QS (a0 :: a1 :: a2 :: a3 :: some v :: l) H := rfl
theorem e_v5 {a0 a1 a2 a3 a4 : Option V} {l : L2.St} : zVar 5 (a0 :: a1 :: a2 :: a3 :: a4 :: some v :: l) H Q = Q v H := rfl
theorem e_n5 {a0 a1 a2 a3 a4 : Option V} {l : L2.St} {w : Option V} : gName 5 v (a0 :: a1 :: a2 :: a3 :: a4 :: w :: l) H QS = QS (a0 :: a1 :: a2 :: a3 :: a4 :: some v :: l) H := rfl
theorem e_v6 {a0 a1 a2 a3 a4 a5 : Option V} {l : L2.St} : zVar 6 (a0 :: a1 :: a2 :: a3 :: a4 :: a5 :: some v :: l) H Q = Q v H := rfl
theorem e_n6 {a0 a1 a2 a3 a4 a5 : Option V} {l : L2.St} {w : Option V} : gName 6 v (a0 :: a1 :: a2 :: a3 :: a4 :: a5 :: w :: l) H QS = QS (a0 :: a1 :: a2 :: a3 :: a4 :: a5 :: some v :: l) H := rfl
theorem e_v7 {a0 a1 a2 a3 a4 a5 a6 : Option V} {l : L2.St} : zVar 7 (a0 :: a1 :: a2 :: a3 :: a4 :: a5 :: a6 :: some v :: l) H Q = Q v H := rfl
theorem e_n7 {a0 a1 a2 a3 a4 a5 a6 : Option V} {l : L2.St} {w : Option V} : gName 7 v (a0 :: a1 :: a2 :: a3 :: a4 :: a5 :: a6 :: w :: l) H QS = QS (a0 :: a1 :: a2 :: a3 :: a4 :: a5 :: a6 :: some v :: l) H := rfl
theorem e_v8 {a0 a1 a2 a3 a4 a5 a6 a7 : Option V} {l : L2.St} : zVar 8 (a0 :: a1 :: a2 :: a3 :: a4 :: a5 :: a6 :: a7 :: some v :: l) H Q = Q v H := rfl
theorem e_n8 {a0 a1 a2 a3 a4 a5 a6 a7 : Option V} {l : L2.St} {w : Option V} : gName 8 v (a0 :: a1 :: a2 :: a3 :: a4 :: a5 :: a6 :: a7 :: w :: l) H QS = QS (a0 :: a1 :: a2 :: a3 :: a4 :: a5 :: a6 :: a7 :: some v :: l) H := rfl
theorem e_v9 {a0 a1 a2 a3 a4 a5 a6 a7 a8 : Option V} {l : L2.St} : zVar 9 (a0 :: a1 :: a2 :: a3 :: a4 :: a5 :: a6 :: a7 :: a8 :: some v :: l) H Q = Q v H := rfl
theorem e_n9 {a0 a1 a2 a3 a4 a5 a6 a7 a8 : Option V} {l : L2.St} {w : Option V} : gName 9 v (a0 :: a1 :: a2 :: a3 :: a4 :: a5 :: a6 :: a7 :: a8 :: w :: l) H QS = QS (a0 :: a1 :: a2 :: a3 :: a4 :: a5 :: a6 :: a7 :: a8 :: some v :: l) H := rfl
theorem e_v10 {a0 a1 a2 a3 a4 a5 a6 a7 a8 a9 : Option V} {l : L2.St} : zVar 10 (a0 :: a1 :: a2 :: a3 :: a4 :: a5 :: a6 :: a7 :: a8 :: a9 :: some v :: l) H Q = Q v H := rfl
theorem e_n10 {a0 a1 a2 a3 a4 a5 a6 a7 a8 a9 : Option V} {l : L2.St} {w : Option V} : gName 10 v (a0 :: a1 :: a2 :: a3 :: a4 :: a5 :: a6 :: a7 :: a8 :: a9 :: w :: l) H QS = QS (a0 :: a1 :: a2 :: a3 :: a4 :: a5 :: a6 :: a7 :: a8 :: a9 :: some v :: l) H := rfl
theorem e_v11 {a0 a1 a2 a3 a4 a5 a6 a7 a8 a9 a10 : Option V} {l : L2.St} : zVar 11 (a0 :: a1 :: a2 :: a3 :: a4 :: a5 :: a6 :: a7 :: a8 :: a9 :: a10 :: some v :: l) H Q = Q v H := rfl
theorem e_n11 {a0 a1 a2 a3 a4 a5 a6 a7 a8 a9 a10 : Option V} {l : L2.St} {w : Option V} : gName 11 v (a0 :: a1 :: a2 :: a3 :: a4 :: a5 :: a6 :: a7 :: a8 :: a9 :: a10 :: w :: l) H QS = QS (a0 :: a1 :: a2 :: a3 :: a4 :: a5 :: a6 :: a7 :: a8 :: a9 :: a10 :: some v :: l) H := rfl
theorem e_v12 {a0 a1 a2 a3 a4 a5 a6 a7 a8 a9 a10 a11 : Option V} {l : L2.St} : zVar 12 (a0 :: a1 :: a2 :: a3 :: a4 :: a5 :: a6 :: a7 :: a8 :: a9 :: a10 :: a11 :: some v :: l) H Q = Q v H := rfl
theorem e_n12 {a0 a1 a2 a3 a4 a5 a6 a7 a8 a9 a10 a11 : Option V} {l : L2.St} {w : Option V} : gName 12 v (a0 :: a1 :: a2 :: a3 :: a4 :: a5 :: a6 :: a7 :: a8 :: a9 :: a10 :: a11 :: w :: l) H QS = QS (a0 :: a1 :: a2 :: a3 :: a4 :: a5 :: a6 :: a7 :: a8 :: a9 :: a10 :: a11 :: some v :: l) H := rfl
theorem e_v13 {a0 a1 a2 a3 a4 a5 a6 a7 a8 a9 a10 a11 a12 : Option V} {l : L2.St} : zVar 13 (a0 :: a1 :: a2 :: a3 :: a4 :: a5 :: a6 :: a7 :: a8 :: a9 :: a10 :: a11 :: a12 :: some v :: l) H Q = Q v H := rfl
theorem e_n13 {a0 a1 a2 a3 a4 a5 a6 a7 a8 a9 a10 a11 a12 : Option V} {l : L2.St} {w : Option V} : gName 13 v (a0 :: a1 :: a2 :: a3 :: a4 :: a5 :: a6 :: a7 :: a8 :: a9 :: a10 :: a11 :: a12 :: w :: l) H QS = QS (a0 :: a1 :: a2 :: a3 :: a4 :: a5 :: a6 :: a7 :: a8 :: a9 :: a10 :: a11 :: a12 :: some v :: l) H := rfl
theorem e_v14 {a0 a1 a2 a3 a4 a5 a6 a7 a8 a9 a10 a11 a12 a13 : Option V} {l : L2.St} : zVar 14 (a0 :: a1 :: a2 :: a3 :: a4 :: a5 :: a6 :: a7 :: a8 :: a9 :: a10 :: a11 :: a12 :: a13 :: some v :: l) H Q = Q v H := rfl
theorem e_n14 {a0 a1 a2 a3 a4 a5 a6 a7 a8 a9 a10 a11 a12 a13 : Option V} {l : L2.St} {w : Option V} : gName 14 v (a0 :: a1 :: a2 :: a3 :: a4 :: a5 :: a6 :: a7 :: a8 :: a9 :: a10 :: a11 :: a12 :: a13 :: w :: l) H QS = QS (a0 :: a1 :: a2 :: a3 :: a4 :: a5 :: a6 :: a7 :: a8 :: a9 :: a10 :: a11 :: a12 :: a13 :: some v :: l) H := rfl
theorem e_v15 {a0 a1 a2 a3 a4 a5 a6 a7 a8 a9 a10 a11 a12 a13 a14 : Option V} {l : L2.St} : zVar 15 (a0 :: a1 :: a2 :: a3 :: a4 :: a5 :: a6 :: a7 :: a8 :: a9 :: a10 :: a11 :: a12 :: a13 :: a14 :: some v :: l) H Q = Q v H := rfl
theorem e_n15 {a0 a1 a2 a3 a4 a5 a6 a7 a8 a9 a10 a11 a12 a13 a14 : Option V} {l : L2.St} {w : Option V} : gName 15 v (a0 :: a1 :: a2 :: a3 :: a4 :: a5 :: a6 :: a7 :: a8 :: a9 :: a10 :: a11 :: a12 :: a13 :: a14 :: w :: l) H QS = QS (a0 :: a1 :: a2 :: a3 :: a4 :: a5 :: a6 :: a7 :: a8 :: a9 :: a10 :: a11 :: a12 :: a13 :: a14 :: some v :: l) H := rfl
theorem e_v16 {a0 a1 a2 a3 a4 a5 a6 a7 a8 a9 a10 a11 a12 a13 a14 a15 : Option V} {l : L2.St} : zVar 16 (a0 :: a1 :: a2 :: a3 :: a4 :: a5 :: a6 :: a7 :: a8 :: a9 :: a10 :: a11 :: a12 :: a13 :: a14 :: a15 :: some v :: l) H Q = Q v H := rfl
theorem e_n16 {a0 a1 a2 a3 a4 a5 a6 a7 a8 a9 a10 a11 a12 a13 a14 a15 : Option V} {l : L2.St} {w : Option V} : gName 16 v (a0 :: a1 :: a2 :: a3 :: a4 :: a5 :: a6 :: a7 :: a8 :: a9 :: a10 :: a11 :: a12 :: a13 :: a14 :: a15 :: w :: l) H QS = QS (a0 :: a1 :: a2 :: a3 :: a4 :: a5 :: a6 :: a7 :: a8 :: a9 :: a10 :: a11 :: a12 :: a13 :: a14 :: a15 :: some v :: l) H := rfl
theorem e_v17 {a0 a1 a2 a3 a4 a5 a6 a7 a8 a9 a10 a11 a12 a13 a14 a15 a16 : Option V} {l : L2.St} : zVar 17 (a0 :: a1 :: a2 :: a3 :: a4 :: a5 :: a6 :: a7 :: a8 :: a9 :: a10 :: a11 :: a12 :: a13 :: a14 :: a15 :: a16 :: some v :: l) H Q = Q v H := rfl
theorem e_n17 {a0 a1 a2 a3 a4 a5 a6 a7 a8 a9 a10 a11 a12 a13 a14 a15 a16 : Option V} {l : L2.St} {w : Option V} : gName 17 v (a0 :: a1 :: a2 :: a3 :: a4 :: a5 :: a6 :: a7 :: a8 :: a9 :: a10 :: a11 :: a12 :: a13 :: a14 :: a15 :: a16 :: w :: l) H QS = QS (a0 :: a1 :: a2 :: a3 :: a4 :: a5 :: a6 :: a7 :: a8 :: a9 :: a10 :: a11 :: a12 :: a13 :: a14 :: a15 :: a16 :: some v :: l) H := rfl
theorem e_v18 {a0 a1 a2 a3 a4 a5 a6 a7 a8 a9 a10 a11 a12 a13 a14 a15 a16 a17 : Option V} {l : L2.St} : zVar 18 (a0 :: a1 :: a2 :: a3 :: a4 :: a5 :: a6 :: a7 :: a8 :: a9 :: a10 :: a11 :: a12 :: a13 :: a14 :: a15 :: a16 :: a17 :: some v :: l) H Q = Q v H := rfl
theorem e_n18 {a0 a1 a2 a3 a4 a5 a6 a7 a8 a9 a10 a11 a12 a13 a14 a15 a16 a17 : Option V} {l : L2.St} {w : Option V} : gName 18 v (a0 :: a1 :: a2 :: a3 :: a4 :: a5 :: a6 :: a7 :: a8 :: a9 :: a10 :: a11 :: a12 :: a13 :: a14 :: a15 :: a16 :: a17 :: w :: l) H QS = QS (a0 :: a1 :: a2 :: a3 :: a4 :: a5 :: a6 :: a7 :: a8 :: a9 :: a10 :: a11 :: a12 :: a13 :: a14 :: a15 :: a16 :: a17 :: some v :: l) H := rfl
theorem e_v19 {a0 a1 a2 a3 a4 a5 a6 a7 a8 a9 a10 a11 a12 a13 a14 a15 a16 a17 a18 : Option V} {l : L2.St} : zVar 19 (a0 :: a1 :: a2 :: a3 :: a4 :: a5 :: a6 :: a7 :: a8 :: a9 :: a10 :: a11 :: a12 :: a13 :: a14 :: a15 :: a16 :: a17 :: a18 :: some v :: l) H Q = Q v H := rfl
theorem e_n19 {a0 a1 a2 a3 a4 a5 a6 a7 a8 a9 a10 a11 a12 a13 a14 a15 a16 a17 a18 : Option V} {l : L2.St} {w : Option V} : gName 19 v (a0 :: a1 :: a2 :: a3 :: a4 :: a5 :: a6 :: a7 :: a8 :: a9 :: a10 :: a11 :: a12 :: a13 :: a14 :: a15 :: a16 :: a17 :: a18 :: w :: l) H QS = QS (a0 :: a1 :: a2 :: a3 :: a4 :: a5 :: a6 :: a7 :: a8 :: a9 :: a10 :: a11 :: a12 :: a13 :: a14 :: a15 :: a16 :: a17 :: a18 :: some v :: l) H := rfl
theorem e_v20 {a0 a1 a2 a3 a4 a5 a6 a7 a8 a9 a10 a11 a12 a13 a14 a15 a16 a17 a18 a19 : Option V} {l : L2.St} : zVar 20 (a0 :: a1 :: a2 :: a3 :: a4 :: a5 :: a6 :: a7 :: a8 :: a9 :: a10 :: a11 :: a12 :: a13 :: a14 :: a15 :: a16 :: a17 :: a18 :: a19 :: some v :: l) H Q = Q v H := rfl
theorem e_n20 {a0 a1 a2 a3 a4 a5 a6 a7 a8 a9 a10 a11 a12 a13 a14 a15 a16 a17 a18 a19 : Option V} {l : L2.St} {w : Option V} : gName 20 v (a0 :: a1 :: a2 :: a3 :: a4 :: a5 :: a6 :: a7 :: a8 :: a9 :: a10 :: a11 :: a12 :: a13 :: a14 :: a15 :: a16 :: a17 :: a18 :: a19 :: w :: l) H QS = QS (a0 :: a1 :: a2 :: a3 :: a4 :: a5 :: a6 :: a7 :: a8 :: a9 :: a10 :: a11 :: a12 :: a13 :: a14 :: a15 :: a16 :: a17 :: a18 :: a19 :: some v :: l) H := rfl
theorem e_v21 {a0 a1 a2 a3 a4 a5 a6 a7 a8 a9 a10 a11 a12 a13 a14 a15 a16 a17 a18 a19 a20 : Option V} {l : L2.St} : zVar 21 (a0 :: a1 :: a2 :: a3 :: a4 :: a5 :: a6 :: a7 :: a8 :: a9 :: a10 :: a11 :: a12 :: a13 :: a14 :: a15 :: a16 :: a17 :: a18 :: a19 :: a20 :: some v :: l) H Q = Q v H := rfl
theorem e_n21 {a0 a1 a2 a3 a4 a5 a6 a7 a8 a9 a10 a11 a12 a13 a14 a15 a16 a17 a18 a19 a20 : Option V} {l : L2.St} {w : Option V} : gName 21 v (a0 :: a1 :: a2 :: a3 :: a4 :: a5 :: a6 :: a7 :: a8 :: a9 :: a10 :: a11 :: a12 :: a13 :: a14 :: a15 :: a16 :: a17 :: a18 :: a19 :: a20 :: w :: l) H QS = QS (a0 :: a1 :: a2 :: a3 :: a4 :: a5 :: a6 :: a7 :: a8 :: a9 :: a10 :: a11 :: a12 :: a13 :: a14 :: a15 :: a16 :: a17 :: a18 :: a19 :: a20 :: some v :: l) H := rfl
theorem e_v22 {a0 a1 a2 a3 a4 a5 a6 a7 a8 a9 a10 a11 a12 a13 a14 a15 a16 a17 a18 a19 a20 a21 : Option V} {l : L2.St} : zVar 22 (a0 :: a1 :: a2 :: a3 :: a4 :: a5 :: a6 :: a7 :: a8 :: a9 :: a10 :: a11 :: a12 :: a13 :: a14 :: a15 :: a16 :: a17 :: a18 :: a19 :: a20 :: a21 :: some v :: l) H Q = Q v H := rfl
theorem e_n22 {a0 a1 a2 a3 a4 a5 a6 a7 a8 a9 a10 a11 a12 a13 a14 a15 a16 a17 a18 a19 a20 a21 : Option V} {l : L2.St} {w : Option V} : gName 22 v (a0 :: a1 :: a2 :: a3 :: a4 :: a5 :: a6 :: a7 :: a8 :: a9 :: a10 :: a11 :: a12 :: a13 :: a14 :: a15 :: a16 :: a17 :: a18 :: a19 :: a20 :: a21 :: w :: l) H QS = QS (a0 :: a1 :: a2 :: a3 :: a4 :: a5 :: a6 :: a7 :: a8 :: a9 :: a10 :: a11 :: a12 :: a13 :: a14 :: a15 :: a16 :: a17 :: a18 :: a19 :: a20 :: a21 :: some v :: l) H := rfl
theorem e_v23 {a0 a1 a2 a3 a4 a5 a6 a7 a8 a9 a10 a11 a12 a13 a14 a15 a16 a17 a18 a19 a20 a21 a22 : Option V} {l : L2.St} : zVar 23 (a0 :: a1 :: a2 :: a3 :: a4 :: a5 :: a6 :: a7 :: a8 :: a9 :: a10 :: a11 :: a12 :: a13 :: a14 :: a15 :: a16 :: a17 :: a18 :: a19 :: a20 :: a21 :: a22 :: some v :: l) H Q = Q v H := rfl
theorem e_n23 {a0 a1 a2 a3 a4 a5 a6 a7 a8 a9 a10 a11 a12 a13 a14 a15 a16 a17 a18 a19 a20 a21 a22 : Option V} {l : L2.St} {w : Option V} : gName 23 v (a0 :: a1 :: a2 :: a3 :: a4 :: a5 :: a6 :: a7 :: a8 :: a9 :: a10 :: a11 :: a12 :: a13 :: a14 :: a15 :: a16 :: a17 :: a18 :: a19 :: a20 :: a21 :: a22 :: w :: l) H QS = QS (a0 :: a1 :: a2 :: a3 :: a4 :: a5 :: a6 :: a7 :: a8 :: a9 :: a10 :: a11 :: a12 :: a13 :: a14 :: a15 :: a16 :: a17 :: a18 :: a19 :: a20 :: a21 :: a22 :: some v :: l) H := rfl
theorem e_v24 {a0 a1 a2 a3 a4 a5 a6 a7 a8 a9 a10 a11 a12 a13 a14 a15 a16 a17 a18 a19 a20 a21 a22 a23 : Option V} {l : L2.St} : zVar 24 (a0 :: a1 :: a2 :: a3 :: a4 :: a5 :: a6 :: a7 :: a8 :: a9 :: a10 :: a11 :: a12 :: a13 :: a14 :: a15 :: a16 :: a17 :: a18 :: a19 :: a20 :: a21 :: a22 :: a23 :: some v :: l) H Q = Q v H := rfl
theorem e_n24 {a0 a1 a2 a3 a4 a5 a6 a7 a8 a9 a10 a11 a12 a13 a14 a15 a16 a17 a18 a19 a20 a21 a22 a23 : Option V} {l : L2.St} {w : Option V} : gName 24 v (a0 :: a1 :: a2 :: a3 :: a4 :: a5 :: a6 :: a7 :: a8 :: a9 :: a10 :: a11 :: a12 :: a13 :: a14 :: a15 :: a16 :: a17 :: a18 :: a19 :: a20 :: a21 :: a22 :: a23 :: w :: l) H QS = QS (a0 :: a1 :: a2 :: a3 :: a4 :: a5 :: a6 :: a7 :: a8 :: a9 :: a10 :: a11 :: a12 :: a13 :: a14 :: a15 :: a16 :: a17 :: a18 :: a19 :: a20 :: a21 :: a22 :: a23 :: some v :: l) H := rfl
theorem e_v25 {a0 a1 a2 a3 a4 a5 a6 a7 a8 a9 a10 a11 a12 a13 a14 a15 a16 a17 a18 a19 a20 a21 a22 a23 a24 : Option V} {l : L2.St} : zVar 25 (a0 :: a1 :: a2 :: a3 :: a4 :: a5 :: a6 :: a7 :: a8 :: a9 :: a10 :: a11 :: a12 :: a13 :: a14 :: a15 :: a16 :: a17 :: a18 :: a19 :: a20 :: a21 :: a22 :: a23 :: a24 :: some v :: l) H Q = Q v H := rfl
theorem e_n25 {a0 a1 a2 a3 a4 a5 a6 a7 a8 a9 a10 a11 a12 a13 a14 a15 a16 a17 a18 a19 a20 a21 a22 a23 a24 : Option V} {l : L2.St} {w : Option V} : gName 25 v (a0 :: a1 :: a2 :: a3 :: a4 :: a5 :: a6 :: a7 :: a8 :: a9 :: a10 :: a11 :: a12 :: a13 :: a14 :: a15 :: a16 :: a17 :: a18 :: a19 :: a20 :: a21 :: a22 :: a23 :: a24 :: w :: l) H QS = QS (a0 :: a1 :: a2 :: a3 :: a4 :: a5 :: a6 :: a7 :: a8 :: a9 :: a10 :: a11 :: a12 :: a13 :: a14 :: a15 :: a16 :: a17 :: a18 :: a19 :: a20 :: a21 :: a22 :: a23 :: a24 :: some v :: l) H := rfl
theorem e_v26 {a0 a1 a2 a3 a4 a5 a6 a7 a8 a9 a10 a11 a12 a13 a14 a15 a16 a17 a18 a19 a20 a21 a22 a23 a24 a25 : Option V} {l : L2.St} : zVar 26 (a0 :: a1 :: a2 :: a3 :: a4 :: a5 :: a6 :: a7 :: a8 :: a9 :: a10 :: a11 :: a12 :: a13 :: a14 :: a15 :: a16 :: a17 :: a18 :: a19 :: a20 :: a21 :: a22 :: a23 :: a24 :: a25 :: some v :: l) H Q = Q v H := rfl
theorem e_n26 {a0 a1 a2 a3 a4 a5 a6 a7 a8 a9 a10 a11 a12 a13 a14 a15 a16 a17 a18 a19 a20 a21 a22 a23 a24 a25 : Option V} {l : L2.St} {w : Option V} : gName 26 v (a0 :: a1 :: a2 :: a3 :: a4 :: a5 :: a6 :: a7 :: a8 :: a9 :: a10 :: a11 :: a12 :: a13 :: a14 :: a15 :: a16 :: a17 :: a18 :: a19 :: a20 :: a21 :: a22 :: a23 :: a24 :: a25 :: w :: l) H QS = QS (a0 :: a1 :: a2 :: a3 :: a4 :: a5 :: a6 :: a7 :: a8 :: a9 :: a10 :: a11 :: a12 :: a13 :: a14 :: a15 :: a16 :: a17 :: a18 :: a19 :: a20 :: a21 :: a22 :: a23 :: a24 :: a25 :: some v :: l) H := rfl
theorem e_v27 {a0 a1 a2 a3 a4 a5 a6 a7 a8 a9 a10 a11 a12 a13 a14 a15 a16 a17 a18 a19 a20 a21 a22 a23 a24 a25 a26 : Option V} {l : L2.St} : zVar 27 (a0 :: a1 :: a2 :: a3 :: a4 :: a5 :: a6 :: a7 :: a8 :: a9 :: a10 :: a11 :: a12 :: a13 :: a14 :: a15 :: a16 :: a17 :: a18 :: a19 :: a20 :: a21 :: a22 :: a23 :: a24 :: a25 :: a26 :: some v :: l) H Q = Q v H := rfl
theorem e_n27 {a0 a1 a2 a3 a4 a5 a6 a7 a8 a9 a10 a11 a12 a13 a14 a15 a16 a17 a18 a19 a20 a21 a22 a23 a24 a25 a26 : Option V} {l : L2.St} {w : Option V} : gName 27 v (a0 :: a1 :: a2 :: a3 :: a4 :: a5 :: a6 :: a7 :: a8 :: a9 :: a10 :: a11 :: a12 :: a13 :: a14 :: a15 :: a16 :: a17 :: a18 :: a19 :: a20 :: a21 :: a22 :: a23 :: a24 :: a25 :: a26 :: w :: l) H QS = QS (a0 :: a1 :: a2 :: a3 :: a4 :: a5 :: a6 :: a7 :: a8 :: a9 :: a10 :: a11 :: a12 :: a13 :: a14 :: a15 :: a16 :: a17 :: a18 :: a19 :: a20 :: a21 :: a22 :: a23 :: a24 :: a25 :: a26 :: some v :: l) H := rfl
theorem e_v28 {a0 a1 a2 a3 a4 a5 a6 a7 a8 a9 a10 a11 a12 a13 a14 a15 a16 a17 a18 a19 a20 a21 a22 a23 a24 a25 a26 a27 : Option V} {l : L2.St} : zVar 28 (a0 :: a1 :: a2 :: a3 :: a4 :: a5 :: a6 :: a7 :: a8 :: a9 :: a10 :: a11 :: a12 :: a13 :: a14 :: a15 :: a16 :: a17 :: a18 :: a19 :: a20 :: a21 :: a22 :: a23 :: a24 :: a25 :: a26 :: a27 :: some v :: l) H Q = Q v H := rfl
theorem e_n28 {a0 a1 a2 a3 a4 a5 a6 a7 a8 a9 a10 a11 a12 a13 a14 a15 a16 a17 a18 a19 a20 a21 a22 a23 a24 a25 a26 a27 : Option V} {l : L2.St} {w : Option V} : gName 28 v (a0 :: a1 :: a2 :: a3 :: a4 :: a5 :: a6 :: a7 :: a8 :: a9 :: a10 :: a11 :: a12 :: a13 :: a14 :: a15 :: a16 :: a17 :: a18 :: a19 :: a20 :: a21 :: a22 :: a23 :: a24 :: a25 :: a26 :: a27 :: w :: l) H QS = QS (a0 :: a1 :: a2 :: a3 :: a4 :: a5 :: a6 :: a7 :: a8 :: a9 :: a10 :: a11 :: a12 :: a13 :: a14 :: a15 :: a16 :: a17 :: a18 :: a19 :: a20 :: a21 :: a22 :: a23 :: a24 :: a25 :: a26 :: a27 :: some v :: l) H := rfl
theorem e_v29 {a0 a1 a2 a3 a4 a5 a6 a7 a8 a9 a10 a11 a12 a13 a14 a15 a16 a17 a18 a19 a20 a21 a22 a23 a24 a25 a26 a27 a28 : Option V} {l : L2.St} : zVar 29 (a0 :: a1 :: a2 :: a3 :: a4 :: a5 :: a6 :: a7 :: a8 :: a9 :: a10 :: a11 :: a12 :: a13 :: a14 :: a15 :: a16 :: a17 :: a18 :: a19 :: a20 :: a21 :: a22 :: a23 :: a24 :: a25 :: a26 :: a27 :: a28 :: some v :: l) H Q = Q v H := rfl
theorem e_n29 {a0 a1 a2 a3 a4 a5 a6 a7 a8 a9 a10 a11 a12 a13 a14 a15 a16 a17 a18 a19 a20 a21 a22 a23 a24 a25 a26 a27 a28 : Option V} {l : L2.St} {w : Option V} : gName 29 v (a0 :: a1 :: a2 :: a3 :: a4 :: a5 :: a6 :: a7 :: a8 :: a9 :: a10 :: a11 :: a12 :: a13 :: a14 :: a15 :: a16 :: a17 :: a18 :: a19 :: a20 :: a21 :: a22 :: a23 :: a24 :: a25 :: a26 :: a27 :: a28 :: w :: l) H QS = QS (a0 :: a1 :: a2 :: a3 :: a4 :: a5 :: a6 :: a7 :: a8 :: a9 :: a10 :: a11 :: a12 :: a13 :: a14 :: a15 :: a16 :: a17 :: a18 :: a19 :: a20 :: a21 :: a22 :: a23 :: a24 :: a25 :: a26 :: a27 :: a28 :: some v :: l) H := rfl
theorem e_v30 {a0 a1 a2 a3 a4 a5 a6 a7 a8 a9 a10 a11 a12 a13 a14 a15 a16 a17 a18 a19 a20 a21 a22 a23 a24 a25 a26 a27 a28 a29 : Option V} {l : L2.St} : zVar 30 (a0 :: a1 :: a2 :: a3 :: a4 :: a5 :: a6 :: a7 :: a8 :: a9 :: a10 :: a11 :: a12 :: a13 :: a14 :: a15 :: a16 :: a17 :: a18 :: a19 :: a20 :: a21 :: a22 :: a23 :: a24 :: a25 :: a26 :: a27 :: a28 :: a29 :: some v :: l) H Q = Q v H := rfl
theorem e_n30 {a0 a1 a2 a3 a4 a5 a6 a7 a8 a9 a10 a11 a12 a13 a14 a15 a16 a17 a18 a19 a20 a21 a22 a23 a24 a25 a26 a27 a28 a29 : Option V} {l : L2.St} {w : Option V} : gName 30 v (a0 :: a1 :: a2 :: a3 :: a4 :: a5 :: a6 :: a7 :: a8 :: a9 :: a10 :: a11 :: a12 :: a13 :: a14 :: a15 :: a16 :: a17 :: a18 :: a19 :: a20 :: a21 :: a22 :: a23 :: a24 :: a25 :: a26 :: a27 :: a28 :: a29 :: w :: l) H QS = QS (a0 :: a1 :: a2 :: a3 :: a4 :: a5 :: a6 :: a7 :: a8 :: a9 :: a10 :: a11 :: a12 :: a13 :: a14 :: a15 :: a16 :: a17 :: a18 :: a19 :: a20 :: a21 :: a22 :: a23 :: a24 :: a25 :: a26 :: a27 :: a28 :: a29 :: some v :: l) H := rfl
theorem e_v31 {a0 a1 a2 a3 a4 a5 a6 a7 a8 a9 a10 a11 a12 a13 a14 a15 a16 a17 a18 a19 a20 a21 a22 a23 a24 a25 a26 a27 a28 a29 a30 : Option V} {l : L2.St} : zVar 31 (a0 :: a1 :: a2 :: a3 :: a4 :: a5 :: a6 :: a7 :: a8 :: a9 :: a10 :: a11 :: a12 :: a13 :: a14 :: a15 :: a16 :: a17 :: a18 :: a19 :: a20 :: a21 :: a22 :: a23 :: a24 :: a25 :: a26 :: a27 :: a28 :: a29 :: a30 :: some v :: l) H Q = Q v H := rfl
theorem e_n31 {a0 a1 a2 a3 a4 a5 a6 a7 a8 a9 a10 a11 a12 a13 a14 a15 a16 a17 a18 a19 a20 a21 a22 a23 a24 a25 a26 a27 a28 a29 a30 : Option V} {l : L2.St} {w : Option V} : gName 31 v (a0 :: a1 :: a2 :: a3 :: a4 :: a5 :: a6 :: a7 :: a8 :: a9 :: a10 :: a11 :: a12 :: a13 :: a14 :: a15 :: a16 :: a17 :: a18 :: a19 :: a20 :: a21 :: a22 :: a23 :: a24 :: a25 :: a26 :: a27 :: a28 :: a29 :: a30 :: w :: l) H QS = QS (a0 :: a1 :: a2 :: a3 :: a4 :: a5 :: a6 :: a7 :: a8 :: a9 :: a10 :: a11 :: a12 :: a13 :: a14 :: a15 :: a16 :: a17 :: a18 :: a19 :: a20 :: a21 :: a22 :: a23 :: a24 :: a25 :: a26 :: a27 :: a28 :: a29 :: a30 :: some v :: l) H := rfl
theorem e_v32 {a0 a1 a2 a3 a4 a5 a6 a7 a8 a9 a10 a11 a12 a13 a14 a15 a16 a17 a18 a19 a20 a21 a22 a23 a24 a25 a26 a27 a28 a29 a30 a31 : Option V} {l : L2.St} : zVar 32 (a0 :: a1 :: a2 :: a3 :: a4 :: a5 :: a6 :: a7 :: a8 :: a9 :: a10 :: a11 :: a12 :: a13 :: a14 :: a15 :: a16 :: a17 :: a18 :: a19 :: a20 :: a21 :: a22 :: a23 :: a24 :: a25 :: a26 :: a27 :: a28 :: a29 :: a30 :: a31 :: some v :: l) H Q = Q v H := rfl
theorem e_n32 {a0 a1 a2 a3 a4 a5 a6 a7 a8 a9 a10 a11 a12 a13 a14 a15 a16 a17 a18 a19 a20 a21 a22 a23 a24 a25 a26 a27 a28 a29 a30 a31 : Option V} {l : L2.St} {w : Option V} : gName 32 v (a0 :: a1 :: a2 :: a3 :: a4 :: a5 :: a6 :: a7 :: a8 :: a9 :: a10 :: a11 :: a12 :: a13 :: a14 :: a15 :: a16 :: a17 :: a18 :: a19 :: a20 :: a21 :: a22 :: a23 :: a24 :: a25 :: a26 :: a27 :: a28 :: a29 :: a30 :: a31 :: w :: l) H QS = QS (a0 :: a1 :: a2 :: a3 :: a4 :: a5 :: a6 :: a7 :: a8 :: a9 :: a10 :: a11 :: a12 :: a13 :: a14 :: a15 :: a16 :: a17 :: a18 :: a19 :: a20 :: a21 :: a22 :: a23 :: a24 :: a25 :: a26 :: a27 :: a28 :: a29 :: a30 :: a31 :: some v :: l) H := rfl
theorem e_v33 {a0 a1 a2 a3 a4 a5 a6 a7 a8 a9 a10 a11 a12 a13 a14 a15 a16 a17 a18 a19 a20 a21 a22 a23 a24 a25 a26 a27 a28 a29 a30 a31 a32 : Option V} {l : L2.St} : zVar 33 (a0 :: a1 :: a2 :: a3 :: a4 :: a5 :: a6 :: a7 :: a8 :: a9 :: a10 :: a11 :: a12 :: a13 :: a14 :: a15 :: a16 :: a17 :: a18 :: a19 :: a20 :: a21 :: a22 :: a23 :: a24 :: a25 :: a26 :: a27 :: a28 :: a29 :: a30 :: a31 :: a32 :: some v :: l) H Q = Q v H := rfl
theorem e_n33 {a0 a1 a2 a3 a4 a5 a6 a7 a8 a9 a10 a11 a12 a13 a14 a15 a16 a17 a18 a19 a20 a21 a22 a23 a24 a25 a26 a27 a28 a29 a30 a31 a32 : Option V} {l : L2.St} {w : Option V} : gName 33 v (a0 :: a1 :: a2 :: a3 :: a4 :: a5 :: a6 :: a7 :: a8 :: a9 :: a10 :: a11 :: a12 :: a13 :: a14 :: a15 :: a16 :: a17 :: a18 :: a19 :: a20 :: a21 :: a22 :: a23 :: a24 :: a25 :: a26 :: a27 :: a28 :: a29 :: a30 :: a31 :: a32 :: w :: l) H QS = QS (a0 :: a1 :: a2 :: a3 :: a4 :: a5 :: a6 :: a7 :: a8 :: a9 :: a10 :: a11 :: a12 :: a13 :: a14 :: a15 :: a16 :: a17 :: a18 :: a19 :: a20 :: a21 :: a22 :: a23 :: a24 :: a25 :: a26 :: a27 :: a28 :: a29 :: a30 :: a31 :: a32 :: some v :: l) H := rfl
theorem e_v34 {a0 a1 a2 a3 a4 a5 a6 a7 a8 a9 a10 a11 a12 a13 a14 a15 a16 a17 a18 a19 a20 a21 a22 a23 a24 a25 a26 a27 a28 a29 a30 a31 a32 a33 : Option V} {l : L2.St} : zVar 34 (a0 :: a1 :: a2 :: a3 :: a4 :: a5 :: a6 :: a7 :: a8 :: a9 :: a10 :: a11 :: a12 :: a13 :: a14 :: a15 :: a16 :: a17 :: a18 :: a19 :: a20 :: a21 :: a22 :: a23 :: a24 :: a25 :: a26 :: a27 :: a28 :: a29 :: a30 :: a31 :: a32 :: a33 :: some v :: l) H Q = Q v H := rfl
theorem e_n34 {a0 a1 a2 a3 a4 a5 a6 a7 a8 a9 a10 a11 a12 a13 a14 a15 a16 a17 a18 a19 a20 a21 a22 a23 a24 a25 a26 a27 a28 a29 a30 a31 a32 a33 : Option V} {l : L2.St} {w : Option V} : gName 34 v (a0 :: a1 :: a2 :: a3 :: a4 :: a5 :: a6 :: a7 :: a8 :: a9 :: a10 :: a11 :: a12 :: a13 :: a14 :: a15 :: a16 :: a17 :: a18 :: a19 :: a20 :: a21 :: a22 :: a23 :: a24 :: a25 :: a26 :: a27 :: a28 :: a29 :: a30 :: a31 :: a32 :: a33 :: w :: l) H QS = QS (a0 :: a1 :: a2 :: a3 :: a4 :: a5 :: a6 :: a7 :: a8 :: a9 :: a10 :: a11 :: a12 :: a13 :: a14 :: a15 :: a16 :: a17 :: a18 :: a19 :: a20 :: a21 :: a22 :: a23 :: a24 :: a25 :: a26 :: a27 :: a28 :: a29 :: a30 :: a31 :: a32 :: a33 :: some v :: l) H := rfl
theorem e_v35 {a0 a1 a2 a3 a4 a5 a6 a7 a8 a9 a10 a11 a12 a13 a14 a15 a16 a17 a18 a19 a20 a21 a22 a23 a24 a25 a26 a27 a28 a29 a30 a31 a32 a33 a34 : Option V} {l : L2.St} : zVar 35 (a0 :: a1 :: a2 :: a3 :: a4 :: a5 :: a6 :: a7 :: a8 :: a9 :: a10 :: a11 :: a12 :: a13 :: a14 :: a15 :: a16 :: a17 :: a18 :: a19 :: a20 :: a21 :: a22 :: a23 :: a24 :: a25 :: a26 :: a27 :: a28 :: a29 :: a30 :: a31 :: a32 :: a33 :: a34 :: some v :: l) H Q = Q v H := rfl
theorem e_n35 {a0 a1 a2 a3 a4 a5 a6 a7 a8 a9 a10 a11 a12 a13 a14 a15 a16 a17 a18 a19 a20 a21 a22 a23 a24 a25 a26 a27 a28 a29 a30 a31 a32 a33 a34 : Option V} {l : L2.St} {w : Option V} : gName 35 v (a0 :: a1 :: a2 :: a3 :: a4 :: a5 :: a6 :: a7 :: a8 :: a9 :: a10 :: a11 :: a12 :: a13 :: a14 :: a15 :: a16 :: a17 :: a18 :: a19 :: a20 :: a21 :: a22 :: a23 :: a24 :: a25 :: a26 :: a27 :: a28 :: a29 :: a30 :: a31 :: a32 :: a33 :: a34 :: w :: l) H QS = QS (a0 :: a1 :: a2 :: a3 :: a4 :: a5 :: a6 :: a7 :: a8 :: a9 :: a10 :: a11 :: a12 :: a13 :: a14 :: a15 :: a16 :: a17 :: a18 :: a19 :: a20 :: a21 :: a22 :: a23 :: a24 :: a25 :: a26 :: a27 :: a28 :: a29 :: a30 :: a31 :: a32 :: a33 :: a34 :: some v :: l) H := rfl
theorem e_v36 {a0 a1 a2 a3 a4 a5 a6 a7 a8 a9 a10 a11 a12 a13 a14 a15 a16 a17 a18 a19 a20 a21 a22 a23 a24 a25 a26 a27 a28 a29 a30 a31 a32 a33 a34 a35 : Option V} {l : L2.St} : zVar 36 (a0 :: a1 :: a2 :: a3 :: a4 :: a5 :: a6 :: a7 :: a8 :: a9 :: a10 :: a11 :: a12 :: a13 :: a14 :: a15 :: a16 :: a17 :: a18 :: a19 :: a20 :: a21 :: a22 :: a23 :: a24 :: a25 :: a26 :: a27 :: a28 :: a29 :: a30 :: a31 :: a32 :: a33 :: a34 :: a35 :: some v :: l) H Q = Q v H := rfl
theorem e_n36 {a0 a1 a2 a3 a4 a5 a6 a7 a8 a9 a10 a11 a12 a13 a14 a15 a16 a17 a18 a19 a20 a21 a22 a23 a24 a25 a26 a27 a28 a29 a30 a31 a32 a33 a34 a35 : Option V} {l : L2.St} {w : Option V} : gName 36 v (a0 :: a1 :: a2 :: a3 :: a4 :: a5 :: a6 :: a7 :: a8 :: a9 :: a10 :: a11 :: a12 :: a13 :: a14 :: a15 :: a16 :: a17 :: a18 :: a19 :: a20 :: a21 :: a22 :: a23 :: a24 :: a25 :: a26 :: a27 :: a28 :: a29 :: a30 :: a31 :: a32 :: a33 :: a34 :: a35 :: w :: l) H QS = QS (a0 :: a1 :: a2 :: a3 :: a4 :: a5 :: a6 :: a7 :: a8 :: a9 :: a10 :: a11 :: a12 :: a13 :: a14 :: a15 :: a16 :: a17 :: a18 :: a19 :: a20 :: a21 :: a22 :: a23 :: a24 :: a25 :: a26 :: a27 :: a28 :: a29 :: a30 :: a31 :: a32 :: a33 :: a34 :: a35 :: some v :: l) H := rfl
theorem e_v37 {a0 a1 a2 a3 a4 a5 a6 a7 a8 a9 a10 a11 a12 a13 a14 a15 a16 a17 a18 a19 a20 a21 a22 a23 a24 a25 a26 a27 a28 a29 a30 a31 a32 a33 a34 a35 a36 : Option V} {l : L2.St} : zVar 37 (a0 :: a1 :: a2 :: a3 :: a4 :: a5 :: a6 :: a7 :: a8 :: a9 :: a10 :: a11 :: a12 :: a13 :: a14 :: a15 :: a16 :: a17 :: a18 :: a19 :: a20 :: a21 :: a22 :: a23 :: a24 :: a25 :: a26 :: a27 :: a28 :: a29 :: a30 :: a31 :: a32 :: a33 :: a34 :: a35 :: a36 :: some v :: l) H Q = Q v H := rfl
theorem e_n37 {a0 a1 a2 a3 a4 a5 a6 a7 a8 a9 a10 a11 a12 a13 a14 a15 a16 a17 a18 a19 a20 a21 a22 a23 a24 a25 a26 a27 a28 a29 a30 a31 a32 a33 a34 a35 a36 : Option V} {l : L2.St} {w : Option V} : gName 37 v (a0 :: a1 :: a2 :: a3 :: a4 :: a5 :: a6 :: a7 :: a8 :: a9 :: a10 :: a11 :: a12 :: a13 :: a14 :: a15 :: a16 :: a17 :: a18 :: a19 :: a20 :: a21 :: a22 :: a23 :: a24 :: a25 :: a26 :: a27 :: a28 :: a29 :: a30 :: a31 :: a32 :: a33 :: a34 :: a35 :: a36 :: w :: l) H QS = QS (a0 :: a1 :: a2 :: a3 :: a4 :: a5 :: a6 :: a7 :: a8 :: a9 :: a10 :: a11 :: a12 :: a13 :: a14 :: a15 :: a16 :: a17 :: a18 :: a19 :: a20 :: a21 :: a22 :: a23 :: a24 :: a25 :: a26 :: a27 :: a28 :: a29 :: a30 :: a31 :: a32 :: a33 :: a34 :: a35 :: a36 :: some v :: l) H := rfl
theorem e_v38 {a0 a1 a2 a3 a4 a5 a6 a7 a8 a9 a10 a11 a12 a13 a14 a15 a16 a17 a18 a19 a20 a21 a22 a23 a24 a25 a26 a27 a28 a29 a30 a31 a32 a33 a34 a35 a36 a37 : Option V} {l : L2.St} : zVar 38 (a0 :: a1 :: a2 :: a3 :: a4 :: a5 :: a6 :: a7 :: a8 :: a9 :: a10 :: a11 :: a12 :: a13 :: a14 :: a15 :: a16 :: a17 :: a18 :: a19 :: a20 :: a21 :: a22 :: a23 :: a24 :: a25 :: a26 :: a27 :: a28 :: a29 :: a30 :: a31 :: a32 :: a33 :: a34 :: a35 :: a36 :: a37 :: some v :: l) H Q = Q v H := rfl
theorem e_n38 {a0 a1 a2 a3 a4 a5 a6 a7 a8 a9 a10 a11 a12 a13 a14 a15 a16 a17 a18 a19 a20 a21 a22 a23 a24 a25 a26 a27 a28 a29 a30 a31 a32 a33 a34 a35 a36 a37 : Option V} {l : L2.St} {w : Option V} : gName 38 v (a0 :: a1 :: a2 :: a3 :: a4 :: a5 :: a6 :: a7 :: a8 :: a9 :: a10 :: a11 :: a12 :: a13 :: a14 :: a15 :: a16 :: a17 :: a18 :: a19 :: a20 :: a21 :: a22 :: a23 :: a24 :: a25 :: a26 :: a27 :: a28 :: a29 :: a30 :: a31 :: a32 :: a33 :: a34 :: a35 :: a36 :: a37 :: w :: l) H QS = QS (a0 :: a1 :: a2 :: a3 :: a4 :: a5 :: a6 :: a7 :: a8 :: a9 :: a10 :: a11 :: a12 :: a13 :: a14 :: a15 :: a16 :: a17 :: a18 :: a19 :: a20 :: a21 :: a22 :: a23 :: a24 :: a25 :: a26 :: a27 :: a28 :: a29 :: a30 :: a31 :: a32 :: a33 :: a34 :: a35 :: a36 :: a37 :: some v :: l) H := rfl
theorem e_v39 {a0 a1 a2 a3 a4 a5 a6 a7 a8 a9 a10 a11 a12 a13 a14 a15 a16 a17 a18 a19 a20 a21 a22 a23 a24 a25 a26 a27 a28 a29 a30 a31 a32 a33 a34 a35 a36 a37 a38 : Option V} {l : L2.St} : zVar 39 (a0 :: a1 :: a2 :: a3 :: a4 :: a5 :: a6 :: a7 :: a8 :: a9 :: a10 :: a11 :: a12 :: a13 :: a14 :: a15 :: a16 :: a17 :: a18 :: a19 :: a20 :: a21 :: a22 :: a23 :: a24 :: a25 :: a26 :: a27 :: a28 :: a29 :: a30 :: a31 :: a32 :: a33 :: a34 :: a35 :: a36 :: a37 :: a38 :: some v :: l) H Q = Q v H := rfl
theorem e_n39 {a0 a1 a2 a3 a4 a5 a6 a7 a8 a9 a10 a11 a12 a13 a14 a15 a16 a17 a18 a19 a20 a21 a22 a23 a24 a25 a26 a27 a28 a29 a30 a31 a32 a33 a34 a35 a36 a37 a38 : Option V} {l : L2.St} {w : Option V} : gName 39 v (a0 :: a1 :: a2 :: a3 :: a4 :: a5 :: a6 :: a7 :: a8 :: a9 :: a10 :: a11 :: a12 :: a13 :: a14 :: a15 :: a16 :: a17 :: a18 :: a19 :: a20 :: a21 :: a22 :: a23 :: a24 :: a25 :: a26 :: a27 :: a28 :: a29 :: a30 :: a31 :: a32 :: a33 :: a34 :: a35 :: a36 :: a37 :: a38 :: w :: l) H QS = QS (a0 :: a1 :: a2 :: a3 :: a4 :: a5 :: a6 :: a7 :: a8 :: a9 :: a10 :: a11 :: a12 :: a13 :: a14 :: a15 :: a16 :: a17 :: a18 :: a19 :: a20 :: a21 :: a22 :: a23 :: a24 :: a25 :: a26 :: a27 :: a28 :: a29 :: a30 :: a31 :: a32 :: a33 :: a34 :: a35 :: a36 :: a37 :: a38 :: some v :: l) H := rfl
theorem e_c : tC v σ H Q = Q v H := rfl
theorem e_op : tOp r ta tb σ H Q = ta σ H fun x H1 => tb σ H1 fun y H2 => r x y H2 Q := rfl
theorem e_un {r : V → Hp → VK → Prop} : tUn r ta σ H Q = ta σ H fun x H1 => r x H1 Q := rfl
theorem e_nil : tNil σ H QA = QA [] H := rfl
theorem e_cons : tCons te tr σ H QA = te σ H fun x H1 => tr σ H1 fun xs H2 => QA (x :: xs) H2 := rfl
theorem e_tup : tTup tA σ H Q = tA σ H fun xs H1 => xs.length ≤ sizeLine ∧ ∀ p, H1 p = none → Q (.ref p) (upd H1 p (.tup xs)) := rfl
theorem e_lst : tLst tA σ H Q = tA σ H fun xs H1 => xs.length ≤ sizeLine ∧ ∀ p, H1 p = none → Q (.ref p) (upd H1 p (.lst xs)) := rfl
theorem e_cb {r : List V → Hp → VK → Prop} : tCB r tA σ H Q = tA σ H fun vs H1 => r vs H1 Q := rfl
theorem e_call {sp : Sp} {E : L2.St → XK} : tCallS sp E tA σ H Q = tA σ H fun vs H1 => sp vs H1 Q (E σ) := rfl
theorem e_bm {T : String} {r : V → List V → Hp → VK → Prop} : tBM K T r te tA σ H Q = te σ H fun x H1 => tyV K T x H1 ∧ tA σ H1 fun xs H2 => r x xs H2 Q := rfl
theorem e_bm0 {T : String} {r : V → List V → Hp → VK → Prop} : tBM0 K T r te σ H Q = te σ H fun x H1 => tyV K T x H1 ∧ r x [] H1 Q := rfl
theorem e_sl {r : V → Option Int → Option Int → Hp → VK → Prop} {tl th : TO} : tSl r te tl th σ H Q = te σ H fun x H1 => tl σ H1 fun l H2 => th σ H2 fun u H3 => r x l u H3 Q := rfl
theorem e_nopart : tNoPart σ H QO = QO none H := rfl
theorem e_part : tPart te σ H QO = te σ H fun x H1 => ∃ i, x = .int i ∧ QO (some i) H1 := rfl
theorem e_chain {r' : R2} : tChain r r' ta tb tc σ H Q = ta σ H fun x H1 => tb σ H1 fun y H2 => r x y H2 fun z H3 => ∃ k, z = .bl k ∧ (if k = true then tc σ H3 fun w' H4 => r' y w' H4 Q else Q (.bl false) H3) := rfl
theorem e_ifE : tIf c ta tb σ H Q = c σ H fun b H1 => if b = true then ta σ H1 Q else tb σ H1 Q := rfl
theorem e_notT : tNotT K ta σ H Q = ta σ H fun x H1 => ∃ k, TruV K x H1 k ∧ Q (.bl (!k)) H1 := rfl
theorem e_andT : tAndT K ta tb σ H Q = ta σ H fun x H1 => ∃ k, TruV K x H1 k ∧ if k = true then tb σ H1 Q else Q x H1 := rfl
theorem e_orT : tOrT K ta tb σ H Q = ta σ H fun x H1 => ∃ k, TruV K x H1 k ∧ if k = true then Q x H1 else tb σ H1 Q := rfl
theorem e_test : tTest te σ H QB = te σ H fun x H' => ∃ k, x = .bl k ∧ QB k H' := rfl
theorem e_tru : zTru K te σ H QB = te σ H fun x H' => ∃ k, TruV K x H' k ∧ QB k H' := rfl
theorem e_not : tNot c σ H QB = c σ H fun b H1 => QB (!b) H1 := rfl
theorem e_and : tAnd c d σ H QB = c σ H fun b H1 => if b = true then d σ H1 QB else QB false H1 := rfl
theorem e_or : tOr c d σ H QB = c σ H fun b H1 => if b = true then QB true H1 else d σ H1 QB := rfl
theorem e_bl {b : Bool} {P : Bool → Prop} : (∃ k, V.bl b = .bl k ∧ P k) = P b := propext ⟨fun ⟨k, e, p⟩ => by cases e; exact p, fun p => ⟨b, rfl, p⟩⟩
theorem e_int {i : Int} {P : Int → Prop} : (∃ k, V.int i = .int k ∧ P k) = P i := propext ⟨fun ⟨k, e, p⟩ => by cases e; exact p, fun p => ⟨i, rfl, p⟩⟩
theorem e_truB {b : Bool} {P : Bool → Prop} : (∃ k, TruV K (.bl b) H k ∧ P k) = P b := propext ⟨fun ⟨k, e, p⟩ => by have e : k = b := e; subst e; exact p, fun p => ⟨b, rfl, p⟩⟩
theorem e_truI {i : Int} {P : Bool → Prop} : (∃ k, TruV K (.int i) H k ∧ P k) = P (i != 0) := propext ⟨fun ⟨k, e, p⟩ => by have e : k = (i != 0) := e; subst e; exact p, fun p => ⟨_, rfl, p⟩⟩
theorem e_truN {P : Bool → Prop} : (∃ k, TruV K .non H k ∧ P k) = P false := propext ⟨fun ⟨k, e, p⟩ => by have e : k = false := e; subst e; exact p, fun p => ⟨_, rfl, p⟩⟩
theorem o_addI {i j : Int} : zAdd K (.int i) (.int j) H Q = Q (.int (i + j)) H := rfl
theorem o_addS {a b : Str} : zAdd K (.str a) (.str b) H Q = (a.length + b.length ≤ sizeLine ∧ Q (.str (a ++ b)) H) := rfl
theorem o_subI {i j : Int} : zSub (.int i) (.int j) H Q = Q (.int (i - j)) H := rfl
theorem o_mulI {i j : Int} : zMul (.int i) (.int j) H Q = (CMulB i j ∧ Q (.int (i * j)) H) := rfl
theorem o_divI {i j : Int} : zDiv (.int i) (.int j) H Q = (CDivW i j ∧ Q (.int (i / j)) H) := rfl
theorem o_modI {i j : Int} : zMod (.int i) (.int j) H Q = (0 < j ∧ Q (.int (i % j)) H) := rfl
theorem o_powI {i j : Int} : zPow (.int i) (.int j) H Q = (CPow i j ∧ Q (.int (i ^ j.toNat)) H) := rfl
theorem o_neg {i : Int} : rU (fun i => .int (-i)) (.int i) H Q = Q (.int (-i)) H := propext ⟨fun ⟨k, e, p⟩ => by cases e; exact p, fun p => ⟨i, rfl, p⟩⟩
theorem o_eqNN : zEq K .non .non H Q = Q (.bl true) H := rfl
theorem o_eqI {i j : Int} : zEq K (.int i) (.int j) H Q = Q (.bl (decide (i = j))) H := rfl
theorem o_eqS {i j : Str} : zEq K (.str i) (.str j) H Q = Q (.bl (decide (i = j))) H := rfl
theorem o_eqB {i j : Bool} : zEq K (.bl i) (.bl j) H Q = Q (.bl (decide (i = j))) H := rfl
theorem o_eqNI {i : Int} : zEq K .non (.int i) H Q = Q (.bl false) H := rfl
theorem o_eqIN {i : Int} : zEq K (.int i) .non H Q = Q (.bl false) H := rfl
theorem o_eqNS {s : Str} : zEq K .non (.str s) H Q = Q (.bl false) H := rfl
theorem o_eqSN {s : Str} : zEq K (.str s) .non H Q = Q (.bl false) H := rfl
theorem o_eqNB {b : Bool} : zEq K .non (.bl b) H Q = Q (.bl false) H := rfl
theorem o_eqBN {b : Bool} : zEq K (.bl b) .non H Q = Q (.bl false) H := rfl
theorem o_eqIS {i : Int} {s : Str} : zEq K (.int i) (.str s) H Q = Q (.bl false) H := rfl
theorem o_eqSI {s : Str} {i : Int} : zEq K (.str s) (.int i) H Q = Q (.bl false) H := rfl
theorem o_eqBS {b : Bool} {s : Str} : zEq K (.bl b) (.str s) H Q = Q (.bl false) H := rfl
theorem o_eqSB {s : Str} {b : Bool} : zEq K (.str s) (.bl b) H Q = Q (.bl false) H := rfl
theorem o_neNN : zNe K .non .non H Q = Q (.bl false) H := rfl
theorem o_neI {i j : Int} : zNe K (.int i) (.int j) H Q = Q (.bl (!decide (i = j))) H := rfl
theorem o_neS {i j : Str} : zNe K (.str i) (.str j) H Q = Q (.bl (!decide (i = j))) H := rfl
theorem o_neB {i j : Bool} : zNe K (.bl i) (.bl j) H Q = Q (.bl (!decide (i = j))) H := rfl
theorem o_neNI {i : Int} : zNe K .non (.int i) H Q = Q (.bl true) H := rfl
theorem o_neIN {i : Int} : zNe K (.int i) .non H Q = Q (.bl true) H := rfl
theorem o_neNS {s : Str} : zNe K .non (.str s) H Q = Q (.bl true) H := rfl
theorem o_neSN {s : Str} : zNe K (.str s) .non H Q = Q (.bl true) H := rfl
theorem o_neNB {b : Bool} : zNe K .non (.bl b) H Q = Q (.bl true) H := rfl
theorem o_neBN {b : Bool} : zNe K (.bl b) .non H Q = Q (.bl true) H := rfl
theorem o_neIS {i : Int} {s : Str} : zNe K (.int i) (.str s) H Q = Q (.bl true) H := rfl
theorem o_neSI {s : Str} {i : Int} : zNe K (.str s) (.int i) H Q = Q (.bl true) H := rfl
theorem o_neBS {b : Bool} {s : Str} : zNe K (.bl b) (.str s) H Q = Q (.bl true) H := rfl
theorem o_neSB {s : Str} {b : Bool} : zNe K (.str s) (.bl b) H Q = Q (.bl true) H := rfl
theorem o_ltI {i j : Int} : zLt K (.int i) (.int j) H Q = Q (.bl (decide (i < j))) H := rfl
theorem o_ltS {i j : Str} : zLt K (.str i) (.str j) H Q = Q (.bl (decide (i.cps.toList < j.cps.toList))) H := rfl
theorem o_leI {i j : Int} : zLe (.int i) (.int j) H Q = Q (.bl (decide (i ≤ j))) H := rfl
theorem o_gtI {i j : Int} : zGt (.int i) (.int j) H Q = Q (.bl (decide (j < i))) H := rfl
theorem o_geI {i j : Int} : zGe (.int i) (.int j) H Q = Q (.bl (decide (j ≤ i))) H := rfl
theorem o_isN : zIs .non .non H Q = Q (.bl true) H := rfl
theorem o_isI {i : Int} : zIs (.int i) .non H Q = Q (.bl false) H := rfl
theorem o_isS {i : Str} : zIs (.str i) .non H Q = Q (.bl false) H := rfl
theorem o_isB {i : Bool} : zIs (.bl i) .non H Q = Q (.bl false) H := rfl
theorem o_isR {i : Addr} : zIs (.ref i) .non H Q = Q (.bl false) H := rfl
theorem o_isBB {i j : Bool} : zIs (.bl i) (.bl j) H Q = Q (.bl (decide (i = j))) H := rfl
theorem o_isnN : zIsNot .non .non H Q = Q (.bl false) H := rfl
theorem o_isnI {i : Int} : zIsNot (.int i) .non H Q = Q (.bl true) H := rfl
theorem o_isnS {i : Str} : zIsNot (.str i) .non H Q = Q (.bl true) H := rfl
theorem o_isnB {i : Bool} : zIsNot (.bl i) .non H Q = Q (.bl true) H := rfl
theorem o_isnR {i : Addr} : zIsNot (.ref i) .non H Q = Q (.bl true) H := rfl
theorem o_isnBB {i j : Bool} : zIsNot (.bl i) (.bl j) H Q = Q (.bl (!decide (i = j))) H := rfl
/-! statements -/
variable {nx bk ct : L2.St → Hp → Prop}
theorem x_seq (q : t ⟨u ⟨nx, Q, bk, ct⟩, Q, bk, ct⟩ σ H) : tSeq t u ⟨nx, Q, bk, ct⟩ σ H := q
theorem x_asg (q : te σ H fun x H1 => g x σ H1 nx) : tAsg te g ⟨nx, Q, bk, ct⟩ σ H := q
theorem x_ret (q : te σ H Q) : tRet te ⟨nx, Q, bk, ct⟩ σ H := q
theorem x_retN (q : Q .non H) : tRetN ⟨nx, Q, bk, ct⟩ σ H := q
theorem x_drop (q : te σ H fun _ H1 => nx σ H1) : tDrop te ⟨nx, Q, bk, ct⟩ σ H := q
theorem x_if (q : c σ H fun b H1 => if b = true then t ⟨nx, Q, bk, ct⟩ σ H1 else u ⟨nx, Q, bk, ct⟩ σ H1) : tIfS c t u ⟨nx, Q, bk, ct⟩ σ H := q
theorem x_next (q : nx σ H) : tNext ⟨nx, Q, bk, ct⟩ σ H := q
theorem x_brk (q : bk σ H) : tBreak ⟨nx, Q, bk, ct⟩ σ H := q
theorem x_cont (q : ct σ H) : tCont ⟨nx, Q, bk, ct⟩ σ H := q
theorem x_for {wi : TI} (q : wi σ H fun J H1 => ∃ W : Nat → Nat → L2.St → Hp → Prop, (∃ m, W 0 m σ H1) ∧ ∀ i m σ H, W i m σ H →
    (J.stop i H ∧ nx σ H) ∨ (J.go i H ∧ ∃ N : L2.St → Hp → Prop, (∀ σ' H', N σ' H' → ∃ m', m' < m ∧ W (i + 1) m' σ' H') ∧ ∀ x H', J.yld i H x H' → g x σ H' fun σ2 H2 => t ⟨N, Q, nx, N⟩ σ2 H2)) : tFor wi g t ⟨nx, Q, bk, ct⟩ σ H := q
variable {QI : It → Hp → Prop}
theorem e_iR1 : iRng1 tA σ H QI = tA σ H fun vs H1 => ∃ j : Int, vs = [.int j] ∧ -(2 ^ 62) ≤ j ∧ j < 2 ^ 62 ∧ QI (Itr 0 j.toNat) H1 := rfl
theorem e_intL {i : Int} {P : Int → Prop} : (∃ k, [V.int i] = [V.int k] ∧ P k) = P i := propext ⟨fun ⟨k, e, p⟩ => by cases e; exact p, fun p => ⟨i, rfl, p⟩⟩
theorem e_iL : iList K te σ H QI = te σ H fun x H1 => ∃ a, x = .ref a ∧ (∃ xs, SqL K H1 a xs) ∧ QI (Itl K a) H1 := rfl
theorem e_iT : iTup K te σ H QI = te σ H fun x H1 => ∃ a, x = .ref a ∧ (∃ xs, SqT K H1 a xs) ∧ QI (Itt K a) H1 := rfl
theorem e_iS : iStr te σ H QI = te σ H fun v H1 => ∃ x, v = .str x ∧ QI (Its x) H1 := rfl
theorem e_ref {a : Addr} {P : Addr → Prop} : (∃ a', V.ref a = .ref a' ∧ P a') = P a := propext ⟨fun ⟨k, e, p⟩ => by cases e; exact p, fun p => ⟨a, rfl, p⟩⟩
theorem e_strx {a : Str} {P : Str → Prop} : (∃ a', V.str a = .str a' ∧ P a') = P a := propext ⟨fun ⟨k, e, p⟩ => by cases e; exact p, fun p => ⟨a, rfl, p⟩⟩
/-- for over range(n), behind the count -/
theorem x_range {n : Nat} (Pv : Nat → L2.St → Hp → Prop) (h0 : Pv 0 σ H)
    (hs : ∀ (i : Nat) σ' H', i < n → Pv i σ' H' → g (.int (i : Int)) σ' H' fun σ2 H2 => t ⟨Pv (i + 1), Q, nx, Pv (i + 1)⟩ σ2 H2) (hd : ∀ σ' H', Pv n σ' H' → nx σ' H') :
    ∃ W : Nat → Nat → L2.St → Hp → Prop, (∃ m, W 0 m σ H) ∧ ∀ i m σ H, W i m σ H →
    ((Itr 0 n).stop i H ∧ nx σ H) ∨ ((Itr 0 n).go i H ∧ ∃ N : L2.St → Hp → Prop, (∀ σ' H', N σ' H' → ∃ m', m' < m ∧ W (i + 1) m' σ' H') ∧ ∀ x H', (Itr 0 n).yld i H x H' → g x σ H' fun σ2 H2 => t ⟨N, Q, nx, N⟩ σ2 H2) :=
  for_range (lo := 0) (n := n) (D := ⟨nx, Q, nx, nx⟩) Pv h0 (fun i σ' H' hi p => by
    have e0 : (0 : Int) + (i : Int) = (i : Int) := Int.zero_add _
    rw [e0]
    exact hs i σ' H' hi p) hd
theorem x_list {a : Addr} {xs : List V} (Pv : Nat → L2.St → Hp → Prop) (h0 : Pv 0 σ H) (hl : ∀ i σ H, i ≤ xs.length → Pv i σ H → SqL K H a xs)
    (hs : ∀ (i : Nat) x σ' H', xs[i]? = some x → Pv i σ' H' → g x σ' H' fun σ2 H2 => t ⟨Pv (i + 1), Q, nx, Pv (i + 1)⟩ σ2 H2) (hd : ∀ σ' H', Pv xs.length σ' H' → nx σ' H') :
    ∃ W : Nat → Nat → L2.St → Hp → Prop, (∃ m, W 0 m σ H) ∧ ∀ i m σ H, W i m σ H →
    ((Itl K a).stop i H ∧ nx σ H) ∨ ((Itl K a).go i H ∧ ∃ N : L2.St → Hp → Prop, (∀ σ' H', N σ' H' → ∃ m', m' < m ∧ W (i + 1) m' σ' H') ∧ ∀ x H', (Itl K a).yld i H x H' → g x σ H' fun σ2 H2 => t ⟨N, Q, nx, N⟩ σ2 H2) :=
  for_list (D := ⟨nx, Q, nx, nx⟩) Pv h0 hl hs hd
theorem x_tuple {a : Addr} {xs : List V} (Pv : Nat → L2.St → Hp → Prop) (h0 : Pv 0 σ H) (hl : ∀ i σ H, i ≤ xs.length → Pv i σ H → SqT K H a xs)
    (hs : ∀ (i : Nat) x σ' H', xs[i]? = some x → Pv i σ' H' → g x σ' H' fun σ2 H2 => t ⟨Pv (i + 1), Q, nx, Pv (i + 1)⟩ σ2 H2) (hd : ∀ σ' H', Pv xs.length σ' H' → nx σ' H') :
    ∃ W : Nat → Nat → L2.St → Hp → Prop, (∃ m, W 0 m σ H) ∧ ∀ i m σ H, W i m σ H →
    ((Itt K a).stop i H ∧ nx σ H) ∨ ((Itt K a).go i H ∧ ∃ N : L2.St → Hp → Prop, (∀ σ' H', N σ' H' → ∃ m', m' < m ∧ W (i + 1) m' σ' H') ∧ ∀ x H', (Itt K a).yld i H x H' → g x σ H' fun σ2 H2 => t ⟨N, Q, nx, N⟩ σ2 H2) :=
  for_tup (D := ⟨nx, Q, nx, nx⟩) Pv h0 hl hs hd
/-! items, slices, len, in -/
theorem x_ixL {p : Addr} {xs : List V} {i : Int} (h : SqL K H p xs) (a : atI xs i = some v) (q : Q v H) : zIx K (.ref p) (.int i) H Q := .inl (.inl ⟨p, xs, i, v, rfl, rfl, h, a, q⟩)
theorem x_ixT {p : Addr} {xs : List V} {i : Int} (h : SqT K H p xs) (a : atI xs i = some v) (q : Q v H) : zIx K (.ref p) (.int i) H Q := .inl (.inr (.inl ⟨p, xs, i, v, rfl, rfl, h, a, q⟩))
theorem x_ixS {z : Str} {i : Int} {c : Nat} (h : z.length ≤ sizeLine) (a : atI z.cps.toList i = some c) (q : Q (.str ⟨#[c]⟩) H) : zIx K (.str z) (.int i) H Q := .inl (.inr (.inr ⟨z, i, c, rfl, rfl, h, a, q⟩))
theorem x_ixD {p : Addr} (h : DGet H p y (some v)) (q : Q v H) : zIx K (.ref p) y H Q := .inr ⟨p, v, rfl, h, q⟩
theorem x_slL {p : Addr} {xs : List V} {lo hi : Option Int} (h : SqL K H p xs) (q : ∀ p, H p = none → Q (.ref p) (upd H p (.lst (cutV xs lo hi)))) : zSl K (.ref p) lo hi H Q := .inl ⟨p, xs, rfl, h, q⟩
theorem x_slS {z : Str} {lo hi : Option Int} (h : z.length ≤ sizeLine) (q : Q (.str (cutS z lo hi)) H) : zSl K (.str z) lo hi H Q := .inr (.inr ⟨z, rfl, h, q⟩)
theorem x_lenL {p : Addr} {xs : List V} (h : SqL K H p xs) (q : Q (.int (xs.length : Int)) H) : zLen K [.ref p] H Q := .inl ⟨_, _, rfl, .inl ⟨xs, h, rfl⟩, q⟩
theorem x_lenT {p : Addr} {xs : List V} (h : SqT K H p xs) (q : Q (.int (xs.length : Int)) H) : zLen K [.ref p] H Q := .inl ⟨_, _, rfl, .inr ⟨xs, h, rfl⟩, q⟩
theorem x_lenS {z : Str} (h : z.length ≤ sizeLine) (q : Q (.int (z.length : Int)) H) : zLen K [.str z] H Q := .inl ⟨_, _, rfl, ⟨h, rfl⟩, q⟩
theorem x_lenD {p : Addr} {kvs : List (Key × V)} (h : H p = some (.dK kvs)) (q : Q (.int (kvs.length : Int)) H) : zLen K [.ref p] H Q := .inr ⟨_, _, rfl, h, q⟩
theorem x_app {p : Addr} {xs : List V} (h : H p = some (.lst xs)) (l : xs.length < sizeLine) (q : Q .non (upd H p (.lst (xs ++ [v])))) : tyV K "list" (.ref p) H ∧ rAppend (.ref p) [v] H Q := ⟨.inl ⟨rfl, xs, SqL.of h⟩, p, xs, v, rfl, rfl, h, l, q⟩
theorem x_appT {p : Addr} {xs : List V} (h : H p = some (.lst xs)) : tyV K "list" (.ref p) H := .inl ⟨rfl, xs, SqL.of h⟩
theorem x_addL {a b : Addr} {xs ys : List V} (h1 : H a = some (.lst xs)) (h2 : H b = some (.lst ys)) (h : xs.length + ys.length ≤ sizeLine) (q : ∀ p, H p = none → Q (.ref p) (upd H p (.lst (xs ++ ys)))) : zAdd K (.ref a) (.ref b) H Q :=
  .inl ⟨a, b, xs, ys, rfl, rfl, h1, h2, h, q⟩
theorem x_eqD {G : Hp} {d e : PyData} {a b : Addr} (s : Same G H) (h1 : Rp K G (.ref a) d) (h2 : Rp K G (.ref b) e) (s1 : SeqAt.shaped d = true) (s2 : SeqAt.shaped e = true) (q : Q (.bl (PyData.eqv d e)) H) : zEq K (.ref a) (.ref b) H Q :=
  ⟨d, e, (h1.up s).dp, (h2.up s).dp, s1, s2, q⟩
theorem x_neD {G : Hp} {d e : PyData} {a b : Addr} (s : Same G H) (h1 : Rp K G (.ref a) d) (h2 : Rp K G (.ref b) e) (s1 : SeqAt.shaped d = true) (s2 : SeqAt.shaped e = true) (q : Q (.bl (!PyData.eqv d e)) H) : zNe K (.ref a) (.ref b) H Q :=
  ⟨d, e, (h1.up s).dp, (h2.up s).dp, s1, s2, q⟩
theorem x_memS {c : Nat} {z : Str} (q : Q (.bl (decide (c ∈ z.cps.toList))) H) : zIn K (.str ⟨#[c]⟩) (.str z) H Q := .inl (.inl ⟨c, z, rfl, rfl, q⟩)
theorem x_nmemS {c : Nat} {z : Str} (q : Q (.bl (!decide (c ∈ z.cps.toList))) H) : zNotIn K (.str ⟨#[c]⟩) (.str z) H Q := .inl (.inl ⟨c, z, rfl, rfl, q⟩)
theorem x_memT {p : Addr} {xs : List V} (h : SqT K H p xs) (f : flatV x = true) (fs : xs.all flatV = true) (q : Q (.bl (inV x xs)) H) : zIn K x (.ref p) H Q := .inl (.inr ⟨p, xs, rfl, .inr h, f, fs, q⟩)
theorem x_memL {p : Addr} {xs : List V} (h : SqL K H p xs) (f : flatV x = true) (fs : xs.all flatV = true) (q : Q (.bl (inV x xs)) H) : zIn K x (.ref p) H Q := .inl (.inr ⟨p, xs, rfl, .inl h, f, fs, q⟩)
theorem x_nmemT {p : Addr} {xs : List V} (h : SqT K H p xs) (f : flatV x = true) (fs : xs.all flatV = true) (q : Q (.bl (!inV x xs)) H) : zNotIn K x (.ref p) H Q := .inl (.inr ⟨p, xs, rfl, .inr h, f, fs, q⟩)
theorem x_nmemL {p : Addr} {xs : List V} (h : SqL K H p xs) (f : flatV x = true) (fs : xs.all flatV = true) (q : Q (.bl (!inV x xs)) H) : zNotIn K x (.ref p) H Q := .inl (.inr ⟨p, xs, rfl, .inl h, f, fs, q⟩)
/-! ifs -/
theorem x_br {p : Prop} {_ : Decidable p} {A B : Prop} (h1 : p → A) (h2 : ¬ p → B) : if decide p = true then A else B := by
  by_cases h : p
  · rw [decide_eq_true h, if_pos rfl]; exact h1 h
  · rw [decide_eq_false h, if_neg (by decide)]; exact h2 h
theorem x_nbr {p : Prop} {_ : Decidable p} {A B : Prop} (h1 : ¬ p → A) (h2 : p → B) : if (!decide p) = true then A else B := by
  by_cases h : p
  · rw [decide_eq_true h]; exact h2 h
  · rw [decide_eq_false h]; exact h1 h
theorem x_brB {b : Bool} {A B : Prop} (h1 : b = true → A) (h2 : b = false → B) : if b = true then A else B := by
  cases b with
  | true => exact h1 rfl
  | false => exact h2 rfl
theorem e_yes {A B : Prop} : (if true = true then A else B) = A := if_pos rfl
theorem e_yesT {A B : Prop} : (if True then A else B) = A := if_pos True.intro
theorem e_noF {A B : Prop} : (if False then A else B) = B := if_neg (fun h => h)
theorem e_no {A B : Prop} : (if false = true then A else B) = B := if_neg (by decide)
theorem cdiv {i j : Int} (h : 0 < j) (h2 : j.natAbs < 2 ^ 64) : CDivW i j := wide_div h h2 (by decide) (by decide)
theorem cmul {i j : Int} (h1 : i.natAbs < 2 ^ 64) (h2 : j.natAbs < 2 ^ 64) : CMulB i j := by
  have a := PySem.Flt.log2_lt_of (by decide : 0 < 64) h1
  have b := PySem.Flt.log2_lt_of (by decide : 0 < 64) h2
  unfold CMulB
  omega
end
end Z
/-! Zc: fields; calls of own defs, methods and classes where what is raised is wished for at the caller's slots. -/
namespace Z
open PySem PySem.Spec PyProof.Rows L2
abbrev WD (E : XK) : WX := fun cls d _ H => E cls d H
abbrev W0 : WX := fun _ _ _ _ => False
/-- where an instance of one of the classes stands -/
structure FldOk (K : PySem.W.Frag) (Cs : List Addr) (f : Str) : Prop where
  cl : ∀ C ∈ Cs, Cls K C
  no : ∀ C ∈ Cs, NoAttr K C f
theorem FldOk.nil {K : PySem.W.Frag} {f : Str} : FldOk K [] f := ⟨(fun c h => nomatch h), (fun c h => nomatch h)⟩
theorem FldOk.cons {K : PySem.W.Frag} {C : Addr} {Cs : List Addr} {f : Str} (h1 : Cls K C) (h2 : NoAttr K C f) (r : FldOk K Cs f) : FldOk K (C :: Cs) f :=
  ⟨fun c h => (List.mem_cons.mp h).elim (fun e => by rw [e]; exact h1) (r.cl c), fun c h => (List.mem_cons.mp h).elim (fun e => by rw [e]; exact h2) (r.no c)⟩
def zFldV (Cs : List Addr) (f : Str) (x : V) (H1 : Hp) (Q : VK) : Prop := ∃ a C dx fs v, x = .ref a ∧ C ∈ Cs ∧ H1 a = some (.ins C dx fs) ∧ fs.lookup f = some v ∧ Q v H1
def zFld (Cs : List Addr) (f : Str) (ta : TE) : TE := fun σ H Q => ta σ H fun x H1 => zFldV Cs f x H1 Q
def zSetF (Cs : List Addr) (f : Str) (ta tv : TE) : TS := fun D σ H => tv σ H fun y H1 => ta σ H1 fun x H2 => ∃ a C dx fs, x = .ref a ∧ C ∈ Cs ∧ H2 a = some (.ins C dx fs) ∧ fs.length < 1000 ∧ D.nx σ (upd H2 a (.ins C dx (putF f y fs)))
def zAugF (Cs : List Addr) (f : Str) (rd : V → V → Hp → VK → Prop) (ta tv : TE) : TS := fun D σ H => ta σ H fun x H1 => ∃ a C dx fs v, x = .ref a ∧ C ∈ Cs ∧ H1 a = some (.ins C dx fs) ∧ fs.lookup f = some v ∧
  tv σ H1 fun y H2 => rd v y H2 fun z H3 => ∃ dx' fs', H3 a = some (.ins C dx' fs') ∧ fs'.length < 1000 ∧ D.nx σ (upd H3 a (.ins C dx' (putF f z fs')))
def zMethV (C : Addr) (m : Str) (x : V) (H1 : Hp) (P : Prop) : Prop := ∃ a dx fs, x = .ref a ∧ H1 a = some (.ins C dx fs) ∧ fs.lookup m = none ∧ P
def zMeth (C : Addr) (m : Str) (sp : Sp) (E : L2.St → XK) (ta : TE) (t : TA) : TE := fun σ H Q => ta σ H fun x H1 => zMethV C m x H1 (t σ H1 fun vs H2 => sp (x :: vs) H2 Q (E σ))
def zMake (C : Addr) (sp : Sp) (E : L2.St → XK) (t : TA) : TE := fun σ H Q => t σ H fun vs H1 => ∀ x dx, H1 x = none → H1 dx = none → dx ≠ x →
  sp (.ref x :: vs) (upd (upd H1 dx (.own x)) x (.ins C dx [])) (fun v H2 => v = .non ∧ Q (.ref x) H2) (E σ)
section
variable {X : Cx} {k : Nat} {f C : Addr} {fd : FuncData} {ps : List Str} {sp : Sp} {W : WX} {x m n : Str} {p pos apos pos' tpos : Pos} {e o value : Expr} {es : List Expr} {ta tv te : TE} {t : TA} {Cs : List Addr}
theorem PE.or {e : Expr} {t1 t2 : TE} (h1 : PE X e t1) (h2 : PE X e t2) : PE X e (fun σ H Q => t1 σ H Q ∨ t2 σ H Q) := ⟨fun pins s σ H Q I q => q.elim (h1.run pins s σ H Q I) (h2.run pins s σ H Q I)⟩
theorem pe_fldZ (h : FldOk X.K Cs n) (he : PE X e ta) (hb : attributeBase e n X.env (eval e X.env) = eval e X.env := by rfl) : PE X (.Attribute e n pos) (zFld Cs n ta) := by
  refine ⟨fun pins s σ H Q I q => ?_⟩
  refine attr_of hb (thn (he.run pins s σ H _ I q) fun u s1 ⟨x, H1, I1, rx, a, C, dx, fs, v, ex, hc, ea, l, q⟩ => ?_)
  subst ex
  obtain rfl : u = Value.ref a := rx
  exact getattr_ok I1 ea (h.cl C hc) (h.no C hc) l fun u' s2 I2 ru => ⟨v, H1, I2, ru, q⟩
theorem ps_fldZ (h : FldOk X.K Cs n) (ha : PE X o ta) (hv : PE X value tv) (hs : swapsWith value (some (.Attribute o n pos')) pos.line X.env = pure false := by rfl) : PS X (.Assign [.Attribute o n pos'] value pos) (zSetF Cs n ta tv) := by
  refine ⟨fun pins s σ H D I q => ?_⟩
  refine plainObj_wpAny_Assign_Attribute (thn (hv.run pins s σ H _ I q) fun u s1 ⟨y, H1, I1, ry, q⟩ => thn (ha.run pins s1 σ H1 _ I1 q) fun ov s2 ⟨x, H2, I2, rx, a, C, dx, fs, ex, hc, ea, l, q2⟩ => ?_) hs
  subst ex
  obtain rfl : ov = Value.ref a := rx
  exact setattr_ok I2 ea (h.cl C hc) (h.no C hc) l ry fun s3 I3 => ⟨σ, _, I3, q2⟩
theorem ps_augZ {op : Operator} {rd : V → V → Hp → VK → Prop} (h : FldOk X.K Cs n) (hop : InOp X op rd) (ha : PE X o ta) (hv : PE X value tv) : PS X (.AugAssign (.Attribute o n tpos) op value pos) (zAugF Cs n rd ta tv) := by
  refine ⟨fun pins s σ H D I q => ?_⟩
  refine wpAny_AugAssign_AttributeAny (thn (ha.run pins s σ H _ I q) fun ov s1 ⟨x, H1, I1, rx, a, C, dx, fs, v, ex, hc, ea, l, q⟩ => ?_)
  subst ex
  obtain rfl : ov = Value.ref a := rx
  refine getattr_ok I1 ea (h.cl C hc) (h.no C hc) l fun u s2 I2 ru => thn (hv.run pins s2 σ H1 _ I2 q) fun w3 s3 ⟨y, H2, I3, ry, q3⟩ => thn (hop pins s3 σ H2 v y u w3 _ I3 ru ry q3) fun w4 s4 ⟨z, H3, I4, rz, dx', fs', ea', l', q4⟩ => ?_
  exact setattr_ok I4 ea' (h.cl C hc) (h.no C hc) l' rz fun s5 I5 => ⟨σ, _, I5, q4⟩
theorem pe_call0S {E : L2.St → XK} (F : FnOk X.prog X.w X.K X.mg X.base (L2.CX X.prog X.w) k f fd ps sp) (hr : Room k X.A) (hg : Gl X x) (hm : X.mg x = some (.ref f)) (hk : PySem.W.keepIn X.K (.ref f) = true) (hb : Binds X.K fd ps []) (hx : ∀ σ, PassesAt (L2.CX X.prog X.w) X σ (E σ))
    (hdb : (x == ("__debug__" : Str)) = false := by decide) : PE X (.Call (.Name x p) [] [] pos) (tCallS sp E tNil) := by
  refine ⟨fun pins s σ H Q I h => ?_⟩
  refine wpAny_Call_Name_kw (ld_glob I hg hm ?_ hdb)
  exact PySem.W.callWith_K0 I.kIn hk (run_fnS (us := []) F hr hb (hx σ) I .nil h)
theorem pe_methS {pl : Sem Bool} {E : L2.St → XK} (he : PE X o ta) (c : Cls X.K C) (hm : Meth X.K C m f) (F : FnOk X.prog X.w X.K X.mg X.base (L2.CX X.prog X.w) k f fd ps sp) (hr : Room k X.A) (hb : Binds X.K fd ps []) (hx : ∀ σ, PassesAt (L2.CX X.prog X.w) X σ (E σ)) (ha : PA X (e :: es) t)
    (hst : starEach (e :: es) X.env = (false, eval e X.env) :: starEach es X.env := by rfl) (hpl : (backTo pos (starEach es X.env)).any (·.1) = false := by rfl)
    (ht : eval (.Call (.Attribute o m apos) (e :: es) [] pos) X.env = (do
      let ov ← eval o X.env
      standAt apos.atName
      let (f, first) ← holding [ov] (getMethod ov m pl)
      callWith pos f first (backTo pos (starEach (e :: es) X.env)) (backToKw pos (keywordEach [] X.env))) := by rfl) :
    PE X (.Call (.Attribute o m apos) (e :: es) [] pos) (zMeth C m sp E ta t) := by
  refine ⟨fun pins s σ H Q I h => ?_⟩
  refine PySem.W.methodCall_KW (pl := pl) (thn (he.run pins s σ H _ I h) fun u s1 ⟨x, H1, I1, rx, a, dx, fs, ex, ea, l, q⟩ => ?_) ht
  subst ex
  obtain rfl : u = Value.ref a := rx
  refine getmeth_ok I1 ea c hm l ?_
  refine PySem.W.callWith_K (first := [.ref a]) (h₀ := X.base) I.ok.mod.kin hm.kp (thn (ha.run pos pins s1 σ H1 _ I1 q) fun us s2 ⟨vs, H2, I2, r, q2⟩ => ⟨I2.kIn, ?_⟩) hst hpl
  exact run_fnS (us := .ref a :: us) (vs := .ref a :: vs) F hr hb (hx σ) I2 (.cons rfl r) q2
theorem pe_meth0S {pl : Sem Bool} {E : L2.St → XK} (he : PE X o ta) (c : Cls X.K C) (hm : Meth X.K C m f) (F : FnOk X.prog X.w X.K X.mg X.base (L2.CX X.prog X.w) k f fd ps sp) (hr : Room k X.A) (hb : Binds X.K fd ps []) (hx : ∀ σ, PassesAt (L2.CX X.prog X.w) X σ (E σ))
    (ht : eval (.Call (.Attribute o m apos) [] [] pos) X.env = (do
      let ov ← eval o X.env
      standAt apos.atName
      let (f, first) ← holding [ov] (getMethod ov m pl)
      callWith pos f first (backTo pos (starEach [] X.env)) (backToKw pos (keywordEach [] X.env))) := by rfl) :
    PE X (.Call (.Attribute o m apos) [] [] pos) (zMeth C m sp E ta tNil) := by
  refine ⟨fun pins s σ H Q I h => ?_⟩
  refine PySem.W.methodCall_KW (pl := pl) (thn (he.run pins s σ H _ I h) fun u s1 ⟨x, H1, I1, rx, a, dx, fs, ex, ea, l, q⟩ => ?_) ht
  subst ex
  obtain rfl : u = Value.ref a := rx
  refine getmeth_ok I1 ea c hm l ?_
  exact PySem.W.callWith_K0 (first := [.ref a]) I1.kIn hm.kp (run_fnS (us := [.ref a]) (vs := [.ref a]) F hr hb (hx σ) I1 (.cons rfl .nil) q)
theorem run_makeS {E : XK} {pins : List (Addr × Obj)} {σ : L2.St} {H : Hp} {s : Shared} {Q : VK} {us : List Value} {vs : List V} (M : Mk X.K C f) (F : FnOk X.prog X.w X.K X.mg X.base (L2.CX X.prog X.w) k f fd ps sp) (hr : Room (k + 1) X.A) (hb : Binds X.K fd ps [])
    (hx : ∀ (σ' : L2.St), σ' = σ → PassesAt (L2.CX X.prog X.w) X σ' E) (I : L2.Inv X pins σ H s) (r : Vals vs us)
    (h : ∀ x dx, H x = none → H dx = none → dx ≠ x → sp (.ref x :: vs) (upd (upd H dx (.own x)) x (.ins C dx [])) (fun v H2 => v = .non ∧ Q (.ref x) H2) E) :
    wpAny (model X.prog X.w) X.A (call (.ref C) us) (EP X pins σ Q) X.xe s := by
  have hq := h (s.heap.objs.size + 1) s.heap.objs.size (I.hok.fresh (Nat.le_succ _)) (I.hok.fresh (Nat.le_refl _)) (Nat.ne_of_lt (Nat.lt_succ_self _))
  have I2 := Inv.made (C := C) I
  have r2 : Vals (V.ref (s.heap.objs.size + 1) :: vs) (Value.ref (s.heap.objs.size + 1) :: us) := .cons rfl r
  have hl : (Value.ref (s.heap.objs.size + 1) :: us ++ []).length = ps.length := by
    have e := r2.length
    rw [F.len _ _ _ _ hq] at e
    rw [List.append_nil]
    exact e.symm
  have b := hb _ (Value.ref (s.heap.objs.size + 1) :: us) I2.kIn hl
  rw [List.append_nil] at b
  refine wpAny_call (make_map (f := f) I.kIn M.makes M.init (beq_iff_eq.mp M.fn) (codeAny_mono (F.run _ X.stack _ _ ⟨Value.ref (s.heap.objs.size + 1) :: us, []⟩ (Value.ref (s.heap.objs.size + 1) :: us) _ _ E (hr.make C us [])
    (I2.env0.make C us []) b r2 hq) fun r s' hq' => ?_))
  cases r with
  | error e => exact hx σ rfl pins _ _ e s' I2 hq'
  | ok fl =>
    cases fl with
    | ret u =>
      obtain ⟨v, H', I3, rv, ev, q3⟩ := I2.after hq'
      subst ev
      exact ⟨rv, ⟨V.ref (s.heap.objs.size + 1), H', I3, rfl, q3⟩⟩
    | next => exact False.elim hq'
    | brk => exact False.elim hq'
    | cont => exact False.elim hq'
theorem pe_makeS {E : L2.St → XK} (M : Mk X.K C f) (F : FnOk X.prog X.w X.K X.mg X.base (L2.CX X.prog X.w) k f fd ps sp) (hr : Room (k + 1) X.A) (hg : Gl X x) (hm : X.mg x = some (.ref C)) (hb : Binds X.K fd ps []) (hx : ∀ σ, PassesAt (L2.CX X.prog X.w) X σ (E σ))
    (ha : PA X (e :: es) t) (hdb : (x == ("__debug__" : Str)) = false := by decide) (he : starEach (e :: es) X.env = (false, eval e X.env) :: starEach es X.env := by rfl) (hpl : (backTo pos (starEach es X.env)).any (·.1) = false := by rfl) :
    PE X (.Call (.Name x p) (e :: es) [] pos) (zMake C sp E t) := by
  refine ⟨fun pins s σ H Q I h => ?_⟩
  refine wpAny_Call_Name_kw (ld_glob I hg hm ?_ hdb)
  refine PySem.W.callWith_K (h₀ := X.base) I.ok.mod.kin M.kp (thn (ha.run pos pins s σ H _ I h) fun us s1 ⟨vs, H1, I1, r, q⟩ => ⟨I1.kIn, ?_⟩) he hpl
  exact run_makeS M F hr hb (fun σ' e => by subst e; exact hx σ') I1 r q
theorem pe_make0S {E : L2.St → XK} (M : Mk X.K C f) (F : FnOk X.prog X.w X.K X.mg X.base (L2.CX X.prog X.w) k f fd ps sp) (hr : Room (k + 1) X.A) (hg : Gl X x) (hm : X.mg x = some (.ref C)) (hb : Binds X.K fd ps []) (hx : ∀ σ, PassesAt (L2.CX X.prog X.w) X σ (E σ))
    (hdb : (x == ("__debug__" : Str)) = false := by decide) : PE X (.Call (.Name x p) [] [] pos) (zMake C sp E tNil) := by
  refine ⟨fun pins s σ H Q I h => ?_⟩
  refine wpAny_Call_Name_kw (ld_glob I hg hm ?_ hdb)
  exact PySem.W.callWith_K0 I.kIn M.kp (run_makeS (us := []) M F hr hb (fun σ' e => by subst e; exact hx σ') I .nil h)
end
section
variable {σ : L2.St} {H : Hp} {Q : VK} {D : Ends} {v y : V} {ta tv te : TE} {t : TA} {Cs : List Addr} {f m : Str} {C dx a : Addr} {fs : List (Str × V)} {sp : Sp} {E : L2.St → XK}
theorem e_fld : zFld Cs f ta σ H Q = ta σ H fun x H1 => zFldV Cs f x H1 Q := rfl
theorem x_fld (hc : C ∈ Cs) (h : H a = some (.ins C dx fs)) (l : fs.lookup f = some v) (q : Q v H) : zFldV Cs f (.ref a) H Q := ⟨a, C, dx, fs, v, rfl, hc, h, l, q⟩
theorem x_setF0 {nx bk ct : L2.St → Hp → Prop} (q : tv σ H fun y H1 => ta σ H1 fun x H2 => ∃ a C dx fs, x = .ref a ∧ C ∈ Cs ∧ H2 a = some (.ins C dx fs) ∧ fs.length < 1000 ∧ nx σ (upd H2 a (.ins C dx (putF f y fs)))) : zSetF Cs f ta tv ⟨nx, Q, bk, ct⟩ σ H := q
theorem x_setF1 {P : Hp → Prop} {fs' : List (Str × V)} (hc : C ∈ Cs) (h : H a = some (.ins C dx fs)) (l : fs.length < 1000) (e : putF f y fs = fs') (q : P (upd H a (.ins C dx fs'))) : ∃ a' C dx fs, V.ref a = .ref a' ∧ C ∈ Cs ∧ H a' = some (.ins C dx fs) ∧ fs.length < 1000 ∧ P (upd H a' (.ins C dx (putF f y fs))) :=
  ⟨a, C, dx, fs, rfl, hc, h, l, by rw [e]; exact q⟩
theorem e_meth : zMeth C m sp E ta t σ H Q = ta σ H fun x H1 => zMethV C m x H1 (t σ H1 fun vs H2 => sp (x :: vs) H2 Q (E σ)) := rfl
theorem x_meth {P : Prop} (h : H a = some (.ins C dx fs)) (l : fs.lookup m = none) (q : P) : zMethV C m (.ref a) H P := ⟨a, dx, fs, rfl, h, l, q⟩
theorem e_make : zMake C sp E t σ H Q = t σ H fun vs H1 => ∀ x dx, H1 x = none → H1 dx = none → dx ≠ x → sp (.ref x :: vs) (upd (upd H1 dx (.own x)) x (.ins C dx [])) (fun v H2 => v = .non ∧ Q (.ref x) H2) (E σ) := rfl
theorem x_make (q : t σ H fun vs H1 => ∀ x dx, H1 x = none → H1 dx = none → dx ≠ x → sp (.ref x :: vs) (upd (upd H1 dx (.own x)) x (.ins C dx [])) (fun v H2 => v = .non ∧ Q (.ref x) H2) (E σ)) : zMake C sp E t σ H Q := q
end
end Z
/-! Zb: built-ins by name; what is walked; stores; raise and try. -/
namespace Z
open PySem PySem.Spec PyProof.Rows L2
theorem zb_len : bootBuiltins "len" = some (.builtin "len") := by decide +kernel
theorem zb_int : bootBuiltins "int" = some (.type "int") := by decide +kernel
theorem zb_str : bootBuiltins "str" = some (.type "str") := by decide +kernel
theorem zb_bool : bootBuiltins "bool" = some (.type "bool") := by decide +kernel
theorem zb_list : bootBuiltins "list" = some (.type "list") := by decide +kernel
theorem zb_tuple : bootBuiltins "tuple" = some (.type "tuple") := by decide +kernel
theorem zb_dict : bootBuiltins "dict" = some (.type "dict") := by decide +kernel
theorem zb_all : bootBuiltins "all" = some (.builtin "all") := by decide +kernel
theorem zb_any : bootBuiltins "any" = some (.builtin "any") := by decide +kernel
theorem zb_sum : bootBuiltins "sum" = some (.builtin "sum") := by decide +kernel
theorem zb_abs : bootBuiltins "abs" = some (.builtin "abs") := by decide +kernel
theorem zb_min : bootBuiltins "min" = some (.builtin "min") := by decide +kernel
theorem zb_max : bootBuiltins "max" = some (.builtin "max") := by decide +kernel
theorem zb_sorted : bootBuiltins "sorted" = some (.builtin "sorted") := by decide +kernel
theorem zb_isinstance : bootBuiltins "isinstance" = some (.builtin "isinstance") := by decide +kernel
section
variable {X : Cx}
def zInt : List V → Hp → VK → Prop := fun xs H Q => match xs with
  | [.int i] => Q (.int i) H
  | [.bl k] => Q (.int (if k then 1 else 0)) H
  | [.str a] => ∃ n, PySem.intText? a = some n ∧ a.length ≤ 640 ∧ Q (.int n) H
  | _ => False
theorem cr_int : CallR X (.type "int") zInt := by
  intro pins s σ H xs us Q I r h
  match xs, h with
  | [.int i], h => exact call_int1 pins s σ H _ us Q I r (.inl ⟨i, rfl, h⟩)
  | [.bl i], h => exact call_int1 pins s σ H _ us Q I r (.inr ⟨i, rfl, h⟩)
  | [.str a], ⟨n, h1, h2, h⟩ => exact call_int_str pins s σ H _ us Q I r ⟨a, n, rfl, h1, h2, h⟩
def zStr : List V → Hp → VK → Prop := fun xs H Q => match xs with
  | [.int i] => i.natAbs.log2 < 1920 ∧ Q (.str (toString i)) H
  | _ => False
theorem cr_str : CallR X (.type "str") zStr := by
  intro pins s σ H xs us Q I r h
  match xs, h with
  | [.int i], h => exact call_str_int pins s σ H _ us Q I r ⟨i, rfl, h.1, h.2⟩
def zList (K : PySem.W.Frag) : List V → Hp → VK → Prop := fun xs H Q => ∃ p ys, xs = [.ref p] ∧ (SqL K H p ys ∨ SqT K H p ys) ∧ ∀ l, H l = none → Q (.ref l) (upd H l (.lst ys))
theorem cr_list : CallR X (.type "list") (zList X.K) := call_list_of
def zTuple (K : PySem.W.Frag) : List V → Hp → VK → Prop := fun xs H Q => ∃ p ys, xs = [.ref p] ∧ ((SqL K H p ys ∧ ∀ l, H l = none → Q (.ref l) (upd H l (.tup ys))) ∨ (SqT K H p ys ∧ Q (.ref p) H))
theorem cr_tuple : CallR X (.type "tuple") (zTuple X.K) := call_tuple_of
def zAbs : List V → Hp → VK → Prop := fun xs H Q => ∃ i, xs = [.int i] ∧ Q (.int (if i < 0 then -i else i)) H
def zMin2 : List V → Hp → VK → Prop := fun xs H Q => ∃ i j, xs = [.int i, .int j] ∧ Q (.int (if j < i then j else i)) H
def zMax2 : List V → Hp → VK → Prop := fun xs H Q => ∃ i j, xs = [.int i, .int j] ∧ Q (.int (if j > i then j else i)) H
theorem cr_min2 (hc : X.calm = true) : CallR X (.builtin "min") zMin2 := call_min2 hc
theorem cr_max2 (hc : X.calm = true) : CallR X (.builtin "max") zMax2 := call_max2 hc
/-- isinstance(x, T), T a built-in type written so -/
def zIsi : List V → Hp → VK → Prop := fun xs H Q => match xs with
  | [.non, .ty n] => ∃ b, kitB "NoneType" n = some b ∧ Q (.bl b) H
  | [.bl _, .ty n] => ∃ b, kitB "bool" n = some b ∧ Q (.bl b) H
  | [.int _, .ty n] => ∃ b, kitB "int" n = some b ∧ Q (.bl b) H
  | [.str _, .ty n] => ∃ b, kitB "str" n = some b ∧ Q (.bl b) H
  | [.ref a, .ty n] => (∃ b xs, H a = some (.lst xs) ∧ kitB "list" n = some b ∧ Q (.bl b) H) ∨ (∃ b xs, H a = some (.tup xs) ∧ kitB "tuple" n = some b ∧ Q (.bl b) H)
  | _ => False
theorem cr_isi : CallR X (.builtin "isinstance") zIsi := by
  intro pins s σ H xs us Q I r h
  match xs, h with
  | [.non, .ty n], ⟨b, e, q⟩ => exact call_isi pins s σ H _ us Q I r ⟨_, _, _, _, b, rfl, .ty n, .base .non, kit_ty e, q⟩
  | [.bl x, .ty n], ⟨b, e, q⟩ => exact call_isi pins s σ H _ us Q I r ⟨_, _, _, _, b, rfl, .ty n, .base (.bl x), kit_ty e, q⟩
  | [.int x, .ty n], ⟨b, e, q⟩ => exact call_isi pins s σ H _ us Q I r ⟨_, _, _, _, b, rfl, .ty n, .base (.int x), kit_ty e, q⟩
  | [.str x, .ty n], ⟨b, e, q⟩ => exact call_isi pins s σ H _ us Q I r ⟨_, _, _, _, b, rfl, .ty n, .base (.str x), kit_ty e, q⟩
  | [.ref a, .ty n], .inl ⟨b, xs, ha, e, q⟩ => exact call_isi pins s σ H _ us Q I r ⟨_, _, _, _, b, rfl, .ty n, .base (.lst ha), kit_ty e, q⟩
  | [.ref a, .ty n], .inr ⟨b, xs, ha, e, q⟩ => exact call_isi pins s σ H _ us Q I r ⟨_, _, _, _, b, rfl, .ty n, .base (.tup ha), kit_ty e, q⟩
/-! what is walked -/
theorem PI.or {tg e : Expr} {w1 w2 : TI} (h1 : PI X tg e w1) (h2 : PI X tg e w2) : PI X tg e (fun σ H R => w1 σ H R ∨ w2 σ H R) := ⟨fun pins s σ H R I q => q.elim (h1.run pins s σ H R I) (h2.run pins s σ H R I)⟩
def iSeq (K : PySem.W.Frag) (te : TE) : TI := fun σ H R => iList K te σ H R ∨ iTup K te σ H R
theorem pi_seq {tg e : Expr} {te : TE} (h : PE X e te) : PI X tg e (iSeq X.K te) := PI.or (pi_list h) (pi_tup h)
theorem PSet.or {t1 t2 : TSet} (h1 : PSet X t1) (h2 : PSet X t2) : PSet X (fun o i v H Q => t1 o i v H Q ∨ t2 o i v H Q) := fun pins s σ H o i v ov iv u Q I r1 r2 r3 q =>
  q.elim (h1 pins s σ H o i v ov iv u Q I r1 r2 r3) (h2 pins s σ H o i v ov iv u Q I r1 r2 r3)
def zSet : TSet := fun o i v H Q => rSetL o i v H Q ∨ rSetD o i v H Q
theorem set_z (hu : X.A.units + 1 < cLine) : PSet X zSet := PSet.or set_list (set_dict hu)
/-! raise, try -/
def zRaise (C : Addr) (W : WX) (t : TA) : TS := fun _ σ H => t σ H fun vs H1 => vs.length ≤ sizeLine ∧ W (.ref C) none σ H1
def zTry (K : PySem.W.Frag) (tb : WX → TS) (Wout : WX) (l : List (Value × (Addr → Value → Option Addr → TS))) : TS := fun D σ H => tb (wMany K Wout D l) D σ H
def zJoined (ts : List TE) : TE := fun σ H Q => tJs ts Str.empty σ H fun out H1 => Q (.str out) H1
theorem pj_nil : PJ X [] [] := .nil
theorem pj_cons {e : Expr} {t : TE} {es : List Expr} {ts : List TE} (h : PE X e t) (r : PJ X es ts) : PJ X (e :: es) (t :: ts) := .cons h r
end
/-! readings -/
section
variable {K : PySem.W.Frag} {σ : L2.St} {H : Hp} {Q : VK} {QT : Str → Hp → Prop} {D : Ends} {v : V} {te : TE} {t : TA} {C : Addr} {W : WX} {ts : List TE} {acc : Str}
theorem o_intI {i : Int} : zInt [.int i] H Q = Q (.int i) H := rfl
theorem o_intB {b : Bool} : zInt [.bl b] H Q = Q (.int (if b then 1 else 0)) H := rfl
theorem o_str {i : Int} : zStr [.int i] H Q = (i.natAbs.log2 < 1920 ∧ Q (.str (toString i)) H) := rfl
theorem x_listL {p : Addr} {ys : List V} (h : SqL K H p ys) (q : ∀ l, H l = none → Q (.ref l) (upd H l (.lst ys))) : zList K [.ref p] H Q := ⟨p, ys, rfl, .inl h, q⟩
theorem x_listT {p : Addr} {ys : List V} (h : SqT K H p ys) (q : ∀ l, H l = none → Q (.ref l) (upd H l (.lst ys))) : zList K [.ref p] H Q := ⟨p, ys, rfl, .inr h, q⟩
theorem x_tupleL {p : Addr} {ys : List V} (h : SqL K H p ys) (q : ∀ l, H l = none → Q (.ref l) (upd H l (.tup ys))) : zTuple K [.ref p] H Q := ⟨p, ys, rfl, .inl ⟨h, q⟩⟩
theorem x_tupleT {p : Addr} {ys : List V} (h : SqT K H p ys) (q : Q (.ref p) H) : zTuple K [.ref p] H Q := ⟨p, ys, rfl, .inr ⟨h, q⟩⟩
theorem isi_of {T n : String} {b : Bool} {P : Bool → Prop} (h : kitB T n = some b) : (∃ b', kitB T n = some b' ∧ P b') = P b := propext ⟨fun ⟨k, e, p⟩ => by rw [h] at e; cases e; exact p, fun p => ⟨b, h, p⟩⟩
theorem isi_lst {a : Addr} {xs : List V} (h : H a = some (.lst xs)) (q : Q (.bl false) H) : zIsi [.ref a, .ty "tuple"] H Q := .inl ⟨false, xs, h, by decide +kernel, q⟩
theorem isi_tup {a : Addr} {xs : List V} (h : H a = some (.tup xs)) (q : Q (.bl true) H) : zIsi [.ref a, .ty "tuple"] H Q := .inr ⟨true, xs, h, by decide +kernel, q⟩
theorem o_isi_non_bool  : zIsi [.non, .ty "bool"] H Q = Q (.bl false) H := isi_of (by decide +kernel)
theorem o_isi_non_int  : zIsi [.non, .ty "int"] H Q = Q (.bl false) H := isi_of (by decide +kernel)
theorem o_isi_non_str  : zIsi [.non, .ty "str"] H Q = Q (.bl false) H := isi_of (by decide +kernel)
theorem o_isi_non_tuple  : zIsi [.non, .ty "tuple"] H Q = Q (.bl false) H := isi_of (by decide +kernel)
theorem o_isi_non_list  : zIsi [.non, .ty "list"] H Q = Q (.bl false) H := isi_of (by decide +kernel)
theorem o_isi_bl_bool {b : Bool} : zIsi [.bl b, .ty "bool"] H Q = Q (.bl true) H := isi_of (by decide +kernel)
theorem o_isi_bl_int {b : Bool} : zIsi [.bl b, .ty "int"] H Q = Q (.bl true) H := isi_of (by decide +kernel)
theorem o_isi_bl_str {b : Bool} : zIsi [.bl b, .ty "str"] H Q = Q (.bl false) H := isi_of (by decide +kernel)
theorem o_isi_bl_tuple {b : Bool} : zIsi [.bl b, .ty "tuple"] H Q = Q (.bl false) H := isi_of (by decide +kernel)
theorem o_isi_bl_list {b : Bool} : zIsi [.bl b, .ty "list"] H Q = Q (.bl false) H := isi_of (by decide +kernel)
theorem o_isi_int_bool {i : Int} : zIsi [.int i, .ty "bool"] H Q = Q (.bl false) H := isi_of (by decide +kernel)
theorem o_isi_int_int {i : Int} : zIsi [.int i, .ty "int"] H Q = Q (.bl true) H := isi_of (by decide +kernel)
theorem o_isi_int_str {i : Int} : zIsi [.int i, .ty "str"] H Q = Q (.bl false) H := isi_of (by decide +kernel)
theorem o_isi_int_tuple {i : Int} : zIsi [.int i, .ty "tuple"] H Q = Q (.bl false) H := isi_of (by decide +kernel)
theorem o_isi_int_list {i : Int} : zIsi [.int i, .ty "list"] H Q = Q (.bl false) H := isi_of (by decide +kernel)
theorem o_isi_str_bool {s : Str} : zIsi [.str s, .ty "bool"] H Q = Q (.bl false) H := isi_of (by decide +kernel)
theorem o_isi_str_int {s : Str} : zIsi [.str s, .ty "int"] H Q = Q (.bl false) H := isi_of (by decide +kernel)
theorem o_isi_str_str {s : Str} : zIsi [.str s, .ty "str"] H Q = Q (.bl true) H := isi_of (by decide +kernel)
theorem o_isi_str_tuple {s : Str} : zIsi [.str s, .ty "tuple"] H Q = Q (.bl false) H := isi_of (by decide +kernel)
theorem o_isi_str_list {s : Str} : zIsi [.str s, .ty "list"] H Q = Q (.bl false) H := isi_of (by decide +kernel)
theorem x_raise (q : t σ H fun vs H1 => vs.length ≤ sizeLine ∧ W (.ref C) none σ H1) : zRaise C W t D σ H := q
theorem e_fmt : tFmt te σ H Q = te σ H fun x H1 => (∃ y : Str, x = .str y ∧ y.length ≤ sizeLine ∧ Q (.str y) H1) ∨ ∃ i : Int, x = .int i ∧ i.natAbs.log2 < 1920 ∧ Q (.str (toString i)) H1 := rfl
theorem e_fmtI {i : Int} {P1 : Str → Prop} {P2 : Int → Prop} : ((∃ y : Str, V.int i = .str y ∧ P1 y) ∨ ∃ j : Int, V.int i = .int j ∧ P2 j) = P2 i := propext ⟨fun h => by rcases h with ⟨_, e, _⟩ | ⟨_, e, p⟩ <;> cases e; exact p, fun p => .inr ⟨i, rfl, p⟩⟩
theorem e_fmtS {a : Str} {P1 : Str → Prop} {P2 : Int → Prop} : ((∃ y : Str, V.str a = .str y ∧ P1 y) ∨ ∃ j : Int, V.str a = .int j ∧ P2 j) = P1 a := propext ⟨fun h => by rcases h with ⟨_, e, p⟩ | ⟨_, e, p⟩ <;> cases e; exact p, fun p => .inl ⟨a, rfl, p⟩⟩
theorem e_joined : zJoined ts σ H Q = tJs ts Str.empty σ H fun out H1 => Q (.str out) H1 := rfl
theorem e_js0 : tJs [] acc σ H QT = QT acc H := rfl
theorem e_js1 : tJs (te :: ts) acc σ H QT = te σ H fun x H1 => ∃ y : Str, x = .str y ∧ (acc ++ y).length ≤ sizeLine ∧ tJs ts (acc ++ y) σ H1 QT := rfl
end
end Z
/-! Zl: loops and comprehensions; great numbers; what the law's draws need. -/
namespace Z
open PySem PySem.Spec PyProof.Rows L2
section
variable {K : PySem.W.Frag} {σ : L2.St} {H : Hp} {Q : VK} {nx bk ct : L2.St → Hp → Prop} {g : TG} {t u : TS} {te : TE} {tt : TT} {vs : List Nat} {wi : TI} {QI : It → Hp → Prop}
/-- a station: what is known ahead of the rest -/
theorem x_mid (Mid : L2.St → Hp → Prop) (k : ∀ σ' H', Mid σ' H' → nx σ' H') (h : (∀ σ' H', Mid σ' H' → nx σ' H') → t ⟨nx, Q, bk, ct⟩ σ H) : t ⟨nx, Q, bk, ct⟩ σ H := h k
/-- for over a text -/
theorem x_text {z : Str} (Pv : Nat → L2.St → Hp → Prop) (h0 : Pv 0 σ H)
    (hs : ∀ (i : Nat) c σ' H', z.cps.toList[i]? = some c → Pv i σ' H' → g (.str ⟨#[c]⟩) σ' H' fun σ2 H2 => t ⟨Pv (i + 1), Q, nx, Pv (i + 1)⟩ σ2 H2) (hd : ∀ σ' H', Pv z.cps.toList.length σ' H' → nx σ' H') :
    ∃ W : Nat → Nat → L2.St → Hp → Prop, (∃ m, W 0 m σ H) ∧ ∀ i m σ H, W i m σ H →
    ((Its z).stop i H ∧ nx σ H) ∨ ((Its z).go i H ∧ ∃ N : L2.St → Hp → Prop, (∀ σ' H', N σ' H' → ∃ m', m' < m ∧ W (i + 1) m' σ' H') ∧ ∀ x H', (Its z).yld i H x H' → g x σ H' fun σ2 H2 => t ⟨N, Q, nx, N⟩ σ2 H2) :=
  for_it (D := ⟨nx, Q, nx, nx⟩) walk_str Pv h0 (fun _ _ _ _ _ => True.intro) (fun i x σ' H' H'' hi p y => by
    obtain ⟨rfl, c, hc, rfl⟩ := y
    exact hs i c σ' H'' (by rw [← hc]; simp) p) (fun σ' H' p => hd σ' H' (by simpa using p))
/-- for over enumerate of a list -/
theorem x_enum {a : Addr} {xs : List V} (Pv : Nat → L2.St → Hp → Prop) (h0 : Pv 0 σ H) (hl : ∀ i σ H, i ≤ xs.length → Pv i σ H → SqL K H a xs)
    (hs : ∀ (i : Nat) x T σ' H', xs[i]? = some x → Pv i σ' H' → H' T = none → g (.ref T) σ' (upd H' T (.tup [.int (i : Int), x])) fun σ2 H2 => t ⟨Pv (i + 1), Q, nx, Pv (i + 1)⟩ σ2 H2) (hd : ∀ σ' H', Pv xs.length σ' H' → nx σ' H') :
    ∃ W : Nat → Nat → L2.St → Hp → Prop, (∃ m, W 0 m σ H) ∧ ∀ i m σ H, W i m σ H →
    ((Ite K a).stop i H ∧ nx σ H) ∨ ((Ite K a).go i H ∧ ∃ N : L2.St → Hp → Prop, (∀ σ' H', N σ' H' → ∃ m', m' < m ∧ W (i + 1) m' σ' H') ∧ ∀ x H', (Ite K a).yld i H x H' → g x σ H' fun σ2 H2 => t ⟨N, Q, nx, N⟩ σ2 H2) :=
  for_it (D := ⟨nx, Q, nx, nx⟩) walk_enum Pv h0 hl (fun i x σ' H' H'' hi p y => by
    obtain ⟨T, x1, y1, rfl, hT, rfl, e1, e2⟩ := y
    cases e1
    exact hs i y1 T σ' H' e2 p hT) hd
theorem e_iE {ta : TA} : iEnum K ta σ H QI = ta σ H fun vs H1 => ∃ a xs, vs = [.ref a] ∧ SqL K H1 a xs ∧ QI (Ite K a) H1 := rfl
theorem x_iE {a : Addr} {xs : List V} {P : Addr → Prop} (h : SqL K H a xs) (q : P a) : ∃ a' xs, [V.ref a] = [.ref a'] ∧ SqL K H a' xs ∧ P a' := ⟨a, xs, rfl, h, q⟩
theorem e_iSeqL {P P' : Prop} (h : P) : P ∨ P' := .inl h
/-- a comprehension, behind what is walked: a word for the turn, the items so far, the heap -/
def LcW (D : Addr) (Pv : Nat → List V → Hp → Prop) (i : Nat) (H : Hp) : Prop := ∃ acc, H D = some (.lst acc) ∧ acc.length ≤ i ∧ Pv i acc H
theorem lc_yes {D : Addr} {Pv : Nat → List V → Hp → Prop} {i : Nat} {H4 : Hp} {acc : List V} {y : V} (h : H4 D = some (.lst acc)) (l : acc.length ≤ i) (hi : i < 1000000) (p : Pv (i + 1) (acc ++ [y]) (upd H4 D (.lst (acc ++ [y])))) :
    ∃ acc, H4 D = some (.lst acc) ∧ acc.length < sizeLine ∧ LcW D Pv (i + 1) (upd H4 D (.lst (acc ++ [y]))) :=
  ⟨acc, h, by rw [sizeLine_eq]; omega, acc ++ [y], upd_same, by rw [List.length_append, List.length_singleton]; omega, p⟩
theorem lc_no {D : Addr} {Pv : Nat → List V → Hp → Prop} {i : Nat} {H4 : Hp} {acc : List V} (h : H4 D = some (.lst acc)) (l : acc.length ≤ i) (p : Pv (i + 1) acc H4) : LcW D Pv (i + 1) H4 := ⟨acc, h, by omega, p⟩
/-- what a comprehension asks behind its source -/
def LcGo (J : It) (H : Hp) (g : TG) (tt : TT) (te : TE) (vs : List Nat) (σ : L2.St) (Q : VK) : Prop := ∀ D, H D = none → ∃ W : Nat → Nat → Hp → Prop, (∃ m, W 0 m (upd H D (.lst []))) ∧ ∀ i m H, W i m H →
  (J.stop i H ∧ Q (.ref D) H) ∨ (J.go i H ∧ ∃ Nx : Hp → Prop, (∀ H', Nx H' → ∃ m', m' < m ∧ W (i + 1) m' H') ∧ ∀ x H', J.yld i H x H' → g x (wipe σ vs) H' fun σ2 H2 => wipe σ2 vs = wipe σ vs ∧ tt σ2 H2 fun b H3 =>
    if b = true then te σ2 H3 fun y H4 => ∃ acc, H4 D = some (.lst acc) ∧ acc.length < sizeLine ∧ Nx (upd H4 D (.lst (acc ++ [y]))) else Nx H3)
theorem e_lc : tLc wi g tt te vs σ H Q = wi σ H fun J H1 => LcGo J H1 g tt te vs σ Q := rfl
/-- a comprehension: a word for the turn, the items so far, the heap (D: where the new list stands) -/
theorem x_lc {J : It} {n : Nat} {G : Hp → Prop} {Y : Nat → Hp → V → Hp → Prop} (w : Walk J n G Y) (Pv : Addr → Nat → List V → Hp → Prop) (h0 : ∀ D, H D = none → Pv D 0 [] (upd H D (.lst []))) (hG : ∀ D i acc H, Pv D i acc H → G H)
    (hs : ∀ D i x acc H' H'', H D = none → i < n → Pv D i acc H' → H' D = some (.lst acc) → acc.length ≤ i → Y i H' x H'' → g x (wipe σ vs) H'' fun σ2 H2 => wipe σ2 vs = wipe σ vs ∧ tt σ2 H2 fun b H3 =>
      if b = true then te σ2 H3 fun y H4 => ∃ acc, H4 D = some (.lst acc) ∧ acc.length < sizeLine ∧ LcW D (Pv D) (i + 1) (upd H4 D (.lst (acc ++ [y]))) else LcW D (Pv D) (i + 1) H3)
    (hd : ∀ D acc H', H D = none → Pv D n acc H' → H' D = some (.lst acc) → acc.length ≤ n → Q (.ref D) H') : LcGo J H g tt te vs σ Q :=
  fun D hD => lc_it w (LcW D (Pv D)) ⟨[], upd_same, Nat.le_refl _, h0 D hD⟩ (fun i H' _ ⟨acc, _, _, p⟩ => hG D i acc H' p) (fun i x H' H'' hi ⟨acc, hL, hl, p⟩ y => hs D i x acc H' H'' hD hi p hL hl y) (fun H' ⟨acc, hL, hl, p⟩ => hd D acc H' hD p hL hl)
theorem e_yes1 {QB : Bool → Hp → Prop} : tYes σ H QB = QB true H := rfl
end
/-- a tuple of the module's own -/
def KTup (K : PySem.W.Frag) (a : Addr) (xs : List V) : Prop := ∃ (o : Obj) (its : Array Value) (n : Nat), K.lookup a = some o ∧ o.cls = .type "tuple" ∧ o.data = .seq its n ∧ its.size ≤ sizeLine ∧ Vals xs its.toList
theorem KTup.sq {K : PySem.W.Frag} {H : Hp} {a : Addr} {xs : List V} (h : KTup K a xs) : SqT K H a xs := .inr h
theorem hu66 {k : Nat} {A : Around} (r : Room k A) : A.units + 66 < cLine := by have := r.un; omega
theorem exm_of {K : PySem.W.Frag} {C S : Addr} {b : Bool} (h1 : PySem.W.subIn K (.ref C) (.type "BaseException") = some true) (h2 : PySem.W.isClsIn K S = true) (h3 : PySem.W.typeIn K (.ref S) = some (.type "type")) (h4 : PySem.W.subIn K (.ref C) (.ref S) = some b)
    (h0 : PySem.W.subIn K (.ref S) (.type "BaseException") = some true) : PySem.W.exmOne K (.ref C) (.ref S) = some b := by
  have e1 : (PySem.W.subIn K (.ref S) (.type "BaseException") == some true) = true := by rw [h0] <;> rfl
  have e2 : ((PySem.W.clsIn K S).isSome && PySem.W.typeIn K (.ref S) == some (.type "type")) = true := by
    have h2' : (PySem.W.clsIn K S).isSome = true := h2
    rw [h2', h3] <;> rfl
  show (if (PySem.W.subIn K (.ref S) (.type "BaseException") == some true) = true then (if ((PySem.W.clsIn K S).isSome && PySem.W.typeIn K (.ref S) == some (.type "type")) = true then PySem.W.subIn K (.ref C) (.ref S) else none) else none) = some b
  rw [if_pos e1, if_pos e2]
  exact h4
/-! great numbers by their bits -/
def lg (z : Int) : Nat := z.natAbs.log2
theorem lg_lt {z : Int} {n : Nat} (h0 : 0 < n) (h : z.natAbs < 2 ^ n) : lg z < n := PySem.Flt.log2_lt_of h0 h
theorem lt_lg (z : Int) : z.natAbs < 2 ^ (lg z + 1) := Nat.lt_log2_self
theorem lg_bits {z : Int} {n : Nat} (h : Builtin.Int.intBits z ≤ n) : lg z ≤ n := by
  unfold Builtin.Int.intBits at h
  unfold lg
  by_cases e : z = 0
  · subst e
    exact Nat.zero_le _
  · rw [if_neg (by simpa using e)] at h
    omega
theorem lg_add (a b : Int) : lg (a + b) ≤ max (lg a) (lg b) + 1 := by
  have h1 := lt_lg a
  have h2 := lt_lg b
  have h3 : (a + b).natAbs ≤ a.natAbs + b.natAbs := Int.natAbs_add_le a b
  have m1 : 2 ^ (lg a + 1) ≤ 2 ^ (max (lg a) (lg b) + 1) := Nat.pow_le_pow_right (by decide) (by omega)
  have m2 : 2 ^ (lg b + 1) ≤ 2 ^ (max (lg a) (lg b) + 1) := Nat.pow_le_pow_right (by decide) (by omega)
  have e : 2 ^ (max (lg a) (lg b) + 1 + 1) = 2 ^ (max (lg a) (lg b) + 1) + 2 ^ (max (lg a) (lg b) + 1) := by rw [Nat.pow_succ]; omega
  have := lg_lt (z := a + b) (n := max (lg a) (lg b) + 1 + 1) (by omega) (by omega)
  omega
theorem lg_mul (a b : Int) : lg (a * b) ≤ lg a + lg b + 1 := by
  have h := wide_lt (lt_lg a) (lt_lg b)
  have := lg_lt (by omega) h
  omega
theorem lg_le {a b : Int} (h : a.natAbs ≤ b.natAbs) : lg a ≤ lg b := by
  by_cases e : a.natAbs = 0
  · unfold lg; rw [e]; exact Nat.zero_le _
  · exact (Nat.le_log2 (by omega)).mpr (Nat.le_trans ((Nat.le_log2 e).mp (Nat.le_refl _)) h)
theorem lg_small {z : Int} {n : Nat} (h0 : 0 < n) (h : z.natAbs < 2 ^ n) : lg z ≤ n := Nat.le_of_lt (lg_lt h0 h)
theorem cmul_lg {i j : Int} {a b : Nat} (h1 : lg i ≤ a) (h2 : lg j ≤ b) (h : a + b < 100000000) : CMulB i j := by
  have h1' : i.natAbs.log2 ≤ a := h1
  have h2' : j.natAbs.log2 ≤ b := h2
  unfold CMulB
  omega
end Z
/-! the addresses of the package's classes and tuples -/
namespace Z
open PySem
structure Nm where
  c_LineError : Addr := 0
  c_BadPlan : Addr := 0
  c_NoSuchExchange : Addr := 0
  c_Plan : Addr := 0
  c_NoSuchTrunk : Addr := 0
  c_NoSuchCircuit : Addr := 0
  c_BadNumber : Addr := 0
  c_BadOctets : Addr := 0
  c_BadEntry : Addr := 0
  c_Journal : Addr := 0
  c_Record : Addr := 0
  c_NoIdleCircuit : Addr := 0
  c_NotHeld : Addr := 0
  c_Ends : Addr := 0
  c_NoSuchWord : Addr := 0
  c_Wire : Addr := 0
  c_NoSuchLine : Addr := 0
  c_LineDesk : Addr := 0
  c_Call : Addr := 0
  c_Board : Addr := 0
  c_ExchangeDown : Addr := 0
  c_ExchangeUp : Addr := 0
  c_LineBusy : Addr := 0
  c_NotRinging : Addr := 0
  c_NothingToHangUp : Addr := 0
  c_Exchange : Addr := 0
  c_Network : Addr := 0
  c_CallFile : Addr := 0
  c_Band : Addr := 0
  c_Charge : Addr := 0
  c_JoinedCall : Addr := 0
  c_Posting : Addr := 0
  c_Section : Addr := 0
  c_BadFile : Addr := 0
  c_NothingToFile : Addr := 0
  c_ForeignFile : Addr := 0
  c_ClashingFile : Addr := 0
  c_JournalTurned : Addr := 0
  c_BadHistory : Addr := 0
  c_Shelf : Addr := 0
  c_Collector : Addr := 0
  c_Tariff : Addr := 0
  c_ChargeRun : Addr := 0
  c_Contracts : Addr := 0
  c_Ledger : Addr := 0
  c_Office : Addr := 0
  c_Exporter : Addr := 0
  c_NoSuchFile : Addr := 0
  g_CAUSES : Addr := 0
  g_ROLES : Addr := 0
  g_KINDS : Addr := 0
  g_OPEN_SHAPES : Addr := 0
  g_DOWN_KINDS : Addr := 0
  g_UP_KINDS : Addr := 0
  g_BILLING_KINDS : Addr := 0
  g_MARKS : Addr := 0
  g_HEAD_ROLES : Addr := 0
  g_LEG_ROLES : Addr := 0
end Z
namespace Z
open PySem PySem.Spec PyProof.Rows L2
def digs : List Nat := ("0123456789" : Str).cps.toList
theorem digs_eq : digs = [48, 49, 50, 51, 52, 53, 54, 55, 56, 57] := by decide +kernel
/-- is a text a phone number -/
def isNum (z : Str) : Bool := decide (1 ≤ (z.length : Int)) && (decide ((z.length : Int) ≤ 15) && z.cps.toList.all fun c => decide (c ∈ digs))
theorem len_tl (z : Str) : z.cps.toList.length = z.length := by simp [Str.length]
end Z
namespace Z
open PySem PySem.Spec PyProof.Rows L2
/-- a reference or None -/
def RefV (K : PySem.W.Frag) (H : Hp) (v : V) : Option (List Int) → Prop
  | none => v = .non
  | some ns => ∃ p, v = .ref p ∧ SqT K H p (ns.map V.int)
theorem RefV.up {K : PySem.W.Frag} {H H' : Hp} {v : V} (s : Same H H') : ∀ {r : Option (List Int)}, RefV K H v r → RefV K H' v r
  | none, h => h
  | some _, ⟨p, e, h⟩ => ⟨p, e, sqT_up s h⟩
def lowerR : Option (List Int) → Option (List Int) → Bool
  | none, some _ => true
  | none, none => false
  | some _, none => false
  | some a, some b => HT.lexLt a b
end Z
namespace Z
open PySem PySem.Spec PyProof.Rows L2
local macro_rules | `(tactic| walk_at "side") => `(tactic| first | assumption | omega | decide | exact Nat.le_refl _)
local macro_rules | `(tactic| walk_at "len") => `(tactic| (simp only [List.length_cons, List.length_nil, sizeLine_eq]; omega))
local macro_rules | `(tactic| walk_at "ne") => `(tactic| first | assumption | exact Ne.symm (by assumption) | exact ne_of_none (by walk_at "hp") (by assumption) | exact (ne_of_none (by walk_at "hp") (by assumption)).symm)
local macro_rules | `(tactic| walk_at "hp") => `(tactic| first | assumption | exact upd_same | ((with_reducible show upd _ _ _ _ = _); exact hp_ne (by walk_at "hp") (by walk_at "ne")) | exact hp_same (by assumption) (by walk_at "hp") | exact hp_grow (by assumption) (by walk_at "hp"))
local macro_rules | `(tactic| walk_at "sl") => `(tactic| first | assumption | exact SqL.of (by walk_at "hp") | exact sl_same (by assumption) (by walk_at "sl") | exact sl_grow (by assumption) (by walk_at "sl") | exact sl_same (same_new (by assumption)) (by walk_at "sl"))
local macro_rules | `(tactic| walk_at "st") => `(tactic| first | assumption | exact SqT.of (by walk_at "hp") | exact st_same (by assumption) (by walk_at "st") | exact st_grow (by assumption) (by walk_at "st") | exact st_same (same_new (by assumption)) (by walk_at "st"))
local macro_rules | `(tactic| walk_at "ev") => `(tactic| simp only [e_v0, e_n0, e_v1, e_n1, e_v2, e_n2, e_v3, e_n3, e_v4, e_n4, e_v5, e_n5, e_v6, e_n6, e_v7, e_n7, e_v8, e_n8, e_v9, e_n9, e_v10, e_n10, e_v11, e_n11, e_v12, e_n12, e_v13, e_n13, e_v14, e_n14, e_v15, e_n15, e_v16, e_n16, e_v17, e_n17, e_v18, e_n18, e_v19, e_n19, e_v20, e_n20, e_v21, e_n21, e_v22, e_n22, e_v23, e_n23, e_v24, e_n24, e_v25, e_n25, e_v26, e_n26, e_v27, e_n27, e_v28, e_n28, e_v29, e_n29, e_v30, e_n30, e_v31, e_n31, e_v32, e_n32, e_v33, e_n33, e_v34, e_n34, e_v35, e_n35, e_v36, e_n36, e_v37, e_n37, e_v38, e_n38, e_v39, e_n39, e_c, e_op, e_un, e_nil, e_cons, e_tup, e_lst, e_cb, e_call, e_bm, e_bm0, e_sl, e_nopart, e_part, e_chain, e_ifE, e_notT, e_andT, e_orT, e_test, e_tru, e_not, e_and, e_or, o_addI, o_addS, o_subI, o_mulI, o_divI, o_modI, o_powI, o_neg, o_eqNN, o_eqI, o_eqS, o_eqB, o_eqNI, o_eqIN, o_eqNS, o_eqSN, o_eqNB, o_eqBN, o_eqIS, o_eqSI, o_eqBS, o_eqSB, o_neNN, o_neI, o_neS, o_neB, o_neNI, o_neIN, o_neNS, o_neSN, o_neNB, o_neBN, o_neIS, o_neSI, o_neBS, o_neSB, o_ltI, o_ltS, o_leI, o_gtI, o_geI, o_isN, o_isI, o_isS, o_isB, o_isR, o_isBB, o_isnN, o_isnI, o_isnS, o_isnB, o_isnR, o_isnBB, e_fld, e_meth, e_make, e_fmt, e_fmtI, e_fmtS, e_joined, e_js0, e_js1, o_intI, o_intB, o_str, e_iR1, e_intL, e_iL, e_iT, e_iS, e_lc, e_yes1, e_ref, e_strx, o_isi_non_bool, o_isi_non_int, o_isi_non_str, o_isi_non_tuple, o_isi_non_list, o_isi_bl_bool, o_isi_bl_int, o_isi_bl_str, o_isi_bl_tuple, o_isi_bl_list, o_isi_int_bool, o_isi_int_int, o_isi_int_str, o_isi_int_tuple, o_isi_int_list, o_isi_str_bool, o_isi_str_int, o_isi_str_str, o_isi_str_tuple, o_isi_str_list, e_bl, e_int, e_truB, e_truI, e_truN, e_yes, e_no, e_yesT, e_noF, Bool.not_true, Bool.not_false])
local macro_rules | `(tactic| walk_at "s1") => `(tactic| first | with_reducible refine x_seq ?_ | with_reducible refine x_asg ?_ | with_reducible refine x_ret ?_ | with_reducible refine x_drop ?_ | with_reducible refine x_next ?_ | with_reducible refine x_for ?_ | with_reducible refine x_retN ?_ | with_reducible refine x_brk ?_ | with_reducible refine x_cont ?_ | with_reducible refine x_raise ?_)
local macro_rules | `(tactic| walk_at "a1") => `(tactic| first | (with_reducible refine ⟨(cdiv (by decide) (by decide) : CDivW _ _), ?_⟩) | (with_reducible refine ⟨(by decide : (0 : Int) < _), ?_⟩) | (with_reducible refine ⟨(by walk_at "len" : List.length _ ≤ sizeLine), ?_⟩))
local macro_rules | `(tactic| walk_at "go") => `(tactic| repeat (first | walk_at "s1" | walk_at "ev" | walk_at "a1"))
local macro_rules | `(tactic| walk_at "wp") => `(tactic| simp only [wipe, List.set_cons_zero, List.set_cons_succ])
local macro_rules | `(tactic| walk_at "gi") => `(tactic| (refine x_if ?_; walk_at "go"))
section
/-! ### _law_draws: script count draws k cell -/
/-- a draw: not negative, of not too many bits -/
def Big (d : Int) : Prop := 0 ≤ d ∧ lg d ≤ 2000000
def sp__law_draws (K : PySem.W.Frag) (N : Nm) : Sp := fun vs H Q _ => ∃ (a : Addr) (ns : List Int) (c : Nat), vs = [.ref a, .int c] ∧ SqL K H a (ns.map V.int) ∧ ns.length ≤ 63 ∧ (∀ z ∈ ns, Builtin.Int.intBits z ≤ 1048576) ∧ c ≤ 1000 ∧
  ∀ ds : List Int, ds.length = c → (∀ d ∈ ds, Big d) → RetL H (ds.map V.int) Q
theorem len__law_draws {K : PySem.W.Frag} {N : Nm} {vs : List V} {H : Hp} {Q : VK} {E : XK} (h : sp__law_draws K N vs H Q E) : vs.length = 2 := by
  obtain ⟨_, _, _, rfl, _⟩ := h
  rfl
theorem atI_map {ns : List Int} {i : Nat} {z : Int} (h : ns[i]? = some z) : atI (ns.map V.int) (i : Int) = some (.int z) := at_of rfl (by rw [List.getElem?_map, h]; rfl)
theorem draw_step {cell : Int} (k : Int) (h0 : 0 ≤ k) (hk : k ≤ 1000) (h : lg cell ≤ 1100000) : CMulB cell 6364136223846793005 ∧ CMulB 1442695040888963407 (k + 1) ∧ CMulB (((cell * 6364136223846793005 + 1442695040888963407 * (k + 1)) % 9223372036854775783)) 2862933555777941757 ∧
    Big ((((cell * 6364136223846793005 + 1442695040888963407 * (k + 1)) % 9223372036854775783) * 2862933555777941757 + 3037000493 + k) % 18446744073709551557) := by
  refine ⟨cmul_lg h (lg_small (n := 64) (by decide) (by decide)) (by decide), cmul (by decide) (by omega), ?_, ?_⟩
  · have h1 := Int.emod_nonneg (cell * 6364136223846793005 + 1442695040888963407 * (k + 1)) (by decide : (9223372036854775783 : Int) ≠ 0)
    have h2 := Int.emod_lt_of_pos (cell * 6364136223846793005 + 1442695040888963407 * (k + 1)) (by decide : (0 : Int) < 9223372036854775783)
    exact cmul (by omega) (by decide)
  · generalize (((cell * 6364136223846793005 + 1442695040888963407 * (k + 1)) % 9223372036854775783) * 2862933555777941757 + 3037000493 + k) = u
    have h1 := Int.emod_nonneg u (by decide : (18446744073709551557 : Int) ≠ 0)
    have h2 := Int.emod_lt_of_pos u (by decide : (0 : Int) < 18446744073709551557)
    exact ⟨h1, Nat.le_trans (lg_small (n := 64) (by decide) (by omega)) (by decide)⟩
theorem draw_neg {z : Int} (h : lg z ≤ 1048576) : CMulB 2 z ∧ lg (1 - 2 * z) ≤ 1100000 := by
  have e2 : lg 2 ≤ 2 := lg_small (by decide) (by decide)
  have e1 : lg 1 ≤ 1 := lg_small (by decide) (by decide)
  refine ⟨cmul_lg e2 h (by decide), ?_⟩
  have h1 := lg_mul 2 z
  have h2 := lg_add 1 (-(2 * z))
  have h3 : lg (-(2 * z)) ≤ lg (2 * z) := lg_le (by omega)
  have e : (1 : Int) - 2 * z = 1 + -(2 * z) := by omega
  rw [e]
  omega
def t__law_draws (K : PySem.W.Frag) (N : Nm) (E : XK) : TS :=
  tSeq (tAsg (tLst (tNil)) (gName 2))
    (tSeq (tFor (iRng1 (tCons (zVar 1) (tNil))) (gName 3)
      (tSeq (tAsg (tC (.int 0)) (gName 4))
    (tSeq (tIfS (tTest (tOp (zGt) (tCB (zLen K) (tCons (zVar 0) (tNil))) (tC (.int 0)))) (tAsg (tCB (zInt) (tCons (tOp (zIx K) (zVar 0) (tOp (zMod) (zVar 3) (tCB (zLen K) (tCons (zVar 0) (tNil))))) (tNil))) (gName 4)) (tNext))
    (tSeq (tIfS (tTest (tOp (zLt K) (zVar 4) (tC (.int 0)))) (tAsg (tOp (zSub) (tC (.int 1)) (tOp (zMul) (tC (.int 2)) (zVar 4))) (gName 4)) (tNext))
    (tSeq (tIfS (tOr (tTest (tOp (zLt K) (zVar 4) (tC (.int 1000000000)))) (tTest (tOp (zGe) (zVar 3) (tCB (zLen K) (tCons (zVar 0) (tNil)))))) (tSeq (tAsg (tOp (zMod) (tCB (zInt) (tCons (tOp (zAdd K) (tOp (zMul) (zVar 4) (tC (.int 6364136223846793005))) (tOp (zMul) (tC (.int 1442695040888963407)) (tOp (zAdd K) (zVar 3) (tC (.int 1))))) (tNil))) (tC (.int 9223372036854775783))) (gName 4))
    (tAsg (tOp (zMod) (tCB (zInt) (tCons (tOp (zAdd K) (tOp (zAdd K) (tOp (zMul) (zVar 4) (tC (.int 2862933555777941757))) (tC (.int 3037000493))) (zVar 3)) (tNil))) (tC (.int 18446744073709551557))) (gName 4))) (tNext))
    (tDrop (tBM K "list" (rAppend) (zVar 2) (tCons (zVar 4) (tNil)))))))))
    (tRet (zVar 2)))
abbrev n__law_draws : List Str := ["script", "count", "draws", "k", "cell"]
theorem pure__law_draws {K : PySem.W.Frag} {N : Nm} {vs : List V} {H : Hp} {Q : VK} {E : XK} (h : sp__law_draws K N vs H Q E) : t__law_draws K N E ⟨fun _ H' => Q .non H', Q, fun _ _ => False, fun _ _ => False⟩ (start n__law_draws vs) H := by
  obtain ⟨a, ns, c, rfl, hS, hl, hb, hc, k⟩ := h
  show t__law_draws K N E _ [some (.ref a), some (.int c), none, none, none] H
  unfold t__law_draws
  walk_at "go"
  intro l hl0
  walk_at "go"
  refine ⟨by omega, by omega, ?_⟩
  refine x_range (n := (c : Int).toNat) (fun i σ H' => ∃ (ds : List Int) (v3 v4 : Option V), σ = [some (.ref a), some (.int c), some (.ref l), v3, v4] ∧ Same H H' ∧ H' l = some (.lst (ds.map V.int)) ∧ ds.length = i ∧ ∀ d ∈ ds, Big d)
    ⟨[], none, none, rfl, same_new hl0, upd_same, rfl, fun _ h => nomatch h⟩ ?_ ?_
  · rintro i σ' H' hi ⟨ds, v3, v4, rfl, s, hL, hn, hB⟩
    have hi' : i < c := by omega
    have hS' := s.seq hS
    walk_at "go"
    -- cell of the script
    refine x_mid (fun σ2 H2 => ∃ z : Int, σ2 = [some (.ref a), some (.int c), some (.ref l), some (.int i), some (.int z)] ∧ H2 = H' ∧ lg z ≤ 1048576) ?_ ?_
    rotate_left
    · intro key
      walk_at "gi"
      refine x_lenL hS' ?_
      walk_at "go"
      refine x_br (fun h0 => ?_) (fun h0 => ?_)
      · walk_at "go"
        refine x_lenL hS' ?_
        walk_at "go"
        refine ⟨by omega, ?_⟩
        have hm := Int.emod_nonneg (i : Int) (by omega : (((ns.map V.int).length : Nat) : Int) ≠ 0)
        have hM := Int.emod_lt_of_pos (i : Int) (by omega : (0 : Int) < (((ns.map V.int).length : Nat) : Int))
        generalize hj : (i : Int) % (((ns.map V.int).length : Nat) : Int) = j at hm hM ⊢
        have hj2 : j = ((j.toNat : Nat) : Int) := by omega
        rw [List.length_map] at hM
        have hlt : j.toNat < ns.length := by omega
        rw [hj2]
        refine x_ixL hS' (atI_map (List.getElem?_eq_getElem hlt)) ?_
        walk_at "go"
        exact key _ _ ⟨_, rfl, rfl, lg_bits (hb _ (List.getElem_mem hlt))⟩
      · walk_at "go"
        exact key _ _ ⟨0, rfl, rfl, by unfold lg; exact Nat.le_trans (by decide : (0 : Int).natAbs.log2 ≤ 0) (Nat.zero_le _)⟩
    rintro σ2 H2 ⟨z, rfl, rfl, hz⟩
    walk_at "go"
    refine x_mid (fun σ2 H3 => ∃ z : Int, σ2 = [some (.ref a), some (.int c), some (.ref l), some (.int i), some (.int z)] ∧ H3 = H2 ∧ lg z ≤ 1100000 ∧ 0 ≤ z) ?_ ?_
    rotate_left
    · intro key
      walk_at "gi"
      refine x_br (fun h0 => ?_) (fun h0 => ?_)
      · walk_at "go"
        refine ⟨(draw_neg hz).1, ?_⟩
        exact key _ _ ⟨_, rfl, rfl, (draw_neg hz).2, by omega⟩
      · walk_at "go"
        exact key _ _ ⟨_, rfl, rfl, by omega, by omega⟩
    rintro σ2 H3 ⟨y, rfl, rfl, hy, hy0⟩
    walk_at "go"
    refine x_mid (fun σ2 H2 => ∃ z : Int, σ2 = [some (.ref a), some (.int c), some (.ref l), some (.int i), some (.int z)] ∧ H2 = H3 ∧ Big z) ?_ ?_
    rotate_left
    · intro key
      obtain ⟨d1, d2, d3, d4⟩ := draw_step (cell := y) i (by omega) (by omega) hy
      walk_at "gi"
      refine x_br (fun h0 => ?_) (fun h0 => ?_)
      · walk_at "go"
        refine ⟨d1, d2, ?_⟩
        walk_at "go"
        refine ⟨d3, ?_⟩
        walk_at "go"
        exact key _ _ ⟨_, rfl, rfl, d4⟩
      · walk_at "go"
        refine x_lenL hS' ?_
        walk_at "go"
        refine x_br (fun h0 => ?_) (fun h0 => ?_)
        · walk_at "go"
          refine ⟨d1, d2, ?_⟩
          walk_at "go"
          refine ⟨d3, ?_⟩
          walk_at "go"
          exact key _ _ ⟨_, rfl, rfl, d4⟩
        · walk_at "go"
          exact key _ _ ⟨_, rfl, rfl, hy0, by omega⟩
    rintro σ2 H2 ⟨x, rfl, rfl, hx⟩
    walk_at "go"
    refine x_app hL (by rw [List.length_map, hn, sizeLine_eq]; omega) ?_
    refine ⟨ds ++ [x], some (.int i), some (.int x), rfl, same_mut s hl0, ?_, ?_, ?_⟩
    · rw [List.map_append]; exact upd_same
    · rw [List.length_append, hn]; rfl
    · intro d hd
      rcases List.mem_append.mp hd with hd | hd
      · exact hB d hd
      · rw [List.mem_singleton.mp hd]; exact hx
  · rintro σ' H' ⟨ds, v3, v4, rfl, s, hL, hn, hB⟩
    walk_at "go"
    exact k ds (by omega) hB l H' hl0 s hL
end
section
/-! ### _law_is_number: text sign -/
def sp__law_is_number (K : PySem.W.Frag) (N : Nm) : Sp := fun vs H Q _ => ∃ z : Str, vs = [.str z] ∧ z.length ≤ 1000000 ∧ RetV H (.bl (isNum z)) Q
theorem len__law_is_number {K : PySem.W.Frag} {N : Nm} {vs : List V} {H : Hp} {Q : VK} {E : XK} (h : sp__law_is_number K N vs H Q E) : vs.length = 1 := by
  obtain ⟨_, rfl, _⟩ := h
  rfl
theorem one_str (c d : Nat) : ((⟨#[c]⟩ : Str) == ⟨#[d]⟩) = decide (c = d) := by
  by_cases h : c = d
  · subst h; simp
  · have : ¬ ((⟨#[c]⟩ : Str) = ⟨#[d]⟩) := fun e => h (by injection e with e; simpa using e)
    simp [this, h]
theorem in_digs (c : Nat) : inV (.str ⟨#[c]⟩) [.str "0", .str "1", .str "2", .str "3", .str "4", .str "5", .str "6", .str "7", .str "8", .str "9"] = decide (c ∈ digs) := by
  have e0 : ("0" : Str) = ⟨#[48]⟩ := by decide +kernel
  have e1 : ("1" : Str) = ⟨#[49]⟩ := by decide +kernel
  have e2 : ("2" : Str) = ⟨#[50]⟩ := by decide +kernel
  have e3 : ("3" : Str) = ⟨#[51]⟩ := by decide +kernel
  have e4 : ("4" : Str) = ⟨#[52]⟩ := by decide +kernel
  have e5 : ("5" : Str) = ⟨#[53]⟩ := by decide +kernel
  have e6 : ("6" : Str) = ⟨#[54]⟩ := by decide +kernel
  have e7 : ("7" : Str) = ⟨#[55]⟩ := by decide +kernel
  have e8 : ("8" : Str) = ⟨#[56]⟩ := by decide +kernel
  have e9 : ("9" : Str) = ⟨#[57]⟩ := by decide +kernel
  rw [e0, e1, e2, e3, e4, e5, e6, e7, e8, e9, digs_eq]
  unfold inV
  simp only [List.any_cons, List.any_nil, eqV, one_str, Bool.or_false]
  rw [Bool.eq_iff_iff]
  simp only [Bool.or_eq_true, decide_eq_true_eq, List.mem_cons, List.not_mem_nil, or_false]
  omega
def t__law_is_number (K : PySem.W.Frag) (N : Nm) (E : XK) : TS :=
  tSeq (tIfS (tOr (tTest (tOp (zLt K) (tCB (zLen K) (tCons (zVar 0) (tNil))) (tC (.int 1)))) (tTest (tOp (zGt) (tCB (zLen K) (tCons (zVar 0) (tNil))) (tC (.int 15))))) (tRet (tC (.bl false))) (tNext))
    (tSeq (tFor (iStr (zVar 0)) (gName 1)
      (tIfS (tTest (tOp (zNotIn K) (zVar 1) (tTup (tCons (tC (.str "0")) (tCons (tC (.str "1")) (tCons (tC (.str "2")) (tCons (tC (.str "3")) (tCons (tC (.str "4")) (tCons (tC (.str "5")) (tCons (tC (.str "6")) (tCons (tC (.str "7")) (tCons (tC (.str "8")) (tCons (tC (.str "9")) (tNil)))))))))))))) (tRet (tC (.bl false))) (tNext)))
    (tRet (tC (.bl true))))
abbrev n__law_is_number : List Str := ["text", "sign"]
theorem pure__law_is_number {K : PySem.W.Frag} {N : Nm} {vs : List V} {H : Hp} {Q : VK} {E : XK} (h : sp__law_is_number K N vs H Q E) : t__law_is_number K N E ⟨fun _ H' => Q .non H', Q, fun _ _ => False, fun _ _ => False⟩ (start n__law_is_number vs) H := by
  obtain ⟨z, rfl, hz, k⟩ := h
  show t__law_is_number K N E _ [some (.str z), none] H
  have hs : z.length ≤ sizeLine := Nat.le_trans hz (by decide)
  unfold t__law_is_number
  unfold isNum at k
  walk_at "go"
  walk_at "gi"
  refine x_lenS hs ?_
  walk_at "go"
  refine x_br (fun h1 => ?_) (fun h1 => ?_)
  · rw [decide_eq_false (by omega), Bool.false_and] at k
    walk_at "go"
    exact k.go (Same.refl _)
  rw [decide_eq_true (by omega), Bool.true_and] at k
  walk_at "go"
  refine x_lenS hs ?_
  walk_at "go"
  refine x_br (fun h2 => ?_) (fun h2 => ?_)
  · rw [decide_eq_false (by omega), Bool.false_and] at k
    walk_at "go"
    exact k.go (Same.refl _)
  rw [decide_eq_true (by omega), Bool.true_and] at k
  walk_at "go"
  refine x_text (fun i σ H' => ∃ v : Option V, σ = [some (.str z), v] ∧ Same H H' ∧ ∀ c ∈ z.cps.toList.take i, c ∈ digs) ⟨none, rfl, Same.refl _, fun _ h => nomatch h⟩ ?_ ?_
  · rintro i c σ' H' hc ⟨v, rfl, s, hA⟩
    walk_at "go"
    walk_at "gi"
    intro p hp
    refine x_nmemT (SqT.of upd_same) rfl rfl ?_
    walk_at "go"
    rw [in_digs]
    refine x_nbr (fun h3 => ?_) (fun h3 => ?_)
    · walk_at "go"
      have e : (z.cps.toList.all fun c => decide (c ∈ digs)) = false := by
        rw [List.all_eq_false]
        exact ⟨c, List.mem_of_getElem? hc, by simpa using h3⟩
      rw [e] at k
      exact k.go (s.trans (same_new hp))
    · walk_at "go"
      refine ⟨_, rfl, s.trans (same_new hp), ?_⟩
      intro d hd
      rw [List.take_add_one, hc] at hd
      rcases List.mem_append.mp hd with hd | hd
      · exact hA d hd
      · have : d = c := by simpa using hd
        rw [this]; exact h3
  · rintro σ' H' ⟨v, rfl, s, hA⟩
    walk_at "go"
    have e : (z.cps.toList.all fun c => decide (c ∈ digs)) = true := by
      rw [List.all_eq_true]
      intro c hc
      exact decide_eq_true (hA c (by rw [List.take_of_length_le (Nat.le_refl _)]; exact hc))
    rw [e] at k
    exact k.go s
end
section
/-! ### _law_lower: one other k -/
def sp__law_lower (K : PySem.W.Frag) (N : Nm) : Sp := fun vs H Q _ => ∃ (v1 v2 : V) (r1 r2 : Option (List Int)), vs = [v1, v2] ∧ RefV K H v1 r1 ∧ RefV K H v2 r2 ∧ (∀ ns, r1 = some ns → ns.length = 3) ∧ (∀ ns, r2 = some ns → ns.length = 3) ∧ RetV H (.bl (lowerR r1 r2)) Q
theorem len__law_lower {K : PySem.W.Frag} {N : Nm} {vs : List V} {H : Hp} {Q : VK} {E : XK} (h : sp__law_lower K N vs H Q E) : vs.length = 2 := by
  obtain ⟨_, _, _, _, rfl, _⟩ := h
  rfl
theorem lex_at : ∀ (i : Nat) (a b : List Int) (x y : Int), a.take i = b.take i → a[i]? = some x → b[i]? = some y → x ≠ y → HT.lexLt a b = decide (x < y)
  | 0, x :: _, y :: _, _, _, _, rfl, rfl, n => by simp [HT.lexLt, n]
  | i + 1, c :: a, d :: b, x, y, e, h1, h2, n => by
    obtain ⟨e1, e2⟩ := List.cons.inj e
    subst e1
    have := lex_at i a b x y e2 h1 h2 n
    simp [HT.lexLt, this]
theorem lex_self : ∀ a : List Int, HT.lexLt a a = false
  | [] => rfl
  | c :: a => by simp [HT.lexLt, lex_self a]
def t__law_lower (K : PySem.W.Frag) (N : Nm) (E : XK) : TS :=
  tSeq (tIfS (tOr (tTest (tOp (zIs) (zVar 0) (tC .non))) (tTest (tOp (zIs) (zVar 1) (tC .non)))) (tRet (tAndT K (tOp (zIs) (zVar 0) (tC .non)) (tOp (zIsNot) (zVar 1) (tC .non)))) (tNext))
    (tSeq (tFor (iRng1 (tCons (tC (.int 3)) (tNil))) (gName 2)
      (tIfS (tTest (tOp (zNe K) (tOp (zIx K) (zVar 0) (zVar 2)) (tOp (zIx K) (zVar 1) (zVar 2)))) (tRet (tOp (zLt K) (tOp (zIx K) (zVar 0) (zVar 2)) (tOp (zIx K) (zVar 1) (zVar 2)))) (tNext)))
    (tRet (tC (.bl false))))
abbrev n__law_lower : List Str := ["one", "other", "k"]
theorem pure__law_lower {K : PySem.W.Frag} {N : Nm} {vs : List V} {H : Hp} {Q : VK} {E : XK} (h : sp__law_lower K N vs H Q E) : t__law_lower K N E ⟨fun _ H' => Q .non H', Q, fun _ _ => False, fun _ _ => False⟩ (start n__law_lower vs) H := by
  obtain ⟨v1, v2, r1, r2, rfl, h1, h2, l1, l2, k⟩ := h
  show t__law_lower K N E _ [some v1, some v2, none] H
  unfold t__law_lower
  walk_at "go"
  cases r1 with
  | none =>
    cases h1
    cases r2 with
    | none =>
      cases h2
      walk_at "gi"
      exact k.go (Same.refl _)
    | some n2 =>
      obtain ⟨p2, rfl, h2⟩ := h2
      walk_at "gi"
      exact k.go (Same.refl _)
  | some n1 =>
    obtain ⟨p1, rfl, h1⟩ := h1
    cases r2 with
    | none =>
      cases h2
      walk_at "gi"
      exact k.go (Same.refl _)
    | some n2 =>
      obtain ⟨p2, rfl, h2⟩ := h2
      walk_at "gi"
      have e1 := l1 _ rfl
      have e2 := l2 _ rfl
      refine ⟨by decide, by decide, ?_⟩
      refine x_range (n := ((3 : Int)).toNat) (fun i σ H' => ∃ v3 : Option V, σ = [some (.ref p1), some (.ref p2), v3] ∧ Same H H' ∧ n1.take i = n2.take i) ⟨none, rfl, Same.refl _, rfl⟩ ?_ ?_
      · rintro i σ' H' hi ⟨v3, rfl, s, hT⟩
        have h1 := sqT_up s h1
        have h2 := sqT_up s h2
        have hi3 : i < 3 := hi
        have g1 : n1[i]? = some n1[i] := List.getElem?_eq_getElem (by omega)
        have g2 : n2[i]? = some n2[i] := List.getElem?_eq_getElem (by omega)
        walk_at "go"
        walk_at "gi"
        refine x_ixT h1 (at_of rfl (by rw [List.getElem?_map, g1]; rfl)) ?_
        refine x_ixT h2 (at_of rfl (by rw [List.getElem?_map, g2]; rfl)) ?_
        walk_at "go"
        refine x_nbr (fun hn => ?_) (fun he => ?_)
        · walk_at "go"
          refine x_ixT h1 (at_of rfl (by rw [List.getElem?_map, g1]; rfl)) ?_
          refine x_ixT h2 (at_of rfl (by rw [List.getElem?_map, g2]; rfl)) ?_
          walk_at "go"
          rw [← lex_at i n1 n2 _ _ hT g1 g2 hn]
          exact k.go s
        · walk_at "go"
          refine ⟨_, rfl, s, ?_⟩
          rw [List.take_add_one, List.take_add_one, hT, g1, g2, he]
      · rintro σ' H' ⟨v3, rfl, s, hT⟩
        have e : n1 = n2 := by
          have a1 : n1.take 3 = n1 := List.take_of_length_le (by omega)
          have a2 : n2.take 3 = n2 := List.take_of_length_le (by omega)
          rw [← a1, ← a2]; exact hT
        subst e
        walk_at "go"
        have : lowerR (some n1) (some n1) = false := lex_self n1
        rw [this] at k
        exact k.go s
end
section
/-! ### _law_reference: draw -/
def sp__law_reference (K : PySem.W.Frag) (N : Nm) : Sp := fun vs H Q _ => ∃ d : Int, vs = [.int d] ∧ ∀ (r : Option (List Int)) (v : V) (H' : Hp), (∀ ns, r = some ns → ns.length = 3) → Same H H' → RefV K H' v r → Q v H'
theorem len__law_reference {K : PySem.W.Frag} {N : Nm} {vs : List V} {H : Hp} {Q : VK} {E : XK} (h : sp__law_reference K N vs H Q E) : vs.length = 1 := by
  obtain ⟨_, rfl, _⟩ := h
  rfl
def t__law_reference (K : PySem.W.Frag) (N : Nm) (E : XK) : TS :=
  tSeq (tIfS (tTest (tOp (zEq K) (tOp (zMod) (zVar 0) (tC (.int 5))) (tC (.int 0)))) (tRet (tC .non)) (tNext))
    (tRet (tTup (tCons (tOp (zMod) (tCB (zInt) (tCons (tOp (zDiv) (zVar 0) (tC (.int 5))) (tNil))) (tC (.int 3))) (tCons (tOp (zAdd K) (tC (.int 1)) (tOp (zMod) (tCB (zInt) (tCons (tOp (zDiv) (zVar 0) (tC (.int 15))) (tNil))) (tC (.int 3)))) (tCons (tOp (zMod) (tCB (zInt) (tCons (tOp (zDiv) (zVar 0) (tC (.int 45))) (tNil))) (tC (.int 12))) (tNil))))))
abbrev n__law_reference : List Str := ["draw"]
theorem pure__law_reference {K : PySem.W.Frag} {N : Nm} {vs : List V} {H : Hp} {Q : VK} {E : XK} (h : sp__law_reference K N vs H Q E) : t__law_reference K N E ⟨fun _ H' => Q .non H', Q, fun _ _ => False, fun _ _ => False⟩ (start n__law_reference vs) H := by
  obtain ⟨d, rfl, k⟩ := h
  show t__law_reference K N E _ [some (.int d)] H
  unfold t__law_reference
  walk_at "go"
  walk_at "gi"
  refine x_br (fun h0 => ?_) (fun h0 => ?_)
  · walk_at "go"
    exact k none _ _ (fun _ e => nomatch e) (Same.refl _) rfl
  · walk_at "go"
    intro p hp
    exact k (some [d / 5 % 3, 1 + d / 15 % 3, d / 45 % 12]) _ _ (fun _ e => by cases e; rfl) (same_new hp) ⟨p, rfl, SqT.of upd_same⟩
end
section
/-! ### _law_text: draw other text rest k place -/
def sp__law_text (K : PySem.W.Frag) (N : Nm) : Sp := fun vs H Q _ => ∃ d o : Int, vs = [.int d, .int o] ∧ ∀ z : Str, z.length ≤ 1000 → RetV H (.str z) Q
theorem len__law_text {K : PySem.W.Frag} {N : Nm} {vs : List V} {H : Hp} {Q : VK} {E : XK} (h : sp__law_text K N vs H Q E) : vs.length = 2 := by
  obtain ⟨_, _, rfl, _⟩ := h
  rfl
theorem atI_in {α : Type} {xs : List α} {i : Int} {n : Nat} (h : xs.length = n) (h0 : 0 ≤ i) (h1 : i < (n : Int)) : ∃ c, atI xs i = some c ∧ c ∈ xs := by
  have hlt : i.toNat < xs.length := by omega
  refine ⟨xs[i.toNat], ?_, List.getElem_mem hlt⟩
  have e : i = ((i.toNat : Nat) : Int) := by omega
  unfold atI ixN
  rw [if_pos (by omega), if_pos (by omega)]
  show xs[i.toNat]? = _
  exact List.getElem?_eq_getElem hlt
theorem len_cat (a b : Str) : (a ++ b).length = a.length + b.length := by
  show (a ++ b).cps.size = _
  exact Array.size_append
theorem len_cutS (z : Str) (lo hi : Option Int) : (cutS z lo hi).length ≤ z.length := by
  unfold cutS Str.length
  simp only [List.size_toArray, List.length_take, List.length_drop, Array.length_toList]
  omega
def t__law_text (K : PySem.W.Frag) (N : Nm) (E : XK) : TS :=
  tSeq (tAsg (tC (.str "")) (gName 2))
    (tSeq (tAsg (tOp (zDiv) (zVar 0) (tC (.int 18))) (gName 3))
    (tSeq (tFor (iRng1 (tCons (tOp (zMod) (tCB (zInt) (tCons (zVar 0) (tNil))) (tC (.int 18))) (tNil))) (gName 4)
      (tSeq (tAsg (tOp (zAdd K) (zVar 2) (tOp (zIx K) (tC (.str "0123456789")) (tOp (zMod) (tCB (zInt) (tCons (zVar 3) (tNil))) (tC (.int 10))))) (gName 2))
    (tAsg (tOp (zDiv) (zVar 3) (tC (.int 10))) (gName 3))))
    (tSeq (tIfS (tAnd (tTest (tOp (zEq K) (tOp (zMod) (zVar 1) (tC (.int 3))) (tC (.int 0)))) (tTest (tOp (zGt) (tCB (zLen K) (tCons (zVar 2) (tNil))) (tC (.int 0))))) (tSeq (tAsg (tOp (zMod) (tCB (zInt) (tCons (tOp (zDiv) (zVar 1) (tC (.int 3))) (tNil))) (tCB (zLen K) (tCons (zVar 2) (tNil)))) (gName 5))
    (tAsg (tOp (zAdd K) (tOp (zAdd K) (tSl (zSl K) (zVar 2) (tNoPart) (tPart (zVar 5))) (tOp (zIx K) (tC (.str " +-.:/;aO")) (tOp (zMod) (tCB (zInt) (tCons (tOp (zDiv) (zVar 1) (tC (.int 54))) (tNil))) (tC (.int 9))))) (tSl (zSl K) (zVar 2) (tPart (tOp (zAdd K) (zVar 5) (tC (.int 1)))) (tNoPart))) (gName 2))) (tNext))
    (tRet (zVar 2)))))
abbrev n__law_text : List Str := ["draw", "other", "text", "rest", "k", "place"]
theorem pure__law_text {K : PySem.W.Frag} {N : Nm} {vs : List V} {H : Hp} {Q : VK} {E : XK} (h : sp__law_text K N vs H Q E) : t__law_text K N E ⟨fun _ H' => Q .non H', Q, fun _ _ => False, fun _ _ => False⟩ (start n__law_text vs) H := by
  obtain ⟨d, o, rfl, k⟩ := h
  show t__law_text K N E _ [some (.int d), some (.int o), none, none, none, none] H
  have sl : 1000 ≤ sizeLine := by decide
  unfold t__law_text
  walk_at "go"
  have hm := Int.emod_nonneg d (by decide : (18 : Int) ≠ 0)
  have hM := Int.emod_lt_of_pos d (by decide : (0 : Int) < 18)
  refine ⟨by omega, by omega, ?_⟩
  refine x_range (n := (d % 18).toNat) (fun i σ H' => ∃ (z : Str) (r : Int) (v4 : Option V), σ = [some (.int d), some (.int o), some (.str z), some (.int r), v4, none] ∧ Same H H' ∧ z.length ≤ i)
    ⟨"", d / 18, none, rfl, Same.refl _, by decide +kernel⟩ ?_ ?_
  · rintro i σ' H' hi ⟨z, r, v4, rfl, s, hz⟩
    have hm1 := Int.emod_nonneg r (by decide : (10 : Int) ≠ 0)
    have hM1 := Int.emod_lt_of_pos r (by decide : (0 : Int) < 10)
    obtain ⟨c, hc, _⟩ := atI_in (xs := ("0123456789" : Str).cps.toList) (n := 10) (by decide +kernel) hm1 hM1
    walk_at "go"
    refine x_ixS (by decide +kernel) hc ?_
    walk_at "go"
    have l1 : (⟨#[c]⟩ : Str).length = 1 := rfl
    refine ⟨by rw [l1]; omega, ?_⟩
    walk_at "go"
    exact ⟨_, _, _, rfl, s, by rw [len_cat, l1]; omega⟩
  · rintro σ' H' ⟨z, r, v4, rfl, s, hz⟩
    have hz1 : z.length ≤ sizeLine := by omega
    walk_at "go"
    refine x_mid (fun σ2 H2 => ∃ (y : Str) (v5 : Option V), σ2 = [some (.int d), some (.int o), some (.str y), some (.int r), v4, v5] ∧ Same H H2 ∧ y.length ≤ 1000) ?_ ?_
    · rintro σ2 H2 ⟨y, v5, rfl, s2, hy⟩
      walk_at "go"
      exact (k y hy).go s2
    · intro key
      walk_at "gi"
      refine x_br (fun h1 => ?_) (fun h1 => ?_)
      · walk_at "go"
        refine x_lenS hz1 ?_
        walk_at "go"
        refine x_br (fun h2 => ?_) (fun h2 => ?_)
        · walk_at "go"
          refine x_lenS hz1 ?_
          walk_at "go"
          refine ⟨by omega, ?_⟩
          walk_at "go"
          refine x_slS hz1 ?_
          walk_at "go"
          have hm2 := Int.emod_nonneg (o / 54) (by decide : (9 : Int) ≠ 0)
          have hM2 := Int.emod_lt_of_pos (o / 54) (by decide : (0 : Int) < 9)
          obtain ⟨c, hc, _⟩ := atI_in (xs := (" +-.:/;aO" : Str).cps.toList) (n := 9) (by decide +kernel) hm2 hM2
          refine x_ixS (by decide +kernel) hc ?_
          have l1 : (⟨#[c]⟩ : Str).length = 1 := rfl
          have b1 := len_cutS z none (some (o / 3 % (z.length : Int)))
          have b2 := len_cutS z (some (o / 3 % (z.length : Int) + 1)) none
          walk_at "go"
          refine ⟨by rw [l1]; omega, ?_⟩
          refine x_slS hz1 ?_
          walk_at "go"
          refine ⟨by rw [len_cat, l1]; omega, ?_⟩
          walk_at "go"
          refine key _ _ ⟨_, some (.int (o / 3 % (z.length : Int))), rfl, s, ?_⟩
          rw [len_cat, len_cat, l1]; omega
        · walk_at "go"
          exact key _ _ ⟨_, none, rfl, s, by omega⟩
      · walk_at "go"
        exact key _ _ ⟨_, none, rfl, s, by omega⟩
end
section
/-! ### is_before: one other -/
def sp_is_before (K : PySem.W.Frag) (N : Nm) : Sp := fun vs H Q _ => ∃ (v1 v2 : V) (r1 r2 : Option (List Int)), vs = [v1, v2] ∧ RefV K H v1 r1 ∧ RefV K H v2 r2 ∧ RetV H (.bl (lowerR r1 r2)) Q
theorem len_is_before {K : PySem.W.Frag} {N : Nm} {vs : List V} {H : Hp} {Q : VK} {E : XK} (h : sp_is_before K N vs H Q E) : vs.length = 2 := by
  obtain ⟨_, _, _, _, rfl, _⟩ := h
  rfl
def t_is_before (K : PySem.W.Frag) (N : Nm) (E : XK) : TS :=
  tSeq (tIfS (tTest (tOp (zIs) (zVar 1) (tC .non))) (tRet (tC (.bl false))) (tNext))
    (tRet (tOrT K (tOp (zIs) (zVar 0) (tC .non)) (tOp (zLt K) (zVar 0) (zVar 1))))
abbrev n_is_before : List Str := ["one", "other"]
theorem pure_is_before {K : PySem.W.Frag} {N : Nm} {vs : List V} {H : Hp} {Q : VK} {E : XK} (h : sp_is_before K N vs H Q E) : t_is_before K N E ⟨fun _ H' => Q .non H', Q, fun _ _ => False, fun _ _ => False⟩ (start n_is_before vs) H := by
  obtain ⟨v1, v2, r1, r2, rfl, h1, h2, k⟩ := h
  show t_is_before K N E _ [some v1, some v2] H
  unfold t_is_before
  cases r2 with
  | none =>
    cases h2
    walk_at "go"
    walk_at "gi"
    cases r1 with
    | none => exact k.go (Same.refl _)
    | some _ => exact k.go (Same.refl _)
  | some n2 =>
    obtain ⟨p2, rfl, h2⟩ := h2
    walk_at "go"
    walk_at "gi"
    cases r1 with
    | none =>
      cases h1
      walk_at "go"
      exact k.go (Same.refl _)
    | some n1 =>
      obtain ⟨p1, rfl, h1⟩ := h1
      walk_at "go"
      exact ⟨p1, p2, n1, n2, rfl, rfl, h1, h2, k.go (Same.refl _)⟩
end
section
/-! ### is_phone_number: text digit -/
def sp_is_phone_number (K : PySem.W.Frag) (N : Nm) : Sp := fun vs H Q _ => ∃ z : Str, vs = [.str z] ∧ z.length ≤ 1000000 ∧ RetV H (.bl (isNum z)) Q
theorem len_is_phone_number {K : PySem.W.Frag} {N : Nm} {vs : List V} {H : Hp} {Q : VK} {E : XK} (h : sp_is_phone_number K N vs H Q E) : vs.length = 1 := by
  obtain ⟨_, rfl, _⟩ := h
  rfl
def t_is_phone_number (K : PySem.W.Frag) (N : Nm) (E : XK) : TS :=
  tRet (tAndT K (tChain (zLe) (zLe) (tC (.int 1)) (tCB (zLen K) (tCons (zVar 0) (tNil))) (tC (.int 15))) (tCB (rAll K) (tCons (tLc (iStr (zVar 0)) (gName 1) (tYes) (tOp (zIn K) (zVar 1) (tC (.str "0123456789"))) [1]) (tNil))))
abbrev n_is_phone_number : List Str := ["text", "digit"]
theorem pure_is_phone_number {K : PySem.W.Frag} {N : Nm} {vs : List V} {H : Hp} {Q : VK} {E : XK} (h : sp_is_phone_number K N vs H Q E) : t_is_phone_number K N E ⟨fun _ H' => Q .non H', Q, fun _ _ => False, fun _ _ => False⟩ (start n_is_phone_number vs) H := by
  obtain ⟨z, rfl, hz, k⟩ := h
  show t_is_phone_number K N E _ [some (.str z), none] H
  have hs : z.length ≤ sizeLine := Nat.le_trans hz (by decide)
  unfold t_is_phone_number
  walk_at "go"
  refine x_lenS hs ?_
  walk_at "go"
  unfold isNum at k
  refine x_br (fun h1 => ?_) (fun h1 => ?_)
  · rw [decide_eq_true h1, Bool.true_and] at k
    walk_at "go"
    refine x_br (fun h2 => ?_) (fun h2 => ?_)
    · rw [decide_eq_true h2, Bool.true_and] at k
      walk_at "go"
      refine x_lc walk_str (fun D i acc H' => Same H H' ∧ acc = (z.cps.toList.take i).map fun c => V.bl (decide (c ∈ digs))) (fun D hD => ⟨same_new hD, rfl⟩) (fun _ _ _ _ _ => True.intro) ?_ ?_
      · rintro D i x acc H' H'' hD hi ⟨s, rfl⟩ hacc hl ⟨rfl, c, hc, rfl⟩
        walk_at "wp"
        walk_at "go"
        refine ⟨by first | rfl | trivial, ?_⟩
        refine x_memS ?_
        have hi2 : i < z.length := hi
        refine lc_yes hacc hl (by omega) ⟨same_mut s hD, ?_⟩
        have hc' : z.cps.toList[i]? = some c := by rw [← hc]; simp
        rw [List.take_add_one, List.map_append, hc']
        rfl
      · rintro D acc H' hD ⟨s, rfl⟩ hacc hl
        refine ⟨D, z.cps.toList.map fun c => decide (c ∈ digs), rfl, SqL.of ?_, ?_⟩
        · rw [hacc]
          have e : z.cps.toList.take z.cps.size = z.cps.toList := List.take_of_length_le (by simp)
          rw [e, List.map_map]
          rfl
        · rw [List.all_map]
          exact k.go s
    · rw [decide_eq_false h2, Bool.false_and] at k
      walk_at "go"
      rw [decide_eq_false h2]
      exact k.go (Same.refl _)
  · rw [decide_eq_false h1, Bool.false_and] at k
    walk_at "go"
    exact k.go (Same.refl _)
end
section
/-! ### law: script draws k text told one other lower -/
def sp_law (K : PySem.W.Frag) (N : Nm) : Sp := fun vs H Q _ => ∃ (a : Addr) (ns : List Int), vs = [.ref a] ∧ SqL K H a (ns.map V.int) ∧ ns.length ≤ 63 ∧ (∀ z ∈ ns, Builtin.Int.intBits z ≤ 1048576) ∧ ∀ H', Q (.bl true) H'
theorem len_law {K : PySem.W.Frag} {N : Nm} {vs : List V} {H : Hp} {Q : VK} {E : XK} (h : sp_law K N vs H Q E) : vs.length = 1 := by
  obtain ⟨_, _, rfl, _⟩ := h
  rfl
def t_law (K : PySem.W.Frag) (N : Nm) (E : XK) : TS :=
  tSeq (tAsg (tCallS (sp__law_draws K N) (WE (WD E)) (tCons (zVar 0) (tCons (tC (.int 32)) (tNil)))) (gName 1))
    (tSeq (tFor (iRng1 (tCons (tC (.int 8)) (tNil))) (gName 2)
      (tSeq (tAsg (tCallS (sp__law_text K N) (WE (WD E)) (tCons (tOp (zIx K) (zVar 1) (tOp (zMul) (tC (.int 3)) (zVar 2))) (tCons (tOp (zIx K) (zVar 1) (tOp (zAdd K) (tC (.int 24)) (zVar 2))) (tNil)))) (gName 3))
    (tSeq (tAsg (tCallS (sp_is_phone_number K N) (WE (WD E)) (tCons (zVar 3) (tNil))) (gName 4))
    (tSeq (tIfS (tOr (tNot (zTru K (tCB (zIsi) (tCons (zVar 4) (tCons (tC (.ty "bool")) tNil))))) (tTest (tOp (zNe K) (zVar 4) (tCallS (sp__law_is_number K N) (WE (WD E)) (tCons (zVar 3) (tNil)))))) (tRet (tC (.bl false))) (tNext))
    (tSeq (tAsg (tCallS (sp__law_reference K N) (WE (WD E)) (tCons (tOp (zIx K) (zVar 1) (tOp (zAdd K) (tOp (zMul) (tC (.int 3)) (zVar 2)) (tC (.int 1)))) (tNil))) (gName 5))
    (tSeq (tAsg (tCallS (sp__law_reference K N) (WE (WD E)) (tCons (tOp (zIx K) (zVar 1) (tOp (zAdd K) (tOp (zMul) (tC (.int 3)) (zVar 2)) (tC (.int 2)))) (tNil))) (gName 6))
    (tSeq (tIfS (tTest (tOp (zEq K) (tOp (zMod) (tOp (zIx K) (zVar 1) (tOp (zMul) (tC (.int 3)) (zVar 2))) (tC (.int 4))) (tC (.int 0)))) (tAsg (zVar 5) (gName 6)) (tNext))
    (tSeq (tAsg (tCallS (sp_is_before K N) (WE (WD E)) (tCons (zVar 5) (tCons (zVar 6) (tNil)))) (gName 7))
    (tIfS (tOr (tNot (zTru K (tCB (zIsi) (tCons (zVar 7) (tCons (tC (.ty "bool")) tNil))))) (tTest (tOp (zNe K) (zVar 7) (tCallS (sp__law_lower K N) (WE (WD E)) (tCons (zVar 5) (tCons (zVar 6) (tNil))))))) (tRet (tC (.bl false))) (tNext))))))))))
    (tRet (tC (.bl true))))
abbrev n_law : List Str := ["script", "draws", "k", "text", "told", "one", "other", "lower"]
theorem pure_law {K : PySem.W.Frag} {N : Nm} {vs : List V} {H : Hp} {Q : VK} {E : XK} (h : sp_law K N vs H Q E) : t_law K N E ⟨fun _ H' => Q .non H', Q, fun _ _ => False, fun _ _ => False⟩ (start n_law vs) H := by
  obtain ⟨a, ns, rfl, hS, hl, hb, k⟩ := h
  show t_law K N E _ [some (.ref a), none, none, none, none, none, none, none] H
  unfold t_law
  walk_at "go"
  refine ⟨a, ns, 32, rfl, hS, hl, hb, by decide, fun ds hd hB p H1 np s1 hp => ?_⟩
  walk_at "go"
  refine ⟨by decide, by decide, ?_⟩
  refine x_range (n := ((8 : Int)).toNat) (fun i σ H' => ∃ v2 v3 v4 v5 v6 v7 : Option V, σ = [some (.ref a), some (.ref p), v2, v3, v4, v5, v6, v7] ∧ Same H1 H') ⟨none, none, none, none, none, none, rfl, Same.refl _⟩ ?_ ?_
  · rintro i σ' H' hi ⟨v2, v3, v4, v5, v6, v7, rfl, s⟩
    have hi8 : i < 8 := hi
    have hL : SqL K H' p (ds.map V.int) := SqL.of (s _ _ hp)
    have at_ : ∀ j : Nat, j < 32 → ∃ d, atI (ds.map V.int) (j : Int) = some (.int d) := fun j hj => by
      have hlt : j < ds.length := by omega
      exact ⟨ds[j], atI_map (List.getElem?_eq_getElem hlt)⟩
    obtain ⟨d0, e0⟩ := at_ (3 * i) (by omega)
    obtain ⟨d1, e1⟩ := at_ (24 + i) (by omega)
    obtain ⟨d2, e2⟩ := at_ (3 * i + 1) (by omega)
    obtain ⟨d3, e3⟩ := at_ (3 * i + 2) (by omega)
    have c0 : (3 : Int) * (i : Int) = ((3 * i : Nat) : Int) := by omega
    have c1 : (24 : Int) + (i : Int) = ((24 + i : Nat) : Int) := by omega
    have c2 : (3 : Int) * (i : Int) + 1 = ((3 * i + 1 : Nat) : Int) := by omega
    have c3 : (3 : Int) * (i : Int) + 2 = ((3 * i + 2 : Nat) : Int) := by omega
    have m0 : CMulB 3 (i : Int) := cmul (by decide) (by omega)
    walk_at "go"
    refine ⟨m0, ?_⟩
    rw [c0]
    refine x_ixL hL e0 ?_
    walk_at "go"
    rw [c1]
    refine x_ixL hL e1 ?_
    walk_at "go"
    refine ⟨d0, d1, rfl, fun z hz H2 s2 => ?_⟩
    walk_at "go"
    refine ⟨z, rfl, by omega, fun H3 s3 => ?_⟩
    walk_at "go"
    walk_at "gi"
    refine ⟨z, rfl, by omega, fun H4 s4 => ?_⟩
    walk_at "go"
    refine x_nbr (fun hn => absurd trivial hn) (fun _ => ?_)
    have s4' : Same H1 H4 := ((s.trans s2).trans s3).trans s4
    have hL4 : SqL K H4 p (ds.map V.int) := SqL.of (s4' _ _ hp)
    walk_at "go"
    refine ⟨m0, ?_⟩
    rw [c2]
    refine x_ixL hL4 e2 ?_
    walk_at "go"
    refine ⟨d2, rfl, fun r1 u1 H5 l1 s5 hr1 => ?_⟩
    have hL5 : SqL K H5 p (ds.map V.int) := s5.seq hL4
    walk_at "go"
    refine ⟨m0, ?_⟩
    rw [c3]
    refine x_ixL hL5 e3 ?_
    walk_at "go"
    refine ⟨d3, rfl, fun r2 u2 H6 l2 s6 hr2 => ?_⟩
    have hL6 : SqL K H6 p (ds.map V.int) := s6.seq hL5
    walk_at "go"
    refine x_mid (fun σ2 H7 => ∃ (r2 : Option (List Int)) (u2 : V), σ2 = [some (.ref a), some (.ref p), some (.int i), some (.str z), some (.bl (isNum z)), some u1, some u2, v7] ∧ Same H6 H7 ∧ (∀ ns, r2 = some ns → ns.length = 3) ∧ RefV K H6 u2 r2) ?_ ?_
    rotate_left
    · intro key
      walk_at "gi"
      refine ⟨m0, ?_⟩
      rw [c0]
      refine x_ixL hL6 e0 ?_
      walk_at "go"
      refine x_br (fun _ => ?_) (fun _ => ?_)
      · walk_at "go"
        exact key _ _ ⟨_, _, rfl, Same.refl _, l1, hr1.up s6⟩
      · walk_at "go"
        exact key _ _ ⟨_, _, rfl, Same.refl _, l2, hr2⟩
    rintro σ2 H7 ⟨r3, u3, rfl, s7, l3, hr3⟩
    walk_at "go"
    refine ⟨_, _, _, _, rfl, (hr1.up s6).up s7, hr3.up s7, fun H8 s8 => ?_⟩
    walk_at "go"
    walk_at "gi"
    refine ⟨_, _, _, _, rfl, ((hr1.up s6).up s7).up s8, (hr3.up s7).up s8, l1, l3, fun H9 s9 => ?_⟩
    walk_at "go"
    refine x_nbr (fun hn => absurd trivial hn) (fun _ => ?_)
    walk_at "go"
    exact ⟨_, _, _, _, _, _, rfl, ((((s4'.trans s5).trans s6).trans s7).trans s8).trans s9⟩
  · rintro σ' H' ⟨v2, v3, v4, v5, v6, v7, rfl, s⟩
    walk_at "go"
    exact k _
end
def topS (i : Nat) : Stmt := PySem.Challenge.pw_copperline_k00_numbers_and_references.main.body.getD i (.Pass ⟨0, 0, 0, 0⟩)
abbrev st__law_draws : Stmt := topS 5
theorem sc__law_draws : FnScope ["script", "count", "draws", "k", "cell"] ["script", "count"] (defScope st__law_draws) := ⟨rfl, rfl, rfl, by decide +kernel, rfl, by decide +kernel, by decide +kernel⟩
abbrev st__law_is_number : Stmt := topS 7
theorem sc__law_is_number : FnScope ["text", "sign"] ["text"] (defScope st__law_is_number) := ⟨rfl, rfl, rfl, by decide +kernel, rfl, by decide +kernel, by decide +kernel⟩
abbrev st__law_lower : Stmt := topS 9
theorem sc__law_lower : FnScope ["one", "other", "k"] ["one", "other"] (defScope st__law_lower) := ⟨rfl, rfl, rfl, by decide +kernel, rfl, by decide +kernel, by decide +kernel⟩
abbrev st__law_reference : Stmt := topS 8
theorem sc__law_reference : FnScope ["draw"] ["draw"] (defScope st__law_reference) := ⟨rfl, rfl, rfl, by decide +kernel, rfl, by decide +kernel, by decide +kernel⟩
abbrev st__law_text : Stmt := topS 6
theorem sc__law_text : FnScope ["draw", "other", "text", "rest", "k", "place"] ["draw", "other"] (defScope st__law_text) := ⟨rfl, rfl, rfl, by decide +kernel, rfl, by decide +kernel, by decide +kernel⟩
abbrev st_is_before : Stmt := topS 3
theorem sc_is_before : FnScope ["one", "other"] ["one", "other"] (defScope st_is_before) := ⟨rfl, rfl, rfl, by decide +kernel, rfl, by decide +kernel, by decide +kernel⟩
abbrev st_is_phone_number : Stmt := topS 2
theorem sc_is_phone_number : FnScope ["text", "digit"] ["text"] (defScope st_is_phone_number) := ⟨rfl, rfl, rfl, by decide +kernel, rfl, by decide +kernel, by decide +kernel⟩
abbrev st_law : Stmt := topS 10
theorem sc_law : FnScope ["script", "draws", "k", "text", "told", "one", "other", "lower"] ["script"] (defScope st_law) := ⟨rfl, rfl, rfl, by decide +kernel, rfl, by decide +kernel, by decide +kernel⟩
/-- what the top has written -/
structure Al (K : PySem.W.Frag) (mg : Str → Option Value) (N : Nm) where
  a__law_draws : Addr
  d__law_draws : FuncData
  F__law_draws : Fun K "_law_draws" "_law_draws" st__law_draws a__law_draws d__law_draws
  B__law_draws : Binds K d__law_draws ["script", "count"] []
  m__law_draws : mg "_law_draws" = some (.ref a__law_draws)
  a__law_is_number : Addr
  d__law_is_number : FuncData
  F__law_is_number : Fun K "_law_is_number" "_law_is_number" st__law_is_number a__law_is_number d__law_is_number
  B__law_is_number : Binds K d__law_is_number ["text"] []
  m__law_is_number : mg "_law_is_number" = some (.ref a__law_is_number)
  a__law_lower : Addr
  d__law_lower : FuncData
  F__law_lower : Fun K "_law_lower" "_law_lower" st__law_lower a__law_lower d__law_lower
  B__law_lower : Binds K d__law_lower ["one", "other"] []
  m__law_lower : mg "_law_lower" = some (.ref a__law_lower)
  a__law_reference : Addr
  d__law_reference : FuncData
  F__law_reference : Fun K "_law_reference" "_law_reference" st__law_reference a__law_reference d__law_reference
  B__law_reference : Binds K d__law_reference ["draw"] []
  m__law_reference : mg "_law_reference" = some (.ref a__law_reference)
  a__law_text : Addr
  d__law_text : FuncData
  F__law_text : Fun K "_law_text" "_law_text" st__law_text a__law_text d__law_text
  B__law_text : Binds K d__law_text ["draw", "other"] []
  m__law_text : mg "_law_text" = some (.ref a__law_text)
  a_is_before : Addr
  d_is_before : FuncData
  F_is_before : Fun K "is_before" "is_before" st_is_before a_is_before d_is_before
  B_is_before : Binds K d_is_before ["one", "other"] []
  m_is_before : mg "is_before" = some (.ref a_is_before)
  a_is_phone_number : Addr
  d_is_phone_number : FuncData
  F_is_phone_number : Fun K "is_phone_number" "is_phone_number" st_is_phone_number a_is_phone_number d_is_phone_number
  B_is_phone_number : Binds K d_is_phone_number ["text"] []
  m_is_phone_number : mg "is_phone_number" = some (.ref a_is_phone_number)
  a_law : Addr
  d_law : FuncData
  F_law : Fun K "law" "law" st_law a_law d_law
  B_law : Binds K d_law ["script"] []
  m_law : mg "law" = some (.ref a_law)
  tk_DIGIT_LIMIT : Tok
  g_DIGIT_LIMIT : mg "DIGIT_LIMIT" = some (.int 15 tk_DIGIT_LIMIT)
  b_all : mg "all" = none
  b_bool : mg "bool" = none
  b_int : mg "int" = none
  b_isinstance : mg "isinstance" = none
  b_len : mg "len" = none
  b_range : mg "range" = none
section
variable {P : Program} {w : World} {K : PySem.W.Frag} {mg : Str → Option Value} {base : Heap} {N : Nm}
theorem ok__law_draws (A : Al K mg N) : FnOk P w K mg base (L2.CX P w) 1 A.a__law_draws A.d__law_draws ["script", "count"] (sp__law_draws K N) := by
  refine A.F__law_draws.okX (k := 0) sc__law_draws (fun vs H Q E h => len__law_draws h) (fun cdv A0 outer s H vs Q E hr h => ⟨t__law_draws K N E, ?_, pure__law_draws  h⟩)
  exact pss_cons (ps_set (i := 2) sc__law_draws.nd rfl (by first | exact Or.inl rfl | exact Or.inr rfl) (pe_lst (pa_nil)))
    (pss_cons (ps_for (passes_of rfl) rfl (pi_range1 rfl A.b_range (pa_cons (zv 1) (pa_nil))) (pg_name (i := 3) sc__law_draws.nd rfl (by first | exact Or.inl rfl | exact Or.inr rfl))
      (pss_cons (ps_set (i := 4) sc__law_draws.nd rfl (by first | exact Or.inl rfl | exact Or.inr rfl) (pe_int))
    (pss_cons (ps_if (pt_cmpR op_zGt (pe_callB cr_len (by rfl) A.b_len zb_len (pa_cons (zv 0) (pa_nil))) (pe_int) (nomark _)) (pss_one (ps_set (i := 4) sc__law_draws.nd rfl (by first | exact Or.inl rfl | exact Or.inr rfl) (pe_callTy cr_int (by rfl) A.b_int zb_int (pa_cons (pe_ix (ix_z (hu_of hr)) (zv 0) (pe_op op_zMod (zv 3) (pe_callB cr_len (by rfl) A.b_len zb_len (pa_cons (zv 0) (pa_nil)))) (fun _ _ => rfl)) (pa_nil))))) (pss_nil))
    (pss_cons (ps_if (pt_cmpR (op_zLt hr.units) (zv 4) (pe_int) (nomark _)) (pss_one (ps_set (i := 4) sc__law_draws.nd rfl (by first | exact Or.inl rfl | exact Or.inr rfl) (pe_op op_zSub (pe_int) (pe_op op_zMul (pe_int) (zv 4))))) (pss_nil))
    (pss_cons (ps_if (PW.pt (pw_or (pt_cmpR (op_zLt hr.units) (zv 4) (pe_int) (nomark _)) (pw_or1 (pt_cmpR op_zGe (zv 3) (pe_callB cr_len (by rfl) A.b_len zb_len (pa_cons (zv 0) (pa_nil))) (nomark _))))) (pss_cons (ps_set (i := 4) sc__law_draws.nd rfl (by first | exact Or.inl rfl | exact Or.inr rfl) (pe_op op_zMod (pe_callTy cr_int (by rfl) A.b_int zb_int (pa_cons (pe_op op_zAdd (pe_op op_zMul (zv 4) (pe_int)) (pe_op op_zMul (pe_int) (pe_op op_zAdd (zv 3) (pe_int)))) (pa_nil))) (pe_int)))
    (pss_one (ps_set (i := 4) sc__law_draws.nd rfl (by first | exact Or.inl rfl | exact Or.inr rfl) (pe_op op_zMod (pe_callTy cr_int (by rfl) A.b_int zb_int (pa_cons (pe_op op_zAdd (pe_op op_zAdd (pe_op op_zMul (zv 4) (pe_int)) (pe_int)) (zv 3)) (pa_nil))) (pe_int))))) (pss_nil))
    (pss_one (ps_expr (pe_bm PySem.F.plainAttrs_list PySem.F.slot_list_append PySem.F.type_list_append mt_append (zv 2) (pa_cons (zv 4) (pa_nil))))))))))
    (pss_one (ps_ret (zv 2))))
theorem ok__law_is_number (A : Al K mg N) : FnOk P w K mg base (L2.CX P w) 1 A.a__law_is_number A.d__law_is_number ["text"] (sp__law_is_number K N) := by
  refine A.F__law_is_number.okX (k := 0) sc__law_is_number (fun vs H Q E h => len__law_is_number h) (fun cdv A0 outer s H vs Q E hr h => ⟨t__law_is_number K N E, ?_, pure__law_is_number  h⟩)
  exact pss_cons (ps_if (PW.pt (pw_or (pt_cmpR (op_zLt hr.units) (pe_callB cr_len (by rfl) A.b_len zb_len (pa_cons (zv 0) (pa_nil))) (pe_int) (nomark _)) (pw_or1 (pt_cmpR op_zGt (pe_callB cr_len (by rfl) A.b_len zb_len (pa_cons (zv 0) (pa_nil))) (pe_int) (nomark _))))) (pss_one (ps_ret (pe_bl))) (pss_nil))
    (pss_cons (ps_for (passes_of rfl) rfl (pi_str (zv 0)) (pg_name (i := 1) sc__law_is_number.nd rfl (by first | exact Or.inl rfl | exact Or.inr rfl))
      (pss_one (ps_if (pt_cmpR (op_zNotIn (hu66 hr)) (zv 1) (pe_tup (pa_cons (pe_str) (pa_cons (pe_str) (pa_cons (pe_str) (pa_cons (pe_str) (pa_cons (pe_str) (pa_cons (pe_str) (pa_cons (pe_str) (pa_cons (pe_str) (pa_cons (pe_str) (pa_cons (pe_str) (pa_nil)))))))))))) (by rfl)) (pss_one (ps_ret (pe_bl))) (pss_nil))))
    (pss_one (ps_ret (pe_bl))))
theorem ok__law_lower (A : Al K mg N) : FnOk P w K mg base (L2.CX P w) 1 A.a__law_lower A.d__law_lower ["one", "other"] (sp__law_lower K N) := by
  refine A.F__law_lower.okX (k := 0) sc__law_lower (fun vs H Q E h => len__law_lower h) (fun cdv A0 outer s H vs Q E hr h => ⟨t__law_lower K N E, ?_, pure__law_lower  h⟩)
  exact pss_cons (ps_if (PW.pt (pw_or (pt_cmpR op_zIs (zv 0) (pe_non) (nomark _)) (pw_or1 (pt_cmpR op_zIs (zv 1) (pe_non) (nomark _))))) (pss_one (ps_ret (pe_andT (pe_cmpR op_zIs (zv 0) (pe_non) (nomark _)) (pe_one (pe_cmpR op_zIsNot (zv 1) (pe_non) (nomark _)))))) (pss_nil))
    (pss_cons (ps_for (passes_of rfl) rfl (pi_range1 rfl A.b_range (pa_cons (pe_int) (pa_nil))) (pg_name (i := 2) sc__law_lower.nd rfl (by first | exact Or.inl rfl | exact Or.inr rfl))
      (pss_one (ps_if (pt_cmpR (op_zNe hr.units) (pe_ix (ix_z (hu_of hr)) (zv 0) (zv 2) (fun _ _ => rfl)) (pe_ix (ix_z (hu_of hr)) (zv 1) (zv 2) (fun _ _ => rfl)) (nomark _)) (pss_one (ps_ret (pe_cmpR (op_zLt hr.units) (pe_ix (ix_z (hu_of hr)) (zv 0) (zv 2) (fun _ _ => rfl)) (pe_ix (ix_z (hu_of hr)) (zv 1) (zv 2) (fun _ _ => rfl)) (nomark _)))) (pss_nil))))
    (pss_one (ps_ret (pe_bl))))
theorem ok__law_reference (A : Al K mg N) : FnOk P w K mg base (L2.CX P w) 1 A.a__law_reference A.d__law_reference ["draw"] (sp__law_reference K N) := by
  refine A.F__law_reference.okX (k := 0) sc__law_reference (fun vs H Q E h => len__law_reference h) (fun cdv A0 outer s H vs Q E hr h => ⟨t__law_reference K N E, ?_, pure__law_reference  h⟩)
  exact pss_cons (ps_if (pt_cmpR (op_zEq hr.units) (pe_op op_zMod (zv 0) (pe_int)) (pe_int) (nomark _)) (pss_one (ps_ret (pe_non))) (pss_nil))
    (pss_one (ps_ret (pe_tup (pa_cons (pe_op op_zMod (pe_callTy cr_int (by rfl) A.b_int zb_int (pa_cons (pe_op op_zDiv (zv 0) (pe_int)) (pa_nil))) (pe_int)) (pa_cons (pe_op op_zAdd (pe_int) (pe_op op_zMod (pe_callTy cr_int (by rfl) A.b_int zb_int (pa_cons (pe_op op_zDiv (zv 0) (pe_int)) (pa_nil))) (pe_int))) (pa_cons (pe_op op_zMod (pe_callTy cr_int (by rfl) A.b_int zb_int (pa_cons (pe_op op_zDiv (zv 0) (pe_int)) (pa_nil))) (pe_int)) (pa_nil)))))))
theorem ok__law_text (A : Al K mg N) : FnOk P w K mg base (L2.CX P w) 1 A.a__law_text A.d__law_text ["draw", "other"] (sp__law_text K N) := by
  refine A.F__law_text.okX (k := 0) sc__law_text (fun vs H Q E h => len__law_text h) (fun cdv A0 outer s H vs Q E hr h => ⟨t__law_text K N E, ?_, pure__law_text  h⟩)
  exact pss_cons (ps_set (i := 2) sc__law_text.nd rfl (by first | exact Or.inl rfl | exact Or.inr rfl) (pe_str))
    (pss_cons (ps_set (i := 3) sc__law_text.nd rfl (by first | exact Or.inl rfl | exact Or.inr rfl) (pe_op op_zDiv (zv 0) (pe_int)))
    (pss_cons (ps_for (passes_of rfl) rfl (pi_range1 rfl A.b_range (pa_cons (pe_op op_zMod (pe_callTy cr_int (by rfl) A.b_int zb_int (pa_cons (zv 0) (pa_nil))) (pe_int)) (pa_nil))) (pg_name (i := 4) sc__law_text.nd rfl (by first | exact Or.inl rfl | exact Or.inr rfl))
      (pss_cons (ps_set (i := 2) sc__law_text.nd rfl (by first | exact Or.inl rfl | exact Or.inr rfl) (pe_op op_zAdd (zv 2) (pe_ix (ix_z (hu_of hr)) (pe_str) (pe_op op_zMod (pe_callTy cr_int (by rfl) A.b_int zb_int (pa_cons (zv 3) (pa_nil))) (pe_int)) (fun _ _ => rfl))))
    (pss_one (ps_set (i := 3) sc__law_text.nd rfl (by first | exact Or.inl rfl | exact Or.inr rfl) (pe_op op_zDiv (zv 3) (pe_int))))))
    (pss_cons (ps_if (PW.pt (pw_and (pt_cmpR (op_zEq hr.units) (pe_op op_zMod (zv 1) (pe_int)) (pe_int) (nomark _)) (pw_and1 (pt_cmpR op_zGt (pe_callB cr_len (by rfl) A.b_len zb_len (pa_cons (zv 2) (pa_nil))) (pe_int) (nomark _))))) (pss_cons (ps_set (i := 5) sc__law_text.nd rfl (by first | exact Or.inl rfl | exact Or.inr rfl) (pe_op op_zMod (pe_callTy cr_int (by rfl) A.b_int zb_int (pa_cons (pe_op op_zDiv (zv 1) (pe_int)) (pa_nil))) (pe_callB cr_len (by rfl) A.b_len zb_len (pa_cons (zv 2) (pa_nil)))))
    (pss_one (ps_set (i := 2) sc__law_text.nd rfl (by first | exact Or.inl rfl | exact Or.inr rfl) (pe_op op_zAdd (pe_op op_zAdd (pe_slice sl_z (zv 2) (po_none) (po_some (zv 5))) (pe_ix (ix_z (hu_of hr)) (pe_str) (pe_op op_zMod (pe_callTy cr_int (by rfl) A.b_int zb_int (pa_cons (pe_op op_zDiv (zv 1) (pe_int)) (pa_nil))) (pe_int)) (fun _ _ => rfl))) (pe_slice sl_z (zv 2) (po_some (pe_op op_zAdd (zv 5) (pe_int))) (po_none)))))) (pss_nil))
    (pss_one (ps_ret (zv 2))))))
theorem ok_is_before (A : Al K mg N) : FnOk P w K mg base (L2.CX P w) 1 A.a_is_before A.d_is_before ["one", "other"] (sp_is_before K N) := by
  refine A.F_is_before.okX (k := 0) sc_is_before (fun vs H Q E h => len_is_before h) (fun cdv A0 outer s H vs Q E hr h => ⟨t_is_before K N E, ?_, pure_is_before  h⟩)
  exact pss_cons (ps_if (pt_cmpR op_zIs (zv 1) (pe_non) (nomark _)) (pss_one (ps_ret (pe_bl))) (pss_nil))
    (pss_one (ps_ret (pe_orT (pe_cmpR op_zIs (zv 0) (pe_non) (nomark _)) (pe_one (pe_cmpR (op_zLt hr.units) (zv 0) (zv 1) (nomark _))))))
theorem ok_is_phone_number (A : Al K mg N) : FnOk P w K mg base (L2.CX P w) 1 A.a_is_phone_number A.d_is_phone_number ["text"] (sp_is_phone_number K N) := by
  refine A.F_is_phone_number.okX (k := 0) sc_is_phone_number (fun vs H Q E h => len_is_phone_number h) (fun cdv A0 outer s H vs Q E hr h => ⟨t_is_phone_number K N E, ?_, pure_is_phone_number  h⟩)
  exact pss_one (ps_ret (pe_andT (pe_chain op_zLe op_zLe (pe_int) (pe_callB cr_len (by rfl) A.b_len zb_len (pa_cons (zv 0) (pa_nil))) (pe_glob rfl A.g_DIGIT_LIMIT ⟨_, rfl⟩)) (pe_one (pe_callB (cr_all rfl) (by rfl) A.b_all zb_all (pa_cons (pe_lc (own := [("digit", 1)]) (wi := iStr (zVar 0)) (g := gName 1) (tt := tYes) (te := tOp (zIn K) (zVar 1) (tC (.str "0123456789"))) (by rfl) sc_is_phone_number.nd (pi_str (zv 0)) (blkOk_by (by change blkC n_is_phone_number (defScope st_is_phone_number) _ _ = true; decide +kernel)) (fun _ _ _ _ _ => pg_name (i := 1) sc_is_phone_number.nd rfl (by first | exact Or.inl rfl | exact Or.inr rfl)) (fun _ _ _ _ _ => pts_nil) (fun _ _ _ _ _ => pe_cmpR (op_zIn (hu66 hr)) (zv 1) (pe_str) (by rfl))) (pa_nil))))))
theorem ok_law (A : Al K mg N) : FnOk P w K mg base (L2.CX P w) 2 A.a_law A.d_law ["script"] (sp_law K N) := by
  refine A.F_law.okX (k := 1) sc_law (fun vs H Q E h => len_law h) (fun cdv A0 outer s H vs Q E hr h => ⟨t_law K N E, ?_, pure_law  h⟩)
  exact pss_cons (ps_set (i := 1) sc_law.nd rfl (by first | exact Or.inl rfl | exact Or.inr rfl) (pe_callS (ok__law_draws A) (hr.mono (by decide)) rfl A.m__law_draws A.F__law_draws.kp A.B__law_draws (fun σ => passAt (takes_of rfl rfl rfl rfl) σ) (pa_cons (zv 0) (pa_cons (pe_int) (pa_nil)))))
    (pss_cons (ps_for (passes_of rfl) rfl (pi_range1 rfl A.b_range (pa_cons (pe_int) (pa_nil))) (pg_name (i := 2) sc_law.nd rfl (by first | exact Or.inl rfl | exact Or.inr rfl))
      (pss_cons (ps_set (i := 3) sc_law.nd rfl (by first | exact Or.inl rfl | exact Or.inr rfl) (pe_callS (ok__law_text A) (hr.mono (by decide)) rfl A.m__law_text A.F__law_text.kp A.B__law_text (fun σ => passAt (takes_of rfl rfl rfl rfl) σ) (pa_cons (pe_ix (ix_z (hu_of hr)) (zv 1) (pe_op op_zMul (pe_int) (zv 2)) (fun _ _ => rfl)) (pa_cons (pe_ix (ix_z (hu_of hr)) (zv 1) (pe_op op_zAdd (pe_int) (zv 2)) (fun _ _ => rfl)) (pa_nil)))))
    (pss_cons (ps_set (i := 4) sc_law.nd rfl (by first | exact Or.inl rfl | exact Or.inr rfl) (pe_callS (ok_is_phone_number A) (hr.mono (by decide)) rfl A.m_is_phone_number A.F_is_phone_number.kp A.B_is_phone_number (fun σ => passAt (takes_of rfl rfl rfl rfl) σ) (pa_cons (zv 3) (pa_nil))))
    (pss_cons (ps_if (PW.pt (pw_or (pt_not (pt_truth (pe_callB cr_isi (by rfl) A.b_isinstance zb_isinstance (pa_cons (zv 4) (pa_cons (pe_bltn rfl A.b_bool zb_bool rfl) pa_nil))) (by intro _; rfl))) (pw_or1 (pt_cmpR (op_zNe hr.units) (zv 4) (pe_callS (ok__law_is_number A) (hr.mono (by decide)) rfl A.m__law_is_number A.F__law_is_number.kp A.B__law_is_number (fun σ => passAt (takes_of rfl rfl rfl rfl) σ) (pa_cons (zv 3) (pa_nil))) (nomark _))))) (pss_one (ps_ret (pe_bl))) (pss_nil))
    (pss_cons (ps_set (i := 5) sc_law.nd rfl (by first | exact Or.inl rfl | exact Or.inr rfl) (pe_callS (ok__law_reference A) (hr.mono (by decide)) rfl A.m__law_reference A.F__law_reference.kp A.B__law_reference (fun σ => passAt (takes_of rfl rfl rfl rfl) σ) (pa_cons (pe_ix (ix_z (hu_of hr)) (zv 1) (pe_op op_zAdd (pe_op op_zMul (pe_int) (zv 2)) (pe_int)) (fun _ _ => rfl)) (pa_nil))))
    (pss_cons (ps_set (i := 6) sc_law.nd rfl (by first | exact Or.inl rfl | exact Or.inr rfl) (pe_callS (ok__law_reference A) (hr.mono (by decide)) rfl A.m__law_reference A.F__law_reference.kp A.B__law_reference (fun σ => passAt (takes_of rfl rfl rfl rfl) σ) (pa_cons (pe_ix (ix_z (hu_of hr)) (zv 1) (pe_op op_zAdd (pe_op op_zMul (pe_int) (zv 2)) (pe_int)) (fun _ _ => rfl)) (pa_nil))))
    (pss_cons (ps_if (pt_cmpR (op_zEq hr.units) (pe_op op_zMod (pe_ix (ix_z (hu_of hr)) (zv 1) (pe_op op_zMul (pe_int) (zv 2)) (fun _ _ => rfl)) (pe_int)) (pe_int) (nomark _)) (pss_one (ps_set (i := 6) sc_law.nd rfl (by first | exact Or.inl rfl | exact Or.inr rfl) (zv 5))) (pss_nil))
    (pss_cons (ps_set (i := 7) sc_law.nd rfl (by first | exact Or.inl rfl | exact Or.inr rfl) (pe_callS (ok_is_before A) (hr.mono (by decide)) rfl A.m_is_before A.F_is_before.kp A.B_is_before (fun σ => passAt (takes_of rfl rfl rfl rfl) σ) (pa_cons (zv 5) (pa_cons (zv 6) (pa_nil)))))
    (pss_one (ps_if (PW.pt (pw_or (pt_not (pt_truth (pe_callB cr_isi (by rfl) A.b_isinstance zb_isinstance (pa_cons (zv 7) (pa_cons (pe_bltn rfl A.b_bool zb_bool rfl) pa_nil))) (by intro _; rfl))) (pw_or1 (pt_cmpR (op_zNe hr.units) (zv 7) (pe_callS (ok__law_lower A) (hr.mono (by decide)) rfl A.m__law_lower A.F__law_lower.kp A.B__law_lower (fun σ => passAt (takes_of rfl rfl rfl rfl) σ) (pa_cons (zv 5) (pa_cons (zv 6) (pa_nil)))) (nomark _))))) (pss_one (ps_ret (pe_bl))) (pss_nil)))))))))))
    (pss_one (ps_ret (pe_bl))))
end

theorem walk {l : PySem.W.OpenLaw} {k : Nat} {q : Program} {loose : List Str} {XP : (Str → Option Value) → Heap → Prop} {YP : World → Heap → Prop} {d : DefRec} {K : Params → PySem.W.Frag} (hn : l.most = some 63) (hdf : d.params.defaults = []) (hr : Room k callerA)
    (hY : ∀ (w : World) (h : Heap), YP w h → (K w.params).In h)
    (F : ∀ (w : World) (mg : Str → Option Value) (fa : Addr) (h : Heap), (K w.params).In h → h.Ns mainGlobals mg → mg d.name = some (.ref fa) →
      ∃ (N : Nm) (fd : FuncData), (∀ (s : Shared) (u : Value), BindsTo s fd ⟨[u], []⟩ [("script", u)]) ∧ ∀ base : Heap, (K w.params).In base → base.Ns mainGlobals mg → FnOk l.prog w (K w.params) mg base (L2.CX l.prog w) k fa fd ["script"] (sp_law (K w.params) N)) :
    PySem.W.WalkO q loose XP YP l.row.toRowW d [] (fun f vs => PySem.call f vs) := by
  refine Att.attach_callB hn hdf fun w s₀ s₁ mg mb fa o pm cd doc a vs ns G Y ho hd hcd hmg hobj hints hlen hbits hg => ?_
  have KX := hY w _ Y
  obtain ⟨N, fd, hb, hF⟩ := F w mg fa _ KX G.T.g hmg
  exact law_call KX G.T.g G.T.b G.T.builtins G.T.nolimit hg hobj hints (Nat.le_trans hlen (by decide)) hr hF hb (fun H hO hS => ⟨a, ns, rfl, hS, hlen, hbits, fun _ => rfl⟩) fun H e s' hc => by
    obtain ⟨_, _, _, _, _, _, _, _, _, _, _, _, z⟩ := hc
    exact z
theorem all_mk {P : Program} {w : World} {K : PySem.W.Frag} {h : Heap} {mg : Str → Option Value} {fa : Addr} {a__law_draws : Addr} {od__law_draws an__law_draws : Option Addr} {sl__law_draws : Array (Option Value)} {oc__law_draws kV__law_draws dc__law_draws pm__law_draws cd__law_draws ct__law_draws : Value} {a__law_is_number : Addr} {od__law_is_number an__law_is_number : Option Addr} {sl__law_is_number : Array (Option Value)} {oc__law_is_number kV__law_is_number dc__law_is_number pm__law_is_number cd__law_is_number ct__law_is_number : Value} {a__law_lower : Addr} {od__law_lower an__law_lower : Option Addr} {sl__law_lower : Array (Option Value)} {oc__law_lower kV__law_lower dc__law_lower pm__law_lower cd__law_lower ct__law_lower : Value} {a__law_reference : Addr} {od__law_reference an__law_reference : Option Addr} {sl__law_reference : Array (Option Value)} {oc__law_reference kV__law_reference dc__law_reference pm__law_reference cd__law_reference ct__law_reference : Value} {a__law_text : Addr} {od__law_text an__law_text : Option Addr} {sl__law_text : Array (Option Value)} {oc__law_text kV__law_text dc__law_text pm__law_text cd__law_text ct__law_text : Value} {a_is_before : Addr} {od_is_before an_is_before : Option Addr} {sl_is_before : Array (Option Value)} {oc_is_before kV_is_before dc_is_before pm_is_before cd_is_before ct_is_before : Value} {a_is_phone_number : Addr} {od_is_phone_number an_is_phone_number : Option Addr} {sl_is_phone_number : Array (Option Value)} {oc_is_phone_number kV_is_phone_number dc_is_phone_number pm_is_phone_number cd_is_phone_number ct_is_phone_number : Value} {a_law : Addr} {od_law an_law : Option Addr} {sl_law : Array (Option Value)} {oc_law kV_law dc_law pm_law cd_law ct_law : Value} {tk_DIGIT_LIMIT : Tok}
    (X : K.In h) (G : h.Ns mainGlobals mg) (hfa : mg "law" = some (.ref fa))
    (aF__law_draws : PySem.W.nsIn K mainGlobals "_law_draws" = some (some (.ref a__law_draws)))
    (lF__law_draws : K.lookup a__law_draws = some ⟨oc__law_draws, od__law_draws, .func (PySem.W.fnOf "_law_draws" "_law_draws" (defArgs st__law_draws) (defBody st__law_draws) (defScope st__law_draws) .none kV__law_draws dc__law_draws pm__law_draws an__law_draws cd__law_draws ct__law_draws), sl__law_draws⟩)
    (cF__law_draws : PySem.W.codeIn K cd__law_draws "_law_draws" = true)
    (kF__law_draws : PySem.W.keepIn K (.ref a__law_draws) = true)
    (aF__law_is_number : PySem.W.nsIn K mainGlobals "_law_is_number" = some (some (.ref a__law_is_number)))
    (lF__law_is_number : K.lookup a__law_is_number = some ⟨oc__law_is_number, od__law_is_number, .func (PySem.W.fnOf "_law_is_number" "_law_is_number" (defArgs st__law_is_number) (defBody st__law_is_number) (defScope st__law_is_number) .none kV__law_is_number dc__law_is_number pm__law_is_number an__law_is_number cd__law_is_number ct__law_is_number), sl__law_is_number⟩)
    (cF__law_is_number : PySem.W.codeIn K cd__law_is_number "_law_is_number" = true)
    (kF__law_is_number : PySem.W.keepIn K (.ref a__law_is_number) = true)
    (aF__law_lower : PySem.W.nsIn K mainGlobals "_law_lower" = some (some (.ref a__law_lower)))
    (lF__law_lower : K.lookup a__law_lower = some ⟨oc__law_lower, od__law_lower, .func (PySem.W.fnOf "_law_lower" "_law_lower" (defArgs st__law_lower) (defBody st__law_lower) (defScope st__law_lower) .none kV__law_lower dc__law_lower pm__law_lower an__law_lower cd__law_lower ct__law_lower), sl__law_lower⟩)
    (cF__law_lower : PySem.W.codeIn K cd__law_lower "_law_lower" = true)
    (kF__law_lower : PySem.W.keepIn K (.ref a__law_lower) = true)
    (aF__law_reference : PySem.W.nsIn K mainGlobals "_law_reference" = some (some (.ref a__law_reference)))
    (lF__law_reference : K.lookup a__law_reference = some ⟨oc__law_reference, od__law_reference, .func (PySem.W.fnOf "_law_reference" "_law_reference" (defArgs st__law_reference) (defBody st__law_reference) (defScope st__law_reference) .none kV__law_reference dc__law_reference pm__law_reference an__law_reference cd__law_reference ct__law_reference), sl__law_reference⟩)
    (cF__law_reference : PySem.W.codeIn K cd__law_reference "_law_reference" = true)
    (kF__law_reference : PySem.W.keepIn K (.ref a__law_reference) = true)
    (aF__law_text : PySem.W.nsIn K mainGlobals "_law_text" = some (some (.ref a__law_text)))
    (lF__law_text : K.lookup a__law_text = some ⟨oc__law_text, od__law_text, .func (PySem.W.fnOf "_law_text" "_law_text" (defArgs st__law_text) (defBody st__law_text) (defScope st__law_text) .none kV__law_text dc__law_text pm__law_text an__law_text cd__law_text ct__law_text), sl__law_text⟩)
    (cF__law_text : PySem.W.codeIn K cd__law_text "_law_text" = true)
    (kF__law_text : PySem.W.keepIn K (.ref a__law_text) = true)
    (aF_is_before : PySem.W.nsIn K mainGlobals "is_before" = some (some (.ref a_is_before)))
    (lF_is_before : K.lookup a_is_before = some ⟨oc_is_before, od_is_before, .func (PySem.W.fnOf "is_before" "is_before" (defArgs st_is_before) (defBody st_is_before) (defScope st_is_before) .none kV_is_before dc_is_before pm_is_before an_is_before cd_is_before ct_is_before), sl_is_before⟩)
    (cF_is_before : PySem.W.codeIn K cd_is_before "is_before" = true)
    (kF_is_before : PySem.W.keepIn K (.ref a_is_before) = true)
    (aF_is_phone_number : PySem.W.nsIn K mainGlobals "is_phone_number" = some (some (.ref a_is_phone_number)))
    (lF_is_phone_number : K.lookup a_is_phone_number = some ⟨oc_is_phone_number, od_is_phone_number, .func (PySem.W.fnOf "is_phone_number" "is_phone_number" (defArgs st_is_phone_number) (defBody st_is_phone_number) (defScope st_is_phone_number) .none kV_is_phone_number dc_is_phone_number pm_is_phone_number an_is_phone_number cd_is_phone_number ct_is_phone_number), sl_is_phone_number⟩)
    (cF_is_phone_number : PySem.W.codeIn K cd_is_phone_number "is_phone_number" = true)
    (kF_is_phone_number : PySem.W.keepIn K (.ref a_is_phone_number) = true)
    (aF_law : PySem.W.nsIn K mainGlobals "law" = some (some (.ref a_law)))
    (lF_law : K.lookup a_law = some ⟨oc_law, od_law, .func (PySem.W.fnOf "law" "law" (defArgs st_law) (defBody st_law) (defScope st_law) .none kV_law dc_law pm_law an_law cd_law ct_law), sl_law⟩)
    (cF_law : PySem.W.codeIn K cd_law "law" = true)
    (kF_law : PySem.W.keepIn K (.ref a_law) = true)
    (gC_DIGIT_LIMIT : PySem.W.nsIn K mainGlobals "DIGIT_LIMIT" = some (some (.int 15 tk_DIGIT_LIMIT)))
    (b_all : PySem.W.nsIn K mainGlobals "all" = some none)
    (b_bool : PySem.W.nsIn K mainGlobals "bool" = some none)
    (b_int : PySem.W.nsIn K mainGlobals "int" = some none)
    (b_isinstance : PySem.W.nsIn K mainGlobals "isinstance" = some none)
    (b_len : PySem.W.nsIn K mainGlobals "len" = some none)
    (b_range : PySem.W.nsIn K mainGlobals "range" = some none)
    : ∃ (N : Nm) (fd : FuncData), (∀ (s : Shared) (v : Value), BindsTo s fd ⟨[v], []⟩ [("script", v)]) ∧ ∀ base : Heap, K.In base → base.Ns mainGlobals mg → FnOk P w K mg base (L2.CX P w) 2 fa fd ["script"] (sp_law K N) := by
  have e : a_law = fa := by have e := hfa.symm.trans (PySem.W.mg_of X G aF_law); injection e with e; injection e with e; exact e.symm
  subst e
  have F__law_draws := fun_mk (st := st__law_draws) lF__law_draws cF__law_draws kF__law_draws
  have B__law_draws := F__law_draws.binds (ps := ["script", "count"]) fun _ _ _ _ _ _ us hl => match us, hl with | [_, _], _ => rfl
  have F__law_is_number := fun_mk (st := st__law_is_number) lF__law_is_number cF__law_is_number kF__law_is_number
  have B__law_is_number := F__law_is_number.binds (ps := ["text"]) fun _ _ _ _ _ _ us hl => match us, hl with | [_], _ => rfl
  have F__law_lower := fun_mk (st := st__law_lower) lF__law_lower cF__law_lower kF__law_lower
  have B__law_lower := F__law_lower.binds (ps := ["one", "other"]) fun _ _ _ _ _ _ us hl => match us, hl with | [_, _], _ => rfl
  have F__law_reference := fun_mk (st := st__law_reference) lF__law_reference cF__law_reference kF__law_reference
  have B__law_reference := F__law_reference.binds (ps := ["draw"]) fun _ _ _ _ _ _ us hl => match us, hl with | [_], _ => rfl
  have F__law_text := fun_mk (st := st__law_text) lF__law_text cF__law_text kF__law_text
  have B__law_text := F__law_text.binds (ps := ["draw", "other"]) fun _ _ _ _ _ _ us hl => match us, hl with | [_, _], _ => rfl
  have F_is_before := fun_mk (st := st_is_before) lF_is_before cF_is_before kF_is_before
  have B_is_before := F_is_before.binds (ps := ["one", "other"]) fun _ _ _ _ _ _ us hl => match us, hl with | [_, _], _ => rfl
  have F_is_phone_number := fun_mk (st := st_is_phone_number) lF_is_phone_number cF_is_phone_number kF_is_phone_number
  have B_is_phone_number := F_is_phone_number.binds (ps := ["text"]) fun _ _ _ _ _ _ us hl => match us, hl with | [_], _ => rfl
  have F_law := fun_mk (st := st_law) lF_law cF_law kF_law
  have B_law := F_law.binds (ps := ["script"]) fun _ _ _ _ _ _ us hl => match us, hl with | [_], _ => rfl
  let N : Nm := {}
  let A : Al K mg N := {
    a__law_draws := a__law_draws,
    d__law_draws := _,
    F__law_draws := F__law_draws,
    B__law_draws := B__law_draws,
    m__law_draws := PySem.W.mg_of X G aF__law_draws,
    a__law_is_number := a__law_is_number,
    d__law_is_number := _,
    F__law_is_number := F__law_is_number,
    B__law_is_number := B__law_is_number,
    m__law_is_number := PySem.W.mg_of X G aF__law_is_number,
    a__law_lower := a__law_lower,
    d__law_lower := _,
    F__law_lower := F__law_lower,
    B__law_lower := B__law_lower,
    m__law_lower := PySem.W.mg_of X G aF__law_lower,
    a__law_reference := a__law_reference,
    d__law_reference := _,
    F__law_reference := F__law_reference,
    B__law_reference := B__law_reference,
    m__law_reference := PySem.W.mg_of X G aF__law_reference,
    a__law_text := a__law_text,
    d__law_text := _,
    F__law_text := F__law_text,
    B__law_text := B__law_text,
    m__law_text := PySem.W.mg_of X G aF__law_text,
    a_is_before := a_is_before,
    d_is_before := _,
    F_is_before := F_is_before,
    B_is_before := B_is_before,
    m_is_before := PySem.W.mg_of X G aF_is_before,
    a_is_phone_number := a_is_phone_number,
    d_is_phone_number := _,
    F_is_phone_number := F_is_phone_number,
    B_is_phone_number := B_is_phone_number,
    m_is_phone_number := PySem.W.mg_of X G aF_is_phone_number,
    a_law := a_law,
    d_law := _,
    F_law := F_law,
    B_law := B_law,
    m_law := PySem.W.mg_of X G aF_law,
    g_DIGIT_LIMIT := PySem.W.mg_of X G gC_DIGIT_LIMIT,
    tk_DIGIT_LIMIT := tk_DIGIT_LIMIT,
    b_all := PySem.W.mg_none_of X G b_all,
    b_bool := PySem.W.mg_none_of X G b_bool,
    b_int := PySem.W.mg_none_of X G b_int,
    b_isinstance := PySem.W.mg_none_of X G b_isinstance,
    b_len := PySem.W.mg_none_of X G b_len,
    b_range := PySem.W.mg_none_of X G b_range }
  exact ⟨N, _, fun s v => .of_eq rfl, fun base _ _ => ok_law A⟩
end Z

open PySem PySem.W PyProof.Rows in
set_option maxRecDepth 100000 in
set_option maxHeartbeats 0 in
theorem PySem.Challenge.cw_copperline_k00_numbers_and_references_holds : PySem.Challenge.rw_copperline_k00_numbers_and_references.Holds := by
  w_on; o_law; k_head; (case hw => w_witness2)
  k_fill
  refine Z.walk (l := PySem.Challenge.rw_copperline_k00_numbers_and_references) (k := 2) rfl rfl ⟨rfl, by decide, by decide⟩ (fun w h Y => PySem.W.kIn_of Y) ?F
  case F =>
    intro w mg fa h KX G hmg
    refine' Z.all_mk KX G hmg ?aF__law_draws ?lF__law_draws ?cF__law_draws ?kF__law_draws ?aF__law_is_number ?lF__law_is_number ?cF__law_is_number ?kF__law_is_number ?aF__law_lower ?lF__law_lower ?cF__law_lower ?kF__law_lower ?aF__law_reference ?lF__law_reference ?cF__law_reference ?kF__law_reference ?aF__law_text ?lF__law_text ?cF__law_text ?kF__law_text ?aF_is_before ?lF_is_before ?cF_is_before ?kF_is_before ?aF_is_phone_number ?lF_is_phone_number ?cF_is_phone_number ?kF_is_phone_number ?aF_law ?lF_law ?cF_law ?kF_law ?gC_DIGIT_LIMIT ?b_all ?b_bool ?b_int ?b_isinstance ?b_len ?b_range
    (case aF__law_draws => k_is)
    (case lF__law_draws => k_is)
    (case cF__law_draws => k_is)
    (case kF__law_draws => k_is)
    (case aF__law_is_number => k_is)
    (case lF__law_is_number => k_is)
    (case cF__law_is_number => k_is)
    (case kF__law_is_number => k_is)
    (case aF__law_lower => k_is)
    (case lF__law_lower => k_is)
    (case cF__law_lower => k_is)
    (case kF__law_lower => k_is)
    (case aF__law_reference => k_is)
    (case lF__law_reference => k_is)
    (case cF__law_reference => k_is)
    (case kF__law_reference => k_is)
    (case aF__law_text => k_is)
    (case lF__law_text => k_is)
    (case cF__law_text => k_is)
    (case kF__law_text => k_is)
    (case aF_is_before => k_is)
    (case lF_is_before => k_is)
    (case cF_is_before => k_is)
    (case kF_is_before => k_is)
    (case aF_is_phone_number => k_is)
    (case lF_is_phone_number => k_is)
    (case cF_is_phone_number => k_is)
    (case kF_is_phone_number => k_is)
    (case aF_law => k_is)
    (case lF_law => k_is)
    (case cF_law => k_is)
    (case kF_law => k_is)
    (case gC_DIGIT_LIMIT => k_is)
    (case b_all => k_is)
    (case b_bool => k_is)
    (case b_int => k_is)
    (case b_isinstance => k_is)
    (case b_len => k_is)
    (case b_range => k_is)
