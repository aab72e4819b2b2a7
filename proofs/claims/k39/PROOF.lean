import PyProof.Rows.All
import Wide.All
import OpenK.AllK
import Wide.FinOn
import HandS.ForMost
import HandS.Exc
import HandS.ExcOwn
import HandS.TryOnly
import HandS.TryMany
import HandS.WordsExc
import HandS.IsInst
import HandS.TupAny
import HandS.Wide
import HandS.Flow
import HandS.Style
import HandS.TupLe
import HandS.Deep
import HandS.FStr
import HandS.Small
import HandS.EndBits
import HandS.Walk
import HandS.SortInts
import PySem.Challenge.RW_copperline_k39_bounds_causes_and_words
set_option Elab.async false
set_option linter.all false
set_option maxRecDepth 100000
set_option maxHeartbeats 4000000
/-! Zk: sums of rules by values; readings taken step by step. -/
namespace Z
open PySem PySem.Spec PyProof.Rows L2

/-! ### worlds: G is what never changes, H is all -/
structure Grow (G H G' H' : Hp) : Prop where
  hh : Same H H'
  gg : Same G G'
  gh : Same G' H'
  nw : ∀ b o, G' b = some o → G b = none → H b = none
theorem Grow.refl {G H : Hp} (s : Same G H) : Grow G H G H := ⟨Same.refl _, Same.refl _, s, fun b o e n => by rw [e] at n; cases n⟩
theorem Grow.trans {G H G1 H1 G2 H2 : Hp} (a : Grow G H G1 H1) (b : Grow G1 H1 G2 H2) : Grow G H G2 H2 :=
  ⟨a.hh.trans b.hh, a.gg.trans b.gg, b.gh, fun c o e n => by
    cases q : G1 c with
    | some o' => exact a.nw c o' q n
    | none => exact a.hh.free (b.nw c o e q)⟩
/-- a new thing that is to stay -/
theorem Grow.new {G H : Hp} {p : Addr} {o : HO} (s : Same G H) (h : H p = none) : Grow G H (upd G p o) (upd H p o) :=
  ⟨fun b u e => by rw [upd_ne (ne_of_none e h)]; exact e,
   fun b u e => by rw [upd_ne (ne_of_none (s b u e) h)]; exact e,
   fun b u e => by
     by_cases q : b = p
     · subst q; rw [upd_same] at e ⊢; exact e
     · rw [upd_ne q] at e ⊢; exact s b u e,
   fun b u e n => by
     by_cases q : b = p
     · subst q; exact h
     · rw [upd_ne q, n] at e; cases e⟩
theorem Grow.off {G H G' H' : Hp} (g : Grow G H G' H') {l : Addr} {o : HO} (h : H l = some o) (n : G l = none) : G' l = none := by
  cases q : G' l with
  | none => rfl
  | some u => have := g.nw l u q n; rw [h] at this; cases this
/-- what is not of G may change -/
theorem same_mut {G H : Hp} {l : Addr} {o : HO} (s : Same G H) (n : G l = none) : Same G (upd H l o) := fun b u e => by
  rw [upd_ne (ne_of_none e n)]; exact s b u e
theorem same_new {H : Hp} {p : Addr} {o : HO} (h : H p = none) : Same H (upd H p o) := fun b u e => by
  rw [upd_ne (ne_of_none e h)]; exact e
theorem none_of_same {G H : Hp} {p : Addr} (s : Same G H) (h : H p = none) : G p = none := s.free h

theorem hp_ne {H : Hp} {a b : Addr} {o u : HO} (h : H b = some o) (n : b ≠ a) : upd H a u b = some o := (upd_ne n).trans h

theorem hp_same {H H' : Hp} {b : Addr} {o : HO} (s : Same H H') (h : H b = some o) : H' b = some o := s b o h
theorem hp_grow {G H G' H' : Hp} {b : Addr} {o : HO} (s : Grow G H G' H') (h : H b = some o) : H' b = some o := s.hh b o h
theorem sl_same {K : PySem.W.Frag} {H H' : Hp} {b : Addr} {xs : List V} (s : Same H H') (h : SqL K H b xs) : SqL K H' b xs := s.seq h
theorem sl_grow {K : PySem.W.Frag} {G H G' H' : Hp} {b : Addr} {xs : List V} (s : Grow G H G' H') (h : SqL K H b xs) : SqL K H' b xs := s.hh.seq h

/-! ### data -/
mutual
inductive Rp (K : PySem.W.Frag) (G : Hp) : V → PyData → Prop
  | non : Rp K G .non .none
  | bl (b : Bool) : Rp K G (.bl b) (.bool b)
  | int (i : Int) : Rp K G (.int i) (.int i)
  | str (x : Str) : Rp K G (.str x) (.str x)
  | lst {a : Addr} {xs : List V} {ds : List PyData} : G a = some (.lst xs) → RpAll K G xs ds → Rp K G (.ref a) (.list ds)
  | tup {a : Addr} {xs : List V} {ds : List PyData} : SqT K G a xs → RpAll K G xs ds → Rp K G (.ref a) (.tuple ds)
inductive RpAll (K : PySem.W.Frag) (G : Hp) : List V → List PyData → Prop
  | nil : RpAll K G [] []
  | cons {v : V} {vs : List V} {d : PyData} {ds : List PyData} : Rp K G v d → RpAll K G vs ds → RpAll K G (v :: vs) (d :: ds)
end
theorem sqT_up {K : PySem.W.Frag} {G G' : Hp} (s : Same G G') {a : Addr} {xs : List V} (h : SqT K G a xs) : SqT K G' a xs := by
  rcases h with (h | ⟨o, h⟩) | h
  · exact .inl (.inl (s _ _ h))
  · exact .inl (.inr ⟨o, s _ _ h⟩)
  · exact .inr h
theorem st_same {K : PySem.W.Frag} {H H' : Hp} {b : Addr} {xs : List V} (s : Same H H') (h : SqT K H b xs) : SqT K H' b xs := sqT_up s h
theorem st_grow {K : PySem.W.Frag} {G H G' H' : Hp} {b : Addr} {xs : List V} (s : Grow G H G' H') (h : SqT K H b xs) : SqT K H' b xs := sqT_up s.hh h
mutual
theorem Rp.up {K : PySem.W.Frag} {G G' : Hp} (s : Same G G') : ∀ {v : V} {d : PyData}, Rp K G v d → Rp K G' v d
  | _, _, .non => .non
  | _, _, .bl b => .bl b
  | _, _, .int i => .int i
  | _, _, .str x => .str x
  | _, _, .lst h a => .lst (s _ _ h) (RpAll.up s a)
  | _, _, .tup h a => .tup (sqT_up s h) (RpAll.up s a)
theorem RpAll.up {K : PySem.W.Frag} {G G' : Hp} (s : Same G G') : ∀ {vs : List V} {ds : List PyData}, RpAll K G vs ds → RpAll K G' vs ds
  | _, _, .nil => .nil
  | _, _, .cons h a => .cons (Rp.up s h) (RpAll.up s a)
end
mutual
theorem Rp.dp {K : PySem.W.Frag} {G : Hp} : ∀ {v : V} {d : PyData}, Rp K G v d → Dp K G v d
  | _, _, .non => .non
  | _, _, .bl b => .bl b
  | _, _, .int i => .int i
  | _, _, .str x => .str x
  | _, _, .lst h a => .lst (SqL.of h) (RpAll.dp a)
  | _, _, .tup h a => .tup h (RpAll.dp a)
theorem RpAll.dp {K : PySem.W.Frag} {G : Hp} : ∀ {vs : List V} {ds : List PyData}, RpAll K G vs ds → DpAll K G vs ds
  | _, _, .nil => .nil
  | _, _, .cons h a => .cons (Rp.dp h) (RpAll.dp a)
end
theorem RpAll.len {K : PySem.W.Frag} {G : Hp} : ∀ {vs : List V} {ds : List PyData}, RpAll K G vs ds → vs.length = ds.length
  | _, _, .nil => rfl
  | _, _, .cons _ a => congrArg (· + 1) (RpAll.len a)
theorem RpAll.get {K : PySem.W.Frag} {G : Hp} : ∀ {vs : List V} {ds : List PyData} {i : Nat} {d : PyData}, RpAll K G vs ds → ds[i]? = some d → ∃ v, vs[i]? = some v ∧ Rp K G v d
  | _, _, _, _, .nil, e => by simp at e
  | _, _, 0, _, .cons r _, e => by simp at e; subst e; exact ⟨_, rfl, r⟩
  | _, _, i + 1, d, .cons _ t, e => by
    obtain ⟨u, h1, h2⟩ := RpAll.get (i := i) (d := d) t (by simpa using e)
    exact ⟨u, by simpa using h1, h2⟩
theorem RpAll.getV {K : PySem.W.Frag} {G : Hp} : ∀ {vs : List V} {ds : List PyData} {i : Nat} {v : V}, RpAll K G vs ds → vs[i]? = some v → ∃ d, ds[i]? = some d ∧ Rp K G v d
  | _, _, _, _, .nil, e => by simp at e
  | _, _, 0, _, .cons r _, e => by simp at e; subst e; exact ⟨_, rfl, r⟩
  | _, _, i + 1, d, .cons _ t, e => by
    obtain ⟨u, h1, h2⟩ := RpAll.getV (i := i) (v := d) t (by simpa using e)
    exact ⟨u, by simpa using h1, h2⟩
theorem RpAll.append {K : PySem.W.Frag} {G : Hp} : ∀ {vs ws : List V} {ds es : List PyData}, RpAll K G vs ds → RpAll K G ws es → RpAll K G (vs ++ ws) (ds ++ es)
  | _, _, _, _, .nil, s => s
  | _, _, _, _, .cons r t, s => .cons r (RpAll.append t s)
theorem RpAll.take {K : PySem.W.Frag} {G : Hp} : ∀ {vs : List V} {ds : List PyData} (n : Nat), RpAll K G vs ds → RpAll K G (vs.take n) (ds.take n)
  | _, _, 0, _ => .nil
  | _, _, _ + 1, .nil => .nil
  | _, _, n + 1, .cons r t => .cons r (RpAll.take n t)
theorem RpAll.drop {K : PySem.W.Frag} {G : Hp} : ∀ {vs : List V} {ds : List PyData} (n : Nat), RpAll K G vs ds → RpAll K G (vs.drop n) (ds.drop n)
  | _, _, 0, r => r
  | _, _, _ + 1, .nil => .nil
  | _, _, n + 1, .cons _ t => RpAll.drop n t
theorem RpAll.ints {K : PySem.W.Frag} {G : Hp} : ∀ (ns : List Int), RpAll K G (ns.map V.int) (ns.map PyData.int)
  | [] => .nil
  | n :: ns => .cons (.int n) (RpAll.ints ns)
theorem RpAll.ints_inv {K : PySem.W.Frag} {G : Hp} : ∀ {vs : List V} {ns : List Int}, RpAll K G vs (ns.map PyData.int) → vs = ns.map V.int
  | _, [], h => by cases h; rfl
  | _, n :: ns, h => by
    cases h with
    | cons a b => cases a; rw [RpAll.ints_inv b]; rfl
theorem rp_tup {K : PySem.W.Frag} {G : Hp} {v : V} {ds : List PyData} (h : Rp K G v (.tuple ds)) : ∃ p xs, v = .ref p ∧ SqT K G p xs ∧ RpAll K G xs ds := by
  cases h with
  | tup h a => exact ⟨_, _, rfl, h, a⟩
theorem rp_lst {K : PySem.W.Frag} {G : Hp} {v : V} {ds : List PyData} (h : Rp K G v (.list ds)) : ∃ p xs, v = .ref p ∧ G p = some (.lst xs) ∧ RpAll K G xs ds := by
  cases h with
  | lst h a => exact ⟨_, _, rfl, h, a⟩
theorem rp_int {K : PySem.W.Frag} {G : Hp} {v : V} {i : Int} (h : Rp K G v (.int i)) : v = .int i := by cases h; rfl
theorem rp_str {K : PySem.W.Frag} {G : Hp} {v : V} {i : Str} (h : Rp K G v (.str i)) : v = .str i := by cases h; rfl
theorem rp_bool {K : PySem.W.Frag} {G : Hp} {v : V} {i : Bool} (h : Rp K G v (.bool i)) : v = .bl i := by cases h; rfl
theorem rp_none {K : PySem.W.Frag} {G : Hp} {v : V} (h : Rp K G v .none) : v = .non := by cases h; rfl

/-! ### what a call hands back -/
/-- data: made anew or of what stood -/
def Ret (K : PySem.W.Frag) (G H : Hp) (d : PyData) (Q : VK) : Prop := ∀ v G' H', Grow G H G' H' → Rp K G' v d → Q v H'
/-- a value -/
def RetV (H : Hp) (v : V) (Q : VK) : Prop := ∀ H', Same H H' → Q v H'
/-- a new list -/
def RetL (H : Hp) (xs : List V) (Q : VK) : Prop := ∀ p H', H p = none → Same H H' → H' p = some (.lst xs) → Q (.ref p) H'
/-- a new list of data -/
def RetD (K : PySem.W.Frag) (G H : Hp) (ds : List PyData) (Q : VK) : Prop := ∀ p xs G' H', H p = none → Grow G H G' H' → G' p = none → H' p = some (.lst xs) → RpAll K G' xs ds → Q (.ref p) H'
theorem RetV.go {H H1 : Hp} {v : V} {Q : VK} (r : RetV H v Q) (s : Same H H1) : Q v H1 := r _ s
theorem RetV.of {H H1 : Hp} {v : V} {Q : VK} (r : RetV H v Q) (s : Same H H1) : RetV H1 v Q := fun H' s' => r H' (s.trans s')

/-! ### operators: sums of rules -/
section
variable {X : Cx}
theorem OpR.or {f : Value → Value → Sem Value} {r r' : R2} (h : OpR X f r) (h' : OpR X f r') : OpR X f (fun x y H Q => r x y H Q ∨ r' x y H Q) := by
  intro pins s σ H x y v u Q I rx ry q
  rcases q with q | q
  · exact h pins s σ H x y v u Q I rx ry q
  · exact h' pins s σ H x y v u Q I rx ry q
theorem CallR.or {f : Value} {r r' : List V → Hp → VK → Prop} (h : CallR X f r) (h' : CallR X f r') : CallR X f (fun xs H Q => r xs H Q ∨ r' xs H Q) := by
  intro pins s σ H xs us Q I rx q
  rcases q with q | q
  · exact h pins s σ H xs us Q I rx q
  · exact h' pins s σ H xs us Q I rx q
theorem SlR.or {r r' : V → Option Int → Option Int → Hp → VK → Prop} (h : SlR X r) (h' : SlR X r') : SlR X (fun x l u H Q => r x l u H Q ∨ r' x l u H Q) := by
  intro pins s σ H x v vl vu lo hi sl Q I rx hs p1 p2 q
  rcases q with q | q
  · exact h pins s σ H x v vl vu lo hi sl Q I rx hs p1 p2 q
  · exact h' pins s σ H x v vl vu lo hi sl Q I rx hs p1 p2 q
/-- * of great ints -/
def CMulB (i j : Int) : Prop := i.natAbs.log2 + j.natAbs.log2 < 100000000
theorem CMulB.ok {i j : Int} (h : CMulB i j) : IntMulOk i j := by
  have b : ∀ x : Int, Builtin.Int.intBits x ≤ x.natAbs.log2 + 1 := fun x => by
    unfold Builtin.Int.intBits
    split <;> omega
  have h1 := b i
  have h2 := b j
  have h3 : i.natAbs.log2 + j.natAbs.log2 < 100000000 := h
  have e : bitsLine = 134217728 := by decide
  unfold IntMulOk
  intro z
  rw [Bool.and_eq_true] at z
  have z2 := z.2
  unfold Builtin.Int.intTooBig at z2
  have z3 := of_decide_eq_true z2
  rw [e] at z3
  omega
theorem op_mulB : OpR X (binaryOp .Mult) (rI CMulB fun i j => .int (i * j)) := opI fun _ _ _ _ _ _ _ hc q => mul_int q hc.ok
def zAdd (K : PySem.W.Frag) : R2 := fun x y H Q => match x, y with
  | .int i, .int j => Q (.int (i + j)) H
  | .str a, .str b => a.length + b.length ≤ sizeLine ∧ Q (.str (a ++ b)) H
  | .ref _, .ref _ => rCat x y H Q ∨ rCatA K x y H Q
  | _, _ => False
theorem op_zAdd : OpR X (binaryOp .Add) (zAdd X.K) := by
  intro pins s σ H x y v u Q I rx ry h
  cases x <;> cases y <;> first
    | exact h.elim
    | exact op_add pins s σ H _ _ v u Q I rx ry ⟨_, _, rfl, rfl, h⟩
    | exact op_add_str pins s σ H _ _ v u Q I rx ry ⟨_, _, rfl, rfl, h.1, h.2⟩
    | exact (op_cat.or op_catA) pins s σ H _ _ v u Q I rx ry h
def zSub : R2 := fun x y H Q => match x, y with
  | .int i, .int j => Q (.int (i - j)) H
  | _, _ => False
theorem op_zSub : OpR X (binaryOp .Sub) zSub := by
  intro pins s σ H x y v u Q I rx ry h
  cases x <;> cases y <;> first
    | exact h.elim
    | exact op_sub pins s σ H _ _ v u Q I rx ry ⟨_, _, rfl, rfl, h⟩
def zMul : R2 := fun x y H Q => match x, y with
  | .int i, .int j => CMulB i j ∧ Q (.int (i * j)) H
  | .ref _, .int _ => rRep x y H Q
  | _, _ => False
theorem op_zMul : OpR X (binaryOp .Mult) zMul := by
  intro pins s σ H x y v u Q I rx ry h
  cases x <;> cases y <;> first
    | exact h.elim
    | exact op_mulB pins s σ H _ _ v u Q I rx ry ⟨_, _, rfl, rfl, h.1, h.2⟩
    | exact op_rep pins s σ H _ _ v u Q I rx ry h
def zDiv : R2 := fun x y H Q => match x, y with
  | .int i, .int j => CDivW i j ∧ Q (.int (i / j)) H
  | _, _ => False
theorem op_zDiv : OpR X (binaryOp .FloorDiv) zDiv := by
  intro pins s σ H x y v u Q I rx ry h
  cases x <;> cases y <;> first
    | exact h.elim
    | exact op_fdivW pins s σ H _ _ v u Q I rx ry ⟨_, _, rfl, rfl, h.1, h.2⟩
def zMod : R2 := fun x y H Q => match x, y with
  | .int i, .int j => 0 < j ∧ Q (.int (i % j)) H
  | _, _ => False
theorem op_zMod : OpR X (binaryOp .Mod) zMod := by
  intro pins s σ H x y v u Q I rx ry h
  cases x <;> cases y <;> first
    | exact h.elim
    | exact op_mod pins s σ H _ _ v u Q I rx ry ⟨_, _, rfl, rfl, h.1, h.2⟩
def zPow : R2 := fun x y H Q => match x, y with
  | .int i, .int j => CPow i j ∧ Q (.int (i ^ j.toNat)) H
  | _, _ => False
theorem op_zPow : OpR X (binaryOp .Pow) zPow := by
  intro pins s σ H x y v u Q I rx ry h
  cases x <;> cases y <;> first
    | exact h.elim
    | exact op_pow pins s σ H _ _ v u Q I rx ry ⟨_, _, rfl, rfl, h.1, h.2⟩
/-- == and !=: two scalars, or data of any depth -/
def zEq (K : PySem.W.Frag) : R2 := fun x y H Q => match x, y with
  | .non, .non => Q (.bl true) H
  | .int i, .int j => Q (.bl (decide (i = j))) H
  | .str i, .str j => Q (.bl (decide (i = j))) H
  | .bl i, .bl j => Q (.bl (decide (i = j))) H
  | .non, .int _ | .non, .bl _ | .non, .str _ | .int _, .non | .bl _, .non | .str _, .non | .int _, .str _ | .str _, .int _ | .bl _, .str _ | .str _, .bl _ => Q (.bl false) H
  | x, y => rEqD K x y H Q
def zNe (K : PySem.W.Frag) : R2 := fun x y H Q => match x, y with
  | .non, .non => Q (.bl false) H
  | .int i, .int j => Q (.bl (!decide (i = j))) H
  | .str i, .str j => Q (.bl (!decide (i = j))) H
  | .bl i, .bl j => Q (.bl (!decide (i = j))) H
  | .non, .int _ | .non, .bl _ | .non, .str _ | .int _, .non | .bl _, .non | .str _, .non | .int _, .str _ | .str _, .int _ | .bl _, .str _ | .str _, .bl _ => Q (.bl true) H
  | x, y => rNeD K x y H Q
theorem dec_int (i j : Int) : decide (V.int i = V.int j) = decide (i = j) := decide_eq_decide.mpr ⟨fun h => by cases h; rfl, fun h => by rw [h]⟩
theorem dec_str (i j : Str) : decide (V.str i = V.str j) = decide (i = j) := decide_eq_decide.mpr ⟨fun h => by cases h; rfl, fun h => by rw [h]⟩
theorem dec_bl (i j : Bool) : decide (V.bl i = V.bl j) = decide (i = j) := decide_eq_decide.mpr ⟨fun h => by cases h; rfl, fun h => by rw [h]⟩
theorem op_zEq (hu : X.A.units + 64 < cLine) : OpR X (compareOp .Eq) (zEq X.K) := by
  intro pins s σ H x y v u Q I rx ry h
  cases x <;> cases y <;> first
    | exact op_eqD hu pins s σ H _ _ v u Q I rx ry h
    | exact op_eq pins s σ H _ _ v u Q I rx ry ⟨rfl, by rw [dec_int]; exact h⟩
    | exact op_eq pins s σ H _ _ v u Q I rx ry ⟨rfl, by rw [dec_str]; exact h⟩
    | exact op_eq pins s σ H _ _ v u Q I rx ry ⟨rfl, by rw [dec_bl]; exact h⟩
    | exact op_eq pins s σ H _ _ v u Q I rx ry ⟨rfl, h⟩
theorem op_zNe (hu : X.A.units + 64 < cLine) : OpR X (compareOp .NotEq) (zNe X.K) := by
  intro pins s σ H x y v u Q I rx ry h
  cases x <;> cases y <;> first
    | exact op_neD hu pins s σ H _ _ v u Q I rx ry h
    | exact op_ne pins s σ H _ _ v u Q I rx ry ⟨rfl, by rw [dec_int]; exact h⟩
    | exact op_ne pins s σ H _ _ v u Q I rx ry ⟨rfl, by rw [dec_str]; exact h⟩
    | exact op_ne pins s σ H _ _ v u Q I rx ry ⟨rfl, by rw [dec_bl]; exact h⟩
    | exact op_ne pins s σ H _ _ v u Q I rx ry ⟨rfl, h⟩
def zLt (K : PySem.W.Frag) : R2 := fun x y H Q => match x, y with
  | .int i, .int j => Q (.bl (decide (i < j))) H
  | .str i, .str j => Q (.bl (decide (i.cps.toList < j.cps.toList))) H
  | .ref _, .ref _ => rLtT K x y H Q
  | _, _ => False
theorem op_zLt (hu : X.A.units + 64 < cLine) : OpR X (compareOp .Lt) (zLt X.K) := by
  intro pins s σ H x y v u Q I rx ry h
  cases x <;> cases y <;> first
    | exact h.elim
    | exact op_lt pins s σ H _ _ v u Q I rx ry ⟨_, _, rfl, rfl, h⟩
    | exact op_lt_str pins s σ H _ _ v u Q I rx ry ⟨_, _, rfl, rfl, h⟩
    | exact op_ltT (by omega) pins s σ H _ _ v u Q I rx ry h
def zLe : R2 := fun x y H Q => match x, y with
  | .int i, .int j => Q (.bl (decide (i ≤ j))) H
  | _, _ => False
theorem op_zLe : OpR X (compareOp .LtE) zLe := by
  intro pins s σ H x y v u Q I rx ry h
  cases x <;> cases y <;> first
    | exact h.elim
    | exact op_le pins s σ H _ _ v u Q I rx ry ⟨_, _, rfl, rfl, h⟩
def zGt : R2 := fun x y H Q => match x, y with
  | .int i, .int j => Q (.bl (decide (j < i))) H
  | _, _ => False
theorem op_zGt : OpR X (compareOp .Gt) zGt := by
  intro pins s σ H x y v u Q I rx ry h
  cases x <;> cases y <;> first
    | exact h.elim
    | exact op_gt pins s σ H _ _ v u Q I rx ry ⟨_, _, rfl, rfl, h⟩
def zGe : R2 := fun x y H Q => match x, y with
  | .int i, .int j => Q (.bl (decide (j ≤ i))) H
  | _, _ => False
theorem op_zGe : OpR X (compareOp .GtE) zGe := by
  intro pins s σ H x y v u Q I rx ry h
  cases x <;> cases y <;> first
    | exact h.elim
    | exact op_ge pins s σ H _ _ v u Q I rx ry ⟨_, _, rfl, rfl, h⟩
/-- in: a text's sign, a sequence of flat things, a list of data, a dict -/
def rInDict : R2 := fun y x H Q => ∃ a o, x = .ref a ∧ DGet H a y o ∧ Q (.bl o.isSome) H
def rNotInDict : R2 := fun y x H Q => ∃ a o, x = .ref a ∧ DGet H a y o ∧ Q (.bl (!o.isSome)) H
theorem op_inDict (hu : X.A.units + 1 < cLine) : OpR X (compareOp .In) rInDict := by
  intro pins s σ H y x u v Q I ry rx h
  obtain ⟨a, o, rfl, g, q⟩ := h
  obtain rfl : v = Value.ref a := rx
  exact d_in hu I g ry fun s3 I3 => ⟨.bl o.isSome, H, I3, rfl, q⟩
theorem op_notInDict (hu : X.A.units + 1 < cLine) : OpR X (compareOp .NotIn) rNotInDict := by
  intro pins s σ H y x u v Q I ry rx h
  obtain ⟨a, o, rfl, g, q⟩ := h
  obtain rfl : v = Value.ref a := rx
  exact d_notIn hu I g ry fun s3 I3 => ⟨.bl (!o.isSome), H, I3, rfl, q⟩
def rInS1 : R2 := fun x y H Q => ∃ (c : Nat) (z : Str), x = .str ⟨#[c]⟩ ∧ y = .str z ∧ Q (.bl (decide (c ∈ z.cps.toList))) H
def rNotInS1 : R2 := fun x y H Q => ∃ (c : Nat) (z : Str), x = .str ⟨#[c]⟩ ∧ y = .str z ∧ Q (.bl (!decide (c ∈ z.cps.toList))) H
def zIn (K : PySem.W.Frag) : R2 := fun x y H Q => (rInS1 x y H Q ∨ rIn K false x y H Q) ∨ (rInD K x y H Q ∨ rInDict x y H Q)
def zNotIn (K : PySem.W.Frag) : R2 := fun x y H Q => (rNotInS1 x y H Q ∨ rIn K true x y H Q) ∨ (rNotInD K x y H Q ∨ rNotInDict x y H Q)
theorem op_zIn (hu : X.A.units + 66 < cLine) : OpR X (compareOp .In) (zIn X.K) := (op_in_sign.or op_in_seq).or ((op_inD (by omega)).or (op_inDict (by omega)))
theorem op_zNotIn (hu : X.A.units + 66 < cLine) : OpR X (compareOp .NotIn) (zNotIn X.K) := (op_notIn_sign.or op_notIn_seq).or ((op_notInD (by omega)).or (op_notInDict (by omega)))
/-- is, is not: None, bools -/
def zIs : R2 := fun x y H Q => match x, y with
  | .bl a, .bl b => Q (.bl (decide (a = b))) H
  | x, .non => Q (.bl (decide (x = .non))) H
  | _, _ => False
theorem op_zIs : OpR X (compareOp .Is) zIs := by
  intro pins s σ H x y v u Q I rx ry h
  cases x <;> cases y <;> first
    | exact h.elim
    | exact op_isN pins s σ H _ _ v u Q I rx ry ⟨rfl, h⟩
    | exact op_isBl pins s σ H _ _ v u Q I rx ry ⟨_, _, rfl, rfl, h⟩
def zIsNot : R2 := fun x y H Q => match x, y with
  | .bl a, .bl b => Q (.bl (!decide (a = b))) H
  | x, .non => Q (.bl (!decide (x = .non))) H
  | _, _ => False
theorem op_zIsNot : OpR X (compareOp .IsNot) zIsNot := by
  intro pins s σ H x y v u Q I rx ry h
  cases x <;> cases y <;> first
    | exact h.elim
    | exact op_notN pins s σ H _ _ v u Q I rx ry ⟨rfl, h⟩
    | exact op_notBl pins s σ H _ _ v u Q I rx ry ⟨_, _, rfl, rfl, h⟩
/-- a[i]: list, tuple, text, dict -/
def zIx (K : PySem.W.Frag) : R2 := fun x y H Q => (rIxL K x y H Q ∨ rIxT K x y H Q ∨ rIxS x y H Q) ∨ ∃ a v, x = .ref a ∧ DGet H a y (some v) ∧ Q v H
theorem ix_dict (hu : X.A.units + 1 < cLine) : IxR X (fun x y H Q => ∃ a v, x = .ref a ∧ DGet H a y (some v) ∧ Q v H) := by
  intro value slice pins s σ H x y v u Q I rx ry h hs
  obtain ⟨a, z, rfl, g, q⟩ := h
  obtain rfl : v = Value.ref a := rx
  exact tail_any (dict_typeIs I g) PySem.F.slot_dict_getitem.lookup (d_getItem hu I g ry fun w' s3 I3 rw' => ⟨z, H, I3, rw', q⟩) hs
theorem ix_z (hu : X.A.units + 1 < cLine) : IxR X (zIx X.K) := ix_seq.or (ix_dict hu)
/-- a[i:j] -/
def zSl (K : PySem.W.Frag) : V → Option Int → Option Int → Hp → VK → Prop := fun x lo hi H Q => rSlL K x lo hi H Q ∨ (rSlA K x lo hi H Q ∨ rSlS x lo hi H Q)
theorem sl_z : SlR X (zSl X.K) := SlR.or sl_list (SlR.or sl_tupA sl_str)
/-- a name's slot -/
def zVar (i : Nat) : TE := fun σ H Q => match σ[i]? with
  | some (some v) => Q v H
  | _ => False
theorem zv (i : Nat) {x : Str} {pos : Pos} (hN : X.N[i]? = some x := by rfl) (hv : Vis X.env.scope x := by first | exact Or.inl rfl | exact Or.inr (Or.inl rfl) | exact Or.inr (Or.inr rfl)) (hd : (x == ("__debug__" : Str)) = false := by decide)
    (hcd : (x == ("__classdict__" : Str)) = false := by decide) : PE X (.Name x pos) (zVar i) := ⟨fun pins s σ H Q I h => (pe_var (i := i) hN hv hd hcd).run pins s σ H Q I (by
  unfold zVar at h
  split at h
  · exact ⟨_, by assumption, h⟩
  · exact h.elim)⟩
/-- len -/
def zLen (K : PySem.W.Frag) : List V → Hp → VK → Prop := fun xs H Q => (∃ x n, xs = [x] ∧ LenV K x H n ∧ Q (.int n) H) ∨ ∃ a kvs, xs = [V.ref a] ∧ H a = some (.dK kvs) ∧ Q (.int kvs.length) H
theorem cr_len : CallR X (.builtin "len") (zLen X.K) := CallR.or call_len call_lenD
end
end Z
/-! Zx: readings evaluated by equations. -/
namespace Z
open PySem PySem.Spec PyProof.Rows L2
section
variable {K : PySem.W.Frag} {σ σ' : L2.St} {H : Hp} {Q : VK} {QA : List V → Hp → Prop} {QB : Bool → Hp → Prop} {QO : Option Int → Hp → Prop} {QS : L2.St → Hp → Prop} {D : Ends} {i : Nat} {v x y : V} {ta tb tc te : TE} {tA tr : TA} {r : R2} {c d : TT} {t u : TS} {g : TG}
def zTru (K : PySem.W.Frag) (te : TE) : TT := fun σ H Q => te σ H fun x H' => ∃ k, TruV K x H' k ∧ Q k H'
def zAug (i : Nat) (te : TE) (ti : TIp) : TS := fun D σ H => match σ[i]? with
  | some (some x) => te σ H fun y H1 => ti x y H1 fun z H2 => gName i z σ H2 D.nx
  | _ => False
theorem ps_zaug {X : Cx} {i : Nat} {x : Str} {e : Expr} {te : TE} {op : Operator} {ti : TIp} {pos pos' : Pos} (hN : X.N.Nodup) (hi : X.N[i]? = some x) (hx : Loc X.env.scope x) (he : PE X e te) (ho : PIp X op ti) (hf : X.fn x = true ∨ X.env.scope.names.lookup x = some .local := by first | exact .inl rfl | exact .inr rfl | assumption) :
    PS X (.AugAssign (.Name x pos') op e pos) (zAug i te ti) := ⟨fun pins s σ H D I h => (ps_aug (i := i) hN hi hx he ho hf).run pins s σ H D I (by
  unfold zAug at h
  split at h
  · exact ⟨_, by assumption, h⟩
  · exact h.elim)⟩

theorem e_v0 {l : L2.St} : zVar 0 (some v :: l) H Q = Q v H := rfl
theorem e_n0 {l : L2.St} {w : Option V} : gName 0 v (w :: l) H QS = QS (some v :: l) H := rfl
theorem e_v1 {a0 : Option V} {l : L2.St} : zVar 1 (a0 :: some v :: l) H Q = Q v H := rfl
theorem e_n1 {a0 : Option V} {l : L2.St} {w : Option V} : gName 1 v (a0 :: w :: l) H QS = QS (a0 :: some v :: l) H := rfl
theorem e_v2 {a0 a1 : Option V} {l : L2.St} : zVar 2 (a0 :: a1 :: some v :: l) H Q = Q v H := rfl
theorem e_n2 {a0 a1 : Option V} {l : L2.St} {w : Option V} : gName 2 v (a0 :: a1 :: w :: l) H QS = QS (a0 :: a1 :: some v :: l) H := rfl
theorem e_v3 {a0 a1 a2 : Option V} {l : L2.St} : zVar 3 (a0 :: a1 :: a2 :: some v :: l) H Q = Q v H := rfl
theorem e_n3 {a0 a1 a2 : Option V} {l : L2.St} {w : Option V} : gName 3 v (a0 :: a1 :: a2 :: w :: l) H QS = QS (a0 :: a1 :: a2 :: some v :: l) H := rfl
theorem e_v4 {a0 a1 a2 a3 : Option V} {l : L2.St} : zVar 4 (a0 :: a1 :: a2 :: a3 :: some v :: l) H Q = Q v H := rfl
theorem e_n4 {a0 a1 a2 a3 : Option V} {l : L2.St} {w : Option V} : gName 4 v (a0 :: a1 :: a2 :: a3 :: w :: l) H QS = QS (a0 :: a1 :: a2 :: a3 :: some v :: l) H := rfl
theorem e_v5 {a0 a1 a2 a3 a4 : Option V} {l : L2.St} : zVar 5 (a0 :: a1 :: a2 :: a3 :: a4 :: some v :: l) H Q = Q v H := rfl
theorem e_n5 {a0 a1 a2 a3 a4 : Option V} {l : L2.St} {w : Option V} : gName 5 v (a0 :: a1 :: a2 :: a3 :: a4 :: w :: l) H QS = QS (a0 :: a1 :: a2 :: a3 :: a4 :: some v :: l) H := rfl
theorem e_v6 {a0 a1 a2 a3 a4 a5 : Option V} {l : L2.St} : zVar 6 (a0 :: a1 :: a2 :: a3 :: a4 :: a5 :: some v :: l) H Q = Q v H := rfl
theorem e_n6 {a0 a1 a2 a3 a4 a5 : Option V} {l : L2.St} {w : Option V} : gName 6 v (a0 :: a1 :: a2 :: a3 :: a4 :: a5 :: w :: l) H QS = QS (a0 :: a1 :: a2 :: a3 :: a4 :: a5 :: some v :: l) H := rfl
theorem e_v7 {a0 a1 a2 a3 a4 a5 a6 : Option V} {l : L2.St} : zVar 7 (a0 :: a1 :: a2 :: a3 :: a4 :: a5 :: a6 :: some v :: l) H Q = Q v H := rfl
theorem e_n7 {a0 a1 a2 a3 a4 a5 a6 : Option V} {l : L2.St} {w : Option V} : gName 7 v (a0 :: a1 :: a2 :: a3 :: a4 :: a5 :: a6 :: w :: l) H QS = QS (a0 :: a1 :: a2 :: a3 :: a4 :: a5 :: a6 :: some v :: l) H := rfl
theorem e_v8 {a0 a1 a2 a3 a4 a5 a6 a7 : Option V} {l : L2.St} : zVar 8 (a0 :: a1 :: a2 :: a3 :: a4 :: a5 :: a6 :: a7 :: some v :: l) H Q = Q v H := rfl
theorem e_n8 {a0 a1 a2 a3 a4 a5 a6 a7 : Option V} {l : L2.St} {w : Option V} : gName 8 v (a0 :: a1 :: a2 :: a3 :: a4 :: a5 :: a6 :: a7 :: w :: l) H QS = QS (a0 :: a1 :: a2 :: a3 :: a4 :: a5 :: a6 :: a7 :: some v :: l) H := rfl
theorem e_v9 {a0 a1 a2 a3 a4 a5 a6 a7 a8 : Option V} {l : L2.St} : zVar 9 (a0 :: a1 :: a2 :: a3 :: a4 :: a5 :: a6 :: a7 :: a8 :: some v :: l) H Q = Q v H := rfl
theorem e_n9 {a0 a1 a2 a3 a4 a5 a6 a7 a8 : Option V} {l : L2.St} {w : Option V} : gName 9 v (a0 :: a1 :: a2 :: a3 :: a4 :: a5 :: a6 :: a7 :: a8 :: w :: l) H QS = QS (a0 :: a1 :: a2 :: a3 :: a4 :: a5 :: a6 :: a7 :: a8 :: some v :: l) H := rfl
theorem e_v10 {a0 a1 a2 a3 a4 a5 a6 a7 a8 a9 : Option V} {l : L2.St} : zVar 10 (a0 :: a1 :: a2 :: a3 :: a4 :: a5 :: a6 :: a7 :: a8 :: a9 :: some v :: l) H Q = Q v H := rfl
theorem e_n10 {a0 a1 a2 a3 a4 a5 a6 a7 a8 a9 : Option V} {l : L2.St} {w : Option V} : gName 10 v (a0 :: a1 :: a2 :: a3 :: a4 :: a5 :: a6 :: a7 :: a8 :: a9 :: w :: l) H QS = QS (a0 :: a1 :: a2 :: a3 :: a4 :: a5 :: a6 :: a7 :: a8 :: a9 :: some v :: l) H := rfl
theorem e_v11 {a0 a1 a2 a3 a4 a5 a6 a7 a8 a9 a10 : Option V} {l : L2.St} : zVar 11 (a0 :: a1 :: a2 :: a3 :: a4 :: a5 :: a6 :: a7 :: a8 :: a9 :: a10 :: some v :: l) H Q = Q v H := rfl
theorem e_n11 {a0 a1 a2 a3 a4 a5 a6 a7 a8 a9 a10 : Option V} {l : L2.St} {w : Option V} : gName 11 v (a0 :: a1 :: a2 :: a3 :: a4 :: a5 :: a6 :: a7 :: a8 :: a9 :: a10 :: w :: l) H QS = QS (a0 :: a1 :: a2 :: a3 :: a4 :: a5 :: a6 :: a7 :: a8 :: a9 :: a10 :: some v :: l) H := rfl
theorem e_v12 {a0 a1 a2 a3 a4 a5 a6 a7 a8 a9 a10 a11 : Option V} {l : L2.St} : zVar 12 (a0 :: a1 :: a2 :: a3 :: a4 :: a5 :: a6 :: a7 :: a8 :: a9 :: a10 :: a11 :: some v :: l) H Q = Q v H := rfl
theorem e_n12 {a0 a1 a2 a3 a4 a5 a6 a7 a8 a9 a10 a11 : Option V} {l : L2.St} {w : Option V} : gName 12 v (a0 :: a1 :: a2 :: a3 :: a4 :: a5 :: a6 :: a7 :: a8 :: a9 :: a10 :: a11 :: w :: l) H QS = QS (a0 :: a1 :: a2 :: a3 :: a4 :: a5 :: a6 :: a7 :: a8 :: a9 :: a10 :: a11 :: some v :: l) H := rfl
theorem e_v13 {a0 a1 a2 a3 a4 a5 a6 a7 a8 a9 a10 a11 a12 : Option V} {l : L2.St} : zVar 13 (a0 :: a1 :: a2 :: a3 :: a4 :: a5 :: a6 :: a7 :: a8 :: a9 :: a10 :: a11 :: a12 :: some v :: l) H Q = Q v H := rfl
theorem e_n13 {a0 a1 a2 a3 a4 a5 a6 a7 a8 a9 a10 a11 a12 : Option V} {l : L2.St} {w : Option V} : gName 13 v (a0 :: a1 :: a2 :: a3 :: a4 :: a5 :: a6 :: a7 :: a8 :: a9 :: a10 :: a11 :: a12 :: w :: l) H QS = QS (a0 :: a1 :: a2 :: a3 :: a4 :: a5 :: a6 :: a7 :: a8 :: a9 :: a10 :: a11 :: a12 :: some v :: l) H := rfl
theorem e_v14 {a0 a1 a2 a3 a4 a5 a6 a7 a8 a9 a10 a11 a12 a13 : Option V} {l : L2.St} : zVar 14 (a0 :: a1 :: a2 :: a3 :: a4 :: a5 :: a6 :: a7 :: a8 :: a9 :: a10 :: a11 :: a12 :: a13 :: some v :: l) H Q = Q v H := rfl
theorem e_n14 {a0 a1 a2 a3 a4 a5 a6 a7 a8 a9 a10 a11 a12 a13 : Option V} {l : L2.St} {w : Option V} : gName 14 v (a0 :: a1 :: a2 :: a3 :: a4 :: a5 :: a6 :: a7 :: a8 :: a9 :: a10 :: a11 :: a12 :: a13 :: w :: l) H QS = QS (a0 :: a1 :: a2 :: a3 :: a4 :: a5 :: a6 :: a7 :: a8 :: a9 :: a10 :: a11 :: a12 :: a13 :: some v :: l) H := rfl
theorem e_v15 {a0 a1 a2 a3 a4 a5 a6 a7 a8 a9 a10 a11 a12 a13 a14 : Option V} {l : L2.St} : zVar 15 (a0 :: a1 :: a2 :: a3 :: a4 :: a5 :: a6 :: a7 :: a8 :: a9 :: a10 :: a11 :: a12 :: a13 :: a14 :: some v :: l) H Q = Q v H := rfl
theorem e_n15 {a0 a1 a2 a3 a4 a5 a6 a7 a8 a9 a10 a11 a12 a13 a14 : Option V} {l : L2.St} {w : Option V} : gName 15 v (a0 :: a1 :: a2 :: a3 :: a4 :: a5 :: a6 :: a7 :: a8 :: a9 :: a10 :: a11 :: a12 :: a13 :: a14 :: w :: l) H QS = QS (a0 :: a1 :: a2 :: a3 :: a4 :: a5 :: a6 :: a7 :: a8 :: a9 :: a10 :: a11 :: a12 :: a13 :: a14 :: some v :: l) H := rfl
theorem e_v16 {a0 a1 a2 a3 a4 a5 a6 a7 a8 a9 a10 a11 a12 a13 a14 a15 : Option V} {l : L2.St} : zVar 16 (a0 :: a1 :: a2 :: a3 :: a4 :: a5 :: a6 :: a7 :: a8 :: a9 :: a10 :: a11 :: a12 :: a13 :: a14 :: a15 :: some v :: l) H Q = Q v H := rfl
theorem e_n16 {a0 a1 a2 a3 a4 a5 a6 a7 a8 a9 a10 a11 a12 a13 a14 a15 : Option V} {l : L2.St} {w : Option V} : gName 16 v (a0 :: a1 :: a2 :: a3 :: a4 :: a5 :: a6 :: a7 :: a8 :: a9 :: a10 :: a11 :: a12 :: a13 :: a14 :: a15 :: w :: l) H QS = QS (a0 :: a1 :: a2 :: a3 :: a4 :: a5 :: a6 :: a7 :: a8 :: a9 :: a10 :: a11 :: a12 :: a13 :: a14 :: a15 :: some v :: l) H := rfl
theorem e_v17 {a0 a1 a2 a3 a4 a5 a6 a7 a8 a9 a10 a11 a12 a13 a14 a15 a16 : Option V} {l : L2.St} : zVar 17 (a0 :: a1 :: a2 :: a3 :: a4 :: a5 :: a6 :: a7 :: a8 :: a9 :: a10 :: a11 :: a12 :: a13 :: a14 :: a15 :: a16 :: some v :: l) H Q = Q v H := rfl
theorem e_n17 {a0 a1 a2 a3 a4 a5 a6 a7 a8 a9 a10 a11 a12 a13 a14 a15 a16 : Option V} {l : L2.St} {w : Option V} : gName 17 v (a0 :: a1 :: a2 :: a3 :: a4 :: a5 :: a6 :: a7 :: a8 :: a9 :: a10 :: a11 :: a12 :: a13 :: a14 :: a15 :: a16 :: w :: l) H QS = QS (a0 :: a1 :: a2 :: a3 :: a4 :: a5 :: a6 :: a7 :: a8 :: a9 :: a10 :: a11 :: a12 :: a13 :: a14 :: a15 :: a16 :: some v :: l) H := rfl
theorem e_v18 {a0 a1 a2 a3 a4 a5 a6 a7 a8 a9 a10 a11 a12 a13 a14 a15 a16 a17 : Option V} {l : L2.St} : zVar 18 (a0 :: a1 :: a2 :: a3 :: a4 :: a5 :: a6 :: a7 :: a8 :: a9 :: a10 :: a11 :: a12 :: a13 :: a14 :: a15 :: a16 :: a17 :: some v :: l) H Q = Q v H := rfl
theorem e_n18 {a0 a1 a2 a3 a4 a5 a6 a7 a8 a9 a10 a11 a12 a13 a14 a15 a16 a17 : Option V} {l : L2.St} {w : Option V} : gName 18 v (a0 :: a1 :: a2 :: a3 :: a4 :: a5 :: a6 :: a7 :: a8 :: a9 :: a10 :: a11 :: a12 :: a13 :: a14 :: a15 :: a16 :: a17 :: w :: l) H QS = QS (a0 :: a1 :: a2 :: a3 :: a4 :: a5 :: a6 :: a7 :: a8 :: a9 :: a10 :: a11 :: a12 :: a13 :: a14 :: a15 :: a16 :: a17 :: some v :: l) H := rfl
theorem e_v19 {a0 a1 a2 a3 a4 a5 a6 a7 a8 a9 a10 a11 a12 a13 a14 a15 a16 a17 a18 : Option V} {l : L2.St} : zVar 19 (a0 :: a1 :: a2 :: a3 :: a4 :: a5 :: a6 :: a7 :: a8 :: a9 :: a10 :: a11 :: a12 :: a13 :: a14 :: a15 :: a16 :: a17 :: a18 :: some v :: l) H Q = Q v H := rfl
theorem e_n19 {a0 a1 a2 a3 a4 a5 a6 a7 a8 a9 a10 a11 a12 a13 a14 a15 a16 a17 a18 : Option V} {l : L2.St} {w : Option V} : gName 19 v (a0 :: a1 :: a2 :: a3 :: a4 :: a5 :: a6 :: a7 :: a8 :: a9 :: a10 :: a11 :: a12 :: a13 :: a14 :: a15 :: a16 :: a17 :: a18 :: w :: l) H QS = QS (a0 :: a1 :: a2 :: a3 :: a4 :: a5 :: a6 :: a7 :: a8 :: a9 :: a10 :: a11 :: a12 :: a13 :: a14 :: a15 :: a16 :: a17 :: a18 :: some v :: l) H := rfl
theorem e_v20 {a0 a1 a2 a3 a4 a5 a6 a7 a8 a9 a10 a11 a12 a13 a14 a15 a16 a17 a18 a19 : Option V} {l : L2.St} : zVar 20 (a0 :: a1 :: a2 :: a3 :: a4 :: a5 :: a6 :: a7 :: a8 :: a9 :: a10 :: a11 :: a12 :: a13 :: a14 :: a15 :: a16 :: a17 :: a18 :: a19 :: some v :: l) H Q = Q v H := rfl
theorem e_n20 {a0 a1 a2 a3 a4 a5 a6 a7 a8 a9 a10 a11 a12 a13 a14 a15 a16 a17 a18 a19 : Option V} {l : L2.St} {w : Option V} : gName 20 v (a0 :: a1 :: a2 :: a3 :: a4 :: a5 :: a6 :: a7 :: a8 :: a9 :: a10 :: a11 :: a12 :: a13 :: a14 :: a15 :: a16 :: a17 :: a18 :: a19 :: w :: l) H QS = QS (a0 :: a1 :: a2 :: a3 :: a4 :: a5 :: a6 :: a7 :: a8 :: a9 :: a10 :: a11 :: a12 :: a13 :: a14 :: a15 :: a16 :: a17 :: a18 :: a19 :: some v :: l) H := rfl
theorem e_v21 {a0 a1 a2 a3 a4 a5 a6 a7 a8 a9 a10 a11 a12 a13 a14 a15 a16 a17 a18 a19 a20 : Option V} {l : L2.St} : zVar 21 (a0 :: a1 :: a2 :: a3 :: a4 :: a5 :: a6 :: a7 :: a8 :: a9 :: a10 :: a11 :: a12 :: a13 :: a14 :: a15 :: a16 :: a17 :: a18 :: a19 :: a20 :: some v :: l) H Q = Q v H := rfl
theorem e_n21 {a0 a1 a2 a3 a4 a5 a6 a7 a8 a9 a10 a11 a12 a13 a14 a15 a16 a17 a18 a19 a20 : Option V} {l : L2.St} {w : Option V} : gName 21 v (a0 :: a1 :: a2 :: a3 :: a4 :: a5 :: a6 :: a7 :: a8 :: a9 :: a10 :: a11 :: a12 :: a13 :: a14 :: a15 :: a16 :: a17 :: a18 :: a19 :: a20 :: w :: l) H QS = QS (a0 :: a1 :: a2 :: a3 :: a4 :: a5 :: a6 :: a7 :: a8 :: a9 :: a10 :: a11 :: a12 :: a13 :: a14 :: a15 :: a16 :: a17 :: a18 :: a19 :: a20 :: some v :: l) H := rfl
theorem e_v22 {a0 a1 a2 a3 a4 a5 a6 a7 a8 a9 a10 a11 a12 a13 a14 a15 a16 a17 a18 a19 a20 a21 : Option V} {l : L2.St} : zVar 22 (a0 :: a1 :: a2 :: a3 :: a4 :: a5 :: a6 :: a7 :: a8 :: a9 :: a10 :: a11 :: a12 :: a13 :: a14 :: a15 :: a16 :: a17 :: a18 :: a19 :: a20 :: a21 :: some v :: l) H Q = Q v H := rfl
theorem e_n22 {a0 a1 a2 a3 a4 a5 a6 a7 a8 a9 a10 a11 a12 a13 a14 a15 a16 a17 a18 a19 a20 a21 : Option V} {l : L2.St} {w : Option V} : gName 22 v (a0 :: a1 :: a2 :: a3 :: a4 :: a5 :: a6 :: a7 :: a8 :: a9 :: a10 :: a11 :: a12 :: a13 :: a14 :: a15 :: a16 :: a17 :: a18 :: a19 :: a20 :: a21 :: w :: l) H QS = QS (a0 :: a1 :: a2 :: a3 :: a4 :: a5 :: a6 :: a7 :: a8 :: a9 :: a10 :: a11 :: a12 :: a13 :: a14 :: a15 :: a16 :: a17 :: a18 :: a19 :: a20 :: a21 :: some v :: l) H := rfl
theorem e_v23 {a0 a1 a2 a3 a4 a5 a6 a7 a8 a9 a10 a11 a12 a13 a14 a15 a16 a17 a18 a19 a20 a21 a22 : Option V} {l : L2.St} : zVar 23 (a0 :: a1 :: a2 :: a3 :: a4 :: a5 :: a6 :: a7 :: a8 :: a9 :: a10 :: a11 :: a12 :: a13 :: a14 :: a15 :: a16 :: a17 :: a18 :: a19 :: a20 :: a21 :: a22 :: some v :: l) H Q = Q v H := rfl
theorem e_n23 {a0 a1 a2 a3 a4 a5 a6 a7 a8 a9 a10 a11 a12 a13 a14 a15 a16 a17 a18 a19 a20 a21 a22 : Option V} {l : L2.St} {w : Option V} : gName 23 v (a0 :: a1 :: a2 :: a3 :: a4 :: a5 :: a6 :: a7 :: a8 :: a9 :: a10 :: a11 :: a12 :: a13 :: a14 :: a15 :: a16 :: a17 :: a18 :: a19 :: a20 :: a21 :: a22 :: w :: l) H QS = QS (a0 :: a1 :: a2 :: a3 :: a4 :: a5 :: a6 :: a7 :: a8 :: a9 :: a10 :: a11 :: a12 :: a13 :: a14 :: a15 :: a16 :: a17 :: a18 :: a19 :: a20 :: a21 :: a22 :: some v :: l) H := rfl
theorem e_v24 {a0 a1 a2 a3 a4 a5 a6 a7 a8 a9 a10 a11 a12 a13 a14 a15 a16 a17 a18 a19 a20 a21 a22 a23 : Option V} {l : L2.St} : zVar 24 (a0 :: a1 :: a2 :: a3 :: a4 :: a5 :: a6 :: a7 :: a8 :: a9 :: a10 :: a11 :: a12 :: a13 :: a14 :: a15 :: a16 :: a17 :: a18 :: a19 :: a20 :: a21 :: a22 :: a23 :: some v :: l) H Q = Q v H := rfl
theorem e_n24 {a0 a1 a2 a3 a4 a5 a6 a7 a8 a9 a10 a11 a12 a13 a14 a15 a16 a17 a18 a19 a20 a21 a22 a23 : Option V} {l : L2.St} {w : Option V} : gName 24 v (a0 :: a1 :: a2 :: a3 :: a4 :: a5 :: a6 :: a7 :: a8 :: a9 :: a10 :: a11 :: a12 :: a13 :: a14 :: a15 :: a16 :: a17 :: a18 :: a19 :: a20 :: a21 :: a22 :: a23 :: w :: l) H QS = QS (a0 :: a1 :: a2 :: a3 :: a4 :: a5 :: a6 :: a7 :: a8 :: a9 :: a10 :: a11 :: a12 :: a13 :: a14 :: a15 :: a16 :: a17 :: a18 :: a19 :: a20 :: a21 :: a22 :: a23 :: some v :: l) H := rfl
theorem e_v25 {a0 a1 a2 a3 a4 a5 a6 a7 a8 a9 a10 a11 a12 a13 a14 a15 a16 a17 a18 a19 a20 a21 a22 a23 a24 : Option V} {l : L2.St} : zVar 25 (a0 :: a1 :: a2 :: a3 :: a4 :: a5 :: a6 :: a7 :: a8 :: a9 :: a10 :: a11 :: a12 :: a13 :: a14 :: a15 :: a16 :: a17 :: a18 :: a19 :: a20 :: a21 :: a22 :: a23 :: a24 :: some v :: l) H Q = Q v H := rfl
theorem e_n25 {a0 a1 a2 a3 a4 a5 a6 a7 a8 a9 a10 a11 a12 a13 a14 a15 a16 a17 a18 a19 a20 a21 a22 a23 a24 : Option V} {l : L2.St} {w : Option V} : gName 25 v (a0 :: a1 :: a2 :: a3 :: a4 :: a5 :: a6 :: a7 :: a8 :: a9 :: a10 :: a11 :: a12 :: a13 :: a14 :: a15 :: a16 :: a17 :: a18 :: a19 :: a20 :: a21 :: a22 :: a23 :: a24 :: w :: l) H QS = QS (a0 :: a1 :: a2 :: a3 :: a4 :: a5 :: a6 :: a7 :: a8 :: a9 :: a10 :: a11 :: a12 :: a13 :: a14 :: a15 :: a16 :: a17 :: a18 :: a19 :: a20 :: a21 :: a22 :: a23 :: a24 :: some v :: l) H := rfl
theorem e_v26 {a0 a1 a2 a3 a4 a5 a6 a7 a8 a9 a10 a11 a12 a13 a14 a15 a16 a17 a18 a19 a20 a21 a22 a23 a24 a25 : Option V} {l : L2.St} : zVar 26 (a0 :: a1 :: a2 :: a3 :: a4 :: a5 :: a6 :: a7 :: a8 :: a9 :: a10 :: a11 :: a12 :: a13 :: a14 :: a15 :: a16 :: a17 :: a18 :: a19 :: a20 :: a21 :: a22 :: a23 :: a24 :: a25 :: some v :: l) H Q = Q v H := rfl
theorem e_n26 {a0 a1 a2 a3 a4 a5 a6 a7 a8 a9 a10 a11 a12 a13 a14 a15 a16 a17 a18 a19 a20 a21 a22 a23 a24 a25 : Option V} {l : L2.St} {w : Option V} : gName 26 v (a0 :: a1 :: a2 :: a3 :: a4 :: a5 :: a6 :: a7 :: a8 :: a9 :: a10 :: a11 :: a12 :: a13 :: a14 :: a15 :: a16 :: a17 :: a18 :: a19 :: a20 :: a21 :: a22 :: a23 :: a24 :: a25 :: w :: l) H QS = QS (a0 :: a1 :: a2 :: a3 :: a4 :: a5 :: a6 :: a7 :: a8 :: a9 :: a10 :: a11 :: a12 :: a13 :: a14 :: a15 :: a16 :: a17 :: a18 :: a19 :: a20 :: a21 :: a22 :: a23 :: a24 :: a25 :: some v :: l) H := rfl
theorem e_v27 {a0 a1 a2 a3 a4 a5 a6 a7 a8 a9 a10 a11 a12 a13 a14 a15 a16 a17 a18 a19 a20 a21 a22 a23 a24 a25 a26 : Option V} {l : L2.St} : zVar 27 (a0 :: a1 :: a2 :: a3 :: a4 :: a5 :: a6 :: a7 :: a8 :: a9 :: a10 :: a11 :: a12 :: a13 :: a14 :: a15 :: a16 :: a17 :: a18 :: a19 :: a20 :: a21 :: a22 :: a23 :: a24 :: a25 :: a26 :: some v :: l) H Q = Q v H := rfl
theorem e_n27 {a0 a1 a2 a3 a4 a5 a6 a7 a8 a9 a10 a11 a12 a13 a14 a15 a16 a17 a18 a19 a20 a21 a22 a23 a24 a25 a26 : Option V} {l : L2.St} {w : Option V} : gName 27 v (a0 :: a1 :: a2 :: a3 :: a4 :: a5 :: a6 :: a7 :: a8 :: a9 :: a10 :: a11 :: a12 :: a13 :: a14 :: a15 :: a16 :: a17 :: a18 :: a19 :: a20 :: a21 :: a22 :: a23 :: a24 :: a25 :: a26 :: w :: l) H QS = QS (a0 :: a1 :: a2 :: a3 :: a4 :: a5 :: a6 :: a7 :: a8 :: a9 :: a10 :: a11 :: a12 :: a13 :: a14 :: a15 :: a16 :: a17 :: a18 :: a19 :: a20 :: a21 :: a22 :: a23 :: a24 :: a25 :: a26 :: some v :: l) H := rfl
theorem e_v28 {a0 a1 a2 a3 a4 a5 a6 a7 a8 a9 a10 a11 a12 a13 a14 a15 a16 a17 a18 a19 a20 a21 a22 a23 a24 a25 a26 a27 : Option V} {l : L2.St} : zVar 28 (a0 :: a1 :: a2 :: a3 :: a4 :: a5 :: a6 :: a7 :: a8 :: a9 :: a10 :: a11 :: a12 :: a13 :: a14 :: a15 :: a16 :: a17 :: a18 :: a19 :: a20 :: a21 :: a22 :: a23 :: a24 :: a25 :: a26 :: a27 :: some v :: l) H Q = Q v H := rfl
theorem e_n28 {a0 a1 a2 a3 a4 a5 a6 a7 a8 a9 a10 a11 a12 a13 a14 a15 a16 a17 a18 a19 a20 a21 a22 a23 a24 a25 a26 a27 : Option V} {l : L2.St} {w : Option V} : gName 28 v (a0 :: a1 :: a2 :: a3 :: a4 :: a5 :: a6 :: a7 :: a8 :: a9 :: a10 :: a11 :: a12 :: a13 :: a14 :: a15 :: a16 :: a17 :: a18 :: a19 :: a20 :: a21 :: a22 :: a23 :: a24 :: a25 :: a26 :: a27 :: w :: l) H QS = QS (a0 :: a1 :: a2 :: a3 :: a4 :: a5 :: a6 :: a7 :: a8 :: a9 :: a10 :: a11 :: a12 :: a13 :: a14 :: a15 :: a16 :: a17 :: a18 :: a19 :: a20 :: a21 :: a22 :: a23 :: a24 :: a25 :: a26 :: a27 :: some v :: l) H := rfl
theorem e_v29 {a0 a1 a2 a3 a4 a5 a6 a7 a8 a9 a10 a11 a12 a13 a14 a15 a16 a17 a18 a19 a20 a21 a22 a23 a24 a25 a26 a27 a28 : Option V} {l : L2.St} : zVar 29 (a0 :: a1 :: a2 :: a3 :: a4 :: a5 :: a6 :: a7 :: a8 :: a9 :: a10 :: a11 :: a12 :: a13 :: a14 :: a15 :: a16 :: a17 :: a18 :: a19 :: a20 :: a21 :: a22 :: a23 :: a24 :: a25 :: a26 :: a27 :: a28 :: some v :: l) H Q = Q v H := rfl
theorem e_n29 {a0 a1 a2 a3 a4 a5 a6 a7 a8 a9 a10 a11 a12 a13 a14 a15 a16 a17 a18 a19 a20 a21 a22 a23 a24 a25 a26 a27 a28 : Option V} {l : L2.St} {w : Option V} : gName 29 v (a0 :: a1 :: a2 :: a3 :: a4 :: a5 :: a6 :: a7 :: a8 :: a9 :: a10 :: a11 :: a12 :: a13 :: a14 :: a15 :: a16 :: a17 :: a18 :: a19 :: a20 :: a21 :: a22 :: a23 :: a24 :: a25 :: a26 :: a27 :: a28 :: w :: l) H QS = QS (a0 :: a1 :: a2 :: a3 :: a4 :: a5 :: a6 :: a7 :: a8 :: a9 :: a10 :: a11 :: a12 :: a13 :: a14 :: a15 :: a16 :: a17 :: a18 :: a19 :: a20 :: a21 :: a22 :: a23 :: a24 :: a25 :: a26 :: a27 :: a28 :: some v :: l) H := rfl
theorem e_v30 {a0 a1 a2 a3 a4 a5 a6 a7 a8 a9 a10 a11 a12 a13 a14 a15 a16 a17 a18 a19 a20 a21 a22 a23 a24 a25 a26 a27 a28 a29 : Option V} {l : L2.St} : zVar 30 (a0 :: a1 :: a2 :: a3 :: a4 :: a5 :: a6 :: a7 :: a8 :: a9 :: a10 :: a11 :: a12 :: a13 :: a14 :: a15 :: a16 :: a17 :: a18 :: a19 :: a20 :: a21 :: a22 :: a23 :: a24 :: a25 :: a26 :: a27 :: a28 :: a29 :: some v :: l) H Q = Q v H := rfl
theorem e_n30 {a0 a1 a2 a3 a4 a5 a6 a7 a8 a9 a10 a11 a12 a13 a14 a15 a16 a17 a18 a19 a20 a21 a22 a23 a24 a25 a26 a27 a28 a29 : Option V} {l : L2.St} {w : Option V} : gName 30 v (a0 :: a1 :: a2 :: a3 :: a4 :: a5 :: a6 :: a7 :: a8 :: a9 :: a10 :: a11 :: a12 :: a13 :: a14 :: a15 :: a16 :: a17 :: a18 :: a19 :: a20 :: a21 :: a22 :: a23 :: a24 :: a25 :: a26 :: a27 :: a28 :: a29 :: w :: l) H QS = QS (a0 :: a1 :: a2 :: a3 :: a4 :: a5 :: a6 :: a7 :: a8 :: a9 :: a10 :: a11 :: a12 :: a13 :: a14 :: a15 :: a16 :: a17 :: a18 :: a19 :: a20 :: a21 :: a22 :: a23 :: a24 :: a25 :: a26 :: a27 :: a28 :: a29 :: some v :: l) H := rfl
theorem e_v31 {a0 a1 a2 a3 a4 a5 a6 a7 a8 a9 a10 a11 a12 a13 a14 a15 a16 a17 a18 a19 a20 a21 a22 a23 a24 a25 a26 a27 a28 a29 a30 : Option V} {l : L2.St} : zVar 31 (a0 :: a1 :: a2 :: a3 :: a4 :: a5 :: a6 :: a7 :: a8 :: a9 :: a10 :: a11 :: a12 :: a13 :: a14 :: a15 :: a16 :: a17 :: a18 :: a19 :: a20 :: a21 :: a22 :: a23 :: a24 :: a25 :: a26 :: a27 :: a28 :: a29 :: a30 :: some v :: l) H Q = Q v H := rfl
theorem e_n31 {a0 a1 a2 a3 a4 a5 a6 a7 a8 a9 a10 a11 a12 a13 a14 a15 a16 a17 a18 a19 a20 a21 a22 a23 a24 a25 a26 a27 a28 a29 a30 : Option V} {l : L2.St} {w : Option V} : gName 31 v (a0 :: a1 :: a2 :: a3 :: a4 :: a5 :: a6 :: a7 :: a8 :: a9 :: a10 :: a11 :: a12 :: a13 :: a14 :: a15 :: a16 :: a17 :: a18 :: a19 :: a20 :: a21 :: a22 :: a23 :: a24 :: a25 :: a26 :: a27 :: a28 :: a29 :: a30 :: w :: l) H QS = QS (a0 :: a1 :: a2 :: a3 :: a4 :: a5 :: a6 :: a7 :: a8 :: a9 :: a10 :: a11 :: a12 :: a13 :: a14 :: a15 :: a16 :: a17 :: a18 :: a19 :: a20 :: a21 :: a22 :: a23 :: a24 :: a25 :: a26 :: a27 :: a28 :: a29 :: a30 :: some v :: l) H := rfl
theorem e_v32 {a0 a1 a2 a3 a4 a5 a6 a7 a8 a9 a10 a11 a12 a13 a14 a15 a16 a17 a18 a19 a20 a21 a22 a23 a24 a25 a26 a27 a28 a29 a30 a31 : Option V} {l : L2.St} : zVar 32 (a0 :: a1 :: a2 :: a3 :: a4 :: a5 :: a6 :: a7 :: a8 :: a9 :: a10 :: a11 :: a12 :: a13 :: a14 :: a15 :: a16 :: a17 :: a18 :: a19 :: a20 :: a21 :: a22 :: a23 :: a24 :: a25 :: a26 :: a27 :: a28 :: a29 :: a30 :: a31 :: some v :: l) H Q = Q v H := rfl
theorem e_n32 {a0 a1 a2 a3 a4 a5 a6 a7 a8 a9 a10 a11 a12 a13 a14 a15 a16 a17 a18 a19 a20 a21 a22 a23 a24 a25 a26 a27 a28 a29 a30 a31 : Option V} {l : L2.St} {w : Option V} : gName 32 v (a0 :: a1 :: a2 :: a3 :: a4 :: a5 :: a6 :: a7 :: a8 :: a9 :: a10 :: a11 :: a12 :: a13 :: a14 :: a15 :: a16 :: a17 :: a18 :: a19 :: a20 :: a21 :: a22 :: a23 :: a24 :: a25 :: a26 :: a27 :: a28 :: a29 :: a30 :: a31 :: w :: l) H QS = QS (a0 :: a1 :: a2 :: a3 :: a4 :: a5 :: a6 :: a7 :: a8 :: a9 :: a10 :: a11 :: a12 :: a13 :: a14 :: a15 :: a16 :: a17 :: a18 :: a19 :: a20 :: a21 :: a22 :: a23 :: a24 :: a25 :: a26 :: a27 :: a28 :: a29 :: a30 :: a31 :: some v :: l) H := rfl
theorem e_v33 {a0 a1 a2 a3 a4 a5 a6 a7 a8 a9 a10 a11 a12 a13 a14 a15 a16 a17 a18 a19 a20 a21 a22 a23 a24 a25 a26 a27 a28 a29 a30 a31 a32 : Option V} {l : L2.St} : zVar 33 (a0 :: a1 :: a2 :: a3 :: a4 :: a5 :: a6 :: a7 :: a8 :: a9 :: a10 :: a11 :: a12 :: a13 :: a14 :: a15 :: a16 :: a17 :: a18 :: a19 :: a20 :: a21 :: a22 :: a23 :: a24 :: a25 :: a26 :: a27 :: a28 :: a29 :: a30 :: a31 :: a32 :: some v :: l) H Q = Q v H := rfl
theorem e_n33 {a0 a1 a2 a3 a4 a5 a6 a7 a8 a9 a10 a11 a12 a13 a14 a15 a16 a17 a18 a19 a20 a21 a22 a23 a24 a25 a26 a27 a28 a29 a30 a31 a32 : Option V} {l : L2.St} {w : Option V} : gName 33 v (a0 :: a1 :: a2 :: a3 :: a4 :: a5 :: a6 :: a7 :: a8 :: a9 :: a10 :: a11 :: a12 :: a13 :: a14 :: a15 :: a16 :: a17 :: a18 :: a19 :: a20 :: a21 :: a22 :: a23 :: a24 :: a25 :: a26 :: a27 :: a28 :: a29 :: a30 :: a31 :: a32 :: w :: l) H QS = QS (a0 :: a1 :: a2 :: a3 :: a4 :: a5 :: a6 :: a7 :: a8 :: a9 :: a10 :: a11 :: a12 :: a13 :: a14 :: a15 :: a16 :: a17 :: a18 :: a19 :: a20 :: a21 :: a22 :: a23 :: a24 :: a25 :: a26 :: a27 :: a28 :: a29 :: a30 :: a31 :: a32 :: some v :: l) H := rfl
theorem e_v34 {a0 a1 a2 a3 a4 a5 a6 a7 a8 a9 a10 a11 a12 a13 a14 a15 a16 a17 a18 a19 a20 a21 a22 a23 a24 a25 a26 a27 a28 a29 a30 a31 a32 a33 : Option V} {l : L2.St} : zVar 34 (a0 :: a1 :: a2 :: a3 :: a4 :: a5 :: a6 :: a7 :: a8 :: a9 :: a10 :: a11 :: a12 :: a13 :: a14 :: a15 :: a16 :: a17 :: a18 :: a19 :: a20 :: a21 :: a22 :: a23 :: a24 :: a25 :: a26 :: a27 :: a28 :: a29 :: a30 :: a31 :: a32 :: a33 :: some v :: l) H Q = Q v H := rfl
theorem e_n34 {a0 a1 a2 a3 a4 a5 a6 a7 a8 a9 a10 a11 a12 a13 a14 a15 a16 a17 a18 a19 a20 a21 a22 a23 a24 a25 a26 a27 a28 a29 a30 a31 a32 a33 : Option V} {l : L2.St} {w : Option V} : gName 34 v (a0 :: a1 :: a2 :: a3 :: a4 :: a5 :: a6 :: a7 :: a8 :: a9 :: a10 :: a11 :: a12 :: a13 :: a14 :: a15 :: a16 :: a17 :: a18 :: a19 :: a20 :: a21 :: a22 :: a23 :: a24 :: a25 :: a26 :: a27 :: a28 :: a29 :: a30 :: a31 :: a32 :: a33 :: w :: l) H QS = QS (a0 :: a1 :: a2 :: a3 :: a4 :: a5 :: a6 :: a7 :: a8 :: a9 :: a10 :: a11 :: a12 :: a13 :: a14 :: a15 :: a16 :: a17 :: a18 :: a19 :: a20 :: a21 :: a22 :: a23 :: a24 :: a25 :: a26 :: a27 :: a28 :: a29 :: a30 :: a31 :: a32 :: a33 :: some v :: l) H := rfl
theorem e_v35 {a0 a1 a2 a3 a4 a5 a6 a7 a8 a9 a10 a11 a12 a13 a14 a15 a16 a17 a18 a19 a20 a21 a22 a23 a24 a25 a26 a27 a28 a29 a30 a31 a32 a33 a34 : Option V} {l : L2.St} : zVar 35 (a0 :: a1 :: a2 :: a3 :: a4 :: a5 :: a6 :: a7 :: a8 :: a9 :: a10 :: a11 :: a12 :: a13 :: a14 :: a15 :: a16 :: a17 :: a18 :: a19 :: a20 :: a21 :: a22 :: a23 :: a24 :: a25 :: a26 :: a27 :: a28 :: a29 :: a30 :: a31 :: a32 :: a33 :: a34 :: some v :: l) H Q = Q v H := rfl
theorem e_n35 {a0 a1 a2 a3 a4 a5 a6 a7 a8 a9 a10 a11 a12 a13 a14 a15 a16 a17 a18 a19 a20 a21 a22 a23 a24 a25 a26 a27 a28 a29 a30 a31 a32 a33 a34 : Option V} {l : L2.St} {w : Option V} : gName 35 v (a0 :: a1 :: a2 :: a3 :: a4 :: a5 :: a6 :: a7 :: a8 :: a9 :: a10 :: a11 :: a12 :: a13 :: a14 :: a15 :: a16 :: a17 :: a18 :: a19 :: a20 :: a21 :: a22 :: a23 :: a24 :: a25 :: a26 :: a27 :: a28 :: a29 :: a30 :: a31 :: a32 :: a33 :: a34 :: w :: l) H QS = QS (a0 :: a1 :: a2 :: a3 :: a4 :: a5 :: a6 :: a7 :: a8 :: a9 :: a10 :: a11 :: a12 :: a13 :: a14 :: a15 :: a16 :: a17 :: a18 :: a19 :: a20 :: a21 :: a22 :: a23 :: a24 :: a25 :: a26 :: a27 :: a28 :: a29 :: a30 :: a31 :: a32 :: a33 :: a34 :: some v :: l) H := rfl
theorem e_v36 {a0 a1 a2 a3 a4 a5 a6 a7 a8 a9 a10 a11 a12 a13 a14 a15 a16 a17 a18 a19 a20 a21 a22 a23 a24 a25 a26 a27 a28 a29 a30 a31 a32 a33 a34 a35 : Option V} {l : L2.St} : zVar 36 (a0 :: a1 :: a2 :: a3 :: a4 :: a5 :: a6 :: a7 :: a8 :: a9 :: a10 :: a11 :: a12 :: a13 :: a14 :: a15 :: a16 :: a17 :: a18 :: a19 :: a20 :: a21 :: a22 :: a23 :: a24 :: a25 :: a26 :: a27 :: a28 :: a29 :: a30 :: a31 :: a32 :: a33 :: a34 :: a35 :: some v :: l) H Q = Q v H := rfl
theorem e_n36 {a0 a1 a2 a3 a4 a5 a6 a7 a8 a9 a10 a11 a12 a13 a14 a15 a16 a17 a18 a19 a20 a21 a22 a23 a24 a25 a26 a27 a28 a29 a30 a31 a32 a33 a34 a35 : Option V} {l : L2.St} {w : Option V} : gName 36 v (a0 :: a1 :: a2 :: a3 :: a4 :: a5 :: a6 :: a7 :: a8 :: a9 :: a10 :: a11 :: a12 :: a13 :: a14 :: a15 :: a16 :: a17 :: a18 :: a19 :: a20 :: a21 :: a22 :: a23 :: a24 :: a25 :: a26 :: a27 :: a28 :: a29 :: a30 :: a31 :: a32 :: a33 :: a34 :: a35 :: w :: l) H QS = QS (a0 :: a1 :: a2 :: a3 :: a4 :: a5 :: a6 :: a7 :: a8 :: a9 :: a10 :: a11 :: a12 :: a13 :: a14 :: a15 :: a16 :: a17 :: a18 :: a19 :: a20 :: a21 :: a22 :: a23 :: a24 :: a25 :: a26 :: a27 :: a28 :: a29 :: a30 :: a31 :: a32 :: a33 :: a34 :: a35 :: some v :: l) H := rfl
theorem e_v37 {a0 a1 a2 a3 a4 a5 a6 a7 a8 a9 a10 a11 a12 a13 a14 a15 a16 a17 a18 a19 a20 a21 a22 a23 a24 a25 a26 a27 a28 a29 a30 a31 a32 a33 a34 a35 a36 : Option V} {l : L2.St} : zVar 37 (a0 :: a1 :: a2 :: a3 :: a4 :: a5 :: a6 :: a7 :: a8 :: a9 :: a10 :: a11 :: a12 :: a13 :: a14 :: a15 :: a16 :: a17 :: a18 :: a19 :: a20 :: a21 :: a22 :: a23 :: a24 :: a25 :: a26 :: a27 :: a28 :: a29 :: a30 :: a31 :: a32 :: a33 :: a34 :: a35 :: a36 :: some v :: l) H Q = Q v H := rfl
theorem e_n37 {a0 a1 a2 a3 a4 a5 a6 a7 a8 a9 a10 a11 a12 a13 a14 a15 a16 a17 a18 a19 a20 a21 a22 a23 a24 a25 a26 a27 a28 a29 a30 a31 a32 a33 a34 a35 a36 : Option V} {l : L2.St} {w : Option V} : gName 37 v (a0 :: a1 :: a2 :: a3 :: a4 :: a5 :: a6 :: a7 :: a8 :: a9 :: a10 :: a11 :: a12 :: a13 :: a14 :: a15 :: a16 :: a17 :: a18 :: a19 :: a20 :: a21 :: a22 :: a23 :: a24 :: a25 :: a26 :: a27 :: a28 :: a29 :: a30 :: a31 :: a32 :: a33 :: a34 :: a35 :: a36 :: w :: l) H QS = QS (a0 :: a1 :: a2 :: a3 :: a4 :: a5 :: a6 :: a7 :: a8 :: a9 :: a10 :: a11 :: a12 :: a13 :: a14 :: a15 :: a16 :: a17 :: a18 :: a19 :: a20 :: a21 :: a22 :: a23 :: a24 :: a25 :: a26 :: a27 :: a28 :: a29 :: a30 :: a31 :: a32 :: a33 :: a34 :: a35 :: a36 :: some v :: l) H := rfl
theorem e_v38 {a0 a1 a2 a3 a4 a5 a6 a7 a8 a9 a10 a11 a12 a13 a14 a15 a16 a17 a18 a19 a20 a21 a22 a23 a24 a25 a26 a27 a28 a29 a30 a31 a32 a33 a34 a35 a36 a37 : Option V} {l : L2.St} : zVar 38 (a0 :: a1 :: a2 :: a3 :: a4 :: a5 :: a6 :: a7 :: a8 :: a9 :: a10 :: a11 :: a12 :: a13 :: a14 :: a15 :: a16 :: a17 :: a18 :: a19 :: a20 :: a21 :: a22 :: a23 :: a24 :: a25 :: a26 :: a27 :: a28 :: a29 :: a30 :: a31 :: a32 :: a33 :: a34 :: a35 :: a36 :: a37 :: some v :: l) H Q = Q v H := rfl
theorem e_n38 {a0 a1 a2 a3 a4 a5 a6 a7 a8 a9 a10 a11 a12 a13 a14 a15 a16 a17 a18 a19 a20 a21 a22 a23 a24 a25 a26 a27 a28 a29 a30 a31 a32 a33 a34 a35 a36 a37 : Option V} {l : L2.St} {w : Option V} : gName 38 v (a0 :: a1 :: a2 :: a3 :: a4 :: a5 :: a6 :: a7 :: a8 :: a9 :: a10 :: a11 :: a12 :: a13 :: a14 :: a15 :: a16 :: a17 :: a18 :: a19 :: a20 :: a21 :: a22 :: a23 :: a24 :: a25 :: a26 :: a27 :: a28 :: a29 :: a30 :: a31 :: a32 :: a33 :: a34 :: a35 :: a36 :: a37 :: w :: l) H QS = QS (a0 :: a1 :: a2 :: a3 :: a4 :: a5 :: a6 :: a7 :: a8 :: a9 :: a10 :: a11 :: a12 :: a13 :: a14 :: a15 :: a16 :: a17 :: a18 :: a19 :: a20 :: a21 :: a22 :: a23 :: a24 :: a25 :: a26 :: a27 :: a28 :: a29 :: a30 :: a31 :: a32 :: a33 :: a34 :: a35 :: a36 :: a37 :: some v :: l) H := rfl
theorem e_v39 {a0 a1 a2 a3 a4 a5 a6 a7 a8 a9 a10 a11 a12 a13 a14 a15 a16 a17 a18 a19 a20 a21 a22 a23 a24 a25 a26 a27 a28 a29 a30 a31 a32 a33 a34 a35 a36 a37 a38 : Option V} {l : L2.St} : zVar 39 (a0 :: a1 :: a2 :: a3 :: a4 :: a5 :: a6 :: a7 :: a8 :: a9 :: a10 :: a11 :: a12 :: a13 :: a14 :: a15 :: a16 :: a17 :: a18 :: a19 :: a20 :: a21 :: a22 :: a23 :: a24 :: a25 :: a26 :: a27 :: a28 :: a29 :: a30 :: a31 :: a32 :: a33 :: a34 :: a35 :: a36 :: a37 :: a38 :: some v :: l) H Q = Q v H := rfl
theorem e_n39 {a0 a1 a2 a3 a4 a5 a6 a7 a8 a9 a10 a11 a12 a13 a14 a15 a16 a17 a18 a19 a20 a21 a22 a23 a24 a25 a26 a27 a28 a29 a30 a31 a32 a33 a34 a35 a36 a37 a38 : Option V} {l : L2.St} {w : Option V} : gName 39 v (a0 :: a1 :: a2 :: a3 :: a4 :: a5 :: a6 :: a7 :: a8 :: a9 :: a10 :: a11 :: a12 :: a13 :: a14 :: a15 :: a16 :: a17 :: a18 :: a19 :: a20 :: a21 :: a22 :: a23 :: a24 :: a25 :: a26 :: a27 :: a28 :: a29 :: a30 :: a31 :: a32 :: a33 :: a34 :: a35 :: a36 :: a37 :: a38 :: w :: l) H QS = QS (a0 :: a1 :: a2 :: a3 :: a4 :: a5 :: a6 :: a7 :: a8 :: a9 :: a10 :: a11 :: a12 :: a13 :: a14 :: a15 :: a16 :: a17 :: a18 :: a19 :: a20 :: a21 :: a22 :: a23 :: a24 :: a25 :: a26 :: a27 :: a28 :: a29 :: a30 :: a31 :: a32 :: a33 :: a34 :: a35 :: a36 :: a37 :: a38 :: some v :: l) H := rfl
theorem e_c : tC v σ H Q = Q v H := rfl
theorem e_op : tOp r ta tb σ H Q = ta σ H fun x H1 => tb σ H1 fun y H2 => r x y H2 Q := rfl
theorem e_un {r : V → Hp → VK → Prop} : tUn r ta σ H Q = ta σ H fun x H1 => r x H1 Q := rfl
theorem e_nil : tNil σ H QA = QA [] H := rfl
theorem e_cons : tCons te tr σ H QA = te σ H fun x H1 => tr σ H1 fun xs H2 => QA (x :: xs) H2 := rfl
theorem e_tup : tTup tA σ H Q = tA σ H fun xs H1 => xs.length ≤ sizeLine ∧ ∀ p, H1 p = none → Q (.ref p) (upd H1 p (.tup xs)) := rfl
theorem e_lst : tLst tA σ H Q = tA σ H fun xs H1 => xs.length ≤ sizeLine ∧ ∀ p, H1 p = none → Q (.ref p) (upd H1 p (.lst xs)) := rfl
theorem e_cb {r : List V → Hp → VK → Prop} : tCB r tA σ H Q = tA σ H fun vs H1 => r vs H1 Q := rfl
theorem e_call {sp : Sp} {E : L2.St → XK} : tCallS sp E tA σ H Q = tA σ H fun vs H1 => sp vs H1 Q (E σ) := rfl
theorem e_bm {T : String} {r : V → List V → Hp → VK → Prop} : tBM K T r te tA σ H Q = te σ H fun x H1 => tyV K T x H1 ∧ tA σ H1 fun xs H2 => r x xs H2 Q := rfl
theorem e_bm0 {T : String} {r : V → List V → Hp → VK → Prop} : tBM0 K T r te σ H Q = te σ H fun x H1 => tyV K T x H1 ∧ r x [] H1 Q := rfl
theorem e_sl {r : V → Option Int → Option Int → Hp → VK → Prop} {tl th : TO} : tSl r te tl th σ H Q = te σ H fun x H1 => tl σ H1 fun l H2 => th σ H2 fun u H3 => r x l u H3 Q := rfl
theorem e_nopart : tNoPart σ H QO = QO none H := rfl
theorem e_part : tPart te σ H QO = te σ H fun x H1 => ∃ i, x = .int i ∧ QO (some i) H1 := rfl
theorem e_chain {r' : R2} : tChain r r' ta tb tc σ H Q = ta σ H fun x H1 => tb σ H1 fun y H2 => r x y H2 fun z H3 => ∃ k, z = .bl k ∧ (if k = true then tc σ H3 fun w' H4 => r' y w' H4 Q else Q (.bl false) H3) := rfl
theorem e_ifE : tIf c ta tb σ H Q = c σ H fun b H1 => if b = true then ta σ H1 Q else tb σ H1 Q := rfl
theorem e_notT : tNotT K ta σ H Q = ta σ H fun x H1 => ∃ k, TruV K x H1 k ∧ Q (.bl (!k)) H1 := rfl
theorem e_andT : tAndT K ta tb σ H Q = ta σ H fun x H1 => ∃ k, TruV K x H1 k ∧ if k = true then tb σ H1 Q else Q x H1 := rfl
theorem e_orT : tOrT K ta tb σ H Q = ta σ H fun x H1 => ∃ k, TruV K x H1 k ∧ if k = true then Q x H1 else tb σ H1 Q := rfl
theorem e_test : tTest te σ H QB = te σ H fun x H' => ∃ k, x = .bl k ∧ QB k H' := rfl
theorem e_tru : zTru K te σ H QB = te σ H fun x H' => ∃ k, TruV K x H' k ∧ QB k H' := rfl
theorem e_not : tNot c σ H QB = c σ H fun b H1 => QB (!b) H1 := rfl
theorem e_and : tAnd c d σ H QB = c σ H fun b H1 => if b = true then d σ H1 QB else QB false H1 := rfl
theorem e_or : tOr c d σ H QB = c σ H fun b H1 => if b = true then QB true H1 else d σ H1 QB := rfl
theorem e_bl {b : Bool} {P : Bool → Prop} : (∃ k, V.bl b = .bl k ∧ P k) = P b := propext ⟨fun ⟨k, e, p⟩ => by cases e; exact p, fun p => ⟨b, rfl, p⟩⟩
theorem e_int {i : Int} {P : Int → Prop} : (∃ k, V.int i = .int k ∧ P k) = P i := propext ⟨fun ⟨k, e, p⟩ => by cases e; exact p, fun p => ⟨i, rfl, p⟩⟩
theorem e_truB {b : Bool} {P : Bool → Prop} : (∃ k, TruV K (.bl b) H k ∧ P k) = P b := propext ⟨fun ⟨k, e, p⟩ => by have e : k = b := e; subst e; exact p, fun p => ⟨b, rfl, p⟩⟩
theorem e_truI {i : Int} {P : Bool → Prop} : (∃ k, TruV K (.int i) H k ∧ P k) = P (i != 0) := propext ⟨fun ⟨k, e, p⟩ => by have e : k = (i != 0) := e; subst e; exact p, fun p => ⟨_, rfl, p⟩⟩
theorem e_truN {P : Bool → Prop} : (∃ k, TruV K .non H k ∧ P k) = P false := propext ⟨fun ⟨k, e, p⟩ => by have e : k = false := e; subst e; exact p, fun p => ⟨_, rfl, p⟩⟩
theorem o_addI {i j : Int} : zAdd K (.int i) (.int j) H Q = Q (.int (i + j)) H := rfl
theorem o_addS {a b : Str} : zAdd K (.str a) (.str b) H Q = (a.length + b.length ≤ sizeLine ∧ Q (.str (a ++ b)) H) := rfl
theorem o_subI {i j : Int} : zSub (.int i) (.int j) H Q = Q (.int (i - j)) H := rfl
theorem o_mulI {i j : Int} : zMul (.int i) (.int j) H Q = (CMulB i j ∧ Q (.int (i * j)) H) := rfl
theorem o_divI {i j : Int} : zDiv (.int i) (.int j) H Q = (CDivW i j ∧ Q (.int (i / j)) H) := rfl
theorem o_modI {i j : Int} : zMod (.int i) (.int j) H Q = (0 < j ∧ Q (.int (i % j)) H) := rfl
theorem o_powI {i j : Int} : zPow (.int i) (.int j) H Q = (CPow i j ∧ Q (.int (i ^ j.toNat)) H) := rfl
theorem o_neg {i : Int} : rU (fun i => .int (-i)) (.int i) H Q = Q (.int (-i)) H := propext ⟨fun ⟨k, e, p⟩ => by cases e; exact p, fun p => ⟨i, rfl, p⟩⟩
theorem o_eqNN : zEq K .non .non H Q = Q (.bl true) H := rfl
theorem o_eqI {i j : Int} : zEq K (.int i) (.int j) H Q = Q (.bl (decide (i = j))) H := rfl
theorem o_eqS {i j : Str} : zEq K (.str i) (.str j) H Q = Q (.bl (decide (i = j))) H := rfl
theorem o_eqB {i j : Bool} : zEq K (.bl i) (.bl j) H Q = Q (.bl (decide (i = j))) H := rfl
theorem o_eqNI {i : Int} : zEq K .non (.int i) H Q = Q (.bl false) H := rfl
theorem o_eqIN {i : Int} : zEq K (.int i) .non H Q = Q (.bl false) H := rfl
theorem o_eqNS {s : Str} : zEq K .non (.str s) H Q = Q (.bl false) H := rfl
theorem o_eqSN {s : Str} : zEq K (.str s) .non H Q = Q (.bl false) H := rfl
theorem o_eqNB {b : Bool} : zEq K .non (.bl b) H Q = Q (.bl false) H := rfl
theorem o_eqBN {b : Bool} : zEq K (.bl b) .non H Q = Q (.bl false) H := rfl
theorem o_eqIS {i : Int} {s : Str} : zEq K (.int i) (.str s) H Q = Q (.bl false) H := rfl
theorem o_eqSI {s : Str} {i : Int} : zEq K (.str s) (.int i) H Q = Q (.bl false) H := rfl
theorem o_eqBS {b : Bool} {s : Str} : zEq K (.bl b) (.str s) H Q = Q (.bl false) H := rfl
theorem o_eqSB {s : Str} {b : Bool} : zEq K (.str s) (.bl b) H Q = Q (.bl false) H := rfl
theorem o_neNN : zNe K .non .non H Q = Q (.bl false) H := rfl
theorem o_neI {i j : Int} : zNe K (.int i) (.int j) H Q = Q (.bl (!decide (i = j))) H := rfl
theorem o_neS {i j : Str} : zNe K (.str i) (.str j) H Q = Q (.bl (!decide (i = j))) H := rfl
theorem o_neB {i j : Bool} : zNe K (.bl i) (.bl j) H Q = Q (.bl (!decide (i = j))) H := rfl
theorem o_neNI {i : Int} : zNe K .non (.int i) H Q = Q (.bl true) H := rfl
theorem o_neIN {i : Int} : zNe K (.int i) .non H Q = Q (.bl true) H := rfl
theorem o_neNS {s : Str} : zNe K .non (.str s) H Q = Q (.bl true) H := rfl
theorem o_neSN {s : Str} : zNe K (.str s) .non H Q = Q (.bl true) H := rfl
theorem o_neNB {b : Bool} : zNe K .non (.bl b) H Q = Q (.bl true) H := rfl
theorem o_neBN {b : Bool} : zNe K (.bl b) .non H Q = Q (.bl true) H := rfl
theorem o_neIS {i : Int} {s : Str} : zNe K (.int i) (.str s) H Q = Q (.bl true) H := rfl
theorem o_neSI {s : Str} {i : Int} : zNe K (.str s) (.int i) H Q = Q (.bl true) H := rfl
theorem o_neBS {b : Bool} {s : Str} : zNe K (.bl b) (.str s) H Q = Q (.bl true) H := rfl
theorem o_neSB {s : Str} {b : Bool} : zNe K (.str s) (.bl b) H Q = Q (.bl true) H := rfl
theorem o_ltI {i j : Int} : zLt K (.int i) (.int j) H Q = Q (.bl (decide (i < j))) H := rfl
theorem o_ltS {i j : Str} : zLt K (.str i) (.str j) H Q = Q (.bl (decide (i.cps.toList < j.cps.toList))) H := rfl
theorem o_leI {i j : Int} : zLe (.int i) (.int j) H Q = Q (.bl (decide (i ≤ j))) H := rfl
theorem o_gtI {i j : Int} : zGt (.int i) (.int j) H Q = Q (.bl (decide (j < i))) H := rfl
theorem o_geI {i j : Int} : zGe (.int i) (.int j) H Q = Q (.bl (decide (j ≤ i))) H := rfl
theorem o_isN : zIs .non .non H Q = Q (.bl true) H := rfl
theorem o_isI {i : Int} : zIs (.int i) .non H Q = Q (.bl false) H := rfl
theorem o_isS {i : Str} : zIs (.str i) .non H Q = Q (.bl false) H := rfl
theorem o_isB {i : Bool} : zIs (.bl i) .non H Q = Q (.bl false) H := rfl
theorem o_isR {i : Addr} : zIs (.ref i) .non H Q = Q (.bl false) H := rfl
theorem o_isBB {i j : Bool} : zIs (.bl i) (.bl j) H Q = Q (.bl (decide (i = j))) H := rfl
theorem o_isnN : zIsNot .non .non H Q = Q (.bl false) H := rfl
theorem o_isnI {i : Int} : zIsNot (.int i) .non H Q = Q (.bl true) H := rfl
theorem o_isnS {i : Str} : zIsNot (.str i) .non H Q = Q (.bl true) H := rfl
theorem o_isnB {i : Bool} : zIsNot (.bl i) .non H Q = Q (.bl true) H := rfl
theorem o_isnR {i : Addr} : zIsNot (.ref i) .non H Q = Q (.bl true) H := rfl
theorem o_isnBB {i j : Bool} : zIsNot (.bl i) (.bl j) H Q = Q (.bl (!decide (i = j))) H := rfl
/-! statements -/
variable {nx bk ct : L2.St → Hp → Prop}
theorem x_seq (q : t ⟨u ⟨nx, Q, bk, ct⟩, Q, bk, ct⟩ σ H) : tSeq t u ⟨nx, Q, bk, ct⟩ σ H := q
theorem x_asg (q : te σ H fun x H1 => g x σ H1 nx) : tAsg te g ⟨nx, Q, bk, ct⟩ σ H := q
theorem x_ret (q : te σ H Q) : tRet te ⟨nx, Q, bk, ct⟩ σ H := q
theorem x_retN (q : Q .non H) : tRetN ⟨nx, Q, bk, ct⟩ σ H := q
theorem x_drop (q : te σ H fun _ H1 => nx σ H1) : tDrop te ⟨nx, Q, bk, ct⟩ σ H := q
theorem x_if (q : c σ H fun b H1 => if b = true then t ⟨nx, Q, bk, ct⟩ σ H1 else u ⟨nx, Q, bk, ct⟩ σ H1) : tIfS c t u ⟨nx, Q, bk, ct⟩ σ H := q
theorem x_next (q : nx σ H) : tNext ⟨nx, Q, bk, ct⟩ σ H := q
theorem x_brk (q : bk σ H) : tBreak ⟨nx, Q, bk, ct⟩ σ H := q
theorem x_cont (q : ct σ H) : tCont ⟨nx, Q, bk, ct⟩ σ H := q
theorem x_for {wi : TI} (q : wi σ H fun J H1 => ∃ W : Nat → Nat → L2.St → Hp → Prop, (∃ m, W 0 m σ H1) ∧ ∀ i m σ H, W i m σ H →
    (J.stop i H ∧ nx σ H) ∨ (J.go i H ∧ ∃ N : L2.St → Hp → Prop, (∀ σ' H', N σ' H' → ∃ m', m' < m ∧ W (i + 1) m' σ' H') ∧ ∀ x H', J.yld i H x H' → g x σ H' fun σ2 H2 => t ⟨N, Q, nx, N⟩ σ2 H2)) : tFor wi g t ⟨nx, Q, bk, ct⟩ σ H := q
variable {QI : It → Hp → Prop}
theorem e_iR1 : iRng1 tA σ H QI = tA σ H fun vs H1 => ∃ j : Int, vs = [.int j] ∧ -(2 ^ 62) ≤ j ∧ j < 2 ^ 62 ∧ QI (Itr 0 j.toNat) H1 := rfl
theorem e_intL {i : Int} {P : Int → Prop} : (∃ k, [V.int i] = [V.int k] ∧ P k) = P i := propext ⟨fun ⟨k, e, p⟩ => by cases e; exact p, fun p => ⟨i, rfl, p⟩⟩
theorem e_iL : iList K te σ H QI = te σ H fun x H1 => ∃ a, x = .ref a ∧ (∃ xs, SqL K H1 a xs) ∧ QI (Itl K a) H1 := rfl
theorem e_iT : iTup K te σ H QI = te σ H fun x H1 => ∃ a, x = .ref a ∧ (∃ xs, SqT K H1 a xs) ∧ QI (Itt K a) H1 := rfl
theorem e_iS : iStr te σ H QI = te σ H fun v H1 => ∃ x, v = .str x ∧ QI (Its x) H1 := rfl
theorem e_ref {a : Addr} {P : Addr → Prop} : (∃ a', V.ref a = .ref a' ∧ P a') = P a := propext ⟨fun ⟨k, e, p⟩ => by cases e; exact p, fun p => ⟨a, rfl, p⟩⟩
theorem e_strx {a : Str} {P : Str → Prop} : (∃ a', V.str a = .str a' ∧ P a') = P a := propext ⟨fun ⟨k, e, p⟩ => by cases e; exact p, fun p => ⟨a, rfl, p⟩⟩
/-- for over range(n), behind the count -/
theorem x_range {n : Nat} (Pv : Nat → L2.St → Hp → Prop) (h0 : Pv 0 σ H)
    (hs : ∀ (i : Nat) σ' H', i < n → Pv i σ' H' → g (.int (i : Int)) σ' H' fun σ2 H2 => t ⟨Pv (i + 1), Q, nx, Pv (i + 1)⟩ σ2 H2) (hd : ∀ σ' H', Pv n σ' H' → nx σ' H') :
    ∃ W : Nat → Nat → L2.St → Hp → Prop, (∃ m, W 0 m σ H) ∧ ∀ i m σ H, W i m σ H →
    ((Itr 0 n).stop i H ∧ nx σ H) ∨ ((Itr 0 n).go i H ∧ ∃ N : L2.St → Hp → Prop, (∀ σ' H', N σ' H' → ∃ m', m' < m ∧ W (i + 1) m' σ' H') ∧ ∀ x H', (Itr 0 n).yld i H x H' → g x σ H' fun σ2 H2 => t ⟨N, Q, nx, N⟩ σ2 H2) :=
  for_range (lo := 0) (n := n) (D := ⟨nx, Q, nx, nx⟩) Pv h0 (fun i σ' H' hi p => by
    have e0 : (0 : Int) + (i : Int) = (i : Int) := Int.zero_add _
    rw [e0]
    exact hs i σ' H' hi p) hd
theorem x_list {a : Addr} {xs : List V} (Pv : Nat → L2.St → Hp → Prop) (h0 : Pv 0 σ H) (hl : ∀ i σ H, i ≤ xs.length → Pv i σ H → SqL K H a xs)
    (hs : ∀ (i : Nat) x σ' H', xs[i]? = some x → Pv i σ' H' → g x σ' H' fun σ2 H2 => t ⟨Pv (i + 1), Q, nx, Pv (i + 1)⟩ σ2 H2) (hd : ∀ σ' H', Pv xs.length σ' H' → nx σ' H') :
    ∃ W : Nat → Nat → L2.St → Hp → Prop, (∃ m, W 0 m σ H) ∧ ∀ i m σ H, W i m σ H →
    ((Itl K a).stop i H ∧ nx σ H) ∨ ((Itl K a).go i H ∧ ∃ N : L2.St → Hp → Prop, (∀ σ' H', N σ' H' → ∃ m', m' < m ∧ W (i + 1) m' σ' H') ∧ ∀ x H', (Itl K a).yld i H x H' → g x σ H' fun σ2 H2 => t ⟨N, Q, nx, N⟩ σ2 H2) :=
  for_list (D := ⟨nx, Q, nx, nx⟩) Pv h0 hl hs hd
theorem x_tuple {a : Addr} {xs : List V} (Pv : Nat → L2.St → Hp → Prop) (h0 : Pv 0 σ H) (hl : ∀ i σ H, i ≤ xs.length → Pv i σ H → SqT K H a xs)
    (hs : ∀ (i : Nat) x σ' H', xs[i]? = some x → Pv i σ' H' → g x σ' H' fun σ2 H2 => t ⟨Pv (i + 1), Q, nx, Pv (i + 1)⟩ σ2 H2) (hd : ∀ σ' H', Pv xs.length σ' H' → nx σ' H') :
    ∃ W : Nat → Nat → L2.St → Hp → Prop, (∃ m, W 0 m σ H) ∧ ∀ i m σ H, W i m σ H →
    ((Itt K a).stop i H ∧ nx σ H) ∨ ((Itt K a).go i H ∧ ∃ N : L2.St → Hp → Prop, (∀ σ' H', N σ' H' → ∃ m', m' < m ∧ W (i + 1) m' σ' H') ∧ ∀ x H', (Itt K a).yld i H x H' → g x σ H' fun σ2 H2 => t ⟨N, Q, nx, N⟩ σ2 H2) :=
  for_tup (D := ⟨nx, Q, nx, nx⟩) Pv h0 hl hs hd
/-! items, slices, len, in -/
theorem x_ixL {p : Addr} {xs : List V} {i : Int} (h : SqL K H p xs) (a : atI xs i = some v) (q : Q v H) : zIx K (.ref p) (.int i) H Q := .inl (.inl ⟨p, xs, i, v, rfl, rfl, h, a, q⟩)
theorem x_ixT {p : Addr} {xs : List V} {i : Int} (h : SqT K H p xs) (a : atI xs i = some v) (q : Q v H) : zIx K (.ref p) (.int i) H Q := .inl (.inr (.inl ⟨p, xs, i, v, rfl, rfl, h, a, q⟩))
theorem x_ixS {z : Str} {i : Int} {c : Nat} (h : z.length ≤ sizeLine) (a : atI z.cps.toList i = some c) (q : Q (.str ⟨#[c]⟩) H) : zIx K (.str z) (.int i) H Q := .inl (.inr (.inr ⟨z, i, c, rfl, rfl, h, a, q⟩))
theorem x_ixD {p : Addr} (h : DGet H p y (some v)) (q : Q v H) : zIx K (.ref p) y H Q := .inr ⟨p, v, rfl, h, q⟩
theorem x_slL {p : Addr} {xs : List V} {lo hi : Option Int} (h : SqL K H p xs) (q : ∀ p, H p = none → Q (.ref p) (upd H p (.lst (cutV xs lo hi)))) : zSl K (.ref p) lo hi H Q := .inl ⟨p, xs, rfl, h, q⟩
theorem x_slS {z : Str} {lo hi : Option Int} (h : z.length ≤ sizeLine) (q : Q (.str (cutS z lo hi)) H) : zSl K (.str z) lo hi H Q := .inr (.inr ⟨z, rfl, h, q⟩)
theorem x_lenL {p : Addr} {xs : List V} (h : SqL K H p xs) (q : Q (.int (xs.length : Int)) H) : zLen K [.ref p] H Q := .inl ⟨_, _, rfl, .inl ⟨xs, h, rfl⟩, q⟩
theorem x_lenT {p : Addr} {xs : List V} (h : SqT K H p xs) (q : Q (.int (xs.length : Int)) H) : zLen K [.ref p] H Q := .inl ⟨_, _, rfl, .inr ⟨xs, h, rfl⟩, q⟩
theorem x_lenS {z : Str} (h : z.length ≤ sizeLine) (q : Q (.int (z.length : Int)) H) : zLen K [.str z] H Q := .inl ⟨_, _, rfl, ⟨h, rfl⟩, q⟩
theorem x_lenD {p : Addr} {kvs : List (Key × V)} (h : H p = some (.dK kvs)) (q : Q (.int (kvs.length : Int)) H) : zLen K [.ref p] H Q := .inr ⟨_, _, rfl, h, q⟩
theorem x_app {p : Addr} {xs : List V} (h : H p = some (.lst xs)) (l : xs.length < sizeLine) (q : Q .non (upd H p (.lst (xs ++ [v])))) : tyV K "list" (.ref p) H ∧ rAppend (.ref p) [v] H Q := ⟨.inl ⟨rfl, xs, SqL.of h⟩, p, xs, v, rfl, rfl, h, l, q⟩
theorem x_appT {p : Addr} {xs : List V} (h : H p = some (.lst xs)) : tyV K "list" (.ref p) H := .inl ⟨rfl, xs, SqL.of h⟩
theorem x_addL {a b : Addr} {xs ys : List V} (h1 : H a = some (.lst xs)) (h2 : H b = some (.lst ys)) (h : xs.length + ys.length ≤ sizeLine) (q : ∀ p, H p = none → Q (.ref p) (upd H p (.lst (xs ++ ys)))) : zAdd K (.ref a) (.ref b) H Q :=
  .inl ⟨a, b, xs, ys, rfl, rfl, h1, h2, h, q⟩
theorem x_eqD {G : Hp} {d e : PyData} {a b : Addr} (s : Same G H) (h1 : Rp K G (.ref a) d) (h2 : Rp K G (.ref b) e) (s1 : SeqAt.shaped d = true) (s2 : SeqAt.shaped e = true) (q : Q (.bl (PyData.eqv d e)) H) : zEq K (.ref a) (.ref b) H Q :=
  ⟨d, e, (h1.up s).dp, (h2.up s).dp, s1, s2, q⟩
theorem x_neD {G : Hp} {d e : PyData} {a b : Addr} (s : Same G H) (h1 : Rp K G (.ref a) d) (h2 : Rp K G (.ref b) e) (s1 : SeqAt.shaped d = true) (s2 : SeqAt.shaped e = true) (q : Q (.bl (!PyData.eqv d e)) H) : zNe K (.ref a) (.ref b) H Q :=
  ⟨d, e, (h1.up s).dp, (h2.up s).dp, s1, s2, q⟩
theorem x_memS {c : Nat} {z : Str} (q : Q (.bl (decide (c ∈ z.cps.toList))) H) : zIn K (.str ⟨#[c]⟩) (.str z) H Q := .inl (.inl ⟨c, z, rfl, rfl, q⟩)
theorem x_nmemS {c : Nat} {z : Str} (q : Q (.bl (!decide (c ∈ z.cps.toList))) H) : zNotIn K (.str ⟨#[c]⟩) (.str z) H Q := .inl (.inl ⟨c, z, rfl, rfl, q⟩)
theorem x_memT {p : Addr} {xs : List V} (h : SqT K H p xs) (f : flatV x = true) (fs : xs.all flatV = true) (q : Q (.bl (inV x xs)) H) : zIn K x (.ref p) H Q := .inl (.inr ⟨p, xs, rfl, .inr h, f, fs, q⟩)
theorem x_memL {p : Addr} {xs : List V} (h : SqL K H p xs) (f : flatV x = true) (fs : xs.all flatV = true) (q : Q (.bl (inV x xs)) H) : zIn K x (.ref p) H Q := .inl (.inr ⟨p, xs, rfl, .inl h, f, fs, q⟩)
theorem x_nmemT {p : Addr} {xs : List V} (h : SqT K H p xs) (f : flatV x = true) (fs : xs.all flatV = true) (q : Q (.bl (!inV x xs)) H) : zNotIn K x (.ref p) H Q := .inl (.inr ⟨p, xs, rfl, .inr h, f, fs, q⟩)
theorem x_nmemL {p : Addr} {xs : List V} (h : SqL K H p xs) (f : flatV x = true) (fs : xs.all flatV = true) (q : Q (.bl (!inV x xs)) H) : zNotIn K x (.ref p) H Q := .inl (.inr ⟨p, xs, rfl, .inl h, f, fs, q⟩)
/-! ifs -/
theorem x_br {p : Prop} {_ : Decidable p} {A B : Prop} (h1 : p → A) (h2 : ¬ p → B) : if decide p = true then A else B := by
  by_cases h : p
  · rw [decide_eq_true h, if_pos rfl]; exact h1 h
  · rw [decide_eq_false h, if_neg (by decide)]; exact h2 h
theorem x_nbr {p : Prop} {_ : Decidable p} {A B : Prop} (h1 : ¬ p → A) (h2 : p → B) : if (!decide p) = true then A else B := by
  by_cases h : p
  · rw [decide_eq_true h]; exact h2 h
  · rw [decide_eq_false h]; exact h1 h
theorem x_brB {b : Bool} {A B : Prop} (h1 : b = true → A) (h2 : b = false → B) : if b = true then A else B := by
  cases b with
  | true => exact h1 rfl
  | false => exact h2 rfl
theorem e_yes {A B : Prop} : (if true = true then A else B) = A := if_pos rfl
theorem e_yesT {A B : Prop} : (if True then A else B) = A := if_pos True.intro
theorem e_noF {A B : Prop} : (if False then A else B) = B := if_neg (fun h => h)
theorem e_no {A B : Prop} : (if false = true then A else B) = B := if_neg (by decide)
theorem cdiv {i j : Int} (h : 0 < j) (h2 : j.natAbs < 2 ^ 64) : CDivW i j := wide_div h h2 (by decide) (by decide)
theorem cmul {i j : Int} (h1 : i.natAbs < 2 ^ 64) (h2 : j.natAbs < 2 ^ 64) : CMulB i j := by
  have a := PySem.Flt.log2_lt_of (by decide : 0 < 64) h1
  have b := PySem.Flt.log2_lt_of (by decide : 0 < 64) h2
  unfold CMulB
  omega
end
end Z
/-! Zc: fields; calls of own defs, methods and classes where what is raised is wished for at the caller's slots. -/
namespace Z
open PySem PySem.Spec PyProof.Rows L2
abbrev WD (E : XK) : WX := fun cls d _ H => E cls d H
abbrev W0 : WX := fun _ _ _ _ => False
/-- where an instance of one of the classes stands -/
structure FldOk (K : PySem.W.Frag) (Cs : List Addr) (f : Str) : Prop where
  cl : ∀ C ∈ Cs, Cls K C
  no : ∀ C ∈ Cs, NoAttr K C f
theorem FldOk.nil {K : PySem.W.Frag} {f : Str} : FldOk K [] f := ⟨(fun c h => nomatch h), (fun c h => nomatch h)⟩
theorem FldOk.cons {K : PySem.W.Frag} {C : Addr} {Cs : List Addr} {f : Str} (h1 : Cls K C) (h2 : NoAttr K C f) (r : FldOk K Cs f) : FldOk K (C :: Cs) f :=
  ⟨fun c h => (List.mem_cons.mp h).elim (fun e => by rw [e]; exact h1) (r.cl c), fun c h => (List.mem_cons.mp h).elim (fun e => by rw [e]; exact h2) (r.no c)⟩
def zFldV (Cs : List Addr) (f : Str) (x : V) (H1 : Hp) (Q : VK) : Prop := ∃ a C dx fs v, x = .ref a ∧ C ∈ Cs ∧ H1 a = some (.ins C dx fs) ∧ fs.lookup f = some v ∧ Q v H1
def zFld (Cs : List Addr) (f : Str) (ta : TE) : TE := fun σ H Q => ta σ H fun x H1 => zFldV Cs f x H1 Q
def zSetF (Cs : List Addr) (f : Str) (ta tv : TE) : TS := fun D σ H => tv σ H fun y H1 => ta σ H1 fun x H2 => ∃ a C dx fs, x = .ref a ∧ C ∈ Cs ∧ H2 a = some (.ins C dx fs) ∧ fs.length < 1000 ∧ D.nx σ (upd H2 a (.ins C dx (putF f y fs)))
def zAugF (Cs : List Addr) (f : Str) (rd : V → V → Hp → VK → Prop) (ta tv : TE) : TS := fun D σ H => ta σ H fun x H1 => ∃ a C dx fs v, x = .ref a ∧ C ∈ Cs ∧ H1 a = some (.ins C dx fs) ∧ fs.lookup f = some v ∧
  tv σ H1 fun y H2 => rd v y H2 fun z H3 => ∃ dx' fs', H3 a = some (.ins C dx' fs') ∧ fs'.length < 1000 ∧ D.nx σ (upd H3 a (.ins C dx' (putF f z fs')))
def zMethV (C : Addr) (m : Str) (x : V) (H1 : Hp) (P : Prop) : Prop := ∃ a dx fs, x = .ref a ∧ H1 a = some (.ins C dx fs) ∧ fs.lookup m = none ∧ P
def zMeth (C : Addr) (m : Str) (sp : Sp) (E : L2.St → XK) (ta : TE) (t : TA) : TE := fun σ H Q => ta σ H fun x H1 => zMethV C m x H1 (t σ H1 fun vs H2 => sp (x :: vs) H2 Q (E σ))
def zMake (C : Addr) (sp : Sp) (E : L2.St → XK) (t : TA) : TE := fun σ H Q => t σ H fun vs H1 => ∀ x dx, H1 x = none → H1 dx = none → dx ≠ x →
  sp (.ref x :: vs) (upd (upd H1 dx (.own x)) x (.ins C dx [])) (fun v H2 => v = .non ∧ Q (.ref x) H2) (E σ)
section
variable {X : Cx} {k : Nat} {f C : Addr} {fd : FuncData} {ps : List Str} {sp : Sp} {W : WX} {x m n : Str} {p pos apos pos' tpos : Pos} {e o value : Expr} {es : List Expr} {ta tv te : TE} {t : TA} {Cs : List Addr}
theorem PE.or {e : Expr} {t1 t2 : TE} (h1 : PE X e t1) (h2 : PE X e t2) : PE X e (fun σ H Q => t1 σ H Q ∨ t2 σ H Q) := ⟨fun pins s σ H Q I q => q.elim (h1.run pins s σ H Q I) (h2.run pins s σ H Q I)⟩
theorem pe_fldZ (h : FldOk X.K Cs n) (he : PE X e ta) (hb : attributeBase e n X.env (eval e X.env) = eval e X.env := by rfl) : PE X (.Attribute e n pos) (zFld Cs n ta) := by
  refine ⟨fun pins s σ H Q I q => ?_⟩
  refine attr_of hb (thn (he.run pins s σ H _ I q) fun u s1 ⟨x, H1, I1, rx, a, C, dx, fs, v, ex, hc, ea, l, q⟩ => ?_)
  subst ex
  obtain rfl : u = Value.ref a := rx
  exact getattr_ok I1 ea (h.cl C hc) (h.no C hc) l fun u' s2 I2 ru => ⟨v, H1, I2, ru, q⟩
theorem ps_fldZ (h : FldOk X.K Cs n) (ha : PE X o ta) (hv : PE X value tv) (hs : swapsWith value (some (.Attribute o n pos')) pos.line X.env = pure false := by rfl) : PS X (.Assign [.Attribute o n pos'] value pos) (zSetF Cs n ta tv) := by
  refine ⟨fun pins s σ H D I q => ?_⟩
  refine plainObj_wpAny_Assign_Attribute (thn (hv.run pins s σ H _ I q) fun u s1 ⟨y, H1, I1, ry, q⟩ => thn (ha.run pins s1 σ H1 _ I1 q) fun ov s2 ⟨x, H2, I2, rx, a, C, dx, fs, ex, hc, ea, l, q2⟩ => ?_) hs
  subst ex
  obtain rfl : ov = Value.ref a := rx
  exact setattr_ok I2 ea (h.cl C hc) (h.no C hc) l ry fun s3 I3 => ⟨σ, _, I3, q2⟩
theorem ps_augZ {op : Operator} {rd : V → V → Hp → VK → Prop} (h : FldOk X.K Cs n) (hop : InOp X op rd) (ha : PE X o ta) (hv : PE X value tv) : PS X (.AugAssign (.Attribute o n tpos) op value pos) (zAugF Cs n rd ta tv) := by
  refine ⟨fun pins s σ H D I q => ?_⟩
  refine wpAny_AugAssign_AttributeAny (thn (ha.run pins s σ H _ I q) fun ov s1 ⟨x, H1, I1, rx, a, C, dx, fs, v, ex, hc, ea, l, q⟩ => ?_)
  subst ex
  obtain rfl : ov = Value.ref a := rx
  refine getattr_ok I1 ea (h.cl C hc) (h.no C hc) l fun u s2 I2 ru => thn (hv.run pins s2 σ H1 _ I2 q) fun w3 s3 ⟨y, H2, I3, ry, q3⟩ => thn (hop pins s3 σ H2 v y u w3 _ I3 ru ry q3) fun w4 s4 ⟨z, H3, I4, rz, dx', fs', ea', l', q4⟩ => ?_
  exact setattr_ok I4 ea' (h.cl C hc) (h.no C hc) l' rz fun s5 I5 => ⟨σ, _, I5, q4⟩
theorem pe_call0S {E : L2.St → XK} (F : FnOk X.prog X.w X.K X.mg X.base (L2.CX X.prog X.w) k f fd ps sp) (hr : Room k X.A) (hg : Gl X x) (hm : X.mg x = some (.ref f)) (hk : PySem.W.keepIn X.K (.ref f) = true) (hb : Binds X.K fd ps []) (hx : ∀ σ, PassesAt (L2.CX X.prog X.w) X σ (E σ))
    (hdb : (x == ("__debug__" : Str)) = false := by decide) : PE X (.Call (.Name x p) [] [] pos) (tCallS sp E tNil) := by
  refine ⟨fun pins s σ H Q I h => ?_⟩
  refine wpAny_Call_Name_kw (ld_glob I hg hm ?_ hdb)
  exact PySem.W.callWith_K0 I.kIn hk (run_fnS (us := []) F hr hb (hx σ) I .nil h)
theorem pe_methS {pl : Sem Bool} {E : L2.St → XK} (he : PE X o ta) (c : Cls X.K C) (hm : Meth X.K C m f) (F : FnOk X.prog X.w X.K X.mg X.base (L2.CX X.prog X.w) k f fd ps sp) (hr : Room k X.A) (hb : Binds X.K fd ps []) (hx : ∀ σ, PassesAt (L2.CX X.prog X.w) X σ (E σ)) (ha : PA X (e :: es) t)
    (hst : starEach (e :: es) X.env = (false, eval e X.env) :: starEach es X.env := by rfl) (hpl : (backTo pos (starEach es X.env)).any (·.1) = false := by rfl)
    (ht : eval (.Call (.Attribute o m apos) (e :: es) [] pos) X.env = (do
      let ov ← eval o X.env
      standAt apos.atName
      let (f, first) ← holding [ov] (getMethod ov m pl)
      callWith pos f first (backTo pos (starEach (e :: es) X.env)) (backToKw pos (keywordEach [] X.env))) := by rfl) :
    PE X (.Call (.Attribute o m apos) (e :: es) [] pos) (zMeth C m sp E ta t) := by
  refine ⟨fun pins s σ H Q I h => ?_⟩
  refine PySem.W.methodCall_KW (pl := pl) (thn (he.run pins s σ H _ I h) fun u s1 ⟨x, H1, I1, rx, a, dx, fs, ex, ea, l, q⟩ => ?_) ht
  subst ex
  obtain rfl : u = Value.ref a := rx
  refine getmeth_ok I1 ea c hm l ?_
  refine PySem.W.callWith_K (first := [.ref a]) (h₀ := X.base) I.ok.mod.kin hm.kp (thn (ha.run pos pins s1 σ H1 _ I1 q) fun us s2 ⟨vs, H2, I2, r, q2⟩ => ⟨I2.kIn, ?_⟩) hst hpl
  exact run_fnS (us := .ref a :: us) (vs := .ref a :: vs) F hr hb (hx σ) I2 (.cons rfl r) q2
theorem pe_meth0S {pl : Sem Bool} {E : L2.St → XK} (he : PE X o ta) (c : Cls X.K C) (hm : Meth X.K C m f) (F : FnOk X.prog X.w X.K X.mg X.base (L2.CX X.prog X.w) k f fd ps sp) (hr : Room k X.A) (hb : Binds X.K fd ps []) (hx : ∀ σ, PassesAt (L2.CX X.prog X.w) X σ (E σ))
    (ht : eval (.Call (.Attribute o m apos) [] [] pos) X.env = (do
      let ov ← eval o X.env
      standAt apos.atName
      let (f, first) ← holding [ov] (getMethod ov m pl)
      callWith pos f first (backTo pos (starEach [] X.env)) (backToKw pos (keywordEach [] X.env))) := by rfl) :
    PE X (.Call (.Attribute o m apos) [] [] pos) (zMeth C m sp E ta tNil) := by
  refine ⟨fun pins s σ H Q I h => ?_⟩
  refine PySem.W.methodCall_KW (pl := pl) (thn (he.run pins s σ H _ I h) fun u s1 ⟨x, H1, I1, rx, a, dx, fs, ex, ea, l, q⟩ => ?_) ht
  subst ex
  obtain rfl : u = Value.ref a := rx
  refine getmeth_ok I1 ea c hm l ?_
  exact PySem.W.callWith_K0 (first := [.ref a]) I1.kIn hm.kp (run_fnS (us := [.ref a]) (vs := [.ref a]) F hr hb (hx σ) I1 (.cons rfl .nil) q)
theorem run_makeS {E : XK} {pins : List (Addr × Obj)} {σ : L2.St} {H : Hp} {s : Shared} {Q : VK} {us : List Value} {vs : List V} (M : Mk X.K C f) (F : FnOk X.prog X.w X.K X.mg X.base (L2.CX X.prog X.w) k f fd ps sp) (hr : Room (k + 1) X.A) (hb : Binds X.K fd ps [])
    (hx : ∀ (σ' : L2.St), σ' = σ → PassesAt (L2.CX X.prog X.w) X σ' E) (I : L2.Inv X pins σ H s) (r : Vals vs us)
    (h : ∀ x dx, H x = none → H dx = none → dx ≠ x → sp (.ref x :: vs) (upd (upd H dx (.own x)) x (.ins C dx [])) (fun v H2 => v = .non ∧ Q (.ref x) H2) E) :
    wpAny (model X.prog X.w) X.A (call (.ref C) us) (EP X pins σ Q) X.xe s := by
  have hq := h (s.heap.objs.size + 1) s.heap.objs.size (I.hok.fresh (Nat.le_succ _)) (I.hok.fresh (Nat.le_refl _)) (Nat.ne_of_lt (Nat.lt_succ_self _))
  have I2 := Inv.made (C := C) I
  have r2 : Vals (V.ref (s.heap.objs.size + 1) :: vs) (Value.ref (s.heap.objs.size + 1) :: us) := .cons rfl r
  have hl : (Value.ref (s.heap.objs.size + 1) :: us ++ []).length = ps.length := by
    have e := r2.length
    rw [F.len _ _ _ _ hq] at e
    rw [List.append_nil]
    exact e.symm
  have b := hb _ (Value.ref (s.heap.objs.size + 1) :: us) I2.kIn hl
  rw [List.append_nil] at b
  refine wpAny_call (make_map (f := f) I.kIn M.makes M.init (beq_iff_eq.mp M.fn) (codeAny_mono (F.run _ X.stack _ _ ⟨Value.ref (s.heap.objs.size + 1) :: us, []⟩ (Value.ref (s.heap.objs.size + 1) :: us) _ _ E (hr.make C us [])
    (I2.env0.make C us []) b r2 hq) fun r s' hq' => ?_))
  cases r with
  | error e => exact hx σ rfl pins _ _ e s' I2 hq'
  | ok fl =>
    cases fl with
    | ret u =>
      obtain ⟨v, H', I3, rv, ev, q3⟩ := I2.after hq'
      subst ev
      exact ⟨rv, ⟨V.ref (s.heap.objs.size + 1), H', I3, rfl, q3⟩⟩
    | next => exact False.elim hq'
    | brk => exact False.elim hq'
    | cont => exact False.elim hq'
theorem pe_makeS {E : L2.St → XK} (M : Mk X.K C f) (F : FnOk X.prog X.w X.K X.mg X.base (L2.CX X.prog X.w) k f fd ps sp) (hr : Room (k + 1) X.A) (hg : Gl X x) (hm : X.mg x = some (.ref C)) (hb : Binds X.K fd ps []) (hx : ∀ σ, PassesAt (L2.CX X.prog X.w) X σ (E σ))
    (ha : PA X (e :: es) t) (hdb : (x == ("__debug__" : Str)) = false := by decide) (he : starEach (e :: es) X.env = (false, eval e X.env) :: starEach es X.env := by rfl) (hpl : (backTo pos (starEach es X.env)).any (·.1) = false := by rfl) :
    PE X (.Call (.Name x p) (e :: es) [] pos) (zMake C sp E t) := by
  refine ⟨fun pins s σ H Q I h => ?_⟩
  refine wpAny_Call_Name_kw (ld_glob I hg hm ?_ hdb)
  refine PySem.W.callWith_K (h₀ := X.base) I.ok.mod.kin M.kp (thn (ha.run pos pins s σ H _ I h) fun us s1 ⟨vs, H1, I1, r, q⟩ => ⟨I1.kIn, ?_⟩) he hpl
  exact run_makeS M F hr hb (fun σ' e => by subst e; exact hx σ') I1 r q
theorem pe_make0S {E : L2.St → XK} (M : Mk X.K C f) (F : FnOk X.prog X.w X.K X.mg X.base (L2.CX X.prog X.w) k f fd ps sp) (hr : Room (k + 1) X.A) (hg : Gl X x) (hm : X.mg x = some (.ref C)) (hb : Binds X.K fd ps []) (hx : ∀ σ, PassesAt (L2.CX X.prog X.w) X σ (E σ))
    (hdb : (x == ("__debug__" : Str)) = false := by decide) : PE X (.Call (.Name x p) [] [] pos) (zMake C sp E tNil) := by
  refine ⟨fun pins s σ H Q I h => ?_⟩
  refine wpAny_Call_Name_kw (ld_glob I hg hm ?_ hdb)
  exact PySem.W.callWith_K0 I.kIn M.kp (run_makeS (us := []) M F hr hb (fun σ' e => by subst e; exact hx σ') I .nil h)
end
section
variable {σ : L2.St} {H : Hp} {Q : VK} {D : Ends} {v y : V} {ta tv te : TE} {t : TA} {Cs : List Addr} {f m : Str} {C dx a : Addr} {fs : List (Str × V)} {sp : Sp} {E : L2.St → XK}
theorem e_fld : zFld Cs f ta σ H Q = ta σ H fun x H1 => zFldV Cs f x H1 Q := rfl
theorem x_fld (hc : C ∈ Cs) (h : H a = some (.ins C dx fs)) (l : fs.lookup f = some v) (q : Q v H) : zFldV Cs f (.ref a) H Q := ⟨a, C, dx, fs, v, rfl, hc, h, l, q⟩
theorem x_setF0 {nx bk ct : L2.St → Hp → Prop} (q : tv σ H fun y H1 => ta σ H1 fun x H2 => ∃ a C dx fs, x = .ref a ∧ C ∈ Cs ∧ H2 a = some (.ins C dx fs) ∧ fs.length < 1000 ∧ nx σ (upd H2 a (.ins C dx (putF f y fs)))) : zSetF Cs f ta tv ⟨nx, Q, bk, ct⟩ σ H := q
theorem x_setF1 {P : Hp → Prop} {fs' : List (Str × V)} (hc : C ∈ Cs) (h : H a = some (.ins C dx fs)) (l : fs.length < 1000) (e : putF f y fs = fs') (q : P (upd H a (.ins C dx fs'))) : ∃ a' C dx fs, V.ref a = .ref a' ∧ C ∈ Cs ∧ H a' = some (.ins C dx fs) ∧ fs.length < 1000 ∧ P (upd H a' (.ins C dx (putF f y fs))) :=
  ⟨a, C, dx, fs, rfl, hc, h, l, by rw [e]; exact q⟩
theorem e_meth : zMeth C m sp E ta t σ H Q = ta σ H fun x H1 => zMethV C m x H1 (t σ H1 fun vs H2 => sp (x :: vs) H2 Q (E σ)) := rfl
theorem x_meth {P : Prop} (h : H a = some (.ins C dx fs)) (l : fs.lookup m = none) (q : P) : zMethV C m (.ref a) H P := ⟨a, dx, fs, rfl, h, l, q⟩
theorem e_make : zMake C sp E t σ H Q = t σ H fun vs H1 => ∀ x dx, H1 x = none → H1 dx = none → dx ≠ x → sp (.ref x :: vs) (upd (upd H1 dx (.own x)) x (.ins C dx [])) (fun v H2 => v = .non ∧ Q (.ref x) H2) (E σ) := rfl
theorem x_make (q : t σ H fun vs H1 => ∀ x dx, H1 x = none → H1 dx = none → dx ≠ x → sp (.ref x :: vs) (upd (upd H1 dx (.own x)) x (.ins C dx [])) (fun v H2 => v = .non ∧ Q (.ref x) H2) (E σ)) : zMake C sp E t σ H Q := q
end
end Z
/-! Zb: built-ins by name; what is walked; stores; raise and try. -/
namespace Z
open PySem PySem.Spec PyProof.Rows L2
theorem zb_len : bootBuiltins "len" = some (.builtin "len") := by decide +kernel
theorem zb_int : bootBuiltins "int" = some (.type "int") := by decide +kernel
theorem zb_str : bootBuiltins "str" = some (.type "str") := by decide +kernel
theorem zb_bool : bootBuiltins "bool" = some (.type "bool") := by decide +kernel
theorem zb_list : bootBuiltins "list" = some (.type "list") := by decide +kernel
theorem zb_tuple : bootBuiltins "tuple" = some (.type "tuple") := by decide +kernel
theorem zb_dict : bootBuiltins "dict" = some (.type "dict") := by decide +kernel
theorem zb_all : bootBuiltins "all" = some (.builtin "all") := by decide +kernel
theorem zb_any : bootBuiltins "any" = some (.builtin "any") := by decide +kernel
theorem zb_sum : bootBuiltins "sum" = some (.builtin "sum") := by decide +kernel
theorem zb_abs : bootBuiltins "abs" = some (.builtin "abs") := by decide +kernel
theorem zb_min : bootBuiltins "min" = some (.builtin "min") := by decide +kernel
theorem zb_max : bootBuiltins "max" = some (.builtin "max") := by decide +kernel
theorem zb_sorted : bootBuiltins "sorted" = some (.builtin "sorted") := by decide +kernel
theorem zb_isinstance : bootBuiltins "isinstance" = some (.builtin "isinstance") := by decide +kernel
section
variable {X : Cx}
def zInt : List V → Hp → VK → Prop := fun xs H Q => match xs with
  | [.int i] => Q (.int i) H
  | [.bl k] => Q (.int (if k then 1 else 0)) H
  | [.str a] => ∃ n, PySem.intText? a = some n ∧ a.length ≤ 640 ∧ Q (.int n) H
  | _ => False
theorem cr_int : CallR X (.type "int") zInt := by
  intro pins s σ H xs us Q I r h
  match xs, h with
  | [.int i], h => exact call_int1 pins s σ H _ us Q I r (.inl ⟨i, rfl, h⟩)
  | [.bl i], h => exact call_int1 pins s σ H _ us Q I r (.inr ⟨i, rfl, h⟩)
  | [.str a], ⟨n, h1, h2, h⟩ => exact call_int_str pins s σ H _ us Q I r ⟨a, n, rfl, h1, h2, h⟩
def zStr : List V → Hp → VK → Prop := fun xs H Q => match xs with
  | [.int i] => i.natAbs.log2 < 1920 ∧ Q (.str (toString i)) H
  | _ => False
theorem cr_str : CallR X (.type "str") zStr := by
  intro pins s σ H xs us Q I r h
  match xs, h with
  | [.int i], h => exact call_str_int pins s σ H _ us Q I r ⟨i, rfl, h.1, h.2⟩
def zList (K : PySem.W.Frag) : List V → Hp → VK → Prop := fun xs H Q => ∃ p ys, xs = [.ref p] ∧ (SqL K H p ys ∨ SqT K H p ys) ∧ ∀ l, H l = none → Q (.ref l) (upd H l (.lst ys))
theorem cr_list : CallR X (.type "list") (zList X.K) := call_list_of
def zTuple (K : PySem.W.Frag) : List V → Hp → VK → Prop := fun xs H Q => ∃ p ys, xs = [.ref p] ∧ ((SqL K H p ys ∧ ∀ l, H l = none → Q (.ref l) (upd H l (.tup ys))) ∨ (SqT K H p ys ∧ Q (.ref p) H))
theorem cr_tuple : CallR X (.type "tuple") (zTuple X.K) := call_tuple_of
def zAbs : List V → Hp → VK → Prop := fun xs H Q => ∃ i, xs = [.int i] ∧ Q (.int (if i < 0 then -i else i)) H
def zMin2 : List V → Hp → VK → Prop := fun xs H Q => ∃ i j, xs = [.int i, .int j] ∧ Q (.int (if j < i then j else i)) H
def zMax2 : List V → Hp → VK → Prop := fun xs H Q => ∃ i j, xs = [.int i, .int j] ∧ Q (.int (if j > i then j else i)) H
theorem cr_min2 (hc : X.calm = true) : CallR X (.builtin "min") zMin2 := call_min2 hc
theorem cr_max2 (hc : X.calm = true) : CallR X (.builtin "max") zMax2 := call_max2 hc
/-- isinstance(x, T), T a built-in type written so -/
def zIsi (K : PySem.W.Frag) : List V → Hp → VK → Prop := fun xs H Q => match xs with
  | [.non, .ty n] => ∃ b, kitB "NoneType" n = some b ∧ Q (.bl b) H
  | [.bl _, .ty n] => ∃ b, kitB "bool" n = some b ∧ Q (.bl b) H
  | [.int _, .ty n] => ∃ b, kitB "int" n = some b ∧ Q (.bl b) H
  | [.str _, .ty n] => ∃ b, kitB "str" n = some b ∧ Q (.bl b) H
  | [.ref a, .ty n] => ∃ T b, TyX K H (.ref a) (.type T) ∧ kitB T n = some b ∧ Q (.bl b) H
  | _ => False
theorem cr_isi : CallR X (.builtin "isinstance") (zIsi X.K) := by
  intro pins s σ H xs us Q I r h
  match xs, h with
  | [.non, .ty n], ⟨b, e, q⟩ => exact call_isi pins s σ H _ us Q I r ⟨_, _, _, _, b, rfl, .ty n, .base .non, kit_ty e, q⟩
  | [.bl x, .ty n], ⟨b, e, q⟩ => exact call_isi pins s σ H _ us Q I r ⟨_, _, _, _, b, rfl, .ty n, .base (.bl x), kit_ty e, q⟩
  | [.int x, .ty n], ⟨b, e, q⟩ => exact call_isi pins s σ H _ us Q I r ⟨_, _, _, _, b, rfl, .ty n, .base (.int x), kit_ty e, q⟩
  | [.str x, .ty n], ⟨b, e, q⟩ => exact call_isi pins s σ H _ us Q I r ⟨_, _, _, _, b, rfl, .ty n, .base (.str x), kit_ty e, q⟩
  | [.ref a, .ty n], ⟨T, b, ty, e, q⟩ => exact call_isi pins s σ H _ us Q I r ⟨_, _, _, _, b, rfl, .ty n, ty, kit_ty e, q⟩
/-! what is walked -/
theorem PI.or {tg e : Expr} {w1 w2 : TI} (h1 : PI X tg e w1) (h2 : PI X tg e w2) : PI X tg e (fun σ H R => w1 σ H R ∨ w2 σ H R) := ⟨fun pins s σ H R I q => q.elim (h1.run pins s σ H R I) (h2.run pins s σ H R I)⟩
def iSeq (K : PySem.W.Frag) (te : TE) : TI := fun σ H R => iList K te σ H R ∨ iTup K te σ H R
theorem pi_seq {tg e : Expr} {te : TE} (h : PE X e te) : PI X tg e (iSeq X.K te) := PI.or (pi_list h) (pi_tup h)
theorem PSet.or {t1 t2 : TSet} (h1 : PSet X t1) (h2 : PSet X t2) : PSet X (fun o i v H Q => t1 o i v H Q ∨ t2 o i v H Q) := fun pins s σ H o i v ov iv u Q I r1 r2 r3 q =>
  q.elim (h1 pins s σ H o i v ov iv u Q I r1 r2 r3) (h2 pins s σ H o i v ov iv u Q I r1 r2 r3)
def zSet : TSet := fun o i v H Q => rSetL o i v H Q ∨ rSetD o i v H Q
theorem set_z (hu : X.A.units + 1 < cLine) : PSet X zSet := PSet.or set_list (set_dict hu)
/-! raise, try -/
def zRaise (C : Addr) (W : WX) (t : TA) : TS := fun _ σ H => t σ H fun vs H1 => vs.length ≤ sizeLine ∧ W (.ref C) none σ H1
def zTry (K : PySem.W.Frag) (tb : WX → TS) (Wout : WX) (l : List (Value × (Addr → Value → Option Addr → TS))) : TS := fun D σ H => tb (wMany K Wout D l) D σ H
def zJoined (ts : List TE) : TE := fun σ H Q => tJs ts Str.empty σ H fun out H1 => Q (.str out) H1
theorem pj_nil : PJ X [] [] := .nil
theorem pj_cons {e : Expr} {t : TE} {es : List Expr} {ts : List TE} (h : PE X e t) (r : PJ X es ts) : PJ X (e :: es) (t :: ts) := .cons h r
end
/-! readings -/
section
variable {K : PySem.W.Frag} {σ : L2.St} {H : Hp} {Q : VK} {QT : Str → Hp → Prop} {D : Ends} {v : V} {te : TE} {t : TA} {C : Addr} {W : WX} {ts : List TE} {acc : Str}
theorem o_intI {i : Int} : zInt [.int i] H Q = Q (.int i) H := rfl
theorem o_intB {b : Bool} : zInt [.bl b] H Q = Q (.int (if b then 1 else 0)) H := rfl
theorem o_str {i : Int} : zStr [.int i] H Q = (i.natAbs.log2 < 1920 ∧ Q (.str (toString i)) H) := rfl
theorem x_listL {p : Addr} {ys : List V} (h : SqL K H p ys) (q : ∀ l, H l = none → Q (.ref l) (upd H l (.lst ys))) : zList K [.ref p] H Q := ⟨p, ys, rfl, .inl h, q⟩
theorem x_listT {p : Addr} {ys : List V} (h : SqT K H p ys) (q : ∀ l, H l = none → Q (.ref l) (upd H l (.lst ys))) : zList K [.ref p] H Q := ⟨p, ys, rfl, .inr h, q⟩
theorem x_tupleL {p : Addr} {ys : List V} (h : SqL K H p ys) (q : ∀ l, H l = none → Q (.ref l) (upd H l (.tup ys))) : zTuple K [.ref p] H Q := ⟨p, ys, rfl, .inl ⟨h, q⟩⟩
theorem x_tupleT {p : Addr} {ys : List V} (h : SqT K H p ys) (q : Q (.ref p) H) : zTuple K [.ref p] H Q := ⟨p, ys, rfl, .inr ⟨h, q⟩⟩
theorem isi_of {T n : String} {b : Bool} {P : Bool → Prop} (h : kitB T n = some b) : (∃ b', kitB T n = some b' ∧ P b') = P b := propext ⟨fun ⟨k, e, p⟩ => by rw [h] at e; cases e; exact p, fun p => ⟨b, h, p⟩⟩
theorem isi_lst {a : Addr} {xs : List V} (h : H a = some (.lst xs)) (q : Q (.bl false) H) : zIsi K [.ref a, .ty "tuple"] H Q := ⟨"list", false, .base (.lst h), by decide +kernel, q⟩
theorem isi_tup {a : Addr} {xs : List V} (h : SqT K H a xs) (q : Q (.bl true) H) : zIsi K [.ref a, .ty "tuple"] H Q := by
  rcases h with (h | ⟨o, h⟩) | ⟨o, its, n, h1, h2, _⟩
  · exact ⟨"tuple", true, .base (.tup h), by decide +kernel, q⟩
  · exact ⟨"tuple", true, .fTuple h, by decide +kernel, q⟩
  · exact ⟨"tuple", true, .kTuple h1 h2, by decide +kernel, q⟩
theorem isi_tupB {a : Addr} {xs : List V} (h : SqT K H a xs) (q : Q (.bl false) H) : zIsi K [.ref a, .ty "bool"] H Q := by
  rcases h with (h | ⟨o, h⟩) | ⟨o, its, n, h1, h2, _⟩
  · exact ⟨"tuple", false, .base (.tup h), by decide +kernel, q⟩
  · exact ⟨"tuple", false, .fTuple h, by decide +kernel, q⟩
  · exact ⟨"tuple", false, .kTuple h1 h2, by decide +kernel, q⟩
theorem o_isi_non_bool  : zIsi K [.non, .ty "bool"] H Q = Q (.bl false) H := isi_of (by decide +kernel)
theorem o_isi_non_int  : zIsi K [.non, .ty "int"] H Q = Q (.bl false) H := isi_of (by decide +kernel)
theorem o_isi_non_str  : zIsi K [.non, .ty "str"] H Q = Q (.bl false) H := isi_of (by decide +kernel)
theorem o_isi_non_tuple  : zIsi K [.non, .ty "tuple"] H Q = Q (.bl false) H := isi_of (by decide +kernel)
theorem o_isi_non_list  : zIsi K [.non, .ty "list"] H Q = Q (.bl false) H := isi_of (by decide +kernel)
theorem o_isi_bl_bool {b : Bool} : zIsi K [.bl b, .ty "bool"] H Q = Q (.bl true) H := isi_of (by decide +kernel)
theorem o_isi_bl_int {b : Bool} : zIsi K [.bl b, .ty "int"] H Q = Q (.bl true) H := isi_of (by decide +kernel)
theorem o_isi_bl_str {b : Bool} : zIsi K [.bl b, .ty "str"] H Q = Q (.bl false) H := isi_of (by decide +kernel)
theorem o_isi_bl_tuple {b : Bool} : zIsi K [.bl b, .ty "tuple"] H Q = Q (.bl false) H := isi_of (by decide +kernel)
theorem o_isi_bl_list {b : Bool} : zIsi K [.bl b, .ty "list"] H Q = Q (.bl false) H := isi_of (by decide +kernel)
theorem o_isi_int_bool {i : Int} : zIsi K [.int i, .ty "bool"] H Q = Q (.bl false) H := isi_of (by decide +kernel)
theorem o_isi_int_int {i : Int} : zIsi K [.int i, .ty "int"] H Q = Q (.bl true) H := isi_of (by decide +kernel)
theorem o_isi_int_str {i : Int} : zIsi K [.int i, .ty "str"] H Q = Q (.bl false) H := isi_of (by decide +kernel)
theorem o_isi_int_tuple {i : Int} : zIsi K [.int i, .ty "tuple"] H Q = Q (.bl false) H := isi_of (by decide +kernel)
theorem o_isi_int_list {i : Int} : zIsi K [.int i, .ty "list"] H Q = Q (.bl false) H := isi_of (by decide +kernel)
theorem o_isi_str_bool {s : Str} : zIsi K [.str s, .ty "bool"] H Q = Q (.bl false) H := isi_of (by decide +kernel)
theorem o_isi_str_int {s : Str} : zIsi K [.str s, .ty "int"] H Q = Q (.bl false) H := isi_of (by decide +kernel)
theorem o_isi_str_str {s : Str} : zIsi K [.str s, .ty "str"] H Q = Q (.bl true) H := isi_of (by decide +kernel)
theorem o_isi_str_tuple {s : Str} : zIsi K [.str s, .ty "tuple"] H Q = Q (.bl false) H := isi_of (by decide +kernel)
theorem o_isi_str_list {s : Str} : zIsi K [.str s, .ty "list"] H Q = Q (.bl false) H := isi_of (by decide +kernel)
theorem x_raise (q : t σ H fun vs H1 => vs.length ≤ sizeLine ∧ W (.ref C) none σ H1) : zRaise C W t D σ H := q
theorem e_fmt : tFmt te σ H Q = te σ H fun x H1 => (∃ y : Str, x = .str y ∧ y.length ≤ sizeLine ∧ Q (.str y) H1) ∨ ∃ i : Int, x = .int i ∧ i.natAbs.log2 < 1920 ∧ Q (.str (toString i)) H1 := rfl
theorem e_fmtI {i : Int} {P1 : Str → Prop} {P2 : Int → Prop} : ((∃ y : Str, V.int i = .str y ∧ P1 y) ∨ ∃ j : Int, V.int i = .int j ∧ P2 j) = P2 i := propext ⟨fun h => by rcases h with ⟨_, e, _⟩ | ⟨_, e, p⟩ <;> cases e; exact p, fun p => .inr ⟨i, rfl, p⟩⟩
theorem e_fmtS {a : Str} {P1 : Str → Prop} {P2 : Int → Prop} : ((∃ y : Str, V.str a = .str y ∧ P1 y) ∨ ∃ j : Int, V.str a = .int j ∧ P2 j) = P1 a := propext ⟨fun h => by rcases h with ⟨_, e, p⟩ | ⟨_, e, p⟩ <;> cases e; exact p, fun p => .inl ⟨a, rfl, p⟩⟩
theorem e_joined : zJoined ts σ H Q = tJs ts Str.empty σ H fun out H1 => Q (.str out) H1 := rfl
theorem e_js0 : tJs [] acc σ H QT = QT acc H := rfl
theorem e_js1 : tJs (te :: ts) acc σ H QT = te σ H fun x H1 => ∃ y : Str, x = .str y ∧ (acc ++ y).length ≤ sizeLine ∧ tJs ts (acc ++ y) σ H1 QT := rfl
end
end Z
/-! Zl: loops and comprehensions; great numbers; what the law's draws need. -/
namespace Z
open PySem PySem.Spec PyProof.Rows L2
section
variable {K : PySem.W.Frag} {σ : L2.St} {H : Hp} {Q : VK} {nx bk ct : L2.St → Hp → Prop} {g : TG} {t u : TS} {te : TE} {tt : TT} {vs : List Nat} {wi : TI} {QI : It → Hp → Prop}
/-- a station: what is known ahead of the rest -/
theorem x_mid (Mid : L2.St → Hp → Prop) (k : ∀ σ' H', Mid σ' H' → nx σ' H') (h : (∀ σ' H', Mid σ' H' → nx σ' H') → t ⟨nx, Q, bk, ct⟩ σ H) : t ⟨nx, Q, bk, ct⟩ σ H := h k
/-- for over a text -/
theorem x_text {z : Str} (Pv : Nat → L2.St → Hp → Prop) (h0 : Pv 0 σ H)
    (hs : ∀ (i : Nat) c σ' H', z.cps.toList[i]? = some c → Pv i σ' H' → g (.str ⟨#[c]⟩) σ' H' fun σ2 H2 => t ⟨Pv (i + 1), Q, nx, Pv (i + 1)⟩ σ2 H2) (hd : ∀ σ' H', Pv z.cps.toList.length σ' H' → nx σ' H') :
    ∃ W : Nat → Nat → L2.St → Hp → Prop, (∃ m, W 0 m σ H) ∧ ∀ i m σ H, W i m σ H →
    ((Its z).stop i H ∧ nx σ H) ∨ ((Its z).go i H ∧ ∃ N : L2.St → Hp → Prop, (∀ σ' H', N σ' H' → ∃ m', m' < m ∧ W (i + 1) m' σ' H') ∧ ∀ x H', (Its z).yld i H x H' → g x σ H' fun σ2 H2 => t ⟨N, Q, nx, N⟩ σ2 H2) :=
  for_it (D := ⟨nx, Q, nx, nx⟩) walk_str Pv h0 (fun _ _ _ _ _ => True.intro) (fun i x σ' H' H'' hi p y => by
    obtain ⟨rfl, c, hc, rfl⟩ := y
    exact hs i c σ' H'' (by rw [← hc]; simp) p) (fun σ' H' p => hd σ' H' (by simpa using p))
/-- for over enumerate of a list -/
theorem x_enum {a : Addr} {xs : List V} (Pv : Nat → L2.St → Hp → Prop) (h0 : Pv 0 σ H) (hl : ∀ i σ H, i ≤ xs.length → Pv i σ H → SqL K H a xs)
    (hs : ∀ (i : Nat) x T σ' H', xs[i]? = some x → Pv i σ' H' → H' T = none → g (.ref T) σ' (upd H' T (.tup [.int (i : Int), x])) fun σ2 H2 => t ⟨Pv (i + 1), Q, nx, Pv (i + 1)⟩ σ2 H2) (hd : ∀ σ' H', Pv xs.length σ' H' → nx σ' H') :
    ∃ W : Nat → Nat → L2.St → Hp → Prop, (∃ m, W 0 m σ H) ∧ ∀ i m σ H, W i m σ H →
    ((Ite K a).stop i H ∧ nx σ H) ∨ ((Ite K a).go i H ∧ ∃ N : L2.St → Hp → Prop, (∀ σ' H', N σ' H' → ∃ m', m' < m ∧ W (i + 1) m' σ' H') ∧ ∀ x H', (Ite K a).yld i H x H' → g x σ H' fun σ2 H2 => t ⟨N, Q, nx, N⟩ σ2 H2) :=
  for_it (D := ⟨nx, Q, nx, nx⟩) walk_enum Pv h0 hl (fun i x σ' H' H'' hi p y => by
    obtain ⟨T, x1, y1, rfl, hT, rfl, e1, e2⟩ := y
    cases e1
    exact hs i y1 T σ' H' e2 p hT) hd
theorem e_iE {ta : TA} : iEnum K ta σ H QI = ta σ H fun vs H1 => ∃ a xs, vs = [.ref a] ∧ SqL K H1 a xs ∧ QI (Ite K a) H1 := rfl
theorem x_iE {a : Addr} {xs : List V} {P : Addr → Prop} (h : SqL K H a xs) (q : P a) : ∃ a' xs, [V.ref a] = [.ref a'] ∧ SqL K H a' xs ∧ P a' := ⟨a, xs, rfl, h, q⟩
theorem e_iSeqL {P P' : Prop} (h : P) : P ∨ P' := .inl h
/-- a comprehension, behind what is walked: a word for the turn, the items so far, the heap -/
def LcW (D : Addr) (Pv : Nat → List V → Hp → Prop) (i : Nat) (H : Hp) : Prop := ∃ acc, H D = some (.lst acc) ∧ acc.length ≤ i ∧ Pv i acc H
theorem lc_yes {D : Addr} {Pv : Nat → List V → Hp → Prop} {i : Nat} {H4 : Hp} {acc : List V} {y : V} (h : H4 D = some (.lst acc)) (l : acc.length ≤ i) (hi : i < 1000000) (p : Pv (i + 1) (acc ++ [y]) (upd H4 D (.lst (acc ++ [y])))) :
    ∃ acc, H4 D = some (.lst acc) ∧ acc.length < sizeLine ∧ LcW D Pv (i + 1) (upd H4 D (.lst (acc ++ [y]))) :=
  ⟨acc, h, by rw [sizeLine_eq]; omega, acc ++ [y], upd_same, by rw [List.length_append, List.length_singleton]; omega, p⟩
theorem lc_no {D : Addr} {Pv : Nat → List V → Hp → Prop} {i : Nat} {H4 : Hp} {acc : List V} (h : H4 D = some (.lst acc)) (l : acc.length ≤ i) (p : Pv (i + 1) acc H4) : LcW D Pv (i + 1) H4 := ⟨acc, h, by omega, p⟩
/-- what a comprehension asks behind its source -/
def LcGo (J : It) (H : Hp) (g : TG) (tt : TT) (te : TE) (vs : List Nat) (σ : L2.St) (Q : VK) : Prop := ∀ D, H D = none → ∃ W : Nat → Nat → Hp → Prop, (∃ m, W 0 m (upd H D (.lst []))) ∧ ∀ i m H, W i m H →
  (J.stop i H ∧ Q (.ref D) H) ∨ (J.go i H ∧ ∃ Nx : Hp → Prop, (∀ H', Nx H' → ∃ m', m' < m ∧ W (i + 1) m' H') ∧ ∀ x H', J.yld i H x H' → g x (wipe σ vs) H' fun σ2 H2 => wipe σ2 vs = wipe σ vs ∧ tt σ2 H2 fun b H3 =>
    if b = true then te σ2 H3 fun y H4 => ∃ acc, H4 D = some (.lst acc) ∧ acc.length < sizeLine ∧ Nx (upd H4 D (.lst (acc ++ [y]))) else Nx H3)
theorem e_lc : tLc wi g tt te vs σ H Q = wi σ H fun J H1 => LcGo J H1 g tt te vs σ Q := rfl
/-- a comprehension: a word for the turn, the items so far, the heap (D: where the new list stands) -/
theorem x_lc {J : It} {n : Nat} {G : Hp → Prop} {Y : Nat → Hp → V → Hp → Prop} (w : Walk J n G Y) (Pv : Addr → Nat → List V → Hp → Prop) (h0 : ∀ D, H D = none → Pv D 0 [] (upd H D (.lst []))) (hG : ∀ D i acc H, Pv D i acc H → G H)
    (hs : ∀ D i x acc H' H'', H D = none → i < n → Pv D i acc H' → H' D = some (.lst acc) → acc.length ≤ i → Y i H' x H'' → g x (wipe σ vs) H'' fun σ2 H2 => wipe σ2 vs = wipe σ vs ∧ tt σ2 H2 fun b H3 =>
      if b = true then te σ2 H3 fun y H4 => ∃ acc, H4 D = some (.lst acc) ∧ acc.length < sizeLine ∧ LcW D (Pv D) (i + 1) (upd H4 D (.lst (acc ++ [y]))) else LcW D (Pv D) (i + 1) H3)
    (hd : ∀ D acc H', H D = none → Pv D n acc H' → H' D = some (.lst acc) → acc.length ≤ n → Q (.ref D) H') : LcGo J H g tt te vs σ Q :=
  fun D hD => lc_it w (LcW D (Pv D)) ⟨[], upd_same, Nat.le_refl _, h0 D hD⟩ (fun i H' _ ⟨acc, _, _, p⟩ => hG D i acc H' p) (fun i x H' H'' hi ⟨acc, hL, hl, p⟩ y => hs D i x acc H' H'' hD hi p hL hl y) (fun H' ⟨acc, hL, hl, p⟩ => hd D acc H' hD p hL hl)
theorem e_yes1 {QB : Bool → Hp → Prop} : tYes σ H QB = QB true H := rfl
end
/-- a tuple of the module's own -/
def KTup (K : PySem.W.Frag) (a : Addr) (xs : List V) : Prop := ∃ (o : Obj) (its : Array Value) (n : Nat), K.lookup a = some o ∧ o.cls = .type "tuple" ∧ o.data = .seq its n ∧ its.size ≤ sizeLine ∧ Vals xs its.toList
theorem KTup.sq {K : PySem.W.Frag} {H : Hp} {a : Addr} {xs : List V} (h : KTup K a xs) : SqT K H a xs := .inr h
theorem hu66 {k : Nat} {A : Around} (r : Room k A) : A.units + 66 < cLine := by have := r.un; omega
theorem exm_of {K : PySem.W.Frag} {C S : Addr} {b : Bool} (h1 : PySem.W.subIn K (.ref C) (.type "BaseException") = some true) (h2 : PySem.W.isClsIn K S = true) (h3 : PySem.W.typeIn K (.ref S) = some (.type "type")) (h4 : PySem.W.subIn K (.ref C) (.ref S) = some b)
    (h0 : PySem.W.subIn K (.ref S) (.type "BaseException") = some true) : PySem.W.exmOne K (.ref C) (.ref S) = some b := by
  have e1 : (PySem.W.subIn K (.ref S) (.type "BaseException") == some true) = true := by rw [h0] <;> rfl
  have e2 : ((PySem.W.clsIn K S).isSome && PySem.W.typeIn K (.ref S) == some (.type "type")) = true := by
    have h2' : (PySem.W.clsIn K S).isSome = true := h2
    rw [h2', h3] <;> rfl
  show (if (PySem.W.subIn K (.ref S) (.type "BaseException") == some true) = true then (if ((PySem.W.clsIn K S).isSome && PySem.W.typeIn K (.ref S) == some (.type "type")) = true then PySem.W.subIn K (.ref C) (.ref S) else none) else none) = some b
  rw [if_pos e1, if_pos e2]
  exact h4
/-! great numbers by their bits -/
def lg (z : Int) : Nat := z.natAbs.log2
theorem lg_lt {z : Int} {n : Nat} (h0 : 0 < n) (h : z.natAbs < 2 ^ n) : lg z < n := PySem.Flt.log2_lt_of h0 h
theorem lt_lg (z : Int) : z.natAbs < 2 ^ (lg z + 1) := Nat.lt_log2_self
theorem lg_bits {z : Int} {n : Nat} (h : Builtin.Int.intBits z ≤ n) : lg z ≤ n := by
  unfold Builtin.Int.intBits at h
  unfold lg
  by_cases e : z = 0
  · subst e
    exact Nat.zero_le _
  · rw [if_neg (by simpa using e)] at h
    omega
theorem lg_add (a b : Int) : lg (a + b) ≤ max (lg a) (lg b) + 1 := by
  have h1 := lt_lg a
  have h2 := lt_lg b
  have h3 : (a + b).natAbs ≤ a.natAbs + b.natAbs := Int.natAbs_add_le a b
  have m1 : 2 ^ (lg a + 1) ≤ 2 ^ (max (lg a) (lg b) + 1) := Nat.pow_le_pow_right (by decide) (by omega)
  have m2 : 2 ^ (lg b + 1) ≤ 2 ^ (max (lg a) (lg b) + 1) := Nat.pow_le_pow_right (by decide) (by omega)
  have e : 2 ^ (max (lg a) (lg b) + 1 + 1) = 2 ^ (max (lg a) (lg b) + 1) + 2 ^ (max (lg a) (lg b) + 1) := by rw [Nat.pow_succ]; omega
  have := lg_lt (z := a + b) (n := max (lg a) (lg b) + 1 + 1) (by omega) (by omega)
  omega
theorem lg_mul (a b : Int) : lg (a * b) ≤ lg a + lg b + 1 := by
  have h := wide_lt (lt_lg a) (lt_lg b)
  have := lg_lt (by omega) h
  omega
theorem lg_le {a b : Int} (h : a.natAbs ≤ b.natAbs) : lg a ≤ lg b := by
  by_cases e : a.natAbs = 0
  · unfold lg; rw [e]; exact Nat.zero_le _
  · exact (Nat.le_log2 (by omega)).mpr (Nat.le_trans ((Nat.le_log2 e).mp (Nat.le_refl _)) h)
theorem lg_small {z : Int} {n : Nat} (h0 : 0 < n) (h : z.natAbs < 2 ^ n) : lg z ≤ n := Nat.le_of_lt (lg_lt h0 h)
theorem cmul_lg {i j : Int} {a b : Nat} (h1 : lg i ≤ a) (h2 : lg j ≤ b) (h : a + b < 100000000) : CMulB i j := by
  have h1' : i.natAbs.log2 ≤ a := h1
  have h2' : j.natAbs.log2 ≤ b := h2
  unfold CMulB
  omega
end Z
/-! Zd: data that is compared; while; what a def hands back as data. -/
namespace Z
open PySem PySem.Spec PyProof.Rows L2
def Good (n : Nat) (d : PyData) : Prop := d.canLay0 = true ∧ d.depth ≤ n
theorem Good.up {n m : Nat} {d : PyData} (h : Good n d) (l : n ≤ m) : Good m d := ⟨h.1, Nat.le_trans h.2 l⟩
theorem Good.shaped {n : Nat} {d : PyData} (h : Good n d) (l : n ≤ 64) : SeqAt.shaped d = true := by
  unfold SeqAt.shaped
  rw [h.1, decide_eq_true (Nat.le_trans h.2 l)]; rfl
theorem good_non {n : Nat} : Good (n + 1) .none := ⟨rfl, by simp [PyData.depth]⟩
theorem good_bl {n : Nat} {b : Bool} : Good (n + 1) (.bool b) := ⟨rfl, by simp [PyData.depth]⟩
theorem good_int {n : Nat} {i : Int} : Good (n + 1) (.int i) := ⟨rfl, by simp [PyData.depth]⟩
theorem good_str {n : Nat} {x : Str} (h : PyData.strOk x = true) : Good (n + 1) (.str x) := ⟨by rw [PyData.canLay0]; exact h, by simp [PyData.depth]⟩
theorem good_lay : ∀ {n : Nat} {ds : List PyData}, (∀ d ∈ ds, Good n d) → PyData.canLayAll0 ds = true ∧ PyData.depthAll ds ≤ n
  | n, [], _ => ⟨rfl, by simp [PyData.depthAll]⟩
  | n, d :: ds, h => by
    have h1 := h d (List.mem_cons_self ..)
    have h2 := good_lay (n := n) (ds := ds) fun e m => h e (List.mem_cons_of_mem _ m)
    refine ⟨by rw [PyData.canLayAll0, h1.1, h2.1]; rfl, ?_⟩
    have e1 := h1.2
    have e2 := h2.2
    rw [PyData.depthAll]
    omega
theorem good_tup {n : Nat} {ds : List PyData} (h : ∀ d ∈ ds, Good n d) : Good (n + 1) (.tuple ds) := by
  have g := good_lay h
  refine ⟨by rw [PyData.canLay0]; exact g.1, ?_⟩
  have e := g.2
  rw [PyData.depth]
  omega
theorem good_lst {n : Nat} {ds : List PyData} (h : ∀ d ∈ ds, Good n d) : Good (n + 1) (.list ds) := by
  have g := good_lay h
  refine ⟨by rw [PyData.canLay0]; exact g.1, ?_⟩
  have e := g.2
  rw [PyData.depth]
  omega
theorem good_nil {n : Nat} : ∀ d ∈ ([] : List PyData), Good n d := fun _ h => nomatch h
theorem good_cons {n : Nat} {d : PyData} {ds : List PyData} (h : Good n d) (t : ∀ d ∈ ds, Good n d) : ∀ e ∈ d :: ds, Good n e := fun e m => by
  rcases List.mem_cons.mp m with rfl | m
  · exact h
  · exact t e m
theorem good_mapI {n : Nat} {ns : List Int} : ∀ d ∈ ns.map PyData.int, Good (n + 1) d := fun d m => by
  obtain ⟨z, _, rfl⟩ := List.mem_map.mp m
  exact good_int
theorem good_ints {n : Nat} {ns : List Int} : Good (n + 2) (.list (ns.map .int)) := good_lst good_mapI
theorem good_intsT {n : Nat} {ns : List Int} : Good (n + 2) (.tuple (ns.map .int)) := good_tup good_mapI
section
variable {K : PySem.W.Frag} {H G : Hp} {Q : VK} {d : PyData} {a b : Addr} {x y : V}
theorem x_eqR (h1 : Rp K H (.ref a) d) (h2 : Rp K H (.ref b) d) (g : Good 64 d) (q : Q (.bl true) H) : zEq K (.ref a) (.ref b) H Q := by
  refine x_eqD (Same.refl H) h1 h2 (g.shaped (Nat.le_refl _)) (g.shaped (Nat.le_refl _)) ?_
  rw [SeqAt.eqv_refl d g.1]
  exact q
theorem x_neR (h1 : Rp K H (.ref a) d) (h2 : Rp K H (.ref b) d) (g : Good 64 d) (q : Q (.bl false) H) : zNe K (.ref a) (.ref b) H Q := by
  refine x_neD (Same.refl H) h1 h2 (g.shaped (Nat.le_refl _)) (g.shaped (Nat.le_refl _)) ?_
  rw [SeqAt.eqv_refl d g.1]
  exact q
/-- whatever two things, if they stand for the same data -/
theorem x_eqA {x y : V} (h1 : Rp K H x d) (h2 : Rp K H y d) (g : Good 64 d) (q : Q (.bl true) H) : zEq K x y H Q := by
  cases h1 with
  | non => cases h2; exact q
  | bl b => cases h2; rw [show zEq K (.bl b) (.bl b) H Q = Q (.bl (decide (b = b))) H from rfl, decide_eq_true rfl]; exact q
  | int b => cases h2; rw [show zEq K (.int b) (.int b) H Q = Q (.bl (decide (b = b))) H from rfl, decide_eq_true rfl]; exact q
  | str b => cases h2; rw [show zEq K (.str b) (.str b) H Q = Q (.bl (decide (b = b))) H from rfl, decide_eq_true rfl]; exact q
  | lst e r => cases h2 with | lst e2 r2 => exact x_eqR (.lst e r) (.lst e2 r2) g q
  | tup e r => cases h2 with | tup e2 r2 => exact x_eqR (.tup e r) (.tup e2 r2) g q
theorem x_neA {x y : V} (h1 : Rp K H x d) (h2 : Rp K H y d) (g : Good 64 d) (q : Q (.bl false) H) : zNe K x y H Q := by
  cases h1 with
  | non => cases h2; exact q
  | bl b => cases h2; rw [show zNe K (.bl b) (.bl b) H Q = Q (.bl (!decide (b = b))) H from rfl, decide_eq_true rfl]; exact q
  | int b => cases h2; rw [show zNe K (.int b) (.int b) H Q = Q (.bl (!decide (b = b))) H from rfl, decide_eq_true rfl]; exact q
  | str b => cases h2; rw [show zNe K (.str b) (.str b) H Q = Q (.bl (!decide (b = b))) H from rfl, decide_eq_true rfl]; exact q
  | lst e r => cases h2 with | lst e2 r2 => exact x_neR (.lst e r) (.lst e2 r2) g q
  | tup e r => cases h2 with | tup e2 r2 => exact x_neR (.tup e r) (.tup e2 r2) g q
/-- data handed back -/
def RetP (K : PySem.W.Frag) (H : Hp) (d : PyData) (Q : VK) : Prop := ∀ v H', Same H H' → Rp K H' v d → Q v H'
theorem RetP.go {H H1 : Hp} {v : V} (r : RetP K H d Q) (s : Same H H1) (h : Rp K H1 v d) : Q v H1 := r v H1 s h
theorem rp_ints {H : Hp} {p : Addr} {ns : List Int} (h : H p = some (.lst (ns.map V.int))) : Rp K H (.ref p) (.list (ns.map PyData.int)) := .lst h (RpAll.ints ns)
theorem rp_nil : RpAll K H [] [] := .nil
/-- a new tuple -/
theorem rp_new {H : Hp} {p : Addr} {vs : List V} {ds : List PyData} (h : RpAll K H vs ds) (n : H p = none) : Rp K (upd H p (.tup vs)) (.ref p) (.tuple ds) := .tup (SqT.of upd_same) (RpAll.up (same_new n) h)
theorem rp_newL {H : Hp} {p : Addr} {vs : List V} {ds : List PyData} (h : RpAll K H vs ds) (n : H p = none) : Rp K (upd H p (.lst vs)) (.ref p) (.list ds) := .lst upd_same (RpAll.up (same_new n) h)
end
section
variable {K : PySem.W.Frag} {c : TT} {tb : TS} {nx bk ct : L2.St → Hp → Prop} {Q : VK} {σ : L2.St} {H : Hp}
/-- a station behind a statement: what follows is not looked at -/
theorem x_cut {t : TS} (Mid : L2.St → Hp → Prop) (k : ∀ σ' H', Mid σ' H' → nx σ' H') (h : ∀ nx' : L2.St → Hp → Prop, (∀ σ' H', Mid σ' H' → nx' σ' H') → t ⟨nx', Q, bk, ct⟩ σ H) : t ⟨nx, Q, bk, ct⟩ σ H := h nx k
/-- while: a word with its measure -/
theorem x_while (Pv : Nat → L2.St → Hp → Prop) (m : Nat) (h0 : Pv m σ H)
    (hs : ∀ m σ' H', Pv m σ' H' → c σ' H' fun b H1 => if b = true then ∃ N : L2.St → Hp → Prop, (∀ σ2 H2, N σ2 H2 → ∃ m', m' < m ∧ Pv m' σ2 H2) ∧ tb ⟨N, Q, nx, N⟩ σ' H1 else nx σ' H1) : tWhile c tb ⟨nx, Q, bk, ct⟩ σ H :=
  ⟨Pv, ⟨m, h0⟩, hs⟩
theorem x_listI {a : Addr} {ns : List Int} {t : TS} {g : TG} (Pv : Nat → L2.St → Hp → Prop) (h0 : Pv 0 σ H) (hl : ∀ i σ H, i ≤ ns.length → Pv i σ H → SqL K H a (ns.map V.int))
    (hs : ∀ (i : Nat) (z : Int) σ' H', ns[i]? = some z → i < ns.length → Pv i σ' H' → g (.int z) σ' H' fun σ2 H2 => t ⟨Pv (i + 1), Q, nx, Pv (i + 1)⟩ σ2 H2) (hd : ∀ σ' H', Pv ns.length σ' H' → nx σ' H') :
    ∃ W : Nat → Nat → L2.St → Hp → Prop, (∃ m, W 0 m σ H) ∧ ∀ i m σ H, W i m σ H →
    ((Itl K a).stop i H ∧ nx σ H) ∨ ((Itl K a).go i H ∧ ∃ N : L2.St → Hp → Prop, (∀ σ' H', N σ' H' → ∃ m', m' < m ∧ W (i + 1) m' σ' H') ∧ ∀ x H', (Itl K a).yld i H x H' → g x σ H' fun σ2 H2 => t ⟨N, Q, nx, N⟩ σ2 H2) :=
  x_list (xs := ns.map V.int) Pv h0 (fun i σ H h p => hl i σ H (by rw [List.length_map] at h; exact h) p) (fun i x σ' H' hx p => by
    rw [List.getElem?_map] at hx
    cases q : ns[i]? with
    | none => rw [q] at hx; cases hx
    | some z =>
      rw [q] at hx
      cases hx
      exact hs i z σ' H' q (List.getElem?_eq_some_iff.mp q).1 p) fun σ' H' p => hd σ' H' (by rw [List.length_map] at p; exact p)
theorem x_wh {Pv : Nat → L2.St → Hp → Prop} {m : Nat} (h : tb ⟨fun σ2 H2 => ∃ m', m' < m ∧ Pv m' σ2 H2, Q, nx, fun σ2 H2 => ∃ m', m' < m ∧ Pv m' σ2 H2⟩ σ H) :
    ∃ N : L2.St → Hp → Prop, (∀ σ2 H2, N σ2 H2 → ∃ m', m' < m ∧ Pv m' σ2 H2) ∧ tb ⟨N, Q, nx, N⟩ σ H := ⟨_, fun _ _ h => h, h⟩
/-- a caught exception -/
theorem x_exc {Wout : WX} {D : Ends} {cls C : Value} {d : Option Addr} {ts : Addr → Value → Option Addr → TS} {r : List (Value × (Addr → Value → Option Addr → TS))} (h : PySem.W.exmOne K cls C = some true) (q : ∀ a, H a = none → ts a cls d D σ H) : wMany K Wout D ((C, ts) :: r) cls d σ H :=
  ⟨true, h, fun _ => q, fun e => nomatch e⟩
theorem x_excN {Wout : WX} {D : Ends} {cls C : Value} {d : Option Addr} {ts : Addr → Value → Option Addr → TS} {r : List (Value × (Addr → Value → Option Addr → TS))} (h : PySem.W.exmOne K cls C = some false) (q : wMany K Wout D r cls d σ H) : wMany K Wout D ((C, ts) :: r) cls d σ H :=
  ⟨false, h, (fun e => nomatch e), fun _ => q⟩
end
section
variable {σ : L2.St} {H : Hp} {Q : VK} {nx bk ct : L2.St → Hp → Prop} {te : TE} {ti : TIp} {x : V} {i : Nat}
theorem x_aug (q : zVar i σ H fun x H0 => te σ H0 fun y H1 => ti x y H1 fun z H2 => gName i z σ H2 nx) : zAug i te ti ⟨nx, Q, bk, ct⟩ σ H := by
  unfold zVar at q
  unfold zAug
  split at q
  · rename_i e
    first
      | (rw [e]; exact q)
      | exact q
  · exact q.elim
theorem e_sub {to ti2 : TE} {t : TSet} {v : V} {QS : L2.St → Hp → Prop} : gSub to ti2 t v σ H QS = to σ H fun o H1 => ti2 σ H1 fun i H2 => t o i v H2 fun H3 => QS σ H3 := rfl
theorem x_setL {p : Addr} {xs : List V} {k : Int} {j : Nat} {v : V} {QH : Hp → Prop} (h : H p = some (.lst xs)) (hj : ixN xs.length k = some j) (q : QH (upd H p (.lst (xs.set j v)))) : zSet (.ref p) (.int k) v H QH := .inl ⟨p, xs, k, j, rfl, rfl, h, hj, q⟩
theorem x_rapp {p : Addr} {xs : List V} {v : V} (h : H p = some (.lst xs)) (l : xs.length < sizeLine) (q : Q .non (upd H p (.lst (xs ++ [v])))) : rAppend (.ref p) [v] H Q := ⟨p, xs, v, rfl, rfl, h, l, q⟩
theorem e_noS {P : Str → Prop} {a : Int} : (∃ y : Str, V.int a = .str y ∧ P y) = False := propext ⟨fun ⟨_, e, _⟩ => (nomatch e), False.elim⟩
theorem e_noI {P : Int → Prop} {a : Str} : (∃ y : Int, V.str a = .int y ∧ P y) = False := propext ⟨fun ⟨_, e, _⟩ => (nomatch e), False.elim⟩
theorem e_orF {A : Prop} : (False ∨ A) = A := propext ⟨fun h => h.resolve_left id, .inr⟩
theorem e_orF' {A : Prop} : (A ∨ False) = A := propext ⟨fun h => h.resolve_right id, .inl⟩
theorem o_ip {f : Int → Int → Int} {a b : Int} : ipI f (.int a) (.int b) H Q = Q (.int (f a b)) H := propext ⟨fun ⟨i, j, e1, e2, q⟩ => by cases e1; cases e2; exact q, fun q => ⟨a, b, rfl, rfl, q⟩⟩
theorem o_rAdd {a b : Int} : rAdd (.int a) (.int b) H Q = Q (.int (a + b)) H := propext ⟨fun ⟨i, j, e1, e2, q⟩ => by cases e1; cases e2; exact q, fun q => ⟨a, b, rfl, rfl, q⟩⟩
theorem o_rSub {a b : Int} : rSub (.int a) (.int b) H Q = Q (.int (a - b)) H := propext ⟨fun ⟨i, j, e1, e2, q⟩ => by cases e1; cases e2; exact q, fun q => ⟨a, b, rfl, rfl, q⟩⟩
end
theorem at_in {α : Type} {xs : List α} {i : Int} {n : Nat} (h : xs.length = n) (h0 : 0 ≤ i) (h1 : i < (n : Int)) : ∃ c, atI xs i = some c ∧ c ∈ xs := by
  have hlt : i.toNat < xs.length := by omega
  have e : i = ((i.toNat : Nat) : Int) := by omega
  rw [e]
  exact ⟨xs[i.toNat], atI_nat (List.getElem?_eq_getElem hlt), List.getElem_mem hlt⟩
/-- an item of a list of ints -/
theorem at_ints {ns : List Int} {i : Int} (h0 : 0 ≤ i) (h1 : i < (ns.length : Int)) : ∃ z, atI (ns.map V.int) i = some (.int z) ∧ z ∈ ns ∧ ns[i.toNat]? = some z := by
  have hlt : i.toNat < ns.length := by omega
  have e : i = ((i.toNat : Nat) : Int) := by omega
  refine ⟨ns[i.toNat], ?_, List.getElem_mem hlt, List.getElem?_eq_getElem hlt⟩
  have e2 : atI (ns.map V.int) i = atI (ns.map V.int) ((i.toNat : Nat) : Int) := by rw [← e]
  rw [e2]
  exact atI_nat (by rw [List.getElem?_map, List.getElem?_eq_getElem hlt]; rfl)
section
variable {K : PySem.W.Frag} {σ : L2.St} {H : Hp} {Q : VK} {te : TE} {g : TG} {vs : List Nat}
/-- a comprehension of plain values -/
theorem x_lcP {J : It} {n : Nat} {G : Hp → Prop} {Y : Nat → Hp → V → Hp → Prop} (w : Walk J n G Y) (P : Nat → V → Prop) (hn : n ≤ 1000000) (hG : ∀ H', Same H H' → G H')
    (hs : ∀ i x H' H'' (Kk : VK), i < n → Same H H' → Y i H' x H'' → (∀ y H4, P i y → Same H' H4 → Kk y H4) → g x (wipe σ vs) H'' fun σ2 H2 => wipe σ2 vs = wipe σ vs ∧ te σ2 H2 Kk)
    (hd : ∀ p acc H', H p = none → Same H H' → H' p = some (.lst acc) → acc.length = n → (∀ i v, acc[i]? = some v → P i v) → Q (.ref p) H') : LcGo J H g tYes te vs σ Q :=
  x_lc w (fun D i acc H' => Same H H' ∧ acc.length = i ∧ ∀ j v, acc[j]? = some v → P j v)
    (fun D hD => ⟨same_new hD, rfl, fun j v e => by simp at e⟩) (fun D i acc H' p => hG H' p.1)
    (fun D i x acc H' H'' hD hi p hL hl y => hs i x H' H'' _ hi p.1 y fun z H4 hz s4 => by
      refine lc_yes (hp_same s4 hL) (Nat.le_of_eq p.2.1) (by omega) ⟨same_mut (p.1.trans s4) hD, by rw [List.length_append, List.length_singleton, p.2.1], fun j v e => ?_⟩
      by_cases c : j < acc.length
      · rw [List.getElem?_append_left c] at e
        exact p.2.2 j v e
      · rw [List.getElem?_append_right (by omega)] at e
        have c2 : j - acc.length = 0 := by
          have := (List.getElem?_eq_some_iff.mp e).1
          simp at this
          omega
        rw [c2] at e
        have e3 : z = v := by simpa using e
        have e4 : j = i := by have := p.2.1; omega
        rw [← e3, e4]
        exact hz)
    (fun D acc H' hD p hL _ => hd D acc H' hD p.1 hL p.2.1 p.2.2)
/-- a comprehension of ints -/
theorem x_lcJ {J : It} {n : Nat} {G : Hp → Prop} {Y : Nat → Hp → V → Hp → Prop} (w : Walk J n G Y) (hn : n ≤ 1000000) (P : Int → Prop) (hG : ∀ H', Same H H' → G H')
    (hs : ∀ (i : Nat) x H' H'' (Kk : VK), i < n → Same H H' → Y i H' x H'' → (∀ (y : Int) H4, P y → Same H' H4 → Kk (.int y) H4) → g x (wipe σ vs) H'' fun σ2 H2 => wipe σ2 vs = wipe σ vs ∧ te σ2 H2 Kk)
    (hd : ∀ p (zs : List Int) H', H p = none → Same H H' → H' p = some (.lst (zs.map V.int)) → zs.length = n → (∀ z ∈ zs, P z) → Q (.ref p) H') : LcGo J H g tYes te vs σ Q :=
  x_lcP w (fun _ v => ∃ y : Int, v = .int y ∧ P y) hn hG
    (fun i x H' H'' Kk hi s y q => hs i x H' H'' Kk hi s y fun y H4 p s4 => q _ _ ⟨y, rfl, p⟩ s4)
    fun p acc H' hp s hL hl ha => by
      have ⟨zs, e, hz⟩ : ∃ zs : List Int, acc = zs.map V.int ∧ ∀ z ∈ zs, P z := by
        clear hL hl
        induction acc with
        | nil => exact ⟨[], rfl, fun _ h => nomatch h⟩
        | cons v acc ih =>
          obtain ⟨y, rfl, py⟩ := ha 0 v rfl
          obtain ⟨zs, e, hz⟩ := ih (fun i v e => ha (i + 1) v (by simpa using e))
          exact ⟨y :: zs, by rw [e]; rfl, fun z m => by
            rcases List.mem_cons.mp m with rfl | m
            · exact py
            · exact hz z m⟩
      subst e
      exact hd p zs H' hp s hL (by rw [List.length_map] at hl; exact hl) hz
/-- over a range -/
theorem x_lcI {n : Nat} (hn : n ≤ 1000000) (P : Int → Prop)
    (hs : ∀ (i : Nat) H' (Kk : VK), i < n → Same H H' → (∀ (y : Int) H4, P y → Same H' H4 → Kk (.int y) H4) → g (.int (i : Int)) (wipe σ vs) H' fun σ2 H2 => wipe σ2 vs = wipe σ vs ∧ te σ2 H2 Kk)
    (hd : ∀ p (zs : List Int) H', H p = none → Same H H' → H' p = some (.lst (zs.map V.int)) → zs.length = n → (∀ z ∈ zs, P z) → Q (.ref p) H') : LcGo (Itr 0 n) H g tYes te vs σ Q :=
  x_lcJ walk_range hn P (fun _ _ => trivial)
    (fun i x H' H'' Kk hi s y q => by
      obtain ⟨rfl, rfl⟩ := y
      have e0 : (0 : Int) + (i : Int) = (i : Int) := Int.zero_add _
      show g (.int (0 + (i : Int))) _ _ _
      rw [e0]
      exact hs i _ Kk hi s q) hd
/-- over a list of ints -/
theorem x_lcL {a : Addr} {ns : List Int} (h : SqL K H a (ns.map V.int)) (hn : ns.length ≤ 1000000) (P : Int → Prop)
    (hs : ∀ (i : Nat) (z : Int) H' (Kk : VK), ns[i]? = some z → Same H H' → (∀ (y : Int) H4, P y → Same H' H4 → Kk (.int y) H4) → g (.int z) (wipe σ vs) H' fun σ2 H2 => wipe σ2 vs = wipe σ vs ∧ te σ2 H2 Kk)
    (hd : ∀ p (zs : List Int) H', H p = none → Same H H' → H' p = some (.lst (zs.map V.int)) → zs.length = ns.length → (∀ z ∈ zs, P z) → Q (.ref p) H') : LcGo (Itl K a) H g tYes te vs σ Q :=
  x_lcJ (walk_list (xs := ns.map V.int)) (by rw [List.length_map]; exact hn) P (fun H' s => s.seq h)
    (fun i x H' H'' Kk hi s y q => by
      obtain ⟨rfl, e⟩ := y
      rw [List.getElem?_map] at e
      cases c : ns[i]? with
      | none => rw [c] at e; cases e
      | some z => rw [c] at e; cases e; exact hs i z _ Kk c s q) (fun p zs H' a b c d e => hd p zs H' a b c (by rw [List.length_map] at d; exact d) e)
theorem rep_flat {v : V} : ∀ k : Nat, (List.replicate k [v]).flatten = List.replicate k v
  | 0 => rfl
  | k + 1 => by rw [List.replicate_succ, List.flatten_cons, rep_flat k]; rfl
theorem x_rep1 {l : Addr} {v : V} {k : Int} (h : H l = some (.lst [v])) (h0 : -(2 ^ 63) ≤ k) (h1 : k < 2 ^ 63) (hz : k.toNat ≤ sizeLine) (q : ∀ p, H p = none → Q (.ref p) (upd H p (.lst (List.replicate k.toNat v)))) : zMul (.ref l) (.int k) H Q :=
  ⟨l, k, [v], rfl, rfl, h, h0, h1, by simpa using hz, fun p hp => by rw [rep_flat]; exact q p hp⟩
theorem rep_ints {c : Int} {k : Nat} : List.replicate k (V.int c) = (List.replicate k c).map V.int := by rw [List.map_replicate]
end
theorem cut_to {xs : List Int} {j : Nat} : cutV (xs.map V.int) none (some (j : Int)) = (xs.take j).map V.int := by
  unfold cutV
  rw [HT.sIx_none, HT.sIx_nat, List.drop_zero, Nat.sub_zero, List.map_take, List.length_map]
  by_cases c : j ≤ xs.length
  · rw [Nat.min_eq_left c]
  · rw [Nat.min_eq_right (by omega), List.take_of_length_le (by rw [List.length_map]; exact Nat.le_refl _), List.take_of_length_le (by rw [List.length_map]; omega)]
/-- all but one thing stays -/
def SameX (p : Addr) (H H' : Hp) : Prop := ∀ b o, b ≠ p → H b = some o → H' b = some o
theorem SameX.of {p : Addr} {H H' : Hp} (s : Same H H') : SameX p H H' := fun b o _ h => s b o h
theorem SameX.refl (p : Addr) (H : Hp) : SameX p H H := fun _ _ _ h => h
theorem SameX.trans {p : Addr} {H H' H2 : Hp} (s : SameX p H H') (t : SameX p H' H2) : SameX p H H2 := fun b o n h => t b o n (s b o n h)
theorem SameX.upd {p : Addr} {H : Hp} {o : HO} : SameX p H (L2.upd H p o) := fun b u n h => by rw [upd_ne n]; exact h
theorem SameX.go {p : Addr} {H H' H2 : Hp} (s : SameX p H H') (t : Same H' H2) : SameX p H H2 := s.trans (.of t)
theorem SameX.mut {p : Addr} {H H' : Hp} {o : HO} (s : SameX p H H') : SameX p H (L2.upd H' p o) := s.trans .upd
/-- a draw: not negative, of not too many bits -/
def Drw (d : Int) : Prop := 0 ≤ d ∧ lg d ≤ 2000000
theorem Drw.div {d m : Int} (h : Drw d) (hm : 0 < m) : Drw (d / m) := by
  have h0 := h.1
  have e : d / m ≤ d := Int.ediv_le_self _ h0
  have e0 : 0 ≤ d / m := Int.ediv_nonneg h0 (by omega)
  exact ⟨e0, Nat.le_trans (lg_le (by omega)) h.2⟩
theorem x_addT {K : PySem.W.Frag} {H : Hp} {Q : VK} {a b : Addr} {xs ys : List V} (h1 : SqT K H a xs) (h2 : SqT K H b ys) (h : xs.length + ys.length ≤ sizeLine) (n1 : xs ≠ []) (n2 : ys ≠ []) (q : ∀ p, H p = none → Q (.ref p) (upd H p (.tup (xs ++ ys)))) : zAdd K (.ref a) (.ref b) H Q :=
  .inr ⟨a, b, xs, ys, rfl, rfl, h1, h2, h, fun e => absurd e n1, fun _ e => absurd e n2, fun _ _ => q⟩
/-- an item of a list of texts -/
theorem at_strs {ns : List Str} {i : Int} (h0 : 0 ≤ i) (h1 : i < (ns.length : Int)) : ∃ z, atI (ns.map V.str) i = some (.str z) ∧ z ∈ ns := by
  have hlt : i.toNat < ns.length := by omega
  have e : i = ((i.toNat : Nat) : Int) := by omega
  refine ⟨ns[i.toNat], ?_, List.getElem_mem hlt⟩
  have e2 : atI (ns.map V.str) i = atI (ns.map V.str) ((i.toNat : Nat) : Int) := by rw [← e]
  rw [e2]
  exact atI_nat (by rw [List.getElem?_map, List.getElem?_eq_getElem hlt]; rfl)
theorem flat_strs : ∀ ns : List Str, (ns.map V.str).all flatV = true
  | [] => rfl
  | x :: xs => by rw [List.map_cons, List.all_cons, flat_strs xs]; rfl
theorem rp_strs {K : PySem.W.Frag} {G : Hp} : ∀ ns : List Str, RpAll K G (ns.map V.str) (ns.map PyData.str)
  | [] => .nil
  | x :: xs => .cons (.str x) (rp_strs xs)
theorem good_strs {n : Nat} {ns : List Str} (h : ∀ x ∈ ns, PyData.strOk x = true) : Good (n + 2) (.tuple (ns.map PyData.str)) := good_tup fun d m => by
  obtain ⟨z, hz, rfl⟩ := List.mem_map.mp m
  exact good_str (h z hz)
theorem ne_non {H : Hp} {a b : Addr} {o : HO} (h : H a = none) (e : H b = some o) : b ≠ a := ne_of_none e h
theorem cut_from {xs : List Int} {j : Nat} (h : j ≤ xs.length) : cutV (xs.map V.int) (some (j : Int)) none = (xs.drop j).map V.int := by
  unfold cutV
  rw [HT.sIx_none, HT.sIx_nat, List.length_map, Nat.min_eq_left h, List.map_drop, List.take_of_length_le (by rw [List.length_drop, List.length_map]; exact Nat.le_refl _)]
theorem len_int {n : Int} (h : n.natAbs.log2 < 1920) : (Str.ofString (toString n)).length ≤ 1000 := by
  have b : n.natAbs < 2 ^ (1919 + 1) := Nat.lt_of_lt_of_le Nat.lt_log2_self (Nat.pow_le_pow_right (by decide) h)
  have t : (2 : Nat) ^ 1920 ≤ 10 ^ 900 := by decide +kernel
  have p : ∀ m : Nat, m < 2 ^ 1920 → (toString ((m : Nat) : Int)).toList.length ≤ 900 := fun m hm => by
    have z := PyProof.Rows.toString_length_le (v := (m : Int)) (by omega) (k := 900) (by decide) (by
      have e : ((10 : Int) ^ 900) = ((10 ^ 900 : Nat) : Int) := by
        first
          | exact (Int.natCast_pow 10 900).symm
          | simp
      rw [e]
      exact Int.ofNat_lt.mpr (Nat.lt_of_lt_of_le hm t))
    rw [PyProof.Rows.ofString_length] at z
    exact z
  rw [PyProof.Rows.ofString_length]
  cases n with
  | ofNat m => exact Nat.le_trans (p m b) (by decide)
  | negSucc m =>
    have e : toString (Int.negSucc m) = "-" ++ toString ((Nat.succ m : Nat) : Int) := rfl
    rw [e, String.toList_append, List.length_append]
    have : (toString ((Nat.succ m : Nat) : Int)).toList.length ≤ 900 := p (m + 1) b
    have e2 : ("-" : String).toList.length = 1 := by decide
    omega
theorem len_cat (a b : Str) : (a ++ b).length = a.length + b.length := by
  show (a ++ b).cps.size = _
  exact Array.size_append
theorem atI_mapI {ns : List Int} {i : Nat} {z : Int} (h : ns[i]? = some z) : atI (ns.map V.int) (i : Int) = some (.int z) := at_of rfl (by rw [List.getElem?_map, h]; rfl)
end Z
/-! the addresses of the package's classes and tuples -/
namespace Z
open PySem
structure Nm where
  c_LineError : Addr := 0
  c_BadPlan : Addr := 0
  c_NoSuchExchange : Addr := 0
  c_Plan : Addr := 0
  c_NoSuchTrunk : Addr := 0
  c_NoSuchCircuit : Addr := 0
  c_BadNumber : Addr := 0
  c_BadOctets : Addr := 0
  c_BadEntry : Addr := 0
  c_Journal : Addr := 0
  c_Record : Addr := 0
  c_NoIdleCircuit : Addr := 0
  c_NotHeld : Addr := 0
  c_Ends : Addr := 0
  c_NoSuchWord : Addr := 0
  c_Wire : Addr := 0
  c_NoSuchLine : Addr := 0
  c_LineDesk : Addr := 0
  c_Call : Addr := 0
  c_Board : Addr := 0
  c_ExchangeDown : Addr := 0
  c_ExchangeUp : Addr := 0
  c_LineBusy : Addr := 0
  c_NotRinging : Addr := 0
  c_NothingToHangUp : Addr := 0
  c_Exchange : Addr := 0
  c_Network : Addr := 0
  c_CallFile : Addr := 0
  c_Band : Addr := 0
  c_Charge : Addr := 0
  c_JoinedCall : Addr := 0
  c_Posting : Addr := 0
  c_Section : Addr := 0
  c_BadFile : Addr := 0
  c_NothingToFile : Addr := 0
  c_ForeignFile : Addr := 0
  c_ClashingFile : Addr := 0
  c_JournalTurned : Addr := 0
  c_BadHistory : Addr := 0
  c_Shelf : Addr := 0
  c_Collector : Addr := 0
  c_Tariff : Addr := 0
  c_ChargeRun : Addr := 0
  c_Contracts : Addr := 0
  c_Ledger : Addr := 0
  c_Office : Addr := 0
  c_Exporter : Addr := 0
  c_NoSuchFile : Addr := 0
  g_CAUSES : Addr := 0
  g_ROLES : Addr := 0
  g_KINDS : Addr := 0
  g_OPEN_SHAPES : Addr := 0
  g_DOWN_KINDS : Addr := 0
  g_UP_KINDS : Addr := 0
  g_BILLING_KINDS : Addr := 0
  g_MARKS : Addr := 0
  g_HEAD_ROLES : Addr := 0
  g_LEG_ROLES : Addr := 0
end Z
namespace Z
open PySem PySem.Spec PyProof.Rows L2
section
local macro_rules | `(tactic| walk_at "side") => `(tactic| first | assumption | omega | decide | exact Nat.le_refl _)
local macro_rules | `(tactic| walk_at "len") => `(tactic| (simp only [List.length_append, List.length_map, List.length_cons, List.length_nil, sizeLine_eq]; omega))
local macro_rules | `(tactic| walk_at "ne") => `(tactic| first | assumption | exact Ne.symm (by assumption) | exact ne_non (by assumption) (by walk_at "hp") | exact (ne_non (by assumption) (by walk_at "hp")).symm)
local macro_rules | `(tactic| walk_at "hp") => `(tactic| first | assumption | exact upd_same | ((with_reducible show upd _ _ _ _ = _); exact hp_ne (by walk_at "hp") (by walk_at "ne")) | exact hp_same (by assumption) (by walk_at "hp") | exact hp_grow (by assumption) (by walk_at "hp"))
local macro_rules | `(tactic| walk_at "sl") => `(tactic| first | assumption | exact SqL.of (by walk_at "hp") | exact sl_same (by assumption) (by walk_at "sl") | exact sl_grow (by assumption) (by walk_at "sl") | ((with_reducible show SqL _ (upd _ _ _) _ _); exact sl_same (same_new (by assumption)) (by walk_at "sl")))
local macro_rules | `(tactic| walk_at "st") => `(tactic| first | assumption | exact SqT.of (by walk_at "hp") | exact st_same (by assumption) (by walk_at "st") | exact st_grow (by assumption) (by walk_at "st") | ((with_reducible show SqT _ (upd _ _ _) _ _); exact st_same (same_new (by assumption)) (by walk_at "st")))
local macro_rules | `(tactic| walk_at "ev") => `(tactic| simp only [e_v0, e_n0, e_v1, e_n1, e_v2, e_n2, e_v3, e_n3, e_v4, e_n4, e_v5, e_n5, e_v6, e_n6, e_v7, e_n7, e_v8, e_n8, e_v9, e_n9, e_v10, e_n10, e_v11, e_n11, e_v12, e_n12, e_v13, e_n13, e_v14, e_n14, e_v15, e_n15, e_v16, e_n16, e_v17, e_n17, e_v18, e_n18, e_v19, e_n19, e_v20, e_n20, e_v21, e_n21, e_v22, e_n22, e_v23, e_n23, e_v24, e_n24, e_v25, e_n25, e_v26, e_n26, e_v27, e_n27, e_v28, e_n28, e_v29, e_n29, e_v30, e_n30, e_v31, e_n31, e_v32, e_n32, e_v33, e_n33, e_v34, e_n34, e_v35, e_n35, e_v36, e_n36, e_v37, e_n37, e_v38, e_n38, e_v39, e_n39, e_c, e_op, e_un, e_nil, e_cons, e_tup, e_lst, e_cb, e_call, e_bm, e_bm0, e_sl, e_nopart, e_part, e_chain, e_ifE, e_notT, e_andT, e_orT, e_test, e_tru, e_not, e_and, e_or, o_addI, o_addS, o_subI, o_mulI, o_divI, o_modI, o_powI, o_neg, o_eqNN, o_eqI, o_eqS, o_eqB, o_eqNI, o_eqIN, o_eqNS, o_eqSN, o_eqNB, o_eqBN, o_eqIS, o_eqSI, o_eqBS, o_eqSB, o_neNN, o_neI, o_neS, o_neB, o_neNI, o_neIN, o_neNS, o_neSN, o_neNB, o_neBN, o_neIS, o_neSI, o_neBS, o_neSB, o_ltI, o_ltS, o_leI, o_gtI, o_geI, o_isN, o_isI, o_isS, o_isB, o_isR, o_isBB, o_isnN, o_isnI, o_isnS, o_isnB, o_isnR, o_isnBB, e_fld, e_meth, e_make, e_fmt, e_fmtI, e_fmtS, e_joined, e_js0, e_js1, o_intI, o_intB, o_str, e_iR1, e_intL, e_iL, e_iT, e_iS, e_lc, e_yes1, e_ref, e_strx, o_isi_non_bool, o_isi_non_int, o_isi_non_str, o_isi_non_tuple, o_isi_non_list, o_isi_bl_bool, o_isi_bl_int, o_isi_bl_str, o_isi_bl_tuple, o_isi_bl_list, o_isi_int_bool, o_isi_int_int, o_isi_int_str, o_isi_int_tuple, o_isi_int_list, o_isi_str_bool, o_isi_str_int, o_isi_str_str, o_isi_str_tuple, o_isi_str_list, e_bl, e_int, e_truB, e_truI, e_truN, e_yes, e_no, e_yesT, e_noF, Bool.not_true, Bool.not_false, e_sub, e_noS, e_noI, e_orF, e_orF', o_ip, o_rAdd, o_rSub])
local macro_rules | `(tactic| walk_at "s1") => `(tactic| first | with_reducible refine x_seq ?_ | with_reducible refine x_asg ?_ | with_reducible refine x_ret ?_ | with_reducible refine x_drop ?_ | with_reducible refine x_next ?_ | with_reducible refine x_for ?_ | with_reducible refine x_retN ?_ | with_reducible refine x_brk ?_ | with_reducible refine x_cont ?_ | with_reducible refine x_raise ?_ | with_reducible refine x_aug ?_)
local macro_rules | `(tactic| walk_at "a1") => `(tactic| first | ((with_reducible refine And.intro ?_ ?_); (· first | omega | ((with_reducible apply cdiv) <;> omega) | ((with_reducible apply cmul) <;> omega) | walk_at "len" | ((with_reducible apply x_appT); walk_at "hp"))) | ((with_reducible apply x_lenL); · walk_at "sl") | ((with_reducible apply x_lenT); · walk_at "st") | ((with_reducible apply x_rapp); (· walk_at "hp"); (· walk_at "len")) | ((with_reducible apply x_ixL); (· walk_at "sl"); (· assumption)) | ((with_reducible apply x_ixT); (· walk_at "st"); (· assumption)))
local macro_rules | `(tactic| walk_at "go") => `(tactic| repeat (first | walk_at "s1" | walk_at "ev" | walk_at "a1"))
local macro_rules | `(tactic| walk_at "wp") => `(tactic| simp only [wipe, List.set_cons_zero, List.set_cons_succ])
local macro_rules | `(tactic| walk_at "gi") => `(tactic| (refine x_if ?_; walk_at "go"))
/-! ### _law_bounds: bounds waits -/
def sp__law_bounds (K : PySem.W.Frag) (N : Nm) : Sp := fun vs H Q _ => vs = [] ∧ RetV H (.bl true) Q
theorem len__law_bounds {K : PySem.W.Frag} {N : Nm} {vs : List V} {H : Hp} {Q : VK} {E : XK} (h : sp__law_bounds K N vs H Q E) : vs.length = 0 := by
  obtain ⟨rfl, _⟩ := h
  rfl
def t__law_bounds (K : PySem.W.Frag) (N : Nm) (E : XK) : TS :=
  tSeq (tAsg (tTup (tCons (tC (.int 6)) (tCons (tC (.int 12)) (tCons (tC (.int 6)) (tCons (tC (.int 24)) (tCons (tC (.int 60)) (tCons (tC (.int 15)) (tCons (tC (.int 6)) (tNil))))))))) (gName 0))
    (tSeq (tAsg (tTup (tCons (tC (.int 8)) (tCons (tC (.int 16)) (tCons (tC (.int 6)) (tCons (tC (.int 30)) (tCons (tC (.int 40)) (tCons (tC (.int 12)) (tNil)))))))) (gName 1))
    (tRet (tAndT K (tOp (zEq K) (zVar 0) (tTup (tCons (tC (.int 6)) (tCons (tC (.int 12)) (tCons (tC (.int 6)) (tCons (tC (.int 24)) (tCons (tC (.int 60)) (tCons (tC (.int 15)) (tCons (tC (.int 6)) (tNil)))))))))) (tOp (zEq K) (zVar 1) (tTup (tCons (tC (.int 8)) (tCons (tC (.int 16)) (tCons (tC (.int 6)) (tCons (tC (.int 30)) (tCons (tC (.int 40)) (tCons (tC (.int 12)) (tNil))))))))))))
abbrev n__law_bounds : List Str := ["bounds", "waits"]
theorem pure__law_bounds {K : PySem.W.Frag} {N : Nm} {vs : List V} {H : Hp} {Q : VK} {E : XK} (h : sp__law_bounds K N vs H Q E) : t__law_bounds K N E ⟨fun _ H' => Q .non H', Q, fun _ _ => False, fun _ _ => False⟩ (start n__law_bounds vs) H := by
  obtain ⟨rfl, k⟩ := h
  show t__law_bounds K N E _ [none, none] H
  unfold t__law_bounds
  walk_at "go"
  intro p np
  walk_at "go"
  intro q nq
  walk_at "go"
  intro l nl
  have hp := SqT.of (K := K) (same_new (o := .tup [V.int 6, .int 12, .int 6, .int 24, .int 60, .int 15, .int 6]) nl _ _ (same_new (o := .tup [V.int 8, .int 16, .int 6, .int 30, .int 40, .int 12]) nq _ _ (upd_same (H := H) (a := p) (o := .tup [V.int 6, .int 12, .int 6, .int 24, .int 60, .int 15, .int 6]))))
  refine x_eqA (.tup hp (RpAll.ints [6, 12, 6, 24, 60, 15, 6])) (rp_new (RpAll.ints [6, 12, 6, 24, 60, 15, 6]) nl) (good_intsT (n := 62)) ?_
  walk_at "go"
  intro r nr
  have hq := SqT.of (K := K) (same_new (o := .tup [V.int 8, .int 16, .int 6, .int 30, .int 40, .int 12]) nr _ _ (same_new (o := .tup [V.int 6, .int 12, .int 6, .int 24, .int 60, .int 15, .int 6]) nl _ _ (upd_same (H := upd H p (.tup [V.int 6, .int 12, .int 6, .int 24, .int 60, .int 15, .int 6])) (a := q) (o := .tup [V.int 8, .int 16, .int 6, .int 30, .int 40, .int 12]))))
  refine x_eqA (.tup hq (RpAll.ints [8, 16, 6, 30, 40, 12])) (rp_new (RpAll.ints [8, 16, 6, 30, 40, 12]) nr) (good_intsT (n := 62)) ?_
  exact k _ ((((same_new np).trans (same_new nq)).trans (same_new nl)).trans (same_new nr))
end
section
local macro_rules | `(tactic| walk_at "side") => `(tactic| first | assumption | omega | decide | exact Nat.le_refl _)
local macro_rules | `(tactic| walk_at "len") => `(tactic| (simp only [List.length_cons, List.length_nil, sizeLine_eq]; omega))
local macro_rules | `(tactic| walk_at "ne") => `(tactic| first | assumption | exact Ne.symm (by assumption) | exact ne_of_none (by walk_at "hp") (by assumption) | exact (ne_of_none (by walk_at "hp") (by assumption)).symm)
local macro_rules | `(tactic| walk_at "hp") => `(tactic| first | assumption | exact upd_same | ((with_reducible show upd _ _ _ _ = _); exact hp_ne (by walk_at "hp") (by walk_at "ne")) | exact hp_same (by assumption) (by walk_at "hp") | exact hp_grow (by assumption) (by walk_at "hp"))
local macro_rules | `(tactic| walk_at "sl") => `(tactic| first | assumption | exact SqL.of (by walk_at "hp") | exact sl_same (by assumption) (by walk_at "sl") | exact sl_grow (by assumption) (by walk_at "sl") | exact sl_same (same_new (by assumption)) (by walk_at "sl"))
local macro_rules | `(tactic| walk_at "st") => `(tactic| first | assumption | exact SqT.of (by walk_at "hp") | exact st_same (by assumption) (by walk_at "st") | exact st_grow (by assumption) (by walk_at "st") | exact st_same (same_new (by assumption)) (by walk_at "st"))
local macro_rules | `(tactic| walk_at "ev") => `(tactic| simp only [e_v0, e_n0, e_v1, e_n1, e_v2, e_n2, e_v3, e_n3, e_v4, e_n4, e_v5, e_n5, e_v6, e_n6, e_v7, e_n7, e_v8, e_n8, e_v9, e_n9, e_v10, e_n10, e_v11, e_n11, e_v12, e_n12, e_v13, e_n13, e_v14, e_n14, e_v15, e_n15, e_v16, e_n16, e_v17, e_n17, e_v18, e_n18, e_v19, e_n19, e_v20, e_n20, e_v21, e_n21, e_v22, e_n22, e_v23, e_n23, e_v24, e_n24, e_v25, e_n25, e_v26, e_n26, e_v27, e_n27, e_v28, e_n28, e_v29, e_n29, e_v30, e_n30, e_v31, e_n31, e_v32, e_n32, e_v33, e_n33, e_v34, e_n34, e_v35, e_n35, e_v36, e_n36, e_v37, e_n37, e_v38, e_n38, e_v39, e_n39, e_c, e_op, e_un, e_nil, e_cons, e_tup, e_lst, e_cb, e_call, e_bm, e_bm0, e_sl, e_nopart, e_part, e_chain, e_ifE, e_notT, e_andT, e_orT, e_test, e_tru, e_not, e_and, e_or, o_addI, o_addS, o_subI, o_mulI, o_divI, o_modI, o_powI, o_neg, o_eqNN, o_eqI, o_eqS, o_eqB, o_eqNI, o_eqIN, o_eqNS, o_eqSN, o_eqNB, o_eqBN, o_eqIS, o_eqSI, o_eqBS, o_eqSB, o_neNN, o_neI, o_neS, o_neB, o_neNI, o_neIN, o_neNS, o_neSN, o_neNB, o_neBN, o_neIS, o_neSI, o_neBS, o_neSB, o_ltI, o_ltS, o_leI, o_gtI, o_geI, o_isN, o_isI, o_isS, o_isB, o_isR, o_isBB, o_isnN, o_isnI, o_isnS, o_isnB, o_isnR, o_isnBB, e_fld, e_meth, e_make, e_fmt, e_fmtI, e_fmtS, e_joined, e_js0, e_js1, o_intI, o_intB, o_str, e_iR1, e_intL, e_iL, e_iT, e_iS, e_lc, e_yes1, e_ref, e_strx, o_isi_non_bool, o_isi_non_int, o_isi_non_str, o_isi_non_tuple, o_isi_non_list, o_isi_bl_bool, o_isi_bl_int, o_isi_bl_str, o_isi_bl_tuple, o_isi_bl_list, o_isi_int_bool, o_isi_int_int, o_isi_int_str, o_isi_int_tuple, o_isi_int_list, o_isi_str_bool, o_isi_str_int, o_isi_str_str, o_isi_str_tuple, o_isi_str_list, e_bl, e_int, e_truB, e_truI, e_truN, e_yes, e_no, e_yesT, e_noF, Bool.not_true, Bool.not_false])
local macro_rules | `(tactic| walk_at "s1") => `(tactic| first | with_reducible refine x_seq ?_ | with_reducible refine x_asg ?_ | with_reducible refine x_ret ?_ | with_reducible refine x_drop ?_ | with_reducible refine x_next ?_ | with_reducible refine x_for ?_ | with_reducible refine x_retN ?_ | with_reducible refine x_brk ?_ | with_reducible refine x_cont ?_ | with_reducible refine x_raise ?_)
local macro_rules | `(tactic| walk_at "a1") => `(tactic| first | (with_reducible refine ⟨(cdiv (by decide) (by decide) : CDivW _ _), ?_⟩) | (with_reducible refine ⟨(by decide : (0 : Int) < _), ?_⟩) | (with_reducible refine ⟨(by walk_at "len" : List.length _ ≤ sizeLine), ?_⟩))
local macro_rules | `(tactic| walk_at "go") => `(tactic| repeat (first | walk_at "s1" | walk_at "ev" | walk_at "a1"))
local macro_rules | `(tactic| walk_at "wp") => `(tactic| simp only [wipe, List.set_cons_zero, List.set_cons_succ])
local macro_rules | `(tactic| walk_at "gi") => `(tactic| (refine x_if ?_; walk_at "go"))
/-! ### _law_draws: script count draws k cell -/
/-- a draw: not negative, of not too many bits -/
def Big (d : Int) : Prop := 0 ≤ d ∧ lg d ≤ 2000000
def sp__law_draws (K : PySem.W.Frag) (N : Nm) : Sp := fun vs H Q _ => ∃ (a : Addr) (ns : List Int) (c : Nat), vs = [.ref a, .int c] ∧ SqL K H a (ns.map V.int) ∧ ns.length ≤ 63 ∧ (∀ z ∈ ns, Builtin.Int.intBits z ≤ 1048576) ∧ c ≤ 1000 ∧
  ∀ ds : List Int, ds.length = c → (∀ d ∈ ds, Big d) → RetL H (ds.map V.int) Q
theorem len__law_draws {K : PySem.W.Frag} {N : Nm} {vs : List V} {H : Hp} {Q : VK} {E : XK} (h : sp__law_draws K N vs H Q E) : vs.length = 2 := by
  obtain ⟨_, _, _, rfl, _⟩ := h
  rfl
theorem atI_map {ns : List Int} {i : Nat} {z : Int} (h : ns[i]? = some z) : atI (ns.map V.int) (i : Int) = some (.int z) := at_of rfl (by rw [List.getElem?_map, h]; rfl)
theorem draw_step {cell : Int} (k : Int) (h0 : 0 ≤ k) (hk : k ≤ 1000) (h : lg cell ≤ 1100000) : CMulB cell 6364136223846793005 ∧ CMulB 1442695040888963407 (k + 1) ∧ CMulB (((cell * 6364136223846793005 + 1442695040888963407 * (k + 1)) % 9223372036854775783)) 2862933555777941757 ∧
    Big ((((cell * 6364136223846793005 + 1442695040888963407 * (k + 1)) % 9223372036854775783) * 2862933555777941757 + 3037000493 + k) % 18446744073709551557) := by
  refine ⟨cmul_lg h (lg_small (n := 64) (by decide) (by decide)) (by decide), cmul (by decide) (by omega), ?_, ?_⟩
  · have h1 := Int.emod_nonneg (cell * 6364136223846793005 + 1442695040888963407 * (k + 1)) (by decide : (9223372036854775783 : Int) ≠ 0)
    have h2 := Int.emod_lt_of_pos (cell * 6364136223846793005 + 1442695040888963407 * (k + 1)) (by decide : (0 : Int) < 9223372036854775783)
    exact cmul (by omega) (by decide)
  · generalize (((cell * 6364136223846793005 + 1442695040888963407 * (k + 1)) % 9223372036854775783) * 2862933555777941757 + 3037000493 + k) = u
    have h1 := Int.emod_nonneg u (by decide : (18446744073709551557 : Int) ≠ 0)
    have h2 := Int.emod_lt_of_pos u (by decide : (0 : Int) < 18446744073709551557)
    exact ⟨h1, Nat.le_trans (lg_small (n := 64) (by decide) (by omega)) (by decide)⟩
theorem draw_neg {z : Int} (h : lg z ≤ 1048576) : CMulB 2 z ∧ lg (1 - 2 * z) ≤ 1100000 := by
  have e2 : lg 2 ≤ 2 := lg_small (by decide) (by decide)
  have e1 : lg 1 ≤ 1 := lg_small (by decide) (by decide)
  refine ⟨cmul_lg e2 h (by decide), ?_⟩
  have h1 := lg_mul 2 z
  have h2 := lg_add 1 (-(2 * z))
  have h3 : lg (-(2 * z)) ≤ lg (2 * z) := lg_le (by omega)
  have e : (1 : Int) - 2 * z = 1 + -(2 * z) := by omega
  rw [e]
  omega
def t__law_draws (K : PySem.W.Frag) (N : Nm) (E : XK) : TS :=
  tSeq (tAsg (tLst (tNil)) (gName 2))
    (tSeq (tFor (iRng1 (tCons (zVar 1) (tNil))) (gName 3)
      (tSeq (tAsg (tC (.int 0)) (gName 4))
    (tSeq (tIfS (tTest (tOp (zGt) (tCB (zLen K) (tCons (zVar 0) (tNil))) (tC (.int 0)))) (tAsg (tCB (zInt) (tCons (tOp (zIx K) (zVar 0) (tOp (zMod) (zVar 3) (tCB (zLen K) (tCons (zVar 0) (tNil))))) (tNil))) (gName 4)) (tNext))
    (tSeq (tIfS (tTest (tOp (zLt K) (zVar 4) (tC (.int 0)))) (tAsg (tOp (zSub) (tC (.int 1)) (tOp (zMul) (tC (.int 2)) (zVar 4))) (gName 4)) (tNext))
    (tSeq (tIfS (tOr (tTest (tOp (zLt K) (zVar 4) (tC (.int 1000000000)))) (tTest (tOp (zGe) (zVar 3) (tCB (zLen K) (tCons (zVar 0) (tNil)))))) (tSeq (tAsg (tOp (zMod) (tCB (zInt) (tCons (tOp (zAdd K) (tOp (zMul) (zVar 4) (tC (.int 6364136223846793005))) (tOp (zMul) (tC (.int 1442695040888963407)) (tOp (zAdd K) (zVar 3) (tC (.int 1))))) (tNil))) (tC (.int 9223372036854775783))) (gName 4))
    (tAsg (tOp (zMod) (tCB (zInt) (tCons (tOp (zAdd K) (tOp (zAdd K) (tOp (zMul) (zVar 4) (tC (.int 2862933555777941757))) (tC (.int 3037000493))) (zVar 3)) (tNil))) (tC (.int 18446744073709551557))) (gName 4))) (tNext))
    (tDrop (tBM K "list" (rAppend) (zVar 2) (tCons (zVar 4) (tNil)))))))))
    (tRet (zVar 2)))
abbrev n__law_draws : List Str := ["script", "count", "draws", "k", "cell"]
theorem pure__law_draws {K : PySem.W.Frag} {N : Nm} {vs : List V} {H : Hp} {Q : VK} {E : XK} (h : sp__law_draws K N vs H Q E) : t__law_draws K N E ⟨fun _ H' => Q .non H', Q, fun _ _ => False, fun _ _ => False⟩ (start n__law_draws vs) H := by
  obtain ⟨a, ns, c, rfl, hS, hl, hb, hc, k⟩ := h
  show t__law_draws K N E _ [some (.ref a), some (.int c), none, none, none] H
  unfold t__law_draws
  walk_at "go"
  intro l hl0
  walk_at "go"
  refine ⟨by omega, by omega, ?_⟩
  refine x_range (n := (c : Int).toNat) (fun i σ H' => ∃ (ds : List Int) (v3 v4 : Option V), σ = [some (.ref a), some (.int c), some (.ref l), v3, v4] ∧ Same H H' ∧ H' l = some (.lst (ds.map V.int)) ∧ ds.length = i ∧ ∀ d ∈ ds, Big d)
    ⟨[], none, none, rfl, same_new hl0, upd_same, rfl, fun _ h => nomatch h⟩ ?_ ?_
  · rintro i σ' H' hi ⟨ds, v3, v4, rfl, s, hL, hn, hB⟩
    have hi' : i < c := by omega
    have hS' := s.seq hS
    walk_at "go"
    -- cell of the script
    refine x_mid (fun σ2 H2 => ∃ z : Int, σ2 = [some (.ref a), some (.int c), some (.ref l), some (.int i), some (.int z)] ∧ H2 = H' ∧ lg z ≤ 1048576) ?_ ?_
    rotate_left
    · intro key
      walk_at "gi"
      refine x_lenL hS' ?_
      walk_at "go"
      refine x_br (fun h0 => ?_) (fun h0 => ?_)
      · walk_at "go"
        refine x_lenL hS' ?_
        walk_at "go"
        refine ⟨by omega, ?_⟩
        have hm := Int.emod_nonneg (i : Int) (by omega : (((ns.map V.int).length : Nat) : Int) ≠ 0)
        have hM := Int.emod_lt_of_pos (i : Int) (by omega : (0 : Int) < (((ns.map V.int).length : Nat) : Int))
        generalize hj : (i : Int) % (((ns.map V.int).length : Nat) : Int) = j at hm hM ⊢
        have hj2 : j = ((j.toNat : Nat) : Int) := by omega
        rw [List.length_map] at hM
        have hlt : j.toNat < ns.length := by omega
        rw [hj2]
        refine x_ixL hS' (atI_map (List.getElem?_eq_getElem hlt)) ?_
        walk_at "go"
        exact key _ _ ⟨_, rfl, rfl, lg_bits (hb _ (List.getElem_mem hlt))⟩
      · walk_at "go"
        exact key _ _ ⟨0, rfl, rfl, by unfold lg; exact Nat.le_trans (by decide : (0 : Int).natAbs.log2 ≤ 0) (Nat.zero_le _)⟩
    rintro σ2 H2 ⟨z, rfl, rfl, hz⟩
    walk_at "go"
    refine x_mid (fun σ2 H3 => ∃ z : Int, σ2 = [some (.ref a), some (.int c), some (.ref l), some (.int i), some (.int z)] ∧ H3 = H2 ∧ lg z ≤ 1100000 ∧ 0 ≤ z) ?_ ?_
    rotate_left
    · intro key
      walk_at "gi"
      refine x_br (fun h0 => ?_) (fun h0 => ?_)
      · walk_at "go"
        refine ⟨(draw_neg hz).1, ?_⟩
        exact key _ _ ⟨_, rfl, rfl, (draw_neg hz).2, by omega⟩
      · walk_at "go"
        exact key _ _ ⟨_, rfl, rfl, by omega, by omega⟩
    rintro σ2 H3 ⟨y, rfl, rfl, hy, hy0⟩
    walk_at "go"
    refine x_mid (fun σ2 H2 => ∃ z : Int, σ2 = [some (.ref a), some (.int c), some (.ref l), some (.int i), some (.int z)] ∧ H2 = H3 ∧ Big z) ?_ ?_
    rotate_left
    · intro key
      obtain ⟨d1, d2, d3, d4⟩ := draw_step (cell := y) i (by omega) (by omega) hy
      walk_at "gi"
      refine x_br (fun h0 => ?_) (fun h0 => ?_)
      · walk_at "go"
        refine ⟨d1, d2, ?_⟩
        walk_at "go"
        refine ⟨d3, ?_⟩
        walk_at "go"
        exact key _ _ ⟨_, rfl, rfl, d4⟩
      · walk_at "go"
        refine x_lenL hS' ?_
        walk_at "go"
        refine x_br (fun h0 => ?_) (fun h0 => ?_)
        · walk_at "go"
          refine ⟨d1, d2, ?_⟩
          walk_at "go"
          refine ⟨d3, ?_⟩
          walk_at "go"
          exact key _ _ ⟨_, rfl, rfl, d4⟩
        · walk_at "go"
          exact key _ _ ⟨_, rfl, rfl, hy0, by omega⟩
    rintro σ2 H2 ⟨x, rfl, rfl, hx⟩
    walk_at "go"
    refine x_app hL (by rw [List.length_map, hn, sizeLine_eq]; omega) ?_
    refine ⟨ds ++ [x], some (.int i), some (.int x), rfl, same_mut s hl0, ?_, ?_, ?_⟩
    · rw [List.map_append]; exact upd_same
    · rw [List.length_append, hn]; rfl
    · intro d hd
      rcases List.mem_append.mp hd with hd | hd
      · exact hB d hd
      · rw [List.mem_singleton.mp hd]; exact hx
  · rintro σ' H' ⟨ds, v3, v4, rfl, s, hL, hn, hB⟩
    walk_at "go"
    exact k ds (by omega) hB l H' hl0 s hL
end
section
local macro_rules | `(tactic| walk_at "side") => `(tactic| first | assumption | omega | decide | exact Nat.le_refl _)
local macro_rules | `(tactic| walk_at "len") => `(tactic| (simp only [List.length_append, List.length_map, List.length_cons, List.length_nil, sizeLine_eq]; omega))
local macro_rules | `(tactic| walk_at "ne") => `(tactic| first | assumption | exact Ne.symm (by assumption) | exact ne_non (by assumption) (by walk_at "hp") | exact (ne_non (by assumption) (by walk_at "hp")).symm)
local macro_rules | `(tactic| walk_at "hp") => `(tactic| first | assumption | exact upd_same | ((with_reducible show upd _ _ _ _ = _); exact hp_ne (by walk_at "hp") (by walk_at "ne")) | exact hp_same (by assumption) (by walk_at "hp") | exact hp_grow (by assumption) (by walk_at "hp"))
local macro_rules | `(tactic| walk_at "sl") => `(tactic| first | assumption | exact SqL.of (by walk_at "hp") | exact sl_same (by assumption) (by walk_at "sl") | exact sl_grow (by assumption) (by walk_at "sl") | ((with_reducible show SqL _ (upd _ _ _) _ _); exact sl_same (same_new (by assumption)) (by walk_at "sl")))
local macro_rules | `(tactic| walk_at "st") => `(tactic| first | assumption | exact SqT.of (by walk_at "hp") | exact st_same (by assumption) (by walk_at "st") | exact st_grow (by assumption) (by walk_at "st") | ((with_reducible show SqT _ (upd _ _ _) _ _); exact st_same (same_new (by assumption)) (by walk_at "st")))
local macro_rules | `(tactic| walk_at "ev") => `(tactic| simp only [e_v0, e_n0, e_v1, e_n1, e_v2, e_n2, e_v3, e_n3, e_v4, e_n4, e_v5, e_n5, e_v6, e_n6, e_v7, e_n7, e_v8, e_n8, e_v9, e_n9, e_v10, e_n10, e_v11, e_n11, e_v12, e_n12, e_v13, e_n13, e_v14, e_n14, e_v15, e_n15, e_v16, e_n16, e_v17, e_n17, e_v18, e_n18, e_v19, e_n19, e_v20, e_n20, e_v21, e_n21, e_v22, e_n22, e_v23, e_n23, e_v24, e_n24, e_v25, e_n25, e_v26, e_n26, e_v27, e_n27, e_v28, e_n28, e_v29, e_n29, e_v30, e_n30, e_v31, e_n31, e_v32, e_n32, e_v33, e_n33, e_v34, e_n34, e_v35, e_n35, e_v36, e_n36, e_v37, e_n37, e_v38, e_n38, e_v39, e_n39, e_c, e_op, e_un, e_nil, e_cons, e_tup, e_lst, e_cb, e_call, e_bm, e_bm0, e_sl, e_nopart, e_part, e_chain, e_ifE, e_notT, e_andT, e_orT, e_test, e_tru, e_not, e_and, e_or, o_addI, o_addS, o_subI, o_mulI, o_divI, o_modI, o_powI, o_neg, o_eqNN, o_eqI, o_eqS, o_eqB, o_eqNI, o_eqIN, o_eqNS, o_eqSN, o_eqNB, o_eqBN, o_eqIS, o_eqSI, o_eqBS, o_eqSB, o_neNN, o_neI, o_neS, o_neB, o_neNI, o_neIN, o_neNS, o_neSN, o_neNB, o_neBN, o_neIS, o_neSI, o_neBS, o_neSB, o_ltI, o_ltS, o_leI, o_gtI, o_geI, o_isN, o_isI, o_isS, o_isB, o_isR, o_isBB, o_isnN, o_isnI, o_isnS, o_isnB, o_isnR, o_isnBB, e_fld, e_meth, e_make, e_fmt, e_fmtI, e_fmtS, e_joined, e_js0, e_js1, o_intI, o_intB, o_str, e_iR1, e_intL, e_iL, e_iT, e_iS, e_lc, e_yes1, e_ref, e_strx, o_isi_non_bool, o_isi_non_int, o_isi_non_str, o_isi_non_tuple, o_isi_non_list, o_isi_bl_bool, o_isi_bl_int, o_isi_bl_str, o_isi_bl_tuple, o_isi_bl_list, o_isi_int_bool, o_isi_int_int, o_isi_int_str, o_isi_int_tuple, o_isi_int_list, o_isi_str_bool, o_isi_str_int, o_isi_str_str, o_isi_str_tuple, o_isi_str_list, e_bl, e_int, e_truB, e_truI, e_truN, e_yes, e_no, e_yesT, e_noF, Bool.not_true, Bool.not_false, e_sub, e_noS, e_noI, e_orF, e_orF', o_ip, o_rAdd, o_rSub])
local macro_rules | `(tactic| walk_at "s1") => `(tactic| first | with_reducible refine x_seq ?_ | with_reducible refine x_asg ?_ | with_reducible refine x_ret ?_ | with_reducible refine x_drop ?_ | with_reducible refine x_next ?_ | with_reducible refine x_for ?_ | with_reducible refine x_retN ?_ | with_reducible refine x_brk ?_ | with_reducible refine x_cont ?_ | with_reducible refine x_raise ?_ | with_reducible refine x_aug ?_)
local macro_rules | `(tactic| walk_at "a1") => `(tactic| first | ((with_reducible refine And.intro ?_ ?_); (· first | omega | ((with_reducible apply cdiv) <;> omega) | ((with_reducible apply cmul) <;> omega) | walk_at "len" | ((with_reducible apply x_appT); walk_at "hp"))) | ((with_reducible apply x_lenL); · walk_at "sl") | ((with_reducible apply x_lenT); · walk_at "st") | ((with_reducible apply x_rapp); (· walk_at "hp"); (· walk_at "len")) | ((with_reducible apply x_ixL); (· walk_at "sl"); (· assumption)) | ((with_reducible apply x_ixT); (· walk_at "st"); (· assumption)))
local macro_rules | `(tactic| walk_at "go") => `(tactic| repeat (first | walk_at "s1" | walk_at "ev" | walk_at "a1"))
local macro_rules | `(tactic| walk_at "wp") => `(tactic| simp only [wipe, List.set_cons_zero, List.set_cons_succ])
local macro_rules | `(tactic| walk_at "gi") => `(tactic| (refine x_if ?_; walk_at "go"))
/-! ### comes_from_owner: kind -/
def downs : List Str := ["setup", "release", "pulse"]
def sp_comes_from_owner (K : PySem.W.Frag) (N : Nm) : Sp := fun vs H Q _ => ∃ s : Str, vs = [.str s] ∧ Q (.bl (inV (.str s) (downs.map V.str))) H
theorem len_comes_from_owner {K : PySem.W.Frag} {N : Nm} {vs : List V} {H : Hp} {Q : VK} {E : XK} (h : sp_comes_from_owner K N vs H Q E) : vs.length = 1 := by
  obtain ⟨_, rfl, _⟩ := h
  rfl
def t_comes_from_owner (K : PySem.W.Frag) (N : Nm) (E : XK) : TS :=
  tRet (tOp (zIn K) (zVar 0) (tC (.ref N.g_DOWN_KINDS)))
abbrev n_comes_from_owner : List Str := ["kind"]
theorem pure_comes_from_owner {K : PySem.W.Frag} {N : Nm} {vs : List V} {H : Hp} {Q : VK} {E : XK} (kt : KTup K N.g_DOWN_KINDS [.str "setup", .str "release", .str "pulse"]) (h : sp_comes_from_owner K N vs H Q E) : t_comes_from_owner K N E ⟨fun _ H' => Q .non H', Q, fun _ _ => False, fun _ _ => False⟩ (start n_comes_from_owner vs) H := by
  obtain ⟨s, rfl, k⟩ := h
  show t_comes_from_owner K N E _ [some (.str s)] H
  unfold t_comes_from_owner
  walk_at "go"
  exact x_memT (xs := downs.map V.str) kt.sq rfl (flat_strs _) k
end
section
local macro_rules | `(tactic| walk_at "side") => `(tactic| first | assumption | omega | decide | exact Nat.le_refl _)
local macro_rules | `(tactic| walk_at "len") => `(tactic| (simp only [List.length_append, List.length_map, List.length_cons, List.length_nil, sizeLine_eq]; omega))
local macro_rules | `(tactic| walk_at "ne") => `(tactic| first | assumption | exact Ne.symm (by assumption) | exact ne_non (by assumption) (by walk_at "hp") | exact (ne_non (by assumption) (by walk_at "hp")).symm)
local macro_rules | `(tactic| walk_at "hp") => `(tactic| first | assumption | exact upd_same | ((with_reducible show upd _ _ _ _ = _); exact hp_ne (by walk_at "hp") (by walk_at "ne")) | exact hp_same (by assumption) (by walk_at "hp") | exact hp_grow (by assumption) (by walk_at "hp"))
local macro_rules | `(tactic| walk_at "sl") => `(tactic| first | assumption | exact SqL.of (by walk_at "hp") | exact sl_same (by assumption) (by walk_at "sl") | exact sl_grow (by assumption) (by walk_at "sl") | ((with_reducible show SqL _ (upd _ _ _) _ _); exact sl_same (same_new (by assumption)) (by walk_at "sl")))
local macro_rules | `(tactic| walk_at "st") => `(tactic| first | assumption | exact SqT.of (by walk_at "hp") | exact st_same (by assumption) (by walk_at "st") | exact st_grow (by assumption) (by walk_at "st") | ((with_reducible show SqT _ (upd _ _ _) _ _); exact st_same (same_new (by assumption)) (by walk_at "st")))
local macro_rules | `(tactic| walk_at "ev") => `(tactic| simp only [e_v0, e_n0, e_v1, e_n1, e_v2, e_n2, e_v3, e_n3, e_v4, e_n4, e_v5, e_n5, e_v6, e_n6, e_v7, e_n7, e_v8, e_n8, e_v9, e_n9, e_v10, e_n10, e_v11, e_n11, e_v12, e_n12, e_v13, e_n13, e_v14, e_n14, e_v15, e_n15, e_v16, e_n16, e_v17, e_n17, e_v18, e_n18, e_v19, e_n19, e_v20, e_n20, e_v21, e_n21, e_v22, e_n22, e_v23, e_n23, e_v24, e_n24, e_v25, e_n25, e_v26, e_n26, e_v27, e_n27, e_v28, e_n28, e_v29, e_n29, e_v30, e_n30, e_v31, e_n31, e_v32, e_n32, e_v33, e_n33, e_v34, e_n34, e_v35, e_n35, e_v36, e_n36, e_v37, e_n37, e_v38, e_n38, e_v39, e_n39, e_c, e_op, e_un, e_nil, e_cons, e_tup, e_lst, e_cb, e_call, e_bm, e_bm0, e_sl, e_nopart, e_part, e_chain, e_ifE, e_notT, e_andT, e_orT, e_test, e_tru, e_not, e_and, e_or, o_addI, o_addS, o_subI, o_mulI, o_divI, o_modI, o_powI, o_neg, o_eqNN, o_eqI, o_eqS, o_eqB, o_eqNI, o_eqIN, o_eqNS, o_eqSN, o_eqNB, o_eqBN, o_eqIS, o_eqSI, o_eqBS, o_eqSB, o_neNN, o_neI, o_neS, o_neB, o_neNI, o_neIN, o_neNS, o_neSN, o_neNB, o_neBN, o_neIS, o_neSI, o_neBS, o_neSB, o_ltI, o_ltS, o_leI, o_gtI, o_geI, o_isN, o_isI, o_isS, o_isB, o_isR, o_isBB, o_isnN, o_isnI, o_isnS, o_isnB, o_isnR, o_isnBB, e_fld, e_meth, e_make, e_fmt, e_fmtI, e_fmtS, e_joined, e_js0, e_js1, o_intI, o_intB, o_str, e_iR1, e_intL, e_iL, e_iT, e_iS, e_lc, e_yes1, e_ref, e_strx, o_isi_non_bool, o_isi_non_int, o_isi_non_str, o_isi_non_tuple, o_isi_non_list, o_isi_bl_bool, o_isi_bl_int, o_isi_bl_str, o_isi_bl_tuple, o_isi_bl_list, o_isi_int_bool, o_isi_int_int, o_isi_int_str, o_isi_int_tuple, o_isi_int_list, o_isi_str_bool, o_isi_str_int, o_isi_str_str, o_isi_str_tuple, o_isi_str_list, e_bl, e_int, e_truB, e_truI, e_truN, e_yes, e_no, e_yesT, e_noF, Bool.not_true, Bool.not_false, e_sub, e_noS, e_noI, e_orF, e_orF', o_ip, o_rAdd, o_rSub])
local macro_rules | `(tactic| walk_at "s1") => `(tactic| first | with_reducible refine x_seq ?_ | with_reducible refine x_asg ?_ | with_reducible refine x_ret ?_ | with_reducible refine x_drop ?_ | with_reducible refine x_next ?_ | with_reducible refine x_for ?_ | with_reducible refine x_retN ?_ | with_reducible refine x_brk ?_ | with_reducible refine x_cont ?_ | with_reducible refine x_raise ?_ | with_reducible refine x_aug ?_)
local macro_rules | `(tactic| walk_at "a1") => `(tactic| first | ((with_reducible refine And.intro ?_ ?_); (· first | omega | ((with_reducible apply cdiv) <;> omega) | ((with_reducible apply cmul) <;> omega) | walk_at "len" | ((with_reducible apply x_appT); walk_at "hp"))) | ((with_reducible apply x_lenL); · walk_at "sl") | ((with_reducible apply x_lenT); · walk_at "st") | ((with_reducible apply x_rapp); (· walk_at "hp"); (· walk_at "len")) | ((with_reducible apply x_ixL); (· walk_at "sl"); (· assumption)) | ((with_reducible apply x_ixT); (· walk_at "st"); (· assumption)))
local macro_rules | `(tactic| walk_at "go") => `(tactic| repeat (first | walk_at "s1" | walk_at "ev" | walk_at "a1"))
local macro_rules | `(tactic| walk_at "wp") => `(tactic| simp only [wipe, List.set_cons_zero, List.set_cons_succ])
local macro_rules | `(tactic| walk_at "gi") => `(tactic| (refine x_if ?_; walk_at "go"))
/-! ### down_kinds:  -/
def sp_down_kinds (K : PySem.W.Frag) (N : Nm) : Sp := fun vs H Q _ => vs = [] ∧ Q (.ref N.g_DOWN_KINDS) H
theorem len_down_kinds {K : PySem.W.Frag} {N : Nm} {vs : List V} {H : Hp} {Q : VK} {E : XK} (h : sp_down_kinds K N vs H Q E) : vs.length = 0 := by
  obtain ⟨rfl, _⟩ := h
  rfl
def t_down_kinds (K : PySem.W.Frag) (N : Nm) (E : XK) : TS :=
  tRet (tC (.ref N.g_DOWN_KINDS))
abbrev n_down_kinds : List Str := []
theorem pure_down_kinds {K : PySem.W.Frag} {N : Nm} {vs : List V} {H : Hp} {Q : VK} {E : XK} (h : sp_down_kinds K N vs H Q E) : t_down_kinds K N E ⟨fun _ H' => Q .non H', Q, fun _ _ => False, fun _ _ => False⟩ (start n_down_kinds vs) H := by
  obtain ⟨rfl, k⟩ := h
  show t_down_kinds K N E _ [] H
  unfold t_down_kinds
  walk_at "go"
  exact k
end
section
local macro_rules | `(tactic| walk_at "side") => `(tactic| first | assumption | omega | decide | exact Nat.le_refl _)
local macro_rules | `(tactic| walk_at "len") => `(tactic| (simp only [List.length_append, List.length_map, List.length_cons, List.length_nil, sizeLine_eq]; omega))
local macro_rules | `(tactic| walk_at "ne") => `(tactic| first | assumption | exact Ne.symm (by assumption) | exact ne_non (by assumption) (by walk_at "hp") | exact (ne_non (by assumption) (by walk_at "hp")).symm)
local macro_rules | `(tactic| walk_at "hp") => `(tactic| first | assumption | exact upd_same | ((with_reducible show upd _ _ _ _ = _); exact hp_ne (by walk_at "hp") (by walk_at "ne")) | exact hp_same (by assumption) (by walk_at "hp") | exact hp_grow (by assumption) (by walk_at "hp"))
local macro_rules | `(tactic| walk_at "sl") => `(tactic| first | assumption | exact SqL.of (by walk_at "hp") | exact sl_same (by assumption) (by walk_at "sl") | exact sl_grow (by assumption) (by walk_at "sl") | ((with_reducible show SqL _ (upd _ _ _) _ _); exact sl_same (same_new (by assumption)) (by walk_at "sl")))
local macro_rules | `(tactic| walk_at "st") => `(tactic| first | assumption | exact SqT.of (by walk_at "hp") | exact st_same (by assumption) (by walk_at "st") | exact st_grow (by assumption) (by walk_at "st") | ((with_reducible show SqT _ (upd _ _ _) _ _); exact st_same (same_new (by assumption)) (by walk_at "st")))
local macro_rules | `(tactic| walk_at "ev") => `(tactic| simp only [e_v0, e_n0, e_v1, e_n1, e_v2, e_n2, e_v3, e_n3, e_v4, e_n4, e_v5, e_n5, e_v6, e_n6, e_v7, e_n7, e_v8, e_n8, e_v9, e_n9, e_v10, e_n10, e_v11, e_n11, e_v12, e_n12, e_v13, e_n13, e_v14, e_n14, e_v15, e_n15, e_v16, e_n16, e_v17, e_n17, e_v18, e_n18, e_v19, e_n19, e_v20, e_n20, e_v21, e_n21, e_v22, e_n22, e_v23, e_n23, e_v24, e_n24, e_v25, e_n25, e_v26, e_n26, e_v27, e_n27, e_v28, e_n28, e_v29, e_n29, e_v30, e_n30, e_v31, e_n31, e_v32, e_n32, e_v33, e_n33, e_v34, e_n34, e_v35, e_n35, e_v36, e_n36, e_v37, e_n37, e_v38, e_n38, e_v39, e_n39, e_c, e_op, e_un, e_nil, e_cons, e_tup, e_lst, e_cb, e_call, e_bm, e_bm0, e_sl, e_nopart, e_part, e_chain, e_ifE, e_notT, e_andT, e_orT, e_test, e_tru, e_not, e_and, e_or, o_addI, o_addS, o_subI, o_mulI, o_divI, o_modI, o_powI, o_neg, o_eqNN, o_eqI, o_eqS, o_eqB, o_eqNI, o_eqIN, o_eqNS, o_eqSN, o_eqNB, o_eqBN, o_eqIS, o_eqSI, o_eqBS, o_eqSB, o_neNN, o_neI, o_neS, o_neB, o_neNI, o_neIN, o_neNS, o_neSN, o_neNB, o_neBN, o_neIS, o_neSI, o_neBS, o_neSB, o_ltI, o_ltS, o_leI, o_gtI, o_geI, o_isN, o_isI, o_isS, o_isB, o_isR, o_isBB, o_isnN, o_isnI, o_isnS, o_isnB, o_isnR, o_isnBB, e_fld, e_meth, e_make, e_fmt, e_fmtI, e_fmtS, e_joined, e_js0, e_js1, o_intI, o_intB, o_str, e_iR1, e_intL, e_iL, e_iT, e_iS, e_lc, e_yes1, e_ref, e_strx, o_isi_non_bool, o_isi_non_int, o_isi_non_str, o_isi_non_tuple, o_isi_non_list, o_isi_bl_bool, o_isi_bl_int, o_isi_bl_str, o_isi_bl_tuple, o_isi_bl_list, o_isi_int_bool, o_isi_int_int, o_isi_int_str, o_isi_int_tuple, o_isi_int_list, o_isi_str_bool, o_isi_str_int, o_isi_str_str, o_isi_str_tuple, o_isi_str_list, e_bl, e_int, e_truB, e_truI, e_truN, e_yes, e_no, e_yesT, e_noF, Bool.not_true, Bool.not_false, e_sub, e_noS, e_noI, e_orF, e_orF', o_ip, o_rAdd, o_rSub])
local macro_rules | `(tactic| walk_at "s1") => `(tactic| first | with_reducible refine x_seq ?_ | with_reducible refine x_asg ?_ | with_reducible refine x_ret ?_ | with_reducible refine x_drop ?_ | with_reducible refine x_next ?_ | with_reducible refine x_for ?_ | with_reducible refine x_retN ?_ | with_reducible refine x_brk ?_ | with_reducible refine x_cont ?_ | with_reducible refine x_raise ?_ | with_reducible refine x_aug ?_)
local macro_rules | `(tactic| walk_at "a1") => `(tactic| first | ((with_reducible refine And.intro ?_ ?_); (· first | omega | ((with_reducible apply cdiv) <;> omega) | ((with_reducible apply cmul) <;> omega) | walk_at "len" | ((with_reducible apply x_appT); walk_at "hp"))) | ((with_reducible apply x_lenL); · walk_at "sl") | ((with_reducible apply x_lenT); · walk_at "st") | ((with_reducible apply x_rapp); (· walk_at "hp"); (· walk_at "len")) | ((with_reducible apply x_ixL); (· walk_at "sl"); (· assumption)) | ((with_reducible apply x_ixT); (· walk_at "st"); (· assumption)))
local macro_rules | `(tactic| walk_at "go") => `(tactic| repeat (first | walk_at "s1" | walk_at "ev" | walk_at "a1"))
local macro_rules | `(tactic| walk_at "wp") => `(tactic| simp only [wipe, List.set_cons_zero, List.set_cons_succ])
local macro_rules | `(tactic| walk_at "gi") => `(tactic| (refine x_if ?_; walk_at "go"))
/-! ### up_kinds:  -/
def sp_up_kinds (K : PySem.W.Frag) (N : Nm) : Sp := fun vs H Q _ => vs = [] ∧ Q (.ref N.g_UP_KINDS) H
theorem len_up_kinds {K : PySem.W.Frag} {N : Nm} {vs : List V} {H : Hp} {Q : VK} {E : XK} (h : sp_up_kinds K N vs H Q E) : vs.length = 0 := by
  obtain ⟨rfl, _⟩ := h
  rfl
def t_up_kinds (K : PySem.W.Frag) (N : Nm) (E : XK) : TS :=
  tRet (tC (.ref N.g_UP_KINDS))
abbrev n_up_kinds : List Str := []
theorem pure_up_kinds {K : PySem.W.Frag} {N : Nm} {vs : List V} {H : Hp} {Q : VK} {E : XK} (h : sp_up_kinds K N vs H Q E) : t_up_kinds K N E ⟨fun _ H' => Q .non H', Q, fun _ _ => False, fun _ _ => False⟩ (start n_up_kinds vs) H := by
  obtain ⟨rfl, k⟩ := h
  show t_up_kinds K N E _ [] H
  unfold t_up_kinds
  walk_at "go"
  exact k
end
section
local macro_rules | `(tactic| walk_at "side") => `(tactic| first | assumption | omega | decide | exact Nat.le_refl _)
local macro_rules | `(tactic| walk_at "len") => `(tactic| (simp only [List.length_append, List.length_map, List.length_cons, List.length_nil, sizeLine_eq]; omega))
local macro_rules | `(tactic| walk_at "ne") => `(tactic| first | assumption | exact Ne.symm (by assumption) | exact ne_non (by assumption) (by walk_at "hp") | exact (ne_non (by assumption) (by walk_at "hp")).symm)
local macro_rules | `(tactic| walk_at "hp") => `(tactic| first | assumption | exact upd_same | ((with_reducible show upd _ _ _ _ = _); exact hp_ne (by walk_at "hp") (by walk_at "ne")) | exact hp_same (by assumption) (by walk_at "hp") | exact hp_grow (by assumption) (by walk_at "hp"))
local macro_rules | `(tactic| walk_at "sl") => `(tactic| first | assumption | exact SqL.of (by walk_at "hp") | exact sl_same (by assumption) (by walk_at "sl") | exact sl_grow (by assumption) (by walk_at "sl") | ((with_reducible show SqL _ (upd _ _ _) _ _); exact sl_same (same_new (by assumption)) (by walk_at "sl")))
local macro_rules | `(tactic| walk_at "st") => `(tactic| first | assumption | exact SqT.of (by walk_at "hp") | exact st_same (by assumption) (by walk_at "st") | exact st_grow (by assumption) (by walk_at "st") | ((with_reducible show SqT _ (upd _ _ _) _ _); exact st_same (same_new (by assumption)) (by walk_at "st")))
local macro_rules | `(tactic| walk_at "ev") => `(tactic| simp only [e_v0, e_n0, e_v1, e_n1, e_v2, e_n2, e_v3, e_n3, e_v4, e_n4, e_v5, e_n5, e_v6, e_n6, e_v7, e_n7, e_v8, e_n8, e_v9, e_n9, e_v10, e_n10, e_v11, e_n11, e_v12, e_n12, e_v13, e_n13, e_v14, e_n14, e_v15, e_n15, e_v16, e_n16, e_v17, e_n17, e_v18, e_n18, e_v19, e_n19, e_v20, e_n20, e_v21, e_n21, e_v22, e_n22, e_v23, e_n23, e_v24, e_n24, e_v25, e_n25, e_v26, e_n26, e_v27, e_n27, e_v28, e_n28, e_v29, e_n29, e_v30, e_n30, e_v31, e_n31, e_v32, e_n32, e_v33, e_n33, e_v34, e_n34, e_v35, e_n35, e_v36, e_n36, e_v37, e_n37, e_v38, e_n38, e_v39, e_n39, e_c, e_op, e_un, e_nil, e_cons, e_tup, e_lst, e_cb, e_call, e_bm, e_bm0, e_sl, e_nopart, e_part, e_chain, e_ifE, e_notT, e_andT, e_orT, e_test, e_tru, e_not, e_and, e_or, o_addI, o_addS, o_subI, o_mulI, o_divI, o_modI, o_powI, o_neg, o_eqNN, o_eqI, o_eqS, o_eqB, o_eqNI, o_eqIN, o_eqNS, o_eqSN, o_eqNB, o_eqBN, o_eqIS, o_eqSI, o_eqBS, o_eqSB, o_neNN, o_neI, o_neS, o_neB, o_neNI, o_neIN, o_neNS, o_neSN, o_neNB, o_neBN, o_neIS, o_neSI, o_neBS, o_neSB, o_ltI, o_ltS, o_leI, o_gtI, o_geI, o_isN, o_isI, o_isS, o_isB, o_isR, o_isBB, o_isnN, o_isnI, o_isnS, o_isnB, o_isnR, o_isnBB, e_fld, e_meth, e_make, e_fmt, e_fmtI, e_fmtS, e_joined, e_js0, e_js1, o_intI, o_intB, o_str, e_iR1, e_intL, e_iL, e_iT, e_iS, e_lc, e_yes1, e_ref, e_strx, o_isi_non_bool, o_isi_non_int, o_isi_non_str, o_isi_non_tuple, o_isi_non_list, o_isi_bl_bool, o_isi_bl_int, o_isi_bl_str, o_isi_bl_tuple, o_isi_bl_list, o_isi_int_bool, o_isi_int_int, o_isi_int_str, o_isi_int_tuple, o_isi_int_list, o_isi_str_bool, o_isi_str_int, o_isi_str_str, o_isi_str_tuple, o_isi_str_list, e_bl, e_int, e_truB, e_truI, e_truN, e_yes, e_no, e_yesT, e_noF, Bool.not_true, Bool.not_false, e_sub, e_noS, e_noI, e_orF, e_orF', o_ip, o_rAdd, o_rSub])
local macro_rules | `(tactic| walk_at "s1") => `(tactic| first | with_reducible refine x_seq ?_ | with_reducible refine x_asg ?_ | with_reducible refine x_ret ?_ | with_reducible refine x_drop ?_ | with_reducible refine x_next ?_ | with_reducible refine x_for ?_ | with_reducible refine x_retN ?_ | with_reducible refine x_brk ?_ | with_reducible refine x_cont ?_ | with_reducible refine x_raise ?_ | with_reducible refine x_aug ?_)
local macro_rules | `(tactic| walk_at "a1") => `(tactic| first | ((with_reducible refine And.intro ?_ ?_); (· first | omega | ((with_reducible apply cdiv) <;> omega) | ((with_reducible apply cmul) <;> omega) | walk_at "len" | ((with_reducible apply x_appT); walk_at "hp"))) | ((with_reducible apply x_lenL); · walk_at "sl") | ((with_reducible apply x_lenT); · walk_at "st") | ((with_reducible apply x_rapp); (· walk_at "hp"); (· walk_at "len")) | ((with_reducible apply x_ixL); (· walk_at "sl"); (· assumption)) | ((with_reducible apply x_ixT); (· walk_at "st"); (· assumption)))
local macro_rules | `(tactic| walk_at "go") => `(tactic| repeat (first | walk_at "s1" | walk_at "ev" | walk_at "a1"))
local macro_rules | `(tactic| walk_at "wp") => `(tactic| simp only [wipe, List.set_cons_zero, List.set_cons_succ])
local macro_rules | `(tactic| walk_at "gi") => `(tactic| (refine x_if ?_; walk_at "go"))
/-! ### law: script draws causes roles down up k kind told -/
def sp_law (K : PySem.W.Frag) (N : Nm) : Sp := fun vs H Q _ => ∃ (a : Addr) (ns : List Int), vs = [.ref a] ∧ SqL K H a (ns.map V.int) ∧ ns.length ≤ 63 ∧ (∀ z ∈ ns, Builtin.Int.intBits z ≤ 1048576) ∧ ∀ H', Q (.bl true) H'
theorem len_law {K : PySem.W.Frag} {N : Nm} {vs : List V} {H : Hp} {Q : VK} {E : XK} (h : sp_law K N vs H Q E) : vs.length = 1 := by
  obtain ⟨_, _, rfl, _⟩ := h
  rfl
def causesL : List Str := ["hung up", "busy", "unallocated", "no route", "no answer", "loop", "lost", "crashed"]
def rolesL : List Str := ["origin", "transit", "end", "both", "divert"]
def upsL : List Str := ["done", "leave", "ok", "answer", "beat"]
def moreL : List Str := ["pulses", "Setup", "set"]
def t_law (K : PySem.W.Frag) (N : Nm) (E : XK) : TS :=
  tSeq (tAsg (tCallS (sp__law_draws K N) (WE (WD E)) (tCons (zVar 0) (tCons (tC (.int 12)) (tNil)))) (gName 1))
    (tSeq (tIfS (tOr (tNot (zTru K (tCallS (sp__law_bounds K N) (WE (WD E)) (tNil)))) (tOr (tNot (zTru K (tCB (zIsi K) (tCons (tC (.ref N.g_CAUSES)) (tCons (tC (.ty "tuple")) tNil))))) (tNot (zTru K (tCB (zIsi K) (tCons (tC (.ref N.g_ROLES)) (tCons (tC (.ty "tuple")) tNil))))))) (tRet (tC (.bl false))) (tNext))
    (tSeq (tAsg (tLst (tCons (tC (.str "hung up")) (tCons (tC (.str "busy")) (tCons (tC (.str "unallocated")) (tCons (tC (.str "no route")) (tCons (tC (.str "no answer")) (tCons (tC (.str "loop")) (tCons (tC (.str "lost")) (tCons (tC (.str "crashed")) (tNil)))))))))) (gName 2))
    (tSeq (tAsg (tLst (tCons (tC (.str "origin")) (tCons (tC (.str "transit")) (tCons (tC (.str "end")) (tCons (tC (.str "both")) (tCons (tC (.str "divert")) (tNil))))))) (gName 3))
    (tSeq (tAsg (tTup (tCons (tC (.str "setup")) (tCons (tC (.str "release")) (tCons (tC (.str "pulse")) (tNil))))) (gName 4))
    (tSeq (tAsg (tTup (tCons (tC (.str "done")) (tCons (tC (.str "leave")) (tCons (tC (.str "ok")) (tCons (tC (.str "answer")) (tCons (tC (.str "beat")) (tNil))))))) (gName 5))
    (tSeq (tIfS (tOr (tTest (tOp (zNe K) (tCB (zLen K) (tCons (tC (.ref N.g_CAUSES)) (tNil))) (tC (.int 8)))) (tOr (tTest (tOp (zNe K) (tCB (zLen K) (tCons (tC (.ref N.g_ROLES)) (tNil))) (tC (.int 5)))) (tOr (tTest (tOp (zNe K) (tCallS (sp_down_kinds K N) (WE (WD E)) (tNil)) (zVar 4))) (tTest (tOp (zNe K) (tCallS (sp_up_kinds K N) (WE (WD E)) (tNil)) (zVar 5)))))) (tRet (tC (.bl false))) (tNext))
    (tSeq (tFor (iRng1 (tCons (tC (.int 12)) (tNil))) (gName 6)
      (tSeq (tIfS (tOr (tTest (tOp (zNe K) (tOp (zIx K) (tC (.ref N.g_CAUSES)) (tOp (zMod) (tCB (zInt) (tCons (tOp (zIx K) (zVar 1) (zVar 6)) (tNil))) (tC (.int 8)))) (tOp (zIx K) (zVar 2) (tOp (zMod) (tCB (zInt) (tCons (tOp (zIx K) (zVar 1) (zVar 6)) (tNil))) (tC (.int 8)))))) (tTest (tOp (zNe K) (tOp (zIx K) (tC (.ref N.g_ROLES)) (tOp (zMod) (tCB (zInt) (tCons (tOp (zIx K) (zVar 1) (zVar 6)) (tNil))) (tC (.int 5)))) (tOp (zIx K) (zVar 3) (tOp (zMod) (tCB (zInt) (tCons (tOp (zIx K) (zVar 1) (zVar 6)) (tNil))) (tC (.int 5))))))) (tRet (tC (.bl false))) (tNext))
    (tSeq (tAsg (tOp (zIx K) (tOp (zAdd K) (tOp (zAdd K) (zVar 4) (zVar 5)) (tTup (tCons (tC (.str "pulses")) (tCons (tC (.str "Setup")) (tCons (tC (.str "set")) (tNil)))))) (tOp (zMod) (tCB (zInt) (tCons (tOp (zDiv) (tOp (zIx K) (zVar 1) (zVar 6)) (tC (.int 40))) (tNil))) (tC (.int 11)))) (gName 7))
    (tSeq (tAsg (tCallS (sp_comes_from_owner K N) (WE (WD E)) (tCons (zVar 7) (tNil))) (gName 8))
    (tIfS (tOr (tNot (zTru K (tCB (zIsi K) (tCons (zVar 8) (tCons (tC (.ty "bool")) tNil))))) (tTest (tOp (zNe K) (zVar 8) (tOp (zIn K) (zVar 7) (zVar 4))))) (tRet (tC (.bl false))) (tNext))))))
    (tRet (tC (.bl true))))))))))
abbrev n_law : List Str := ["script", "draws", "causes", "roles", "down", "up", "k", "kind", "told"]
theorem pure_law {K : PySem.W.Frag} {N : Nm} {vs : List V} {H : Hp} {Q : VK} {E : XK} (k1 : KTup K N.g_CAUSES (causesL.map V.str)) (k2 : KTup K N.g_ROLES (rolesL.map V.str)) (k3 : KTup K N.g_DOWN_KINDS (downs.map V.str)) (k4 : KTup K N.g_UP_KINDS (upsL.map V.str))
    (h : sp_law K N vs H Q E) : t_law K N E ⟨fun _ H' => Q .non H', Q, fun _ _ => False, fun _ _ => False⟩ (start n_law vs) H := by
  obtain ⟨a, ns, rfl, hS, hl, hb, k⟩ := h
  show t_law K N E _ [some (.ref a), none, none, none, none, none, none, none, none] H
  have sl : 1000000 ≤ sizeLine := by decide
  have t1 : ∀ H, SqT K H N.g_CAUSES (causesL.map V.str) := fun H => k1.sq
  have t2 : ∀ H, SqT K H N.g_ROLES (rolesL.map V.str) := fun H => k2.sq
  have t3 : ∀ H, SqT K H N.g_DOWN_KINDS (downs.map V.str) := fun H => k3.sq
  have t4 : ∀ H, SqT K H N.g_UP_KINDS (upsL.map V.str) := fun H => k4.sq
  unfold t_law
  walk_at "go"
  refine ⟨a, ns, 12, rfl, hS, hl, hb, by decide, fun ds hd hB p H1 np s1 hp => ?_⟩
  walk_at "go"
  walk_at "gi"
  refine ⟨rfl, fun H2 s2 => ?_⟩
  walk_at "go"
  refine isi_tup (t1 _) ?_
  walk_at "go"
  refine isi_tup (t2 _) ?_
  walk_at "go"
  intro c nc
  walk_at "go"
  intro r nr
  walk_at "go"
  intro d nd
  walk_at "go"
  intro u nu
  have hp6 := same_new (o := .tup (upsL.map V.str)) nu _ _ (same_new (o := .tup (downs.map V.str)) nd _ _ (same_new (o := .lst (rolesL.map V.str)) nr _ _ (same_new (o := .lst (causesL.map V.str)) nc _ _ (s2 _ _ hp))))
  have hc6 := same_new (o := .tup (upsL.map V.str)) nu _ _ (same_new (o := .tup (downs.map V.str)) nd _ _ (same_new (o := .lst (rolesL.map V.str)) nr _ _ (upd_same (H := H2) (a := c) (o := .lst (causesL.map V.str)))))
  have hr6 := same_new (o := .tup (upsL.map V.str)) nu _ _ (same_new (o := .tup (downs.map V.str)) nd _ _ (upd_same (H := upd H2 c (.lst (causesL.map V.str))) (a := r) (o := .lst (rolesL.map V.str))))
  have hd6 := same_new (o := .tup (upsL.map V.str)) nu _ _ (upd_same (H := upd (upd H2 c (.lst (causesL.map V.str))) r (.lst (rolesL.map V.str))) (a := d) (o := .tup (downs.map V.str)))
  have hu6 := upd_same (H := upd (upd (upd H2 c (.lst (causesL.map V.str))) r (.lst (rolesL.map V.str))) d (.tup (downs.map V.str))) (a := u) (o := .tup (upsL.map V.str))
  have gS : ∀ (h : Hp), h = upd (upd (upd (upd H2 c (.lst (causesL.map V.str))) r (.lst (rolesL.map V.str))) d (.tup (downs.map V.str))) u (.tup (upsL.map V.str)) → h p = some (.lst (ds.map V.int)) ∧ h c = some (.lst (causesL.map V.str)) ∧ h r = some (.lst (rolesL.map V.str)) ∧ h d = some (.tup (downs.map V.str)) ∧ h u = some (.tup (upsL.map V.str)) := fun h e => by
    rw [e]; exact ⟨hp6, hc6, hr6, hd6, hu6⟩
  walk_at "go"
  generalize hG : upd _ u _ = H6
  obtain ⟨hp, hc, hr, hd', hu⟩ := gS H6 hG.symm
  clear hp6 hc6 hr6 hd6 hu6 gS hG
  walk_at "gi"
  refine x_lenT (t1 _) ?_
  walk_at "go"
  refine x_nbr (fun hn => absurd (by decide) hn) (fun _ => ?_)
  walk_at "go"
  refine x_lenT (t2 _) ?_
  walk_at "go"
  refine x_nbr (fun hn => absurd (by decide) hn) (fun _ => ?_)
  walk_at "go"
  refine ⟨rfl, ?_⟩
  have g3 : Good 64 (.tuple (downs.map PyData.str)) := (good_strs (n := 0) (by decide +kernel)).up (by decide)
  have g4 : Good 64 (.tuple (upsL.map PyData.str)) := (good_strs (n := 0) (by decide +kernel)).up (by decide)
  refine x_neA (.tup (t3 _) (rp_strs _)) (.tup (SqT.of hd') (rp_strs _)) g3 ?_
  walk_at "go"
  refine ⟨rfl, ?_⟩
  refine x_neA (.tup (t4 _) (rp_strs _)) (.tup (SqT.of hu) (rp_strs _)) g4 ?_
  walk_at "go"
  refine x_range (n := ((12 : Int)).toNat) (fun i σ H' => ∃ v6 v7 v8 : Option V, σ = [some (.ref a), some (.ref p), some (.ref c), some (.ref r), some (.ref d), some (.ref u), v6, v7, v8] ∧ Same H6 H') ⟨_, _, _, rfl, Same.refl _⟩ ?_ ?_
  · rintro i σ' H' hi ⟨v6, v7, v8, rfl, s⟩
    have hi2 : i < 12 := hi
    obtain ⟨z, ez, _⟩ := at_ints (ns := ds) (i := (i : Int)) (by omega) (by omega)
    have hp7 := SqL.of (K := K) (s _ _ hp)
    have hc7 := SqL.of (K := K) (s _ _ hc)
    have hr7 := SqL.of (K := K) (s _ _ hr)
    have hd7 := SqT.of (K := K) (s _ _ hd')
    have hu7 := SqT.of (K := K) (s _ _ hu)
    obtain ⟨c1, e1, _⟩ := at_strs (ns := causesL) (i := z % 8) (by omega) (by show z % 8 < 8; omega)
    obtain ⟨c2, e2, _⟩ := at_strs (ns := rolesL) (i := z % 5) (by omega) (by show z % 5 < 5; omega)
    obtain ⟨c3, e3, _⟩ := at_strs (ns := downs ++ upsL ++ moreL) (i := z / 40 % 11) (by omega) (by show z / 40 % 11 < 11; omega)
    walk_at "go"
    walk_at "gi"
    refine x_ixT (t1 _) e1 ?_
    walk_at "go"
    refine x_nbr (fun hn => absurd trivial hn) (fun _ => ?_)
    walk_at "go"
    refine x_ixT (t2 _) e2 ?_
    walk_at "go"
    refine x_nbr (fun hn => absurd trivial hn) (fun _ => ?_)
    walk_at "go"
    refine x_addT hd7 hu7 (by show 8 ≤ sizeLine; omega) (by decide) (by decide) fun q1 nq1 => ?_
    walk_at "go"
    intro q2 nq2
    refine x_addT (st_same (same_new nq2) (SqT.of upd_same)) (SqT.of upd_same) (by show 11 ≤ sizeLine; omega) (by decide) (by decide) fun q3 nq3 => ?_
    have s3 := ((same_new (o := .tup (downs.map V.str ++ upsL.map V.str)) nq1).trans (same_new (o := .tup (moreL.map V.str)) nq2)).trans (same_new (o := .tup (downs.map V.str ++ upsL.map V.str ++ moreL.map V.str)) nq3)
    have hp8 := s3.seq hp7
    have hd8 := sqT_up s3 hd7
    walk_at "go"
    refine ⟨c3, rfl, ?_⟩
    walk_at "go"
    walk_at "gi"
    refine x_memT hd8 rfl (flat_strs _) ?_
    walk_at "go"
    refine x_nbr (fun hn => absurd trivial hn) (fun _ => ?_)
    walk_at "go"
    exact ⟨_, _, _, rfl, s.trans s3⟩
  rintro σ' H' ⟨v6, v7, v8, rfl, s⟩
  walk_at "go"
  exact k _
end
def topS (i : Nat) : Stmt := PySem.Challenge.pw_copperline_k39_bounds_causes_and_words.main.body.getD i (.Pass ⟨0, 0, 0, 0⟩)
abbrev st__law_bounds : Stmt := topS 23
theorem sc__law_bounds : FnScope ["bounds", "waits"] [] (defScope st__law_bounds) := ⟨rfl, rfl, rfl, by decide +kernel, rfl, by decide +kernel, by decide +kernel⟩
abbrev st__law_draws : Stmt := topS 22
theorem sc__law_draws : FnScope ["script", "count", "draws", "k", "cell"] ["script", "count"] (defScope st__law_draws) := ⟨rfl, rfl, rfl, by decide +kernel, rfl, by decide +kernel, by decide +kernel⟩
abbrev st_comes_from_owner : Stmt := topS 5
theorem sc_comes_from_owner : FnScope ["kind"] ["kind"] (defScope st_comes_from_owner) := ⟨rfl, rfl, rfl, by decide +kernel, rfl, by decide +kernel, by decide +kernel⟩
abbrev st_down_kinds : Stmt := topS 3
theorem sc_down_kinds : FnScope [] [] (defScope st_down_kinds) := ⟨rfl, rfl, rfl, by decide +kernel, rfl, by decide +kernel, by decide +kernel⟩
abbrev st_up_kinds : Stmt := topS 4
theorem sc_up_kinds : FnScope [] [] (defScope st_up_kinds) := ⟨rfl, rfl, rfl, by decide +kernel, rfl, by decide +kernel, by decide +kernel⟩
abbrev st_law : Stmt := topS 24
theorem sc_law : FnScope ["script", "draws", "causes", "roles", "down", "up", "k", "kind", "told"] ["script"] (defScope st_law) := ⟨rfl, rfl, rfl, by decide +kernel, rfl, by decide +kernel, by decide +kernel⟩
/-- what the top has written -/
structure Al (K : PySem.W.Frag) (mg : Str → Option Value) (N : Nm) where
  a__law_bounds : Addr
  d__law_bounds : FuncData
  F__law_bounds : Fun K "_law_bounds" "_law_bounds" st__law_bounds a__law_bounds d__law_bounds
  B__law_bounds : Binds K d__law_bounds [] []
  m__law_bounds : mg "_law_bounds" = some (.ref a__law_bounds)
  a__law_draws : Addr
  d__law_draws : FuncData
  F__law_draws : Fun K "_law_draws" "_law_draws" st__law_draws a__law_draws d__law_draws
  B__law_draws : Binds K d__law_draws ["script", "count"] []
  m__law_draws : mg "_law_draws" = some (.ref a__law_draws)
  a_comes_from_owner : Addr
  d_comes_from_owner : FuncData
  F_comes_from_owner : Fun K "comes_from_owner" "comes_from_owner" st_comes_from_owner a_comes_from_owner d_comes_from_owner
  B_comes_from_owner : Binds K d_comes_from_owner ["kind"] []
  m_comes_from_owner : mg "comes_from_owner" = some (.ref a_comes_from_owner)
  a_down_kinds : Addr
  d_down_kinds : FuncData
  F_down_kinds : Fun K "down_kinds" "down_kinds" st_down_kinds a_down_kinds d_down_kinds
  B_down_kinds : Binds K d_down_kinds [] []
  m_down_kinds : mg "down_kinds" = some (.ref a_down_kinds)
  a_up_kinds : Addr
  d_up_kinds : FuncData
  F_up_kinds : Fun K "up_kinds" "up_kinds" st_up_kinds a_up_kinds d_up_kinds
  B_up_kinds : Binds K d_up_kinds [] []
  m_up_kinds : mg "up_kinds" = some (.ref a_up_kinds)
  a_law : Addr
  d_law : FuncData
  F_law : Fun K "law" "law" st_law a_law d_law
  B_law : Binds K d_law ["script"] []
  m_law : mg "law" = some (.ref a_law)
  g_CAUSES : mg "CAUSES" = some (.ref N.g_CAUSES)
  kt_CAUSES : KTup K N.g_CAUSES [.str "hung up", .str "busy", .str "unallocated", .str "no route", .str "no answer", .str "loop", .str "lost", .str "crashed"]
  tk_DIGIT_LIMIT : Tok
  g_DIGIT_LIMIT : mg "DIGIT_LIMIT" = some (.int 15 tk_DIGIT_LIMIT)
  g_DOWN_KINDS : mg "DOWN_KINDS" = some (.ref N.g_DOWN_KINDS)
  kt_DOWN_KINDS : KTup K N.g_DOWN_KINDS [.str "setup", .str "release", .str "pulse"]
  tk_EXCHANGE_LIMIT : Tok
  g_EXCHANGE_LIMIT : mg "EXCHANGE_LIMIT" = some (.int 6 tk_EXCHANGE_LIMIT)
  tk_LINE_LIMIT : Tok
  g_LINE_LIMIT : mg "LINE_LIMIT" = some (.int 24 tk_LINE_LIMIT)
  tk_NUMBER_LIMIT : Tok
  g_NUMBER_LIMIT : mg "NUMBER_LIMIT" = some (.int 6 tk_NUMBER_LIMIT)
  tk_PASS_LIMIT : Tok
  g_PASS_LIMIT : mg "PASS_LIMIT" = some (.int 12 tk_PASS_LIMIT)
  tk_PEACE_ROUNDS : Tok
  g_PEACE_ROUNDS : mg "PEACE_ROUNDS" = some (.int 40 tk_PEACE_ROUNDS)
  tk_QUANTUM_LIMIT : Tok
  g_QUANTUM_LIMIT : mg "QUANTUM_LIMIT" = some (.int 60 tk_QUANTUM_LIMIT)
  tk_QUIET_TICKS : Tok
  g_QUIET_TICKS : mg "QUIET_TICKS" = some (.int 6 tk_QUIET_TICKS)
  tk_RING_TICKS : Tok
  g_RING_TICKS : mg "RING_TICKS" = some (.int 16 tk_RING_TICKS)
  g_ROLES : mg "ROLES" = some (.ref N.g_ROLES)
  kt_ROLES : KTup K N.g_ROLES [.str "origin", .str "transit", .str "end", .str "both", .str "divert"]
  tk_TRUNK_LIMIT : Tok
  g_TRUNK_LIMIT : mg "TRUNK_LIMIT" = some (.int 12 tk_TRUNK_LIMIT)
  tk_TRY_TICKS : Tok
  g_TRY_TICKS : mg "TRY_TICKS" = some (.int 8 tk_TRY_TICKS)
  g_UP_KINDS : mg "UP_KINDS" = some (.ref N.g_UP_KINDS)
  kt_UP_KINDS : KTup K N.g_UP_KINDS [.str "done", .str "leave", .str "ok", .str "answer", .str "beat"]
  tk_WAIT_TICKS : Tok
  g_WAIT_TICKS : mg "WAIT_TICKS" = some (.int 30 tk_WAIT_TICKS)
  tk_WIDTH_LIMIT : Tok
  g_WIDTH_LIMIT : mg "WIDTH_LIMIT" = some (.int 6 tk_WIDTH_LIMIT)
  b_bool : mg "bool" = none
  b_int : mg "int" = none
  b_isinstance : mg "isinstance" = none
  b_len : mg "len" = none
  b_range : mg "range" = none
  b_tuple : mg "tuple" = none
section
variable {P : Program} {w : World} {K : PySem.W.Frag} {mg : Str → Option Value} {base : Heap} {N : Nm}
theorem ok__law_bounds (A : Al K mg N) : FnOk P w K mg base (L2.CX P w) 1 A.a__law_bounds A.d__law_bounds [] (sp__law_bounds K N) := by
  refine A.F__law_bounds.okX (k := 0) sc__law_bounds (fun vs H Q E h => len__law_bounds h) (fun cdv A0 outer s H vs Q E hr h => ⟨t__law_bounds K N E, ?_, pure__law_bounds  h⟩)
  exact pss_cons (ps_set (i := 0) sc__law_bounds.nd rfl (by first | exact Or.inl rfl | exact Or.inr rfl) (pe_tup (pa_cons (pe_glob rfl A.g_EXCHANGE_LIMIT ⟨_, rfl⟩) (pa_cons (pe_glob rfl A.g_TRUNK_LIMIT ⟨_, rfl⟩) (pa_cons (pe_glob rfl A.g_WIDTH_LIMIT ⟨_, rfl⟩) (pa_cons (pe_glob rfl A.g_LINE_LIMIT ⟨_, rfl⟩) (pa_cons (pe_glob rfl A.g_QUANTUM_LIMIT ⟨_, rfl⟩) (pa_cons (pe_glob rfl A.g_DIGIT_LIMIT ⟨_, rfl⟩) (pa_cons (pe_glob rfl A.g_NUMBER_LIMIT ⟨_, rfl⟩) (pa_nil))))))))))
    (pss_cons (ps_set (i := 1) sc__law_bounds.nd rfl (by first | exact Or.inl rfl | exact Or.inr rfl) (pe_tup (pa_cons (pe_glob rfl A.g_TRY_TICKS ⟨_, rfl⟩) (pa_cons (pe_glob rfl A.g_RING_TICKS ⟨_, rfl⟩) (pa_cons (pe_glob rfl A.g_QUIET_TICKS ⟨_, rfl⟩) (pa_cons (pe_glob rfl A.g_WAIT_TICKS ⟨_, rfl⟩) (pa_cons (pe_glob rfl A.g_PEACE_ROUNDS ⟨_, rfl⟩) (pa_cons (pe_glob rfl A.g_PASS_LIMIT ⟨_, rfl⟩) (pa_nil)))))))))
    (pss_one (ps_ret (pe_andT (pe_cmpR (op_zEq hr.units) (zv 0) (pe_tup (pa_cons (pe_int) (pa_cons (pe_int) (pa_cons (pe_int) (pa_cons (pe_int) (pa_cons (pe_int) (pa_cons (pe_int) (pa_cons (pe_int) (pa_nil))))))))) (nomark _)) (pe_one (pe_cmpR (op_zEq hr.units) (zv 1) (pe_tup (pa_cons (pe_int) (pa_cons (pe_int) (pa_cons (pe_int) (pa_cons (pe_int) (pa_cons (pe_int) (pa_cons (pe_int) (pa_nil)))))))) (nomark _)))))))
theorem ok__law_draws (A : Al K mg N) : FnOk P w K mg base (L2.CX P w) 1 A.a__law_draws A.d__law_draws ["script", "count"] (sp__law_draws K N) := by
  refine A.F__law_draws.okX (k := 0) sc__law_draws (fun vs H Q E h => len__law_draws h) (fun cdv A0 outer s H vs Q E hr h => ⟨t__law_draws K N E, ?_, pure__law_draws  h⟩)
  exact pss_cons (ps_set (i := 2) sc__law_draws.nd rfl (by first | exact Or.inl rfl | exact Or.inr rfl) (pe_lst (pa_nil)))
    (pss_cons (ps_for (passes_of rfl) rfl (pi_range1 rfl A.b_range (pa_cons (zv 1) (pa_nil))) (pg_name (i := 3) sc__law_draws.nd rfl (by first | exact Or.inl rfl | exact Or.inr rfl))
      (pss_cons (ps_set (i := 4) sc__law_draws.nd rfl (by first | exact Or.inl rfl | exact Or.inr rfl) (pe_int))
    (pss_cons (ps_if (pt_cmpR op_zGt (pe_callB cr_len (by rfl) A.b_len zb_len (pa_cons (zv 0) (pa_nil))) (pe_int) (nomark _)) (pss_one (ps_set (i := 4) sc__law_draws.nd rfl (by first | exact Or.inl rfl | exact Or.inr rfl) (pe_callTy cr_int (by rfl) A.b_int zb_int (pa_cons (pe_ix (ix_z (hu_of hr)) (zv 0) (pe_op op_zMod (zv 3) (pe_callB cr_len (by rfl) A.b_len zb_len (pa_cons (zv 0) (pa_nil)))) (fun _ _ => rfl)) (pa_nil))))) (pss_nil))
    (pss_cons (ps_if (pt_cmpR (op_zLt hr.units) (zv 4) (pe_int) (nomark _)) (pss_one (ps_set (i := 4) sc__law_draws.nd rfl (by first | exact Or.inl rfl | exact Or.inr rfl) (pe_op op_zSub (pe_int) (pe_op op_zMul (pe_int) (zv 4))))) (pss_nil))
    (pss_cons (ps_if (PW.pt (pw_or (pt_cmpR (op_zLt hr.units) (zv 4) (pe_int) (nomark _)) (pw_or1 (pt_cmpR op_zGe (zv 3) (pe_callB cr_len (by rfl) A.b_len zb_len (pa_cons (zv 0) (pa_nil))) (nomark _))))) (pss_cons (ps_set (i := 4) sc__law_draws.nd rfl (by first | exact Or.inl rfl | exact Or.inr rfl) (pe_op op_zMod (pe_callTy cr_int (by rfl) A.b_int zb_int (pa_cons (pe_op op_zAdd (pe_op op_zMul (zv 4) (pe_int)) (pe_op op_zMul (pe_int) (pe_op op_zAdd (zv 3) (pe_int)))) (pa_nil))) (pe_int)))
    (pss_one (ps_set (i := 4) sc__law_draws.nd rfl (by first | exact Or.inl rfl | exact Or.inr rfl) (pe_op op_zMod (pe_callTy cr_int (by rfl) A.b_int zb_int (pa_cons (pe_op op_zAdd (pe_op op_zAdd (pe_op op_zMul (zv 4) (pe_int)) (pe_int)) (zv 3)) (pa_nil))) (pe_int))))) (pss_nil))
    (pss_one (ps_expr (pe_bm PySem.F.plainAttrs_list PySem.F.slot_list_append PySem.F.type_list_append mt_append (zv 2) (pa_cons (zv 4) (pa_nil))))))))))
    (pss_one (ps_ret (zv 2))))
theorem ok_comes_from_owner (A : Al K mg N) : FnOk P w K mg base (L2.CX P w) 1 A.a_comes_from_owner A.d_comes_from_owner ["kind"] (sp_comes_from_owner K N) := by
  refine A.F_comes_from_owner.okX (k := 0) sc_comes_from_owner (fun vs H Q E h => len_comes_from_owner h) (fun cdv A0 outer s H vs Q E hr h => ⟨t_comes_from_owner K N E, ?_, pure_comes_from_owner A.kt_DOWN_KINDS h⟩)
  exact pss_one (ps_ret (pe_cmpR (op_zIn (hu66 hr)) (zv 0) (pe_glob rfl A.g_DOWN_KINDS rfl) (by rfl)))
theorem ok_down_kinds (A : Al K mg N) : FnOk P w K mg base (L2.CX P w) 1 A.a_down_kinds A.d_down_kinds [] (sp_down_kinds K N) := by
  refine A.F_down_kinds.okX (k := 0) sc_down_kinds (fun vs H Q E h => len_down_kinds h) (fun cdv A0 outer s H vs Q E hr h => ⟨t_down_kinds K N E, ?_, pure_down_kinds  h⟩)
  exact pss_one (ps_ret (pe_glob rfl A.g_DOWN_KINDS rfl))
theorem ok_up_kinds (A : Al K mg N) : FnOk P w K mg base (L2.CX P w) 1 A.a_up_kinds A.d_up_kinds [] (sp_up_kinds K N) := by
  refine A.F_up_kinds.okX (k := 0) sc_up_kinds (fun vs H Q E h => len_up_kinds h) (fun cdv A0 outer s H vs Q E hr h => ⟨t_up_kinds K N E, ?_, pure_up_kinds  h⟩)
  exact pss_one (ps_ret (pe_glob rfl A.g_UP_KINDS rfl))
theorem ok_law (A : Al K mg N) : FnOk P w K mg base (L2.CX P w) 2 A.a_law A.d_law ["script"] (sp_law K N) := by
  refine A.F_law.okX (k := 1) sc_law (fun vs H Q E h => len_law h) (fun cdv A0 outer s H vs Q E hr h => ⟨t_law K N E, ?_, pure_law A.kt_CAUSES A.kt_ROLES A.kt_DOWN_KINDS A.kt_UP_KINDS h⟩)
  exact pss_cons (ps_set (i := 1) sc_law.nd rfl (by first | exact Or.inl rfl | exact Or.inr rfl) (pe_callS (ok__law_draws A) (hr.mono (by decide)) rfl A.m__law_draws A.F__law_draws.kp A.B__law_draws (fun σ => passAt (takes_of rfl rfl rfl rfl) σ) (pa_cons (zv 0) (pa_cons (pe_int) (pa_nil)))))
    (pss_cons (ps_if (PW.pt (pw_or (pt_not (pt_truth (pe_call0S (ok__law_bounds A) (hr.mono (by decide)) rfl A.m__law_bounds A.F__law_bounds.kp A.B__law_bounds (fun σ => passAt (takes_of rfl rfl rfl rfl) σ)) (by intro _; rfl))) (pw_or (pt_not (pt_truth (pe_callB cr_isi (by rfl) A.b_isinstance zb_isinstance (pa_cons (pe_glob rfl A.g_CAUSES rfl) (pa_cons (pe_bltn rfl A.b_tuple zb_tuple rfl) pa_nil))) (by intro _; rfl))) (pw_or1 (pt_not (pt_truth (pe_callB cr_isi (by rfl) A.b_isinstance zb_isinstance (pa_cons (pe_glob rfl A.g_ROLES rfl) (pa_cons (pe_bltn rfl A.b_tuple zb_tuple rfl) pa_nil))) (by intro _; rfl))))))) (pss_one (ps_ret (pe_bl))) (pss_nil))
    (pss_cons (ps_set (i := 2) sc_law.nd rfl (by first | exact Or.inl rfl | exact Or.inr rfl) (pe_lst (pa_cons (pe_str) (pa_cons (pe_str) (pa_cons (pe_str) (pa_cons (pe_str) (pa_cons (pe_str) (pa_cons (pe_str) (pa_cons (pe_str) (pa_cons (pe_str) (pa_nil)))))))))))
    (pss_cons (ps_set (i := 3) sc_law.nd rfl (by first | exact Or.inl rfl | exact Or.inr rfl) (pe_lst (pa_cons (pe_str) (pa_cons (pe_str) (pa_cons (pe_str) (pa_cons (pe_str) (pa_cons (pe_str) (pa_nil))))))))
    (pss_cons (ps_set (i := 4) sc_law.nd rfl (by first | exact Or.inl rfl | exact Or.inr rfl) (pe_tup (pa_cons (pe_str) (pa_cons (pe_str) (pa_cons (pe_str) (pa_nil))))))
    (pss_cons (ps_set (i := 5) sc_law.nd rfl (by first | exact Or.inl rfl | exact Or.inr rfl) (pe_tup (pa_cons (pe_str) (pa_cons (pe_str) (pa_cons (pe_str) (pa_cons (pe_str) (pa_cons (pe_str) (pa_nil))))))))
    (pss_cons (ps_if (PW.pt (pw_or (pt_cmpR (op_zNe hr.units) (pe_callB cr_len (by rfl) A.b_len zb_len (pa_cons (pe_glob rfl A.g_CAUSES rfl) (pa_nil))) (pe_int) (nomark _)) (pw_or (pt_cmpR (op_zNe hr.units) (pe_callB cr_len (by rfl) A.b_len zb_len (pa_cons (pe_glob rfl A.g_ROLES rfl) (pa_nil))) (pe_int) (nomark _)) (pw_or (pt_cmpR (op_zNe hr.units) (pe_call0S (ok_down_kinds A) (hr.mono (by decide)) rfl A.m_down_kinds A.F_down_kinds.kp A.B_down_kinds (fun σ => passAt (takes_of rfl rfl rfl rfl) σ)) (zv 4) (nomark _)) (pw_or1 (pt_cmpR (op_zNe hr.units) (pe_call0S (ok_up_kinds A) (hr.mono (by decide)) rfl A.m_up_kinds A.F_up_kinds.kp A.B_up_kinds (fun σ => passAt (takes_of rfl rfl rfl rfl) σ)) (zv 5) (nomark _))))))) (pss_one (ps_ret (pe_bl))) (pss_nil))
    (pss_cons (ps_for (passes_of rfl) rfl (pi_range1 rfl A.b_range (pa_cons (pe_int) (pa_nil))) (pg_name (i := 6) sc_law.nd rfl (by first | exact Or.inl rfl | exact Or.inr rfl))
      (pss_cons (ps_if (PW.pt (pw_or (pt_cmpR (op_zNe hr.units) (pe_ix (ix_z (hu_of hr)) (pe_glob rfl A.g_CAUSES rfl) (pe_op op_zMod (pe_callTy cr_int (by rfl) A.b_int zb_int (pa_cons (pe_ix (ix_z (hu_of hr)) (zv 1) (zv 6) (fun _ _ => rfl)) (pa_nil))) (pe_int)) (fun _ _ => rfl)) (pe_ix (ix_z (hu_of hr)) (zv 2) (pe_op op_zMod (pe_callTy cr_int (by rfl) A.b_int zb_int (pa_cons (pe_ix (ix_z (hu_of hr)) (zv 1) (zv 6) (fun _ _ => rfl)) (pa_nil))) (pe_int)) (fun _ _ => rfl)) (nomark _)) (pw_or1 (pt_cmpR (op_zNe hr.units) (pe_ix (ix_z (hu_of hr)) (pe_glob rfl A.g_ROLES rfl) (pe_op op_zMod (pe_callTy cr_int (by rfl) A.b_int zb_int (pa_cons (pe_ix (ix_z (hu_of hr)) (zv 1) (zv 6) (fun _ _ => rfl)) (pa_nil))) (pe_int)) (fun _ _ => rfl)) (pe_ix (ix_z (hu_of hr)) (zv 3) (pe_op op_zMod (pe_callTy cr_int (by rfl) A.b_int zb_int (pa_cons (pe_ix (ix_z (hu_of hr)) (zv 1) (zv 6) (fun _ _ => rfl)) (pa_nil))) (pe_int)) (fun _ _ => rfl)) (nomark _))))) (pss_one (ps_ret (pe_bl))) (pss_nil))
    (pss_cons (ps_set (i := 7) sc_law.nd rfl (by first | exact Or.inl rfl | exact Or.inr rfl) (pe_ix (ix_z (hu_of hr)) (pe_op op_zAdd (pe_op op_zAdd (zv 4) (zv 5)) (pe_tup (pa_cons (pe_str) (pa_cons (pe_str) (pa_cons (pe_str) (pa_nil)))))) (pe_op op_zMod (pe_callTy cr_int (by rfl) A.b_int zb_int (pa_cons (pe_op op_zDiv (pe_ix (ix_z (hu_of hr)) (zv 1) (zv 6) (fun _ _ => rfl)) (pe_int)) (pa_nil))) (pe_int)) (fun _ _ => rfl)))
    (pss_cons (ps_set (i := 8) sc_law.nd rfl (by first | exact Or.inl rfl | exact Or.inr rfl) (pe_callS (ok_comes_from_owner A) (hr.mono (by decide)) rfl A.m_comes_from_owner A.F_comes_from_owner.kp A.B_comes_from_owner (fun σ => passAt (takes_of rfl rfl rfl rfl) σ) (pa_cons (zv 7) (pa_nil))))
    (pss_one (ps_if (PW.pt (pw_or (pt_not (pt_truth (pe_callB cr_isi (by rfl) A.b_isinstance zb_isinstance (pa_cons (zv 8) (pa_cons (pe_bltn rfl A.b_bool zb_bool rfl) pa_nil))) (by intro _; rfl))) (pw_or1 (pt_cmpR (op_zNe hr.units) (zv 8) (pe_cmpR (op_zIn (hu66 hr)) (zv 7) (zv 4) (by rfl)) (nomark _))))) (pss_one (ps_ret (pe_bl))) (pss_nil)))))))
    (pss_one (ps_ret (pe_bl))))))))))
end

theorem walk {l : PySem.W.OpenLaw} {k : Nat} {q : Program} {loose : List Str} {XP : (Str → Option Value) → Heap → Prop} {YP : World → Heap → Prop} {d : DefRec} {K : Params → PySem.W.Frag} (hn : l.most = some 63) (hdf : d.params.defaults = []) (hr : Room k callerA)
    (hY : ∀ (w : World) (h : Heap), YP w h → (K w.params).In h)
    (F : ∀ (w : World) (mg : Str → Option Value) (fa : Addr) (h : Heap), (K w.params).In h → h.Ns mainGlobals mg → mg d.name = some (.ref fa) →
      ∃ (N : Nm) (fd : FuncData), (∀ (s : Shared) (u : Value), BindsTo s fd ⟨[u], []⟩ [("script", u)]) ∧ ∀ base : Heap, (K w.params).In base → base.Ns mainGlobals mg → FnOk l.prog w (K w.params) mg base (L2.CX l.prog w) k fa fd ["script"] (sp_law (K w.params) N)) :
    PySem.W.WalkO q loose XP YP l.row.toRowW d [] (fun f vs => PySem.call f vs) := by
  refine Att.attach_callB hn hdf fun w s₀ s₁ mg mb fa o pm cd doc a vs ns G Y ho hd hcd hmg hobj hints hlen hbits hg => ?_
  have KX := hY w _ Y
  obtain ⟨N, fd, hb, hF⟩ := F w mg fa _ KX G.T.g hmg
  exact law_call KX G.T.g G.T.b G.T.builtins G.T.nolimit hg hobj hints (Nat.le_trans hlen (by decide)) hr hF hb (fun H hO hS => ⟨a, ns, rfl, hS, hlen, hbits, fun _ => rfl⟩) fun H e s' hc => by
    obtain ⟨_, _, _, _, _, _, _, _, _, _, _, _, z⟩ := hc
    exact z
theorem all_mk {P : Program} {w : World} {K : PySem.W.Frag} {h : Heap} {mg : Str → Option Value} {fa : Addr} {a__law_bounds : Addr} {od__law_bounds an__law_bounds : Option Addr} {sl__law_bounds : Array (Option Value)} {oc__law_bounds kV__law_bounds dc__law_bounds pm__law_bounds cd__law_bounds ct__law_bounds : Value} {a__law_draws : Addr} {od__law_draws an__law_draws : Option Addr} {sl__law_draws : Array (Option Value)} {oc__law_draws kV__law_draws dc__law_draws pm__law_draws cd__law_draws ct__law_draws : Value} {a_comes_from_owner : Addr} {od_comes_from_owner an_comes_from_owner : Option Addr} {sl_comes_from_owner : Array (Option Value)} {oc_comes_from_owner kV_comes_from_owner dc_comes_from_owner pm_comes_from_owner cd_comes_from_owner ct_comes_from_owner : Value} {a_down_kinds : Addr} {od_down_kinds an_down_kinds : Option Addr} {sl_down_kinds : Array (Option Value)} {oc_down_kinds kV_down_kinds dc_down_kinds pm_down_kinds cd_down_kinds ct_down_kinds : Value} {a_up_kinds : Addr} {od_up_kinds an_up_kinds : Option Addr} {sl_up_kinds : Array (Option Value)} {oc_up_kinds kV_up_kinds dc_up_kinds pm_up_kinds cd_up_kinds ct_up_kinds : Value} {a_law : Addr} {od_law an_law : Option Addr} {sl_law : Array (Option Value)} {oc_law kV_law dc_law pm_law cd_law ct_law : Value} {g_CAUSES : Addr} {dd_CAUSES : Option Addr} {ks_CAUSES : Array (Option Value)} {n_CAUSES : Nat} {tk_CAUSES_0 : Tok} {tk_CAUSES_1 : Tok} {tk_CAUSES_2 : Tok} {tk_CAUSES_3 : Tok} {tk_CAUSES_4 : Tok} {tk_CAUSES_5 : Tok} {tk_CAUSES_6 : Tok} {tk_CAUSES_7 : Tok} {tk_DIGIT_LIMIT : Tok} {g_DOWN_KINDS : Addr} {dd_DOWN_KINDS : Option Addr} {ks_DOWN_KINDS : Array (Option Value)} {n_DOWN_KINDS : Nat} {tk_DOWN_KINDS_0 : Tok} {tk_DOWN_KINDS_1 : Tok} {tk_DOWN_KINDS_2 : Tok} {tk_EXCHANGE_LIMIT : Tok} {tk_LINE_LIMIT : Tok} {tk_NUMBER_LIMIT : Tok} {tk_PASS_LIMIT : Tok} {tk_PEACE_ROUNDS : Tok} {tk_QUANTUM_LIMIT : Tok} {tk_QUIET_TICKS : Tok} {tk_RING_TICKS : Tok} {g_ROLES : Addr} {dd_ROLES : Option Addr} {ks_ROLES : Array (Option Value)} {n_ROLES : Nat} {tk_ROLES_0 : Tok} {tk_ROLES_1 : Tok} {tk_ROLES_2 : Tok} {tk_ROLES_3 : Tok} {tk_ROLES_4 : Tok} {tk_TRUNK_LIMIT : Tok} {tk_TRY_TICKS : Tok} {g_UP_KINDS : Addr} {dd_UP_KINDS : Option Addr} {ks_UP_KINDS : Array (Option Value)} {n_UP_KINDS : Nat} {tk_UP_KINDS_0 : Tok} {tk_UP_KINDS_1 : Tok} {tk_UP_KINDS_2 : Tok} {tk_UP_KINDS_3 : Tok} {tk_UP_KINDS_4 : Tok} {tk_WAIT_TICKS : Tok} {tk_WIDTH_LIMIT : Tok}
    (X : K.In h) (G : h.Ns mainGlobals mg) (hfa : mg "law" = some (.ref fa))
    (aF__law_bounds : PySem.W.nsIn K mainGlobals "_law_bounds" = some (some (.ref a__law_bounds)))
    (lF__law_bounds : K.lookup a__law_bounds = some ⟨oc__law_bounds, od__law_bounds, .func (PySem.W.fnOf "_law_bounds" "_law_bounds" (defArgs st__law_bounds) (defBody st__law_bounds) (defScope st__law_bounds) .none kV__law_bounds dc__law_bounds pm__law_bounds an__law_bounds cd__law_bounds ct__law_bounds), sl__law_bounds⟩)
    (cF__law_bounds : PySem.W.codeIn K cd__law_bounds "_law_bounds" = true)
    (kF__law_bounds : PySem.W.keepIn K (.ref a__law_bounds) = true)
    (aF__law_draws : PySem.W.nsIn K mainGlobals "_law_draws" = some (some (.ref a__law_draws)))
    (lF__law_draws : K.lookup a__law_draws = some ⟨oc__law_draws, od__law_draws, .func (PySem.W.fnOf "_law_draws" "_law_draws" (defArgs st__law_draws) (defBody st__law_draws) (defScope st__law_draws) .none kV__law_draws dc__law_draws pm__law_draws an__law_draws cd__law_draws ct__law_draws), sl__law_draws⟩)
    (cF__law_draws : PySem.W.codeIn K cd__law_draws "_law_draws" = true)
    (kF__law_draws : PySem.W.keepIn K (.ref a__law_draws) = true)
    (aF_comes_from_owner : PySem.W.nsIn K mainGlobals "comes_from_owner" = some (some (.ref a_comes_from_owner)))
    (lF_comes_from_owner : K.lookup a_comes_from_owner = some ⟨oc_comes_from_owner, od_comes_from_owner, .func (PySem.W.fnOf "comes_from_owner" "comes_from_owner" (defArgs st_comes_from_owner) (defBody st_comes_from_owner) (defScope st_comes_from_owner) .none kV_comes_from_owner dc_comes_from_owner pm_comes_from_owner an_comes_from_owner cd_comes_from_owner ct_comes_from_owner), sl_comes_from_owner⟩)
    (cF_comes_from_owner : PySem.W.codeIn K cd_comes_from_owner "comes_from_owner" = true)
    (kF_comes_from_owner : PySem.W.keepIn K (.ref a_comes_from_owner) = true)
    (aF_down_kinds : PySem.W.nsIn K mainGlobals "down_kinds" = some (some (.ref a_down_kinds)))
    (lF_down_kinds : K.lookup a_down_kinds = some ⟨oc_down_kinds, od_down_kinds, .func (PySem.W.fnOf "down_kinds" "down_kinds" (defArgs st_down_kinds) (defBody st_down_kinds) (defScope st_down_kinds) .none kV_down_kinds dc_down_kinds pm_down_kinds an_down_kinds cd_down_kinds ct_down_kinds), sl_down_kinds⟩)
    (cF_down_kinds : PySem.W.codeIn K cd_down_kinds "down_kinds" = true)
    (kF_down_kinds : PySem.W.keepIn K (.ref a_down_kinds) = true)
    (aF_up_kinds : PySem.W.nsIn K mainGlobals "up_kinds" = some (some (.ref a_up_kinds)))
    (lF_up_kinds : K.lookup a_up_kinds = some ⟨oc_up_kinds, od_up_kinds, .func (PySem.W.fnOf "up_kinds" "up_kinds" (defArgs st_up_kinds) (defBody st_up_kinds) (defScope st_up_kinds) .none kV_up_kinds dc_up_kinds pm_up_kinds an_up_kinds cd_up_kinds ct_up_kinds), sl_up_kinds⟩)
    (cF_up_kinds : PySem.W.codeIn K cd_up_kinds "up_kinds" = true)
    (kF_up_kinds : PySem.W.keepIn K (.ref a_up_kinds) = true)
    (aF_law : PySem.W.nsIn K mainGlobals "law" = some (some (.ref a_law)))
    (lF_law : K.lookup a_law = some ⟨oc_law, od_law, .func (PySem.W.fnOf "law" "law" (defArgs st_law) (defBody st_law) (defScope st_law) .none kV_law dc_law pm_law an_law cd_law ct_law), sl_law⟩)
    (cF_law : PySem.W.codeIn K cd_law "law" = true)
    (kF_law : PySem.W.keepIn K (.ref a_law) = true)
    (gC_CAUSES : PySem.W.nsIn K mainGlobals "CAUSES" = some (some (.ref g_CAUSES)))
    (lC_CAUSES : K.lookup g_CAUSES = some ⟨.type "tuple", dd_CAUSES, .seq #[.str "hung up" tk_CAUSES_0, .str "busy" tk_CAUSES_1, .str "unallocated" tk_CAUSES_2, .str "no route" tk_CAUSES_3, .str "no answer" tk_CAUSES_4, .str "loop" tk_CAUSES_5, .str "lost" tk_CAUSES_6, .str "crashed" tk_CAUSES_7] n_CAUSES, ks_CAUSES⟩)
    (gC_DIGIT_LIMIT : PySem.W.nsIn K mainGlobals "DIGIT_LIMIT" = some (some (.int 15 tk_DIGIT_LIMIT)))
    (gC_DOWN_KINDS : PySem.W.nsIn K mainGlobals "DOWN_KINDS" = some (some (.ref g_DOWN_KINDS)))
    (lC_DOWN_KINDS : K.lookup g_DOWN_KINDS = some ⟨.type "tuple", dd_DOWN_KINDS, .seq #[.str "setup" tk_DOWN_KINDS_0, .str "release" tk_DOWN_KINDS_1, .str "pulse" tk_DOWN_KINDS_2] n_DOWN_KINDS, ks_DOWN_KINDS⟩)
    (gC_EXCHANGE_LIMIT : PySem.W.nsIn K mainGlobals "EXCHANGE_LIMIT" = some (some (.int 6 tk_EXCHANGE_LIMIT)))
    (gC_LINE_LIMIT : PySem.W.nsIn K mainGlobals "LINE_LIMIT" = some (some (.int 24 tk_LINE_LIMIT)))
    (gC_NUMBER_LIMIT : PySem.W.nsIn K mainGlobals "NUMBER_LIMIT" = some (some (.int 6 tk_NUMBER_LIMIT)))
    (gC_PASS_LIMIT : PySem.W.nsIn K mainGlobals "PASS_LIMIT" = some (some (.int 12 tk_PASS_LIMIT)))
    (gC_PEACE_ROUNDS : PySem.W.nsIn K mainGlobals "PEACE_ROUNDS" = some (some (.int 40 tk_PEACE_ROUNDS)))
    (gC_QUANTUM_LIMIT : PySem.W.nsIn K mainGlobals "QUANTUM_LIMIT" = some (some (.int 60 tk_QUANTUM_LIMIT)))
    (gC_QUIET_TICKS : PySem.W.nsIn K mainGlobals "QUIET_TICKS" = some (some (.int 6 tk_QUIET_TICKS)))
    (gC_RING_TICKS : PySem.W.nsIn K mainGlobals "RING_TICKS" = some (some (.int 16 tk_RING_TICKS)))
    (gC_ROLES : PySem.W.nsIn K mainGlobals "ROLES" = some (some (.ref g_ROLES)))
    (lC_ROLES : K.lookup g_ROLES = some ⟨.type "tuple", dd_ROLES, .seq #[.str "origin" tk_ROLES_0, .str "transit" tk_ROLES_1, .str "end" tk_ROLES_2, .str "both" tk_ROLES_3, .str "divert" tk_ROLES_4] n_ROLES, ks_ROLES⟩)
    (gC_TRUNK_LIMIT : PySem.W.nsIn K mainGlobals "TRUNK_LIMIT" = some (some (.int 12 tk_TRUNK_LIMIT)))
    (gC_TRY_TICKS : PySem.W.nsIn K mainGlobals "TRY_TICKS" = some (some (.int 8 tk_TRY_TICKS)))
    (gC_UP_KINDS : PySem.W.nsIn K mainGlobals "UP_KINDS" = some (some (.ref g_UP_KINDS)))
    (lC_UP_KINDS : K.lookup g_UP_KINDS = some ⟨.type "tuple", dd_UP_KINDS, .seq #[.str "done" tk_UP_KINDS_0, .str "leave" tk_UP_KINDS_1, .str "ok" tk_UP_KINDS_2, .str "answer" tk_UP_KINDS_3, .str "beat" tk_UP_KINDS_4] n_UP_KINDS, ks_UP_KINDS⟩)
    (gC_WAIT_TICKS : PySem.W.nsIn K mainGlobals "WAIT_TICKS" = some (some (.int 30 tk_WAIT_TICKS)))
    (gC_WIDTH_LIMIT : PySem.W.nsIn K mainGlobals "WIDTH_LIMIT" = some (some (.int 6 tk_WIDTH_LIMIT)))
    (b_bool : PySem.W.nsIn K mainGlobals "bool" = some none)
    (b_int : PySem.W.nsIn K mainGlobals "int" = some none)
    (b_isinstance : PySem.W.nsIn K mainGlobals "isinstance" = some none)
    (b_len : PySem.W.nsIn K mainGlobals "len" = some none)
    (b_range : PySem.W.nsIn K mainGlobals "range" = some none)
    (b_tuple : PySem.W.nsIn K mainGlobals "tuple" = some none)
    : ∃ (N : Nm) (fd : FuncData), (∀ (s : Shared) (v : Value), BindsTo s fd ⟨[v], []⟩ [("script", v)]) ∧ ∀ base : Heap, K.In base → base.Ns mainGlobals mg → FnOk P w K mg base (L2.CX P w) 2 fa fd ["script"] (sp_law K N) := by
  have e : a_law = fa := by have e := hfa.symm.trans (PySem.W.mg_of X G aF_law); injection e with e; injection e with e; exact e.symm
  subst e
  have F__law_bounds := fun_mk (st := st__law_bounds) lF__law_bounds cF__law_bounds kF__law_bounds
  have B__law_bounds := F__law_bounds.binds (ps := []) fun _ _ _ _ _ _ us hl => match us, hl with | [], _ => rfl
  have F__law_draws := fun_mk (st := st__law_draws) lF__law_draws cF__law_draws kF__law_draws
  have B__law_draws := F__law_draws.binds (ps := ["script", "count"]) fun _ _ _ _ _ _ us hl => match us, hl with | [_, _], _ => rfl
  have F_comes_from_owner := fun_mk (st := st_comes_from_owner) lF_comes_from_owner cF_comes_from_owner kF_comes_from_owner
  have B_comes_from_owner := F_comes_from_owner.binds (ps := ["kind"]) fun _ _ _ _ _ _ us hl => match us, hl with | [_], _ => rfl
  have F_down_kinds := fun_mk (st := st_down_kinds) lF_down_kinds cF_down_kinds kF_down_kinds
  have B_down_kinds := F_down_kinds.binds (ps := []) fun _ _ _ _ _ _ us hl => match us, hl with | [], _ => rfl
  have F_up_kinds := fun_mk (st := st_up_kinds) lF_up_kinds cF_up_kinds kF_up_kinds
  have B_up_kinds := F_up_kinds.binds (ps := []) fun _ _ _ _ _ _ us hl => match us, hl with | [], _ => rfl
  have F_law := fun_mk (st := st_law) lF_law cF_law kF_law
  have B_law := F_law.binds (ps := ["script"]) fun _ _ _ _ _ _ us hl => match us, hl with | [_], _ => rfl
  let N : Nm := { g_CAUSES := g_CAUSES, g_DOWN_KINDS := g_DOWN_KINDS, g_ROLES := g_ROLES, g_UP_KINDS := g_UP_KINDS }
  let A : Al K mg N := {
    a__law_bounds := a__law_bounds,
    d__law_bounds := _,
    F__law_bounds := F__law_bounds,
    B__law_bounds := B__law_bounds,
    m__law_bounds := PySem.W.mg_of X G aF__law_bounds,
    a__law_draws := a__law_draws,
    d__law_draws := _,
    F__law_draws := F__law_draws,
    B__law_draws := B__law_draws,
    m__law_draws := PySem.W.mg_of X G aF__law_draws,
    a_comes_from_owner := a_comes_from_owner,
    d_comes_from_owner := _,
    F_comes_from_owner := F_comes_from_owner,
    B_comes_from_owner := B_comes_from_owner,
    m_comes_from_owner := PySem.W.mg_of X G aF_comes_from_owner,
    a_down_kinds := a_down_kinds,
    d_down_kinds := _,
    F_down_kinds := F_down_kinds,
    B_down_kinds := B_down_kinds,
    m_down_kinds := PySem.W.mg_of X G aF_down_kinds,
    a_up_kinds := a_up_kinds,
    d_up_kinds := _,
    F_up_kinds := F_up_kinds,
    B_up_kinds := B_up_kinds,
    m_up_kinds := PySem.W.mg_of X G aF_up_kinds,
    a_law := a_law,
    d_law := _,
    F_law := F_law,
    B_law := B_law,
    m_law := PySem.W.mg_of X G aF_law,
    g_CAUSES := PySem.W.mg_of X G gC_CAUSES,
    kt_CAUSES := ⟨_, _, _, lC_CAUSES, rfl, rfl, (show 8 ≤ sizeLine by decide), .cons ⟨_, rfl⟩ (.cons ⟨_, rfl⟩ (.cons ⟨_, rfl⟩ (.cons ⟨_, rfl⟩ (.cons ⟨_, rfl⟩ (.cons ⟨_, rfl⟩ (.cons ⟨_, rfl⟩ (.cons ⟨_, rfl⟩ (.nil))))))))⟩,
    g_DIGIT_LIMIT := PySem.W.mg_of X G gC_DIGIT_LIMIT,
    tk_DIGIT_LIMIT := tk_DIGIT_LIMIT,
    g_DOWN_KINDS := PySem.W.mg_of X G gC_DOWN_KINDS,
    kt_DOWN_KINDS := ⟨_, _, _, lC_DOWN_KINDS, rfl, rfl, (show 3 ≤ sizeLine by decide), .cons ⟨_, rfl⟩ (.cons ⟨_, rfl⟩ (.cons ⟨_, rfl⟩ (.nil)))⟩,
    g_EXCHANGE_LIMIT := PySem.W.mg_of X G gC_EXCHANGE_LIMIT,
    tk_EXCHANGE_LIMIT := tk_EXCHANGE_LIMIT,
    g_LINE_LIMIT := PySem.W.mg_of X G gC_LINE_LIMIT,
    tk_LINE_LIMIT := tk_LINE_LIMIT,
    g_NUMBER_LIMIT := PySem.W.mg_of X G gC_NUMBER_LIMIT,
    tk_NUMBER_LIMIT := tk_NUMBER_LIMIT,
    g_PASS_LIMIT := PySem.W.mg_of X G gC_PASS_LIMIT,
    tk_PASS_LIMIT := tk_PASS_LIMIT,
    g_PEACE_ROUNDS := PySem.W.mg_of X G gC_PEACE_ROUNDS,
    tk_PEACE_ROUNDS := tk_PEACE_ROUNDS,
    g_QUANTUM_LIMIT := PySem.W.mg_of X G gC_QUANTUM_LIMIT,
    tk_QUANTUM_LIMIT := tk_QUANTUM_LIMIT,
    g_QUIET_TICKS := PySem.W.mg_of X G gC_QUIET_TICKS,
    tk_QUIET_TICKS := tk_QUIET_TICKS,
    g_RING_TICKS := PySem.W.mg_of X G gC_RING_TICKS,
    tk_RING_TICKS := tk_RING_TICKS,
    g_ROLES := PySem.W.mg_of X G gC_ROLES,
    kt_ROLES := ⟨_, _, _, lC_ROLES, rfl, rfl, (show 5 ≤ sizeLine by decide), .cons ⟨_, rfl⟩ (.cons ⟨_, rfl⟩ (.cons ⟨_, rfl⟩ (.cons ⟨_, rfl⟩ (.cons ⟨_, rfl⟩ (.nil)))))⟩,
    g_TRUNK_LIMIT := PySem.W.mg_of X G gC_TRUNK_LIMIT,
    tk_TRUNK_LIMIT := tk_TRUNK_LIMIT,
    g_TRY_TICKS := PySem.W.mg_of X G gC_TRY_TICKS,
    tk_TRY_TICKS := tk_TRY_TICKS,
    g_UP_KINDS := PySem.W.mg_of X G gC_UP_KINDS,
    kt_UP_KINDS := ⟨_, _, _, lC_UP_KINDS, rfl, rfl, (show 5 ≤ sizeLine by decide), .cons ⟨_, rfl⟩ (.cons ⟨_, rfl⟩ (.cons ⟨_, rfl⟩ (.cons ⟨_, rfl⟩ (.cons ⟨_, rfl⟩ (.nil)))))⟩,
    g_WAIT_TICKS := PySem.W.mg_of X G gC_WAIT_TICKS,
    tk_WAIT_TICKS := tk_WAIT_TICKS,
    g_WIDTH_LIMIT := PySem.W.mg_of X G gC_WIDTH_LIMIT,
    tk_WIDTH_LIMIT := tk_WIDTH_LIMIT,
    b_bool := PySem.W.mg_none_of X G b_bool,
    b_int := PySem.W.mg_none_of X G b_int,
    b_isinstance := PySem.W.mg_none_of X G b_isinstance,
    b_len := PySem.W.mg_none_of X G b_len,
    b_range := PySem.W.mg_none_of X G b_range,
    b_tuple := PySem.W.mg_none_of X G b_tuple }
  exact ⟨N, _, fun s v => .of_eq rfl, fun base _ _ => ok_law A⟩
end Z

open PySem PySem.W PyProof.Rows in
set_option maxRecDepth 100000 in
set_option maxHeartbeats 0 in
theorem PySem.Challenge.cw_copperline_k39_bounds_causes_and_words_holds : PySem.Challenge.rw_copperline_k39_bounds_causes_and_words.Holds := by
  w_on; o_law; k_head; (case hw => w_witness2)
  k_fill
  refine Z.walk (l := PySem.Challenge.rw_copperline_k39_bounds_causes_and_words) (k := 2) rfl rfl ⟨rfl, by decide, by decide⟩ (fun w h Y => PySem.W.kIn_of Y) ?F
  case F =>
    intro w mg fa h KX G hmg
    refine' Z.all_mk KX G hmg ?aF__law_bounds ?lF__law_bounds ?cF__law_bounds ?kF__law_bounds ?aF__law_draws ?lF__law_draws ?cF__law_draws ?kF__law_draws ?aF_comes_from_owner ?lF_comes_from_owner ?cF_comes_from_owner ?kF_comes_from_owner ?aF_down_kinds ?lF_down_kinds ?cF_down_kinds ?kF_down_kinds ?aF_up_kinds ?lF_up_kinds ?cF_up_kinds ?kF_up_kinds ?aF_law ?lF_law ?cF_law ?kF_law ?gC_CAUSES ?lC_CAUSES ?gC_DIGIT_LIMIT ?gC_DOWN_KINDS ?lC_DOWN_KINDS ?gC_EXCHANGE_LIMIT ?gC_LINE_LIMIT ?gC_NUMBER_LIMIT ?gC_PASS_LIMIT ?gC_PEACE_ROUNDS ?gC_QUANTUM_LIMIT ?gC_QUIET_TICKS ?gC_RING_TICKS ?gC_ROLES ?lC_ROLES ?gC_TRUNK_LIMIT ?gC_TRY_TICKS ?gC_UP_KINDS ?lC_UP_KINDS ?gC_WAIT_TICKS ?gC_WIDTH_LIMIT ?b_bool ?b_int ?b_isinstance ?b_len ?b_range ?b_tuple
    (case aF__law_bounds => k_is)
    (case lF__law_bounds => k_is)
    (case cF__law_bounds => k_is)
    (case kF__law_bounds => k_is)
    (case aF__law_draws => k_is)
    (case lF__law_draws => k_is)
    (case cF__law_draws => k_is)
    (case kF__law_draws => k_is)
    (case aF_comes_from_owner => k_is)
    (case lF_comes_from_owner => k_is)
    (case cF_comes_from_owner => k_is)
    (case kF_comes_from_owner => k_is)
    (case aF_down_kinds => k_is)
    (case lF_down_kinds => k_is)
    (case cF_down_kinds => k_is)
    (case kF_down_kinds => k_is)
    (case aF_up_kinds => k_is)
    (case lF_up_kinds => k_is)
    (case cF_up_kinds => k_is)
    (case kF_up_kinds => k_is)
    (case aF_law => k_is)
    (case lF_law => k_is)
    (case cF_law => k_is)
    (case kF_law => k_is)
    (case gC_CAUSES => k_is)
    (case lC_CAUSES => k_is)
    (case gC_DIGIT_LIMIT => k_is)
    (case gC_DOWN_KINDS => k_is)
    (case lC_DOWN_KINDS => k_is)
    (case gC_EXCHANGE_LIMIT => k_is)
    (case gC_LINE_LIMIT => k_is)
    (case gC_NUMBER_LIMIT => k_is)
    (case gC_PASS_LIMIT => k_is)
    (case gC_PEACE_ROUNDS => k_is)
    (case gC_QUANTUM_LIMIT => k_is)
    (case gC_QUIET_TICKS => k_is)
    (case gC_RING_TICKS => k_is)
    (case gC_ROLES => k_is)
    (case lC_ROLES => k_is)
    (case gC_TRUNK_LIMIT => k_is)
    (case gC_TRY_TICKS => k_is)
    (case gC_UP_KINDS => k_is)
    (case lC_UP_KINDS => k_is)
    (case gC_WAIT_TICKS => k_is)
    (case gC_WIDTH_LIMIT => k_is)
    (case b_bool => k_is)
    (case b_int => k_is)
    (case b_isinstance => k_is)
    (case b_len => k_is)
    (case b_range => k_is)
    (case b_tuple => k_is)
