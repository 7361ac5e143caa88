import PyProof.Rows.All
import Wide.All
import OpenK.AllK
import Wide.FinOn
import KE.KStateDown
import HandS.ForMost
import HandS.ForExc
import HandS.Defaults
import HandS.HeadHook4
import HandS.HeadWalk
import HandS.Head2
import HandS.HeadEnd
import HandS.Evl
import HandS.Walk
import HandS.IsInst
import HandS.Style
import HandS.Deep
import HandS.TupAny
import HandS.TupMul
import HandS.Conv
import HandS.DictComp
import HandS.Flow
import HandS.SetIn
import HandS.TupSets
import HandS.Lambda
import PySem.Challenge.RW_swaprow_k54_whole_rings_of_many_people
import KE.GoesMore
import HandS.SetFor
import HandS.Strs
import PyProof.Draws
import KE.KExcIs
import HandS.ExcInit
import HandS.ExcOwn
import HandS.ExcField
import HandS.EndTab
section
set_option Elab.async false
set_option linter.all false
set_option maxRecDepth 100000
/-! what the defs compute, in plain Lean -/
namespace SW
/-- the i-th of a list of ints, i an int -/
def ix (l : List Int) (i : Int) : Int := l.getD i.toNat 0
def setI (l : List Int) (i v : Int) : List Int := l.set i.toNat v
/-- the end of a copy -/
def eoc (d : List Int) (c : Int) : Int := c + ix d (c % d.length)
def rgI (a : Int) (n : Nat) : List Int := (List.range n).map fun (i : Nat) => a + (i : Int)
/-- the greater copies below c + 2 n - 1 with lesser ends -/
def later (d : List Int) (c : Int) : List Int := (rgI (c + 1) (2 * d.length - 2)).filter fun o => decide (eoc d o < eoc d c)
/-- the ring inversions, in order -/
def invs (d : List Int) : List (List Int) := (List.range d.length).flatMap fun (x : Nat) => (later d x).map fun z => [(x : Int), z]
/-- the place of a ring inversion -/
def placeT (d : List Int) (x z : Int) : Int := (x + ((rgI (x + 1) (z - (x + 1)).toNat).filter fun y => decide (eoc d y < y)).length) % d.length
/-- the least ring triple -/
def trStep (d q : List Int) : Option (List Int) := if later d (ix q 1) = [] then none else some [ix q 0, ix q 1, ix (later d (ix q 1)) 0]
def tripT (d : List Int) : Option (List Int) := (invs d).findSome? (trStep d)
/-- valid rankings of a ring -/
structure RkOk (R : List (List Int)) : Prop where
  lo : 3 ≤ R.length
  hi : R.length ≤ 20
  len : ∀ r ∈ R, r.length = R.length
  nd : ∀ r ∈ R, r.Nodup
  rng : ∀ r ∈ R, ∀ x ∈ r, 0 ≤ x ∧ x < R.length
  has : ∀ r ∈ R, ∀ x : Int, 0 ≤ x → x < R.length → x ∈ r
/-- valid displacements -/
structure DispOk (d : List Int) : Prop where
  lo : 3 ≤ d.length
  hi : d.length ≤ 20
  rng : ∀ x ∈ d, -(d.length : Int) < x ∧ x < d.length
  sum : d.sum = 0
  inj : ((List.range d.length).map fun (i : Nat) => ((i : Int) + d.getD i 0) % (d.length : Int)).Nodup
/-- the rank of the item x for the person p -/
def rk (R : List (List Int)) (p x : Int) : Int := ((R.getD p.toNat []).idxOf x : Nat)
/-- whether the ring swap p is allowed in A -/
def mayT (R : List (List Int)) (A : List Int) (p : Int) : Bool :=
  decide (rk R p (ix A ((p + 1) % A.length)) < rk R p (ix A p)) && decide (rk R ((p + 1) % A.length) (ix A p) < rk R ((p + 1) % A.length) (ix A ((p + 1) % A.length)))
/-- the refusals of a ring inversion -/
def refT (R : List (List Int)) (d : List Int) (x z : Int) : List (List Int) :=
  (if rk R (placeT d x z) (x % d.length) < rk R (placeT d x z) (z % d.length) then [[placeT d x z, x, z, placeT d x z]] else []) ++
  (if rk R ((placeT d x z + 1) % d.length) (z % d.length) < rk R ((placeT d x z + 1) % d.length) (x % d.length) then [[placeT d x z, x, z, (placeT d x z + 1) % d.length]] else [])
/-- a state of the sequence's making: who holds what, what each item has still to move, the swaps made -/
structure SqS where
  arr : List Int
  rest : List Int
  found : List Int
def canSw (n : Int) (s : SqS) (p : Int) : Bool := decide (0 < ix s.rest (ix s.arr p)) && decide (ix s.rest (ix s.arr ((p + 1) % n)) < 0)
def fire (n : Int) (s : SqS) (p : Int) : SqS :=
  ⟨setI (setI s.arr p (ix s.arr ((p + 1) % n))) ((p + 1) % n) (ix s.arr p),
   setI (setI s.rest (ix s.arr p) (ix s.rest (ix s.arr p) - 1)) (ix s.arr ((p + 1) % n)) (ix (setI s.rest (ix s.arr p) (ix s.rest (ix s.arr p) - 1)) (ix s.arr ((p + 1) % n)) + 1),
   s.found ++ [p]⟩
def sq0 (d : List Int) : SqS := ⟨rgI 0 d.length, d, []⟩
/-- the states that swaps of items which have still to cross come to -/
inductive Run (d : List Int) : SqS → Prop where
  | init : Run d (sq0 d)
  | step {s : SqS} {p : Int} : Run d s → 0 ≤ p → p < d.length → canSw d.length s p = true → Run d (fire d.length s p)
/-- what is still to be moved to the right, in all -/
def mu (l : List Int) : Nat := (l.map Int.toNat).sum
theorem rgI_len (a : Int) (n : Nat) : (rgI a n).length = n := by unfold rgI; rw [List.length_map, List.length_range]
theorem later_len (d : List Int) (c : Int) : (later d c).length ≤ 2 * d.length := by
  unfold later
  refine Nat.le_trans (List.length_filter_le _ _) ?_
  rw [rgI_len]
  omega
theorem later_bd {d : List Int} {c z : Int} (h : z ∈ later d c) : c + 1 ≤ z ∧ z < c + 1 + 2 * d.length := by
  unfold later rgI at h
  obtain ⟨h1, _⟩ := List.mem_filter.mp h
  obtain ⟨i, h2, rfl⟩ := List.mem_map.mp h1
  have := List.mem_range.mp h2
  omega
theorem invs_mem {d q : List Int} (h : q ∈ invs d) : ∃ x z : Int, q = [x, z] ∧ 0 ≤ x ∧ x < d.length ∧ z ∈ later d x := by
  unfold invs at h
  obtain ⟨x, hx, h2⟩ := List.mem_flatMap.mp h
  obtain ⟨z, hz, rfl⟩ := List.mem_map.mp h2
  have := List.mem_range.mp hx
  exact ⟨x, z, rfl, by omega, by omega, hz⟩
theorem placeT_bd {d : List Int} (h : 0 < d.length) (x z : Int) : 0 ≤ placeT d x z ∧ placeT d x z < d.length := ⟨Int.emod_nonneg _ (by omega), Int.emod_lt_of_pos _ (by omega)⟩
theorem ix_mem {A : List Int} {p : Int} (h0 : 0 ≤ p) (h1 : p < A.length) : ix A p ∈ A := by
  unfold ix
  have h : p.toNat < A.length := by omega
  rw [List.getD_eq_getElem?_getD, List.getElem?_eq_getElem h]
  exact List.getElem_mem h
end SW
end

section
set_option Elab.async false
set_option linter.all false
set_option maxRecDepth 100000
set_option maxHeartbeats 4000000
/-! the base of all walks: running a reading step by step -/
namespace SW
open PySem PySem.Spec PyProof.Rows L2 Evl
/-! ### readings, one step each -/
section
variable {σ : L2.St} {H : Hp} {Q : VK} {te ta tb tc : TE} {tt tu : TT} {ts tz : TS}
theorem r_var {i : Nat} {v : V} (h : σ[i]? = some (some v)) (q : Q v H) : tVar i σ H Q := ⟨v, h, q⟩
theorem r_c {v : V} (q : Q v H) : tC v σ H Q := q
theorem r_op {r : R2} (h : ta σ H fun x H1 => tb σ H1 fun y H2 => r x y H2 Q) : tOp r ta tb σ H Q := h
theorem r_un {r : V → Hp → VK → Prop} (h : ta σ H fun x H1 => r x H1 Q) : tUn r ta σ H Q := h
theorem r_I0 {g : Int → Int → V} {i j : Int} (q : Q (g i j) H) : rI0 g (.int i) (.int j) H Q := ⟨i, j, rfl, rfl, q⟩
theorem r_I {C : Int → Int → Prop} {g : Int → Int → V} {i j : Int} (c : C i j) (q : Q (g i j) H) : rI C g (.int i) (.int j) H Q := ⟨i, j, rfl, rfl, c, q⟩
theorem r_U {g : Int → V} {i : Int} (q : Q (g i) H) : rU g (.int i) H Q := ⟨i, rfl, q⟩
theorem r_nil {Qa : List V → Hp → Prop} (q : Qa [] H) : tNil σ H Qa := q
theorem r_cons {tr : TA} {Qa : List V → Hp → Prop} (h : ta σ H fun x H1 => tr σ H1 fun xs H2 => Qa (x :: xs) H2) : tCons ta tr σ H Qa := h
theorem r_call {sp : Sp} {dvs : List V} {E : XK} {t : TA} (h : t σ H fun vs H1 => sp (vs ++ dvs) H1 Q E) : tCall sp dvs E t σ H Q := h
theorem r_cb {r : List V → Hp → VK → Prop} {t : TA} (h : t σ H fun vs H1 => r vs H1 Q) : tCB r t σ H Q := h
theorem r_test {Qb : Bool → Hp → Prop} (h : te σ H fun x H1 => ∃ k, x = .bl k ∧ Qb k H1) : tTest te σ H Qb := h
theorem r_B {Qb : Bool → Hp → Prop} (h : te σ H fun x H1 => ∃ k, x = .bl k ∧ Qb k H1) : tB te σ H Qb := h
theorem r_and {Qb : Bool → Hp → Prop} (h : tt σ H fun c H1 => if c = true then tu σ H1 Qb else Qb false H1) : tAnd tt tu σ H Qb := h
theorem r_or {Qb : Bool → Hp → Prop} (h : tt σ H fun c H1 => if c = true then Qb true H1 else tu σ H1 Qb) : tOr tt tu σ H Qb := h
theorem r_not {Qb : Bool → Hp → Prop} (h : tt σ H fun c H1 => Qb (!c) H1) : tNot tt σ H Qb := h
theorem r_andV (h : ta σ H fun x H1 => ∃ c, x = .bl c ∧ if c = true then tb σ H1 Q else Q (.bl false) H1) : tAndV ta tb σ H Q := h
theorem r_orV (h : ta σ H fun x H1 => ∃ c, x = .bl c ∧ if c = true then Q (.bl true) H1 else tb σ H1 Q) : tOrV ta tb σ H Q := h
theorem r_notV (h : ta σ H fun x H1 => ∃ c, x = .bl c ∧ Q (.bl (!c)) H1) : tNotV ta σ H Q := h
theorem r_if (h : tt σ H fun c H1 => if c = true then ta σ H1 Q else tb σ H1 Q) : tIf tt ta tb σ H Q := h
theorem r_chain {r r' : R2} (h : ta σ H fun x H1 => tb σ H1 fun y H2 => r x y H2 fun z H3 => ∃ k, z = .bl k ∧ (if k = true then tc σ H3 fun w' H4 => r' y w' H4 Q else Q (.bl false) H3)) : tChain r r' ta tb tc σ H Q := h
theorem r_tup {t : TA} (h : t σ H fun xs H1 => xs.length ≤ sizeLine ∧ ∀ p, H1 p = none → Q (.ref p) (upd H1 p (.tup xs))) : tTup t σ H Q := h
theorem r_lst {t : TA} (h : t σ H fun xs H1 => xs.length ≤ sizeLine ∧ ∀ p, H1 p = none → Q (.ref p) (upd H1 p (.lst xs))) : tLst t σ H Q := h
theorem r_bl {b : Bool} {Qb : Bool → Hp → Prop} (q : Qb b H) : ∃ k, V.bl b = .bl k ∧ Qb k H := ⟨b, rfl, q⟩
/-- a new tuple, a new list: all else stands -/
theorem r_new {xs : List V} {p0 : List V → HO} (hz : xs.length ≤ 100000) (h : ∀ p H1, H p = none → Ex H H1 → H1 p = some (p0 xs) → Q (.ref p) H1) : xs.length ≤ sizeLine ∧ ∀ p, H p = none → Q (.ref p) (upd H p (p0 xs)) :=
  ⟨sz_of hz, fun p hp => h p _ hp (Ex.new hp) upd_same⟩
theorem r_tupN {xs : List V} (hz : xs.length ≤ 100000) (h : ∀ p H1, H p = none → Ex H H1 → H1 p = some (.tup xs) → Q (.ref p) H1) : xs.length ≤ sizeLine ∧ ∀ p, H p = none → Q (.ref p) (upd H p (.tup xs)) := r_new (p0 := HO.tup) hz h
theorem r_lstN {xs : List V} (hz : xs.length ≤ 100000) (h : ∀ p H1, H p = none → Ex H H1 → H1 p = some (.lst xs) → Q (.ref p) H1) : xs.length ≤ sizeLine ∧ ∀ p, H p = none → Q (.ref p) (upd H p (.lst xs)) := r_new (p0 := HO.lst) hz h
theorem r_lstF {xs : List V} (h : ∀ p H1, H p = none → Ex H H1 → H1 p = some (.lst xs) → Q (.ref p) H1) : ∀ p, H p = none → Q (.ref p) (upd H p (.lst xs)) := fun p hp => h p _ hp (Ex.new hp) upd_same
theorem r_tupF {xs : List V} (h : ∀ p H1, H p = none → Ex H H1 → H1 p = some (.tup xs) → Q (.ref p) H1) : ∀ p, H p = none → Q (.ref p) (upd H p (.tup xs)) := fun p hp => h p _ hp (Ex.new hp) upd_same
theorem r_ite {b : Bool} {A B : Prop} (h1 : b = true → A) (h2 : b = false → B) : if b = true then A else B := by
  cases b with
  | true => exact h1 rfl
  | false => exact h2 rfl
theorem r_yes {b : Bool} {A B : Prop} (hb : b = true) (h : A) : if b = true then A else B := by
  rw [hb]
  exact h
theorem r_no {b : Bool} {A B : Prop} (hb : b = false) (h : B) : if b = true then A else B := by
  rw [hb]
  exact h
/-! statements -/
variable {nx : L2.St → Hp → Prop} {rt : VK} {bk ct : L2.St → Hp → Prop} {g : TG}
theorem r_seq (h : ts ⟨tz ⟨nx, rt, bk, ct⟩, rt, bk, ct⟩ σ H) : tSeq ts tz ⟨nx, rt, bk, ct⟩ σ H := h
theorem r_next (h : nx σ H) : tNext ⟨nx, rt, bk, ct⟩ σ H := h
theorem r_asg (h : te σ H fun x H1 => g x σ H1 nx) : tAsg te g ⟨nx, rt, bk, ct⟩ σ H := h
theorem r_gname {i : Nat} {v : V} {N : L2.St → Hp → Prop} (h : N (σ.set i (some v)) H) : gName i v σ H N := h
theorem r_ret (h : te σ H rt) : tRet te ⟨nx, rt, bk, ct⟩ σ H := h
theorem r_retN (h : rt .non H) : tRetN ⟨nx, rt, bk, ct⟩ σ H := h
theorem r_drop (h : te σ H fun _ H1 => nx σ H1) : tDrop te ⟨nx, rt, bk, ct⟩ σ H := h
theorem r_ifS {tv : TS} (h : tt σ H fun b H1 => if b = true then ts ⟨nx, rt, bk, ct⟩ σ H1 else tv ⟨nx, rt, bk, ct⟩ σ H1) : tIfS tt ts tv ⟨nx, rt, bk, ct⟩ σ H := h
theorem r_par {i j : Nat} {t : TA} (h : t σ H fun vs H1 => ∃ v w, vs = [v, w] ∧ nx ((σ.set i (some v)).set j (some w)) H1) : tPar i j t ⟨nx, rt, bk, ct⟩ σ H := h
theorem r_two {v w : V} {P : V → V → Prop} (q : P v w) : ∃ v' w', [v, w] = [v', w'] ∧ P v' w' := ⟨v, w, rfl, q⟩
theorem r_aug {i : Nat} {ti : TIp} {x : V} (hx : σ[i]? = some (some x)) (h : te σ H fun y H1 => ti x y H1 fun z H2 => nx (σ.set i (some z)) H2) : tAug i te ti ⟨nx, rt, bk, ct⟩ σ H := ⟨x, hx, h⟩
theorem r_ipI {f : Int → Int → Int} {i j : Int} (q : Q (.int (f i j)) H) : ipI f (.int i) (.int j) H Q := ⟨i, j, rfl, rfl, q⟩
end
section
variable {K : PySem.W.Frag} {σ : L2.St} {H : Hp} {Q : VK}
theorem r_ixT {p : Addr} {xs : List V} {i : Int} {v : V} (h : SqT K H p xs) (ha : atI xs i = some v) (q : Q v H) : rIxT K (.ref p) (.int i) H Q := ⟨p, xs, i, v, rfl, rfl, h, ha, q⟩
theorem r_ixL {p : Addr} {xs : List V} {i : Int} {v : V} (h : SqL K H p xs) (ha : atI xs i = some v) (q : Q v H) : rIxL K (.ref p) (.int i) H Q := ⟨p, xs, i, v, rfl, rfl, h, ha, q⟩
/-- the length of a list or a tuple -/
def rLen (K : PySem.W.Frag) : List V → Hp → VK → Prop := fun xs H Q => ∃ p ys, xs = [.ref p] ∧ (SqL K H p ys ∨ SqT K H p ys) ∧ Q (.int ys.length) H
theorem r_lenT {p : Addr} {xs : List V} (h : SqT K H p xs) (q : Q (.int xs.length) H) : SW.rLen K [.ref p] H Q := ⟨p, xs, rfl, .inr h, q⟩
theorem r_lenL {p : Addr} {xs : List V} (h : SqL K H p xs) (q : Q (.int xs.length) H) : SW.rLen K [.ref p] H Q := ⟨p, xs, rfl, .inl h, q⟩
end
/-! ### data, at any depth: it stays where the heap only grows -/
section
variable {K : PySem.W.Frag} {H H' : Hp}
mutual
theorem dp_ex (e : Ex H H') : ∀ {v : V} {d : PyData}, Dp K H v d → Dp K H' v d
  | _, _, .non => .non
  | _, _, .bl b => .bl b
  | _, _, .int i => .int i
  | _, _, .str x => .str x
  | _, _, .lst h a => .lst (ex_l e h) (dpAll_ex e a)
  | _, _, .tup h a => .tup (ex_t e h) (dpAll_ex e a)
theorem dpAll_ex (e : Ex H H') : ∀ {vs : List V} {ds : List PyData}, DpAll K H vs ds → DpAll K H' vs ds
  | _, _, .nil => .nil
  | _, _, .cons h t => .cons (dp_ex e h) (dpAll_ex e t)
end
theorem dpAll_len : ∀ {vs : List V} {ds : List PyData}, DpAll K H vs ds → vs.length = ds.length
  | _, _, .nil => rfl
  | _, _, .cons _ t => congrArg (· + 1) (dpAll_len t)
theorem dpAll_at : ∀ {vs : List V} {ds : List PyData} {i : Nat} {d : PyData}, DpAll K H vs ds → ds[i]? = some d → ∃ v, vs[i]? = some v ∧ Dp K H v d
  | _, _, _, _, .nil, e => by simp at e
  | _, _, 0, d, .cons h t, e => by
    have e2 := Option.some.inj e
    exact ⟨_, rfl, e2 ▸ h⟩
  | _, _, i + 1, d, .cons h t, e => by
    obtain ⟨v, h1, h2⟩ := dpAll_at (i := i) t e
    exact ⟨v, h1, h2⟩
theorem dpAll_snoc : ∀ {vs : List V} {ds : List PyData} {v : V} {d : PyData}, DpAll K H vs ds → Dp K H v d → DpAll K H (vs ++ [v]) (ds ++ [d])
  | _, _, _, _, .nil, h => .cons h .nil
  | _, _, _, _, .cons a t, h => .cons a (dpAll_snoc t h)
theorem dpAll_app : ∀ {vs ws : List V} {ds es : List PyData}, DpAll K H vs ds → DpAll K H ws es → DpAll K H (vs ++ ws) (ds ++ es)
  | _, _, _, _, .nil, h => h
  | _, _, _, _, .cons a t, h => .cons a (dpAll_app t h)
/-- ints -/
theorem dpAll_ints : ∀ {vs : List V} {ns : List Int}, DpAll K H vs (ns.map PyData.int) → vs = ns.map V.int
  | _, [], .nil => rfl
  | _, n :: ns, .cons h t => by
    cases h
    rw [dpAll_ints t] <;> rfl
theorem dpAll_of_ints : ∀ (ns : List Int), DpAll K H (ns.map V.int) (ns.map PyData.int)
  | [] => .nil
  | n :: ns => .cons (.int n) (dpAll_of_ints ns)
/-- a tuple of ints; of tuples .. -/
def dTI (ns : List Int) : PyData := .tuple (ns.map PyData.int)
def dLI (ns : List Int) : PyData := .list (ns.map PyData.int)
theorem dp_ti {a : Addr} {ns : List Int} (h : SqT K H a (ns.map V.int)) : Dp K H (.ref a) (dTI ns) := .tup h (dpAll_of_ints ns)
theorem dp_li {a : Addr} {ns : List Int} (h : SqL K H a (ns.map V.int)) : Dp K H (.ref a) (dLI ns) := .lst h (dpAll_of_ints ns)
theorem ti_sq {v : V} {ns : List Int} (h : Dp K H v (dTI ns)) : ∃ a, v = .ref a ∧ SqT K H a (ns.map V.int) := by
  cases h with
  | tup h a => rw [dpAll_ints a] at h; exact ⟨_, rfl, h⟩
theorem li_sq {v : V} {ns : List Int} (h : Dp K H v (dLI ns)) : ∃ a, v = .ref a ∧ SqL K H a (ns.map V.int) := by
  cases h with
  | lst h a => rw [dpAll_ints a] at h; exact ⟨_, rfl, h⟩
theorem tu_sq {v : V} {ds : List PyData} (h : Dp K H v (.tuple ds)) : ∃ a xs, v = .ref a ∧ SqT K H a xs ∧ DpAll K H xs ds := by
  cases h with
  | tup h a => exact ⟨_, _, rfl, h, a⟩
theorem ls_sq {v : V} {ds : List PyData} (h : Dp K H v (.list ds)) : ∃ a xs, v = .ref a ∧ SqL K H a xs ∧ DpAll K H xs ds := by
  cases h with
  | lst h a => exact ⟨_, _, rfl, h, a⟩
theorem int_v {v : V} {i : Int} (h : Dp K H v (.int i)) : v = .int i := by
  cases h
  rfl
/-- the i-th of a list of ints, i an int in bounds -/
theorem at_ints {ns : List Int} {i : Int} {j : Nat} {n : Int} (e : i = (j : Int)) (h : ns[j]? = some n) : atI (ns.map V.int) i = some (.int n) := by
  subst e
  exact atI_nat (by rw [List.getElem?_map, h] <;> rfl)
end
/-- a pure def: from x, told by its arguments, to what res says; the heap only grows -/
def SpP {α : Type} (arg : α → List V → Hp → Prop) (res : α → V → Hp → Prop) : Sp := fun vs H Q _ => ∃ x : α, arg x vs H ∧ ∀ v H', Ex H H' → res x v H' → Q v H'
theorem r_sp {α : Type} {arg : α → List V → Hp → Prop} {res : α → V → Hp → Prop} {vs : List V} {H : Hp} {Q : VK} {E : XK} (x : α) (ha : arg x vs H) (h : ∀ v H', Ex H H' → res x v H' → Q v H') : SpP arg res vs H Q E := ⟨x, ha, h⟩
/-! ### what the top leaves: the built-ins' names are free -/
structure Free (mg : Str → Option Value) : Prop where
  len : mg "len" = none
  isinstance : mg "isinstance" = none
  int : mg "int" = none
  bool : mg "bool" = none
  tuple : mg "tuple" = none
  str : mg "str" = none
  all : mg "all" = none
  any : mg "any" = none
  set : mg "set" = none
  enumerate : mg "enumerate" = none
  range : mg "range" = none
  sum : mg "sum" = none
  list : mg "list" = none
  sorted : mg "sorted" = none
  repr : mg "repr" = none
/-- a def of the text as it stands behind the top -/
abbrev FnP (K : PySem.W.Frag) (x : Str) (st : Stmt) (f : Addr) (fd : FuncData) : Prop := FunD K x x (defArgs st) (defBody st) (defScope st) [] [] f fd
/-- .. with its name, and its promise kept -/
structure Def (P : Program) (w : World) (K : PySem.W.Frag) (mg : Str → Option Value) (base : Heap) (CX : CXT) (k : Nat) (x : Str) (ps : List Str) (sp : Sp) : Prop where
  ex : ∃ (f : Addr) (fd : FuncData), mg x = some (.ref f) ∧ PySem.W.keepIn K (.ref f) = true ∧ Binds K fd ps [] ∧ FnOk P w K mg base CX k f fd ps sp
theorem Def.mk' {P : Program} {w : World} {K : PySem.W.Frag} {mg : Str → Option Value} {base : Heap} {CX : CXT} {k : Nat} {x : Str} {ps : List Str} {sp : Sp} {f : Addr} {fd : FuncData} {st : Stmt}
    (F : FnP K x st f fd) (g : mg x = some (.ref f)) (b : Binds K fd ps []) (h : FnOk P w K mg base CX k f fd ps sp) : Def P w K mg base CX k x ps sp := ⟨f, fd, g, F.kp, b, h⟩
section
variable {X : Cx} {k : Nat} {x : Str} {ps : List Str} {sp : Sp} {t : TA} {e : Expr} {es : List Expr} {pos p : Pos}
/-- f(a, ..), f a def that lets nothing out -/
theorem pe_def (F : Def X.prog X.w X.K X.mg X.base CX0 k x ps sp) (hr : Room k X.A) (ha : PA X (e :: es) t) (hg : Gl X x := by rfl)
    (he : starEach (e :: es) X.env = (false, eval e X.env) :: starEach es X.env := by rfl) (hpl : (backTo pos (starEach es X.env)).any (·.1) = false := by rfl)
    (hdb : (x == ("__debug__" : Str)) = false := by decide) : PE X (.Call (.Name x p) (e :: es) [] pos) (tCall sp [] E0 t) := by
  obtain ⟨f, fd, gm, kp, b, G⟩ := F.ex
  exact pe_call G hr hg gm kp b .nil pass0 ha (he := he) (hpl := hpl) (hdb := hdb)
end
section
/-! ### the layer's rules with their frag said -/
variable {X : Cx} {K : PySem.W.Frag}
theorem ixt (hK : X.K = K) : IxR X (rIxT K) := by subst hK; exact ix_tup
theorem ixl (hK : X.K = K) : IxR X (rIxL K) := by subst hK; exact ix_list
theorem lenq (hK : X.K = K) : CallR X (.builtin "len") (SW.rLen K) := by subst hK; exact call_len_seq
theorem slt (hK : X.K = K) : SlR X (rSlA K) := by subst hK; exact sl_tupA
theorem sll (hK : X.K = K) : SlR X (rSlL K) := by subst hK; exact sl_list
theorem pil {tg l : Expr} {tl : TE} (hK : X.K = K) (hl : PE X l tl) : PI X tg l (iList K tl) := by subst hK; exact pi_list hl
theorem pit {tg l : Expr} {tl : TE} (hK : X.K = K) (hl : PE X l tl) : PI X tg l (iTup K tl) := by subst hK; exact pi_tup hl
theorem pgt {es : List Expr} {k : Nat} {pos : Pos} {t : TGs} {n : Nat} (hK : X.K = K) (hc : X.calm = true) (h : PGs X es t) (hn : (assignEach es X.env).length = n := by rfl) (hst : (assignEach es X.env).findIdx? (·.1) = none := by rfl) :
    PG X (.Tuple es k pos) (gTup K n t) := by subst hK; exact pg_tup hc h hn hst
theorem eqd (hK : X.K = K) (hu : X.A.units + 64 < cLine) : OpR X (compareOp .Eq) (rEqD K) := by subst hK; exact op_eqD hu
theorem ned (hK : X.K = K) (hu : X.A.units + 64 < cLine) : OpR X (compareOp .NotEq) (rNeD K) := by subst hK; exact op_neD hu
theorem ind (hK : X.K = K) (hu : X.A.units + 65 < cLine) : OpR X (compareOp .In) (rInD K) := by subst hK; exact op_inD hu
theorem nind (hK : X.K = K) (hu : X.A.units + 65 < cLine) : OpR X (compareOp .NotIn) (rNotInD K) := by subst hK; exact op_notInD hu
theorem inq (hK : X.K = K) : OpR X (compareOp .In) (rIn K false) := by subst hK; exact op_in_seq
theorem ninq (hK : X.K = K) : OpR X (compareOp .NotIn) (rIn K true) := by subst hK; exact op_notIn_seq
def rTupOf (K : PySem.W.Frag) : List V → Hp → VK → Prop := fun xs H Q => ∃ p ys, xs = [.ref p] ∧ ((SqL K H p ys ∧ ∀ l, H l = none → Q (.ref l) (upd H l (.tup ys))) ∨ (SqT K H p ys ∧ Q (.ref p) H))
theorem tupq (hK : X.K = K) : CallR X (.type "tuple") (rTupOf K) := by subst hK; exact call_tuple_of
def rLstOf (K : PySem.W.Frag) : List V → Hp → VK → Prop := fun xs H Q => ∃ p ys, xs = [.ref p] ∧ (SqL K H p ys ∨ SqT K H p ys) ∧ ∀ l, H l = none → Q (.ref l) (upd H l (.lst ys))
theorem lstq (hK : X.K = K) : CallR X (.type "list") (rLstOf K) := by subst hK; exact call_list_of
theorem anyq (hK : X.K = K) (hc : X.calm = true) : CallR X (.builtin "any") (rAny K) := by subst hK; exact cr_any hc
theorem allq (hK : X.K = K) (hc : X.calm = true) : CallR X (.builtin "all") (rAll K) := by subst hK; exact cr_all hc
theorem suml (hK : X.K = K) (hc : X.calm = true) : CallR X (.builtin "sum") (rSum K) := by subst hK; exact cr_sum hc
theorem srtq (hK : X.K = K) : CallR X (.builtin "sorted") (rSorted K) := by subst hK; exact cr_sorted
theorem isiq (hK : X.K = K) : CallR X (.builtin "isinstance") (rIsi K) := by subst hK; exact call_isi
theorem catt (hK : X.K = K) : OpR X (binaryOp .Add) (rCatA K) := by subst hK; exact op_catA
theorem rept (hK : X.K = K) : OpR X (binaryOp .Mult) (rRepT K) := by subst hK; exact op_repT
theorem revl {e : Expr} {te : TE} {k : Nat} {p1 p2 p3 pos : Pos} (hK : X.K = K) (he : PE X e te) : PE X (.Subscript e (.Slice none none (some (.UnaryOp .USub (.Constant (.int 1) k p1) p2)) p3) pos) (tRevL K te) := by subst hK; exact pe_revL he
end
section
variable {K : PySem.W.Frag} {σ : L2.St} {H : Hp} {Q : VK}
theorem r_tupOfL {p : Addr} {ys : List V} (h : SqL K H p ys) (q : ∀ l H1, H l = none → Ex H H1 → H1 l = some (.tup ys) → Q (.ref l) H1) : rTupOf K [.ref p] H Q := ⟨p, ys, rfl, .inl ⟨h, r_tupF q⟩⟩
theorem r_lstOf {p : Addr} {ys : List V} (h : SqL K H p ys ∨ SqT K H p ys) (q : ∀ l H1, H l = none → Ex H H1 → H1 l = some (.lst ys) → Q (.ref l) H1) : rLstOf K [.ref p] H Q := ⟨p, ys, rfl, h, r_lstF q⟩
end
end SW
end

section
set_option Elab.async false
set_option linter.all false
set_option maxRecDepth 100000
set_option maxHeartbeats 4000000
/-! loops and comprehensions, run over what they walk -/
namespace SW
open PySem PySem.Spec PyProof.Rows L2 Evl
/-- what is walked has come: J, from the heap H1 -/
abbrev got (J : It) : TI := fun _ H R => R J H
section
variable {σ : L2.St} {H : Hp} {Q : VK} {wi : TI} {g : TG} {tt : TT} {te : TE} {vs : List Nat} {ta : TA} {tl : TE} {R : It → Hp → Prop} {K : PySem.W.Frag}
theorem r_lc (h : wi σ H fun J H1 => tLc (got J) g tt te vs σ H1 Q) : tLc wi g tt te vs σ H Q := h
theorem r_rng1 (h : ta σ H fun us H1 => ∃ j : Int, us = [.int j] ∧ -(2 ^ 62) ≤ j ∧ j < 2 ^ 62 ∧ R (Itr 0 j.toNat) H1) : iRng1 ta σ H R := h
theorem r_rng1v {b : Int} (hb : 0 ≤ b ∧ b ≤ 100000) (h : R (Itr 0 b.toNat) H) : ∃ j : Int, [V.int b] = [.int j] ∧ -(2 ^ 62) ≤ j ∧ j < 2 ^ 62 ∧ R (Itr 0 j.toNat) H := ⟨b, rfl, by omega, by omega, h⟩
theorem r_rng2 (h : ta σ H fun us H1 => ∃ i j : Int, us = [.int i, .int j] ∧ (-(2 ^ 62) ≤ i ∧ i < 2 ^ 62 ∧ -(2 ^ 62) ≤ j ∧ j < 2 ^ 62) ∧ R (Itr i (j - i).toNat) H1) : iRng2 ta σ H R := h
theorem r_rng2v {a b : Int} (hb : -100000 ≤ a ∧ a ≤ 100000 ∧ -100000 ≤ b ∧ b ≤ 100000) (h : R (Itr a (b - a).toNat) H) :
    ∃ i j : Int, [V.int a, V.int b] = [.int i, .int j] ∧ (-(2 ^ 62) ≤ i ∧ i < 2 ^ 62 ∧ -(2 ^ 62) ≤ j ∧ j < 2 ^ 62) ∧ R (Itr i (j - i).toNat) H := ⟨a, b, rfl, ⟨by omega, by omega, by omega, by omega⟩, h⟩
theorem r_iList (h : tl σ H fun x H1 => ∃ a, x = .ref a ∧ (∃ xs, SqL K H1 a xs) ∧ R (Itl K a) H1) : iList K tl σ H R := h
theorem r_iListv {p : Addr} {xs : List V} (hx : SqL K H p xs) (h : R (Itl K p) H) : ∃ a, V.ref p = .ref a ∧ (∃ xs, SqL K H a xs) ∧ R (Itl K a) H := ⟨p, rfl, ⟨xs, hx⟩, h⟩
theorem r_iTup (h : tl σ H fun x H1 => ∃ a, x = .ref a ∧ (∃ xs, SqT K H1 a xs) ∧ R (Itt K a) H1) : iTup K tl σ H R := h
theorem r_iTupv {p : Addr} {xs : List V} (hx : SqT K H p xs) (h : R (Itt K p) H) : ∃ a, V.ref p = .ref a ∧ (∃ xs, SqT K H a xs) ∧ R (Itt K a) H := ⟨p, rfl, ⟨xs, hx⟩, h⟩
/-- a comprehension, over anything that walks n turns: f: which turns give; W: what they give. D is the new list -/
theorem lc_run {J : It} {n : Nat} {G : Hp → Prop} {Y : Nat → Hp → V → Hp → Prop} (w : L2.Walk J n G Y) (f : Nat → Bool) (W : Addr → Nat → V → Hp → Prop)
    (mono : ∀ D i y H H', (∀ a o, a ≠ D → H a = some o → H' a = some o) → W D i y H → W D i y H') (hG : ∀ H', Ex H H' → G H') (hn : n ≤ 100000)
    (body : ∀ (D : Addr) (i : Nat) (x : V) (H' H'' : Hp) (acc : List V) (KN : Hp → Prop) (KY : V → Hp → Prop), i < n → Ex H H' → Y i H' x H'' → H D = none → H' D = some (.lst acc) →
      (f i = false → ∀ H3, Ex H' H3 → KN H3) → (f i = true → ∀ y H4, Ex H' H4 → W D i y H4 → KY y H4) →
      g x (wipe σ vs) H'' fun σ2 H2 => wipe σ2 vs = wipe σ vs ∧ tt σ2 H2 fun b H3 => if b = true then te σ2 H3 KY else KN H3)
    (k : ∀ D H' ys, H D = none → Ex H H' → H' D = some (.lst ys) → Paired (fun i y => W D i y H') ((List.range n).filter f) ys → Q (.ref D) H') :
    tLc (got J) g tt te vs σ H Q := by
  intro D hD
  refine lc_it w (fun i H' => i ≤ n ∧ Ex H H' ∧ ∃ ys, ys.length ≤ i ∧ H' D = some (.lst ys) ∧ Paired (fun i y => W D i y H') ((List.range i).filter f) ys) ⟨Nat.zero_le _, Ex.new hD, [], Nat.le_refl _, upd_same, .nil⟩ (fun i H' _ p => hG H' p.2.1) ?_ ?_
  · rintro i x H' H'' hi ⟨_, e, ys, hl, hy, pr⟩ y
    have e2 : (List.range (i + 1)).filter f = (List.range i).filter f ++ (if f i = true then [i] else []) := by
      rw [List.range_succ, List.filter_append, List.filter_cons] <;> rfl
    refine body D i x H' H'' ys _ _ hi e y hD hy (fun hf H3 e3 => ?_) (fun hf v H4 e4 r => ?_)
    · refine ⟨hi, e.trans e3, ys, Nat.le_succ_of_le hl, e3 D _ hy, ?_⟩
      rw [e2, hf]
      show Paired _ (_ ++ []) ys
      rw [List.append_nil]
      exact Paired.mapP pr fun a b z => mono D a b _ _ (fun c o _ q => e3 c o q) z
    · refine ⟨ys, e4 D _ hy, by rw [sizeLine_eq]; omega, hi, Ex.mut (e.trans e4) hD, ys ++ [v], by rw [List.length_append]; exact Nat.add_le_add_right hl 1, upd_same, ?_⟩
      rw [e2, hf]
      have up : ∀ a b, W D a b H4 → W D a b (upd H4 D (.lst (ys ++ [v]))) := fun a b z => mono D a b _ _ (fun c o hc q => by rw [upd_ne hc]; exact q) z
      have pr2 : Paired (fun a b => W D a b (upd H4 D (.lst (ys ++ [v])))) ((List.range i).filter f) ys := Paired.mapP pr fun a b z => up a b (mono D a b _ _ (fun c o _ q => e4 c o q) z)
      have last : W D i v (upd H4 D (.lst (ys ++ [v]))) := up i v r
      clear pr up
      generalize (List.range i).filter f = l at pr2
      clear hl hy e2
      generalize hS : upd H4 D (.lst (ys ++ [v])) = S at pr2 last ⊢
      clear hS
      show Paired (fun a b => W D a b S) (l ++ [i]) (ys ++ [v])
      induction pr2 with
      | nil => exact .cons last .nil
      | cons h t ih => exact .cons h ih
  · rintro H' ⟨_, e, ys, _, hy, pr⟩
    exact k D H' ys hD e hy pr
/-- .. whose items are known values -/
theorem lc_vals {J : It} {n : Nat} {G : Hp → Prop} {Y : Nat → Hp → V → Hp → Prop} (w : L2.Walk J n G Y) (f : Nat → Bool) (val : Nat → V) (hG : ∀ H', Ex H H' → G H') (hn : n ≤ 100000)
    (body : ∀ (D : Addr) (i : Nat) (x : V) (H' H'' : Hp) (acc : List V) (KN : Hp → Prop) (KY : V → Hp → Prop), i < n → Ex H H' → Y i H' x H'' → H D = none → H' D = some (.lst acc) →
      (f i = false → ∀ H3, Ex H' H3 → KN H3) → (f i = true → ∀ H4, Ex H' H4 → KY (val i) H4) →
      g x (wipe σ vs) H'' fun σ2 H2 => wipe σ2 vs = wipe σ vs ∧ tt σ2 H2 fun b H3 => if b = true then te σ2 H3 KY else KN H3)
    (k : ∀ D H', H D = none → Ex H H' → H' D = some (.lst (((List.range n).filter f).map val)) → Q (.ref D) H') :
    tLc (got J) g tt te vs σ H Q := by
  refine lc_run w f (fun _ i y _ => y = val i) (fun _ _ _ _ _ _ z => z) hG hn (fun D i x H' H'' acc KN KY hi e y hD hy h1 h2 => body D i x H' H'' acc KN KY hi e y hD hy h1 fun hf H4 e4 => h2 hf _ H4 e4 rfl) fun D H' ys hD e hy pr => ?_
  have ey : ys = ((List.range n).filter f).map val := by
    clear hy
    generalize (List.range n).filter f = l at pr ⊢
    induction pr with
    | nil => rfl
    | cons h t ih => rw [List.map_cons, ← ih, h]
  rw [ey] at hy
  exact k D H' hD e hy
/-- new tuples of ints, as they stand -/
abbrev Tups (H : Hp) (ls : List (List Int)) (vs : List V) : Prop := Paired (fun l v => ∃ p, v = V.ref p ∧ H p = some (.tup (l.map V.int))) ls vs
/-- no tuple goes -/
def TEx (H H' : Hp) : Prop := ∀ p xs, H p = some (.tup xs) → H' p = some (.tup xs)
theorem TEx.of {H H' : Hp} (e : Ex H H') : TEx H H' := fun p _ h => e p _ h
theorem TEx.trans {H H1 H2 : Hp} (a : TEx H H1) (b : TEx H1 H2) : TEx H H2 := fun p xs h => b p xs (a p xs h)
theorem TEx.lst {H : Hp} {p : Addr} {xs : List V} {o : HO} (h : H p = some (.lst xs)) : TEx H (upd H p o) := fun q ys e => by
  rw [upd_ne (ne_of e h (fun z => by cases z))]
  exact e
theorem Tups.mono {H H' : Hp} {ls : List (List Int)} {vs : List V} (t : Tups H ls vs) (e : TEx H H') : Tups H' ls vs := Paired.mapP t fun _ _ ⟨p, h, q⟩ => ⟨p, h, e p _ q⟩
theorem Tups.nil {H : Hp} : Tups H [] [] := Paired.nil
theorem Tups.app {H : Hp} {ls ms : List (List Int)} {vs ws : List V} (a : Tups H ls vs) (b : Tups H ms ws) : Tups H (ls ++ ms) (vs ++ ws) := by
  induction a with
  | nil => exact b
  | cons h t ih => exact .cons h ih
theorem Tups.one {H : Hp} {l : List Int} {p : Addr} (h : H p = some (.tup (l.map V.int))) : Tups H [l] [.ref p] := .cons ⟨p, rfl, h⟩ .nil
theorem Tups.len {H : Hp} {ls : List (List Int)} {vs : List V} (t : Tups H ls vs) : ls.length = vs.length := Paired.length t
theorem Tups.at {H : Hp} {ls : List (List Int)} {vs : List V} (t : Tups H ls vs) : ∀ {i : Nat} {v : V}, vs[i]? = some v → ∃ l p, ls[i]? = some l ∧ v = .ref p ∧ H p = some (.tup (l.map V.int)) := by
  induction t with
  | nil => intro i v e; simp at e
  | cons h t ih =>
    intro i v e
    cases i with
    | zero =>
      obtain ⟨p, h, q⟩ := h
      exact ⟨_, p, rfl, (Option.some.inj e).symm.trans h, q⟩
    | succ i => exact ih (i := i) (by simpa using e)
theorem Tups.dp {K : PySem.W.Frag} {H : Hp} {ls : List (List Int)} {vs : List V} (t : Tups H ls vs) : DpAll K H vs (ls.map dTI) := by
  induction t with
  | nil => exact .nil
  | cons h t ih =>
    obtain ⟨p, h, q⟩ := h
    exact .cons (h ▸ dp_ti (SqT.of q)) ih
/-- .. whose items are new tuples of ints -/
theorem lc_tups {J : It} {n : Nat} {G : Hp → Prop} {Y : Nat → Hp → V → Hp → Prop} (w : L2.Walk J n G Y) (f : Nat → Bool) (dat : Nat → List Int) (hG : ∀ H', Ex H H' → G H') (hn : n ≤ 100000)
    (body : ∀ (D : Addr) (i : Nat) (x : V) (H' H'' : Hp) (acc : List V) (KN : Hp → Prop) (KY : V → Hp → Prop), i < n → Ex H H' → Y i H' x H'' → H D = none → H' D = some (.lst acc) →
      (f i = false → ∀ H3, Ex H' H3 → KN H3) → (f i = true → ∀ p H4, Ex H' H4 → H4 p = some (.tup ((dat i).map V.int)) → KY (.ref p) H4) →
      g x (wipe σ vs) H'' fun σ2 H2 => wipe σ2 vs = wipe σ vs ∧ tt σ2 H2 fun b H3 => if b = true then te σ2 H3 KY else KN H3)
    (k : ∀ D H' ys, H D = none → Ex H H' → H' D = some (.lst ys) → Tups H' (((List.range n).filter f).map dat) ys → Q (.ref D) H') :
    tLc (got J) g tt te vs σ H Q := by
  refine lc_run w f (fun D i y H => ∃ p, y = .ref p ∧ p ≠ D ∧ H p = some (.tup ((dat i).map V.int))) (fun D i y H H' h ⟨p, e, n, q⟩ => ⟨p, e, n, h p _ n q⟩) hG hn
    (fun D i x H' H'' acc KN KY hi e y hD hy h1 h2 => body D i x H' H'' acc KN KY hi e y hD hy h1 fun hf p H4 e4 hp => h2 hf _ H4 e4 ⟨p, rfl, ne_of hp (e4 D _ hy) (fun z => by cases z), hp⟩) fun D H' ys hD e hy pr => ?_
  refine k D H' ys hD e hy ?_
  clear hy
  generalize (List.range n).filter f = l at pr ⊢
  induction pr with
  | nil => exact .nil
  | cons h t ih =>
    obtain ⟨p, e, _, q⟩ := h
    exact .cons ⟨p, e, q⟩ ih
end
section
variable {σ : L2.St} {H : Hp} {wi : TI} {g : TG} {tb tz : TS} {nx : L2.St → Hp → Prop} {rt : VK} {bk ct : L2.St → Hp → Prop}
theorem r_for (h : wi σ H fun J H1 => tFor (got J) g tb ⟨nx, rt, bk, ct⟩ σ H1) : tFor wi g tb ⟨nx, rt, bk, ct⟩ σ H := h
theorem for_run {J : It} {n : Nat} {G : Hp → Prop} {Y : Nat → Hp → V → Hp → Prop} (w : L2.Walk J n G Y) (Pv : Nat → L2.St → Hp → Prop) (h0 : Pv 0 σ H) (hG : ∀ i σ H, i ≤ n → Pv i σ H → G H)
    (hs : ∀ i x σ H H', i < n → Pv i σ H → Y i H x H' → g x σ H' fun σ2 H2 => tb ⟨Pv (i + 1), rt, nx, Pv (i + 1)⟩ σ2 H2) (hd : ∀ σ H, Pv n σ H → nx σ H) : tFor (got J) g tb ⟨nx, rt, bk, ct⟩ σ H :=
  for_it w (D := ⟨nx, rt, bk, ct⟩) Pv h0 hG hs hd
end
/-- range(n) -/
theorem walk0 {n : Nat} : L2.Walk (Itr 0 n) n (fun _ => True) (YFn fun i => .int (i : Int)) :=
  walk_range.mono (fun _ h => h) fun i H x H' _ _ y => ⟨y.1, y.2.trans (congrArg V.int (Int.zero_add _))⟩
theorem r_tYes {σ : L2.St} {H : Hp} {Qb : Bool → Hp → Prop} (q : Qb true H) : tYes σ H Qb := q
theorem r_ifT {A B : Prop} (h : A) : if true = true then A else B := h
theorem r_ifF {A B : Prop} (h : B) : if false = true then A else B := h
theorem r_ext {H : Hp} {Q : VK} {l b : Addr} {xs zs : List V} (hl : H l = some (.lst xs)) (hb : H b = some (.lst zs)) (hz : xs.length + zs.length ≤ 100000) (q : Q (.ref l) (upd H l (.lst (xs ++ zs)))) : rExt2 (.ref l) (.ref b) H Q := ⟨l, b, xs, zs, rfl, rfl, hl, hb, sz_of hz, q⟩
theorem filter_yes {α : Type} (l : List α) : l.filter (fun _ => true) = l := List.filter_eq_self.mpr fun _ _ => rfl
/-- the items of a list, by their places -/
theorem map_range_getD {α β : Type} (l : List α) (d : α) (g : α → β) : (List.range l.length).map (fun j => g (l.getD j d)) = l.map g := by
  refine List.ext_getElem (by simp) fun i h1 h2 => ?_
  simp at h1
  simp [h1]
theorem r_blp {b : Bool} {P : Bool → Prop} (q : P b) : ∃ k, V.bl b = .bl k ∧ P k := ⟨b, rfl, q⟩
/-! new objects, targets -/
theorem new_of {H H1 : Hp} {p : Addr} {o : HO} (hp : H p = none) (hu : upd H p o = H1) : Ex H H1 ∧ H1 p = some o := by
  subst hu
  exact ⟨Ex.new hp, upd_same⟩
theorem mut_of {H H1 : Hp} {p : Addr} {o : HO} (hu : upd H p o = H1) : (∀ a u, a ≠ p → H a = some u → H1 a = some u) ∧ H1 p = some o := by
  subst hu
  exact ⟨fun a u n h => by rw [upd_ne n]; exact h, upd_same⟩
theorem r_sz {xs : List V} {B : Prop} (hz : xs.length ≤ 100000) (k : B) : xs.length ≤ sizeLine ∧ B := ⟨sz_of hz, k⟩
section
variable {K : PySem.W.Frag} {σ : L2.St} {H : Hp} {N : L2.St → Hp → Prop} {g : TG} {gs : TGs}
theorem r_gTup {n : Nat} {p : Addr} {xs : List V} (h : SqT K H p xs) (hn : xs.length = n) (k : gs xs σ H N) : gTup K n gs (.ref p) σ H N := ⟨p, xs, rfl, h, hn, k⟩
theorem r_gCons {v : V} {vs : List V} (k : g v σ H fun σ' H' => gs vs σ' H' N) : gCons g gs (v :: vs) σ H N := ⟨v, vs, rfl, k⟩
theorem r_gNil (k : N σ H) : gNil [] σ H N := ⟨rfl, k⟩
theorem r_gSub {to ti : TE} {t : TSet} {v : V} (k : to σ H fun o H1 => ti σ H1 fun i H2 => t o i v H2 fun H3 => N σ H3) : gSub to ti t v σ H N := k
theorem r_setL {p : Addr} {xs : List V} {k : Int} {v : V} {M : Hp → Prop} (j : Nat) (h : H p = some (.lst xs)) (hj : ixN xs.length k = some j) (q : M (upd H p (.lst (xs.set j v)))) : rSetL (.ref p) (.int k) v H M := ⟨p, xs, k, j, rfl, rfl, h, hj, q⟩
end
theorem rg_ok {a b : Int} (h : -100000 ≤ a ∧ a ≤ 100000 ∧ -100000 ≤ b ∧ b ≤ 100000) : -(2 ^ 62) ≤ a ∧ a < 2 ^ 62 ∧ -(2 ^ 62) ≤ b ∧ b < 2 ^ 62 := ⟨by omega, by omega, by omega, by omega⟩
theorem ixN_nat {n : Nat} {i : Int} (h0 : 0 ≤ i) (h1 : i < n) : ixN n i = some i.toNat := by
  unfold ixN
  rw [if_pos h0, if_pos h1]
end SW
end

section
set_option Elab.async false
set_option linter.all false
set_option maxRecDepth 100000
set_option maxHeartbeats 4000000
/-! operations over tuples of ints that the layer has for lists alone -/
namespace SW
open PySem PySem.Spec PyProof.Rows L2 Evl
theorem nd_le {α : Type} [DecidableEq α] : ∀ {l m : List α}, l.Nodup → (∀ x ∈ l, x ∈ m) → l.length ≤ m.length
  | [], m, _, _ => Nat.zero_le _
  | a :: l, m, h, hs => by
    obtain ⟨h1, h2⟩ := List.nodup_cons.mp h
    have ha : a ∈ m := hs a List.mem_cons_self
    have h3 : l.length ≤ (m.erase a).length := nd_le h2 fun x hx => by
      have hne : x ≠ a := fun e => h1 (e ▸ hx)
      exact (List.mem_erase_of_ne hne).mpr (hs x (List.mem_cons_of_mem _ hx))
    have h4 : (m.erase a).length = m.length - 1 := List.length_erase_of_mem ha
    have h5 : 0 < m.length := List.length_pos_of_mem ha
    rw [List.length_cons]
    omega
section
variable {X : Cx} {K : PySem.W.Frag}
/-- o[i] of a list, by values, for o[i] op= e -/
def gIx (K : PySem.W.Frag) : V → V → Hp → VK → Prop := fun o i H Q => ∃ p xs k v, o = .ref p ∧ i = .int k ∧ SqL K H p xs ∧ 0 ≤ k ∧ xs[k.toNat]? = some v ∧ Q v H
theorem getl (hK : X.K = K) : PGet X (gIx K) := by
  subst hK
  intro pins s σ H o i ov iv Q I ro ri h
  obtain ⟨p, xs, k, v, rfl, rfl, hs, h0, ha, q⟩ := h
  cases ro
  obtain ⟨t, rfl⟩ := ri
  obtain ⟨its, r, pl, hz⟩ := I.list hs
  obtain ⟨u, hu, ru⟩ := r.get ha
  have hn := line63
  have hlt := (List.getElem?_eq_some_iff.mp ha).1
  exact wpAny_getItem_list pl.isList h0 (by omega) (by simpa using hu) ⟨v, H, I, ru, q⟩
/-- len(set(t)), a tuple of distinct ints -/
def tLenSetT (K : PySem.W.Frag) (ta : TE) : TE := fun σ H Q => ta σ H fun x H1 => ∃ (p : Addr) (ns : List Int), x = .ref p ∧ SqT K H1 p (ns.map V.int) ∧ ns.Nodup ∧ ns.length ≤ 1000 ∧ Q (.int (ns.length : Nat)) H1
theorem lensetT {a : Expr} {ta : TE} {p p2 q pos : Pos} (hK : X.K = K) (hc : X.calm = true) (hg : Gl X "len") (hm : X.mg "len" = none) (hg2 : Gl X "set") (hm2 : X.mg "set" = none) (ha : PE X a ta)
    (na : starEach [a] X.env = (false, eval a X.env) :: starEach [] X.env := by rfl) : PE X (.Call (.Name "len" p) [.Call (.Name "set" p2) [a] [] q] [] pos) (tLenSetT K ta) := by
  subst hK
  refine ⟨fun pins s σ H Q I h => Call_ (ld_blt I hg hm PySem.boot_len ?_)⟩
  refine PyProof.Rows.callWith_builtin1 (PyProof.Rows.args_cons ?_ rfl) rfl rfl
  refine Call_ (ld_blt I hg2 hm2 PyProof.Rows.boot_set ?_)
  refine PyProof.Rows.callWith_type1 (PyProof.Rows.args_cons (thn (ha.run pins s σ H _ I h) fun v s1 z => PyProof.Rows.args_nil ?_) na) na rfl
  obtain ⟨x, H1, I1, r1, l, ns, ex, hq, hnd, hl, q1⟩ := z
  subst ex
  cases r1
  obtain ⟨its, r, pl, hz⟩ := I1.tuple hq
  refine call_set_tupI ns (I1.ok.hd hc) pl (by simpa using r.ints) (by unfold scanBound; omega) fun h' tk c hS _ hk => ?_
  obtain ⟨o, es, ep, t, ho, hex, hd, _, hn, hmem, _, hf, he, _⟩ := hS
  have hlen : es.size = ns.length := by
    have e1 : (es.toList.map keyOf).length = es.size := by rw [List.length_map, Array.length_toList]
    have a1 := nd_le hn (m := ns) fun k hk => by simpa using (hmem k).mpr hk
    have a2 := nd_le hnd (m := es.toList.map keyOf) fun k hk => (hmem k).mp (by simpa using hk)
    omega
  refine PyProof.Rows.args_nil ?_
  have I2 : Inv X pins σ H1 { s1 with heap := h', toks := tk } := I1.kept hk
  exact call_len_set ho hex hd hf (by omega) ⟨.int ns.length, H1, I2.tok _, ⟨_, by rw [hlen]⟩, q1⟩
/-- len(set(xs)), a list of distinct ints -/
theorem lenset {a : Expr} {ta : TE} {p p2 q pos : Pos} (hK : X.K = K) (hc : X.calm = true) (hg : Gl X "len") (hm : X.mg "len" = none) (hg2 : Gl X "set") (hm2 : X.mg "set" = none) (ha : PE X a ta)
    (na : starEach [a] X.env = (false, eval a X.env) :: starEach [] X.env := by rfl) : PE X (.Call (.Name "len" p) [.Call (.Name "set" p2) [a] [] q] [] pos) (L2.tLenSetI K ta) := by
  subst hK
  exact L2.pe_lenSetI hc hg hm hg2 hm2 ha (na := na)
/-- t.index(n), a tuple of ints -/
def rIdxT (K : PySem.W.Frag) : V → List V → Hp → VK → Prop := fun x xs H Q => ∃ (p : Addr) (ns : List Int) (z : Int), x = .ref p ∧ xs = [.int z] ∧ SqT K H p (ns.map V.int) ∧ z ∈ ns ∧ Q (.int (ns.idxOf z : Nat)) H
theorem flat_ints (ns : List Int) : (ns.map V.int).all flatV = true := by
  rw [List.all_map]
  exact List.all_eq_true.mpr fun _ _ => rfl
theorem idxOf_lt' {ns : List Int} {z : Int} {m : Nat} {y : Int} (hm : m < ns.idxOf z) (h : ns[m]? = some y) : y ≠ z := by
  intro e
  subst e
  obtain ⟨hl, he⟩ := List.getElem?_eq_some_iff.mp h
  have := List.not_of_lt_findIdx (p := (· == y)) (xs := ns) (i := m) hm
  rw [he] at this
  simp at this
theorem idxt (hK : X.K = K) : MtR X "tuple.index" (SW.rIdxT K) := by
  subst hK
  intro pins s σ H x xs v us Q I rx rs h
  obtain ⟨p, ns, z, rfl, rfl, hq, hz, q⟩ := h
  cases rx
  obtain ⟨u, rfl, t, rfl⟩ := vals1 rs
  obtain ⟨its, r, ⟨⟨cls, dd, dt, sl⟩, ho, hc, n, hd⟩, _⟩ := I.tuple hq
  simp only at hc hd
  subst hc hd
  have hl : its.toArray.size = ns.length := by rw [List.size_toArray, ← r.length, List.length_map]
  have hjn : ns.idxOf z < ns.length := List.idxOf_lt_length_iff.mpr hz
  have hj : ns.idxOf z < its.toArray.size := by rw [hl]; exact hjn
  have at' : ∀ (m : Nat) (hm : m < its.toArray.size), ∃ y t', ns[m]? = some y ∧ its.toArray[m] = Value.int y t' := fun m hm => by
    have hm' : m < ns.length := by rw [← hl]; exact hm
    obtain ⟨w, hw, t', hw'⟩ := r.get (i := m) (x := .int ns[m]) (by simp [hm'])
    refine ⟨ns[m], t', List.getElem?_eq_getElem hm', ?_⟩
    obtain ⟨_, e⟩ := List.getElem?_eq_some_iff.mp hw
    rw [← hw', ← e]
    simp
  refine call_meets PySem.F.slot_tuple_index ⟨_, ho, rfl⟩ PySem.F.entry_tuple_index (PySem.F.args_tuple_index_2 _ _) (_root_.TI.tuple_indexAt p its.toArray n dd sl (.int z t) (eqU (.int z)) (ns.idxOf z) hj ?_ ?_)
    ⟨ho, fun w hw => mem_eqAt (x := .int z) ⟨t, rfl⟩ rfl r (flat_ints ns) w (by simpa using hw), ⟨.int (ns.idxOf z : Nat), H, I.tok _, ⟨_, rfl⟩, q⟩⟩
  · obtain ⟨y, t', h1, h2⟩ := at' _ hj
    rw [h2]
    have e : y = z := by
      rw [List.getElem?_eq_getElem hjn, List.getElem_idxOf] at h1
      exact (Option.some.inj h1).symm
    subst e
    show (y == y) = true
    exact beq_self_eq_true y
  · intro m hm hmj
    obtain ⟨y, t', h1, h2⟩ := at' m hm
    rw [h2]
    show (y == z) = false
    exact beq_eq_false_iff_ne.mpr (idxOf_lt' hmj h1)
/-- xs.index(n), a list of ints -/
def rIdxL (K : PySem.W.Frag) : V → List V → Hp → VK → Prop := fun x xs H Q => ∃ (p : Addr) (ns : List Int) (z : Int), x = .ref p ∧ xs = [.int z] ∧ SqL K H p (ns.map V.int) ∧ z ∈ ns ∧ Q (.int (ns.idxOf z : Nat)) H
theorem idxl (hK : X.K = K) : MtR X "list.index" (SW.rIdxL K) := by
  subst hK
  intro pins s σ H x xs v us Q I rx rs h
  obtain ⟨p, ns, z, rfl, rfl, hq, hz, q⟩ := h
  have hjn : ns.idxOf z < ns.length := List.idxOf_lt_length_iff.mpr hz
  refine mt_index pins s σ H _ _ v us Q I rx rs ⟨p, ns.map V.int, .int z, ns.idxOf z, .int z, rfl, rfl, hq, rfl, flat_ints ns, ?_, ?_, fun m z' hm hz' => ?_, q⟩
  · rw [List.getElem?_map, List.getElem?_eq_getElem hjn, List.getElem_idxOf] <;> rfl
  · show (z == z) = true
    exact beq_self_eq_true z
  · rw [List.getElem?_map] at hz'
    obtain ⟨y, hy, rfl⟩ := Option.map_eq_some_iff.mp hz'
    show (y == z) = false
    exact beq_eq_false_iff_ne.mpr (idxOf_lt' hm hy)
/-- sum(t), a tuple of ints -/
def rSumT (K : PySem.W.Frag) : List V → Hp → VK → Prop := fun vs H Q => ∃ (a : Addr) (ns : List Int), vs = [V.ref a] ∧ SqT K H a (ns.map V.int) ∧ Q (.int ns.sum) H
theorem sumt (hK : X.K = K) (hc : X.calm = true) : CallR X (.builtin "sum") (rSumT K) := by
  subst hK
  intro pins s σ H vs us Q I r h
  obtain ⟨a, ns, rfl, hs, q⟩ := h
  obtain ⟨its, rv, hl, _⟩ := I.tuple hs
  rw [Vals.ref1 r]
  obtain ⟨xs, e⟩ := rv.ints.allInts.items
  have hn : numsOf (intItems xs).toList = ns := by rw [← e]; exact rv.ints.numsOf
  rw [nums_intItems] at hn
  have hl2 : s.heap.IsTuple a (intItems xs) := by rw [← e]; exact hl
  have hlt : a < s.heap.objs.size := by obtain ⟨_, z, _⟩ := hl2; exact Heap.lt_size z
  refine call_sum_walkG (wpAny_pyIter_tuple hl2 ⟨_, _, _, _, _, _, numAt xs, rfl, Walks.tuple (A := X.A.in1) (I.ok.hd hc) _ a (Nat.ne_of_lt hlt) (intItems xs), ⟨⟨_, Heap.get?_push_size _ rfl, rfl, rfl⟩, hl2.push _⟩, fun b hb => ?_, fun _ _ => intItems_at, fun h' tk t' hk => ?_⟩)
  · show b < (s.heap.push _).objs.size
    rw [Heap.size_push]
    rcases List.mem_cons.mp hb with rfl | hb
    · exact Nat.lt_succ_self _
    · rcases List.mem_cons.mp hb with rfl | hb
      · exact Nat.lt_succ_of_lt hlt
      · cases hb
  · refine ⟨.int ns.sum, H, ?_, ⟨t', ?_⟩, q⟩
    · exact I.kept (h' := h') (t' := tk) fun b o e => hk b o (fun hb => absurd (Heap.lt_size e) ((List.mem_singleton.mp hb) ▸ Nat.lt_irrefl _)) (Heap.get?_push_of_some _ e)
    · rw [preSum_eq, List.take_of_length_le (by simp [intItems]), hn]
end
/-! ### enumerate(t), t a tuple -/
section
variable {prog : Program} {w : World} {A : Around} {E : Value → Shared → Prop} {s : Shared}
theorem enumT_new (l : Addr) (items : Array Value) :
    Meets (Builtin.«enumerate.__new__» ⟨[.type "enumerate", .ref l], []⟩) (fun _ R s => s.heap.IsTuple l items ∧
      R (.ok (.ret (.ref (s.heap.push { cls := .type "tuple_iterator", data := .fields #[.ref l, .int 0 0] }).objs.size)))
        { s with heap := (s.heap.push { cls := .type "tuple_iterator", data := .fields #[.ref l, .int 0 0] }).push { cls := .type "enumerate", data := .fields #[.none, .bool false, .ref s.heap.objs.size, rawInt 0, .none, .none] } }) :=
  .of_wp fun prog w A R s h => by
    obtain ⟨hp, g, d, tk, os⟩ := s
    obtain ⟨hl, h⟩ := h
    have hsub := sub_enumerate
    wp_walk using wpAny_pyIter_tuple hl
    refine wpAny_stack_any fun st => wpAny_pure ?_
    split
    · rename_i c _ _ _ _ _
      cases (c == Value.type "enumerate") <;> (wp_walk using wpAny_pyIter_tuple hl; exact ⟨_, rfl, h⟩)
    · wp_walk using wpAny_pyIter_tuple hl
      exact ⟨_, rfl, h⟩
theorem call_enumT {l : Addr} {items : Array Value} {Q : Value → Shared → Prop} (hL : s.heap.IsTuple l items)
    (h : ∀ h', IsEnum h' (s.heap.objs.size + 1) s.heap.objs.size 0 .none → h'.IsTupleIter s.heap.objs.size l 0 → h'.objs.size = s.heap.objs.size + 2 →
      (∀ b o, s.heap.get? b = some o → h'.get? b = some o) → Q (.ref (s.heap.objs.size + 1)) { s with heap := h' }) :
    wpAny (model prog w) A (call (.type "enumerate") [.ref l]) Q E s := by
  refine callType_new F.called_enumerate (by decide) (F.typeCall_enumerate_1 _) (F.newCall_enumerate_1 _) (fun obj => F.args_object_init_2 obj _) F.entry_enumerate_new (enumT_new l items) ⟨hL, ?_⟩
  have hz : (s.heap.push { cls := .type "tuple_iterator", data := .fields #[.ref l, .int 0 0] }).objs.size = s.heap.objs.size + 1 := Heap.size_push ..
  show _ ∧ _
  rw [hz]
  have he := Heap.get?_push_size (s.heap.push { cls := .type "tuple_iterator", data := .fields #[.ref l, .int 0 0] }) (o := { cls := .type "enumerate", data := .fields #[.none, .bool false, .ref s.heap.objs.size, rawInt 0, .none, .none] }) rfl
  rw [hz] at he
  exact ⟨⟨_, he, rfl⟩, h _ he ⟨_, Heap.get?_push_of_some _ (Heap.get?_push_size _ rfl), rfl, rfl⟩ (by rw [Heap.size_push, hz]) fun b o x => Heap.get?_push_of_some _ (Heap.get?_push_of_some _ x)⟩
end
/-- the tuple at a, each item in a new pair -/
def ItE (K : PySem.W.Frag) (a : Addr) : It :=
  ⟨fun i H => ∃ (xs : List V) (x : V), SqT K H a xs ∧ xs[i]? = some x, fun i H v H' => ∃ T x, v = .ref T ∧ H T = none ∧ H' = upd H T (.tup [.int (i : Nat), x]) ∧ ∀ xs, SqT K H a xs → xs[i]? = some x, fun i H => ∃ xs : List V, SqT K H a xs ∧ xs.length = i⟩
theorem turn_enumT {P : Program} {w : World} {K : PySem.W.Frag} {elts : List Expr} {kk : Nat} {tpos : Pos} (a e it : Addr) (hne : e ≠ it) (hai : a ≠ it) (hea : e ≠ a) :
    Turn P w K (.Tuple elts kk tpos) (ItE K a) [e, it] e (fun i h => (∃ old, IsEnum h e it ((i : Nat) : Int) old) ∧ h.IsTupleIter it a i) where
  mem := by simp
  obj := fun i h st b hb => by
    obtain ⟨⟨old, he⟩, o, ho, hc, hd⟩ := st
    rcases (by simpa using hb : b = e ∨ b = it) with z | z
    · rw [z]; exact ⟨_, he, fun v q => nomatch q⟩
    · rw [z]; exact ⟨o, ho, fun v q => by rw [hd] at q; cases q⟩
  keep := fun i h h' st k => let ⟨⟨old, he⟩, hi⟩ := st; ⟨⟨old, k e (by simp) _ he⟩, hi.at fun o q => k it (by simp) o q⟩
  item := by
    intro X hP hw hK hc i pins s σ H E I hf st hg
    subst hP hw hK
    obtain ⟨⟨old, he⟩, hit⟩ := st
    obtain ⟨xs, x, hq, hx⟩ := hg
    obtain ⟨its, rv, p, hz⟩ := I.tuple hq
    obtain ⟨u, hu, ru⟩ := rv.get hx
    have hel : e < s.heap.objs.size := Heap.lt_size he
    have hil : it < s.heap.objs.size := by obtain ⟨_, q, _⟩ := hit; exact Heap.lt_size q
    have hlt : i < its.toArray.size := by
      have := (List.getElem?_eq_some_iff.mp hu).1
      simpa using this
    have D := Draws.tuple (prog := X.prog) (w := X.w) (A := X.A.in1) (I.ok.hd hc) it a hai its.toArray
    refine wpAny_pyNext_enum_itemD D he ⟨hit, p⟩ hlt hne (fun hm => ?_) fun x' h' tk hPx ho hst' hT hsz hk => ?_
    · rcases (by simpa using hm : e = it ∨ e = a) with z | z
      · exact hne z
      · exact hea z
    have ex : x' = u := by
      have e1 : its[i]? = some x' := by simpa using hPx
      rw [hu] at e1
      exact (Option.some.inj e1).symm
    subst ex
    refine ⟨_, rfl, wpAny_letOwnedTupleGo_enum (s := { s with heap := h', toks := tk + 1 }) ho fun h'' he' sb => ?_⟩
    have hT2 : h''.get? s.heap.objs.size = some { cls := .type "tuple", data := .seq #[.int i tk, x'] } := (sb.2 _ (Nat.ne_of_gt hel)).trans hT
    have new : ObjOk X.prog X.w (upd H s.heap.objs.size (.tup [.int (i : Nat), x])) h'' s.heap.objs.size (.tup [.int (i : Nat), x]) :=
      ⟨by show 2 ≤ sizeLine; decide, [.int i tk, x'], .cons ⟨_, rfl⟩ (.cons ru .nil), ⟨_, hT2, rfl, _, rfl⟩⟩
    have I1 : Inv X pins σ (upd H s.heap.objs.size (.tup [.int (i : Nat), x])) { s with heap := h'', toks := tk + 1 } :=
      I.turnedNew (ch := [e, it]) (fun b ob hb q => (sb.2 b (fun z => hb (by simp [z]))).trans (hk b ob (fun z => hb (by simp [z])) (fun z => hb (by simp [z])) q)) hf (Nat.le_refl _) new
    refine ⟨.ref s.heap.objs.size, _, I1, rfl, ⟨_, x, rfl, I.hok.fresh (Nat.le_refl _), rfl, fun ys hy => by rw [I.tuple_inj hy hq]; exact hx⟩, ⟨⟨x', ?_⟩, hst'.1.at fun o q => (sb.2 it (Ne.symm hne)).trans q⟩, fun b hb => ?_⟩
    · have e1 : ((i + 1 : Nat) : Int) = (i : Int) + 1 := by omega
      rw [e1]
      exact he'
    · have hb' : b < s.heap.objs.size := by
        rcases (by simpa using hb : b = e ∨ b = it) with z | z
        · rw [z]; exact hel
        · rw [z]; exact hil
      rw [upd_ne (Nat.ne_of_lt hb')]
      exact (hf b hb).1
  done := by
    intro X hP hw hK hc i pins s σ H E I hf st hg
    subst hP hw hK
    obtain ⟨⟨old, he⟩, hit⟩ := st
    obtain ⟨xs, hq, hx⟩ := hg
    obtain ⟨its, rv, p, hz⟩ := I.tuple hq
    obtain ⟨f0, f1, f2, f3, f4, f5⟩ := hf it (by simp)
    have hl : i = its.toArray.size := by rw [List.size_toArray, ← rv.length, hx]
    have D := Draws.tuple (prog := X.prog) (w := X.w) (A := X.A.in1) (I.ok.hd hc) it a hai its.toArray
    refine wpAny_pyNext_enum_endD D he (by rw [← hl]; exact ⟨hit, p⟩) fun h' eb => ⟨rfl, I.turned (t' := s.toks) (fun b o hb q => eb b o hb q) f0 f1 f3 f4 f5⟩
  self := fun A i s Q E st h => let ⟨⟨_, he⟩, _⟩ := st; wpAny_pyIter_enum he h
def iEnT (K : PySem.W.Frag) (ta : TA) : TI := fun σ H R => ta σ H fun vs H1 => ∃ a xs, vs = [.ref a] ∧ SqT K H1 a xs ∧ R (ItE K a) H1
theorem pienT {X : Cx} {K : PySem.W.Frag} {e : Expr} {ta : TA} {p pos tpos : Pos} {elts : List Expr} {kk : Nat} (hK : X.K = K) (hg : Gl X "enumerate") (hm : X.mg "enumerate" = none) (ha : PA X [e] ta) (hs : starEach [e] X.env = [(false, eval e X.env)] := by rfl) :
    PI X (.Tuple elts kk tpos) (.Call (.Name "enumerate" p) [e] [] pos) (iEnT K ta) := by
  subst hK
  refine ⟨fun pins s σ H R I h => Call_ (ld_blt I hg hm boot_enumerate (PyProof.Rows.callWith_type1 (thn (ha.run pos pins s σ H _ I h) fun us s1 z => ?_) hs rfl))⟩
  obtain ⟨vs, H1, I1, r1, a, xs, ex, hq, q⟩ := z
  subst ex
  rw [Vals.ref1 r1]
  obtain ⟨its, rv, p', hz⟩ := I1.tuple hq
  have hlt : a < s1.heap.objs.size := by obtain ⟨_, z, _⟩ := p'; exact Heap.lt_size z
  refine call_enumT p' fun h' he hit hsz hk => wpAny_pyIter_enum he ?_
  have I2 : Inv X pins σ H1 { s1 with heap := h' } := I1.kept (t' := s1.toks) hk
  refine ⟨s1.heap.objs.size + 1, [s1.heap.objs.size + 1, s1.heap.objs.size], _, _, H1, rfl, I2, turn_enumT a (s1.heap.objs.size + 1) s1.heap.objs.size (Nat.succ_ne_self _) (Nat.ne_of_lt hlt) (Nat.ne_of_gt (Nat.lt_succ_of_lt hlt)), ⟨⟨.none, he⟩, hit⟩, fun b hb => ?_, q⟩
  have hle : s1.heap.objs.size ≤ b := by
    rcases (by simpa using hb : b = s1.heap.objs.size + 1 ∨ b = s1.heap.objs.size) with z | z
    · rw [z]; exact Nat.le_add_right _ _
    · rw [z]; exact Nat.le_refl _
  exact I1.fpOk hle (I1.hok.fresh hle)
theorem pienL {X : Cx} {K : PySem.W.Frag} {e : Expr} {ta : TA} {p pos tpos : Pos} {elts : List Expr} {kk : Nat} (hK : X.K = K) (hg : Gl X "enumerate") (hm : X.mg "enumerate" = none) (ha : PA X [e] ta) (hs : starEach [e] X.env = [(false, eval e X.env)] := by rfl) :
    PI X (.Tuple elts kk tpos) (.Call (.Name "enumerate" p) [e] [] pos) (iEnum K ta) := by
  subst hK
  exact pi_enum hg hm ha (hs := hs)
theorem r_iEnT {K : PySem.W.Frag} {σ : L2.St} {H : Hp} {ta : TA} {R : It → Hp → Prop} (h : ta σ H fun vs H1 => ∃ a xs, vs = [.ref a] ∧ SqT K H1 a xs ∧ R (ItE K a) H1) : iEnT K ta σ H R := h
theorem r_iEnL {K : PySem.W.Frag} {σ : L2.St} {H : Hp} {ta : TA} {R : It → Hp → Prop} (h : ta σ H fun vs H1 => ∃ a xs, vs = [.ref a] ∧ SqL K H1 a xs ∧ R (Ite K a) H1) : iEnum K ta σ H R := h
theorem r_dc {σ : L2.St} {H : Hp} {Q : VK} {wi : TI} {g : TG} {tt : TT} {tk tv : TE} {vs : List Nat} (h : wi σ H fun J H1 => tDc (got J) g tt tk tv vs σ H1 Q) : tDc wi g tt tk tv vs σ H Q := h
theorem r_dget {σ : L2.St} {H : Hp} {Q : VK} {td ty : TE} (h : td σ H fun x H1 => ty σ H1 fun y H2 => ∃ a v, x = .ref a ∧ DGet H2 a y (some v) ∧ Q v H2) : tDGet td ty σ H Q := h
theorem walkE {K : PySem.W.Frag} {a : Addr} {xs : List V} : L2.Walk (ItE K a) xs.length (fun H => SqT K H a xs) (YPair (fun i => some (.int (i : Nat))) (fun i => xs[i]?)) := by
  refine ⟨fun i _ hi q => ⟨xs, xs[i], q, by simp [hi]⟩, fun _ q => ⟨xs, q, rfl⟩, fun i H v H' _ q y => ?_⟩
  obtain ⟨T, x, h1, h2, h3, h4⟩ := y
  exact ⟨T, .int (i : Nat), x, h1, h2, h3, rfl, h4 xs q⟩
/-! what is walked, where the items are ints -/
theorem getD_at {ns : List Int} {i : Nat} (h : i < ns.length) : ns[i] = ns.getD i 0 := by
  rw [List.getD_eq_getElem?_getD, List.getElem?_eq_getElem h] <;> rfl
theorem int_at {ns : List Int} {i : Nat} (h : i < ns.length) {x : V} (e : (ns.map V.int)[i]? = some x) : x = .int (ns.getD i 0) := by
  rw [List.getElem?_map, List.getElem?_eq_getElem h] at e
  rw [← getD_at h]
  exact (Option.some.inj e).symm
section
variable {K : PySem.W.Frag} {a : Addr} {ns : List Int}
theorem walkEI : L2.Walk (ItE K a) ns.length (fun H => SqT K H a (ns.map V.int)) (fun i H v H' => ∃ T, v = .ref T ∧ H T = none ∧ H' = upd H T (.tup [.int (i : Int), .int (ns.getD i 0)])) := by
  have w := walkE (K := K) (a := a) (xs := ns.map V.int)
  rw [List.length_map] at w
  refine w.mono (fun _ h => h) fun i H v H' hi _ y => ?_
  obtain ⟨T, x, y, h1, h2, h3, h4, h5⟩ := y
  have e4 : x = .int (i : Int) := (Option.some.inj h4).symm
  have e5 := int_at hi h5
  subst e4 e5
  exact ⟨T, h1, h2, h3⟩
theorem walkELI : L2.Walk (Ite K a) ns.length (fun H => SqL K H a (ns.map V.int)) (fun i H v H' => ∃ T, v = .ref T ∧ H T = none ∧ H' = upd H T (.tup [.int (i : Int), .int (ns.getD i 0)])) := by
  have w := walk_enum (K := K) (a := a) (xs := ns.map V.int)
  rw [List.length_map] at w
  refine w.mono (fun _ h => h) fun i H v H' hi _ y => ?_
  obtain ⟨T, x, y, h1, h2, h3, h4, h5⟩ := y
  have e4 : x = .int (i : Int) := (Option.some.inj h4).symm
  have e5 := int_at hi h5
  subst e4 e5
  exact ⟨T, h1, h2, h3⟩
theorem walkLI : L2.Walk (Itl K a) ns.length (fun H => SqL K H a (ns.map V.int)) (fun i H v H' => H' = H ∧ v = .int (ns.getD i 0)) := by
  have w := walk_list (K := K) (a := a) (xs := ns.map V.int)
  rw [List.length_map] at w
  exact w.mono (fun _ h => h) fun i H v H' hi _ y => ⟨y.1, int_at hi y.2⟩
theorem walkTI : L2.Walk (Itt K a) ns.length (fun H => SqT K H a (ns.map V.int)) (fun i H v H' => H' = H ∧ v = .int (ns.getD i 0)) := by
  have w := walk_tup (K := K) (a := a) (xs := ns.map V.int)
  rw [List.length_map] at w
  exact w.mono (fun _ h => h) fun i H v H' hi _ y => ⟨y.1, int_at hi y.2⟩
/-- a list of tuples of ints -/
theorem walkTups {ls : List (List Int)} {ys : List V} : L2.Walk (Itl K a) ls.length (fun H => SqL K H a ys ∧ Tups H ls ys) (fun i H v H' => H' = H ∧ ∃ p, v = .ref p ∧ H p = some (.tup ((ls.getD i []).map V.int))) := by
  refine ⟨fun i H hi q => ?_, fun H q => ⟨ys, q.1, Nat.le_of_eq q.2.len.symm⟩, fun i H v H' hi q y => ⟨y.1, ?_⟩⟩
  · have h : i < ys.length := by rw [← q.2.len]; exact hi
    exact ⟨ys, ys[i], q.1, by simp [h]⟩
  · obtain ⟨l, p, h1, h2, h3⟩ := q.2.at (y.2 ys q.1)
    refine ⟨p, h2, ?_⟩
    rw [List.getD_eq_getElem?_getD, h1]
    exact h3
end
end SW
end

section
set_option Elab.async false
set_option linter.all false
set_option maxRecDepth 100000
set_option maxHeartbeats 4000000
/-! data of ints: what is equal, what is shaped -/
namespace SW
open PySem PySem.Spec PyProof.Rows L2 Evl
theorem lay_ints : ∀ ns : List Int, PyData.canLayAll0 (ns.map PyData.int) = true
  | [] => by simp [PyData.canLayAll0]
  | n :: ns => by simp [PyData.canLayAll0, PyData.canLay0, lay_ints ns]
theorem dep_ints : ∀ ns : List Int, PyData.depthAll (ns.map PyData.int) = 0
  | [] => by simp [PyData.depthAll]
  | n :: ns => by simp [PyData.depthAll, PyData.depth, dep_ints ns]
theorem lay_ti (ns : List Int) : (dTI ns).canLay0 = true := by simp only [dTI, PyData.canLay0]; exact lay_ints ns
theorem dep_ti (ns : List Int) : (dTI ns).depth = 1 := by simp only [dTI, PyData.depth, dep_ints]
theorem lay_tis : ∀ ls : List (List Int), PyData.canLayAll0 (ls.map dTI) = true
  | [] => by simp [PyData.canLayAll0]
  | l :: ls => by simp [PyData.canLayAll0, lay_ti, lay_tis ls]
theorem dep_tis : ∀ ls : List (List Int), PyData.depthAll (ls.map dTI) ≤ 1
  | [] => by simp [PyData.depthAll]
  | l :: ls => by
    have := dep_tis ls
    simp only [List.map_cons, PyData.depthAll, dep_ti]
    omega
theorem sh_of {d : PyData} (h1 : d.canLay0 = true) (h2 : d.depth ≤ 64) : SeqAt.shaped d = true := by
  show (d.canLay0 && decide (d.depth ≤ 64)) = true
  rw [h1, decide_eq_true h2] <;> rfl
theorem sh_non : SeqAt.shaped .none = true := by decide +kernel
theorem sh_ti (ns : List Int) : SeqAt.shaped (dTI ns) = true := sh_of (lay_ti ns) (by rw [dep_ti]; omega)
theorem sh_li (ns : List Int) : SeqAt.shaped (dLI ns) = true := by
  refine sh_of (by simp only [dLI, PyData.canLay0]; exact lay_ints ns) ?_
  simp only [dLI, PyData.depth, dep_ints]
  omega
theorem sh_nilL : SeqAt.shaped (.list []) = true := by decide +kernel
theorem sh_tis (ls : List (List Int)) : SeqAt.shaped (.list (ls.map dTI)) = true := by
  refine sh_of (by simp only [PyData.canLay0]; exact lay_tis ls) ?_
  have := dep_tis ls
  simp only [PyData.depth]
  omega
theorem eqv_ints : ∀ ns ms : List Int, PyData.eqvAll (ns.map PyData.int) (ms.map PyData.int) = decide (ns = ms)
  | [], [] => by simp [PyData.eqvAll]
  | [], m :: ms => by simp [PyData.eqvAll]
  | n :: ns, [] => by simp [PyData.eqvAll]
  | n :: ns, m :: ms => by
    simp only [List.map_cons, PyData.eqvAll, PyData.eqv, eqv_ints ns ms]
    by_cases h1 : n = m
    · by_cases h2 : ns = ms
      · simp [h1, h2]
      · simp [h2]
    · simp [h1]
theorem eqv_ti (ns ms : List Int) : PyData.eqv (dTI ns) (dTI ms) = decide (ns = ms) := by simp only [dTI, PyData.eqv]; exact eqv_ints ns ms
theorem eqv_li_nil (ns : List Int) : PyData.eqv (dLI ns) (.list []) = decide (ns = []) := by
  cases ns <;> simp [dLI, PyData.eqv, PyData.eqvAll]
theorem eqv_tis_nil (ls : List (List Int)) : PyData.eqv (.list (ls.map dTI)) (.list []) = decide (ls = []) := by
  cases ls <;> simp [PyData.eqv, PyData.eqvAll]
theorem eqv_non_ti (ms : List Int) : PyData.eqv .none (dTI ms) = false := by simp [dTI, PyData.eqv]
theorem any_tis (ls : List (List Int)) (t : List Int) : ((ls.map dTI).any fun z => PyData.eqv z (dTI t)) = decide (t ∈ ls) := by
  rw [List.any_map]
  have : ((fun z => PyData.eqv z (dTI t)) ∘ dTI) = fun l => decide (l = t) := funext fun l => eqv_ti l t
  rw [this]
  induction ls with
  | nil => simp
  | cons l ls ih =>
    rw [List.any_cons, ih]
    by_cases h : l = t
    · simp [h]
    · have h2 : ¬ t = l := fun e => h e.symm
      simp [h, h2]
theorem dp_nilL {K : PySem.W.Frag} {H : Hp} {a : Addr} (h : H a = some (.lst [])) : Dp K H (.ref a) (.list []) := .lst (SqL.of h) .nil
/-! ### tuples made by tuple(..), methods -/
/-- a tuple that is no more than that -/
def ExT (H : Hp) (p : Addr) (xs : List V) : Prop := ∃ o : Obj, H p = some (.frz o (.tup xs)) ∧ o.cls = .type "tuple" ∧ o.dict = none
theorem ExT.sq {K : PySem.W.Frag} {H : Hp} {p : Addr} {xs : List V} (h : ExT H p xs) : SqT K H p xs := let ⟨o, e, _⟩ := h; .inl (.inr ⟨o, e⟩)
theorem ExT.ex {H H' : Hp} {p : Addr} {xs : List V} (h : ExT H p xs) (e : Ex H H') : ExT H' p xs := let ⟨o, a, b, c⟩ := h; ⟨o, e _ _ a, b, c⟩
def rTupX (K : PySem.W.Frag) : List V → Hp → VK → Prop := fun xs H Q => ∃ p ys, xs = [.ref p] ∧ SqL K H p ys ∧ ∀ l H1, H l = none → Ex H H1 → ExT H1 l ys → Q (.ref l) H1
section
variable {X : Cx} {K : PySem.W.Frag}
theorem tupx (hK : X.K = K) : CallR X (.type "tuple") (rTupX K) := by
  subst hK
  intro pins s σ H xs us Q I r h
  obtain ⟨p, ys, rfl, hq, q⟩ := h
  obtain ⟨u, rfl, rx⟩ := vals1 r
  cases rx
  obtain ⟨its, r', pl, hz⟩ := I.list hq
  have hlen := r'.length
  refine call_tuple_list pl.isList (fun h' kp => ?_) (by simp only [List.size_toArray] <;> omega)
  have I1 : Inv X pins σ H { s with heap := h' } := I.kept (t' := s.toks) kp
  have hn : H h'.objs.size = none := I1.hok.fresh (Nat.le_refl _)
  have e : (h'.push { cls := .type "tuple", data := .seq its.toArray }).get? h'.objs.size = some { cls := .type "tuple", data := .seq its.toArray } := Heap.get?_push_size _ rfl
  have I2 : Inv X pins σ (upd H h'.objs.size (.frz { cls := .type "tuple", data := .seq its.toArray } (.tup ys))) { s with heap := h'.push { cls := .type "tuple", data := .seq its.toArray } } :=
    I1.laid (t' := s.toks) (fun b o e => Heap.get?_push_of_some _ e) (Nat.le_refl _) ⟨e, hz, its, r', IsTup.new _ _⟩
  exact ⟨.ref h'.objs.size, _, I2, rfl, q _ _ hn (Ex.new hn) ⟨_, upd_same, rfl, rfl⟩⟩
/-- o.m(e, ..), o a tuple as tuple(..) makes it -/
def tBT (r : V → List V → Hp → VK → Prop) (to : TE) (t : TA) : TE := fun σ H Q => to σ H fun x H1 => (∃ p xs, x = .ref p ∧ ExT H1 p xs) ∧ t σ H1 fun ys H2 => r x ys H2 Q
theorem bmt {o e : Expr} {es : List Expr} {to : TE} {t : TA} {name : Str} {apos cpos : Pos} {id : String} {r : V → List V → Hp → VK → Prop} (pa : PlainAttrs "tuple") (slot : Slot "tuple" name id) (hty : typeOf (.builtin id) = pure (.type "method_descriptor")) (hm : MtR X id r) (ho : PE X o to) (ha : PA X (e :: es) t)
    (hbase : attributeBase o name X.env (eval o X.env) = eval o X.env := by rfl)
    (hfew : ((backTo cpos (starEach (e :: es) X.env)).all (fun x => !x.1) && (backToKw cpos (keywordEach [] X.env)).all (fun x => x.1.isSome) && decide ((e :: es).length + ([] : List Keyword).length + (if ([] : List Keyword).isEmpty then 0 else 1) < 30)) = true := by rfl)
    (hline : (apos.endLine == cpos.line) = true := by rfl) (hs : starEach (e :: es) X.env = (false, eval e X.env) :: starEach es X.env := by rfl) (hplain : (backTo cpos (starEach es X.env)).any (·.1) = false := by rfl) :
    PE X (.Call (.Attribute o name apos) (e :: es) [] cpos) (tBT r to t) := by
  refine ⟨fun pins s σ H Q I h => wpAny_Call_method_late hbase hfew hline rfl (thn (ho.run pins s σ H _ I h) fun v s1 z => ?_)⟩
  obtain ⟨x, H1, I1, r1, ⟨p, xs, rfl, ob, eo, hc, hd⟩, q1⟩ := z
  cases r1
  obtain ⟨e1, _⟩ := I1.hok p _ eo
  refine ⟨"tuple", id, pa, slot, hty, ⟨ob, e1, hc⟩, fun a e2 => ?_, ?_⟩
  · cases e2
    exact ⟨ob, e1, hd⟩
  · have hA := ha.run cpos pins s1 σ H1 _ I1 q1
    rw [hs] at hA ⊢
    refine Calls.callWith_builtin (by show (false || (backTo cpos (starEach es X.env)).any (·.1)) = false; rw [hplain] <;> rfl) (Calls.evalArgs_plain ?_)
    exact thn hA fun us s2 ⟨vs, H2, I2, r2, q2⟩ => hm pins s2 σ H2 (.ref p) vs _ us Q I2 (show L2.RelV (.ref p) (Value.ref p) from rfl) r2 q2
theorem bmq {o e : Expr} {es : List Expr} {to : TE} {t : TA} {name : Str} {apos cpos : Pos} {T id : String} {r : V → List V → Hp → VK → Prop} (hK : X.K = K) (pa : PlainAttrs T) (slot : Slot T name id) (hty : typeOf (.builtin id) = pure (.type "method_descriptor")) (hm : MtR X id r) (ho : PE X o to) (ha : PA X (e :: es) t)
    (hbase : attributeBase o name X.env (eval o X.env) = eval o X.env := by rfl)
    (hfew : ((backTo cpos (starEach (e :: es) X.env)).all (fun x => !x.1) && (backToKw cpos (keywordEach [] X.env)).all (fun x => x.1.isSome) && decide ((e :: es).length + ([] : List Keyword).length + (if ([] : List Keyword).isEmpty then 0 else 1) < 30)) = true := by rfl)
    (hline : (apos.endLine == cpos.line) = true := by rfl) (hs : starEach (e :: es) X.env = (false, eval e X.env) :: starEach es X.env := by rfl) (hplain : (backTo cpos (starEach es X.env)).any (·.1) = false := by rfl) :
    PE X (.Call (.Attribute o name apos) (e :: es) [] cpos) (tBM K T r to t) := by
  subst hK
  exact pe_bm pa slot hty hm ho ha (hbase := hbase) (hfew := hfew) (hline := hline) (hs := hs) (hplain := hplain)
end
section
variable {K : PySem.W.Frag} {σ : L2.St} {H : Hp} {Q : VK} {to : TE} {t : TA} {T : String} {r : V → List V → Hp → VK → Prop}
theorem r_ifNT {A B : Prop} (h : B) : if (!true) = true then A else B := h
theorem r_ifNF {A B : Prop} (h : A) : if (!false) = true then A else B := h
theorem r_eqI {H : Hp} {Q : VK} {i j : Int} (q : Q (.bl (decide (i = j))) H) : rEq (.int i) (.int j) H Q := ⟨rfl, by rw [dec_int, Bool.beq_eq_decide_eq]; exact q⟩
theorem r_neI {H : Hp} {Q : VK} {i j : Int} (q : Q (.bl (!decide (i = j))) H) : rNe (.int i) (.int j) H Q := ⟨rfl, by rw [dec_int, Bool.beq_eq_decide_eq]; exact q⟩
theorem r_eqS {H : Hp} {Q : VK} {i j : Str} (q : Q (.bl (decide (i = j))) H) : rEq (.str i) (.str j) H Q := ⟨rfl, by rw [dec_str, Bool.beq_eq_decide_eq]; exact q⟩
theorem r_neS {H : Hp} {Q : VK} {i j : Str} (q : Q (.bl (!decide (i = j))) H) : rNe (.str i) (.str j) H Q := ⟨rfl, by rw [dec_str, Bool.beq_eq_decide_eq]; exact q⟩
theorem r_lenSetT {K : PySem.W.Frag} {σ : L2.St} {H : Hp} {Q : VK} {ta : TE} (h : ta σ H fun x H1 => ∃ (p : Addr) (ns : List Int), x = .ref p ∧ SqT K H1 p (ns.map V.int) ∧ ns.Nodup ∧ ns.length ≤ 1000 ∧ Q (.int (ns.length : Nat)) H1) : tLenSetT K ta σ H Q := h
theorem r_lenSetL {K : PySem.W.Frag} {σ : L2.St} {H : Hp} {Q : VK} {ta : TE} (h : ta σ H fun x H1 => ∃ (l : Addr) (ns : List Int), x = V.ref l ∧ SqL K H1 l (ns.map V.int) ∧ ns.length < 64 ∧ ns.Nodup ∧ Q (.int ns.length) H1) : L2.tLenSetI K ta σ H Q := h
theorem r_cut {σ : L2.St} {H : Hp} {ts tz : TS} {nx : L2.St → Hp → Prop} {rt : VK} {bk ct : L2.St → Hp → Prop} (M : L2.St → Hp → Prop) (h : ts ⟨M, rt, bk, ct⟩ σ H) (k : ∀ σ' H', M σ' H' → tz ⟨nx, rt, bk, ct⟩ σ' H') : Evl.tCut ts tz ⟨nx, rt, bk, ct⟩ σ H := ⟨M, h, k⟩
theorem r_bm (h : to σ H fun x H1 => tyV K T x H1 ∧ t σ H1 fun xs H2 => r x xs H2 Q) : tBM K T r to t σ H Q := h
theorem r_bt (h : to σ H fun x H1 => (∃ p xs, x = .ref p ∧ ExT H1 p xs) ∧ t σ H1 fun ys H2 => r x ys H2 Q) : tBT r to t σ H Q := h
theorem ty_l {p : Addr} {xs : List V} (h : SqL K H p xs) : tyV K "list" (.ref p) H := .inl ⟨rfl, _, h⟩
theorem r_app {l : Addr} {xs : List V} {y : V} (h : H l = some (.lst xs)) (hz : xs.length < 100000) (q : Q .non (upd H l (.lst (xs ++ [y])))) : rAppend (.ref l) [y] H Q := ⟨l, xs, y, rfl, rfl, h, sz_lt hz, q⟩
theorem r_tupX {p : Addr} {ys : List V} (h : SqL K H p ys) (q : ∀ l H1, H l = none → Ex H H1 → ExT H1 l ys → Q (.ref l) H1) : rTupX K [.ref p] H Q := ⟨p, ys, rfl, h, q⟩
theorem r_idxT {p : Addr} {ns : List Int} {z : Int} (h : SqT K H p (ns.map V.int)) (hz : z ∈ ns) (q : Q (.int (ns.idxOf z : Nat)) H) : SW.rIdxT K (.ref p) [.int z] H Q := ⟨p, ns, z, rfl, rfl, h, hz, q⟩
theorem r_idxL {p : Addr} {ns : List Int} {z : Int} (h : SqL K H p (ns.map V.int)) (hz : z ∈ ns) (q : Q (.int (ns.idxOf z : Nat)) H) : SW.rIdxL K (.ref p) [.int z] H Q := ⟨p, ns, z, rfl, rfl, h, hz, q⟩
end
/-! ### lists of ints: read, stored -/
theorem ix_at {l : List Int} {i : Int} (h0 : 0 ≤ i) (h1 : i < l.length) : atI (l.map V.int) i = some (.int (ix l i)) := by
  refine at_ints (j := i.toNat) (by omega) ?_
  have h : i.toNat < l.length := by omega
  unfold ix
  rw [List.getD_eq_getElem?_getD, List.getElem?_eq_getElem h] <;> rfl
section
variable {K : PySem.W.Frag} {σ : L2.St} {H : Hp} {Q : VK} {p : Addr} {ns : List Int} {i : Int}
theorem r_ixLI (h : SqL K H p (ns.map V.int)) (h0 : 0 ≤ i) (h1 : i < ns.length) (q : Q (.int (ix ns i)) H) : rIxL K (.ref p) (.int i) H Q := r_ixL h (ix_at h0 h1) q
theorem r_ixTI (h : SqT K H p (ns.map V.int)) (h0 : 0 ≤ i) (h1 : i < ns.length) (q : Q (.int (ix ns i)) H) : rIxT K (.ref p) (.int i) H Q := r_ixT h (ix_at h0 h1) q
theorem ix_get {l : List Int} (h0 : 0 ≤ i) (h1 : i < l.length) : (l.map V.int)[i.toNat]? = some (.int (ix l i)) := by
  have h : i.toNat < l.length := by omega
  unfold ix
  rw [List.getElem?_map, List.getD_eq_getElem?_getD, List.getElem?_eq_getElem h] <;> rfl
theorem r_gIxI (h : SqL K H p (ns.map V.int)) (h0 : 0 ≤ i) (h1 : i < ns.length) (q : Q (.int (ix ns i)) H) : gIx K (.ref p) (.int i) H Q := ⟨p, _, i, _, rfl, rfl, h, h0, ix_get h0 h1, q⟩
theorem setI_map (l : List Int) (i v : Int) : (l.map V.int).set i.toNat (.int v) = (setI l i v).map V.int := by
  unfold setI
  rw [List.map_set]
theorem r_setLI {v : Int} {M : Hp → Prop} (h : H p = some (.lst (ns.map V.int))) (h0 : 0 ≤ i) (h1 : i < ns.length) (q : M (upd H p (.lst ((setI ns i v).map V.int)))) : rSetL (.ref p) (.int i) (.int v) H M := by
  refine r_setL i.toNat h (ixN_nat h0 (by rw [List.length_map]; exact h1)) ?_
  rw [setI_map]
  exact q
theorem r_appI {y : Int} (h : H p = some (.lst (ns.map V.int))) (hz : ns.length < 100000) (q : Q .non (upd H p (.lst ((ns ++ [y]).map V.int)))) : rAppend (.ref p) [.int y] H Q := by
  refine r_app h (by rw [List.length_map]; exact hz) ?_
  rw [List.map_append] at q
  exact q
end
section
variable {σ : L2.St} {H : Hp} {Q : VK} {ta tb : TE} {nx : L2.St → Hp → Prop} {rt : VK} {bk ct : L2.St → Hp → Prop}
theorem r_par3 {i j l : Nat} {t : TA} (h : t σ H fun vs H1 => ∃ u v w, vs = [u, v, w] ∧ nx (((σ.set i (some u)).set j (some v)).set l (some w)) H1) : tPar3 i j l t ⟨nx, rt, bk, ct⟩ σ H := h
theorem r_three {u v w : V} {P : V → V → V → Prop} (q : P u v w) : ∃ u' v' w', [u, v, w] = [u', v', w'] ∧ P u' v' w' := ⟨u, v, w, rfl, q⟩
theorem r_listRg (h : ta σ H fun x H1 => ∃ n, x = .int n ∧ RgOk 0 n ∧ ∀ q, H1 q = none → Q (.ref q) (upd H1 q (.lst (rgV 0 n)))) : tLstRg (tRg1 ta) σ H Q := h
theorem r_tupRg (h : ta σ H fun x H1 => ∃ n, x = .int n ∧ RgOk 0 n ∧ ∀ q, H1 q = none → Q (.ref q) (upd H1 q (.tup (rgV 0 n)))) : tTupRg (tRg1 ta) σ H Q := h
theorem rgV_eq (n : Nat) : rgV 0 (n : Int) = (rgI 0 n).map V.int := by
  unfold rgV rgI
  rw [List.map_map, show ((n : Int) - 0).toNat = n by omega] <;> rfl
theorem rg0_ok {n : Nat} (h : n ≤ 100000) : RgOk 0 (n : Int) := RgOk.of_le (Int.le_refl _) (by omega) (by omega) (by omega)
theorem r_augS {to ti te : TE} {tget : V → V → Hp → VK → Prop} {tip : TIp} {tset : TSet} (h : to σ H fun o H1 => ti σ H1 fun i H2 => tget o i H2 fun x H3 => te σ H3 fun y H4 => tip x y H4 fun z H5 => tset o i z H5 fun H6 => nx σ H6) : tAugS to ti te tget tip tset ⟨nx, rt, bk, ct⟩ σ H := h
end
/-! is it None -/
def rNon : R2 := fun x y H Q => y = .non ∧ Q (.bl (decide (x = .non))) H
def rNotNon : R2 := fun x y H Q => y = .non ∧ Q (.bl (!decide (x = .non))) H
theorem isn {X : Cx} : OpR X (compareOp .Is) rNon := op_isN
theorem notn {X : Cx} : OpR X (compareOp .IsNot) rNotNon := op_notN
theorem r_notR {a : Addr} {H : Hp} {Q : VK} (q : Q (.bl true) H) : rNotNon (.ref a) .non H Q := ⟨rfl, by rw [decide_eq_false (fun z => by cases z)]; exact q⟩
theorem r_notN {H : Hp} {Q : VK} (q : Q (.bl false) H) : rNotNon .non .non H Q := ⟨rfl, by rw [decide_eq_true rfl]; exact q⟩
theorem r_isR {a : Addr} {H : Hp} {Q : VK} (q : Q (.bl false) H) : rNon (.ref a) .non H Q := ⟨rfl, by rw [decide_eq_false (fun z => by cases z)]; exact q⟩
theorem r_isNon {H : Hp} {Q : VK} (q : Q (.bl true) H) : rNon .non .non H Q := ⟨rfl, by rw [decide_eq_true rfl]; exact q⟩
theorem r_dput {td ty tv : TE} {σ : L2.St} {H : Hp} {nx : L2.St → Hp → Prop} {rt : VK} {bk ct : L2.St → Hp → Prop} (h : tv σ H fun v H1 => td σ H1 fun x H2 => ty σ H2 fun y H3 => ∃ a H4, x = .ref a ∧ DPut H3 a y v H4 ∧ nx σ H4) : sDPut td ty tv ⟨nx, rt, bk, ct⟩ σ H := h
end SW
end

section
set_option Elab.async false
set_option linter.all false
set_option maxRecDepth 100000
set_option maxHeartbeats 4000000
namespace SW
open PySem PySem.Spec PyProof.Rows L2
def top (i : Nat) : Stmt := PySem.Challenge.pw_swaprow_k54_whole_rings_of_many_people.main.body.getD i (.Pass ⟨0, 0, 0, 0⟩)
abbrev st_is_integer : Stmt := top 17
abbrev st_is_number_below : Stmt := top 18
abbrev st_is_ranking : Stmt := top 19
abbrev st_check_rankings : Stmt := top 20
abbrev st_rank_tables : Stmt := top 21
abbrev st_check_displacements : Stmt := top 25
abbrev st_check_ring : Stmt := top 26
abbrev st_check_both : Stmt := top 27
abbrev st_end_of_copy : Stmt := top 28
abbrev st_later_copies : Stmt := top 29
abbrev st_inversions_there : Stmt := top 30
abbrev st_triple_there : Stmt := top 31
abbrev st_is_ring_swap_allowed : Stmt := top 32
abbrev st_run_ring : Stmt := top 33
abbrev st_place_there : Stmt := top 34
abbrev st_refusals_there : Stmt := top 35
abbrev st_sequence_for : Stmt := top 36
abbrev st_decide_there : Stmt := top 37
abbrev st_decide_ring : Stmt := top 38
abbrev st_leads_to : Stmt := top 39
abbrev st_are_integers : Stmt := top 40
abbrev st_is_triple : Stmt := top 41
abbrev st_is_refusal : Stmt := top 42
abbrev st_check_ring_decision : Stmt := top 43
abbrev st_law_mixed : Stmt := top 45
abbrev st_law_folded : Stmt := top 46
abbrev st_law_draw : Stmt := top 47
abbrev st_law_begun : Stmt := top 48
abbrev st_law_mixed_up : Stmt := top 49
abbrev st_law_ring_walk : Stmt := top 50
abbrev st_law_ring_lists : Stmt := top 51
abbrev st_law_likes_more : Stmt := top 52
abbrev st_law_ring_may : Stmt := top 53
abbrev st_law_ring_after : Stmt := top 54
abbrev st_law_ring_ended : Stmt := top 55
abbrev st_law_ring_pairs : Stmt := top 56
abbrev st_law_ring_triples : Stmt := top 57
abbrev st_law_ring_place : Stmt := top 58
abbrev st_law_ring_refusals : Stmt := top 59
abbrev st_law_ring_run : Stmt := top 60
abbrev st_law_ring_choices : Stmt := top 61
abbrev st_law_ring_word : Stmt := top 62
abbrev st_law_are_integers : Stmt := top 63
abbrev st_law_ring_case : Stmt := top 64
abbrev st_law_class : Stmt := top 65
abbrev st_law_value_class : Stmt := top 66
abbrev st_law_told : Stmt := top 67
abbrev st_law_block_right : Stmt := top 68
abbrev st_law_bent_right : Stmt := top 69
abbrev st_law : Stmt := top 70
abbrev st_InvSeq : Stmt := inClass (top 7) 0
abbrev st_InvAns : Stmt := inClass (top 8) 0
end SW
end

section
set_option Elab.async false
set_option linter.all false
set_option maxRecDepth 100000
set_option maxHeartbeats 4000000
/-! own errors over an own error over ValueError: made, caught, kept, asked -/
namespace SW
open PySem PySem.Spec PyProof.Rows L2 Evl
/-- the class from which the others come; its __init__ is ValueError's -/
structure BaseC (K : PySem.W.Frag) (mg : Str → Option Value) (C0 : Addr) : Prop where
  gC : mg "SwaprowError" = some (.ref C0)
  rd : PySem.W.readsIn K C0 (.type "type") = true
  ga : PySem.W.specialIn K (.ref C0) "__getattribute__" = some (some (.builtin "type.__getattribute__"))
  ini : PySem.W.findCls K (.ref C0) (.type "type") "__init__" = some (.val (.builtin "ValueError.__init__"))
section
variable {X : Cx} {C0 : Addr} {e : Expr} {es : List Expr} {ta : TA} {p1 p2 pos : Pos}
theorem pe_sinit {pl : Sem Bool} (B : BaseC X.K X.mg C0) (hg : Gl X "SwaprowError") (ha : PA X (e :: es) ta)
    (hc : eval (.Call (.Attribute (.Name "SwaprowError" p1) "__init__" p2) (e :: es) [] pos) X.env = (do
      let o ← eval (.Name "SwaprowError" p1) X.env; standAt p2.atName; let (g, us) ← holding [o] (getMethod o "__init__" pl)
      callWith pos g us (backTo pos (starEach (e :: es) X.env)) (backToKw pos (keywordEach [] X.env))) := by rfl)
    (hq : starEach (e :: es) X.env = (false, eval e X.env) :: starEach es X.env := by rfl) (hp : (backTo pos (starEach es X.env)).any (·.1) = false := by rfl) :
    PE X (.Call (.Attribute (.Name "SwaprowError" p1) "__init__" p2) (e :: es) [] pos) (tVeI X.K ta) := by
  constructor
  intro pins s σ H Q I h
  refine PySem.W.methodCall_KW (ld_glob I hg B.gC ?_) hc
  refine PySem.W.method_cls I.kIn B.ga (PySem.W.cls_value I.kIn B.rd B.ini (by decide +kernel) ?_)
  show wpAny _ _ (callWith pos (Value.builtin "ValueError.__init__") [] (backTo pos (starEach (e :: es) X.env)) []) _ _ _
  refine PyProof.Rows.callWith_method1 (thn (ha.run pos pins _ σ H _ (I.tok _) h) fun us s1 hh => ?_) hq hp
  obtain ⟨vs, H1, I1, r1, a, C, ws, ev, hl, T, ea, q⟩ := hh
  subst ev
  cases r1 with
  | @cons _ u0 _ ur ra rw' =>
    have e0 : u0 = Value.ref a := ra
    subst e0
    have hn : ur.length ≤ sizeLine := by rw [← Paired.length rw', sizeLine_eq]; omega
    exact oinit_ok T I1 ea hn fun s2 J => ⟨.non, H1, J, rfl, q⟩
end
/-! ### the promise of an own __init__ with one field -/
def spInit (K : PySem.W.Frag) (C : Addr) (f : Str) : Sp := fun vs H Q _ => ∃ (a : Addr) (v : V), vs = [.ref a, v] ∧ H a = some (exo a C none) ∧ ∀ dx, H dx = none → dx ≠ a → Q .non (upd (upd H dx (exd dx [(f, v)])) a (exo a C (some dx)))
/-! ### a caught error, kept -/
def exT (a : Addr) (cls : Value) (d : Option Addr) : HO := .ext fun h => ∃ (ob : Obj) (vs : Array Value), h.get? a = some ob ∧ Zc cls d ob ∧ ob.data = .fields vs
theorem exT_ok {P : Program} {w : World} {H : Hp} {h : Heap} {a : Addr} {cls : Value} {d : Option Addr} {ob : Obj} {vs : Array Value} (e : h.get? a = some ob) (z : Zc cls d ob) (q : ob.data = .fields vs) : ObjOk P w H h a (exT a cls d) :=
  ⟨⟨ob, vs, e, z, q⟩, ⟨ob, e⟩, fun _ _ ⟨o, v, q, r⟩ k => ⟨o, v, k o q, r⟩⟩
theorem exT_at {P : Program} {w : World} {H : Hp} {h : Heap} {a : Addr} {cls : Value} {d : Option Addr} (hok : HOk P w H h) (he : H a = some (exT a cls d)) : ∃ (ob : Obj) (vs : Array Value), h.get? a = some ob ∧ Zc cls d ob ∧ ob.data = .fields vs :=
  (show ObjOk P w H h a (exT a cls d) from hok a _ he).1
section
variable {X : Cx} {pins : List (Addr × Obj)} {σ : L2.St} {H : Hp} {s : Shared}
/-- what is pinned and new is tracked -/
theorem track_ok {a : Addr} {ob : Obj} {vs : Array Value} {cls : Value} {d : Option Addr} (I : Inv X ((a, ob) :: pins) σ H s) (n0 : X.s_0.heap.get? a = none) (np : ∀ p ∈ X.pn ++ pins, p.1 ≠ a) (nc : ∀ x c, X.env.cells.lookup x = some c → c ≠ a)
    (hz : Zc cls d ob) (hd : ob.data = .fields vs) : Inv X pins σ (upd H a (exT a cls d)) s := by
  obtain ⟨pe, pn, pl, pf, _⟩ := I.pin (a, ob) (List.mem_append_right _ List.mem_cons_self)
  have up : ∀ {b : Addr} {u : HO}, H b = some u → upd H a (exT a cls d) b = some u := fun q => by rw [upd_ne (ne_of_none q pn)]; exact q
  refine ⟨I.ok, I.os, I.bare, ⟨I.base.keep, I.base.slot, fun b o q n x => ?_, I.base.there, fun b xs q => up (I.base.tups b xs q), fun b o u q => up (I.base.frzs b o u q), fun b ps q => ?_⟩, I.loc, I.cell, ?_, fun x c q => ?_, fun p hp => ?_, fun b u q => ?_, I.len⟩
  · rw [upd_ne (fun z => by rw [z, n0] at q; cases q)]
    exact I.base.free b o q n x
  · obtain ⟨m, z⟩ := I.base.tbls b ps q
    exact ⟨m, up z⟩
  · rw [upd_ne (Ne.symm pl)]
    exact I.free
  · rw [upd_ne (nc x c q)]
    exact I.freeC x c q
  · have hp2 : p ∈ X.pn ++ (a, ob) :: pins := by
      rcases List.mem_append.mp hp with z | z
      · exact List.mem_append_left _ z
      · exact List.mem_append_right _ (List.mem_cons_of_mem _ z)
    obtain ⟨g1, g2, g3, g4, g5⟩ := I.pin p hp2
    exact ⟨g1, by rw [upd_ne (np p hp)]; exact g2, g3, g4, g5⟩
  · by_cases hb : b = a
    · subst hb
      rw [upd_same] at q
      cases q
      exact exT_ok pe hz hd
    · rw [upd_ne hb] at q
      exact (I.hok b u q).stay (fun c v _ z => z) (fun c z => up z) fun c xs z => up z
theorem keep_pin {a : Addr} {ob : Obj} {qn : List (Addr × Obj)} (I : Inv (X.suite a ((a, ob) :: (X.pn ++ pins))) qn σ H s) (ok : X.Ok) : Inv X ((a, ob) :: pins) σ H s :=
  ⟨ok, I.os, I.bare, I.base, I.loc, I.cell, I.free, I.freeC, fun p hp => I.pin p (List.mem_append_left _ (by
    rcases List.mem_append.mp hp with z | z
    · exact List.mem_cons_of_mem _ (List.mem_append_left _ z)
    · rcases List.mem_cons.mp z with z | z
      · exact z ▸ List.mem_cons_self
      · exact List.mem_cons_of_mem _ (List.mem_append_right _ z))), I.hok, I.len⟩
end
/-- what 'except x as n' wishes of an error of the body that it takes: the error is kept behind the suite -/
def wKeep (K : PySem.W.Frag) (c : Value) (n i : Nat) (ts : Addr → Value → Option Addr → TS) (D : Ends) : WX := fun cls d σ H => σ.length = n →
  PySem.W.exmOne K cls c = some true ∧ ∀ a, H a = none → ts a cls d ⟨fun σ' H' => D.nx (σ'.set i none) (upd H' a (exT a cls d)), fun _ _ => False, fun _ _ => False, fun _ _ => False⟩ (σ.set i (some (.ref a))) H
section
variable {X : Cx} {x n : Str} {c : Value} {i : Nat} {body su : List Stmt} {st : Stmt} {pn pp pt : Pos} {tb : WX → TS} {ts : Addr → Value → Option Addr → TS}
theorem ps_keep (hex : X.ex = []) (hst : X.stack = X.env :: X.outer) (hfl : X.env.frame = some X.env.locals) (nd : X.N.Nodup) (hni : X.N[i]? = some n) (hkl : X.env.kindOf n = some .local) (hx : Names X x c)
    (hb : ∀ (W : WX) (ps : List (Addr × Obj)) (xe : Value → Shared → Prop), Takes (X.tr ps xe) W → PSs (X.tr ps xe) body (tb W))
    (hs : ∀ (a : Addr) (ob : Obj) (cls : Value) (d : Option Addr) (ps : List (Addr × Obj)), Zc cls d ob → PSs (X.suite a ((a, ob) :: ps)) (st :: su) (ts a cls d)) :
    PS X (.Try body [.ExceptHandler (some (.Name x pn)) (some n) (st :: su) pp] [] [] pt) (fun D σ H => tb (wKeep X.K c X.N.length i ts D) D σ H) := by
  constructor
  intro pins s σ H D I h
  have ok := I.ok
  have hfr : X.A.frames = some (X.env :: X.outer) := by rw [ok.frames, hst]
  have hlc : Loc X.env.scope n := .inl hkl
  refine wpAny_Try_except (wpAny_mono ((hb (wKeep X.K c X.N.length i ts D) (X.pn ++ pins) _ ?tk).run [] s σ H D (I.toTry _) h) ?fin (fun u s1 z => z))
  case tk =>
    intro u s1 z
    obtain ⟨a, B, sI, qs, σ1, H1, cls, d, rfl, J0, nb, up, sky, na, os, ag, hz⟩ := z
    obtain ⟨hm, hyes⟩ := hz J0.len
    have J : Inv X pins σ1 H1 sI := J0.ofTry ok
    have sk : Sky B (X.env :: X.outer) a (Zc cls d) X.env.locals s1.heap := by rw [← hst]; exact sky
    show wpAny (model X.prog X.w) X.A (noteFrame (.ref a) X.env) _ _ _
    refine Sky.land Zc.steady hfr hfl sk fun h3 f3 u3 => ?_
    have J3 : Inv X pins σ1 H1 { s1 with heap := h3 } := J.landed nb f3.1 (up.trans u3) os ag
    obtain ⟨o3, v3, e3, z3, d3⟩ := f3.there
    have nfr : a ∉ frs (X.env :: X.outer) := fun hin => by
      obtain ⟨_, o', e', nn⟩ := f3.2.2.1.mem hin
      rw [e3] at e'
      cases e'
      exact nn _ d3
    have nL : a ≠ X.env.locals := fun z => nfr (List.mem_filterMap.mpr ⟨X.env, List.mem_cons_self, by rw [hfl, z]⟩)
    have nF : a ∉ X.fs := fun hin => by
      obtain ⟨y, hy, q⟩ := List.mem_filterMap.mp hin
      exact nfr (List.mem_filterMap.mpr ⟨y, List.mem_cons_of_mem _ hy, q⟩)
    -- the error is none of what stood before
    have nI : sI.heap.get? a = none := by
      cases q : sI.heap.get? a with
      | none => rfl
      | some o =>
        have z := nb a o q (by rw [hst]; exact nfr)
        rw [f3.2.1] at z
        cases z
    have n0 : X.s_0.heap.get? a = none := by
      cases q : X.s_0.heap.get? a with
      | none => rfl
      | some o =>
        obtain ⟨o', z⟩ := J.base.there a o q (by rw [hex]; exact fun y => nomatch y)
        rw [nI] at z
        cases z
    have np : ∀ p ∈ X.pn ++ pins, p.1 ≠ a := fun p hp z => by
      have q := (J.pin p hp).1
      rw [z, nI] at q
      cases q
    have nc : ∀ y k, X.env.cells.lookup y = some k → k ≠ a := fun y k q z => by
      obtain ⟨v, o, q2, _⟩ := J.cell y k q
      rw [z, nI] at q2
      cases q2
    have S3 := J3.suite e3 d3 na nL nF
    refine wpAny_handleBy_cons (codeAny_handlers_test ?_) (fun q => by cases q)
    have ty : PySem.W.Looks (model X.prog X.w) h3 (typeOf (.ref a)) cls := fun A' Q' E' s' k q => wpAny_typeOf_ref (k _ _ e3) (by rw [z3.1]; exact q)
    have mt := PySem.W.exm_one (M := model X.prog X.w) J3.kIn ty hm
    have name : ∀ {Q' : Value → Shared → Prop} {E' : Value → Shared → Prop}, Q' c { s1 with heap := h3 } → wpAny (model X.prog X.w) (X.A.mark (some (.ref a))) (eval (.Name x pn) X.env) Q' E' { s1 with heap := h3 } := fun q => by
      obtain ⟨hg, hdb, w1 | ⟨w1, w2, w3⟩⟩ := hx
      · exact ld_glob (X := X.suite a ((a, o3) :: (X.pn ++ pins))) S3 hg w1 q hdb
      · exact ld_blt (X := X.suite a ((a, o3) :: (X.pn ++ pins))) S3 hg w1 w2 q w3 hdb
    refine name (mt.here (codeAny_handlers_suite_as (HandSPX.lands_againZ f3 fun h4 f4 u4 => ?_)))
    have J4 : Inv X pins σ1 H1 { s1 with heap := h4 } := J.landed nb f4.1 ((up.trans u3).trans u4) os ag
    obtain ⟨o4, v4, e4, z4, d4⟩ := f4.there
    refine store_ok (X := X.suite a ((a, o4) :: (X.pn ++ pins))) (v := .ref a) (J4.suite e4 d4 na nL nF) nd hni hlc rfl (fun s5 S5 => ?_) (.inr hkl)
    refine wpAny_mono ((hs a o4 cls d (X.pn ++ pins) z4).run [] s5 _ H1 _ S5 (hyes a na)) (fun f s6 z => ?_) (fun _ _ z => False.elim z)
    cases f with
    | next =>
      obtain ⟨σ6, H6, S6, q6⟩ := z
      exact gone_ok (keep_pin S6 ok) nd hni hkl fun s7 J7 => ⟨_, _, track_ok J7 n0 np nc z4 d4, q6⟩
    | brk =>
      obtain ⟨_, _, _, z⟩ := z
      exact z.elim
    | cont =>
      obtain ⟨_, _, _, z⟩ := z
      exact z.elim
    | ret u =>
      obtain ⟨_, _, _, _, _, z⟩ := z
      exact z.elim
  case fin =>
    intro f s1 z
    cases f with
    | next =>
      obtain ⟨σ1, H1, J, q⟩ := z
      exact wpAny_execs_nil ⟨σ1, H1, J.ofTry ok, q⟩
    | brk =>
      obtain ⟨σ1, H1, J, q⟩ := z
      exact ⟨σ1, H1, J.ofTry ok, q⟩
    | cont =>
      obtain ⟨σ1, H1, J, q⟩ := z
      exact ⟨σ1, H1, J.ofTry ok, q⟩
    | ret u =>
      obtain ⟨v, σ1, H1, J, r, q⟩ := z
      exact ⟨v, σ1, H1, J.ofTry ok, r, q⟩
end
/-! ### isinstance and the field of a kept error -/
/-- what the text says of an own error's class: x its name, f its one field, fI its __init__ -/
structure ErrC (K : PySem.W.Frag) (mg : Str → Option Value) (x f : Str) (C fI : Addr) : Prop where
  o : OexC K C
  gC : mg x = some (.ref C)
  noF : PySem.W.findIn K (.ref C) f = some none
  iC : PySem.W.findIn K (.ref C) "__init__" = some (some (.ref fI))
  tI : PySem.W.typeIn K (.ref fI) = some (.type "function")
  xf : XfC K C
  cl : (PySem.W.clsIn K C).isSome = true
  ha : PySem.W.findIn K (.ref C) "__class__" = some (some (.builtin "object.__class__"))
  hn : PySem.W.specialIn K (.builtin "object.__class__") "__get__" = some (some (.builtin "getset_descriptor.__get__"))
  ht : PySem.W.takesIn K (.builtin "object.__class__") = some true
  hm : PySem.W.mroIn K C (.type "object") = some true
  me : PySem.W.exmOne K (.ref C) (.ref C) = some true
/-- isinstance(x, D), x a kept error of the class C -/
def rIsX (K : PySem.W.Frag) : List V → Hp → VK → Prop := fun xs H Q => ∃ (a C D d : Addr) (fs : List (Str × V)) (mg : Str → Option Value) (x f : Str) (fI : Addr) (b : Bool), xs = [.ref a, .ref D] ∧ ErrC K mg x f C fI ∧ H a = some (exT a (.ref C) (some d)) ∧ H d = some (.xd fs) ∧
  PySem.W.kitOne K (.ref C) (.ref D) = some b ∧ Q (.bl b) H
section
variable {X : Cx} {K : PySem.W.Frag}
theorem kept_inst {pins : List (Addr × Obj)} {σ : L2.St} {H : Hp} {s : Shared} {a C d : Addr} {fs : List (Str × V)} (I : Inv X pins σ H s) (ha : H a = some (exT a (.ref C) (some d))) (hd : H d = some (.xd fs)) :
    ∃ ob od mA, PySem.W.InstAt s.heap a ob C (some od) ∧ s.heap.Ns1 d mA ∧ (∀ f, RelO (fs.lookup f) (mA f)) ∧ s.heap.get? d = some od ∧ ∀ f, PySem.W.lookIn f od = some (mA f) := by
  obtain ⟨ob, vs, e, z, q⟩ := exT_at I.hok ha
  have hx : ObjOk X.prog X.w H s.heap d (.xd fs) := I.hok d _ hd
  obtain ⟨mA, hns, hr⟩ := hx
  obtain ⟨od, ho, hl⟩ := lookIn_ns hns
  exact ⟨ob, od, mA, ⟨e, z.1, by unfold PySem.W.notCls; rw [q] <;> rfl, by rw [z.2]; exact ho⟩, hns, hr, ho, hl⟩
theorem isix (hK : X.K = K) : CallR X (.builtin "isinstance") (rIsX K) := by
  subst hK
  intro pins s σ H xs us Q I r h
  obtain ⟨a, C, D, d, fs, mg, x, f, fI, b, rfl, T, ha, hd, hk, q⟩ := h
  obtain ⟨u1, u2, rfl, r1, r2⟩ := vals2 r
  cases r1
  cases r2
  obtain ⟨ob, od, mA, J, _, _, _, _⟩ := kept_inst I ha hd
  exact PySem.W.kia_one (PySem.W.kitx_exc T.cl T.xf.ga T.xf.gg T.xf.exC T.ha T.hn T.ht T.hm) I.kIn J hk (fun z => nomatch z) fun tk => ⟨.bl b, H, I.tok tk, rfl, q⟩
/-- o.f, o a kept error -/
def tXff (K : PySem.W.Frag) (f : Str) (te : TE) : TE := fun σ H Q => te σ H fun x H1 => ∃ (a C d : Addr) (mg : Str → Option Value) (y : Str) (fI : Addr) (v : V), x = .ref a ∧ ErrC K mg y f C fI ∧ H1 a = some (exT a (.ref C) (some d)) ∧ H1 d = some (.xd [(f, v)]) ∧ Q v H1
theorem r_xff {K : PySem.W.Frag} {f : Str} {te : TE} {σ : L2.St} {H : Hp} {Q : VK} (h : te σ H fun x H1 => ∃ (a C d : Addr) (mg : Str → Option Value) (y : Str) (fI : Addr) (v : V), x = .ref a ∧ ErrC K mg y f C fI ∧ H1 a = some (exT a (.ref C) (some d)) ∧ H1 d = some (.xd [(f, v)]) ∧ Q v H1) : tXff K f te σ H Q := h
theorem pe_xff {e : Expr} {te : TE} {n : Str} {pos : Pos} (hK : X.K = K) (he : PE X e te) (hb : attributeBase e n X.env (eval e X.env) = eval e X.env := by rfl) : PE X (.Attribute e n pos) (tXff K n te) := by
  subst hK
  constructor
  intro pins s σ H Q I h
  refine attr_of hb (thn (he.run pins s σ H _ I h) fun u s1 hh => ?_)
  obtain ⟨x, H1, I1, rx, a, C, d, mg, y, fI, v, ex, T, ha, hd, q⟩ := hh
  subst ex
  have eu : u = Value.ref a := rx
  subst eu
  obtain ⟨ob, od, mA, J, _, hr, _, hl⟩ := kept_inst I1 ha hd
  have l : List.lookup n [(n, v)] = some v := by simp [List.lookup]
  obtain ⟨u, hu, ru⟩ := RelO.some_of (v := v) (o := mA n) (by rw [← l]; exact hr n)
  exact HandSPX.exc_get I1.kIn J T.xf.ga T.xf.gg T.xf.exC (PySem.W.findObj_own T.xf.hdC T.noF rfl (by rw [hl, hu])) (handed_of ru) ⟨v, H1, I1.tok _, ru, q⟩
end
/-! ### __init__ walked; raise C(e) -/
section
variable {P : Program} {w : World} {K : PySem.W.Frag} {mg : Str → Option Value} {base : Heap} {f : Addr} {fd : FuncData} {C0 C : Addr}
theorem ok_initA (F : FunD K "__init__" "InvalidAnswer.__init__" (defArgs st_InvAns) (defBody st_InvAns) (defScope st_InvAns) [] [] f fd) (B : BaseC K mg C0) (T : OexC K C) (hno : PySem.W.findIn K (.ref C) "part" = some none) :
    FnOk P w K mg base (L2.CX P w) 1 f fd ["self", "part"] (spInit K C "part") := by
  refine F.ok (N := ["self", "part"]) ⟨rfl, rfl, rfl, by decide +kernel, rfl, by decide +kernel, by decide +kernel⟩ (fun vs H Q E h => ?_) (fun cdv A outer s H vs Q E hr h => ?_)
  · obtain ⟨a, v, rfl, _⟩ := h
    rfl
  · obtain ⟨a, v, rfl, ha, k⟩ := h
    refine ⟨_, pss_cons (ps_expr (pe_sinit B rfl (pa_cons (pv 0) (pa_cons pe_str pa_nil)))) (pss_one (ps_ost (pv 0) (pv 1))), ?_⟩
    show tSeq _ _ _ [some (.ref a), some v] H
    refine r_seq (r_drop (r_cons (r_var rfl (r_cons (r_c (r_nil ⟨a, C, _, rfl, by decide, T, ha, ?_⟩))))))
    exact ⟨v, rfl, _, rfl, a, C, rfl, T, hno, .inl ⟨ha, k⟩⟩
theorem ok_initS (F : FunD K "__init__" "InvalidSequence.__init__" (defArgs st_InvSeq) (defBody st_InvSeq) (defScope st_InvSeq) [.non] [] f fd) (B : BaseC K mg C0) (T : OexC K C) (hno : PySem.W.findIn K (.ref C) "index" = some none) :
    FnOk P w K mg base (L2.CX P w) 1 f fd ["self", "index"] (spInit K C "index") := by
  refine F.ok (N := ["self", "index"]) ⟨rfl, rfl, rfl, by decide +kernel, rfl, by decide +kernel, by decide +kernel⟩ (fun vs H Q E h => ?_) (fun cdv A outer s H vs Q E hr h => ?_)
  · obtain ⟨a, v, rfl, _⟩ := h
    rfl
  · obtain ⟨a, v, rfl, ha, k⟩ := h
    refine ⟨_, pss_cons (ps_expr (pe_sinit B rfl (pa_cons (pv 0) (pa_cons pe_str pa_nil)))) (pss_one (ps_ost (pv 0) (pv 1))), ?_⟩
    show tSeq _ _ _ [some (.ref a), some v] H
    refine r_seq (r_drop (r_cons (r_var rfl (r_cons (r_c (r_nil ⟨a, C, _, rfl, by decide, T, ha, ?_⟩))))))
    exact ⟨v, rfl, _, rfl, a, C, rfl, T, hno, .inl ⟨ha, k⟩⟩
theorem bi_initA (F : FunD K "__init__" "InvalidAnswer.__init__" (defArgs st_InvAns) (defBody st_InvAns) (defScope st_InvAns) [] [] f fd) : Binds K fd ["self", "part"] [] := F.bindsN fun _ _ _ _ _ _ us hl => match us, hl with | [_, _], _ => rfl
theorem bi_initS (F : FunD K "__init__" "InvalidSequence.__init__" (defArgs st_InvSeq) (defBody st_InvSeq) (defScope st_InvSeq) [.non] [] f fd) : Binds K fd ["self", "index"] [] := by
  obtain ⟨ds, r, b⟩ := F.binds1 (ps := ["self", "index"]) 2 1 (fun z => by cases z) rfl fun T kV doc pm an cdv ct us its h1 h2 => match us, h1, its, h2 with | [_, _], _, [_], _ => ⟨_, rfl, rfl⟩
  cases r
  exact b
end
/-- an own error that may be made -/
structure ErrD (P : Program) (w : World) (K : PySem.W.Frag) (mg : Str → Option Value) (base : Heap) (x f : Str) (C : Addr) : Prop where
  ex : ∃ (fI : Addr) (fd : FuncData), ErrC K mg x f C fI ∧ FnOk P w K mg base (L2.CX P w) 1 fI fd ["self", f] (spInit K C f) ∧ Binds K fd ["self", f] []
/-- raise x(e) -/
def tErr (K : PySem.W.Frag) (f : Str) (C : Addr) (W : WX) (ta : TA) : TS := fun _ σ H => tMkO C (spInit K C f) [] ta σ H fun cls d H' => W cls d σ H'
section
variable {X : Cx} {x f : Str} {C : Addr} {W : WX} {e : Expr} {ta : TA} {p pos pos2 : Pos}
theorem passL {X : Cx} : Passes (L2.CX X.prog X.w) X (fun _ _ _ => False) := fun _ _ _ _ _ _ _ h => by
  obtain ⟨_, _, _, _, _, _, _, _, _, _, _, _, z⟩ := h
  exact z.elim
theorem ps_err {K : PySem.W.Frag} (hK : X.K = K) (hc : X.calm = true) (T : ErrD X.prog X.w X.K X.mg X.base x f C) (hr : Room 2 X.A) (tk : Takes X W) (ha : PA X [e] ta) (hg : Gl X x := by rfl) (hdb : (x == ("__debug__" : Str)) = false := by decide)
    (hq : starEach (e :: []) X.env = (false, eval e X.env) :: starEach [] X.env := by rfl) (hp : (backTo pos (starEach [] X.env)).any (·.1) = false := by rfl) :
    PS X (.Raise (some (.Call (.Name x p) [e] [] pos)) none pos2) (tErr K f C W ta) := by
  subst hK
  obtain ⟨fI, fd, E, F, b⟩ := T.ex
  exact ps_raise (pos := pos2) hc tk (pmk_oex (pos := pos) (p := p) E.o E.iC E.tI F hr b .nil passL hg E.gC ha hdb hq hp)
end
/-- what follows the arguments -/
theorem r_err {K : PySem.W.Frag} {C : Addr} {f : Str} {v : V} {H : Hp} {Q : XK} (h : ∀ d H2, H d = none → Ex H H2 → H2 d = some (.xd [(f, v)]) → Q (.ref C) (some d) H2) :
    [v].length ≤ 1000 ∧ ∀ a, H a = none → spInit K C f (.ref a :: ([v] ++ [])) (upd H a (exo a C none))
      (fun v H2 => v = .non ∧ ∃ (d : Addr) (fs : List (Str × V)), H2 a = some (exo a C (some d)) ∧ H2 d = some (exd d fs) ∧ H d = none ∧ Q (.ref C) (some d) (upd (del H2 a) d (.xd fs))) (fun _ _ _ => False) := by
  refine ⟨by show 1 ≤ 1000; decide, fun a ha => ⟨a, v, rfl, upd_same, fun dx n ne => ?_⟩⟩
  have n0 : H dx = none := by rw [upd_ne ne] at n; exact n
  refine ⟨rfl, dx, [(f, v)], upd_same, by rw [upd_ne ne, upd_same], n0, h dx _ n0 (fun b o q => ?_) upd_same⟩
  rw [upd_ne (ne_of_none q n0), del_ne (ne_of_none q ha), upd_ne (ne_of_none q ha), upd_ne (ne_of_none q n0), upd_ne (ne_of_none q ha)]
  exact q
section
variable {X : Cx} {k : Nat} {x : Str} {ps : List Str} {sp : Sp} {t : TA} {e : Expr} {es : List Expr} {pos p : Pos} {W : WX}
/-- f(a, ..), f a def that may let an error out, in a try -/
theorem pe_defX (F : Def X.prog X.w X.K X.mg X.base (L2.CX X.prog X.w) k x ps sp) (hr : Room k X.A) (tk : Takes X W) (ha : PA X (e :: es) t) (hg : Gl X x := by rfl)
    (he : starEach (e :: es) X.env = (false, eval e X.env) :: starEach es X.env := by rfl) (hpl : (backTo pos (starEach es X.env)).any (·.1) = false := by rfl)
    (hdb : (x == ("__debug__" : Str)) = false := by decide) : PE X (.Call (.Name x p) (e :: es) [] pos) (tCallS sp (WE W) t) := by
  obtain ⟨f, fd, gm, kp, b, G⟩ := F.ex
  exact pe_callS G hr hg gm kp b (fun σ => passAt tk σ) ha (he := he) (hpl := hpl) (hdb := hdb)
theorem r_callS {σ : L2.St} {H : Hp} {Q : VK} {E : L2.St → XK} (h : t σ H fun vs H1 => sp vs H1 Q (E σ)) : tCallS sp E t σ H Q := h
end
end SW
end

section
set_option Elab.async false
set_option linter.all false
set_option maxRecDepth 100000
set_option maxHeartbeats 0
/-! the head's run, with the facts that the walk takes -/
namespace SW
open PySem PySem.Spec PyProof.Rows L2
open PySem.W (Frag findIn subIn typeIn keepIn specialIn takesIn mroIn exmOne kitOne readsIn findCls clsIn)
/-- an own error's class, by a look -/
def clsB (K : Frag) (C : Addr) : Bool := match K.lookup C with
  | some ⟨.type c, _, .cls cd, ⟨[_, _, _, _, some (.builtin n), _]⟩⟩ => (match cd.mro with
    | .ref C' :: bm => decide (c = "type") && decide (n = "ValueError.__new__") && decide (C' = C) && cd.hasDict && !cd.hasDel && PySem.HandSPX.refsVE bm
    | _ => false)
  | _ => false
def errB (K : Frag) (x f : Str) : Bool := clsB K (He.ga K x) && decide (findIn K (.ref (He.ga K x)) "__setattr__" = some (some (.builtin "object.__setattr__"))) && decide (subIn K (.ref (He.ga K x)) (.type "BaseException") = some true) && decide (typeIn K (.ref (He.ga K x)) = some (.type "type")) && keepIn K (.ref (He.ga K x)) &&
  decide (findIn K (.ref (He.ga K x)) f = some none) && decide (findIn K (.ref (He.ga K x)) "__init__" = some (some (.ref (He.fAd K (x, some "__init__"))))) && decide (typeIn K (.ref (He.fAd K (x, some "__init__"))) = some (.type "function")) && xfB K (He.ga K x) && (clsIn K (He.ga K x)).isSome &&
  decide (findIn K (.ref (He.ga K x)) "__class__" = some (some (.builtin "object.__class__"))) && decide (specialIn K (.builtin "object.__class__") "__get__" = some (some (.builtin "getset_descriptor.__get__"))) && decide (takesIn K (.builtin "object.__class__") = some true) && decide (mroIn K (He.ga K x) (.type "object") = some true) &&
  decide (exmOne K (.ref (He.ga K x)) (.ref (He.ga K x)) = some true)
def baseB (K : Frag) : Bool := readsIn K (He.ga K "SwaprowError") (.type "type") && decide (specialIn K (.ref (He.ga K "SwaprowError")) "__getattribute__" = some (some (.builtin "type.__getattribute__"))) && (match findCls K (.ref (He.ga K "SwaprowError")) (.type "type") "__init__" with
  | some (.val (.builtin n)) => decide (n = "ValueError.__init__")
  | _ => false) && decide (exmOne K (.ref (He.ga K "InvalidAnswer")) (.ref (He.ga K "SwaprowError")) = some true)
/-! the hook: what the names reach, and the interpreter's own statics -/
def kS (n : Nat) (g : Addr → Option Obj) : Frag := He.frT g (He.asD g n ++ [cStatics])
def obsS (n : Nat) (fa : List He.Fa) (fn : List He.DefD) (tf : List He.Defn) (ex : Frag → Bool) (g : Addr → Option Obj) : He.AlX := (He.obsT fa fn [] (kS n g), ex (kS n g) && He.tabsB g tf (kS n g))
theorem saysS {n : Nat} {fa : List He.Fa} {fn : List He.DefD} {tf : List He.Defn} {ex : Frag → Bool} {w : World} {h : Heap} (e : obsS n fa fn tf ex h.get? = He.valX fn [] w) : He.SaysX fa fn [] tf ex w h (kS n h.get?) := by
  have a := congrArg Prod.fst e
  have b : (ex (kS n h.get?) && He.tabsB h.get? tf (kS n h.get?)) = true := congrArg Prod.snd e
  rw [Bool.and_eq_true] at b
  have at_ : ∀ p ∈ tf, PySem.W.codeHdIn (kS n h.get?) (He.cT (kS n h.get?) p).1 (He.cT (kS n h.get?) p).2 = true ∧ ∃ o, h.get? (He.cT (kS n h.get?) p).2 = some o ∧ He.emptyTab o = true := fun p hp => by
    have c := List.all_eq_true.mp b.2 p hp
    rw [Bool.and_eq_true] at c
    refine ⟨c.1, ?_⟩
    have c2 := c.2
    revert c2
    cases h.get? (He.cT (kS n h.get?) p).2 with
    | none => exact fun z => Bool.noConfusion z
    | some o => exact fun z => ⟨o, rfl, z⟩
  refine ⟨a, b.1, fun p hp => (at_ p hp).1, fun p hp => ?_, fun p hp => ?_⟩
  · obtain ⟨_, o, x, y⟩ := at_ p hp
    exact He.frT_none x y
  · obtain ⟨_, o, x, y⟩ := at_ p hp
    rw [x, He.emptyTab_eq y]
def hookS (n : Nat) (fa : List He.Fa) (fn : List He.DefD) (tf : List He.Defn) (ex : Frag → Bool) : PySem.W.Hook where
  α := He.AlX
  obs := fun t => obsS n fa fn tf ex t.heap.get?
  val := fun v => He.valX fn [] v
  says := fun v h => ∃ K : Frag, K.In h ∧ He.SaysX fa fn [] tf ex v h K
  of := fun _ _ z => ⟨_, He.frT_in, saysS z⟩
  keeps := fun _ _ _ ⟨K, x, y⟩ q => ⟨K, PySem.W.Frag.In.keeps x q, ⟨y.t, y.more, y.hd, y.out, fun p hp => q _ _ (y.empty p hp)⟩⟩
theorem obsS_eq {n : Nat} {fa : List He.Fa} {fn : List He.DefD} {tf : List He.Defn} {ex : Frag → Bool} {g : Addr → Option Obj} {s : Shared} (h : ∀ a, g a = s.heap.get? a) : obsS n fa fn tf ex g = (hookS n fa fn tf ex).obs s := by
  obtain rfl : g = s.heap.get? := funext h
  rfl
def othB (K : Frag) : Bool := decide (kitOne K (.ref (He.ga K "InvalidAnswer")) (.ref (He.ga K "InvalidRankings")) = some false) && decide (kitOne K (.ref (He.ga K "InvalidAnswer")) (.ref (He.ga K "InvalidArrangement")) = some false) && decide (kitOne K (.ref (He.ga K "InvalidAnswer")) (.ref (He.ga K "InvalidDisplacements")) = some false) &&
  decide (kitOne K (.ref (He.ga K "InvalidAnswer")) (.ref (He.ga K "InvalidSequence")) = some false) && decide (kitOne K (.ref (He.ga K "InvalidAnswer")) (.ref (He.ga K "InvalidAnswer")) = some true)

def d_is_integer : He.DefD := ⟨("is_integer", none), "is_integer", "is_integer", defArgs st_is_integer, defBody st_is_integer, defScope st_is_integer, [], []⟩
def d_is_number_below : He.DefD := ⟨("is_number_below", none), "is_number_below", "is_number_below", defArgs st_is_number_below, defBody st_is_number_below, defScope st_is_number_below, [], []⟩
def d_is_ranking : He.DefD := ⟨("is_ranking", none), "is_ranking", "is_ranking", defArgs st_is_ranking, defBody st_is_ranking, defScope st_is_ranking, [], []⟩
def d_check_rankings : He.DefD := ⟨("check_rankings", none), "check_rankings", "check_rankings", defArgs st_check_rankings, defBody st_check_rankings, defScope st_check_rankings, [], []⟩
def d_rank_tables : He.DefD := ⟨("rank_tables", none), "rank_tables", "rank_tables", defArgs st_rank_tables, defBody st_rank_tables, defScope st_rank_tables, [], []⟩
def d_check_displacements : He.DefD := ⟨("check_displacements", none), "check_displacements", "check_displacements", defArgs st_check_displacements, defBody st_check_displacements, defScope st_check_displacements, [], []⟩
def d_check_ring : He.DefD := ⟨("check_ring", none), "check_ring", "check_ring", defArgs st_check_ring, defBody st_check_ring, defScope st_check_ring, [], []⟩
def d_check_both : He.DefD := ⟨("check_both", none), "check_both", "check_both", defArgs st_check_both, defBody st_check_both, defScope st_check_both, [], []⟩
def d_end_of_copy : He.DefD := ⟨("end_of_copy", none), "end_of_copy", "end_of_copy", defArgs st_end_of_copy, defBody st_end_of_copy, defScope st_end_of_copy, [], []⟩
def d_later_copies : He.DefD := ⟨("later_copies", none), "later_copies", "later_copies", defArgs st_later_copies, defBody st_later_copies, defScope st_later_copies, [], []⟩
def d_inversions_there : He.DefD := ⟨("inversions_there", none), "inversions_there", "inversions_there", defArgs st_inversions_there, defBody st_inversions_there, defScope st_inversions_there, [], []⟩
def d_triple_there : He.DefD := ⟨("triple_there", none), "triple_there", "triple_there", defArgs st_triple_there, defBody st_triple_there, defScope st_triple_there, [], []⟩
def d_is_ring_swap_allowed : He.DefD := ⟨("is_ring_swap_allowed", none), "is_ring_swap_allowed", "is_ring_swap_allowed", defArgs st_is_ring_swap_allowed, defBody st_is_ring_swap_allowed, defScope st_is_ring_swap_allowed, [], []⟩
def d_run_ring : He.DefD := ⟨("run_ring", none), "run_ring", "run_ring", defArgs st_run_ring, defBody st_run_ring, defScope st_run_ring, [], []⟩
def d_place_there : He.DefD := ⟨("place_there", none), "place_there", "place_there", defArgs st_place_there, defBody st_place_there, defScope st_place_there, [], []⟩
def d_refusals_there : He.DefD := ⟨("refusals_there", none), "refusals_there", "refusals_there", defArgs st_refusals_there, defBody st_refusals_there, defScope st_refusals_there, [], []⟩
def d_sequence_for : He.DefD := ⟨("sequence_for", none), "sequence_for", "sequence_for", defArgs st_sequence_for, defBody st_sequence_for, defScope st_sequence_for, [], []⟩
def d_decide_there : He.DefD := ⟨("decide_there", none), "decide_there", "decide_there", defArgs st_decide_there, defBody st_decide_there, defScope st_decide_there, [], []⟩
def d_decide_ring : He.DefD := ⟨("decide_ring", none), "decide_ring", "decide_ring", defArgs st_decide_ring, defBody st_decide_ring, defScope st_decide_ring, [], []⟩
def d_leads_to : He.DefD := ⟨("leads_to", none), "leads_to", "leads_to", defArgs st_leads_to, defBody st_leads_to, defScope st_leads_to, [], []⟩
def d_are_integers : He.DefD := ⟨("are_integers", none), "are_integers", "are_integers", defArgs st_are_integers, defBody st_are_integers, defScope st_are_integers, [], []⟩
def d_is_triple : He.DefD := ⟨("is_triple", none), "is_triple", "is_triple", defArgs st_is_triple, defBody st_is_triple, defScope st_is_triple, [], []⟩
def d_is_refusal : He.DefD := ⟨("is_refusal", none), "is_refusal", "is_refusal", defArgs st_is_refusal, defBody st_is_refusal, defScope st_is_refusal, [], []⟩
def d_check_ring_decision : He.DefD := ⟨("check_ring_decision", none), "check_ring_decision", "check_ring_decision", defArgs st_check_ring_decision, defBody st_check_ring_decision, defScope st_check_ring_decision, [], []⟩
def d_law_mixed : He.DefD := ⟨("_law_mixed", none), "_law_mixed", "_law_mixed", defArgs st_law_mixed, defBody st_law_mixed, defScope st_law_mixed, [], []⟩
def d_law_folded : He.DefD := ⟨("_law_folded", none), "_law_folded", "_law_folded", defArgs st_law_folded, defBody st_law_folded, defScope st_law_folded, [], []⟩
def d_law_draw : He.DefD := ⟨("_law_draw", none), "_law_draw", "_law_draw", defArgs st_law_draw, defBody st_law_draw, defScope st_law_draw, [], []⟩
def d_law_begun : He.DefD := ⟨("_law_begun", none), "_law_begun", "_law_begun", defArgs st_law_begun, defBody st_law_begun, defScope st_law_begun, [], []⟩
def d_law_mixed_up : He.DefD := ⟨("_law_mixed_up", none), "_law_mixed_up", "_law_mixed_up", defArgs st_law_mixed_up, defBody st_law_mixed_up, defScope st_law_mixed_up, [], []⟩
def d_law_ring_walk : He.DefD := ⟨("_law_ring_walk", none), "_law_ring_walk", "_law_ring_walk", defArgs st_law_ring_walk, defBody st_law_ring_walk, defScope st_law_ring_walk, [], []⟩
def d_law_ring_lists : He.DefD := ⟨("_law_ring_lists", none), "_law_ring_lists", "_law_ring_lists", defArgs st_law_ring_lists, defBody st_law_ring_lists, defScope st_law_ring_lists, [], []⟩
def d_law_likes_more : He.DefD := ⟨("_law_likes_more", none), "_law_likes_more", "_law_likes_more", defArgs st_law_likes_more, defBody st_law_likes_more, defScope st_law_likes_more, [], []⟩
def d_law_ring_may : He.DefD := ⟨("_law_ring_may", none), "_law_ring_may", "_law_ring_may", defArgs st_law_ring_may, defBody st_law_ring_may, defScope st_law_ring_may, [], []⟩
def d_law_ring_after : He.DefD := ⟨("_law_ring_after", none), "_law_ring_after", "_law_ring_after", defArgs st_law_ring_after, defBody st_law_ring_after, defScope st_law_ring_after, [], []⟩
def d_law_ring_ended : He.DefD := ⟨("_law_ring_ended", none), "_law_ring_ended", "_law_ring_ended", defArgs st_law_ring_ended, defBody st_law_ring_ended, defScope st_law_ring_ended, [], []⟩
def d_law_ring_pairs : He.DefD := ⟨("_law_ring_pairs", none), "_law_ring_pairs", "_law_ring_pairs", defArgs st_law_ring_pairs, defBody st_law_ring_pairs, defScope st_law_ring_pairs, [], []⟩
def d_law_ring_triples : He.DefD := ⟨("_law_ring_triples", none), "_law_ring_triples", "_law_ring_triples", defArgs st_law_ring_triples, defBody st_law_ring_triples, defScope st_law_ring_triples, [], []⟩
def d_law_ring_place : He.DefD := ⟨("_law_ring_place", none), "_law_ring_place", "_law_ring_place", defArgs st_law_ring_place, defBody st_law_ring_place, defScope st_law_ring_place, [], []⟩
def d_law_ring_refusals : He.DefD := ⟨("_law_ring_refusals", none), "_law_ring_refusals", "_law_ring_refusals", defArgs st_law_ring_refusals, defBody st_law_ring_refusals, defScope st_law_ring_refusals, [], []⟩
def d_law_ring_run : He.DefD := ⟨("_law_ring_run", none), "_law_ring_run", "_law_ring_run", defArgs st_law_ring_run, defBody st_law_ring_run, defScope st_law_ring_run, [], []⟩
def d_law_ring_choices : He.DefD := ⟨("_law_ring_choices", none), "_law_ring_choices", "_law_ring_choices", defArgs st_law_ring_choices, defBody st_law_ring_choices, defScope st_law_ring_choices, [], []⟩
def d_law_ring_word : He.DefD := ⟨("_law_ring_word", none), "_law_ring_word", "_law_ring_word", defArgs st_law_ring_word, defBody st_law_ring_word, defScope st_law_ring_word, [], []⟩
def d_law_are_integers : He.DefD := ⟨("_law_are_integers", none), "_law_are_integers", "_law_are_integers", defArgs st_law_are_integers, defBody st_law_are_integers, defScope st_law_are_integers, [], []⟩
def d_law_ring_case : He.DefD := ⟨("_law_ring_case", none), "_law_ring_case", "_law_ring_case", defArgs st_law_ring_case, defBody st_law_ring_case, defScope st_law_ring_case, [], []⟩
def d_law_class : He.DefD := ⟨("_law_class", none), "_law_class", "_law_class", defArgs st_law_class, defBody st_law_class, defScope st_law_class, [], []⟩
def d_law_told : He.DefD := ⟨("_law_told", none), "_law_told", "_law_told", defArgs st_law_told, defBody st_law_told, defScope st_law_told, [], []⟩
def d_law_block_right : He.DefD := ⟨("_law_block_right", none), "_law_block_right", "_law_block_right", defArgs st_law_block_right, defBody st_law_block_right, defScope st_law_block_right, [], []⟩
def d_law_bent_right : He.DefD := ⟨("_law_bent_right", none), "_law_bent_right", "_law_bent_right", defArgs st_law_bent_right, defBody st_law_bent_right, defScope st_law_bent_right, [], []⟩
def d_law : He.DefD := ⟨("law", none), "law", "law", defArgs st_law, defBody st_law, defScope st_law, [], []⟩
def d_InvSeq : He.DefD := ⟨("InvalidSequence", some "__init__"), "__init__", "InvalidSequence.__init__", defArgs st_InvSeq, defBody st_InvSeq, defScope st_InvSeq, [.non], []⟩
def d_InvAns : He.DefD := ⟨("InvalidAnswer", some "__init__"), "__init__", "InvalidAnswer.__init__", defArgs st_InvAns, defBody st_InvAns, defScope st_InvAns, [], []⟩
def fn0 : List He.DefD := [d_is_integer, d_is_number_below, d_is_ranking, d_check_rankings, d_rank_tables, d_check_displacements, d_check_ring, d_check_both, d_end_of_copy, d_later_copies, d_inversions_there, d_triple_there, d_is_ring_swap_allowed, d_run_ring, d_place_there, d_refusals_there, d_sequence_for, d_decide_there, d_decide_ring, d_leads_to, d_are_integers, d_is_triple, d_is_refusal, d_check_ring_decision, d_law_mixed, d_law_folded, d_law_draw, d_law_begun, d_law_mixed_up, d_law_ring_walk]
def fn1 : List He.DefD := [d_law_ring_lists, d_law_likes_more, d_law_ring_may, d_law_ring_after, d_law_ring_ended, d_law_ring_pairs, d_law_ring_triples, d_law_ring_place, d_law_ring_refusals, d_law_ring_run, d_law_ring_choices, d_law_ring_word, d_law_are_integers, d_law_ring_case, d_law_class, d_law_told, d_law_block_right, d_law_bent_right, d_law, d_InvSeq, d_InvAns]
def fn : List He.DefD := fn0 ++ fn1
def fa0 : List He.Fa := [.glo "is_integer", .glo "is_number_below", .glo "is_ranking", .glo "check_rankings", .glo "rank_tables", .glo "check_displacements", .glo "check_ring", .glo "check_both", .glo "end_of_copy", .glo "later_copies", .glo "inversions_there", .glo "triple_there", .glo "is_ring_swap_allowed", .glo "run_ring", .glo "place_there", .glo "refusals_there", .glo "sequence_for", .glo "decide_there", .glo "decide_ring", .glo "leads_to", .glo "are_integers", .glo "is_triple", .glo "is_refusal", .glo "check_ring_decision", .glo "_law_mixed", .glo "_law_folded", .glo "_law_draw", .glo "_law_begun", .glo "_law_mixed_up", .glo "_law_ring_walk"]
def fa1 : List He.Fa := [.glo "_law_ring_lists", .glo "_law_likes_more", .glo "_law_ring_may", .glo "_law_ring_after", .glo "_law_ring_ended", .glo "_law_ring_pairs", .glo "_law_ring_triples", .glo "_law_ring_place", .glo "_law_ring_refusals", .glo "_law_ring_run", .glo "_law_ring_choices", .glo "_law_ring_word", .glo "_law_are_integers", .glo "_law_ring_case", .glo "_law_class", .glo "_law_told", .glo "_law_block_right", .glo "_law_bent_right", .glo "law", .free "len", .free "isinstance", .free "int", .free "bool", .free "tuple", .free "str", .free "all", .free "any", .free "set", .free "enumerate", .free "range"]
def fa2 : List He.Fa := [.free "sum", .free "list", .free "sorted", .free "repr", .glo "SwaprowError", .glo "InvalidRankings", .glo "InvalidArrangement", .glo "InvalidDisplacements", .glo "InvalidSequence", .glo "InvalidAnswer", .int "MAX_PEOPLE" 40, .int "MAX_RING" 20, .glo "WORDS"]
def fa : List He.Fa := fa0 ++ fa1 ++ fa2
def tf : List He.Defn := [("_law_bent_right", none)]
def ex (K : PySem.W.Frag) : Bool := He.tupB K "WORDS" [.str "refused", .str "sequence", .str "triple"] && errB K "InvalidSequence" "index" && errB K "InvalidAnswer" "part" && baseB K && othB K
def loose0 : List PySem.Str := ["SwaprowError", "InvalidRankings", "InvalidArrangement", "InvalidPerson", "InvalidItem", "InvalidSwap", "InvalidSequence", "InvalidAnswer", "DecreasingTriple", "LimitExceeded", "InvalidRank", "InvalidDisplacements", "NothingToUndo", "ParseError", "MAX_PEOPLE", "is_integer", "is_number_below", "is_ranking", "check_rankings", "rank_tables", "MAX_RING", "WORDS", "check_displacements", "check_ring", "check_both", "end_of_copy", "later_copies", "inversions_there", "triple_there", "is_ring_swap_allowed"]
def loose1 : List PySem.Str := ["run_ring", "place_there", "refusals_there", "sequence_for", "decide_there", "decide_ring", "leads_to", "are_integers", "is_triple", "is_refusal", "check_ring_decision", "_law_mixed", "_law_folded", "_law_draw", "_law_begun", "_law_mixed_up", "_law_ring_walk", "_law_ring_lists", "_law_likes_more", "_law_ring_may", "_law_ring_after", "_law_ring_ended", "_law_ring_pairs", "_law_ring_triples", "_law_ring_place", "_law_ring_refusals", "_law_ring_run", "_law_ring_choices", "_law_ring_word", "_law_are_integers"]
def loose2 : List PySem.Str := ["_law_ring_case", "_law_class", "_law_value_class", "_law_told", "_law_block_right", "_law_bent_right"]
def loose : List PySem.Str := loose0 ++ loose1 ++ loose2
abbrev Rw : PySem.W.OpenRow := PySem.W.OpenLaw.row PySem.Challenge.rw_swaprow_k54_whole_rings_of_many_people
abbrev hk : PySem.W.Hook := hookS 5 fa fn tf ex
def ob (s : PySem.W.SharedT) : He.AlX := obsS 5 fa fn tf ex (HandSHeadRun.getT s)
theorem ob_eq (s : PySem.W.SharedT) : ob s = hk.obs s.abs := obsS_eq (HandSHeadRun.getT_eq s)
theorem run (w : World) : HandSHeadRun.RunEq Rw (PySem.W.view Rw.prog [70]) hk ob 7000 loose w := by
  intro os
  kernel_rfl
end SW
end

section
set_option Elab.async false
set_option linter.all false
set_option maxRecDepth 100000
/-! the states of the sequence's making -/
namespace SW
theorem setI_len (l : List Int) (i v : Int) : (setI l i v).length = l.length := List.length_set
theorem setI_mem {l : List Int} {i v x : Int} (h : x ∈ setI l i v) : x ∈ l ∨ x = v := List.mem_or_eq_of_mem_set h
theorem ix_setI {l : List Int} {i j v : Int} (hi : 0 ≤ i) (hj : 0 ≤ j) (hl : i < l.length) : ix (setI l i v) j = if j = i then v else ix l j := by
  unfold ix setI
  rw [List.getD_eq_getElem?_getD, List.getD_eq_getElem?_getD]
  by_cases e : j = i
  · subst e
    rw [if_pos rfl, List.getElem?_set_self (by omega)] <;> rfl
  · rw [if_neg e, List.getElem?_set_ne (by omega)]
theorem rgI_mem {a x : Int} {n : Nat} : x ∈ rgI a n ↔ a ≤ x ∧ x < a + n := by
  unfold rgI
  constructor
  · intro h
    obtain ⟨i, h1, rfl⟩ := List.mem_map.mp h
    have := List.mem_range.mp h1
    omega
  · intro h
    exact List.mem_map.mpr ⟨(x - a).toNat, List.mem_range.mpr (by omega), by omega⟩
theorem ix_rgI {a p : Int} {n : Nat} (h0 : 0 ≤ p) (h1 : p < n) : ix (rgI a n) p = a + p := by
  unfold ix rgI
  rw [List.getD_eq_getElem?_getD, List.getElem?_map, List.getElem?_range (by omega)]
  show a + ((p.toNat : Nat) : Int) = a + p
  omega
theorem run_ok {d : List Int} (ok : DispOk d) {s : SqS} (r : Run d s) : s.arr.length = d.length ∧ s.rest.length = d.length ∧ ∀ x ∈ s.arr, 0 ≤ x ∧ x < d.length := by
  induction r with
  | init =>
    refine ⟨rgI_len _ _, rfl, fun x h => ?_⟩
    have := rgI_mem.mp h
    omega
  | @step s p r h0 h1 hc ih =>
    obtain ⟨i1, i2, i3⟩ := ih
    have hlo := ok.lo
    refine ⟨by simp only [fire, setI_len, i1], by simp only [fire, setI_len, i2], fun x h => ?_⟩
    have q0 : 0 ≤ (p + 1) % (d.length : Int) := Int.emod_nonneg _ (by omega)
    have q1 : (p + 1) % (d.length : Int) < d.length := Int.emod_lt_of_pos _ (by omega)
    rcases setI_mem (show x ∈ setI (setI s.arr p _) _ _ from h) with h | h
    · rcases setI_mem h with h | h
      · exact i3 x h
      · rw [h]; exact i3 _ (ix_mem q0 (by omega))
    · rw [h]; exact i3 _ (ix_mem h0 (by omega))
theorem mu_set : ∀ {l : List Int} {j : Nat} {v : Int} (h : j < l.length), mu (l.set j v) + l[j].toNat = mu l + v.toNat
  | [], j, v, h => absurd h (Nat.not_lt_zero _)
  | a :: l, 0, v, h => by
    show ((v.toNat :: l.map Int.toNat).sum) + a.toNat = ((a.toNat :: l.map Int.toNat).sum) + v.toNat
    rw [List.sum_cons, List.sum_cons]
    omega
  | a :: l, j + 1, v, h => by
    have hj : j < l.length := Nat.lt_of_succ_lt_succ h
    have ih := mu_set (l := l) (j := j) (v := v) hj
    show ((a.toNat :: (l.set j v).map Int.toNat).sum) + l[j].toNat = ((a.toNat :: l.map Int.toNat).sum) + v.toNat
    unfold mu at ih
    rw [List.sum_cons, List.sum_cons]
    omega
theorem mu_setI {l : List Int} {i v : Int} (h0 : 0 ≤ i) (h1 : i < l.length) : mu (setI l i v) + (ix l i).toNat = mu l + v.toNat := by
  have h : i.toNat < l.length := by omega
  have e : ix l i = l[i.toNat] := by
    unfold ix
    rw [List.getD_eq_getElem?_getD, List.getElem?_eq_getElem h] <;> rfl
  rw [e]
  exact mu_set h
theorem canSw_iff {n : Int} {s : SqS} {p : Int} : canSw n s p = true ↔ 0 < ix s.rest (ix s.arr p) ∧ ix s.rest (ix s.arr ((p + 1) % n)) < 0 := by
  unfold canSw
  rw [Bool.and_eq_true, decide_eq_true_eq, decide_eq_true_eq]
theorem fire_mu {d : List Int} (ok : DispOk d) {s : SqS} (r : Run d s) {p : Int} (h0 : 0 ≤ p) (h1 : p < d.length) (hc : canSw d.length s p = true) : mu (fire d.length s p).rest + 1 = mu s.rest := by
  obtain ⟨i1, i2, i3⟩ := run_ok ok r
  obtain ⟨c1, c2⟩ := canSw_iff.mp hc
  have hlo := ok.lo
  have q0 : 0 ≤ (p + 1) % (d.length : Int) := Int.emod_nonneg _ (by omega)
  have q1 : (p + 1) % (d.length : Int) < d.length := Int.emod_lt_of_pos _ (by omega)
  have a1 := i3 _ (ix_mem (A := s.arr) h0 (by omega))
  have a2 := i3 _ (ix_mem (A := s.arr) q0 (by omega))
  have e1 := mu_setI (l := s.rest) (i := ix s.arr p) (v := ix s.rest (ix s.arr p) - 1) a1.1 (by omega)
  have e2 := mu_setI (l := setI s.rest (ix s.arr p) (ix s.rest (ix s.arr p) - 1)) (i := ix s.arr ((p + 1) % (d.length : Int))) (v := ix (setI s.rest (ix s.arr p) (ix s.rest (ix s.arr p) - 1)) (ix s.arr ((p + 1) % (d.length : Int))) + 1) a2.1 (by rw [setI_len]; omega)
  have ne : ix s.arr ((p + 1) % (d.length : Int)) ≠ ix s.arr p := fun e => by rw [e] at c2; omega
  rw [ix_setI a1.1 a2.1 (by omega), if_neg ne] at e2
  show mu (setI (setI s.rest (ix s.arr p) (ix s.rest (ix s.arr p) - 1)) (ix s.arr ((p + 1) % (d.length : Int))) (ix (setI s.rest (ix s.arr p) (ix s.rest (ix s.arr p) - 1)) (ix s.arr ((p + 1) % (d.length : Int))) + 1)) + 1 = mu s.rest
  rw [ix_setI a1.1 a2.1 (by omega), if_neg ne]
  omega
theorem run_mu {d : List Int} (ok : DispOk d) {s : SqS} (r : Run d s) : s.found.length + mu s.rest = mu d := by
  induction r with
  | init => show 0 + mu d = mu d; omega
  | @step s p r h0 h1 hc ih =>
    have := fire_mu ok r h0 h1 hc
    have e : (fire d.length s p).found.length = s.found.length + 1 := by
      show (s.found ++ [p]).length = _
      rw [List.length_append] <;> rfl
    omega
theorem mu_bd : ∀ {l : List Int} {b : Nat}, (∀ x ∈ l, x ≤ b) → mu l ≤ l.length * b
  | [], b, _ => Nat.zero_le _
  | a :: l, b, h => by
    have ih := mu_bd (l := l) (b := b) fun x hx => h x (List.mem_cons_of_mem _ hx)
    have ha := h a List.mem_cons_self
    show (a.toNat :: l.map Int.toNat).sum ≤ (l.length + 1) * b
    unfold mu at ih
    rw [List.sum_cons, Nat.add_mul]
    omega
theorem mu_le {d : List Int} (ok : DispOk d) : mu d ≤ 400 := by
  have h := mu_bd (l := d) (b := 20) fun x hx => by
    have := ok.rng x hx
    have := ok.hi
    omega
  have := ok.hi
  have : d.length * 20 ≤ 20 * 20 := Nat.mul_le_mul_right _ this
  omega
end SW
end

section
set_option Elab.async false
set_option linter.all false
set_option maxRecDepth 100000
/-! runs of a ring's swaps, told step by step -/
namespace SW
/-- who holds what, how far each item has moved, behind the swap p -/
def stepR (n : Int) (s : List Int × List Int) (p : Int) : List Int × List Int :=
  (setI (setI s.1 p (ix s.1 ((p + 1) % n))) ((p + 1) % n) (ix s.1 p),
   setI (setI s.2 (ix s.1 p) (ix s.2 (ix s.1 p) + 1)) (ix s.1 ((p + 1) % n)) (ix (setI s.2 (ix s.1 p) (ix s.2 (ix s.1 p) + 1)) (ix s.1 ((p + 1) % n)) - 1))
def stepT (R : List (List Int)) (s : List Int × List Int) (p : Int) : Option (List Int × List Int) := if decide (0 ≤ p) && decide (p < R.length) && mayT R s.1 p then some (stepR R.length s p) else none
def runT (R : List (List Int)) : List Int × List Int → List Int → Option (List Int × List Int)
  | s, [] => some s
  | s, p :: ps => (stepT R s p).bind fun s' => runT R s' ps
def st0 (n : Nat) : List Int × List Int := (rgI 0 n, List.replicate n 0)
def movesT (R : List (List Int)) (ns : List Int) : Option (List Int) := (runT R (st0 R.length) ns).map (·.2)
theorem runT_app (R : List (List Int)) : ∀ (l m : List Int) (s : List Int × List Int), runT R s (l ++ m) = (runT R s l).bind fun s' => runT R s' m
  | [], m, s => rfl
  | p :: l, m, s => by
    show (stepT R s p).bind (fun s' => runT R s' (l ++ m)) = ((stepT R s p).bind fun s' => runT R s' l).bind fun s' => runT R s' m
    cases stepT R s p with
    | none => rfl
    | some s1 => exact runT_app R l m s1
theorem runT_snoc {R : List (List Int)} {ns : List Int} {i : Nat} {s t : List Int × List Int} (hi : i < ns.length) (h : runT R s (ns.take i) = some t) : runT R s (ns.take (i + 1)) = stepT R t (ns.getD i 0) := by
  have e : ns.take (i + 1) = ns.take i ++ [ns.getD i 0] := by
    rw [List.take_succ, List.getElem?_eq_getElem hi, List.getD_eq_getElem?_getD, List.getElem?_eq_getElem hi] <;> rfl
  rw [e, runT_app, h]
  show (stepT R t _).bind (fun s' => some s') = _
  cases stepT R t (ns.getD i 0) <;> rfl
theorem runT_stop {R : List (List Int)} {ns : List Int} {i : Nat} {s t : List Int × List Int} (hi : i < ns.length) (h : runT R s (ns.take i) = some t) (hn : stepT R t (ns.getD i 0) = none) : runT R s ns = none := by
  have e : ns = ns.take (i + 1) ++ ns.drop (i + 1) := (List.take_append_drop _ _).symm
  rw [e, runT_app, runT_snoc hi h, hn] <;> rfl
/-- what a run keeps -/
theorem stepR_ok {n : Nat} (h3 : 3 ≤ n) {s : List Int × List Int} {p : Int} (l1 : s.1.length = n) (l2 : s.2.length = n) (r : ∀ x ∈ s.1, 0 ≤ x ∧ x < (n : Int)) (h0 : 0 ≤ p) (h1 : p < n) :
    (stepR n s p).1.length = n ∧ (stepR n s p).2.length = n ∧ ∀ x ∈ (stepR n s p).1, 0 ≤ x ∧ x < (n : Int) := by
  have q0 : 0 ≤ (p + 1) % (n : Int) := Int.emod_nonneg _ (by omega)
  have q1 : (p + 1) % (n : Int) < n := Int.emod_lt_of_pos _ (by omega)
  refine ⟨by simp only [stepR, setI_len, l1], by simp only [stepR, setI_len, l2], fun x h => ?_⟩
  rcases setI_mem (show x ∈ setI (setI s.1 p _) _ _ from h) with h | h
  · rcases setI_mem h with h | h
    · exact r x h
    · rw [h]; exact r _ (ix_mem q0 (by omega))
  · rw [h]; exact r _ (ix_mem h0 (by omega))
theorem stepT_some {R : List (List Int)} {s t : List Int × List Int} {p : Int} (h : stepT R s p = some t) : 0 ≤ p ∧ p < R.length ∧ mayT R s.1 p = true ∧ t = stepR R.length s p := by
  unfold stepT at h
  split at h
  · rename_i hc
    rw [Bool.and_eq_true, Bool.and_eq_true, decide_eq_true_eq, decide_eq_true_eq] at hc
    exact ⟨hc.1.1, hc.1.2, hc.2, (Option.some.inj h).symm⟩
  · cases h
theorem stepT_eq {R : List (List Int)} {s : List Int × List Int} {p : Int} (h0 : 0 ≤ p) (h1 : p < R.length) (hm : mayT R s.1 p = true) : stepT R s p = some (stepR R.length s p) := by
  unfold stepT
  rw [decide_eq_true h0, decide_eq_true h1, hm] <;> rfl
theorem stepT_no {R : List (List Int)} {s : List Int × List Int} {p : Int} (h : decide (0 ≤ p) = false ∨ decide (p < (R.length : Int)) = false ∨ mayT R s.1 p = false) : stepT R s p = none := by
  unfold stepT
  rw [if_neg]
  rw [Bool.and_eq_true, Bool.and_eq_true]
  rintro ⟨⟨a, b⟩, c⟩
  rcases h with h | h | h
  · rw [a] at h; cases h
  · rw [b] at h; cases h
  · rw [c] at h; cases h
/-- the answers that stand -/
def isTripT (d ns : List Int) : Bool := decide (ns.length = 3) && (decide (0 ≤ ix ns 0) && decide (ix ns 0 < d.length)) && ((decide (ix ns 0 < ix ns 1) && decide (ix ns 1 < ix ns 2)) && (decide (eoc d (ix ns 1) < eoc d (ix ns 0)) && decide (eoc d (ix ns 2) < eoc d (ix ns 1))))
def isRefT (R : List (List Int)) (d ns : List Int) : Bool := (tripT d).isNone && decide (ns.length = 4) && decide ([ix ns 1, ix ns 2] ∈ invs d) && decide (ns ∈ refT R d (ix ns 1) (ix ns 2))
def leadsT (R : List (List Int)) (d ns : List Int) : Bool := decide (movesT R ns = some d)
/-! what the law's own defs compute -/
def llater (d : List Int) (c : Int) : List Int := (rgI (c + 1) (2 * d.length + 1)).filter fun o => decide (eoc d o < eoc d c)
def lpairs (d : List Int) : List (List Int) := (List.range d.length).flatMap fun (x : Nat) => (llater d x).map fun z => [(x : Int), z]
def ltrips (d : List Int) : List (List Int) := (lpairs d).flatMap fun q => (llater d (ix q 1)).map fun z => [ix q 0, ix q 1, z]
def lref (R : List (List Int)) (d : List Int) (x z : Int) : List (List Int) :=
  (if rk R (placeT d x z) (z % d.length) < rk R (placeT d x z) (x % d.length) then [] else [[placeT d x z, x, z, placeT d x z]]) ++
  (if rk R ((placeT d x z + 1) % d.length) (x % d.length) < rk R ((placeT d x z + 1) % d.length) (z % d.length) then [] else [[placeT d x z, x, z, (placeT d x z + 1) % d.length]])
def lrefs (R : List (List Int)) (d : List Int) : List (List Int) := (lpairs d).flatMap fun q => lref R d (ix q 0) (ix q 1)
def inTrips (d ns : List Int) : Bool := decide (ns.length = 3) && decide (ns ∈ ltrips d)
def inRefs (R : List (List Int)) (d ns : List Int) : Bool := decide (ns.length = 4) && (decide (ltrips d = []) && decide (ns ∈ lrefs R d))
theorem llater_len (d : List Int) (c : Int) : (llater d c).length ≤ 2 * d.length + 1 := by
  unfold llater
  refine Nat.le_trans (List.length_filter_le _ _) ?_
  rw [rgI_len]
  exact Nat.le_refl _
theorem llater_bd {d : List Int} {c z : Int} (h : z ∈ llater d c) : c + 1 ≤ z ∧ z ≤ c + 1 + 2 * d.length := by
  unfold llater at h
  obtain ⟨h1, _⟩ := List.mem_filter.mp h
  have := rgI_mem.mp h1
  omega
theorem lpairs_mem {d q : List Int} (h : q ∈ lpairs d) : ∃ x z : Int, q = [x, z] ∧ 0 ≤ x ∧ x < d.length ∧ z ∈ llater d x := by
  unfold lpairs at h
  obtain ⟨x, hx, h2⟩ := List.mem_flatMap.mp h
  obtain ⟨z, hz, rfl⟩ := List.mem_map.mp h2
  have := List.mem_range.mp hx
  exact ⟨x, z, rfl, by omega, by omega, hz⟩
theorem flatMap_len {α β : Type} {l : List α} {f : α → List β} {b : Nat} (h : ∀ x ∈ l, (f x).length ≤ b) : (l.flatMap f).length ≤ l.length * b := by
  induction l with
  | nil => exact Nat.zero_le _
  | cons a l ih =>
    rw [List.flatMap_cons, List.length_append, List.length_cons, Nat.add_mul]
    have := h a List.mem_cons_self
    have := ih fun x hx => h x (List.mem_cons_of_mem _ hx)
    omega
theorem lpairs_len (d : List Int) : (lpairs d).length ≤ d.length * (2 * d.length + 1) := by
  have h := flatMap_len (l := List.range d.length) (f := fun (x : Nat) => (llater d x).map fun z => [(x : Int), z]) (b := 2 * d.length + 1) fun x _ => by
    rw [List.length_map]
    exact llater_len d x
  rw [List.length_range] at h
  exact h
/-- a sequence that leads to the displacements -/
def SeqFor (d fs : List Int) : Prop := ∃ s : SqS, Run d s ∧ (∀ x ∈ s.rest, x = 0) ∧ s.found = fs
def refStep (R : List (List Int)) (d q : List Int) : Option (List Int) := (refT R d (ix q 0) (ix q 1)).head?
end SW
end

section
set_option Elab.async false
set_option linter.all false
set_option maxRecDepth 100000
/-! who holds what and how far each item has moved: kept in step -/
namespace SW
structure PosOk (n : Nat) (s : List Int × List Int) : Prop where
  l1 : s.1.length = n
  l2 : s.2.length = n
  rng : ∀ x ∈ s.1, 0 ≤ x ∧ x < (n : Int)
  pos : ∀ p : Int, 0 ≤ p → p < n → (ix s.1 p + ix s.2 (ix s.1 p)) % (n : Int) = p
  at' : ∀ x : Int, 0 ≤ x → x < n → ix s.1 ((x + ix s.2 x) % (n : Int)) = x
  sum : s.2.sum = 0
theorem ix_rep (n : Nat) (x : Int) : ix (List.replicate n 0) x = 0 := by
  unfold ix
  rw [List.getD_eq_getElem?_getD, List.getElem?_replicate]
  split <;> rfl
theorem sum_rep : ∀ n : Nat, (List.replicate n (0 : Int)).sum = 0
  | 0 => rfl
  | n + 1 => by rw [List.replicate_succ, List.sum_cons, sum_rep n] <;> rfl
theorem posOk_init {n : Nat} : PosOk n (st0 n) := by
  refine ⟨rgI_len _ _, List.length_replicate, fun x h => ?_, fun p h0 h1 => ?_, fun x h0 h1 => ?_, sum_rep n⟩
  · have := rgI_mem.mp h
    omega
  · show (ix (rgI 0 n) p + ix (List.replicate n 0) _) % _ = p
    rw [ix_rep, ix_rgI h0 h1, Int.zero_add, Int.add_zero]
    exact Int.emod_eq_of_lt h0 h1
  · show ix (rgI 0 n) ((x + ix (List.replicate n 0) x) % _) = x
    rw [ix_rep, Int.add_zero, Int.emod_eq_of_lt h0 h1, ix_rgI h0 h1, Int.zero_add]
theorem sum_set : ∀ {l : List Int} {j : Nat} {v : Int} (h : j < l.length), (l.set j v).sum = l.sum - l[j] + v
  | [], j, v, h => absurd h (Nat.not_lt_zero _)
  | a :: l, 0, v, h => by
    show (v :: l).sum = (a :: l).sum - a + v
    rw [List.sum_cons, List.sum_cons]
    omega
  | a :: l, j + 1, v, h => by
    have hj : j < l.length := Nat.lt_of_succ_lt_succ h
    have ih := sum_set (l := l) (j := j) (v := v) hj
    show (a :: l.set j v).sum = (a :: l).sum - l[j] + v
    rw [List.sum_cons, List.sum_cons, ih]
    omega
theorem ix_getE {l : List Int} {i : Int} (h0 : 0 ≤ i) (h1 : i < l.length) : ∃ h : i.toNat < l.length, ix l i = l[i.toNat] := by
  have h : i.toNat < l.length := by omega
  refine ⟨h, ?_⟩
  unfold ix
  rw [List.getD_eq_getElem?_getD, List.getElem?_eq_getElem h] <;> rfl
theorem sum_setI {l : List Int} {i v : Int} (h0 : 0 ≤ i) (h1 : i < l.length) : (setI l i v).sum = l.sum - ix l i + v := by
  obtain ⟨h, e⟩ := ix_getE h0 h1
  rw [e]
  exact sum_set h
theorem em_add1 {a n p : Int} (h : a % n = p) : (a + 1) % n = (p + 1) % n := by rw [← h, Int.emod_add_emod]
theorem em_sub1 {n p : Int} (h0 : 0 ≤ p) (h1 : p < n) {a : Int} (h : a % n = (p + 1) % n) : (a - 1) % n = p := by
  have e : (a - 1) % n = (a % n - 1) % n := by rw [Int.emod_sub_emod]
  rw [e, h, Int.emod_sub_emod, show p + 1 - 1 = p by omega]
  exact Int.emod_eq_of_lt h0 h1
theorem nx_ne {n : Nat} {p : Int} (h2 : 2 ≤ n) (h0 : 0 ≤ p) (h1 : p < n) : (p + 1) % (n : Int) ≠ p := by
  by_cases e : p + 1 < (n : Int)
  · rw [Int.emod_eq_of_lt (by omega) e]
    omega
  · rw [show p + 1 = (n : Int) by omega, Int.emod_self]
    omega
/-- what a step changes -/
structure StepF (n : Nat) (s t : List Int × List Int) (p q u v : Int) : Prop where
  q0 : 0 ≤ q
  q1 : q < n
  qp : q ≠ p
  u0 : 0 ≤ u
  u1 : u < n
  v0 : 0 ≤ v
  v1 : v < n
  uv : v ≠ u
  pu : (u + ix s.2 u) % (n : Int) = p
  pv : (v + ix s.2 v) % (n : Int) = q
  pu' : (u + (ix s.2 u + 1)) % (n : Int) = q
  pv' : (v + (ix s.2 v - 1)) % (n : Int) = p
  arr : ∀ r : Int, 0 ≤ r → r < n → ix t.1 r = if r = q then u else if r = p then v else ix s.1 r
  mv : ∀ x : Int, 0 ≤ x → x < n → ix t.2 x = if x = v then ix s.2 v - 1 else if x = u then ix s.2 u + 1 else ix s.2 x
theorem stepF {n : Nat} (h2 : 2 ≤ n) {s : List Int × List Int} (ok : PosOk n s) {p : Int} (h0 : 0 ≤ p) (h1 : p < n) : StepF n s (stepR n s p) p ((p + 1) % n) (ix s.1 p) (ix s.1 ((p + 1) % n)) := by
  have q0 : 0 ≤ (p + 1) % (n : Int) := Int.emod_nonneg _ (by omega)
  have q1 : (p + 1) % (n : Int) < n := Int.emod_lt_of_pos _ (by omega)
  have qp := nx_ne h2 h0 h1
  have a1 := ok.rng _ (ix_mem (A := s.1) h0 (by rw [ok.l1]; exact h1))
  have a2 := ok.rng _ (ix_mem (A := s.1) q0 (by rw [ok.l1]; exact q1))
  have pu := ok.pos p h0 h1
  have pv := ok.pos _ q0 q1
  have uv : ix s.1 ((p + 1) % (n : Int)) ≠ ix s.1 p := fun e => by
    rw [e, pu] at pv
    exact qp pv.symm
  have l1 := ok.l1
  have l2 := ok.l2
  refine ⟨q0, q1, qp, a1.1, a1.2, a2.1, a2.2, uv, pu, pv, ?_, ?_, fun r r0 r1 => ?_, fun x x0 x1 => ?_⟩
  · rw [← Int.add_assoc]
    exact em_add1 pu
  · rw [← Int.add_sub_assoc]
    exact em_sub1 h0 h1 pv
  · show ix (setI (setI s.1 p _) _ _) r = _
    rw [ix_setI q0 r0 (by rw [setI_len]; omega), ix_setI h0 r0 (by omega)]
  · show ix (setI (setI s.2 _ _) _ _) x = _
    rw [ix_setI a2.1 x0 (by rw [setI_len]; omega), ix_setI a1.1 a2.1 (by omega), if_neg uv, ix_setI a1.1 x0 (by omega)]
theorem posOk_step {n : Nat} (h3 : 3 ≤ n) {s : List Int × List Int} (ok : PosOk n s) {p : Int} (h0 : 0 ≤ p) (h1 : p < n) : PosOk n (stepR n s p) := by
  have F := stepF (by omega) ok h0 h1
  obtain ⟨k1, k2, k3⟩ := stepR_ok h3 ok.l1 ok.l2 ok.rng h0 h1
  have F' := F
  generalize ix s.1 ((p + 1) % (n : Int)) = v at F
  generalize hu : ix s.1 p = u at F
  generalize (p + 1) % (n : Int) = q at F
  refine ⟨k1, k2, k3, fun r r0 r1 => ?_, fun x x0 x1 => ?_, ?_⟩
  · rw [F.arr r r0 r1]
    by_cases e1 : r = q
    · rw [if_pos e1, F.mv u F.u0 F.u1, if_neg (Ne.symm F.uv), if_pos rfl, F.pu', e1]
    · rw [if_neg e1]
      by_cases e2 : r = p
      · rw [if_pos e2, F.mv v F.v0 F.v1, if_pos rfl, F.pv', e2]
      · rw [if_neg e2]
        have hr := ok.rng _ (ix_mem (A := s.1) r0 (by rw [ok.l1]; exact r1))
        have pr := ok.pos r r0 r1
        rw [F.mv _ hr.1 hr.2, if_neg (fun e => e1 (by rw [e, F.pv] at pr; exact pr.symm)), if_neg (fun e => e2 (by rw [e, F.pu] at pr; exact pr.symm)), pr]
  · rw [F.mv x x0 x1]
    by_cases e1 : x = v
    · rw [if_pos e1, e1, F.pv', F.arr p h0 h1, if_neg (Ne.symm F.qp), if_pos rfl]
    · rw [if_neg e1]
      by_cases e2 : x = u
      · rw [if_pos e2, e2, F.pu', F.arr q F.q0 F.q1, if_pos rfl]
      · rw [if_neg e2]
        have px := ok.at' x x0 x1
        have r0 : 0 ≤ (x + ix s.2 x) % (n : Int) := Int.emod_nonneg _ (by omega)
        have r1 : (x + ix s.2 x) % (n : Int) < n := Int.emod_lt_of_pos _ (by omega)
        have pq := ok.at' v F.v0 F.v1
        have pp := ok.at' u F.u0 F.u1
        rw [F.pv] at pq
        rw [F.pu] at pp
        rw [F.arr _ r0 r1, if_neg (fun e => e1 (by rw [e, pq] at px; exact px.symm)), if_neg (fun e => e2 (by rw [e, pp] at px; exact px.symm)), px]
  · have l2 := ok.l2
    have F := F'
    show (setI (setI s.2 _ _) _ _).sum = 0
    rw [sum_setI F.v0 (by rw [setI_len, l2]; exact F.v1), sum_setI F.u0 (by rw [l2]; exact F.u1), ok.sum]
    omega
theorem disp_posOk {n : Nat} (h3 : 3 ≤ n) (h20 : n ≤ 20) {s : List Int × List Int} (ok : PosOk n s) (hb : ∀ x ∈ s.2, -(n : Int) < x ∧ x < n) : DispOk s.2 := by
  have l2 := ok.l2
  refine ⟨by omega, by omega, fun x hx => by rw [l2]; exact hb x hx, ok.sum, ?_⟩
  rw [l2]
  refine List.pairwise_iff_getElem.mpr fun i j hi hj hij e => ?_
  simp only [List.length_map, List.length_range] at hi hj
  simp only [List.getElem_map, List.getElem_range] at e
  have a := ok.at' i (by omega) (by omega)
  have b := ok.at' j (by omega) (by omega)
  have e : ((i : Int) + ix s.2 (i : Int)) % (n : Int) = ((j : Int) + ix s.2 (j : Int)) % (n : Int) := e
  rw [e, b] at a
  omega
/-! ### a walk of the law: who has held what -/
def hix (h : List (List Int)) (p : Int) : List Int := h.getD p.toNat []
def happ (h : List (List Int)) (p x : Int) : List (List Int) := h.set p.toNat (hix h p ++ [x])
structure HeldOk (n : Nat) (h : List (List Int)) (s : List Int × List Int) : Prop where
  len : h.length = n
  nd : ∀ l ∈ h, l.Nodup
  rng : ∀ l ∈ h, ∀ x ∈ l, 0 ≤ x ∧ x < (n : Int)
  inn : ∀ x j : Int, 0 ≤ x → x < n → ((0 ≤ j ∧ j ≤ ix s.2 x) ∨ (ix s.2 x ≤ j ∧ j ≤ 0)) → x ∈ hix h ((x + j) % n)
  bd : ∀ x : Int, 0 ≤ x → x < n → -(n : Int) < ix s.2 x ∧ ix s.2 x < n
theorem hix_mem {h : List (List Int)} {p : Int} (h0 : 0 ≤ p) (h1 : p < h.length) : hix h p ∈ h := by
  have hl : p.toNat < h.length := by omega
  unfold hix
  rw [List.getD_eq_getElem?_getD, List.getElem?_eq_getElem hl]
  exact List.getElem_mem hl
theorem hix_happ {h : List (List Int)} {p q x : Int} (h0 : 0 ≤ p) (h1 : p < h.length) (h2 : 0 ≤ q) : hix (happ h p x) q = if q = p then hix h p ++ [x] else hix h q := by
  show (happ h p x).getD q.toNat [] = if q = p then hix h p ++ [x] else h.getD q.toNat []
  unfold happ
  rw [List.getD_eq_getElem?_getD, List.getD_eq_getElem?_getD]
  by_cases e : q = p
  · subst e
    rw [if_pos rfl, List.getElem?_set_self (by omega)] <;> rfl
  · rw [if_neg e, List.getElem?_set_ne (by omega)]
theorem happ_mem {h : List (List Int)} {p q x y : Int} (h0 : 0 ≤ p) (h1 : p < h.length) (h2 : 0 ≤ q) (hy : y ∈ hix h q) : y ∈ hix (happ h p x) q := by
  rw [hix_happ h0 h1 h2]
  split
  · rename_i e
    subst e
    exact List.mem_append_left _ hy
  · exact hy
theorem happ_in {h : List (List Int)} {p x : Int} {l : List Int} (hl : l ∈ happ h p x) : l ∈ h ∨ l = hix h p ++ [x] := List.mem_or_eq_of_mem_set hl
theorem heldOk_step {n : Nat} (h3 : 3 ≤ n) {h : List (List Int)} {s : List Int × List Int} (ok : PosOk n s) (hk : HeldOk n h s) {p : Int} (h0 : 0 ≤ p) (h1 : p < n)
    (c1 : 0 ≤ ix s.2 (ix s.1 p)) (c2 : ix s.2 (ix s.1 ((p + 1) % n)) ≤ 0) (c3 : ix s.1 ((p + 1) % n) ∉ hix h p) (c4 : ix s.1 p ∉ hix h ((p + 1) % n)) :
    HeldOk n (happ (happ h p (ix s.1 ((p + 1) % n))) ((p + 1) % n) (ix s.1 p)) (stepR n s p) := by
  have F := stepF (by omega) ok h0 h1
  generalize ix s.1 ((p + 1) % (n : Int)) = v at F c2 c3 ⊢
  generalize ix s.1 p = u at F c1 c4 ⊢
  generalize (p + 1) % (n : Int) = q at F c4 ⊢
  have hl := hk.len
  have p1 : p < h.length := by omega
  have hl2 : (happ h p v).length = n := by unfold happ; rw [List.length_set]; exact hl
  have q1 : q < (happ h p v).length := by have := F.q1; omega
  have hq : hix (happ h p v) q = hix h q := by rw [hix_happ h0 p1 F.q0, if_neg F.qp]
  have up : ∀ {r y : Int}, 0 ≤ r → y ∈ hix h r → y ∈ hix (happ (happ h p v) q u) r := fun r0 hy => happ_mem F.q0 q1 r0 (happ_mem h0 p1 r0 hy)
  have hp' : v ∈ hix (happ (happ h p v) q u) p := by
    refine happ_mem F.q0 q1 h0 ?_
    rw [hix_happ h0 p1 h0, if_pos rfl]
    exact List.mem_append_right _ List.mem_cons_self
  have hq' : u ∈ hix (happ (happ h p v) q u) q := by
    rw [hix_happ F.q0 q1 F.q0, if_pos rfl]
    exact List.mem_append_right _ List.mem_cons_self
  have bu : ix s.2 u + 1 < n := by
    have b := (hk.bd u F.u0 F.u1).2
    rcases Int.lt_or_le (ix s.2 u + 1) n with z | z
    · exact z
    · exfalso
      have e := F.pu'
      rw [show ix s.2 u + 1 = (n : Int) by omega, Int.add_emod_right, Int.emod_eq_of_lt F.u0 F.u1] at e
      have m := hk.inn u 0 F.u0 F.u1 (.inl ⟨Int.le_refl _, c1⟩)
      rw [Int.add_zero, Int.emod_eq_of_lt F.u0 F.u1, e] at m
      exact c4 (by rw [e]; exact m)
  have bv : -(n : Int) < ix s.2 v - 1 := by
    have b := (hk.bd v F.v0 F.v1).1
    rcases Int.lt_or_le (-(n : Int)) (ix s.2 v - 1) with z | z
    · exact z
    · exfalso
      have e := F.pv'
      rw [show v + (ix s.2 v - 1) = v - n by omega, Int.sub_emod_right, Int.emod_eq_of_lt F.v0 F.v1] at e
      have m := hk.inn v 0 F.v0 F.v1 (.inr ⟨c2, Int.le_refl _⟩)
      rw [Int.add_zero, Int.emod_eq_of_lt F.v0 F.v1, e] at m
      exact c3 (by rw [e]; exact m)
  refine ⟨by unfold happ; rw [List.length_set, List.length_set]; exact hl, fun l hm => ?_, fun l hm x hx => ?_, fun x j x0 x1 hj => ?_, fun x x0 x1 => ?_⟩
  · rcases happ_in hm with hm | rfl
    · rcases happ_in hm with hm | rfl
      · exact hk.nd _ hm
      · refine List.nodup_append.mpr ⟨hk.nd _ (hix_mem h0 p1), by simp, fun a ha b hb e => ?_⟩
        rw [List.mem_singleton.mp hb] at e
        exact c3 (e ▸ ha)
    · rw [hq]
      refine List.nodup_append.mpr ⟨hk.nd _ (hix_mem F.q0 (by have := F.q1; omega)), by simp, fun a ha b hb e => ?_⟩
      rw [List.mem_singleton.mp hb] at e
      exact c4 (e ▸ ha)
  · rcases happ_in hm with hm | rfl
    · rcases happ_in hm with hm | rfl
      · exact hk.rng _ hm x hx
      · rcases List.mem_append.mp hx with hx | hx
        · exact hk.rng _ (hix_mem h0 p1) x hx
        · rw [List.mem_singleton.mp hx]
          exact ⟨F.v0, F.v1⟩
    · rw [hq] at hx
      rcases List.mem_append.mp hx with hx | hx
      · exact hk.rng _ (hix_mem F.q0 (by have := F.q1; omega)) x hx
      · rw [List.mem_singleton.mp hx]
        exact ⟨F.u0, F.u1⟩
  · rw [F.mv x x0 x1] at hj
    have r0 : 0 ≤ (x + j) % (n : Int) := Int.emod_nonneg _ (by omega)
    by_cases e1 : x = v
    · subst e1
      rw [if_pos rfl] at hj
      by_cases e : j = ix s.2 x - 1
      · rw [e, F.pv']
        exact hp'
      · exact up r0 (hk.inn x j x0 x1 (by omega))
    · rw [if_neg e1] at hj
      by_cases e2 : x = u
      · subst e2
        rw [if_pos rfl] at hj
        by_cases e : j = ix s.2 x + 1
        · rw [e, F.pu']
          exact hq'
        · exact up r0 (hk.inn x j x0 x1 (by omega))
      · rw [if_neg e2] at hj
        exact up r0 (hk.inn x j x0 x1 hj)
  · rw [F.mv x x0 x1]
    have b := hk.bd x x0 x1
    split
    · have := (hk.bd v F.v0 F.v1).2; omega
    · split
      · have := (hk.bd u F.u0 F.u1).1; omega
      · exact b
def hd0 (n : Nat) : List (List Int) := (List.range n).map fun (i : Nat) => [(i : Int)]
theorem heldOk_init {n : Nat} (h1 : 0 < n) : HeldOk n (hd0 n) (st0 n) := by
  refine ⟨by unfold hd0; rw [List.length_map, List.length_range], fun l hl => ?_, fun l hl x hx => ?_, fun x j x0 x1 hj => ?_, fun x x0 x1 => ?_⟩
  · obtain ⟨i, _, rfl⟩ := List.mem_map.mp hl
    simp
  · obtain ⟨i, hi, rfl⟩ := List.mem_map.mp hl
    have := List.mem_range.mp hi
    rw [List.mem_singleton.mp hx]
    omega
  · have z : ix (st0 n).2 x = 0 := ix_rep n x
    rw [z] at hj
    rw [show j = 0 by omega, Int.add_zero, Int.emod_eq_of_lt x0 x1]
    unfold hix hd0
    rw [List.getD_eq_getElem?_getD, List.getElem?_map, List.getElem?_range (by omega)]
    show x ∈ [((x.toNat : Nat) : Int)]
    rw [List.mem_singleton]
    omega
  · have z : ix (st0 n).2 x = 0 := ix_rep n x
    omega
end SW
end

section
set_option Elab.async false
set_option linter.all false
set_option maxRecDepth 100000
/-! ends of copies, inversions, triples, refusals -/
namespace SW
theorem ix_bd {d : List Int} (od : DispOk d) {r : Int} (h0 : 0 ≤ r) (h1 : r < d.length) : -(d.length : Int) < ix d r ∧ ix d r < d.length := od.rng _ (ix_mem h0 h1)
theorem mod_bd {n : Nat} (h : 0 < n) (u : Int) : 0 ≤ u % (n : Int) ∧ u % (n : Int) < n := ⟨Int.emod_nonneg _ (by omega), Int.emod_lt_of_pos _ (by omega)⟩
theorem eoc_bd {d : List Int} (od : DispOk d) (u : Int) : u - d.length < eoc d u ∧ eoc d u < u + d.length := by
  have hl := od.lo
  have m := mod_bd (n := d.length) (by omega) u
  have b := ix_bd od m.1 m.2
  unfold eoc
  omega
theorem eoc_per (d : List Int) (u k : Int) : eoc d (u + d.length * k) = eoc d u + d.length * k := by
  unfold eoc
  rw [Int.add_mul_emod_self_left]
  omega
theorem eoc_inj {d : List Int} (od : DispOk d) {u v : Int} (h : eoc d u = eoc d v) : u = v := by
  have hl := od.lo
  have mu' := mod_bd (n := d.length) (by omega) u
  have mv := mod_bd (n := d.length) (by omega) v
  have e1 : ∀ w : Int, (w % (d.length : Int) + ix d (w % (d.length : Int))) % (d.length : Int) = eoc d w % (d.length : Int) := fun w => by
    unfold eoc
    rw [Int.emod_add_emod]
  have key : ∀ i j : Nat, i < d.length → j < d.length → ((i : Int) + d.getD i 0) % (d.length : Int) = ((j : Int) + d.getD j 0) % (d.length : Int) → i = j := fun i j hi hj e => by
    have p := List.pairwise_iff_getElem.mp od.inj
    rcases Nat.lt_trichotomy i j with z | z | z
    · have q := p i j (by rw [List.length_map, List.length_range]; exact hi) (by rw [List.length_map, List.length_range]; exact hj) z
      simp only [List.getElem_map, List.getElem_range] at q
      exact absurd e q
    · exact z
    · have q := p j i (by rw [List.length_map, List.length_range]; exact hj) (by rw [List.length_map, List.length_range]; exact hi) z
      simp only [List.getElem_map, List.getElem_range] at q
      exact absurd e.symm q
  have ru : u % (d.length : Int) = v % (d.length : Int) := by
    have z := key (u % (d.length : Int)).toNat (v % (d.length : Int)).toNat (by omega) (by omega) (by
      have a := e1 u
      have b := e1 v
      rw [h] at a
      have c := a.trans b.symm
      unfold ix at c
      rw [show (((u % (d.length : Int)).toNat : Nat) : Int) = u % (d.length : Int) by omega, show (((v % (d.length : Int)).toNat : Nat) : Int) = v % (d.length : Int) by omega]
      exact c)
    omega
  unfold eoc at h
  rw [ru] at h
  omega
theorem mem_later {d : List Int} (od : DispOk d) {c z : Int} : z ∈ later d c ↔ c < z ∧ eoc d z < eoc d c := by
  have hl := od.lo
  unfold later
  rw [List.mem_filter, rgI_mem, decide_eq_true_eq]
  have b1 := eoc_bd od c
  have b2 := eoc_bd od z
  constructor
  · rintro ⟨⟨h1, h2⟩, h3⟩
    exact ⟨by omega, h3⟩
  · rintro ⟨h1, h2⟩
    exact ⟨⟨by omega, by omega⟩, h2⟩
theorem llater_eq {d : List Int} (od : DispOk d) (c : Int) : llater d c = later d c := by
  have hl := od.lo
  unfold llater later
  have e : rgI (c + 1) (2 * d.length + 1) = rgI (c + 1) (2 * d.length - 2) ++ rgI (c + 1 + ((2 * d.length - 2 : Nat) : Int)) 3 := by
    unfold rgI
    rw [show 2 * d.length + 1 = (2 * d.length - 2) + 3 by omega, List.range_add, List.map_append, List.map_map]
    congr 1
    refine List.map_congr_left fun i _ => ?_
    show c + 1 + (((2 * d.length - 2) + i : Nat) : Int) = c + 1 + ((2 * d.length - 2 : Nat) : Int) + (i : Int)
    omega
  rw [e, List.filter_append]
  have e2 : (rgI (c + 1 + ((2 * d.length - 2 : Nat) : Int)) 3).filter (fun o => decide (eoc d o < eoc d c)) = [] := by
    refine List.filter_eq_nil_iff.mpr fun o ho => ?_
    have := rgI_mem.mp ho
    have b1 := eoc_bd od c
    have b2 := eoc_bd od o
    rw [decide_eq_true_eq]
    omega
  rw [e2, List.append_nil]
theorem lpairs_eq {d : List Int} (od : DispOk d) : lpairs d = invs d := by
  unfold lpairs invs
  exact congrArg (fun f => (List.range d.length).flatMap f) (funext fun (x : Nat) => by rw [llater_eq od])
theorem mem_invs {d : List Int} (od : DispOk d) {x z : Int} : [x, z] ∈ invs d ↔ (0 ≤ x ∧ x < d.length) ∧ x < z ∧ eoc d z < eoc d x := by
  constructor
  · intro h
    obtain ⟨x', z', e, h1, h2, h3⟩ := invs_mem h
    injection e with e1 e2
    injection e2 with e2 _
    subst e1 e2
    exact ⟨⟨h1, h2⟩, (mem_later od).mp h3⟩
  · rintro ⟨⟨h1, h2⟩, h3⟩
    unfold invs
    refine List.mem_flatMap.mpr ⟨x.toNat, List.mem_range.mpr (by omega), List.mem_map.mpr ⟨z, ?_, ?_⟩⟩
    · rw [show ((x.toNat : Nat) : Int) = x by omega]
      exact (mem_later od).mpr h3
    · rw [show ((x.toNat : Nat) : Int) = x by omega]
theorem trip_none {d : List Int} : tripT d = none ↔ ∀ q ∈ invs d, later d (ix q 1) = [] := by
  unfold tripT
  rw [List.findSome?_eq_none_iff]
  refine ⟨fun h q hq => ?_, fun h q hq => ?_⟩
  · have z := h q hq
    unfold trStep at z
    split at z
    · assumption
    · cases z
  · unfold trStep
    rw [if_pos (h q hq)]
theorem ltrips_nil {d : List Int} (od : DispOk d) : ltrips d = [] ↔ tripT d = none := by
  rw [trip_none]
  unfold ltrips
  rw [List.flatMap_eq_nil_iff, lpairs_eq od]
  exact forall_congr' fun q => forall_congr' fun _ => by rw [List.map_eq_nil_iff, llater_eq od]
theorem mem_ltrips {d : List Int} (od : DispOk d) {x y z : Int} : [x, y, z] ∈ ltrips d ↔ (0 ≤ x ∧ x < d.length) ∧ (x < y ∧ y < z) ∧ eoc d y < eoc d x ∧ eoc d z < eoc d y := by
  unfold ltrips
  rw [List.mem_flatMap]
  constructor
  · rintro ⟨q, hq, h⟩
    rw [lpairs_eq od] at hq
    obtain ⟨x', y', e, h1, h2, h3⟩ := invs_mem hq
    obtain ⟨z', hz, e2⟩ := List.mem_map.mp h
    rw [llater_eq od] at hz
    subst e
    have e3 : [x', y', z'] = [x, y, z] := e2
    injection e3 with a1 e3
    injection e3 with a2 e3
    injection e3 with a3 _
    subst a1 a2 a3
    have p := (mem_later od).mp h3
    have r := (mem_later od).mp (show z' ∈ later d y' from hz)
    exact ⟨⟨h1, h2⟩, ⟨p.1, r.1⟩, p.2, r.2⟩
  · rintro ⟨h1, h2, h3, h4⟩
    refine ⟨[x, y], by rw [lpairs_eq od]; exact (mem_invs od).mpr ⟨h1, h2.1, h3⟩, List.mem_map.mpr ⟨z, ?_, rfl⟩⟩
    rw [llater_eq od]
    exact (mem_later od).mpr ⟨h2.2, h4⟩
theorem trips_eq {d ns : List Int} (od : DispOk d) : inTrips d ns = isTripT d ns := by
  unfold inTrips isTripT
  by_cases h : ns.length = 3
  · match ns, h with
    | [x, y, z], _ => ?_
    rw [Bool.eq_iff_iff]
    simp only [Bool.and_eq_true, decide_eq_true_eq, mem_ltrips od]
    show _ ↔ (_ ∧ 0 ≤ x ∧ x < (d.length : Int)) ∧ (x < y ∧ y < z) ∧ eoc d y < eoc d x ∧ eoc d z < eoc d y
    constructor
    · rintro ⟨a, b, c, e⟩
      exact ⟨⟨a, b⟩, c, e⟩
    · rintro ⟨⟨a, b⟩, c, e⟩
      exact ⟨a, b, c, e⟩
  · rw [decide_eq_false h]
    rfl
theorem trip_good {d t : List Int} (od : DispOk d) (h : tripT d = some t) : isTripT d t = true := by
  unfold tripT at h
  obtain ⟨q, hq, hs⟩ := List.exists_of_findSome?_eq_some h
  obtain ⟨x, y, e, h1, h2, h3⟩ := invs_mem hq
  subst e
  unfold trStep at hs
  split at hs
  · cases hs
  · rename_i hne
    have e := (Option.some.inj hs).symm
    subst e
    have hm : ix (later d (ix [x, y] 1)) 0 ∈ later d (ix [x, y] 1) := ix_mem (Int.le_refl _) (by have := List.length_pos_iff.mpr hne; omega)
    rw [← trips_eq od]
    unfold inTrips
    rw [Bool.and_eq_true, decide_eq_true_eq, decide_eq_true_eq]
    refine ⟨rfl, (mem_ltrips od).mpr ?_⟩
    have p := (mem_later od).mp h3
    have r := (mem_later od).mp hm
    exact ⟨⟨h1, h2⟩, ⟨p.1, r.1⟩, p.2, r.2⟩
/-! ### refusals -/
theorem inv_res {d : List Int} (od : DispOk d) {x z : Int} (h1 : x < z) (h2 : eoc d z < eoc d x) : x % (d.length : Int) ≠ z % (d.length : Int) := fun e => by
  have hl := od.lo
  have ex := Int.mul_ediv_add_emod x (d.length : Int)
  have ez := Int.mul_ediv_add_emod z (d.length : Int)
  have hz : z = x + d.length * (z / (d.length : Int) - x / (d.length : Int)) := by
    rw [Int.mul_sub]
    omega
  have p := eoc_per d x (z / (d.length : Int) - x / (d.length : Int))
  rw [← hz] at p
  omega
theorem rk_inj {R : List (List Int)} (ok : RkOk R) {p x z : Int} (p0 : 0 ≤ p) (p1 : p < R.length) (x0 : 0 ≤ x) (x1 : x < R.length) (z0 : 0 ≤ z) (z1 : z < R.length) (h : rk R p x = rk R p z) : x = z := by
  have hl : p.toNat < R.length := by omega
  have eg : R.getD p.toNat [] = R[p.toNat] := by rw [List.getD_eq_getElem?_getD, List.getElem?_eq_getElem hl] <;> rfl
  have hm : R[p.toNat] ∈ R := List.getElem_mem hl
  have mx := List.idxOf_lt_length_iff.mpr (ok.has _ hm x x0 x1)
  have mz := List.idxOf_lt_length_iff.mpr (ok.has _ hm z z0 z1)
  unfold rk at h
  rw [eg] at h
  have e : R[p.toNat].idxOf x = R[p.toNat].idxOf z := by omega
  have e3 : R[p.toNat][R[p.toNat].idxOf x] = R[p.toNat][R[p.toNat].idxOf z] := by simp only [e]
  rw [List.getElem_idxOf, List.getElem_idxOf] at e3
  exact e3
theorem lref_eq {R : List (List Int)} {d : List Int} (ok : RkOk R) (od : DispOk d) (hl : d.length = R.length) {x z : Int} (h1 : x < z) (h2 : eoc d z < eoc d x) : lref R d x z = refT R d x z := by
  have h3 := od.lo
  have pb := placeT_bd (d := d) (by omega) x z
  have qb := mod_bd (n := d.length) (by omega) (placeT d x z + 1)
  have xb := mod_bd (n := d.length) (by omega) x
  have zb := mod_bd (n := d.length) (by omega) z
  have ne := inv_res od h1 h2
  have n1 : rk R (placeT d x z) (x % (d.length : Int)) ≠ rk R (placeT d x z) (z % (d.length : Int)) := fun e => ne (rk_inj ok pb.1 (by omega) xb.1 (by omega) zb.1 (by omega) e)
  have n2 : rk R ((placeT d x z + 1) % (d.length : Int)) (x % (d.length : Int)) ≠ rk R ((placeT d x z + 1) % (d.length : Int)) (z % (d.length : Int)) := fun e => ne (rk_inj ok qb.1 (by omega) xb.1 (by omega) zb.1 (by omega) e)
  unfold lref refT
  congr 1
  · split <;> split <;> first | rfl | omega
  · split <;> split <;> first | rfl | omega
theorem lrefs_eq {R : List (List Int)} {d : List Int} (ok : RkOk R) (od : DispOk d) (hl : d.length = R.length) : lrefs R d = (invs d).flatMap fun q => refT R d (ix q 0) (ix q 1) := by
  unfold lrefs
  rw [lpairs_eq od]
  have aux : ∀ l : List (List Int), (∀ q ∈ l, q ∈ invs d) → (l.flatMap fun q => lref R d (ix q 0) (ix q 1)) = l.flatMap fun q => refT R d (ix q 0) (ix q 1) := by
    intro l
    induction l with
    | nil => intro _; rfl
    | cons q l ih =>
      intro h
      rw [List.flatMap_cons, List.flatMap_cons, ih fun r hr => h r (List.mem_cons_of_mem _ hr)]
      obtain ⟨x, z, e, _, _, h3⟩ := invs_mem (h q List.mem_cons_self)
      subst e
      have p := (mem_later od).mp h3
      rw [show ix [x, z] 0 = x from rfl, show ix [x, z] 1 = z from rfl, lref_eq ok od hl p.1 p.2]
  exact aux _ fun _ h => h
theorem lrefs_nil {R : List (List Int)} {d : List Int} (ok : RkOk R) (od : DispOk d) (hl : d.length = R.length) : lrefs R d = [] ↔ (invs d).findSome? (refStep R d) = none := by
  rw [lrefs_eq ok od hl, List.flatMap_eq_nil_iff, List.findSome?_eq_none_iff]
  exact forall_congr' fun q => forall_congr' fun _ => by unfold refStep; rw [List.head?_eq_none_iff]
theorem refT_shape {R : List (List Int)} {d t : List Int} {x z : Int} (h : t ∈ refT R d x z) : t.length = 4 ∧ ix t 1 = x ∧ ix t 2 = z := by
  unfold refT at h
  rcases List.mem_append.mp h with h | h
  · split at h
    · rw [List.mem_singleton.mp h]; exact ⟨rfl, rfl, rfl⟩
    · cases h
  · split at h
    · rw [List.mem_singleton.mp h]; exact ⟨rfl, rfl, rfl⟩
    · cases h
theorem refs_eq {R : List (List Int)} {d ns : List Int} (ok : RkOk R) (od : DispOk d) (hl : d.length = R.length) : inRefs R d ns = isRefT R d ns := by
  unfold inRefs isRefT
  rw [Bool.eq_iff_iff]
  simp only [Bool.and_eq_true, decide_eq_true_eq, Option.isNone_iff_eq_none, ltrips_nil od, lrefs_eq ok od hl, List.mem_flatMap]
  constructor
  · rintro ⟨h1, h2, q, hq, h3⟩
    obtain ⟨x, z, e, _, _, h4⟩ := invs_mem hq
    subst e
    obtain ⟨_, e1, e2⟩ := refT_shape h3
    have e1 : ix ns 1 = x := e1
    have e2 : ix ns 2 = z := e2
    rw [e1, e2]
    exact ⟨⟨⟨h2, h1⟩, hq⟩, h3⟩
  · rintro ⟨⟨⟨h2, h1⟩, hq⟩, h3⟩
    exact ⟨h1, h2, _, hq, h3⟩
theorem ref_good {R : List (List Int)} {d t : List Int} (ok : RkOk R) (od : DispOk d) (hl : d.length = R.length) (no : tripT d = none) (h : (invs d).findSome? (refStep R d) = some t) : isRefT R d t = true := by
  obtain ⟨q, hq, hs⟩ := List.exists_of_findSome?_eq_some h
  have hm : t ∈ refT R d (ix q 0) (ix q 1) := by
    unfold refStep at hs
    exact List.mem_of_head? hs
  obtain ⟨l, e1, e2⟩ := refT_shape hm
  obtain ⟨x, z, e, _, _, h4⟩ := invs_mem hq
  subst e
  have e1 : ix t 1 = x := e1
  have e2 : ix t 2 = z := e2
  unfold isRefT
  simp only [Bool.and_eq_true, decide_eq_true_eq, Option.isNone_iff_eq_none]
  rw [e1, e2]
  exact ⟨⟨⟨no, l⟩, hq⟩, hm⟩
end SW
end

section
set_option Elab.async false
set_option linter.all false
set_option maxRecDepth 100000
/-! counting: how far an item moves is the number of those that it passes -/
namespace SW
theorem nd_leI {α : Type} [DecidableEq α] : ∀ {l m : List α}, l.Nodup → (∀ x ∈ l, x ∈ m) → l.length ≤ m.length
  | [], m, _, _ => Nat.zero_le _
  | a :: l, m, h, hs => by
    obtain ⟨h1, h2⟩ := List.nodup_cons.mp h
    have ha : a ∈ m := hs a List.mem_cons_self
    have h3 : l.length ≤ (m.erase a).length := nd_leI h2 fun x hx => by
      have hne : x ≠ a := fun e => h1 (e ▸ hx)
      exact (List.mem_erase_of_ne hne).mpr (hs x (List.mem_cons_of_mem _ hx))
    have h4 : (m.erase a).length = m.length - 1 := List.length_erase_of_mem ha
    have h5 : 0 < m.length := List.length_pos_of_mem ha
    rw [List.length_cons]
    omega
theorem perm_subI {α : Type} [DecidableEq α] {l m : List α} (h1 : l.Nodup) (h2 : m.Nodup) (hs : ∀ x ∈ l, x ∈ m) (hl : m.length ≤ l.length) : l.Perm m := by
  refine (List.perm_ext_iff_of_nodup h1 h2).mpr fun x => ⟨hs x, fun hx => ?_⟩
  by_cases h : x ∈ l
  · exact h
  · have z := nd_leI (l := x :: l) (m := m) (List.nodup_cons.mpr ⟨h, h1⟩) fun y hy => by
      rcases List.mem_cons.mp hy with rfl | hy
      · exact hx
      · exact hs y hy
    rw [List.length_cons] at z
    omega
theorem sum_perm {l m : List Int} (h : l.Perm m) : l.sum = m.sum := by
  induction h with
  | nil => rfl
  | cons x _ ih => rw [List.sum_cons, List.sum_cons, ih]
  | swap x y l => rw [List.sum_cons, List.sum_cons, List.sum_cons, List.sum_cons]; omega
  | trans _ _ a b => exact a.trans b
theorem rgI_ndp (a : Int) (n : Nat) : (rgI a n).Nodup := by
  unfold rgI
  refine List.pairwise_iff_getElem.mpr fun i j hi hj hij e => ?_
  simp at e
  omega
theorem rgI_app (a : Int) (n m : Nat) : rgI a (n + m) = rgI a n ++ rgI (a + n) m := by
  unfold rgI
  rw [List.range_add, List.map_append, List.map_map]
  congr 1
  refine List.map_congr_left fun i _ => ?_
  show a + ((n + i : Nat) : Int) = a + (n : Int) + (i : Int)
  omega
theorem rgI_sh (a b : Int) (n : Nat) : rgI (a + b) n = (rgI a n).map (· + b) := by
  unfold rgI
  rw [List.map_map]
  refine List.map_congr_left fun i _ => ?_
  show a + b + (i : Int) = a + (i : Int) + b
  omega
/-- a map that takes different residues, over a whole round -/
theorem round_perm {n : Nat} (h0 : 0 < n) (a : Int) (f : Int → Int) (hf : ∀ u v : Int, a ≤ u → u < a + n → a ≤ v → v < a + n → f u % (n : Int) = f v % (n : Int) → u = v) : ((rgI a n).map fun z => f z % (n : Int)).Perm (rgI 0 n) := by
  refine perm_subI ?_ (rgI_ndp 0 n) (fun x hx => ?_) ?_
  · have p := rgI_ndp a n
    refine List.Pairwise.map _ ?_ ?_ (R := fun u v => u ∈ rgI a n ∧ v ∈ rgI a n ∧ u ≠ v) (l := rgI a n)
    · rintro u v ⟨hu, hv, hne⟩ e
      have := rgI_mem.mp hu
      have := rgI_mem.mp hv
      exact hne (hf u v (by omega) (by omega) (by omega) (by omega) e)
    · exact List.Pairwise.imp_of_mem (fun hu hv h => ⟨hu, hv, h⟩) p
  · obtain ⟨z, _, rfl⟩ := List.mem_map.mp hx
    have := mod_bd h0 (f z)
    exact rgI_mem.mpr (by omega)
  · rw [List.length_map, rgI_len, rgI_len]
    exact Nat.le_refl _
theorem sum_addI {α : Type} (l : List α) (f g : α → Int) : (l.map fun x => f x + g x).sum = (l.map f).sum + (l.map g).sum := by
  induction l with
  | nil => rfl
  | cons a l ih => rw [List.map_cons, List.map_cons, List.map_cons, List.sum_cons, List.sum_cons, List.sum_cons, ih]; omega
theorem sum_cI {α : Type} (l : List α) (c : Int) : (l.map fun _ => c).sum = l.length * c := by
  induction l with
  | nil => simp
  | cons a l ih => rw [List.map_cons, List.sum_cons, ih, List.length_cons]; show c + _ = ((l.length + 1 : Nat) : Int) * c; rw [Int.natCast_add, Int.add_mul]; omega
theorem sum_mulI {α : Type} (l : List α) (c : Int) (f : α → Int) : (l.map fun x => c * f x).sum = c * (l.map f).sum := by
  induction l with
  | nil => simp
  | cons a l ih => rw [List.map_cons, List.map_cons, List.sum_cons, List.sum_cons, ih, Int.mul_add]
/-- one, if so -/
def one (b : Bool) : Int := if b = true then 1 else 0
theorem len_filter {α : Type} (l : List α) (p : α → Bool) : ((l.filter p).length : Int) = (l.map fun x => one (p x)).sum := by
  induction l with
  | nil => rfl
  | cons a l ih =>
    rw [List.filter_cons, List.map_cons, List.sum_cons, ← ih]
    unfold one
    split
    · rw [List.length_cons]; omega
    · omega
theorem sum_ix (d : List Int) : ((rgI 0 d.length).map fun r => ix d r).sum = d.sum := by
  congr 1
  refine List.ext_getElem (by rw [List.length_map, rgI_len]) fun i h1 h2 => ?_
  rw [List.getElem_map]
  have e : (rgI 0 d.length)[i]'(by rw [rgI_len]; exact h2) = (i : Int) := by
    unfold rgI
    rw [List.getElem_map, List.getElem_range]
    omega
  rw [e]
  unfold ix
  rw [List.getD_eq_getElem?_getD, Int.toNat_natCast, List.getElem?_eq_getElem h2] <;> rfl
/-- the sums over a round -/
theorem round_d {d : List Int} (od : DispOk d) (a : Int) : ((rgI a d.length).map fun z => ix d (z % (d.length : Int))).sum = 0 := by
  have hl := od.lo
  have p := round_perm (n := d.length) (by omega) a (fun z => z) fun u v a1 a2 b1 b2 e => by
    have eu := Int.mul_ediv_add_emod u (d.length : Int)
    have ev := Int.mul_ediv_add_emod v (d.length : Int)
    have e : u % (d.length : Int) = v % (d.length : Int) := e
    have h : u = v + d.length * (u / (d.length : Int) - v / (d.length : Int)) := by
      rw [Int.mul_sub]
      omega
    rcases Int.lt_trichotomy (u / (d.length : Int) - v / (d.length : Int)) 0 with z | z | z
    · have : (d.length : Int) * (u / (d.length : Int) - v / (d.length : Int)) ≤ d.length * (-1) := Int.mul_le_mul_of_nonneg_left (by omega) (by omega)
      omega
    · rw [z, Int.mul_zero] at h
      omega
    · have : (d.length : Int) * 1 ≤ (d.length : Int) * (u / (d.length : Int) - v / (d.length : Int)) := Int.mul_le_mul_of_nonneg_left (by omega) (by omega)
      omega
  have q := p.map fun r => ix d r
  have s := sum_perm q
  rw [sum_ix, od.sum, List.map_map] at s
  exact s
theorem round_e {d : List Int} (od : DispOk d) (a c : Int) : ((rgI a d.length).map fun z => (eoc d z - c) % (d.length : Int)).sum = (rgI 0 d.length).sum := by
  have hl := od.lo
  refine sum_perm (round_perm (n := d.length) (by omega) a (fun z => eoc d z - c) fun u v a1 a2 b1 b2 e => ?_)
  have e : (eoc d u - c) % (d.length : Int) = (eoc d v - c) % (d.length : Int) := e
  have eu := Int.mul_ediv_add_emod (eoc d u - c) (d.length : Int)
  have ev := Int.mul_ediv_add_emod (eoc d v - c) (d.length : Int)
  have h : eoc d u = eoc d v + d.length * ((eoc d u - c) / (d.length : Int) - (eoc d v - c) / (d.length : Int)) := by
    rw [Int.mul_sub]
    omega
  rw [← eoc_per] at h
  have h2 := eoc_inj od h
  generalize (eoc d u - c) / (d.length : Int) - (eoc d v - c) / (d.length : Int) = k at h2
  rcases Int.lt_trichotomy k 0 with z | z | z
  · have : (d.length : Int) * k ≤ d.length * (-1) := Int.mul_le_mul_of_nonneg_left (by omega) (by omega)
    omega
  · rw [z, Int.mul_zero] at h2
    omega
  · have : (d.length : Int) * 1 ≤ (d.length : Int) * k := Int.mul_le_mul_of_nonneg_left (by omega) (by omega)
    omega
/-- four looks, a round apart -/
def four (n t : Int) : Int := one (decide (0 < t)) + one (decide (n < t)) + one (decide (2 * n < t)) + one (decide (3 * n < t))
theorem four_eq {n t : Int} (hn : 0 < n) (h1 : -n < t) (h2 : t < 4 * n + 1) : n * four n t = t + (-t) % n := by
  have m0 := Int.emod_nonneg (-t) (show n ≠ 0 by omega)
  have m1 := Int.emod_lt_of_pos (-t) hn
  have key : ∀ k : Int, (-t) % n = -t + n * k ∨ True := fun _ => .inr trivial
  have ev := Int.mul_ediv_add_emod (-t) n
  generalize hk : (-t) / n = k at ev
  unfold four one
  have hk0 : k ≤ 0 := by
    rcases Int.lt_or_le 0 k with z | z
    · have : n * 1 ≤ n * k := Int.mul_le_mul_of_nonneg_left (by omega) (by omega)
      omega
    · exact z
  have hk4 : -4 ≤ k ∨ k ≤ -5 := by omega
  rcases hk4 with hk4 | hk4
  · have h : k = 0 ∨ k = -1 ∨ k = -2 ∨ k = -3 ∨ k = -4 := by omega
    rcases h with rfl | rfl | rfl | rfl | rfl
    all_goals (simp only [decide_eq_true_eq]; split <;> split <;> split <;> split <;> omega)
  · have : n * k ≤ n * (-5) := Int.mul_le_mul_of_nonneg_left hk4 (by omega)
    omega
def before (d : List Int) (x : Int) : List Int := (rgI (x - 2 * d.length) (2 * d.length)).filter fun z => decide (eoc d x < eoc d z)
theorem mem_before {d : List Int} (od : DispOk d) {x z : Int} : z ∈ before d x ↔ z < x ∧ eoc d x < eoc d z := by
  have hl := od.lo
  unfold before
  rw [List.mem_filter, rgI_mem, decide_eq_true_eq]
  have b1 := eoc_bd od x
  have b2 := eoc_bd od z
  constructor
  · rintro ⟨⟨h1, h2⟩, h3⟩
    exact ⟨by omega, h3⟩
  · rintro ⟨h1, h2⟩
    exact ⟨⟨by omega, by omega⟩, h2⟩
theorem sum_appI (l m : List Int) : (l ++ m).sum = l.sum + m.sum := by
  induction l with
  | nil => rw [List.nil_append]; show m.sum = 0 + m.sum; omega
  | cons a l ih => rw [List.cons_append, List.sum_cons, List.sum_cons, ih]; omega
theorem sum_mapc {α : Type} {l : List α} {f g : α → Int} (h : ∀ x ∈ l, f x = g x) : (l.map f).sum = (l.map g).sum := by rw [List.map_congr_left h]
/-- how far an item moves: those that it passes less those that pass it -/
theorem star {d : List Int} (od : DispOk d) (x : Int) : ((later d x).length : Int) - (before d x).length = ix d (x % (d.length : Int)) := by
  have hl := od.lo
  have bx := eoc_bd od x
  -- the window, in four rounds
  have w4 : ((rgI (x - 2 * d.length) (4 * d.length)).map fun z => one (decide (eoc d z < eoc d x))).sum = ((rgI (x - 2 * d.length) d.length).map fun z => four d.length (eoc d x - eoc d z)).sum := by
    rw [show 4 * d.length = d.length + (d.length + (d.length + d.length)) by omega, rgI_app, rgI_app, rgI_app, List.map_append, List.map_append, List.map_append, sum_appI, sum_appI, sum_appI]
    rw [show x - 2 * (d.length : Int) + d.length + d.length + d.length = (x - 2 * d.length) + d.length * 3 by omega, show x - 2 * (d.length : Int) + d.length + d.length = (x - 2 * d.length) + d.length * 2 by omega, show x - 2 * (d.length : Int) + d.length = (x - 2 * d.length) + d.length * 1 by omega]
    rw [rgI_sh _ ((d.length : Int) * 3), rgI_sh _ ((d.length : Int) * 2), rgI_sh _ ((d.length : Int) * 1), List.map_map, List.map_map, List.map_map, ← sum_addI, ← sum_addI, ← sum_addI]
    refine sum_mapc fun z _ => ?_
    show one (decide (eoc d z < eoc d x)) + (one (decide (eoc d (z + d.length * 1) < eoc d x)) + (one (decide (eoc d (z + d.length * 2) < eoc d x)) + one (decide (eoc d (z + d.length * 3) < eoc d x)))) = _
    rw [eoc_per, eoc_per, eoc_per]
    unfold four
    rw [show decide (eoc d z < eoc d x) = decide (0 < eoc d x - eoc d z) from decide_eq_decide.mpr (by omega), show decide (eoc d z + d.length * 1 < eoc d x) = decide ((d.length : Int) < eoc d x - eoc d z) from decide_eq_decide.mpr (by omega),
      show decide (eoc d z + d.length * 2 < eoc d x) = decide (2 * (d.length : Int) < eoc d x - eoc d z) from decide_eq_decide.mpr (by omega), show decide (eoc d z + d.length * 3 < eoc d x) = decide (3 * (d.length : Int) < eoc d x - eoc d z) from decide_eq_decide.mpr (by omega)]
    omega
  have tot : ((rgI (x - 2 * d.length) d.length).map fun z => four d.length (eoc d x - eoc d z)).sum = eoc d x - (x - 2 * d.length) := by
    have e1 : (d.length : Int) * ((rgI (x - 2 * d.length) d.length).map fun z => four d.length (eoc d x - eoc d z)).sum = d.length * (eoc d x - (x - 2 * d.length)) := by
      rw [← sum_mulI]
      have e2 : ((rgI (x - 2 * d.length) d.length).map fun z => (d.length : Int) * four d.length (eoc d x - eoc d z)).sum = ((rgI (x - 2 * d.length) d.length).map fun z => (eoc d x + -(z + ix d (z % (d.length : Int)))) + (eoc d z - eoc d x) % (d.length : Int)).sum := by
        refine sum_mapc fun z hz => ?_
        have := rgI_mem.mp hz
        have bz := eoc_bd od z
        rw [four_eq (by omega) (by omega) (by omega), show -(eoc d x - eoc d z) = eoc d z - eoc d x by omega]
        rfl
      rw [e2, sum_addI, sum_addI, sum_cI, round_e od, rgI_len]
      have e3 : ((rgI (x - 2 * d.length) d.length).map fun z => -(z + ix d (z % (d.length : Int)))).sum = -(d.length * (x - 2 * d.length) + (rgI 0 d.length).sum) := by
        have e4 : ((rgI (x - 2 * d.length) d.length).map fun z => -(z + ix d (z % (d.length : Int)))).sum = -1 * ((rgI (x - 2 * d.length) d.length).map fun z => z + ix d (z % (d.length : Int))).sum := by
          rw [← sum_mulI]
          exact sum_mapc fun z _ => by omega
        rw [e4, sum_addI, round_d od]
        have e5 : ((rgI (x - 2 * d.length) d.length).map fun z => z).sum = (rgI 0 d.length).sum + d.length * (x - 2 * d.length) := by
          have h := rgI_sh 0 (x - 2 * d.length) d.length
          rw [Int.zero_add] at h
          rw [h, List.map_map]
          show ((rgI 0 d.length).map fun z => z + (x - 2 * d.length)).sum = _
          rw [sum_addI, sum_cI, rgI_len, List.map_id']
        rw [e5]
        omega
      rw [e3]
      simp only [Int.mul_sub]
      omega
    exact Int.eq_of_mul_eq_mul_left (by omega) e1
  have low : ((rgI (x - 2 * d.length) (4 * d.length)).map fun z => one (decide (eoc d z < eoc d x))).sum = 2 * d.length - (before d x).length + (later d x).length := by
    have hs : 4 * d.length = 2 * d.length + (1 + ((2 * d.length - 2) + 1)) := by omega
    rw [hs, rgI_app, rgI_app, rgI_app, List.map_append, List.map_append, List.map_append, sum_appI, sum_appI, sum_appI]
    have p1 : ((rgI (x - 2 * d.length) (2 * d.length)).map fun z => one (decide (eoc d z < eoc d x))).sum = 2 * d.length - (before d x).length := by
      have h : ((rgI (x - 2 * d.length) (2 * d.length)).map fun z => one (decide (eoc d z < eoc d x))).sum + ((rgI (x - 2 * d.length) (2 * d.length)).map fun z => one (decide (eoc d x < eoc d z))).sum = 2 * d.length := by
        rw [← sum_addI]
        have e : ((rgI (x - 2 * d.length) (2 * d.length)).map fun z => one (decide (eoc d z < eoc d x)) + one (decide (eoc d x < eoc d z))).sum = ((rgI (x - 2 * d.length) (2 * d.length)).map fun _ => (1 : Int)).sum := by
          refine sum_mapc fun z hz => ?_
          have := rgI_mem.mp hz
          have ne : eoc d z ≠ eoc d x := fun e => by have := eoc_inj od e; omega
          unfold one
          simp only [decide_eq_true_eq]
          split <;> split <;> omega
        rw [e, sum_cI, rgI_len]
        omega
      unfold before
      rw [len_filter]
      omega
    have p2 : ((rgI (x - 2 * d.length + ((2 * d.length : Nat) : Int)) 1).map fun z => one (decide (eoc d z < eoc d x))).sum = 0 := by
      rw [show x - 2 * (d.length : Int) + ((2 * d.length : Nat) : Int) = x by omega]
      show one (decide (eoc d (x + 0) < eoc d x)) + 0 = 0
      unfold one
      rw [Int.add_zero x]
      rw [decide_eq_false (by omega)]
      rfl
    have p3 : ((rgI (x - 2 * d.length + ((2 * d.length : Nat) : Int) + ((1 : Nat) : Int)) (2 * d.length - 2)).map fun z => one (decide (eoc d z < eoc d x))).sum = (later d x).length := by
      rw [show x - 2 * (d.length : Int) + ((2 * d.length : Nat) : Int) + ((1 : Nat) : Int) = x + 1 by omega, ← len_filter]
      rfl
    have p4 : ((rgI (x - 2 * d.length + ((2 * d.length : Nat) : Int) + ((1 : Nat) : Int) + ((2 * d.length - 2 : Nat) : Int)) 1).map fun z => one (decide (eoc d z < eoc d x))).sum = 0 := by
      generalize hz : x - 2 * (d.length : Int) + ((2 * d.length : Nat) : Int) + ((1 : Nat) : Int) + ((2 * d.length - 2 : Nat) : Int) = z
      have bz := eoc_bd od z
      show one (decide (eoc d (z + 0) < eoc d x)) + 0 = 0
      unfold one
      rw [Int.add_zero z]
      rw [decide_eq_false (by omega)]
      rfl
    rw [p1, p2, p3, p4]
    omega
  rw [w4, tot] at low
  have e : eoc d x = x + ix d (x % (d.length : Int)) := rfl
  omega
end SW
end

section
set_option Elab.async false
set_option linter.all false
set_option maxRecDepth 100000
/-! the sequence's making keeps to crossings that the displacements ask for -/
namespace SW
theorem no_trip {d : List Int} (od : DispOk d) (no : tripT d = none) {x y z : Int} (h1 : x < y) (h2 : eoc d y < eoc d x) (h3 : y < z) (h4 : eoc d z < eoc d y) : False := by
  have hl := od.lo
  have m := mod_bd (n := d.length) (by omega) x
  have e := Int.mul_ediv_add_emod x (d.length : Int)
  have nk : (d.length : Int) * (-(x / (d.length : Int))) = -(d.length * (x / (d.length : Int))) := Int.mul_neg _ _
  have p1 := eoc_per d x (-(x / (d.length : Int)))
  have p2 := eoc_per d y (-(x / (d.length : Int)))
  have p3 := eoc_per d z (-(x / (d.length : Int)))
  have hi := (mem_invs od (x := x + d.length * (-(x / (d.length : Int)))) (z := y + d.length * (-(x / (d.length : Int))))).mpr ⟨by omega, by omega, by omega⟩
  have hz := (mem_later od (c := y + d.length * (-(x / (d.length : Int)))) (z := z + d.length * (-(x / (d.length : Int))))).mpr ⟨by omega, by omega⟩
  have h := trip_none.mp no _ hi
  have h : later d (y + d.length * (-(x / (d.length : Int)))) = [] := h
  rw [h] at hz
  cases hz
theorem inv_sign {d : List Int} (od : DispOk d) (no : tripT d = none) {x z : Int} (h1 : x < z) (h2 : eoc d z < eoc d x) : 0 < ix d (x % (d.length : Int)) ∧ ix d (z % (d.length : Int)) < 0 := by
  have sx := star od x
  have sz := star od z
  have bx : before d x = [] := List.eq_nil_iff_forall_not_mem.mpr fun w hw => by
    have := (mem_before od).mp hw
    exact no_trip od no this.1 this.2 h1 h2
  have lz : later d z = [] := List.eq_nil_iff_forall_not_mem.mpr fun w hw => by
    have := (mem_later od).mp hw
    exact no_trip od no h1 h2 this.1 this.2
  have px := List.length_pos_of_mem ((mem_later od).mpr ⟨h1, h2⟩)
  have pz := List.length_pos_of_mem ((mem_before od).mpr ⟨h1, h2⟩)
  rw [bx, List.length_nil] at sx
  rw [lz, List.length_nil] at sz
  omega
theorem later_toNat {d : List Int} (od : DispOk d) (no : tripT d = none) (x : Int) : (later d x).length = (ix d (x % (d.length : Int))).toNat := by
  have sx := star od x
  by_cases h : later d x = []
  · rw [h, List.length_nil] at sx
    rw [h, List.length_nil]
    omega
  · obtain ⟨z, hz⟩ := List.exists_mem_of_ne_nil _ h
    have hz := (mem_later od).mp hz
    have bx : before d x = [] := List.eq_nil_iff_forall_not_mem.mpr fun w hw => by
      have := (mem_before od).mp hw
      exact no_trip od no this.1 this.2 hz.1 hz.2
    rw [bx, List.length_nil] at sx
    omega
theorem invs_mu {d : List Int} (od : DispOk d) (no : tripT d = none) : (invs d).length = mu d := by
  unfold invs mu
  rw [List.length_flatMap]
  congr 1
  refine List.ext_getElem (by rw [List.length_map, List.length_map, List.length_range]) fun i h1 h2 => ?_
  rw [List.length_map] at h2
  rw [List.getElem_map, List.getElem_map, List.getElem_range, List.length_map, later_toNat od no, Int.emod_eq_of_lt (by omega) (by omega)]
  congr 1
  unfold ix
  rw [List.getD_eq_getElem?_getD, Int.toNat_natCast, List.getElem?_eq_getElem h2] <;> rfl
/-- what a run keeps of the moves made so far -/
structure RunI (d : List Int) (s : SqS) (m : List Int) : Prop where
  pos : PosOk d.length (s.arr, m)
  rl : s.rest.length = d.length
  mv : ∀ r : Int, 0 ≤ r → r < d.length → ix m r = ix d r - ix s.rest r
  sg : ∀ r : Int, 0 ≤ r → r < d.length → (0 ≤ ix s.rest r ∧ 0 ≤ ix m r) ∨ (ix s.rest r ≤ 0 ∧ ix m r ≤ 0)
  cr : ∀ a b : Int, a < b → eoc m b < eoc m a → 0 < ix d (a % (d.length : Int)) ∧ ix d (b % (d.length : Int)) < 0
theorem runI_ok {d : List Int} (od : DispOk d) {s : SqS} {m : List Int} (h : RunI d s m) : DispOk m := by
  have hl := od.lo
  refine disp_posOk od.lo od.hi h.pos fun x hx => ?_
  have l2 : m.length = d.length := h.pos.l2
  have hx : x ∈ m := hx
  obtain ⟨i, hi, rfl⟩ := List.mem_iff_getElem.mp hx
  have e : m[i] = ix m (i : Int) := by
    unfold ix
    rw [List.getD_eq_getElem?_getD, Int.toNat_natCast, List.getElem?_eq_getElem hi] <;> rfl
  have b := ix_bd od (r := (i : Int)) (by omega) (by omega)
  have a := h.mv (i : Int) (by omega) (by omega)
  have g := h.sg (i : Int) (by omega) (by omega)
  show -(d.length : Int) < m[i] ∧ m[i] < d.length
  rw [e]
  omega
theorem runI_init {d : List Int} (od : DispOk d) : RunI d (sq0 d) (List.replicate d.length 0) := by
  refine ⟨posOk_init, rfl, fun r h0 h1 => ?_, fun r h0 h1 => ?_, fun a b h1 h2 => ?_⟩
  · rw [ix_rep]
    show 0 = ix d r - ix d r
    omega
  · rw [ix_rep]
    omega
  · unfold eoc at h2
    rw [ix_rep, ix_rep] at h2
    omega
theorem fire_rest {d : List Int} (od : DispOk d) {s : SqS} {m : List Int} (h : RunI d s m) {p : Int} (h0 : 0 ≤ p) (h1 : p < d.length) {x : Int} (x0 : 0 ≤ x) (x1 : x < d.length) :
    ix (fire d.length s p).rest x = if x = ix s.arr ((p + 1) % d.length) then ix s.rest (ix s.arr ((p + 1) % d.length)) + 1 else if x = ix s.arr p then ix s.rest (ix s.arr p) - 1 else ix s.rest x := by
  have hl := od.lo
  have rl := h.rl
  have F := stepF (by omega) h.pos h0 h1
  have u0 : 0 ≤ ix s.arr p := F.u0
  have u1 : ix s.arr p < d.length := F.u1
  have v0 : 0 ≤ ix s.arr ((p + 1) % d.length) := F.v0
  have v1 : ix s.arr ((p + 1) % d.length) < d.length := F.v1
  have uv : ix s.arr ((p + 1) % d.length) ≠ ix s.arr p := F.uv
  show ix (setI (setI s.rest _ _) _ _) x = _
  rw [ix_setI v0 x0 (by rw [setI_len]; omega), ix_setI u0 v0 (by omega), if_neg uv, ix_setI u0 x0 (by omega)]
theorem runI_step {d : List Int} (od : DispOk d) {s : SqS} {m : List Int} (h : RunI d s m) {p : Int} (h0 : 0 ≤ p) (h1 : p < d.length) (hc : canSw d.length s p = true) : RunI d (fire d.length s p) (stepR d.length (s.arr, m) p).2 := by
  have hl := od.lo
  obtain ⟨c1, c2⟩ := canSw_iff.mp hc
  have om := runI_ok od h
  have P := posOk_step od.lo h.pos h0 h1
  have FR := fun x x0 x1 => fire_rest od h h0 h1 (x := x) x0 x1
  have F := stepF (by omega) h.pos h0 h1
  have F : StepF d.length (s.arr, m) (stepR d.length (s.arr, m) p) p ((p + 1) % d.length) (ix s.arr p) (ix s.arr ((p + 1) % d.length)) := F
  generalize ix s.arr ((p + 1) % (d.length : Int)) = v at F FR c2
  generalize ix s.arr p = u at F FR c1
  have MV := F.mv
  have MV : ∀ x : Int, 0 ≤ x → x < d.length → ix (stepR d.length (s.arr, m) p).2 x = if x = v then ix m v - 1 else if x = u then ix m u + 1 else ix m x := MV
  have mL : (stepR d.length (s.arr, m) p).2.length = d.length := P.l2
  have ml : m.length = d.length := h.pos.l2
  refine ⟨P, ?_, fun r r0 r1 => ?_, fun r r0 r1 => ?_, fun a b k1 k2 => ?_⟩
  · simp only [fire, setI_len, h.rl]
  · rw [MV r r0 r1, FR r r0 r1]
    have a := h.mv r r0 r1
    split
    · rename_i e; subst e; omega
    · split
      · rename_i e; subst e; omega
      · exact a
  · rw [MV r r0 r1, FR r r0 r1]
    have a := h.sg r r0 r1
    split
    · rename_i e; subst e; omega
    · split
      · rename_i e; subst e; omega
      · exact a
  · by_cases k3 : eoc m b < eoc m a
    · exact h.cr a b k1 k3
    · have ne : eoc m a ≠ eoc m b := fun e => by have := eoc_inj om e; omega
      have ma := mod_bd (n := d.length) (by omega) a
      have mb := mod_bd (n := d.length) (by omega) b
      unfold eoc at k2 k3 ne
      rw [mL, MV _ ma.1 ma.2, MV _ mb.1 mb.2] at k2
      rw [ml] at k3 ne
      have su := h.sg u F.u0 F.u1
      have sv := h.sg v F.v0 F.v1
      have mu' := h.mv u F.u0 F.u1
      have mv' := h.mv v F.v0 F.v1
      have ea : a % (d.length : Int) = u := by
        by_cases e : a % (d.length : Int) = u
        · exact e
        · exfalso
          rw [if_neg e] at k2
          by_cases e1 : a % (d.length : Int) = v
          · rw [if_pos e1, ← e1] at k2
            split at k2
            · rename_i e2; rw [e2, e1] at *; omega
            · split at k2
              · rename_i e3; rw [← e3] at k2; omega
              · omega
          · rw [if_neg e1] at k2
            split at k2
            · rename_i e2; rw [← e2] at k2; omega
            · split at k2
              · rename_i e3; rw [← e3] at k2; omega
              · omega
      have eb : b % (d.length : Int) = v := by
        by_cases e : b % (d.length : Int) = v
        · exact e
        · exfalso
          rw [ea, if_neg (Ne.symm F.uv), if_pos rfl, if_neg e] at k2
          rw [ea] at k3 ne
          split at k2
          · rename_i e3; rw [← e3] at k2 k3; omega
          · omega
      rw [ea, eb]
      omega
theorem run_I {d : List Int} (od : DispOk d) {s : SqS} (r : Run d s) : ∃ m, RunI d s m := by
  induction r with
  | init => exact ⟨_, runI_init od⟩
  | step r h0 h1 hc ih =>
    obtain ⟨m, h⟩ := ih
    exact ⟨_, runI_step od h h0 h1 hc⟩
/-- the copy behind -/
theorem next_copy {d : List Int} (od : DispOk d) {s : SqS} {m : List Int} (h : RunI d s m) {p : Int} (h0 : 0 ≤ p) (h1 : p < d.length) :
    ∃ z : Int, z % (d.length : Int) = ix s.arr ((p + 1) % d.length) ∧ eoc m z = eoc m (ix s.arr p) + 1 := by
  have hl := od.lo
  have F := stepF (by omega) h.pos h0 h1
  have F : StepF d.length (s.arr, m) (stepR d.length (s.arr, m) p) p ((p + 1) % d.length) (ix s.arr p) (ix s.arr ((p + 1) % d.length)) := F
  generalize ix s.arr ((p + 1) % (d.length : Int)) = v at F ⊢
  generalize ix s.arr p = u at F ⊢
  have ml : m.length = d.length := h.pos.l2
  have pu := F.pu
  have pv := F.pv
  have pu : (u + ix m u) % (d.length : Int) = p := pu
  have pv : (v + ix m v) % (d.length : Int) = (p + 1) % d.length := pv
  have e1 := em_add1 pu
  rw [← pv] at e1
  have d1 := Int.mul_ediv_add_emod (u + ix m u + 1) (d.length : Int)
  have d2 := Int.mul_ediv_add_emod (v + ix m v) (d.length : Int)
  refine ⟨v + d.length * ((u + ix m u + 1) / (d.length : Int) - (v + ix m v) / (d.length : Int)), ?_, ?_⟩
  · rw [Int.add_mul_emod_self_left]
    exact Int.emod_eq_of_lt F.v0 F.v1
  · have q := eoc_per m v ((u + ix m u + 1) / (d.length : Int) - (v + ix m v) / (d.length : Int))
    rw [ml] at q
    rw [q]
    unfold eoc
    rw [ml, Int.emod_eq_of_lt F.v0 F.v1, Int.emod_eq_of_lt F.u0 F.u1, Int.mul_sub]
    omega
end SW
end

section
set_option Elab.async false
set_option linter.all false
set_option maxRecDepth 100000
/-! the making never halts before its end; what it makes leads to the displacements -/
namespace SW
theorem before_nd (d : List Int) (x : Int) : (before d x).Nodup := List.Pairwise.filter _ (rgI_ndp _ _)
theorem later_nd (d : List Int) (x : Int) : (later d x).Nodup := List.Pairwise.filter _ (rgI_ndp _ _)
/-- behind an item that has still to go right there is none at its end -/
theorem no_rest {d : List Int} (od : DispOk d) (no : tripT d = none) {s : SqS} {m : List Int} (h : RunI d s m) {p : Int} (h0 : 0 ≤ p) (h1 : p < d.length)
    (c1 : 0 < ix s.rest (ix s.arr p)) (c2 : ix s.rest (ix s.arr ((p + 1) % d.length)) = 0) : False := by
  have hl := od.lo
  have om := runI_ok od h
  have ml : m.length = d.length := h.pos.l2
  obtain ⟨v, ev, hv⟩ := next_copy od h h0 h1
  have F := stepF (by omega) h.pos h0 h1
  have F : StepF d.length (s.arr, m) (stepR d.length (s.arr, m) p) p ((p + 1) % d.length) (ix s.arr p) (ix s.arr ((p + 1) % d.length)) := F
  rw [← ev] at F c2
  generalize ix s.arr p = u at F c1 hv
  have su := h.sg u F.u0 F.u1
  have mu' := h.mv u F.u0 F.u1
  have sv := h.sg _ F.v0 F.v1
  have mv' := h.mv _ F.v0 F.v1
  have um := Int.emod_eq_of_lt F.u0 F.u1
  have eu : eoc m u = u + ix m u := by unfold eoc; rw [ml, um]
  have du : eoc d u = u + ix d u := by unfold eoc; rw [um]
  have em : eoc m v = v + ix m (v % (d.length : Int)) := by unfold eoc; rw [ml]
  have ed : eoc d v = v + ix d (v % (d.length : Int)) := rfl
  have uv : u ≠ v := fun e => F.uv (by rw [← e]; exact um)
  rcases Int.lt_or_le u v with z | z
  · have nu : eoc d u ≠ eoc d v := fun e => uv (eoc_inj od e)
    have sg := inv_sign od no z (by omega)
    have sd := star od v
    have sm := star om v
    have ld : later d v = [] := List.eq_nil_iff_forall_not_mem.mpr fun w hw => by
      have hw := (mem_later od).mp hw
      exact no_trip od no z (by omega) hw.1 hw.2
    have lm : later m v = [] := List.eq_nil_iff_forall_not_mem.mpr fun w hw => by
      have hw := (mem_later om).mp hw
      have := h.cr v w hw.1 hw.2
      omega
    rw [ld, List.length_nil] at sd
    rw [lm, List.length_nil, ml] at sm
    have hu : u ∉ before m v := fun hu => by
      have := (mem_before om).mp hu
      omega
    have key := nd_leI (l := u :: before m v) (m := before d v) (List.nodup_cons.mpr ⟨hu, before_nd m v⟩) fun w hw => by
      rcases List.mem_cons.mp hw with rfl | hw
      · exact (mem_before od).mpr ⟨z, by omega⟩
      · have hw := (mem_before om).mp hw
        have c := h.cr w v hw.1 hw.2
        have wb := mod_bd (n := d.length) (by omega) w
        have sw := h.sg _ wb.1 wb.2
        have mw := h.mv _ wb.1 wb.2
        have ew : eoc m w = w + ix m (w % (d.length : Int)) := by unfold eoc; rw [ml]
        have dw : eoc d w = w + ix d (w % (d.length : Int)) := rfl
        exact (mem_before od).mpr ⟨hw.1, by omega⟩
    rw [List.length_cons] at key
    omega
  · have c := h.cr v u (by omega) (by omega)
    rw [um] at c
    omega
theorem sum_sign {l : List Int} (h : l.sum = 0) (hx : ∃ x ∈ l, x ≠ 0) : (∃ x ∈ l, 0 < x) ∧ ∃ x ∈ l, x < 0 := by
  have up : ∀ {l : List Int}, (∀ x ∈ l, 0 ≤ x) → 0 ≤ l.sum ∧ (l.sum = 0 → ∀ x ∈ l, x = 0) := by
    intro l
    induction l with
    | nil => exact fun _ => ⟨Int.le_refl _, fun _ x hx => by cases hx⟩
    | cons a l ih =>
      intro h
      obtain ⟨i1, i2⟩ := ih fun x hx => h x (List.mem_cons_of_mem _ hx)
      have ha := h a List.mem_cons_self
      rw [List.sum_cons]
      refine ⟨by omega, fun e x hx => ?_⟩
      rcases List.mem_cons.mp hx with rfl | hx
      · omega
      · exact i2 (by omega) x hx
  have dn : ∀ {l : List Int}, (∀ x ∈ l, x ≤ 0) → l.sum ≤ 0 ∧ (l.sum = 0 → ∀ x ∈ l, x = 0) := by
    intro l
    induction l with
    | nil => exact fun _ => ⟨Int.le_refl _, fun _ x hx => by cases hx⟩
    | cons a l ih =>
      intro h
      obtain ⟨i1, i2⟩ := ih fun x hx => h x (List.mem_cons_of_mem _ hx)
      have ha := h a List.mem_cons_self
      rw [List.sum_cons]
      refine ⟨by omega, fun e x hx => ?_⟩
      rcases List.mem_cons.mp hx with rfl | hx
      · omega
      · exact i2 (by omega) x hx
  obtain ⟨x, hx, hn⟩ := hx
  constructor
  · refine Classical.byContradiction fun c => hn ((dn fun y hy => ?_).2 h x hx)
    exact Int.not_lt.mp fun z => c ⟨y, hy, z⟩
  · refine Classical.byContradiction fun c => hn ((up fun y hy => ?_).2 h x hx)
    exact Int.not_lt.mp fun z => c ⟨y, hy, z⟩
theorem mem_ix {l : List Int} {x : Int} (h : x ∈ l) : ∃ i : Int, 0 ≤ i ∧ i < l.length ∧ ix l i = x := by
  obtain ⟨i, hi, rfl⟩ := List.mem_iff_getElem.mp h
  refine ⟨i, by omega, by omega, ?_⟩
  unfold ix
  rw [List.getD_eq_getElem?_getD, Int.toNat_natCast, List.getElem?_eq_getElem hi] <;> rfl
theorem rest_sum {d : List Int} (od : DispOk d) {s : SqS} {m : List Int} (h : RunI d s m) : s.rest.sum = 0 := by
  have ml : m.length = d.length := h.pos.l2
  have ms : m.sum = 0 := h.pos.sum
  have rl := h.rl
  have e1 := sum_ix m
  have e2 := sum_ix s.rest
  have e3 := sum_ix d
  rw [ml] at e1
  rw [rl] at e2
  have e4 : ((rgI 0 d.length).map fun r => ix d r).sum = ((rgI 0 d.length).map fun r => ix m r + ix s.rest r).sum := sum_mapc fun r hr => by
    have := rgI_mem.mp hr
    have := h.mv r (by omega) (by omega)
    omega
  rw [sum_addI, e1, e2, e3, od.sum] at e4
  omega
theorem run_goes {d : List Int} (ok : DispOk d) (no : tripT d = none) {s : SqS} (r : Run d s) (h : ∃ x ∈ s.rest, x ≠ 0) : ∃ p : Int, 0 ≤ p ∧ p < d.length ∧ canSw d.length s p = true := by
  have hl := ok.lo
  obtain ⟨m, I⟩ := run_I ok r
  obtain ⟨⟨_, h1, g1⟩, ⟨_, h2, g2⟩⟩ := sum_sign (rest_sum ok I) h
  obtain ⟨u, u0, u1, rfl⟩ := mem_ix h1
  obtain ⟨v, v0, v1, rfl⟩ := mem_ix h2
  have rl := I.rl
  have pu := I.pos.at' u u0 (by omega)
  have pv := I.pos.at' v v0 (by omega)
  have pu : ix s.arr ((u + ix m u) % (d.length : Int)) = u := pu
  have pv : ix s.arr ((v + ix m v) % (d.length : Int)) = v := pv
  refine Classical.byContradiction fun c => ?_
  have all : ∀ k : Nat, 0 < ix s.rest (ix s.arr ((u + ix m u + k) % (d.length : Int))) := by
    intro k
    induction k with
    | zero =>
      rw [show u + ix m u + ((0 : Nat) : Int) = u + ix m u by omega, pu]
      exact g1
    | succ k ih =>
      have b := mod_bd (n := d.length) (by omega) (u + ix m u + k)
      have e : (u + ix m u + ((k + 1 : Nat) : Int)) % (d.length : Int) = ((u + ix m u + k) % (d.length : Int) + 1) % (d.length : Int) := by
        rw [Int.emod_add_emod]
        congr 1
        omega
      rw [e]
      rcases Int.lt_trichotomy (ix s.rest (ix s.arr (((u + ix m u + k) % (d.length : Int) + 1) % (d.length : Int)))) 0 with z | z | z
      · exact absurd ⟨_, b.1, b.2, canSw_iff.mpr ⟨ih, z⟩⟩ c
      · exact (no_rest ok no I b.1 b.2 ih z).elim
      · exact z
  have b := mod_bd (n := d.length) (by omega) (v + ix m v - (u + ix m u))
  have a := all ((v + ix m v - (u + ix m u)) % (d.length : Int)).toNat
  rw [show ((((v + ix m v - (u + ix m u)) % (d.length : Int)).toNat : Nat) : Int) = (v + ix m v - (u + ix m u)) % (d.length : Int) by omega, Int.add_emod_emod, show u + ix m u + (v + ix m v - (u + ix m u)) = v + ix m v by omega, pv] at a
  omega
/-- where a swap of the making stands, there stands a ring inversion -/
theorem swap_inv {d : List Int} (od : DispOk d) {s : SqS} {m : List Int} (h : RunI d s m) {p : Int} (h0 : 0 ≤ p) (h1 : p < d.length) (hc : canSw d.length s p = true) :
    ∃ z : Int, z % (d.length : Int) = ix s.arr ((p + 1) % d.length) ∧ [ix s.arr p, z] ∈ invs d ∧ placeT d (ix s.arr p) z = p := by
  have hl := od.lo
  obtain ⟨c1, c2⟩ := canSw_iff.mp hc
  have om := runI_ok od h
  have ml : m.length = d.length := h.pos.l2
  obtain ⟨v, ev, hv⟩ := next_copy od h h0 h1
  have F := stepF (by omega) h.pos h0 h1
  have F : StepF d.length (s.arr, m) (stepR d.length (s.arr, m) p) p ((p + 1) % d.length) (ix s.arr p) (ix s.arr ((p + 1) % d.length)) := F
  refine ⟨v, ev, ?_⟩
  rw [← ev] at F c2
  generalize ix s.arr p = u at F c1 hv ⊢
  have su := h.sg u F.u0 F.u1
  have mu' := h.mv u F.u0 F.u1
  have sv := h.sg _ F.v0 F.v1
  have mv' := h.mv _ F.v0 F.v1
  have um := Int.emod_eq_of_lt F.u0 F.u1
  have eu : eoc m u = u + ix m u := by unfold eoc; rw [ml, um]
  have du : eoc d u = u + ix d u := by unfold eoc; rw [um]
  have em : eoc m v = v + ix m (v % (d.length : Int)) := by unfold eoc; rw [ml]
  have ed : eoc d v = v + ix d (v % (d.length : Int)) := rfl
  have uv : u ≠ v := fun e => F.uv (by rw [← e]; exact um)
  have lt : u < v := by
    rcases Int.lt_or_le u v with z | z
    · exact z
    · have c := h.cr v u (by omega) (by omega)
      omega
  refine ⟨(mem_invs od).mpr ⟨⟨F.u0, F.u1⟩, lt, by omega⟩, ?_⟩
  have sm := star om u
  have bm : before m u = [] := List.eq_nil_iff_forall_not_mem.mpr fun w hw => by
    have hw := (mem_before om).mp hw
    have c := h.cr w u hw.1 hw.2
    rw [um] at c
    omega
  rw [bm, List.length_nil, ml, um] at sm
  have mem : ∀ y : Int, y ∈ later m u ↔ y ∈ (rgI (u + 1) (v - (u + 1)).toNat).filter fun y => decide (eoc d y < y) := fun y => by
    rw [mem_later om, List.mem_filter, rgI_mem, decide_eq_true_eq]
    have dy : eoc d y = y + ix d (y % (d.length : Int)) := rfl
    constructor
    · rintro ⟨a, b⟩
      have c := h.cr u y a b
      have yv : y ≠ v := fun e => by rw [e] at b; omega
      refine ⟨⟨by omega, ?_⟩, by omega⟩
      rcases Int.lt_or_le y v with z | z
      · omega
      · have c := h.cr v y (by omega) (by omega)
        omega
    · rintro ⟨⟨a, b⟩, c⟩
      refine ⟨by omega, ?_⟩
      rcases Int.lt_or_le (eoc m y) (eoc m u) with z | z
      · exact z
      · exfalso
        have n1 : eoc m y ≠ eoc m u := fun e => by have := eoc_inj om e; omega
        have n2 : eoc m y ≠ eoc m v := fun e => by have := eoc_inj om e; omega
        have c := h.cr y v (by omega) (by omega)
        omega
  have len : ((rgI (u + 1) (v - (u + 1)).toNat).filter fun y => decide (eoc d y < y)).length = (later m u).length := Nat.le_antisymm
    (nd_leI (List.Pairwise.filter _ (rgI_ndp _ _)) fun y hy => (mem y).mpr hy) (nd_leI (later_nd m u) fun y hy => (mem y).mp hy)
  have pu := F.pu
  have pu : (u + ix m u) % (d.length : Int) = p := pu
  unfold placeT
  rw [len, show (((later m u).length : Nat) : Int) = ix m u by omega]
  exact pu
theorem swap_may {R : List (List Int)} {d : List Int} (ok : RkOk R) (od : DispOk d) (hl : d.length = R.length) (nr : (invs d).findSome? (refStep R d) = none) {s : SqS} {m : List Int} (h : RunI d s m)
    {p : Int} (h0 : 0 ≤ p) (h1 : p < d.length) (hc : canSw d.length s p = true) : mayT R s.arr p = true := by
  have h3 := od.lo
  obtain ⟨z, ez, hm, hp⟩ := swap_inv od h h0 h1 hc
  have F := stepF (by omega) h.pos h0 h1
  have F : StepF d.length (s.arr, m) (stepR d.length (s.arr, m) p) p ((p + 1) % d.length) (ix s.arr p) (ix s.arr ((p + 1) % d.length)) := F
  have al : s.arr.length = d.length := h.pos.l1
  have q := List.findSome?_eq_none_iff.mp nr _ hm
  unfold refStep at q
  rw [List.head?_eq_none_iff] at q
  have q : refT R d (ix s.arr p) z = [] := q
  unfold refT at q
  rw [List.append_eq_nil_iff, hp, ez, Int.emod_eq_of_lt F.u0 F.u1] at q
  obtain ⟨q1, q2⟩ := q
  have n1 : rk R p (ix s.arr p) ≠ rk R p (ix s.arr ((p + 1) % d.length)) := fun e => F.uv (rk_inj ok h0 (by omega) F.u0 (by have := F.u1; omega) F.v0 (by have := F.v1; omega) e).symm
  have n2 : rk R ((p + 1) % d.length) (ix s.arr p) ≠ rk R ((p + 1) % d.length) (ix s.arr ((p + 1) % d.length)) := fun e => F.uv (rk_inj ok F.q0 (by have := F.q1; omega) F.u0 (by have := F.u1; omega) F.v0 (by have := F.v1; omega) e).symm
  unfold mayT
  rw [al, Bool.and_eq_true, decide_eq_true_eq, decide_eq_true_eq]
  constructor
  · split at q1
    · cases q1
    · omega
  · split at q2
    · cases q2
    · omega
theorem run_moves {R : List (List Int)} {d : List Int} (ok : RkOk R) (od : DispOk d) (hl : d.length = R.length) (nr : (invs d).findSome? (refStep R d) = none) {s : SqS} (r : Run d s) :
    ∃ m, RunI d s m ∧ runT R (st0 R.length) s.found = some (s.arr, m) := by
  induction r with
  | init =>
    refine ⟨_, runI_init od, ?_⟩
    rw [← hl]
    rfl
  | @step s p r h0 h1 hc ih =>
    obtain ⟨m, h, e⟩ := ih
    refine ⟨_, runI_step od h h0 h1 hc, ?_⟩
    show runT R (st0 R.length) (s.found ++ [p]) = _
    rw [runT_app, e]
    show (stepT R (s.arr, m) p).bind (fun s' => some s') = _
    have hm : mayT R (s.arr, m).1 p = true := swap_may ok od hl nr h h0 h1 hc
    have e1 := stepT_eq (R := R) (s := (s.arr, m)) (p := p) h0 (by rw [← hl]; exact h1) hm
    rw [e1, ← hl]
    rfl
theorem seq_moves {R : List (List Int)} {d fs : List Int} (ok : RkOk R) (od : DispOk d) (hl : d.length = R.length) (no : tripT d = none) (nr : (invs d).findSome? (refStep R d) = none) (h : SeqFor d fs) : movesT R fs = some d := by
  obtain ⟨s, r, z, rfl⟩ := h
  obtain ⟨m, I, e⟩ := run_moves ok od hl nr r
  have ml : m.length = d.length := I.pos.l2
  unfold movesT
  rw [e]
  show some m = some d
  congr 1
  refine List.ext_getElem ml fun i h1 h2 => ?_
  have a := I.mv (i : Int) (by omega) (by omega)
  have rl := I.rl
  have b := z _ (ix_mem (A := s.rest) (p := (i : Int)) (by omega) (by omega))
  rw [b] at a
  unfold ix at a
  rw [List.getD_eq_getElem?_getD, List.getD_eq_getElem?_getD, Int.toNat_natCast, List.getElem?_eq_getElem h1, List.getElem?_eq_getElem h2] at a
  have a : m[i] = d[i] - 0 := a
  omega
theorem seq_mu {d fs : List Int} (od : DispOk d) (h : SeqFor d fs) : fs.length = mu d := by
  obtain ⟨s, r, z, rfl⟩ := h
  have e := run_mu od r
  have m0 : ∀ {l : List Int}, (∀ x ∈ l, x = 0) → mu l = 0 := by
    intro l h
    induction l with
    | nil => rfl
    | cons a l ih =>
      show (a.toNat :: l.map Int.toNat).sum = 0
      have i2 := ih fun x hx => h x (List.mem_cons_of_mem _ hx)
      unfold mu at i2
      rw [List.sum_cons, i2, h a List.mem_cons_self]
      rfl
  rw [m0 z] at e
  exact e
theorem seq_len {d fs : List Int} (od : DispOk d) (no : tripT d = none) (h : SeqFor d fs) : fs.length = (lpairs d).length := by
  rw [lpairs_eq od, invs_mu od no]
  exact seq_mu od h
end SW
end

section
set_option Elab.async false
set_option linter.all false
set_option maxRecDepth 100000
/-! the block to the right -/
namespace SW
def blkS (b : Int) (s : List Int × List (List Int)) (p : Nat) : List Int × List (List Int) :=
  if decide (ix s.1 p < b) && decide (b ≤ ix s.1 ((p : Int) + 1)) then (setI (setI s.1 p (ix s.1 ((p : Int) + 1))) ((p : Int) + 1) (ix s.1 p), happ (happ s.2 p (ix s.1 ((p : Int) + 1))) ((p : Int) + 1) (ix s.1 p)) else s
def blkT (b : Int) (n : Nat) (s : List Int × List (List Int)) : List Int × List (List Int) := (List.range (n - 1)).foldl (blkS b) s
def blkF (b : Int) (n k : Nat) : List Int × List (List Int) := (List.range k).foldl (fun s _ => blkT b n s) (rgI 0 n, hd0 n)
def blkRow (n : Nat) (h : List Int) : List Int := h.reverse ++ (rgI 0 n).filter fun x => !decide (x ∈ h)
def blkR (a b : Nat) : List (List Int) := (List.range (a + b)).map fun (p : Nat) => blkRow (a + b) (hix (blkF b (a + b) (a + b)).2 p)
def blkD (a b : Nat) : List Int := List.replicate b (a : Int) ++ List.replicate a (0 - (b : Int))
def rkB (R : List (List Int)) : Bool := decide (3 ≤ R.length) && decide (R.length ≤ 20) && R.all fun r => decide (r.length = R.length) && decide r.Nodup && (r.all fun x => decide (0 ≤ x) && decide (x < R.length)) && (rgI 0 R.length).all fun x => decide (x ∈ r)
theorem rkB_ok {R : List (List Int)} (h : rkB R = true) : RkOk R := by
  unfold rkB at h
  simp only [Bool.and_eq_true, decide_eq_true_eq, List.all_eq_true] at h
  obtain ⟨⟨h1, h2⟩, h3⟩ := h
  exact ⟨h1, h2, fun r hr => (h3 r hr).1.1.1, fun r hr => (h3 r hr).1.1.2, fun r hr x hx => (h3 r hr).1.2 x hx, fun r hr x a b => (h3 r hr).2 x (rgI_mem.mpr (by omega))⟩
def dispB (d : List Int) : Bool := decide (3 ≤ d.length) && decide (d.length ≤ 20) && (d.all fun x => decide (-(d.length : Int) < x) && decide (x < d.length)) && decide (d.sum = 0) && decide ((List.range d.length).map fun (i : Nat) => ((i : Int) + d.getD i 0) % (d.length : Int)).Nodup
theorem dispB_ok {d : List Int} (h : dispB d = true) : DispOk d := by
  unfold dispB at h
  simp only [Bool.and_eq_true, decide_eq_true_eq, List.all_eq_true] at h
  obtain ⟨⟨⟨⟨h1, h2⟩, h3⟩, h4⟩, h5⟩ := h
  exact ⟨h1, h2, fun x hx => h3 x hx, h4, h5⟩
def blkB (a b : Nat) : Bool := rkB (blkR a b) && dispB (blkD a b) && (tripT (blkD a b)).isNone && ((invs (blkD a b)).findSome? (refStep (blkR a b) (blkD a b))).isNone && decide (mu (blkD a b) = a * b)
theorem blk_ok {a b : Nat} (ha : 8 ≤ a ∧ a ≤ 10) (hb : 9 ≤ b ∧ b ≤ 10) : blkB a b = true := by
  have h : ∀ i ∈ [8, 9, 10], ∀ j ∈ [9, 10], blkB i j = true := by decide +kernel
  exact h a (by simp; omega) b (by simp; omega)
end SW
end

section
set_option Elab.async false
set_option linter.all false
set_option maxRecDepth 100000
set_option maxHeartbeats 4000000
namespace SW
open PySem PySem.Spec PyProof.Rows L2 Evl
local macro_rules | `(tactic| tm_at "r1") => `(tactic| first
  | ((with_reducible refine' r_var ?hx ?_); (case hx => exact rfl))
  | with_reducible refine r_c ?_
  | with_reducible refine r_op ?_
  | with_reducible refine r_I0 ?_
  | with_reducible refine r_un ?_
  | with_reducible refine r_U ?_
  | with_reducible refine r_cons ?_
  | with_reducible refine r_nil ?_
  | with_reducible refine r_call ?_
  | with_reducible refine r_cb ?_
  | with_reducible refine r_test ?_
  | with_reducible refine r_blp ?_
  | with_reducible refine r_tYes ?_
  | with_reducible refine r_ifT ?_
  | with_reducible refine r_ifF ?_
  | ((with_reducible refine' r_aug ?hx ?_); (case hx => exact rfl))
  | with_reducible refine r_seq ?_
  | with_reducible refine r_asg ?_
  | with_reducible refine r_gname ?_
  | with_reducible refine r_ret ?_
  | with_reducible refine r_tup ?_
  | with_reducible refine r_lst ?_
  | with_reducible refine r_ifS ?_
  | with_reducible refine r_par ?_
  | with_reducible refine r_two ?_
  | with_reducible refine r_lc ?_
  | with_reducible refine r_rng1 ?_
  | with_reducible refine r_rng2 ?_
  | with_reducible refine r_iList ?_
  | with_reducible refine r_iTup ?_
  | with_reducible refine r_for ?_
  | with_reducible refine r_not ?_
  | with_reducible refine r_and ?_
  | with_reducible refine r_or ?_
  | with_reducible refine r_andV ?_
  | with_reducible refine r_orV ?_
  | with_reducible refine r_notV ?_
  | with_reducible refine r_if ?_
  | with_reducible refine r_chain ?_
  | with_reducible refine r_B ?_
  | with_reducible refine r_next ?_
  | with_reducible refine r_drop ?_
  | with_reducible refine r_retN ?_
  | with_reducible refine r_ipI ?_
  | ((with_reducible refine' r_sz ?hz ?_); (case hz => exact Nat.le_of_ble_eq_true rfl))
  | with_reducible refine r_gCons ?_
  | with_reducible refine r_gNil ?_
  | with_reducible refine r_par3 ?_
  | with_reducible refine r_three ?_
  | with_reducible refine r_listRg ?_
  | with_reducible refine r_tupRg ?_
  | with_reducible refine r_augS ?_
  | with_reducible refine r_lenSetT ?_
  | with_reducible refine r_lenSetL ?_
  | with_reducible refine r_ifNT ?_
  | with_reducible refine r_ifNF ?_
  | with_reducible refine r_eqI ?_
  | with_reducible refine r_neI ?_
  | with_reducible refine r_eqS ?_
  | with_reducible refine r_neS ?_
  | with_reducible refine r_bm ?_
  | with_reducible refine r_bt ?_
  | with_reducible refine r_iEnT ?_
  | with_reducible refine r_iEnL ?_
  | with_reducible refine r_dc ?_
  | with_reducible refine r_dget ?_
  | with_reducible refine r_dput ?_
  | with_reducible refine r_sl ?_
  | with_reducible refine r_noP ?_
  | with_reducible refine r_part ?_
  | with_reducible refine r_revL ?_
  | with_reducible refine r_gSub ?_)
local macro_rules | `(tactic| tm_at "r") => `(tactic| repeat tm_at "r1")
local macro_rules | `(tactic| w_call $p $n $H1 $e $h $u $z) => `(tactic| (intro $p:ident $n:ident; generalize $u:ident : upd _ $p:ident _ = $H1:ident; obtain ⟨$e, $h⟩ := new_of $n:ident $u:ident))
section
variable {P : Program} {w : World} {K : PySem.W.Frag} {mg : Str → Option Value} {base : Heap} {f : Addr} {fd : FuncData}
def spEoc (K : PySem.W.Frag) : Sp := fun vs H Q _ => ∃ (a : Addr) (d : List Int) (c : Int), vs = [.ref a, .int c] ∧ SqT K H a (d.map V.int) ∧ 0 < d.length ∧ Q (.int (eoc d c)) H
abbrev N_end_of_copy : List PySem.Str := ["displacements", "copy"]
theorem sc_end_of_copy : FnScope N_end_of_copy ["displacements", "copy"] (defScope st_end_of_copy) := ⟨rfl, rfl, rfl, by decide +kernel, rfl, by decide +kernel, by decide +kernel⟩
theorem sg_end_of_copy (v0 v1 : V) : L2.start N_end_of_copy [v0, v1] = [some v0, some v1] := rfl
theorem bi_end_of_copy {K : PySem.W.Frag} {f : Addr} {fd : FuncData} (F : FnP K "end_of_copy" st_end_of_copy f fd) : Binds K fd ["displacements", "copy"] [] := F.bindsN fun _ _ _ _ _ _ us hl => match us, hl with | [_, _], _ => rfl

theorem ok_end_of_copy (F : FnP K "end_of_copy" st_end_of_copy f fd) (fr : Free mg) : FnOk P w K mg base CX0 1 f fd ["displacements", "copy"] (spEoc K) := by
  refine F.ok sc_end_of_copy (fun vs H Q E h => ?_) (fun cdv A outer s H vs Q E hr h => ?_)
  · obtain ⟨a, d, c, rfl, _⟩ := h
    rfl
  · obtain ⟨a, d, c, rfl, hd, hn, k⟩ := h
    refine ⟨_, PSs.nox (pss_one (ps_ret (pe_op op_add (pv 1) (pe_ix (ixt (K := K) rfl) (pv 0) (pe_op op_mod (pv 1) (pe_callB (lenq (K := K) rfl) (by rfl) fr.len (by decide +kernel) (pa_cons (pv 0) pa_nil))) (fun _ _ => rfl))))), ?_⟩
    rw [sg_end_of_copy]
    tm_at "r"
    refine r_lenT hd ?_
    rw [List.length_map]
    refine r_I (by omega) ?_
    refine r_ixT hd (ix_at (Int.emod_nonneg _ (by omega)) (Int.emod_lt_of_pos _ (by omega))) ?_
    tm_at "r"
    exact k
def spLater (K : PySem.W.Frag) : Sp := fun vs H Q _ => ∃ (a : Addr) (d : List Int) (c : Int), vs = [.ref a, .int c] ∧ SqT K H a (d.map V.int) ∧ 3 ≤ d.length ∧ d.length ≤ 20 ∧ -1000 ≤ c ∧ c ≤ 1000 ∧
  ∀ p H', Ex H H' → H' p = some (.lst ((later d c).map V.int)) → Q (.ref p) H'
abbrev N_later_copies : List PySem.Str := ["displacements", "copy", "end", "size", "other"]
theorem sc_later_copies : FnScope N_later_copies ["displacements", "copy"] (defScope st_later_copies) := ⟨rfl, rfl, rfl, by decide +kernel, rfl, by decide +kernel, by decide +kernel⟩
theorem sg_later_copies (v0 v1 : V) : L2.start N_later_copies [v0, v1] = [some v0, some v1, none, none, none] := rfl
theorem bi_later_copies {K : PySem.W.Frag} {f : Addr} {fd : FuncData} (F : FnP K "later_copies" st_later_copies f fd) : Binds K fd ["displacements", "copy"] [] := F.bindsN fun _ _ _ _ _ _ us hl => match us, hl with | [_, _], _ => rfl

-- 0:displacements* 1:copy 2:end* 3:size 4:other
theorem ok_later_copies (F : FnP K "later_copies" st_later_copies f fd) (fr : Free mg) (D_end_of_copy : Def P w K mg base CX0 1 "end_of_copy" ["displacements", "copy"] (spEoc K)) : FnOk P w K mg base CX0 2 f fd ["displacements", "copy"] (spLater K) := by
  refine F.ok sc_later_copies (fun vs H Q E h => ?_) (fun cdv A outer s H vs Q E hr h => ?_)
  · obtain ⟨a, d, c, rfl, _⟩ := h
    rfl
  · obtain ⟨a, d, c, rfl, hd, hn, hn2, hc, hc2, k⟩ := h
    refine ⟨_, PSs.nox (pss_cons (ps_asg (pe_tup (pa_cons (pe_def D_end_of_copy (hr.mono (by decide)) (pa_cons (pv 0) (pa_cons (pv 1) pa_nil))) (pa_cons (pe_callB (lenq (K := K) rfl) (by rfl) fr.len (by decide +kernel) (pa_cons (pv 0) pa_nil)) pa_nil))) (pgt (n := 2) (K := K) rfl rfl (pgs_cons (pg_name (i := 2) sc_later_copies.nd rfl (Or.inr rfl)) (pgs_cons (pg_name (i := 3) sc_later_copies.nd rfl (Or.inl rfl)) pgs_nil))))
    (pss_one (ps_ret (pe_lc (own := [("other", 4)]) rfl sc_later_copies.nd (pi_range2 (by rfl) fr.range (pa_cons (pe_op op_add (pv 1) pe_int) (pa_cons (pe_op op_sub (pe_op op_add (pv 1) (pe_op op_mul pe_int (pv 3))) pe_int) pa_nil))) (blkOk_by (own := [("other", 4)]) (N := N_later_copies) (sc := defScope st_later_copies) (by decide +kernel)) (fun _ _ _ _ _ => (pg_name (i := 4) sc_later_copies.nd rfl (Or.inl rfl))) (fun _ _ _ _ _ => pts_one (pt_cmpR op_lt (pe_def D_end_of_copy (hr.mono (by decide)) (pa_cons (pv 0) (pa_cons (pv 4) pa_nil))) (pv 2) (nomark _))) (fun _ _ _ _ _ => (pv 4)))))), ?_⟩
    rw [sg_later_copies]
    tm_at "r"
    refine ⟨a, d, c, rfl, hd, by omega, ?_⟩
    tm_at "r"
    refine r_lenT hd ?_
    rw [List.length_map]
    tm_at "r"
    w_call p n1 H1 e1 h1 u1 z
    refine r_gTup (SqT.of h1) rfl ?_
    tm_at "r"
    refine r_I (Or.inl ⟨by decide, by decide⟩) ?_
    tm_at "r"
    refine ⟨_, _, rfl, rg_ok (by omega), ?_⟩
    have hd1 := ex_t e1 hd
    have hz : (c + 2 * (d.length : Int) - 1 - (c + 1)).toNat = 2 * d.length - 2 := by omega
    rw [hz]
    refine lc_vals walk_range (fun i => decide (eoc d (c + 1 + (i : Int)) < eoc d c)) (fun i => .int (c + 1 + (i : Int))) (fun _ _ => trivial) (by omega) ?_ ?_
    · rintro D i x H' H'' acc KN KY hi e2 ⟨rfl, rfl⟩ hD hy h1 h2
      refine ⟨rfl, ?_⟩
      tm_at "r"
      refine ⟨a, d, _, rfl, ex_t e2 hd1, by omega, ?_⟩
      tm_at "r"
      refine r_ite (fun hb => ?_) (fun hb => h1 hb _ (Ex.refl _))
      tm_at "r"
      exact h2 hb _ (Ex.refl _)
    · intro D H' hD e2 h2
      refine k D H' (e1.trans e2) ?_
      rw [h2]
      unfold later rgI
      rw [List.filter_map, List.map_map]
      rfl
def spInvs (K : PySem.W.Frag) : Sp := fun vs H Q _ => ∃ (a : Addr) (d : List Int), vs = [.ref a] ∧ SqT K H a (d.map V.int) ∧ 3 ≤ d.length ∧ d.length ≤ 20 ∧
  ∀ p H' ys, Ex H H' → H' p = some (.lst ys) → Tups H' (invs d) ys → Q (.ref p) H'
abbrev N_inversions_there : List PySem.Str := ["displacements", "found", "x", "z"]
theorem sc_inversions_there : FnScope N_inversions_there ["displacements"] (defScope st_inversions_there) := ⟨rfl, rfl, rfl, by decide +kernel, rfl, by decide +kernel, by decide +kernel⟩
theorem sg_inversions_there (v0 : V) : L2.start N_inversions_there [v0] = [some v0, none, none, none] := rfl
theorem bi_inversions_there {K : PySem.W.Frag} {f : Addr} {fd : FuncData} (F : FnP K "inversions_there" st_inversions_there f fd) : Binds K fd ["displacements"] [] := F.bindsN fun _ _ _ _ _ _ us hl => match us, hl with | [_], _ => rfl

-- 0:displacements 1:found 2:x* 3:z
theorem ok_inversions_there (F : FnP K "inversions_there" st_inversions_there f fd) (fr : Free mg) (D_later_copies : Def P w K mg base CX0 2 "later_copies" ["displacements", "copy"] (spLater K)) : FnOk P w K mg base CX0 3 f fd ["displacements"] (spInvs K) := by
  refine F.ok sc_inversions_there (fun vs H Q E h => ?_) (fun cdv A outer s H vs Q E hr h => ?_)
  · obtain ⟨a, d, rfl, _⟩ := h
    rfl
  · obtain ⟨a, d, rfl, hd, hn, hn2, k⟩ := h
    refine ⟨_, PSs.nox (pss_cons (ps_set (i := 1) sc_inversions_there.nd rfl (Or.inl rfl) (pe_lst pa_nil))
    (pss_cons (ps_for PassesOwn.never rfl (pi_range1 (by rfl) fr.range (pa_cons (pe_callB (lenq (K := K) rfl) (by rfl) fr.len (by decide +kernel) (pa_cons (pv 0) pa_nil)) pa_nil)) (pg_name (i := 2) sc_inversions_there.nd rfl (Or.inr rfl))
    (pss_one (ps_aug (i := 1) sc_inversions_there.nd rfl (Or.inl rfl) (pe_lc (own := [("z", 3)]) rfl sc_inversions_there.nd (pil (K := K) rfl (pe_def D_later_copies (hr.mono (by decide)) (pa_cons (pv 0) (pa_cons (pv 2) pa_nil)))) (blkOk_by (own := [("z", 3)]) (N := N_inversions_there) (sc := defScope st_inversions_there) (by decide +kernel)) (fun _ _ _ _ _ => (pg_name (i := 3) sc_inversions_there.nd rfl (Or.inl rfl))) (fun _ _ _ _ _ => pts_nil) (fun _ _ _ _ _ => (pe_tup (pa_cons (pv 2) (pa_cons (pv 3) pa_nil))))) iop_ext)))
    (pss_one (ps_ret (pv 1))))), ?_⟩
    rw [sg_inversions_there]
    tm_at "r"
    w_call pf n1 H1 e1 h1 u1 z
    tm_at "r"
    refine r_lenT (ex_t e1 hd) ?_
    rw [List.length_map]
    tm_at "r"
    refine ⟨_, rfl, by omega, by omega, ?_⟩
    rw [show ((d.length : Nat) : Int).toNat = d.length from rfl]
    refine for_run walk0 (fun i σ H' => (∃ v2 v3, σ = [some (.ref a), some (.ref pf), v2, v3]) ∧ Ex H H' ∧ ∃ ys, H' pf = some (.lst ys) ∧ Tups H' ((List.range i).flatMap fun (x : Nat) => (later d x).map fun z => [(x : Int), z]) ys ∧ ys.length ≤ 50 * i) ?_ (fun _ _ _ _ _ => trivial) ?_ ?_
    · exact ⟨⟨_, _, rfl⟩, e1, [], h1, Tups.nil, by simp⟩
    · rintro i x σ H' H'' hi ⟨⟨v2, v3, rfl⟩, e2, ys, hy, ty, hl⟩ ⟨rfl, rfl⟩
      tm_at "r"
      refine ⟨a, d, (i : Int), rfl, ex_t e2 hd, hn, hn2, by omega, by omega, fun pl H3 e3 hl3 => ?_⟩
      refine ⟨_, rfl, ⟨_, SqL.of hl3⟩, ?_⟩
      have hll := later_len d i
      refine lc_tups walk_list (fun _ => true) (fun j => [(i : Int), (later d i).getD j 0]) (fun _ e => SqL.of (e _ _ hl3)) (by rw [List.length_map]; omega) ?_ ?_
      · rintro D j x H4 H5 acc KN KY hj e5 ⟨rfl, hx⟩ hD hy5 _ h2
        refine ⟨rfl, ?_⟩
        rw [List.length_map] at hj
        rw [List.getElem?_map, List.getElem?_eq_getElem hj] at hx
        cases hx
        tm_at "r"
        w_call p n6 H6 e6 h6 u6 z6
        refine h2 rfl p H6 e6 ?_
        rw [h6, List.getD_eq_getElem?_getD, List.getElem?_eq_getElem hj] <;> rfl
      · intro D H4 zs hD e4 h4 tz
        have hy4 := e4 _ _ (e3 _ _ hy)
        have lz : zs.length = (later d i).length := by rw [← tz.len, filter_yes, List.length_map, List.length_range, List.length_map]
        refine r_ext hy4 h4 (by omega) ?_
        have te := TEx.lst (o := .lst (ys ++ zs)) hy4
        refine ⟨⟨_, _, rfl⟩, Ex.mut ((e2.trans e3).trans e4) n1, ys ++ zs, upd_same, ?_, by rw [List.length_append]; omega⟩
        rw [List.range_succ, List.flatMap_append]
        refine ((ty.mono (TEx.of (e3.trans e4))).mono te).app ?_
        have tz2 := tz.mono te
        rw [filter_yes, List.length_map, map_range_getD (later d i) 0 (fun z => [(i : Int), z])] at tz2
        simpa using tz2
    · rintro σ H' ⟨⟨v2, v3, rfl⟩, e2, ys, hy, ty, hl⟩
      tm_at "r"
      exact k pf H' ys e2 hy ty
end
end SW
end

section
set_option Elab.async false
set_option linter.all false
set_option maxRecDepth 100000
set_option maxHeartbeats 4000000
namespace SW
open PySem PySem.Spec PyProof.Rows L2 Evl
local macro_rules | `(tactic| tm_at "r1") => `(tactic| first
  | ((with_reducible refine' r_var ?hx ?_); (case hx => exact rfl))
  | with_reducible refine r_c ?_
  | with_reducible refine r_op ?_
  | with_reducible refine r_I0 ?_
  | with_reducible refine r_un ?_
  | with_reducible refine r_U ?_
  | with_reducible refine r_cons ?_
  | with_reducible refine r_nil ?_
  | with_reducible refine r_call ?_
  | with_reducible refine r_cb ?_
  | with_reducible refine r_test ?_
  | with_reducible refine r_blp ?_
  | with_reducible refine r_tYes ?_
  | with_reducible refine r_ifT ?_
  | with_reducible refine r_ifF ?_
  | ((with_reducible refine' r_aug ?hx ?_); (case hx => exact rfl))
  | with_reducible refine r_seq ?_
  | with_reducible refine r_asg ?_
  | with_reducible refine r_gname ?_
  | with_reducible refine r_ret ?_
  | with_reducible refine r_tup ?_
  | with_reducible refine r_lst ?_
  | with_reducible refine r_ifS ?_
  | with_reducible refine r_par ?_
  | with_reducible refine r_two ?_
  | with_reducible refine r_lc ?_
  | with_reducible refine r_rng1 ?_
  | with_reducible refine r_rng2 ?_
  | with_reducible refine r_iList ?_
  | with_reducible refine r_iTup ?_
  | with_reducible refine r_for ?_
  | with_reducible refine r_not ?_
  | with_reducible refine r_and ?_
  | with_reducible refine r_or ?_
  | with_reducible refine r_andV ?_
  | with_reducible refine r_orV ?_
  | with_reducible refine r_notV ?_
  | with_reducible refine r_if ?_
  | with_reducible refine r_chain ?_
  | with_reducible refine r_B ?_
  | with_reducible refine r_next ?_
  | with_reducible refine r_drop ?_
  | with_reducible refine r_retN ?_
  | with_reducible refine r_ipI ?_
  | ((with_reducible refine' r_sz ?hz ?_); (case hz => exact Nat.le_of_ble_eq_true rfl))
  | with_reducible refine r_gCons ?_
  | with_reducible refine r_gNil ?_
  | with_reducible refine r_par3 ?_
  | with_reducible refine r_three ?_
  | with_reducible refine r_listRg ?_
  | with_reducible refine r_tupRg ?_
  | with_reducible refine r_augS ?_
  | with_reducible refine r_lenSetT ?_
  | with_reducible refine r_lenSetL ?_
  | with_reducible refine r_ifNT ?_
  | with_reducible refine r_ifNF ?_
  | with_reducible refine r_eqI ?_
  | with_reducible refine r_neI ?_
  | with_reducible refine r_eqS ?_
  | with_reducible refine r_neS ?_
  | with_reducible refine r_bm ?_
  | with_reducible refine r_bt ?_
  | with_reducible refine r_iEnT ?_
  | with_reducible refine r_iEnL ?_
  | with_reducible refine r_dc ?_
  | with_reducible refine r_dget ?_
  | with_reducible refine r_dput ?_
  | with_reducible refine r_sl ?_
  | with_reducible refine r_noP ?_
  | with_reducible refine r_part ?_
  | with_reducible refine r_revL ?_
  | with_reducible refine r_gSub ?_)
local macro_rules | `(tactic| tm_at "r") => `(tactic| repeat tm_at "r1")
local macro_rules | `(tactic| w_call $p $n $H1 $e $h $u $z) => `(tactic| (intro $p:ident $n:ident; generalize $u:ident : upd _ $p:ident _ = $H1:ident; obtain ⟨$e, $h⟩ := new_of $n:ident $u:ident))
/-! tables, places, refusals -/
theorem valV_app {l m : List (Key × V)} {k : Key} : valV (l ++ m) k = (valV l k).or (valV m k) := by
  unfold valV
  rw [List.find?_append]
  cases l.find? fun kv => decide (kv.1 = k) <;> rfl
/-- the pairs that a comprehension gives, all keys different -/
def pairsOf (key : Nat → Key) (val : Nat → V) (n : Nat) : List (Key × V) := (List.range n).map fun i => (key i, val i)
theorem pairsOf_succ (key : Nat → Key) (val : Nat → V) (n : Nat) : pairsOf key val (n + 1) = pairsOf key val n ++ [(key n, val n)] := by
  unfold pairsOf
  rw [List.range_succ, List.map_append] <;> rfl
theorem pairsOf_no {key : Nat → Key} {val : Nat → V} {k : Key} : ∀ {n : Nat}, (∀ j, j < n → key j ≠ k) → valV (pairsOf key val n) k = none
  | 0, _ => rfl
  | n + 1, h => by
    rw [pairsOf_succ, valV_app, pairsOf_no fun j hj => h j (Nat.lt_succ_of_lt hj), valV_neg (h n (Nat.lt_succ_self n))]
    rfl
theorem pairsOf_at {key : Nat → Key} {val : Nat → V} : ∀ {n i : Nat}, i < n → (∀ j, j < i → key j ≠ key i) → valV (pairsOf key val n) (key i) = some (val i)
  | 0, _, h, _ => absurd h (Nat.not_lt_zero _)
  | n + 1, i, h, hd => by
    rw [pairsOf_succ, valV_app]
    by_cases e : i = n
    · subst e
      rw [pairsOf_no hd, valV_pos rfl]
      rfl
    · rw [pairsOf_at (n := n) (by omega) hd]
      rfl
section
variable {σ : L2.St} {H : Hp} {Q : VK} {wi : TI} {g : TG} {tt : TT} {tk tv : TE} {vs : List Nat}
theorem dc_run {J : It} {n : Nat} {G : Hp → Prop} {Y : Nat → Hp → V → Hp → Prop} (w : L2.Walk J n G Y) (key : Nat → Key) (val : Nat → V) (inj : ∀ i j, i < j → j < n → key i ≠ key j) (hG : ∀ H', Ex H H' → G H') (hn : n ≤ 100000)
    (body : ∀ (D : Addr) (i : Nat) (x : V) (H' H'' : Hp) (kvs : List (Key × V)) (KN : Hp → Prop) (KY : V → V → Hp → Prop), i < n → Ex H H' → Y i H' x H'' → H D = none → H' D = some (.dK kvs) →
      (∀ H4, Ex H' H4 → KY (kV (key i)) (val i) H4) →
      g x (wipe σ vs) H'' fun σ2 H2 => wipe σ2 vs = wipe σ vs ∧ tt σ2 H2 fun b H3 => if b = true then tk σ2 H3 fun y H4 => tv σ2 H4 fun z H5 => KY y z H5 else KN H3)
    (k : ∀ D H', H D = none → Ex H H' → H' D = some (.dK (pairsOf key val n)) → Q (.ref D) H') : tDc (got J) g tt tk tv vs σ H Q := by
  intro D hD
  refine ⟨fun i m H' => m = n - i ∧ i ≤ n ∧ Ex H H' ∧ H' D = some (.dK (pairsOf key val i)), ⟨n, by simp, Nat.zero_le _, Ex.new hD, upd_same⟩, ?_⟩
  rintro i m H' ⟨rfl, hi, e, hy⟩
  have q := hG H' e
  by_cases hlt : i < n
  · refine .inr ⟨w.goes i H' hlt q, fun H'' => i + 1 ≤ n ∧ Ex H H'' ∧ H'' D = some (.dK (pairsOf key val (i + 1))), fun H'' p => ⟨n - (i + 1), by omega, rfl, p⟩, fun x H'' y => ?_⟩
    refine body D i x H' H'' (pairsOf key val i) _ _ hlt e (w.yields i H' x H'' hlt q y) hD hy fun H4 e4 => ?_
    have lz : (pairsOf key val i).length = i := by unfold pairsOf; rw [List.length_map, List.length_range]
    have no : valV (pairsOf key val i) (key i) = none := pairsOf_no fun j hj => inj j i hj hlt
    refine ⟨_, key i, rfl, e4 D _ hy, by rw [lz]; exact sz_lt (by omega), hlt, Ex.mut (e.trans e4) hD, ?_⟩
    rw [putK_new _ no, ← pairsOf_succ]
    exact upd_same
  · have e1 : i = n := by omega
    subst e1
    exact .inl ⟨w.stops H' q, k D H' hD e hy⟩
end
/-- the rankings as they stand: a tuple of tuples -/
def dRk (R : List (List Int)) : PyData := .tuple (R.map dTI)
abbrev RkAt (K : PySem.W.Frag) (H : Hp) (a : Addr) (R : List (List Int)) : Prop := Dp K H (.ref a) (dRk R)
theorem rk_sq {K : PySem.W.Frag} {H : Hp} {a : Addr} {R : List (List Int)} (h : RkAt K H a R) : ∃ xs, SqT K H a xs ∧ xs.length = R.length ∧ ∀ (i : Nat) (r : List Int), R[i]? = some r → ∃ b, xs[i]? = some (.ref b) ∧ SqT K H b (r.map V.int) := by
  obtain ⟨b, xs, e, hs, ha⟩ := tu_sq h
  cases e
  refine ⟨xs, hs, by rw [dpAll_len ha, List.length_map], fun i r hr => ?_⟩
  obtain ⟨v, hv, dv⟩ := dpAll_at (i := i) (d := dTI r) ha (by rw [List.getElem?_map, hr] <;> rfl)
  obtain ⟨b, rfl, hb⟩ := ti_sq dv
  exact ⟨b, hv, hb⟩
/-- a ranking's table -/
def tab (r : List Int) : List (Key × V) := pairsOf (fun i => Sum.inl (r.getD i 0)) (fun i => .int (i : Int)) r.length
abbrev Tabs (H : Hp) (R : List (List Int)) (qs : List Addr) : Prop := Paired (fun r q => H q = some (.dK (tab r))) R qs
theorem getD_inj {r : List Int} (h : r.Nodup) {i j : Nat} (hij : i < j) (hj : j < r.length) : r.getD i 0 ≠ r.getD j 0 := by
  rw [List.getD_eq_getElem?_getD, List.getD_eq_getElem?_getD, List.getElem?_eq_getElem hj, List.getElem?_eq_getElem (Nat.lt_trans hij hj)]
  exact List.pairwise_iff_getElem.mp h i j (Nat.lt_trans hij hj) hj hij
theorem tab_at {r : List Int} (h : r.Nodup) {x : Int} (hx : x ∈ r) : valV (tab r) (Sum.inl x : Key) = some (.int (r.idxOf x : Nat)) := by
  have hj : r.idxOf x < r.length := List.idxOf_lt_length_iff.mpr hx
  have e : r.getD (r.idxOf x) 0 = x := by rw [List.getD_eq_getElem?_getD, List.getElem?_eq_getElem hj, List.getElem_idxOf] <;> rfl
  have q := pairsOf_at (key := fun i => (Sum.inl (r.getD i 0) : Key)) (val := fun i => V.int (i : Int)) hj (fun j hj2 z => getD_inj h hj2 hj (Sum.inl.inj z))
  rw [e] at q
  exact q
theorem Tabs.at {H : Hp} {R : List (List Int)} {qs : List Addr} (t : Tabs H R qs) : ∀ {i : Nat} {r : List Int}, R[i]? = some r → ∃ q, qs[i]? = some q ∧ H q = some (.dK (tab r)) := by
  induction t with
  | nil => intro i r e; simp at e
  | cons h t ih =>
    intro i r e
    cases i with
    | zero =>
      cases e
      exact ⟨_, rfl, h⟩
    | succ i => exact ih (i := i) (by simpa using e)
theorem Tabs.ex {H H' : Hp} {R : List (List Int)} {qs : List Addr} (t : Tabs H R qs) (e : Ex H H') : Tabs H' R qs := Paired.mapP t fun _ _ h => e _ _ h
section
variable {P : Program} {w : World} {K : PySem.W.Frag} {mg : Str → Option Value} {base : Heap} {f : Addr} {fd : FuncData}
def spTables (K : PySem.W.Frag) : Sp := fun vs H Q _ => ∃ (a : Addr) (R : List (List Int)), vs = [.ref a] ∧ RkAt K H a R ∧ RkOk R ∧ ∀ p H' qs, Ex H H' → H' p = some (.lst (qs.map V.ref)) → Tabs H' R qs → Q (.ref p) H'
abbrev sc2_rank_tables : Scope := match defBody st_rank_tables with
  | [.Return (some (.ListComp _ _ sc _)) _] => sc
  | _ => ⟨.function, [], false, false, []⟩
abbrev N_rank_tables : List PySem.Str := ["rankings", "place", "item", "ranking"]
theorem sc_rank_tables : FnScope N_rank_tables ["rankings"] (defScope st_rank_tables) := ⟨rfl, rfl, rfl, by decide +kernel, rfl, by decide +kernel, by decide +kernel⟩
theorem sg_rank_tables (v0 : V) : L2.start N_rank_tables [v0] = [some v0, none, none, none] := rfl
theorem bi_rank_tables {K : PySem.W.Frag} {f : Addr} {fd : FuncData} (F : FnP K "rank_tables" st_rank_tables f fd) : Binds K fd ["rankings"] [] := F.bindsN fun _ _ _ _ _ _ us hl => match us, hl with | [_], _ => rfl

-- 0:rankings 1:place 2:item 3:ranking
theorem ok_rank_tables (F : FnP K "rank_tables" st_rank_tables f fd) (fr : Free mg) : FnOk P w K mg base CX0 1 f fd ["rankings"] (spTables K) := by
  refine F.ok sc_rank_tables (fun vs H Q E h => ?_) (fun cdv A outer s H vs Q E hr h => ?_)
  · obtain ⟨a, R, rfl, _⟩ := h
    rfl
  · obtain ⟨a, R, rfl, hR, ok, k⟩ := h
    refine ⟨_, PSs.nox (pss_one (ps_ret (pe_lc (own := [("ranking", 3)]) rfl sc_rank_tables.nd (pit (K := K) rfl (pv 0)) (blkOk_by (own := [("ranking", 3)]) (N := N_rank_tables) (sc := defScope st_rank_tables) (by decide +kernel)) (fun _ _ _ _ _ => (pg_name (i := 3) sc_rank_tables.nd rfl (Or.inl rfl))) (fun _ _ _ _ _ => pts_nil) (fun _ _ _ _ _ => (pe_dc (own := [("place", 1), ("item", 2)]) rfl sc_rank_tables.nd (pienT (K := K) rfl (by rfl) fr.enumerate (pa_cons (pv 3) pa_nil)) (blkOk_by (own := [("place", 1), ("item", 2)]) (N := N_rank_tables) (sc := sc2_rank_tables) (by decide +kernel)) (fun _ _ _ _ _ => (pgt (n := 2) (K := K) rfl rfl (pgs_cons (pg_name (i := 1) sc_rank_tables.nd rfl (Or.inl rfl)) (pgs_cons (pg_name (i := 2) sc_rank_tables.nd rfl (Or.inl rfl)) pgs_nil)))) (fun _ _ _ _ _ => pts_nil) (fun _ _ _ _ _ => (pv 2)) (fun _ _ _ _ _ => (pv 1))))))), ?_⟩
    rw [sg_rank_tables]
    tm_at "r"
    obtain ⟨xs, hx, hl, hat⟩ := rk_sq hR
    refine ⟨_, rfl, ⟨_, hx⟩, ?_⟩
    have hlo := ok.lo
    have hhi := ok.hi
    refine lc_run walk_tup (fun _ => true) (fun D i y H' => ∃ q, y = .ref q ∧ q ≠ D ∧ H' q = some (.dK (tab (R.getD i [])))) (fun D i y H1 H2 h ⟨q, e, n, z⟩ => ⟨q, e, n, h q _ n z⟩) (fun _ e => ex_t e hx) (by omega) ?_ ?_
    · rintro D i x H1 H2 acc KN KY hi e1 ⟨rfl, hxi⟩ hD hy _ h2
      have hi2 : i < R.length := by rw [← hl]; exact hi
      obtain ⟨b, hb, hsb⟩ := hat i R[i] (List.getElem?_eq_getElem hi2)
      rw [hb] at hxi
      cases hxi
      have hrm : R[i] ∈ R := List.getElem_mem hi2
      have hrl := ok.len _ hrm
      refine ⟨rfl, ?_⟩
      tm_at "r"
      have hb2 := ex_t e1 hsb
      refine ⟨_, _, rfl, hb2, ?_⟩
      refine dc_run walkEI (fun j => Sum.inl (R[i].getD j 0)) (fun j => .int (j : Int)) (fun j m hjm hm z => getD_inj (ok.nd _ hrm) hjm hm (Sum.inl.inj z)) (fun _ e => ex_t e hb2) (by omega) ?_ ?_
      · rintro D2 j x H3 H4 kvs KN2 KY2 hj e2 ⟨T, rfl, nT, rfl⟩ hD2 hy2 h3
        refine r_gTup (SqT.of upd_same) rfl ?_
        tm_at "r"
        refine ⟨rfl, ?_⟩
        tm_at "r"
        exact h3 _ (Ex.new nT)
      · intro D2 H3 hD2 e2 hy2
        refine h2 rfl _ H3 e2 ⟨D2, rfl, (ne_of_none hy hD2).symm, ?_⟩
        rw [hy2, List.getD_eq_getElem?_getD, List.getElem?_eq_getElem hi2] <;> rfl
    · intro D H' ys hD e hy pr
      rw [filter_yes, hl] at pr
      have : ∃ qs : List Addr, ys = qs.map V.ref ∧ Tabs H' R qs := by
        have e3 : R = (List.range R.length).map (fun i => R.getD i []) := (List.map_id R).symm.trans (map_range_getD R [] id).symm
        rw [e3]
        clear hy e3
        generalize List.range R.length = l at pr ⊢
        induction pr with
        | nil => exact ⟨[], rfl, .nil⟩
        | cons h t ih =>
          obtain ⟨q, rfl, _, z⟩ := h
          obtain ⟨qs, rfl, t2⟩ := ih
          exact ⟨q :: qs, rfl, .cons z t2⟩
      obtain ⟨qs, rfl, t⟩ := this
      exact k D H' qs e hy t
end
end SW
end

section
set_option Elab.async false
set_option linter.all false
set_option maxRecDepth 100000
set_option maxHeartbeats 4000000
namespace SW
open PySem PySem.Spec PyProof.Rows L2 Evl
local macro_rules | `(tactic| tm_at "r1") => `(tactic| first
  | ((with_reducible refine' r_var ?hx ?_); (case hx => exact rfl))
  | with_reducible refine r_c ?_
  | with_reducible refine r_op ?_
  | with_reducible refine r_I0 ?_
  | with_reducible refine r_un ?_
  | with_reducible refine r_U ?_
  | with_reducible refine r_cons ?_
  | with_reducible refine r_nil ?_
  | with_reducible refine r_call ?_
  | with_reducible refine r_cb ?_
  | with_reducible refine r_test ?_
  | with_reducible refine r_blp ?_
  | with_reducible refine r_tYes ?_
  | with_reducible refine r_ifT ?_
  | with_reducible refine r_ifF ?_
  | ((with_reducible refine' r_aug ?hx ?_); (case hx => exact rfl))
  | with_reducible refine r_seq ?_
  | with_reducible refine r_asg ?_
  | with_reducible refine r_gname ?_
  | with_reducible refine r_ret ?_
  | with_reducible refine r_tup ?_
  | with_reducible refine r_lst ?_
  | with_reducible refine r_ifS ?_
  | with_reducible refine r_par ?_
  | with_reducible refine r_two ?_
  | with_reducible refine r_lc ?_
  | with_reducible refine r_rng1 ?_
  | with_reducible refine r_rng2 ?_
  | with_reducible refine r_iList ?_
  | with_reducible refine r_iTup ?_
  | with_reducible refine r_for ?_
  | with_reducible refine r_not ?_
  | with_reducible refine r_and ?_
  | with_reducible refine r_or ?_
  | with_reducible refine r_andV ?_
  | with_reducible refine r_orV ?_
  | with_reducible refine r_notV ?_
  | with_reducible refine r_if ?_
  | with_reducible refine r_chain ?_
  | with_reducible refine r_B ?_
  | with_reducible refine r_next ?_
  | with_reducible refine r_drop ?_
  | with_reducible refine r_retN ?_
  | with_reducible refine r_ipI ?_
  | ((with_reducible refine' r_sz ?hz ?_); (case hz => exact Nat.le_of_ble_eq_true rfl))
  | with_reducible refine r_gCons ?_
  | with_reducible refine r_gNil ?_
  | with_reducible refine r_par3 ?_
  | with_reducible refine r_three ?_
  | with_reducible refine r_listRg ?_
  | with_reducible refine r_tupRg ?_
  | with_reducible refine r_augS ?_
  | with_reducible refine r_lenSetT ?_
  | with_reducible refine r_lenSetL ?_
  | with_reducible refine r_ifNT ?_
  | with_reducible refine r_ifNF ?_
  | with_reducible refine r_eqI ?_
  | with_reducible refine r_neI ?_
  | with_reducible refine r_eqS ?_
  | with_reducible refine r_neS ?_
  | with_reducible refine r_bm ?_
  | with_reducible refine r_bt ?_
  | with_reducible refine r_iEnT ?_
  | with_reducible refine r_iEnL ?_
  | with_reducible refine r_dc ?_
  | with_reducible refine r_dget ?_
  | with_reducible refine r_dput ?_
  | with_reducible refine r_sl ?_
  | with_reducible refine r_noP ?_
  | with_reducible refine r_part ?_
  | with_reducible refine r_revL ?_
  | with_reducible refine r_gSub ?_)
local macro_rules | `(tactic| tm_at "r") => `(tactic| repeat tm_at "r1")
local macro_rules | `(tactic| w_call $p $n $H1 $e $h $u $z) => `(tactic| (intro $p:ident $n:ident; generalize $u:ident : upd _ $p:ident _ = $H1:ident; obtain ⟨$e, $h⟩ := new_of $n:ident $u:ident))
section
variable {P : Program} {w : World} {K : PySem.W.Frag} {mg : Str → Option Value} {base : Heap} {f : Addr} {fd : FuncData}
theorem tabs_look {H : Hp} {R : List (List Int)} {qs : List Addr} (t : Tabs H R qs) (ok : RkOk R) {p x : Int} (hp : 0 ≤ p ∧ p < R.length) (hx : 0 ≤ x ∧ x < R.length) :
    ∃ q, atI (qs.map V.ref) p = some (.ref q) ∧ DGet H q (.int x) (some (.int (rk R p x))) := by
  have hl : p.toNat < R.length := by omega
  obtain ⟨q, h1, h2⟩ := t.at (List.getElem?_eq_getElem hl)
  have hm : R[p.toNat] ∈ R := List.getElem_mem hl
  refine ⟨q, at_of (j := p.toNat) (by omega) (by rw [List.getElem?_map, h1] <;> rfl), ?_⟩
  have d := DGet.k (k := (Sum.inl x : Key)) h2
  rw [tab_at (ok.nd _ hm) (ok.has _ hm x hx.1 hx.2)] at d
  have e : rk R p x = (R[p.toNat].idxOf x : Nat) := by
    unfold rk
    rw [List.getD_eq_getElem?_getD, List.getElem?_eq_getElem hl] <;> rfl
  rw [e]
  exact d
def spMay (K : PySem.W.Frag) : Sp := fun vs H Q _ => ∃ (t ar : Addr) (qs : List Addr) (R : List (List Int)) (A : List Int) (p : Int), vs = [.ref t, .ref ar, .int p] ∧ SqL K H t (qs.map V.ref) ∧ Tabs H R qs ∧ RkOk R ∧
  SqL K H ar (A.map V.int) ∧ A.length = R.length ∧ (∀ x ∈ A, 0 ≤ x ∧ x < R.length) ∧ 0 ≤ p ∧ p < R.length ∧ Q (.bl (mayT R A p)) H
abbrev N_is_ring_swap_allowed : List PySem.Str := ["tables", "arrangement", "swap", "other", "own", "new"]
theorem sc_is_ring_swap_allowed : FnScope N_is_ring_swap_allowed ["tables", "arrangement", "swap"] (defScope st_is_ring_swap_allowed) := ⟨rfl, rfl, rfl, by decide +kernel, rfl, by decide +kernel, by decide +kernel⟩
theorem sg_is_ring_swap_allowed (v0 v1 v2 : V) : L2.start N_is_ring_swap_allowed [v0, v1, v2] = [some v0, some v1, some v2, none, none, none] := rfl
theorem bi_is_ring_swap_allowed {K : PySem.W.Frag} {f : Addr} {fd : FuncData} (F : FnP K "is_ring_swap_allowed" st_is_ring_swap_allowed f fd) : Binds K fd ["tables", "arrangement", "swap"] [] := F.bindsN fun _ _ _ _ _ _ us hl => match us, hl with | [_, _, _], _ => rfl

-- 0:tables 1:arrangement 2:swap 3:other 4:own 5:new
theorem ok_is_ring_swap_allowed (F : FnP K "is_ring_swap_allowed" st_is_ring_swap_allowed f fd) (fr : Free mg) : FnOk P w K mg base CX0 1 f fd ["tables", "arrangement", "swap"] (spMay K) := by
  refine F.ok sc_is_ring_swap_allowed (fun vs H Q E h => ?_) (fun cdv A outer s H vs Q E hr h => ?_)
  · obtain ⟨t, ar, qs, R, A, p, rfl, _⟩ := h
    rfl
  · obtain ⟨t, ar, qs, R, A, p, rfl, ht, tb, ok, ha, hl, hA, h0, h1, k⟩ := h
    have hu := hu_of hr
    refine ⟨_, PSs.nox (pss_cons (ps_set (i := 3) sc_is_ring_swap_allowed.nd rfl (Or.inl rfl) (pe_op op_mod (pe_op op_add (pv 2) pe_int) (pe_callB (lenq (K := K) rfl) (by rfl) fr.len (by decide +kernel) (pa_cons (pv 1) pa_nil))))
    (pss_cons (ps_par (i := 4) (j := 5) rfl sc_is_ring_swap_allowed.nd rfl rfl (by decide) rfl rfl (pa_cons (pe_ix (ixl (K := K) rfl) (pv 1) (pv 2) (fun _ _ => rfl)) (pa_cons (pe_ix (ixl (K := K) rfl) (pv 1) (pv 3) (fun _ _ => rfl)) pa_nil)) (by rfl))
    (pss_one (ps_ret (pe_and (pe_cmpR op_lt (pe_dget hu (pe_ix (ixl (K := K) rfl) (pv 0) (pv 2) (fun _ _ => rfl)) (pv 5) (fun _ _ => rfl)) (pe_dget hu (pe_ix (ixl (K := K) rfl) (pv 0) (pv 2) (fun _ _ => rfl)) (pv 4) (fun _ _ => rfl)) (nomark _)) (pe_one (pe_cmpR op_lt (pe_dget hu (pe_ix (ixl (K := K) rfl) (pv 0) (pv 3) (fun _ _ => rfl)) (pv 4) (fun _ _ => rfl)) (pe_dget hu (pe_ix (ixl (K := K) rfl) (pv 0) (pv 3) (fun _ _ => rfl)) (pv 5) (fun _ _ => rfl)) (nomark _)))))))), ?_⟩
    rw [sg_is_ring_swap_allowed]
    have hlo := ok.lo
    tm_at "r"
    refine r_lenL ha ?_
    rw [List.length_map]
    refine r_I (by omega) ?_
    have q0 : 0 ≤ (p + 1) % (A.length : Int) := Int.emod_nonneg _ (by omega)
    have q1 : (p + 1) % (A.length : Int) < A.length := Int.emod_lt_of_pos _ (by omega)
    tm_at "r"
    refine r_ixL ha (ix_at h0 (by omega)) ?_
    tm_at "r"
    refine r_ixL ha (ix_at q0 q1) ?_
    tm_at "r"
    have a1 := hA _ (ix_mem (A := A) h0 (by omega))
    have a2 := hA _ (ix_mem (A := A) q0 q1)
    obtain ⟨d1, e1, g1⟩ := tabs_look tb ok ⟨h0, h1⟩ a2
    obtain ⟨d2, e2, g2⟩ := tabs_look tb ok ⟨h0, h1⟩ a1
    obtain ⟨d3, e3, g3⟩ := tabs_look tb ok ⟨q0, by omega⟩ a1
    obtain ⟨d4, e4, g4⟩ := tabs_look tb ok ⟨q0, by omega⟩ a2
    refine r_ixL ht e1 ?_
    tm_at "r"
    refine ⟨_, _, rfl, g1, ?_⟩
    tm_at "r"
    refine r_ixL ht e2 ?_
    tm_at "r"
    refine ⟨_, _, rfl, g2, ?_⟩
    tm_at "r"
    refine r_ite (fun hb => ?_) (fun hb => ?_)
    · tm_at "r"
      refine r_ixL ht e3 ?_
      tm_at "r"
      refine ⟨_, _, rfl, g3, ?_⟩
      tm_at "r"
      refine r_ixL ht e4 ?_
      tm_at "r"
      refine ⟨_, _, rfl, g4, ?_⟩
      tm_at "r"
      unfold mayT at k
      rw [hb] at k
      exact k
    · unfold mayT at k
      rw [hb] at k
      exact k
def spPlace (K : PySem.W.Frag) : Sp := fun vs H Q _ => ∃ (a : Addr) (d : List Int) (x z : Int), vs = [.ref a, .int x, .int z] ∧ SqT K H a (d.map V.int) ∧ 3 ≤ d.length ∧ d.length ≤ 20 ∧ -1000 ≤ x ∧ x ≤ 1000 ∧ -1000 ≤ z ∧ z ≤ 1000 ∧
  ∀ H', Ex H H' → Q (.int (placeT d x z)) H'
abbrev N_place_there : List PySem.Str := ["displacements", "x", "z", "left", "y"]
theorem sc_place_there : FnScope N_place_there ["displacements", "x", "z"] (defScope st_place_there) := ⟨rfl, rfl, rfl, by decide +kernel, rfl, by decide +kernel, by decide +kernel⟩
theorem sg_place_there (v0 v1 v2 : V) : L2.start N_place_there [v0, v1, v2] = [some v0, some v1, some v2, none, none] := rfl
theorem bi_place_there {K : PySem.W.Frag} {f : Addr} {fd : FuncData} (F : FnP K "place_there" st_place_there f fd) : Binds K fd ["displacements", "x", "z"] [] := F.bindsN fun _ _ _ _ _ _ us hl => match us, hl with | [_, _, _], _ => rfl

-- 0:displacements* 1:x 2:z 3:left 4:y
theorem ok_place_there (F : FnP K "place_there" st_place_there f fd) (fr : Free mg) (D_end_of_copy : Def P w K mg base CX0 1 "end_of_copy" ["displacements", "copy"] (spEoc K)) : FnOk P w K mg base CX0 2 f fd ["displacements", "x", "z"] (spPlace K) := by
  refine F.ok sc_place_there (fun vs H Q E h => ?_) (fun cdv A outer s H vs Q E hr h => ?_)
  · obtain ⟨a, d, x, z, rfl, _⟩ := h
    rfl
  · obtain ⟨a, d, x, z, rfl, hd, hn, hn2, hx, hx2, hz, hz2, k⟩ := h
    refine ⟨_, PSs.nox (pss_cons (ps_setLc (i := 3) (own := [("y", 4)]) rfl sc_place_there.nd rfl rfl (sw_true rfl rfl rfl (by decide +kernel)) (pi_range2 (by rfl) fr.range (pa_cons (pe_op op_add (pv 1) pe_int) (pa_cons (pv 2) pa_nil))) (blkOk_by (own := [("y", 4)]) (N := N_place_there) (sc := defScope st_place_there) (by decide +kernel)) (fun _ _ _ _ _ => (pg_name (i := 4) sc_place_there.nd rfl (Or.inl rfl))) (fun _ _ _ _ _ => pts_one (pt_cmpR op_lt (pe_def D_end_of_copy (hr.mono (by decide)) (pa_cons (pv 0) (pa_cons (pv 4) pa_nil))) (pv 4) (nomark _))) (fun _ _ _ _ _ => (pv 4)))
    (pss_one (ps_ret (pe_op op_mod (pe_op op_add (pv 1) (pe_callB (lenq (K := K) rfl) (by rfl) fr.len (by decide +kernel) (pa_cons (pv 3) pa_nil))) (pe_callB (lenq (K := K) rfl) (by rfl) fr.len (by decide +kernel) (pa_cons (pv 0) pa_nil)))))), ?_⟩
    rw [sg_place_there]
    tm_at "r"
    refine ⟨_, _, rfl, rg_ok (by omega), ?_⟩
    refine lc_vals walk_range (fun i => decide (eoc d (x + 1 + (i : Int)) < x + 1 + (i : Int))) (fun i => .int (x + 1 + (i : Int))) (fun _ _ => trivial) (by omega) ?_ ?_
    · rintro D i v H' H'' acc KN KY hi e2 ⟨rfl, rfl⟩ hD hy h1 h2
      refine ⟨rfl, ?_⟩
      tm_at "r"
      refine ⟨a, d, _, rfl, ex_t e2 hd, by omega, ?_⟩
      tm_at "r"
      refine r_ite (fun hb => ?_) (fun hb => h1 hb _ (Ex.refl _))
      tm_at "r"
      exact h2 hb _ (Ex.refl _)
    · intro D H' hD e2 h2
      tm_at "r"
      refine r_lenL (SqL.of h2) ?_
      tm_at "r"
      refine r_lenT (ex_t e2 hd) ?_
      rw [List.length_map, List.length_map]
      refine r_I (by omega) ?_
      have q := k H' e2
      have e : placeT d x z = (x + (((List.range (z - (x + 1)).toNat).filter fun (i : Nat) => decide (eoc d (x + 1 + (i : Int)) < x + 1 + (i : Int))).length : Nat)) % (d.length : Int) := by
        unfold placeT rgI
        rw [List.filter_map, List.length_map]
        rfl
      rw [e] at q
      exact q
theorem findSome_take_succ {α β : Type} {g : α → Option β} {l : List α} {i : Nat} (hi : i < l.length) (h : (l.take i).findSome? g = none) : (l.take (i + 1)).findSome? g = g l[i] := by
  rw [List.take_succ, List.getElem?_eq_getElem hi, List.findSome?_append, h]
  simp
theorem findSome_of_take {α β : Type} {g : α → Option β} {l : List α} {i : Nat} {b : β} (hi : i < l.length) (h : (l.take i).findSome? g = none) (hb : g l[i] = some b) : l.findSome? g = some b := by
  have e : l = l.take (i + 1) ++ l.drop (i + 1) := (List.take_append_drop _ _).symm
  rw [e, List.findSome?_append, findSome_take_succ hi h, hb] <;> rfl
def spTrip (K : PySem.W.Frag) : Sp := fun vs H Q _ => ∃ (a : Addr) (d : List Int), vs = [.ref a] ∧ SqT K H a (d.map V.int) ∧ 3 ≤ d.length ∧ d.length ≤ 20 ∧
  (tripT d = none → ∀ H', Ex H H' → Q .non H') ∧ ∀ t, tripT d = some t → ∀ p H', Ex H H' → H' p = some (.tup (t.map V.int)) → Q (.ref p) H'
abbrev N_triple_there : List PySem.Str := ["displacements", "x", "y", "later"]
theorem sc_triple_there : FnScope N_triple_there ["displacements"] (defScope st_triple_there) := ⟨rfl, rfl, rfl, by decide +kernel, rfl, by decide +kernel, by decide +kernel⟩
theorem sg_triple_there (v0 : V) : L2.start N_triple_there [v0] = [some v0, none, none, none] := rfl
theorem bi_triple_there {K : PySem.W.Frag} {f : Addr} {fd : FuncData} (F : FnP K "triple_there" st_triple_there f fd) : Binds K fd ["displacements"] [] := F.bindsN fun _ _ _ _ _ _ us hl => match us, hl with | [_], _ => rfl

-- 0:displacements 1:x 2:y 3:later
theorem ok_triple_there (F : FnP K "triple_there" st_triple_there f fd) (fr : Free mg) (D_later_copies : Def P w K mg base CX0 2 "later_copies" ["displacements", "copy"] (spLater K))
    (D_inversions_there : Def P w K mg base CX0 3 "inversions_there" ["displacements"] (spInvs K)) : FnOk P w K mg base CX0 4 f fd ["displacements"] (spTrip K) := by
  refine F.ok sc_triple_there (fun vs H Q E h => ?_) (fun cdv A outer s H vs Q E hr h => ?_)
  · obtain ⟨a, d, rfl, _⟩ := h
    rfl
  · obtain ⟨a, d, rfl, hd, hn, hn2, k0, k1⟩ := h
    have hu64 := hr.units
    refine ⟨_, PSs.nox (pss_cons (ps_for PassesOwn.never rfl (pil (K := K) rfl (pe_def D_inversions_there (hr.mono (by decide)) (pa_cons (pv 0) pa_nil))) (pgt (n := 2) (K := K) rfl rfl (pgs_cons (pg_name (i := 1) sc_triple_there.nd rfl (Or.inl rfl)) (pgs_cons (pg_name (i := 2) sc_triple_there.nd rfl (Or.inl rfl)) pgs_nil)))
    (pss_cons (ps_set (i := 3) sc_triple_there.nd rfl (Or.inl rfl) (pe_def D_later_copies (hr.mono (by decide)) (pa_cons (pv 0) (pa_cons (pv 2) pa_nil))))
      (pss_one (ps_if (pt_cmpR (ned (K := K) rfl hu64) (pv 3) (pe_lst pa_nil) (nomark _)) (pss_one (ps_ret (pe_tup (pa_cons (pv 1) (pa_cons (pv 2) (pa_cons (pe_ix (ixl (K := K) rfl) (pv 3) pe_int (fun _ _ => rfl)) pa_nil)))))) pss_nil))))
    (pss_one (ps_ret pe_non))), ?_⟩
    rw [sg_triple_there]
    tm_at "r"
    refine ⟨a, d, rfl, hd, hn, hn2, fun p H1 ys e1 hp ty => ?_⟩
    refine ⟨_, rfl, ⟨_, SqL.of hp⟩, ?_⟩
    refine for_run walkTups (fun i σ H' => (∃ v1 v2 v3, σ = [some (.ref a), v1, v2, v3]) ∧ Ex H1 H' ∧ ((invs d).take i).findSome? (trStep d) = none) ⟨⟨_, _, _, rfl⟩, Ex.refl _, rfl⟩ (fun i σ H' _ q => ⟨SqL.of (q.2.1 _ _ hp), ty.mono (TEx.of q.2.1)⟩) ?_ ?_
    · rintro i x σ H2 H3 hi ⟨⟨v1, v2, v3, rfl⟩, e2, hno⟩ ⟨rfl, q, rfl, hq⟩
      have hm : (invs d)[i] ∈ invs d := List.getElem_mem hi
      have eg : (invs d).getD i [] = (invs d)[i] := by rw [List.getD_eq_getElem?_getD, List.getElem?_eq_getElem hi] <;> rfl
      obtain ⟨x, z, eq, hx, hx2, hz⟩ := invs_mem hm
      have hzb := later_bd hz
      rw [eg, eq] at hq
      have hq : H3 q = some (.tup [.int x, .int z]) := hq
      refine r_gTup (SqT.of hq) rfl ?_
      tm_at "r"
      refine ⟨a, d, z, rfl, ex_t (e1.trans e2) hd, hn, hn2, by omega, by omega, fun pl H4 e4 hl => ?_⟩
      tm_at "r"
      w_call pe n5 H5 e5 h5 u5 z5
      refine ⟨dLI (later d z), .list [], dp_li (SqL.of (e5 _ _ hl)), .lst (SqL.of h5) .nil, sh_li _, sh_nilL, ?_⟩
      tm_at "r"
      rw [eqv_li_nil]
      have hy1 : ix [x, z] 1 = z := rfl
      refine r_ite (fun hb => ?_) (fun hb => ?_)
      · have hne : later d z ≠ [] := by simpa using hb
        have hl2 : 0 < (later d z).length := List.length_pos_iff.mpr hne
        tm_at "r"
        refine r_ixL (SqL.of (e5 _ _ hl)) (ix_at (by omega) (by omega)) ?_
        tm_at "r"
        w_call pt n6 H6 e6 h6 u6 z6
        refine k1 [x, z, ix (later d z) 0] (findSome_of_take hi hno ?_) pt H6 (((e1.trans e2).trans e4).trans (e5.trans e6)) h6
        rw [eq]
        unfold trStep
        rw [hy1, if_neg hne] <;> rfl
      · have hne : later d z = [] := by simpa using hb
        tm_at "r"
        refine ⟨⟨_, _, _, rfl⟩, (e2.trans e4).trans e5, ?_⟩
        rw [findSome_take_succ hi hno, eq]
        unfold trStep
        rw [hy1, if_pos hne]
    · rintro σ H' ⟨⟨v1, v2, v3, rfl⟩, e2, hno⟩
      rw [List.take_length] at hno
      tm_at "r"
      exact k0 hno H' (e1.trans e2)
def spRef (K : PySem.W.Frag) : Sp := fun vs H Q _ => ∃ (t a : Addr) (qs : List Addr) (R : List (List Int)) (d : List Int) (x z : Int), vs = [.ref t, .ref a, .int x, .int z] ∧ SqL K H t (qs.map V.ref) ∧ Tabs H R qs ∧ RkOk R ∧
  SqT K H a (d.map V.int) ∧ d.length = R.length ∧ -1000 ≤ x ∧ x ≤ 1000 ∧ -1000 ≤ z ∧ z ≤ 1000 ∧ ∀ p H' ys, Ex H H' → H' p = some (.lst ys) → Tups H' (refT R d x z) ys → Q (.ref p) H'
abbrev N_refusals_there : List PySem.Str := ["tables", "displacements", "x", "z", "size", "place", "other", "found"]
theorem sc_refusals_there : FnScope N_refusals_there ["tables", "displacements", "x", "z"] (defScope st_refusals_there) := ⟨rfl, rfl, rfl, by decide +kernel, rfl, by decide +kernel, by decide +kernel⟩
theorem sg_refusals_there (v0 v1 v2 v3 : V) : L2.start N_refusals_there [v0, v1, v2, v3] = [some v0, some v1, some v2, some v3, none, none, none, none] := rfl
theorem bi_refusals_there {K : PySem.W.Frag} {f : Addr} {fd : FuncData} (F : FnP K "refusals_there" st_refusals_there f fd) : Binds K fd ["tables", "displacements", "x", "z"] [] := F.bindsN fun _ _ _ _ _ _ us hl => match us, hl with | [_, _, _, _], _ => rfl

-- 0:tables 1:displacements 2:x 3:z 4:size 5:place 6:other 7:found
theorem ok_refusals_there (F : FnP K "refusals_there" st_refusals_there f fd) (fr : Free mg) (D_place_there : Def P w K mg base CX0 2 "place_there" ["displacements", "x", "z"] (spPlace K)) : FnOk P w K mg base CX0 3 f fd ["tables", "displacements", "x", "z"] (spRef K) := by
  refine F.ok sc_refusals_there (fun vs H Q E h => ?_) (fun cdv A outer s H vs Q E hr h => ?_)
  · obtain ⟨t, a, qs, R, d, x, z, rfl, _⟩ := h
    rfl
  · obtain ⟨t, a, qs, R, d, x, z, rfl, ht, tb, ok, hd, hl, hx, hx2, hz, hz2, k⟩ := h
    have hu := hu_of hr
    have hlo := ok.lo
    have hhi := ok.hi
    refine ⟨_, PSs.nox (pss_cons (ps_par (i := 4) (j := 5) rfl sc_refusals_there.nd rfl rfl (by decide) rfl rfl (pa_cons (pe_callB (lenq (K := K) rfl) (by rfl) fr.len (by decide +kernel) (pa_cons (pv 1) pa_nil)) (pa_cons (pe_def D_place_there (hr.mono (by decide)) (pa_cons (pv 1) (pa_cons (pv 2) (pa_cons (pv 3) pa_nil)))) pa_nil)) (by rfl))
    (pss_cons (ps_par (i := 6) (j := 7) rfl sc_refusals_there.nd rfl rfl (by decide) rfl rfl (pa_cons (pe_op op_mod (pe_op op_add (pv 5) pe_int) (pv 4)) (pa_cons (pe_lst pa_nil) pa_nil)) (by rfl))
    (Evl.pss_cut (ps_if (pt_cmpR op_gt (pe_dget hu (pe_ix (ixl (K := K) rfl) (pv 0) (pv 5) (fun _ _ => rfl)) (pe_op op_mod (pv 3) (pv 4)) (fun _ _ => rfl)) (pe_dget hu (pe_ix (ixl (K := K) rfl) (pv 0) (pv 5) (fun _ _ => rfl)) (pe_op op_mod (pv 2) (pv 4)) (fun _ _ => rfl)) (nomark _)) (pss_one (ps_expr (bmq (K := K) rfl PySem.F.plainAttrs_list PySem.F.slot_list_append PySem.F.type_list_append mt_append (pv 7) (pa_cons (pe_tup (pa_cons (pv 5) (pa_cons (pv 2) (pa_cons (pv 3) (pa_cons (pv 5) pa_nil))))) pa_nil)))) pss_nil)
    (Evl.pss_cut (ps_if (pt_cmpR op_gt (pe_dget hu (pe_ix (ixl (K := K) rfl) (pv 0) (pv 6) (fun _ _ => rfl)) (pe_op op_mod (pv 2) (pv 4)) (fun _ _ => rfl)) (pe_dget hu (pe_ix (ixl (K := K) rfl) (pv 0) (pv 6) (fun _ _ => rfl)) (pe_op op_mod (pv 3) (pv 4)) (fun _ _ => rfl)) (nomark _)) (pss_one (ps_expr (bmq (K := K) rfl PySem.F.plainAttrs_list PySem.F.slot_list_append PySem.F.type_list_append mt_append (pv 7) (pa_cons (pe_tup (pa_cons (pv 5) (pa_cons (pv 2) (pa_cons (pv 3) (pa_cons (pv 6) pa_nil))))) pa_nil)))) pss_nil)
    (pss_one (ps_ret (pv 7))))))), ?_⟩
    rw [sg_refusals_there]
    tm_at "r"
    refine r_lenT hd ?_
    rw [List.length_map]
    tm_at "r"
    refine ⟨a, d, x, z, rfl, hd, by omega, by omega, hx, hx2, hz, hz2, fun H1 e1 => ?_⟩
    have pb := placeT_bd (d := d) (by omega) x z
    generalize hpl : placeT d x z = pl at pb
    have ob : 0 ≤ (pl + 1) % (d.length : Int) ∧ (pl + 1) % (d.length : Int) < d.length := ⟨Int.emod_nonneg _ (by omega), Int.emod_lt_of_pos _ (by omega)⟩
    have xb : 0 ≤ x % (d.length : Int) ∧ x % (d.length : Int) < d.length := ⟨Int.emod_nonneg _ (by omega), Int.emod_lt_of_pos _ (by omega)⟩
    have zb : 0 ≤ z % (d.length : Int) ∧ z % (d.length : Int) < d.length := ⟨Int.emod_nonneg _ (by omega), Int.emod_lt_of_pos _ (by omega)⟩
    tm_at "r"
    refine r_I (by omega) ?_
    tm_at "r"
    w_call pf n2 H2 e2 h2 u2 z2
    tm_at "r"
    have e02 := e1.trans e2
    have tb2 := tb.ex e02
    have ht2 := ex_l e02 ht
    rw [hl] at pb ob xb zb ⊢
    obtain ⟨d1, a1, g1⟩ := tabs_look tb2 ok pb zb
    obtain ⟨d2, a2, g2⟩ := tabs_look tb2 ok pb xb
    refine r_cut (fun σ' H3 => σ' = [some (.ref t), some (.ref a), some (.int x), some (.int z), some (.int (R.length : Int)), some (.int pl), some (.int ((pl + 1) % (R.length : Int))), some (.ref pf)] ∧ Ex H1 H3 ∧ ∃ ys, H3 pf = some (.lst ys) ∧ ys.length ≤ 1 ∧
      Tups H3 (if rk R pl (x % R.length) < rk R pl (z % R.length) then [[pl, x, z, pl]] else []) ys) ?_ ?_
    · tm_at "r"
      refine r_ixL ht2 a1 ?_
      tm_at "r"
      refine r_I (by omega) ?_
      refine ⟨_, _, rfl, g1, ?_⟩
      tm_at "r"
      refine r_ixL ht2 a2 ?_
      tm_at "r"
      refine r_I (by omega) ?_
      refine ⟨_, _, rfl, g2, ?_⟩
      tm_at "r"
      refine r_ite (fun hb => ?_) (fun hb => ?_)
      · tm_at "r"
        refine ⟨ty_l (SqL.of h2), ?_⟩
        tm_at "r"
        w_call p3 n3 H3 e3 h3 u3 z3
        tm_at "r"
        refine r_app (e3 _ _ h2) (Nat.zero_lt_succ _) ?_
        rw [if_pos (of_decide_eq_true hb)]
        exact ⟨rfl, Ex.mut (e2.trans e3) n2, _, upd_same, Nat.le_refl _, (Tups.one h3).mono (TEx.lst (e3 _ _ h2))⟩
      · tm_at "r"
        rw [if_neg (of_decide_eq_false hb)]
        exact ⟨rfl, e2, _, h2, Nat.zero_le _, Tups.nil⟩
    · rintro σ' H3 ⟨rfl, e3, ys, hy, ly, ty⟩
      have e03 := e1.trans e3
      have ht3 := ex_l e03 ht
      obtain ⟨d3, a3, g3⟩ := tabs_look (tb.ex e03) ok ob xb
      obtain ⟨d4, a4, g4⟩ := tabs_look (tb.ex e03) ok ob zb
      unfold refT at k
      rw [hpl, hl] at k
      tm_at "r"
      refine r_cut (fun σ' H4 => σ'[7]? = some (some (.ref pf)) ∧ ∀ Q' : VK, (∀ p H' ys, Ex H H' → H' p = some (.lst ys) → Tups H' ((if rk R pl (x % R.length) < rk R pl (z % R.length) then [[pl, x, z, pl]] else []) ++
        (if rk R ((pl + 1) % R.length) (z % R.length) < rk R ((pl + 1) % R.length) (x % R.length) then [[pl, x, z, (pl + 1) % R.length]] else [])) ys → Q' (.ref p) H') → Q' (.ref pf) H4) ?_ ?_
      · tm_at "r"
        refine r_ixL ht3 a3 ?_
        tm_at "r"
        refine r_I (by omega) ?_
        refine ⟨_, _, rfl, g3, ?_⟩
        tm_at "r"
        refine r_ixL ht3 a4 ?_
        tm_at "r"
        refine r_I (by omega) ?_
        refine ⟨_, _, rfl, g4, ?_⟩
        tm_at "r"
        refine r_ite (fun hb => ?_) (fun hb => ?_)
        · tm_at "r"
          refine ⟨ty_l (SqL.of hy), ?_⟩
          tm_at "r"
          w_call p4 n4 H4 e4 h4 u4 z4
          tm_at "r"
          refine r_app (e4 _ _ hy) (by omega) ?_
          rw [if_pos (of_decide_eq_true hb)]
          have te := TEx.lst (o := .lst (ys ++ [.ref p4])) (e4 _ _ hy)
          exact ⟨rfl, fun Q' hQ => hQ pf _ _ (e1.trans (Ex.mut (e3.trans e4) n2)) upd_same (((ty.mono (TEx.of e4)).mono te).app ((Tups.one h4).mono te))⟩
        · tm_at "r"
          rw [if_neg (of_decide_eq_false hb), List.append_nil]
          exact ⟨rfl, fun Q' hQ => hQ pf H3 ys e03 hy ty⟩
      · rintro σ' H4 ⟨hs, hQ⟩
        refine r_ret ⟨_, hs, hQ Q k⟩
end
end SW
end

section
set_option Elab.async false
set_option linter.all false
set_option maxRecDepth 100000
set_option maxHeartbeats 4000000
namespace SW
open PySem PySem.Spec PyProof.Rows L2 Evl
local macro_rules | `(tactic| tm_at "r1") => `(tactic| first
  | ((with_reducible refine' r_var ?hx ?_); (case hx => exact rfl))
  | with_reducible refine r_c ?_
  | with_reducible refine r_op ?_
  | with_reducible refine r_I0 ?_
  | with_reducible refine r_un ?_
  | with_reducible refine r_U ?_
  | with_reducible refine r_cons ?_
  | with_reducible refine r_nil ?_
  | with_reducible refine r_call ?_
  | with_reducible refine r_cb ?_
  | with_reducible refine r_test ?_
  | with_reducible refine r_blp ?_
  | with_reducible refine r_tYes ?_
  | with_reducible refine r_ifT ?_
  | with_reducible refine r_ifF ?_
  | ((with_reducible refine' r_aug ?hx ?_); (case hx => exact rfl))
  | with_reducible refine r_seq ?_
  | with_reducible refine r_asg ?_
  | with_reducible refine r_gname ?_
  | with_reducible refine r_ret ?_
  | with_reducible refine r_tup ?_
  | with_reducible refine r_lst ?_
  | with_reducible refine r_ifS ?_
  | with_reducible refine r_par ?_
  | with_reducible refine r_two ?_
  | with_reducible refine r_lc ?_
  | with_reducible refine r_rng1 ?_
  | with_reducible refine r_rng2 ?_
  | with_reducible refine r_iList ?_
  | with_reducible refine r_iTup ?_
  | with_reducible refine r_for ?_
  | with_reducible refine r_not ?_
  | with_reducible refine r_and ?_
  | with_reducible refine r_or ?_
  | with_reducible refine r_andV ?_
  | with_reducible refine r_orV ?_
  | with_reducible refine r_notV ?_
  | with_reducible refine r_if ?_
  | with_reducible refine r_chain ?_
  | with_reducible refine r_B ?_
  | with_reducible refine r_next ?_
  | with_reducible refine r_drop ?_
  | with_reducible refine r_retN ?_
  | with_reducible refine r_ipI ?_
  | ((with_reducible refine' r_sz ?hz ?_); (case hz => exact Nat.le_of_ble_eq_true rfl))
  | with_reducible refine r_gCons ?_
  | with_reducible refine r_gNil ?_
  | with_reducible refine r_par3 ?_
  | with_reducible refine r_three ?_
  | with_reducible refine r_listRg ?_
  | with_reducible refine r_tupRg ?_
  | with_reducible refine r_augS ?_
  | with_reducible refine r_lenSetT ?_
  | with_reducible refine r_lenSetL ?_
  | with_reducible refine r_ifNT ?_
  | with_reducible refine r_ifNF ?_
  | with_reducible refine r_eqI ?_
  | with_reducible refine r_neI ?_
  | with_reducible refine r_eqS ?_
  | with_reducible refine r_neS ?_
  | with_reducible refine r_bm ?_
  | with_reducible refine r_bt ?_
  | with_reducible refine r_iEnT ?_
  | with_reducible refine r_iEnL ?_
  | with_reducible refine r_dc ?_
  | with_reducible refine r_dget ?_
  | with_reducible refine r_dput ?_
  | with_reducible refine r_sl ?_
  | with_reducible refine r_noP ?_
  | with_reducible refine r_part ?_
  | with_reducible refine r_revL ?_
  | with_reducible refine r_gSub ?_)
local macro_rules | `(tactic| tm_at "r") => `(tactic| repeat tm_at "r1")
local macro_rules | `(tactic| w_call $p $n $H1 $e $h $u $z) => `(tactic| (intro $p:ident $n:ident; generalize $u:ident : upd _ $p:ident _ = $H1:ident; obtain ⟨$e, $h⟩ := new_of $n:ident $u:ident))
section
variable {K : PySem.W.Frag} {H : Hp} {Q : VK}
theorem ty_tup {a : Addr} {xs : List V} (h : SqT K H a xs) : TyX K H (.ref a) (.type "tuple") := by
  rcases h with (h | ⟨o, h⟩) | ⟨o, its, n, h, hc, _⟩
  · exact .base (.tup h)
  · exact .fTuple h
  · exact .kTuple h hc
theorem r_isiII {i : Int} (q : Q (.bl true) H) : rIsi K [.int i, .ty "int"] H Q := ⟨_, _, .type "int", _, true, rfl, .ty "int", .base (.int i), kit_ty (by decide +kernel), q⟩
theorem r_isiIB {i : Int} (q : Q (.bl false) H) : rIsi K [.int i, .ty "bool"] H Q := ⟨_, _, .type "int", _, false, rfl, .ty "bool", .base (.int i), kit_ty (by decide +kernel), q⟩
theorem r_isiTT {a : Addr} {xs : List V} (h : SqT K H a xs) (q : Q (.bl true) H) : rIsi K [.ref a, .ty "tuple"] H Q := ⟨_, _, .type "tuple", _, true, rfl, .ty "tuple", ty_tup h, kit_ty (by decide +kernel), q⟩
theorem r_isiSS {x : Str} (q : Q (.bl true) H) : rIsi K [.str x, .ty "str"] H Q := ⟨_, _, .type "str", _, true, rfl, .ty "str", .base (.str x), kit_ty (by decide +kernel), q⟩
end
/-- the module's own names that are read -/
structure Glo (K : PySem.W.Frag) (mg : Str → Option Value) : Prop where
  MAX_PEOPLE : ∃ t, mg "MAX_PEOPLE" = some (.int 40 t)
  MAX_RING : ∃ t, mg "MAX_RING" = some (.int 20 t)
  WORDS : ∃ a, mg "WORDS" = some (.ref a) ∧ ∀ H, SqT K H a [.str "refused", .str "sequence", .str "triple"]
section
variable {P : Program} {w : World} {K : PySem.W.Frag} {mg : Str → Option Value} {base : Heap} {f : Addr} {fd : FuncData}
def spIsInt : Sp := fun vs H Q _ => ∃ i : Int, vs = [.int i] ∧ Q (.bl true) H
abbrev N_is_integer : List PySem.Str := ["value"]
theorem sc_is_integer : FnScope N_is_integer ["value"] (defScope st_is_integer) := ⟨rfl, rfl, rfl, by decide +kernel, rfl, by decide +kernel, by decide +kernel⟩
theorem sg_is_integer (v0 : V) : L2.start N_is_integer [v0] = [some v0] := rfl
theorem bi_is_integer {K : PySem.W.Frag} {f : Addr} {fd : FuncData} (F : FnP K "is_integer" st_is_integer f fd) : Binds K fd ["value"] [] := F.bindsN fun _ _ _ _ _ _ us hl => match us, hl with | [_], _ => rfl

theorem ok_is_integer (F : FnP K "is_integer" st_is_integer f fd) (fr : Free mg) : FnOk P w K mg base CX0 1 f fd ["value"] spIsInt := by
  refine F.ok sc_is_integer (fun vs H Q E h => ?_) (fun cdv A outer s H vs Q E hr h => ?_)
  · obtain ⟨i, rfl, _⟩ := h
    rfl
  · obtain ⟨i, rfl, k⟩ := h
    refine ⟨_, PSs.nox (pss_one (ps_ret (pe_and (pe_callB (isiq (K := K) rfl) (by rfl) fr.isinstance (by decide +kernel) (pa_cons (pv 0) (pa_cons (pe_bltn (v := .ty "int") (by rfl) fr.int (by decide +kernel) rfl) pa_nil))) (pe_one (pe_not (pe_callB (isiq (K := K) rfl) (by rfl) fr.isinstance (by decide +kernel) (pa_cons (pv 0) (pa_cons (pe_bltn (v := .ty "bool") (by rfl) fr.bool (by decide +kernel) rfl) pa_nil)))))))), ?_⟩
    rw [sg_is_integer]
    tm_at "r"
    refine r_isiII ?_
    tm_at "r"
    refine r_isiIB ?_
    tm_at "r"
    exact k
def spNumBelow : Sp := fun vs H Q _ => ∃ i n : Int, vs = [.int i, .int n] ∧ Q (.bl (decide (0 ≤ i) && decide (i < n))) H
abbrev N_is_number_below : List PySem.Str := ["value", "limit"]
theorem sc_is_number_below : FnScope N_is_number_below ["value", "limit"] (defScope st_is_number_below) := ⟨rfl, rfl, rfl, by decide +kernel, rfl, by decide +kernel, by decide +kernel⟩
theorem sg_is_number_below (v0 v1 : V) : L2.start N_is_number_below [v0, v1] = [some v0, some v1] := rfl
theorem bi_is_number_below {K : PySem.W.Frag} {f : Addr} {fd : FuncData} (F : FnP K "is_number_below" st_is_number_below f fd) : Binds K fd ["value", "limit"] [] := F.bindsN fun _ _ _ _ _ _ us hl => match us, hl with | [_, _], _ => rfl

theorem ok_is_number_below (F : FnP K "is_number_below" st_is_number_below f fd) (fr : Free mg) (D_is_integer : Def P w K mg base CX0 1 "is_integer" ["value"] spIsInt) : FnOk P w K mg base CX0 2 f fd ["value", "limit"] spNumBelow := by
  refine F.ok sc_is_number_below (fun vs H Q E h => ?_) (fun cdv A outer s H vs Q E hr h => ?_)
  · obtain ⟨i, n, rfl, _⟩ := h
    rfl
  · obtain ⟨i, n, rfl, k⟩ := h
    refine ⟨_, PSs.nox (pss_one (ps_ret (pe_and (pe_def D_is_integer (hr.mono (by decide)) (pa_cons (pv 0) pa_nil)) (pe_one (pe_chain op_le op_lt pe_int (pv 0) (pv 1)))))), ?_⟩
    rw [sg_is_number_below]
    tm_at "r"
    refine ⟨i, rfl, ?_⟩
    tm_at "r"
    refine r_ite (fun hb => ?_) (fun hb => ?_)
    · tm_at "r"
      rw [hb] at k
      exact k
    · rw [hb] at k
      exact k
def spIsRanking (K : PySem.W.Frag) : Sp := fun vs H Q _ => ∃ (a : Addr) (r : List Int) (n : Int), vs = [.ref a, .int n] ∧ SqT K H a (r.map V.int) ∧ (r.length : Int) = n ∧ n ≤ 40 ∧ (∀ x ∈ r, 0 ≤ x ∧ x < n) ∧ r.Nodup ∧ ∀ H', Ex H H' → Q (.bl true) H'
abbrev N_is_ranking : List PySem.Str := ["value", "size", "item"]
theorem sc_is_ranking : FnScope N_is_ranking ["value", "size"] (defScope st_is_ranking) := ⟨rfl, rfl, rfl, by decide +kernel, rfl, by decide +kernel, by decide +kernel⟩
theorem sg_is_ranking (v0 v1 : V) : L2.start N_is_ranking [v0, v1] = [some v0, some v1, none] := rfl
theorem bi_is_ranking {K : PySem.W.Frag} {f : Addr} {fd : FuncData} (F : FnP K "is_ranking" st_is_ranking f fd) : Binds K fd ["value", "size"] [] := F.bindsN fun _ _ _ _ _ _ us hl => match us, hl with | [_, _], _ => rfl

-- 0:value 1:size* 2:item
theorem ok_is_ranking (F : FnP K "is_ranking" st_is_ranking f fd) (fr : Free mg) (D_is_number_below : Def P w K mg base CX0 2 "is_number_below" ["value", "limit"] spNumBelow) : FnOk P w K mg base CX0 3 f fd ["value", "size"] (spIsRanking K) := by
  refine F.ok sc_is_ranking (fun vs H Q E h => ?_) (fun cdv A outer s H vs Q E hr h => ?_)
  · obtain ⟨a, r, n, rfl, _⟩ := h
    rfl
  · obtain ⟨a, r, n, rfl, ha, hl, hn, hx, hd, k⟩ := h
    refine ⟨_, PSs.nox (pss_cons (ps_if (PW.pt (pw_or (pt_not (pt_val (pe_callB (isiq (K := K) rfl) (by rfl) fr.isinstance (by decide +kernel) (pa_cons (pv 0) (pa_cons (pe_bltn (v := .ty "tuple") (by rfl) fr.tuple (by decide +kernel) rfl) pa_nil))))) (pw_or (pt_cmpR op_ne (pe_callB (lenq (K := K) rfl) (by rfl) fr.len (by decide +kernel) (pa_cons (pv 0) pa_nil)) (pv 1) (nomark _)) (pw_or1 (pt_not (pt_val (pe_callB (allq (K := K) rfl rfl) (by rfl) fr.all (by decide +kernel) (pa_cons (pe_lc (own := [("item", 2)]) rfl sc_is_ranking.nd (pit (K := K) rfl (pv 0)) (blkOk_by (own := [("item", 2)]) (N := N_is_ranking) (sc := defScope st_is_ranking) (by decide +kernel)) (fun _ _ _ _ _ => (pg_name (i := 2) sc_is_ranking.nd rfl (Or.inl rfl))) (fun _ _ _ _ _ => pts_nil) (fun _ _ _ _ _ => (pe_def D_is_number_below (hr.mono (by decide)) (pa_cons (pv 2) (pa_cons (pv 1) pa_nil))))) pa_nil)))))))) (pss_one (ps_ret pe_bl)) pss_nil)
    (pss_one (ps_ret (pe_cmpR op_eq (lensetT (K := K) rfl rfl (by rfl) fr.len (by rfl) fr.set (pv 0)) (pv 1) (nomark _))))), ?_⟩
    rw [sg_is_ranking]
    tm_at "r"
    refine r_isiTT ha ?_
    tm_at "r"
    refine r_lenT ha ?_
    rw [List.length_map]
    tm_at "r"
    refine r_no (by rw [decide_eq_true hl] <;> rfl) ?_
    tm_at "r"
    refine ⟨_, rfl, ⟨_, ha⟩, ?_⟩
    refine lc_vals walkTI (fun _ => true) (fun _ => .bl true) (fun _ e => ex_t e ha) (by omega) ?_ ?_
    · rintro D i v H' H'' acc KN KY hi e2 ⟨rfl, rfl⟩ hD hy _ h2
      refine ⟨rfl, ?_⟩
      tm_at "r"
      refine ⟨_, _, rfl, ?_⟩
      have hm := hx _ (List.getElem_mem hi)
      rw [getD_at hi] at hm
      rw [decide_eq_true hm.1, decide_eq_true hm.2]
      exact h2 rfl _ (Ex.refl _)
    · intro D H' hD e2 h2
      tm_at "r"
      refine ⟨_, List.replicate r.length true, rfl, SqL.of ?_, ?_⟩
      · rw [h2, filter_yes, List.map_const', List.length_range, List.map_replicate]
      tm_at "r"
      have e3 : (List.replicate r.length true).all id = true := List.all_eq_true.mpr fun b hb => (List.mem_replicate.mp hb).2
      rw [e3]
      tm_at "r"
      refine ⟨_, r, rfl, ex_t e2 ha, hd, by omega, ?_⟩
      tm_at "r"
      rw [decide_eq_true hl]
      exact k H' e2
def spCheckRk (K : PySem.W.Frag) : Sp := fun vs H Q _ => ∃ (a : Addr) (R : List (List Int)), vs = [.ref a] ∧ RkAt K H a R ∧ RkOk R ∧ ∀ H', Ex H H' → Q .non H'
abbrev N_check_rankings : List PySem.Str := ["value", "person", "ranking"]
theorem sc_check_rankings : FnScope N_check_rankings ["value"] (defScope st_check_rankings) := ⟨rfl, rfl, rfl, by decide +kernel, rfl, by decide +kernel, by decide +kernel⟩
theorem sg_check_rankings (v0 : V) : L2.start N_check_rankings [v0] = [some v0, none, none] := rfl
theorem bi_check_rankings {K : PySem.W.Frag} {f : Addr} {fd : FuncData} (F : FnP K "check_rankings" st_check_rankings f fd) : Binds K fd ["value"] [] := F.bindsN fun _ _ _ _ _ _ us hl => match us, hl with | [_], _ => rfl

-- 0:value 1:person 2:ranking
theorem ok_check_rankings (F : FnP K "check_rankings" st_check_rankings f fd) (fr : Free mg) (gl : Glo K mg) (D_is_ranking : Def P w K mg base CX0 3 "is_ranking" ["value", "size"] (spIsRanking K)) : FnOk P w K mg base CX0 4 f fd ["value"] (spCheckRk K) := by
  refine F.ok sc_check_rankings (fun vs H Q E h => ?_) (fun cdv A outer s H vs Q E hr h => ?_)
  · obtain ⟨a, R, rfl, _⟩ := h
    rfl
  · obtain ⟨a, R, rfl, hR, ok, k⟩ := h
    obtain ⟨tP, gP⟩ := gl.MAX_PEOPLE
    have hlo := ok.lo
    have hhi := ok.hi
    obtain ⟨xs, hx, hl, hat⟩ := rk_sq hR
    refine ⟨_, PSs.nox (pss_cons (ps_if (PW.pt (pw_or (pt_not (pt_val (pe_callB (isiq (K := K) rfl) (by rfl) fr.isinstance (by decide +kernel) (pa_cons (pv 0) (pa_cons (pe_bltn (v := .ty "tuple") (by rfl) fr.tuple (by decide +kernel) rfl) pa_nil))))) (pw_or1 (pt_not (pt_chain op_le op_le pe_int (pe_callB (lenq (K := K) rfl) (by rfl) fr.len (by decide +kernel) (pa_cons (pv 0) pa_nil)) (pe_glob (v := .int 40) (by rfl) gP ⟨_, rfl⟩)))))) (pss_one ps_never) pss_nil)
    (pss_one (ps_for PassesOwn.never rfl (pienT (K := K) rfl (by rfl) fr.enumerate (pa_cons (pv 0) pa_nil)) (pgt (n := 2) (K := K) rfl rfl (pgs_cons (pg_name (i := 1) sc_check_rankings.nd rfl (Or.inl rfl)) (pgs_cons (pg_name (i := 2) sc_check_rankings.nd rfl (Or.inl rfl)) pgs_nil)))
    (pss_one (ps_if (pt_not (pt_val (pe_def D_is_ranking (hr.mono (by decide)) (pa_cons (pv 2) (pa_cons (pe_callB (lenq (K := K) rfl) (by rfl) fr.len (by decide +kernel) (pa_cons (pv 0) pa_nil)) pa_nil))))) (pss_one ps_never) pss_nil))))), ?_⟩
    rw [sg_check_rankings]
    tm_at "r"
    refine r_isiTT hx ?_
    tm_at "r"
    refine r_lenT hx ?_
    tm_at "r"
    refine r_yes (decide_eq_true (by omega)) ?_
    tm_at "r"
    rw [decide_eq_true (show (xs.length : Int) ≤ 40 by omega)]
    tm_at "r"
    refine ⟨_, _, rfl, hx, ?_⟩
    refine for_run walkE (fun i σ H' => (∃ v1 v2, σ = [some (.ref a), v1, v2]) ∧ Ex H H') ⟨⟨_, _, rfl⟩, Ex.refl _⟩ (fun i σ H' _ q => ex_t q.2 hx) ?_ ?_
    · rintro i x σ H2 H3 hi ⟨⟨v1, v2, rfl⟩, e2⟩ ⟨T, x1, x2, rfl, nT, rfl, hx1, hx2⟩
      have hi2 : i < R.length := by rw [← hl]; exact hi
      obtain ⟨b, hb, hsb⟩ := hat i R[i] (List.getElem?_eq_getElem hi2)
      have hb2 : xs[i]? = some x2 := hx2
      rw [hb] at hb2
      cases hb2
      have hx1 : some (V.int (i : Int)) = some x1 := hx1
      cases hx1
      have e3 := e2.trans (Ex.new nT (o := .tup [.int (i : Int), .ref b]))
      have hrm : R[i] ∈ R := List.getElem_mem hi2
      refine r_gTup (SqT.of upd_same) rfl ?_
      tm_at "r"
      refine r_lenT (ex_t e3 hx) ?_
      tm_at "r"
      have hrl := ok.len _ hrm
      refine ⟨b, R[i], _, rfl, ex_t e3 hsb, by omega, by omega, fun y hy => ?_, ok.nd _ hrm, fun H4 e4 => ?_⟩
      · have := ok.rng _ hrm y hy
        omega
      · tm_at "r"
        exact ⟨⟨_, _, rfl⟩, e3.trans e4⟩
    · rintro σ H' ⟨⟨v1, v2, rfl⟩, e2⟩
      exact k H' e2
def spCheckDisp (K : PySem.W.Frag) : Sp := fun vs H Q _ => ∃ (a : Addr) (d : List Int), vs = [.ref a] ∧ SqT K H a (d.map V.int) ∧ DispOk d ∧ ∀ H', Ex H H' → Q .non H'
abbrev N_check_displacements : List PySem.Str := ["value", "size", "position", "item", "move"]
theorem sc_check_displacements : FnScope N_check_displacements ["value"] (defScope st_check_displacements) := ⟨rfl, rfl, rfl, by decide +kernel, rfl, by decide +kernel, by decide +kernel⟩
theorem sg_check_displacements (v0 : V) : L2.start N_check_displacements [v0] = [some v0, none, none, none, none] := rfl
theorem bi_check_displacements {K : PySem.W.Frag} {f : Addr} {fd : FuncData} (F : FnP K "check_displacements" st_check_displacements f fd) : Binds K fd ["value"] [] := F.bindsN fun _ _ _ _ _ _ us hl => match us, hl with | [_], _ => rfl

-- 0:value 1:size* 2:position 3:item 4:move
theorem ok_check_displacements (F : FnP K "check_displacements" st_check_displacements f fd) (fr : Free mg) (gl : Glo K mg) (D_is_integer : Def P w K mg base CX0 1 "is_integer" ["value"] spIsInt) : FnOk P w K mg base CX0 2 f fd ["value"] (spCheckDisp K) := by
  refine F.ok sc_check_displacements (fun vs H Q E h => ?_) (fun cdv A outer s H vs Q E hr h => ?_)
  · obtain ⟨a, d, rfl, _⟩ := h
    rfl
  · obtain ⟨a, d, rfl, hd, ok, k⟩ := h
    obtain ⟨tP, gP⟩ := gl.MAX_RING
    have hlo := ok.lo
    have hhi := ok.hi
    refine ⟨_, PSs.nox (pss_cons (ps_if (PW.pt (pw_or (pt_not (pt_val (pe_callB (isiq (K := K) rfl) (by rfl) fr.isinstance (by decide +kernel) (pa_cons (pv 0) (pa_cons (pe_bltn (v := .ty "tuple") (by rfl) fr.tuple (by decide +kernel) rfl) pa_nil))))) (pw_or1 (pt_not (pt_chain op_le op_le pe_int (pe_callB (lenq (K := K) rfl) (by rfl) fr.len (by decide +kernel) (pa_cons (pv 0) pa_nil)) (pe_glob (v := .int 20) (by rfl) gP ⟨_, rfl⟩)))))) (pss_one ps_never) pss_nil)
    (pss_cons (ps_set (i := 1) sc_check_displacements.nd rfl (Or.inr rfl) (pe_callB (lenq (K := K) rfl) (by rfl) fr.len (by decide +kernel) (pa_cons (pv 0) pa_nil)))
    (pss_cons (ps_for PassesOwn.never rfl (pienT (K := K) rfl (by rfl) fr.enumerate (pa_cons (pv 0) pa_nil)) (pgt (n := 2) (K := K) rfl rfl (pgs_cons (pg_name (i := 2) sc_check_displacements.nd rfl (Or.inl rfl)) (pgs_cons (pg_name (i := 3) sc_check_displacements.nd rfl (Or.inl rfl)) pgs_nil)))
    (pss_one (ps_if (PW.pt (pw_or (pt_not (pt_val (pe_def D_is_integer (hr.mono (by decide)) (pa_cons (pv 3) pa_nil)))) (pw_or1 (pt_not (pt_chain op_lt op_lt (pe_un un_neg (pv 1)) (pv 3) (pv 1)))))) (pss_one ps_never) pss_nil)))
    (pss_one (ps_if (PW.pt (pw_or (pt_cmpR op_ne (pe_callB (sumt (K := K) rfl rfl) (by rfl) fr.sum (by decide +kernel) (pa_cons (pv 0) pa_nil)) pe_int (nomark _)) (pw_or1 (pt_cmpR op_ne (lenset (K := K) rfl rfl (by rfl) fr.len (by rfl) fr.set (pe_lc (own := [("item", 3), ("move", 4)]) rfl sc_check_displacements.nd (pienT (K := K) rfl (by rfl) fr.enumerate (pa_cons (pv 0) pa_nil)) (blkOk_by (own := [("item", 3), ("move", 4)]) (N := N_check_displacements) (sc := defScope st_check_displacements) (by decide +kernel)) (fun _ _ _ _ _ => (pgt (n := 2) (K := K) rfl rfl (pgs_cons (pg_name (i := 3) sc_check_displacements.nd rfl (Or.inl rfl)) (pgs_cons (pg_name (i := 4) sc_check_displacements.nd rfl (Or.inl rfl)) pgs_nil)))) (fun _ _ _ _ _ => pts_nil) (fun _ _ _ _ _ => (pe_op op_mod (pe_op op_add (pv 3) (pv 4)) (pv 1))))) (pv 1) (nomark _))))) (pss_one ps_never) pss_nil))))), ?_⟩
    rw [sg_check_displacements]
    tm_at "r"
    refine r_isiTT hd ?_
    tm_at "r"
    refine r_lenT hd ?_
    rw [List.length_map]
    tm_at "r"
    refine r_yes (decide_eq_true (by omega)) ?_
    tm_at "r"
    rw [decide_eq_true (show (d.length : Int) ≤ 20 by omega)]
    tm_at "r"
    refine r_lenT hd ?_
    rw [List.length_map]
    tm_at "r"
    refine ⟨_, _, rfl, hd, ?_⟩
    refine for_run walkEI (fun i σ H' => (∃ v1 v2 v3, σ = [some (.ref a), some (.int (d.length : Int)), v1, v2, v3]) ∧ Ex H H') ⟨⟨_, _, _, rfl⟩, Ex.refl _⟩ (fun i σ H' _ q => ex_t q.2 hd) ?_ ?_
    · rintro i x σ H2 H3 hi ⟨⟨v1, v2, v3, rfl⟩, e2⟩ ⟨T, rfl, nT, rfl⟩
      have e3 := e2.trans (Ex.new nT (o := .tup [.int (i : Int), .int (d.getD i 0)]))
      have hb := ok.rng _ (List.getElem_mem hi)
      rw [getD_at hi] at hb
      refine r_gTup (SqT.of upd_same) rfl ?_
      tm_at "r"
      refine ⟨_, rfl, ?_⟩
      tm_at "r"
      refine r_yes (decide_eq_true hb.1) ?_
      tm_at "r"
      rw [decide_eq_true hb.2]
      tm_at "r"
      exact ⟨⟨_, _, _, rfl⟩, e3⟩
    · rintro σ H' ⟨⟨v1, v2, v3, rfl⟩, e2⟩
      tm_at "r"
      refine ⟨_, _, rfl, ex_t e2 hd, ?_⟩
      tm_at "r"
      rw [decide_eq_true ok.sum]
      tm_at "r"
      refine ⟨_, _, rfl, ex_t e2 hd, ?_⟩
      refine lc_vals walkEI (fun _ => true) (fun i => .int (((i : Int) + d.getD i 0) % (d.length : Int))) (fun _ e => ex_t (e2.trans e) hd) (by omega) ?_ ?_
      · rintro D i x H2 H3 acc KN KY hi e3 ⟨T, rfl, nT, rfl⟩ hD hy _ h2
        refine r_gTup (SqT.of upd_same) rfl ?_
        tm_at "r"
        refine ⟨rfl, ?_⟩
        tm_at "r"
        refine r_I (by omega) ?_
        exact h2 rfl _ (Ex.new nT)
      · intro D H2 hD e3 h2
        refine ⟨_, (List.range d.length).map (fun (i : Nat) => ((i : Int) + d.getD i 0) % (d.length : Int)), rfl, SqL.of ?_, ?_, ok.inj, ?_⟩
        · rw [h2, filter_yes, List.map_map]
          rfl
        · rw [List.length_map, List.length_range]
          omega
        tm_at "r"
        rw [List.length_map, List.length_range, decide_eq_true rfl]
        tm_at "r"
        exact k H2 (e2.trans e3)
def spCheckRing (K : PySem.W.Frag) : Sp := spCheckRk K
abbrev N_check_ring : List PySem.Str := ["rankings"]
theorem sc_check_ring : FnScope N_check_ring ["rankings"] (defScope st_check_ring) := ⟨rfl, rfl, rfl, by decide +kernel, rfl, by decide +kernel, by decide +kernel⟩
theorem sg_check_ring (v0 : V) : L2.start N_check_ring [v0] = [some v0] := rfl
theorem bi_check_ring {K : PySem.W.Frag} {f : Addr} {fd : FuncData} (F : FnP K "check_ring" st_check_ring f fd) : Binds K fd ["rankings"] [] := F.bindsN fun _ _ _ _ _ _ us hl => match us, hl with | [_], _ => rfl

theorem ok_check_ring (F : FnP K "check_ring" st_check_ring f fd) (fr : Free mg) (gl : Glo K mg) (D_check_rankings : Def P w K mg base CX0 4 "check_rankings" ["value"] (spCheckRk K)) : FnOk P w K mg base CX0 5 f fd ["rankings"] (spCheckRk K) := by
  refine F.ok sc_check_ring (fun vs H Q E h => ?_) (fun cdv A outer s H vs Q E hr h => ?_)
  · obtain ⟨a, R, rfl, _⟩ := h
    rfl
  · obtain ⟨a, R, rfl, hR, ok, k⟩ := h
    obtain ⟨tP, gP⟩ := gl.MAX_RING
    have hlo := ok.lo
    have hhi := ok.hi
    obtain ⟨xs, hx, hl, hat⟩ := rk_sq hR
    refine ⟨_, PSs.nox (pss_cons (ps_expr (pe_def D_check_rankings (hr.mono (by decide)) (pa_cons (pv 0) pa_nil)))
    (pss_one (ps_if (pt_not (pt_chain op_le op_le pe_int (pe_callB (lenq (K := K) rfl) (by rfl) fr.len (by decide +kernel) (pa_cons (pv 0) pa_nil)) (pe_glob (v := .int 20) (by rfl) gP ⟨_, rfl⟩))) (pss_one ps_never) pss_nil))), ?_⟩
    rw [sg_check_ring]
    tm_at "r"
    refine ⟨a, R, rfl, hR, ok, fun H1 e1 => ?_⟩
    tm_at "r"
    refine r_lenT (ex_t e1 hx) ?_
    tm_at "r"
    refine r_yes (decide_eq_true (by omega)) ?_
    tm_at "r"
    rw [decide_eq_true (show (xs.length : Int) ≤ 20 by omega)]
    tm_at "r"
    exact k H1 e1
def spCheckBoth (K : PySem.W.Frag) : Sp := fun vs H Q _ => ∃ (a b : Addr) (R : List (List Int)) (d : List Int), vs = [.ref a, .ref b] ∧ RkAt K H a R ∧ RkOk R ∧ SqT K H b (d.map V.int) ∧ DispOk d ∧ d.length = R.length ∧ ∀ H', Ex H H' → Q .non H'
abbrev N_check_both : List PySem.Str := ["rankings", "displacements"]
theorem sc_check_both : FnScope N_check_both ["rankings", "displacements"] (defScope st_check_both) := ⟨rfl, rfl, rfl, by decide +kernel, rfl, by decide +kernel, by decide +kernel⟩
theorem sg_check_both (v0 v1 : V) : L2.start N_check_both [v0, v1] = [some v0, some v1] := rfl
theorem bi_check_both {K : PySem.W.Frag} {f : Addr} {fd : FuncData} (F : FnP K "check_both" st_check_both f fd) : Binds K fd ["rankings", "displacements"] [] := F.bindsN fun _ _ _ _ _ _ us hl => match us, hl with | [_, _], _ => rfl

theorem ok_check_both (F : FnP K "check_both" st_check_both f fd) (fr : Free mg) (D_check_ring : Def P w K mg base CX0 5 "check_ring" ["rankings"] (spCheckRk K))
    (D_check_displacements : Def P w K mg base CX0 2 "check_displacements" ["value"] (spCheckDisp K)) : FnOk P w K mg base CX0 6 f fd ["rankings", "displacements"] (spCheckBoth K) := by
  refine F.ok sc_check_both (fun vs H Q E h => ?_) (fun cdv A outer s H vs Q E hr h => ?_)
  · obtain ⟨a, b, R, d, rfl, _⟩ := h
    rfl
  · obtain ⟨a, b, R, d, rfl, hR, ok, hd, od, hl, k⟩ := h
    obtain ⟨xs, hx, hlx, hat⟩ := rk_sq hR
    refine ⟨_, PSs.nox (pss_cons (ps_expr (pe_def D_check_ring (hr.mono (by decide)) (pa_cons (pv 0) pa_nil)))
    (pss_cons (ps_expr (pe_def D_check_displacements (hr.mono (by decide)) (pa_cons (pv 1) pa_nil)))
    (pss_one (ps_if (pt_cmpR op_ne (pe_callB (lenq (K := K) rfl) (by rfl) fr.len (by decide +kernel) (pa_cons (pv 1) pa_nil)) (pe_callB (lenq (K := K) rfl) (by rfl) fr.len (by decide +kernel) (pa_cons (pv 0) pa_nil)) (nomark _)) (pss_one ps_never) pss_nil)))), ?_⟩
    rw [sg_check_both]
    tm_at "r"
    refine ⟨a, R, rfl, hR, ok, fun H1 e1 => ?_⟩
    tm_at "r"
    refine ⟨b, d, rfl, ex_t e1 hd, od, fun H2 e2 => ?_⟩
    tm_at "r"
    refine r_lenT (ex_t (e1.trans e2) hd) ?_
    tm_at "r"
    refine r_lenT (ex_t (e1.trans e2) hx) ?_
    rw [List.length_map]
    tm_at "r"
    rw [decide_eq_true (show (d.length : Int) = (xs.length : Int) by omega)]
    tm_at "r"
    exact k H2 (e1.trans e2)
end
end SW
end

section
set_option Elab.async false
set_option linter.all false
set_option maxRecDepth 100000
set_option maxHeartbeats 4000000
namespace SW
open PySem PySem.Spec PyProof.Rows L2 Evl
local macro_rules | `(tactic| tm_at "r1") => `(tactic| first
  | ((with_reducible refine' r_var ?hx ?_); (case hx => exact rfl))
  | with_reducible refine r_c ?_
  | with_reducible refine r_op ?_
  | with_reducible refine r_I0 ?_
  | with_reducible refine r_un ?_
  | with_reducible refine r_U ?_
  | with_reducible refine r_cons ?_
  | with_reducible refine r_nil ?_
  | with_reducible refine r_call ?_
  | with_reducible refine r_cb ?_
  | with_reducible refine r_test ?_
  | with_reducible refine r_blp ?_
  | with_reducible refine r_tYes ?_
  | with_reducible refine r_ifT ?_
  | with_reducible refine r_ifF ?_
  | ((with_reducible refine' r_aug ?hx ?_); (case hx => exact rfl))
  | with_reducible refine r_seq ?_
  | with_reducible refine r_asg ?_
  | with_reducible refine r_gname ?_
  | with_reducible refine r_ret ?_
  | with_reducible refine r_tup ?_
  | with_reducible refine r_lst ?_
  | with_reducible refine r_ifS ?_
  | with_reducible refine r_par ?_
  | with_reducible refine r_two ?_
  | with_reducible refine r_lc ?_
  | with_reducible refine r_rng1 ?_
  | with_reducible refine r_rng2 ?_
  | with_reducible refine r_iList ?_
  | with_reducible refine r_iTup ?_
  | with_reducible refine r_for ?_
  | with_reducible refine r_not ?_
  | with_reducible refine r_and ?_
  | with_reducible refine r_or ?_
  | with_reducible refine r_andV ?_
  | with_reducible refine r_orV ?_
  | with_reducible refine r_notV ?_
  | with_reducible refine r_if ?_
  | with_reducible refine r_chain ?_
  | with_reducible refine r_B ?_
  | with_reducible refine r_next ?_
  | with_reducible refine r_drop ?_
  | with_reducible refine r_retN ?_
  | with_reducible refine r_ipI ?_
  | ((with_reducible refine' r_sz ?hz ?_); (case hz => exact Nat.le_of_ble_eq_true rfl))
  | with_reducible refine r_gCons ?_
  | with_reducible refine r_gNil ?_
  | with_reducible refine r_par3 ?_
  | with_reducible refine r_three ?_
  | with_reducible refine r_listRg ?_
  | with_reducible refine r_tupRg ?_
  | with_reducible refine r_augS ?_
  | with_reducible refine r_lenSetT ?_
  | with_reducible refine r_lenSetL ?_
  | with_reducible refine r_ifNT ?_
  | with_reducible refine r_ifNF ?_
  | with_reducible refine r_eqI ?_
  | with_reducible refine r_neI ?_
  | with_reducible refine r_eqS ?_
  | with_reducible refine r_neS ?_
  | with_reducible refine r_bm ?_
  | with_reducible refine r_bt ?_
  | with_reducible refine r_iEnT ?_
  | with_reducible refine r_iEnL ?_
  | with_reducible refine r_dc ?_
  | with_reducible refine r_dget ?_
  | with_reducible refine r_dput ?_
  | with_reducible refine r_sl ?_
  | with_reducible refine r_noP ?_
  | with_reducible refine r_part ?_
  | with_reducible refine r_revL ?_
  | with_reducible refine r_gSub ?_)
local macro_rules | `(tactic| tm_at "r") => `(tactic| repeat tm_at "r1")
local macro_rules | `(tactic| w_call $p $n $H1 $e $h $u $z) => `(tactic| (intro $p:ident $n:ident; generalize $u:ident : upd _ $p:ident _ = $H1:ident; obtain ⟨$e, $h⟩ := new_of $n:ident $u:ident))
section
variable {P : Program} {w : World} {K : PySem.W.Frag} {mg : Str → Option Value} {base : Heap} {f : Addr} {fd : FuncData}
/-- what a fresh object's change keeps -/
theorem exm {H H1 H2 : Hp} {p : Addr} (e : Ex H H1) (n : H p = none) (m : ∀ a u, a ≠ p → H1 a = some u → H2 a = some u) : Ex H H2 := fun a u h => m a u (fun q => by rw [q, n] at h; cases h) (e a u h)
def spSeq (K : PySem.W.Frag) : Sp := fun vs H Q _ => ∃ (a : Addr) (d : List Int), vs = [.ref a] ∧ SqT K H a (d.map V.int) ∧ DispOk d ∧ tripT d = none ∧ ∀ p H' fs, Ex H H' → ExT H' p (fs.map V.int) → SeqFor d fs → Q (.ref p) H'
/-- the state stands in the lists at pr, pf, pa -/
structure SqAt (H : Hp) (pa pr pf : Addr) (s : SqS) : Prop where
  arr : H pa = some (.lst (s.arr.map V.int))
  rest : H pr = some (.lst (s.rest.map V.int))
  found : H pf = some (.lst (s.found.map V.int))
abbrev N_sequence_for : List PySem.Str := ["displacements", "size", "rest", "found", "arrangement", "move", "swap", "other", "right", "left"]
theorem sc_sequence_for : FnScope N_sequence_for ["displacements"] (defScope st_sequence_for) := ⟨rfl, rfl, rfl, by decide +kernel, rfl, by decide +kernel, by decide +kernel⟩
theorem sg_sequence_for (v0 : V) : L2.start N_sequence_for [v0] = [some v0, none, none, none, none, none, none, none, none, none] := rfl
theorem bi_sequence_for {K : PySem.W.Frag} {f : Addr} {fd : FuncData} (F : FnP K "sequence_for" st_sequence_for f fd) : Binds K fd ["displacements"] [] := F.bindsN fun _ _ _ _ _ _ us hl => match us, hl with | [_], _ => rfl

-- 0:displacements 1:size 2:rest 3:found 4:arrangement 5:move 6:swap 7:other 8:right 9:left
theorem ok_sequence_for (F : FnP K "sequence_for" st_sequence_for f fd) (fr : Free mg) : FnOk P w K mg base CX0 1 f fd ["displacements"] (spSeq K) := by
  refine F.ok sc_sequence_for (fun vs H Q E h => ?_) (fun cdv A outer s H vs Q E hr h => ?_)
  · obtain ⟨a, d, rfl, _⟩ := h
    rfl
  · obtain ⟨a, d, rfl, hd, ok, no, k⟩ := h
    have hlo := ok.lo
    have hhi := ok.hi
    refine ⟨_, PSs.nox (pss_cons (ps_par3 (i := 1) (j := 2) (l := 3) rfl sc_sequence_for.nd rfl rfl rfl (by decide) (by decide) (by decide) rfl rfl rfl (pa_cons (pe_callB (lenq (K := K) rfl) (by rfl) fr.len (by decide +kernel) (pa_cons (pv 0) pa_nil)) (pa_cons (pe_callTy (lstq (K := K) rfl) (by rfl) fr.list (by decide +kernel) (pa_cons (pv 0) pa_nil)) (pa_cons (pe_lst pa_nil) pa_nil))) (by rfl))
    (pss_cons (ps_set (i := 4) sc_sequence_for.nd rfl (Or.inl rfl) (pe_listRg rfl (by rfl) fr.list (prg_1 (by rfl) fr.range (pv 1))))
    (pss_cons (ps_while PassesOwn.never (pt_val (pe_callB (anyq (K := K) rfl rfl) (by rfl) fr.any (by decide +kernel) (pa_cons (pe_lc (own := [("move", 5)]) rfl sc_sequence_for.nd (pil (K := K) rfl (pv 2)) (blkOk_by (own := [("move", 5)]) (N := N_sequence_for) (sc := defScope st_sequence_for) (by decide +kernel)) (fun _ _ _ _ _ => (pg_name (i := 5) sc_sequence_for.nd rfl (Or.inl rfl))) (fun _ _ _ _ _ => pts_nil) (fun _ _ _ _ _ => (pe_cmpR op_ne (pv 5) pe_int (nomark _)))) pa_nil)))
    (pss_one (ps_for PassesOwn.never rfl (pi_range1 (by rfl) fr.range (pa_cons (pv 1) pa_nil)) (pg_name (i := 6) sc_sequence_for.nd rfl (Or.inl rfl))
      (pss_cons (ps_set (i := 7) sc_sequence_for.nd rfl (Or.inl rfl) (pe_op op_mod (pe_op op_add (pv 6) pe_int) (pv 1)))
        (pss_cons (ps_par (i := 8) (j := 9) rfl sc_sequence_for.nd rfl rfl (by decide) rfl rfl (pa_cons (pe_ix (ixl (K := K) rfl) (pv 4) (pv 6) (fun _ _ => rfl)) (pa_cons (pe_ix (ixl (K := K) rfl) (pv 4) (pv 7) (fun _ _ => rfl)) pa_nil)) (by rfl))
        (pss_one (ps_if (PW.pt (pw_and (pt_cmpR op_gt (pe_ix (ixl (K := K) rfl) (pv 2) (pv 8) (fun _ _ => rfl)) pe_int (nomark _)) (pw_and1 (pt_cmpR op_lt (pe_ix (ixl (K := K) rfl) (pv 2) (pv 9) (fun _ _ => rfl)) pe_int (nomark _))))) (pss_cons (ps_augS (pv 2) (pv 8) (getl (K := K) rfl) pe_int ip_sub set_list)
          (pss_cons (ps_augS (pv 2) (pv 9) (getl (K := K) rfl) pe_int ip_add set_list)
          (pss_cons (ps_asg (pe_tup (pa_cons (pv 9) (pa_cons (pv 8) pa_nil))) (pgt (n := 2) (K := K) rfl rfl (pgs_cons (pg_sub (pv 4) (pv 6) set_list) (pgs_cons (pg_sub (pv 4) (pv 7) set_list) pgs_nil))))
          (pss_one (ps_expr (bmq (K := K) rfl PySem.F.plainAttrs_list PySem.F.slot_list_append PySem.F.type_list_append mt_append (pv 3) (pa_cons (pv 6) pa_nil))))))) pss_nil)))))))
    (pss_one (ps_ret (pe_callTy (tupx (K := K) rfl) (by rfl) fr.tuple (by decide +kernel) (pa_cons (pv 3) pa_nil))))))), ?_⟩
    rw [sg_sequence_for]
    tm_at "r"
    refine r_lenT hd ?_
    rw [List.length_map]
    tm_at "r"
    refine r_lstOf (.inr hd) fun pr H1 n1 e1 h1 => ?_
    tm_at "r"
    w_call pf n2 H2 e2 h2 u2 z2
    tm_at "r"
    refine ⟨_, rfl, rg0_ok (by omega), ?_⟩
    rw [rgV_eq]
    w_call pa n3 H3 e3 h3 u3 z3
    have npr : H pr = none := n1
    have npf : H pf = none := fresh_back e1 n2
    have npa : H pa = none := fresh_back (e1.trans e2) n3
    have d1 : pr ≠ pf := ne_of_none h1 n2
    have d2 : pr ≠ pa := ne_of_none (e2 _ _ h1) n3
    have d3 : pf ≠ pa := ne_of_none h2 n3
    tm_at "r"
    have main : ∀ (s : SqS) (v5 v6 v7 v8 v9 : Option V) (H4 : Hp), Run d s → Ex H H4 → SqAt H4 pa pr pf s → True := fun _ _ _ _ _ _ _ _ _ _ => trivial
    refine ⟨fun m σ H4 => (∃ v5 v6 v7 v8 v9, σ = [some (.ref a), some (.int (d.length : Int)), some (.ref pr), some (.ref pf), some (.ref pa), v5, v6, v7, v8, v9]) ∧ Ex H H4 ∧ ∃ s, Run d s ∧ SqAt H4 pa pr pf s ∧ mu s.rest = m,
      ⟨_, ⟨_, _, _, _, _, rfl⟩, (e1.trans e2).trans e3, sq0 d, .init, ⟨h3, e3 _ _ (e2 _ _ h1), e3 _ _ h2⟩, rfl⟩, ?_⟩
    rintro m σ H4 ⟨⟨v5, v6, v7, v8, v9, rfl⟩, e4, s, rs, at4, rfl⟩
    obtain ⟨la, lr, ra⟩ := run_ok ok rs
    tm_at "r"
    refine ⟨_, rfl, ⟨_, SqL.of at4.rest⟩, ?_⟩
    refine lc_vals walkLI (fun _ => true) (fun i => .bl (!decide (s.rest.getD i 0 = 0))) (fun _ e => SqL.of (e _ _ at4.rest)) (by omega) ?_ ?_
    · rintro D i v H' H'' acc KN KY hi e5 ⟨rfl, rfl⟩ hD hy _ hY
      refine ⟨rfl, ?_⟩
      tm_at "r"
      exact hY rfl _ (Ex.refl _)
    · intro D H5 hD e5 h5
      tm_at "r"
      refine ⟨_, (List.range s.rest.length).map fun i => !decide (s.rest.getD i 0 = 0), rfl, SqL.of ?_, ?_⟩
      · rw [h5, filter_yes, List.map_map]
        rfl
      tm_at "r"
      rw [map_range_getD s.rest 0 (fun x => !decide (x = 0)), List.any_map]
      have at5 : SqAt H5 pa pr pf s := ⟨e5 _ _ at4.arr, e5 _ _ at4.rest, e5 _ _ at4.found⟩
      refine r_ite (fun hb => ?_) (fun hb => ?_)
      · -- a sweep: some swap is made
        have hne : ∃ x ∈ s.rest, x ≠ 0 := by
          obtain ⟨x, hx, hx2⟩ := List.any_eq_true.mp hb
          exact ⟨x, hx, by simpa using hx2⟩
        obtain ⟨p0, p1, p2, p3⟩ := run_goes ok no rs hne
        refine ⟨fun σ' H' => (∃ v5 v6 v7 v8 v9, σ' = [some (.ref a), some (.int (d.length : Int)), some (.ref pr), some (.ref pf), some (.ref pa), v5, v6, v7, v8, v9]) ∧ Ex H H' ∧ ∃ s', Run d s' ∧ SqAt H' pa pr pf s' ∧ mu s'.rest < mu s.rest,
          fun σ' H' ⟨q1, q2, s', q3, q4, q5⟩ => ⟨_, q5, q1, q2, s', q3, q4, rfl⟩, ?_⟩
        tm_at "r"
        refine ⟨_, rfl, by omega, by omega, ?_⟩
        rw [show ((d.length : Nat) : Int).toNat = d.length from rfl]
        refine for_run walk0 (fun i σ' H' => (∃ v5 v6 v7 v8 v9, σ' = [some (.ref a), some (.int (d.length : Int)), some (.ref pr), some (.ref pf), some (.ref pa), v5, v6, v7, v8, v9]) ∧ Ex H H' ∧ ∃ s', Run d s' ∧ SqAt H' pa pr pf s' ∧
          (mu s'.rest < mu s.rest ∨ (s' = s ∧ ∀ j : Nat, j < i → canSw d.length s (j : Int) = false))) ⟨⟨_, _, _, _, _, rfl⟩, e4.trans e5, s, rs, at5, .inr ⟨rfl, fun j hj => absurd hj (Nat.not_lt_zero _)⟩⟩ (fun _ _ _ _ _ => trivial) ?_ ?_
        · rintro i x σ' H6 H7 hi ⟨⟨w5, w6, w7, w8, w9, rfl⟩, e6, s', rs', at6, hm⟩ ⟨rfl, rfl⟩
          obtain ⟨la', lr', ra'⟩ := run_ok ok rs'
          have q0 : 0 ≤ ((i : Int) + 1) % (d.length : Int) := Int.emod_nonneg _ (by omega)
          have q1 : ((i : Int) + 1) % (d.length : Int) < d.length := Int.emod_lt_of_pos _ (by omega)
          have a1 := ra' _ (ix_mem (A := s'.arr) (p := (i : Int)) (by omega) (by omega))
          have a2 := ra' _ (ix_mem (A := s'.arr) q0 (by omega))
          tm_at "r"
          refine r_I (by omega) ?_
          tm_at "r"
          refine r_ixLI (SqL.of at6.arr) (by omega) (by omega) ?_
          tm_at "r"
          refine r_ixLI (SqL.of at6.arr) q0 (by omega) ?_
          tm_at "r"
          refine r_ixLI (SqL.of at6.rest) a1.1 (by omega) ?_
          tm_at "r"
          have stay : canSw d.length s' (i : Int) = false → mu s'.rest < mu s.rest ∨ (s' = s ∧ ∀ j : Nat, j < i + 1 → canSw d.length s (j : Int) = false) := fun hc => by
            rcases hm with hm | ⟨rfl, hj⟩
            · exact .inl hm
            · refine .inr ⟨rfl, fun j hji => ?_⟩
              by_cases e : j = i
              · subst e; exact hc
              · exact hj j (by omega)
          refine r_ite (fun c1 => ?_) (fun c1 => ?_)
          · tm_at "r"
            refine r_ixLI (SqL.of at6.rest) a2.1 (by omega) ?_
            tm_at "r"
            refine r_ite (fun c2 => ?_) (fun c2 => ?_)
            · have hc : canSw d.length s' (i : Int) = true := by unfold canSw; rw [c1, c2]; rfl
              have ne : ix s'.arr (((i : Int) + 1) % (d.length : Int)) ≠ ix s'.arr (i : Int) := fun e => by
                have := of_decide_eq_true c1
                have := of_decide_eq_true c2
                rw [e] at this
                omega
              tm_at "r"
              refine r_gIxI (SqL.of at6.rest) a1.1 (by omega) ?_
              tm_at "r"
              refine r_setLI at6.rest a1.1 (by omega) ?_
              generalize hu8 : upd H7 pr _ = H8
              obtain ⟨m8, h8⟩ := mut_of hu8
              have l8 : (setI s'.rest (ix s'.arr (i : Int)) (ix s'.rest (ix s'.arr (i : Int)) - 1)).length = d.length := by rw [setI_len, lr']
              tm_at "r"
              refine r_gIxI (SqL.of h8) a2.1 (by omega) ?_
              tm_at "r"
              refine r_setLI h8 a2.1 (by omega) ?_
              generalize hu9 : upd H8 pr _ = H9
              obtain ⟨m9, h9⟩ := mut_of hu9
              have g9 : H9 pa = some (.lst (s'.arr.map V.int)) := m9 _ _ (Ne.symm d2) (m8 _ _ (Ne.symm d2) at6.arr)
              tm_at "r"
              w_call pt n10 H10 e10 h10 u10 z10
              have b10 : ∀ a u, H9 a = some u → H10 a = some u := fun a u h => e10 _ _ h
              have rf : H9 pf = some (.lst (s'.found.map V.int)) := m9 _ _ (Ne.symm d1) (m8 _ _ (Ne.symm d1) at6.found)
              have fl : s'.found.length < 100000 := by
                have := run_mu ok rs'
                have := mu_le ok
                omega
              refine r_gTup (SqT.of h10) rfl ?_
              tm_at "r"
              refine r_setLI (e10 _ _ g9) (by omega) (by omega) ?_
              generalize hu11 : upd H10 pa _ = H11
              obtain ⟨m11, h11⟩ := mut_of hu11
              tm_at "r"
              refine r_setLI h11 q0 (by rw [setI_len]; omega) ?_
              generalize hu12 : upd H11 pa _ = H12
              obtain ⟨m12, h12⟩ := mut_of hu12
              have f12 : H12 pf = some (.lst (s'.found.map V.int)) := m12 _ _ d3 (m11 _ _ d3 (e10 _ _ rf))
              tm_at "r"
              refine ⟨ty_l (SqL.of f12), ?_⟩
              tm_at "r"
              refine r_appI f12 fl ?_
              generalize hu13 : upd H12 pf _ = H13
              obtain ⟨m13, h13⟩ := mut_of hu13
              tm_at "r"
              have lt : mu (fire d.length s' (i : Int)).rest + 1 = mu s'.rest := fire_mu ok rs' (by omega) (by omega) hc
              refine ⟨⟨_, _, _, _, _, rfl⟩, ?_, fire d.length s' (i : Int), rs'.step (by omega) (by omega) hc, ⟨m13 _ _ (Ne.symm d3) h12, m13 _ _ d1 (m12 _ _ d2 (m11 _ _ d2 (e10 _ _ h9))), h13⟩, .inl ?_⟩
              · exact exm (exm (exm ((exm (exm e6 npr m8) npr m9).trans e10) npa m11) npa m12) npf m13
              · rcases hm with hm | ⟨rfl, _⟩ <;> omega
            · tm_at "r"
              refine ⟨⟨_, _, _, _, _, rfl⟩, e6, s', rs', at6, stay (by unfold canSw; rw [c1, c2]; rfl)⟩
          · tm_at "r"
            refine ⟨⟨_, _, _, _, _, rfl⟩, e6, s', rs', at6, stay (by unfold canSw; rw [c1]; rfl)⟩
        · rintro σ' H6 ⟨⟨w5, w6, w7, w8, w9, rfl⟩, e6, s', rs', at6, hm⟩
          refine ⟨⟨_, _, _, _, _, rfl⟩, e6, s', rs', at6, ?_⟩
          rcases hm with hm | ⟨rfl, hj⟩
          · exact hm
          · have := hj p0.toNat (by omega)
            rw [show ((p0.toNat : Nat) : Int) = p0 by omega, p3] at this
            cases this
      · tm_at "r"
        refine r_tupX (SqL.of at5.found) fun p H6 n6 e6 x6 => ?_
        refine k p H6 s.found ((e4.trans e5).trans e6) x6 ⟨s, rs, fun x hx => ?_, rfl⟩
        have := List.any_eq_false.mp hb x hx
        simpa using this
end
end SW
end

section
set_option Elab.async false
set_option linter.all false
set_option maxRecDepth 100000
set_option maxHeartbeats 4000000
namespace SW
open PySem PySem.Spec PyProof.Rows L2 Evl
local macro_rules | `(tactic| tm_at "r1") => `(tactic| first
  | ((with_reducible refine' r_var ?hx ?_); (case hx => exact rfl))
  | with_reducible refine r_c ?_
  | with_reducible refine r_op ?_
  | with_reducible refine r_I0 ?_
  | with_reducible refine r_un ?_
  | with_reducible refine r_U ?_
  | with_reducible refine r_cons ?_
  | with_reducible refine r_nil ?_
  | with_reducible refine r_call ?_
  | with_reducible refine r_cb ?_
  | with_reducible refine r_test ?_
  | with_reducible refine r_blp ?_
  | with_reducible refine r_tYes ?_
  | with_reducible refine r_ifT ?_
  | with_reducible refine r_ifF ?_
  | ((with_reducible refine' r_aug ?hx ?_); (case hx => exact rfl))
  | with_reducible refine r_seq ?_
  | with_reducible refine r_asg ?_
  | with_reducible refine r_gname ?_
  | with_reducible refine r_ret ?_
  | with_reducible refine r_tup ?_
  | with_reducible refine r_lst ?_
  | with_reducible refine r_ifS ?_
  | with_reducible refine r_par ?_
  | with_reducible refine r_two ?_
  | with_reducible refine r_lc ?_
  | with_reducible refine r_rng1 ?_
  | with_reducible refine r_rng2 ?_
  | with_reducible refine r_iList ?_
  | with_reducible refine r_iTup ?_
  | with_reducible refine r_for ?_
  | with_reducible refine r_not ?_
  | with_reducible refine r_and ?_
  | with_reducible refine r_or ?_
  | with_reducible refine r_andV ?_
  | with_reducible refine r_orV ?_
  | with_reducible refine r_notV ?_
  | with_reducible refine r_if ?_
  | with_reducible refine r_chain ?_
  | with_reducible refine r_B ?_
  | with_reducible refine r_next ?_
  | with_reducible refine r_drop ?_
  | with_reducible refine r_retN ?_
  | with_reducible refine r_ipI ?_
  | ((with_reducible refine' r_sz ?hz ?_); (case hz => exact Nat.le_of_ble_eq_true rfl))
  | with_reducible refine r_gCons ?_
  | with_reducible refine r_gNil ?_
  | with_reducible refine r_par3 ?_
  | with_reducible refine r_three ?_
  | with_reducible refine r_listRg ?_
  | with_reducible refine r_tupRg ?_
  | with_reducible refine r_augS ?_
  | with_reducible refine r_lenSetT ?_
  | with_reducible refine r_lenSetL ?_
  | with_reducible refine r_ifNT ?_
  | with_reducible refine r_ifNF ?_
  | with_reducible refine r_eqI ?_
  | with_reducible refine r_neI ?_
  | with_reducible refine r_eqS ?_
  | with_reducible refine r_neS ?_
  | with_reducible refine r_bm ?_
  | with_reducible refine r_bt ?_
  | with_reducible refine r_iEnT ?_
  | with_reducible refine r_iEnL ?_
  | with_reducible refine r_dc ?_
  | with_reducible refine r_dget ?_
  | with_reducible refine r_dput ?_
  | with_reducible refine r_sl ?_
  | with_reducible refine r_noP ?_
  | with_reducible refine r_part ?_
  | with_reducible refine r_revL ?_
  | with_reducible refine r_gSub ?_)
local macro_rules | `(tactic| tm_at "r") => `(tactic| repeat tm_at "r1")
local macro_rules | `(tactic| w_call $p $n $H1 $e $h $u $z) => `(tactic| (intro $p:ident $n:ident; generalize $u:ident : upd _ $p:ident _ = $H1:ident; obtain ⟨$e, $h⟩ := new_of $n:ident $u:ident))
section
variable {P : Program} {w : World} {K : PySem.W.Frag} {mg : Str → Option Value} {base : Heap} {f : Addr} {fd : FuncData}
/-- what the decision says -/
inductive Dec (R : List (List Int)) (d : List Int) : Str → List Int → Prop where
  | triple {t : List Int} : tripT d = some t → Dec R d "triple" t
  | refused {t : List Int} : tripT d = none → (invs d).findSome? (refStep R d) = some t → Dec R d "refused" t
  | sequence {fs : List Int} : tripT d = none → (invs d).findSome? (refStep R d) = none → SeqFor d fs → Dec R d "sequence" fs
/-- a word and ints -/
def AnsAt (K : PySem.W.Frag) (H : Hp) (p : Addr) (x : Str) (ns : List Int) : Prop := ∃ q, SqT K H p [.str x, .ref q] ∧ SqT K H q (ns.map V.int)
theorem AnsAt.ex {H H' : Hp} {p : Addr} {x : Str} {ns : List Int} (h : AnsAt K H p x ns) (e : Ex H H') : AnsAt K H' p x ns := let ⟨q, a, b⟩ := h; ⟨q, ex_t e a, ex_t e b⟩
def spDecide (K : PySem.W.Frag) : Sp := fun vs H Q _ => ∃ (a b : Addr) (R : List (List Int)) (d : List Int), vs = [.ref a, .ref b] ∧ RkAt K H a R ∧ RkOk R ∧ SqT K H b (d.map V.int) ∧ DispOk d ∧ d.length = R.length ∧
  ∀ p H' x ns, Ex H H' → AnsAt K H' p x ns → Dec R d x ns → Q (.ref p) H'
abbrev N_decide_there : List PySem.Str := ["rankings", "displacements", "triple", "tables", "x", "z", "found"]
theorem sc_decide_there : FnScope N_decide_there ["rankings", "displacements"] (defScope st_decide_there) := ⟨rfl, rfl, rfl, by decide +kernel, rfl, by decide +kernel, by decide +kernel⟩
theorem sg_decide_there (v0 v1 : V) : L2.start N_decide_there [v0, v1] = [some v0, some v1, none, none, none, none, none] := rfl
theorem bi_decide_there {K : PySem.W.Frag} {f : Addr} {fd : FuncData} (F : FnP K "decide_there" st_decide_there f fd) : Binds K fd ["rankings", "displacements"] [] := F.bindsN fun _ _ _ _ _ _ us hl => match us, hl with | [_, _], _ => rfl

-- 0:rankings 1:displacements 2:triple 3:tables 4:x 5:z 6:found
theorem ok_decide_there (F : FnP K "decide_there" st_decide_there f fd) (fr : Free mg) (D_triple_there : Def P w K mg base CX0 4 "triple_there" ["displacements"] (spTrip K))
    (D_rank_tables : Def P w K mg base CX0 1 "rank_tables" ["rankings"] (spTables K)) (D_inversions_there : Def P w K mg base CX0 3 "inversions_there" ["displacements"] (spInvs K))
    (D_refusals_there : Def P w K mg base CX0 3 "refusals_there" ["tables", "displacements", "x", "z"] (spRef K)) (D_sequence_for : Def P w K mg base CX0 1 "sequence_for" ["displacements"] (spSeq K)) : FnOk P w K mg base CX0 5 f fd ["rankings", "displacements"] (spDecide K) := by
  refine F.ok sc_decide_there (fun vs H Q E h => ?_) (fun cdv A outer s H vs Q E hr h => ?_)
  · obtain ⟨a, b, R, d, rfl, _⟩ := h
    rfl
  · obtain ⟨a, b, R, d, rfl, hR, ok, hd, od, hl, k⟩ := h
    have hu64 := hr.units
    have hlo := od.lo
    have hhi := od.hi
    refine ⟨_, PSs.nox (pss_cons (ps_set (i := 2) sc_decide_there.nd rfl (Or.inl rfl) (pe_def D_triple_there (hr.mono (by decide)) (pa_cons (pv 1) pa_nil)))
    (pss_cons (ps_if (pt_cmpR notn (pv 2) pe_non (nomark _)) (pss_one (ps_ret (pe_tup (pa_cons pe_str (pa_cons (pv 2) pa_nil))))) pss_nil)
    (pss_cons (ps_set (i := 3) sc_decide_there.nd rfl (Or.inl rfl) (pe_def D_rank_tables (hr.mono (by decide)) (pa_cons (pv 0) pa_nil)))
    (pss_cons (ps_for PassesOwn.never rfl (pil (K := K) rfl (pe_def D_inversions_there (hr.mono (by decide)) (pa_cons (pv 1) pa_nil))) (pgt (n := 2) (K := K) rfl rfl (pgs_cons (pg_name (i := 4) sc_decide_there.nd rfl (Or.inl rfl)) (pgs_cons (pg_name (i := 5) sc_decide_there.nd rfl (Or.inl rfl)) pgs_nil)))
    (pss_cons (ps_set (i := 6) sc_decide_there.nd rfl (Or.inl rfl) (pe_def D_refusals_there (hr.mono (by decide)) (pa_cons (pv 3) (pa_cons (pv 1) (pa_cons (pv 4) (pa_cons (pv 5) pa_nil))))))
      (pss_one (ps_if (pt_cmpR (ned (K := K) rfl hu64) (pv 6) (pe_lst pa_nil) (nomark _)) (pss_one (ps_ret (pe_tup (pa_cons pe_str (pa_cons (pe_ix (ixl (K := K) rfl) (pv 6) pe_int (fun _ _ => rfl)) pa_nil))))) pss_nil))))
    (pss_one (ps_ret (pe_tup (pa_cons pe_str (pa_cons (pe_def D_sequence_for (hr.mono (by decide)) (pa_cons (pv 1) pa_nil)) pa_nil))))))))), ?_⟩
    rw [sg_decide_there]
    tm_at "r"
    refine ⟨b, d, rfl, hd, hlo, hhi, fun no H1 e1 => ?_, fun t ht p H1 e1 hp => ?_⟩
    · tm_at "r"
      refine r_notN ?_
      tm_at "r"
      refine ⟨a, R, rfl, dp_ex e1 hR, ok, fun pt H2 qs e2 h2 tb => ?_⟩
      tm_at "r"
      refine ⟨b, d, rfl, ex_t (e1.trans e2) hd, hlo, hhi, fun p H3 ys e3 hp ty => ?_⟩
      tm_at "r"
      refine ⟨_, rfl, ⟨_, SqL.of hp⟩, ?_⟩
      have e03 := (e1.trans e2).trans e3
      refine for_run walkTups (fun i σ H' => (∃ v1 v2 v3, σ = [some (.ref a), some (.ref b), some .non, some (.ref pt), v1, v2, v3]) ∧ Ex H3 H' ∧ ((invs d).take i).findSome? (refStep R d) = none) ⟨⟨_, _, _, rfl⟩, Ex.refl _, rfl⟩ (fun i σ H' _ q => ⟨SqL.of (q.2.1 _ _ hp), ty.mono (TEx.of q.2.1)⟩) ?_ ?_
      · rintro i x σ H4 H5 hi ⟨⟨v1, v2, v3, rfl⟩, e4, hno⟩ ⟨rfl, q, rfl, hq⟩
        have hm : (invs d)[i] ∈ invs d := List.getElem_mem hi
        have eg : (invs d).getD i [] = (invs d)[i] := by rw [List.getD_eq_getElem?_getD, List.getElem?_eq_getElem hi] <;> rfl
        obtain ⟨x, z, eq, hx, hx2, hz⟩ := invs_mem hm
        have hzb := later_bd hz
        rw [eg, eq] at hq
        have hq : H5 q = some (.tup [.int x, .int z]) := hq
        refine r_gTup (SqT.of hq) rfl ?_
        tm_at "r"
        refine ⟨pt, b, qs, R, d, x, z, rfl, ex_l (e3.trans e4) (SqL.of h2), tb.ex (e3.trans e4), ok, ex_t (e03.trans e4) hd, hl, by omega, by omega, by omega, by omega, fun pf H6 zs e6 h6 tz => ?_⟩
        tm_at "r"
        w_call pe n7 H7 e7 h7 u7 z7
        refine ⟨.list ((refT R d x z).map dTI), .list [], .lst (SqL.of (e7 _ _ h6)) (tz.mono (TEx.of e7)).dp, .lst (SqL.of h7) .nil, sh_tis _, sh_nilL, ?_⟩
        tm_at "r"
        rw [eqv_tis_nil]
        have es : refStep R d (invs d)[i] = (refT R d x z).head? := by rw [eq]; rfl
        refine r_ite (fun hb => ?_) (fun hb => ?_)
        · have hne : refT R d x z ≠ [] := by simpa using hb
          obtain ⟨t, ts, et⟩ := List.exists_cons_of_ne_nil hne
          rw [et] at tz es
          cases tz with
          | cons h tz =>
            obtain ⟨pr, rfl, hpr⟩ := h
            tm_at "r"
            refine r_ixL (SqL.of (e7 _ _ h6)) (at_of (j := 0) rfl rfl) ?_
            tm_at "r"
            w_call pw n8 H8 e8 h8 u8 z8
            exact k pw H8 "refused" t ((e03.trans e4).trans (e6.trans (e7.trans e8))) ⟨pr, SqT.of h8, SqT.of (e8 _ _ (e7 _ _ hpr))⟩ (.refused no (findSome_of_take hi hno es))
        · have hne : refT R d x z = [] := by simpa using hb
          tm_at "r"
          refine ⟨⟨_, _, _, rfl⟩, (e4.trans e6).trans e7, ?_⟩
          rw [findSome_take_succ hi hno, es, hne]
          rfl
      · rintro σ H4 ⟨⟨v1, v2, v3, rfl⟩, e4, hno⟩
        rw [List.take_length] at hno
        tm_at "r"
        refine ⟨b, d, rfl, ex_t (e03.trans e4) hd, od, no, fun ps H5 fs e5 xs sq => ?_⟩
        tm_at "r"
        w_call pw n8 H8 e8 h8 u8 z8
        exact k pw H8 "sequence" fs ((e03.trans e4).trans (e5.trans e8)) ⟨ps, SqT.of h8, ex_t e8 xs.sq⟩ (.sequence no hno sq)
    · tm_at "r"
      refine r_notR ?_
      tm_at "r"
      w_call pw n8 H8 e8 h8 u8 z8
      exact k pw H8 "triple" t (e1.trans e8) ⟨p, SqT.of h8, SqT.of (e8 _ _ hp)⟩ (.triple ht)
abbrev N_decide_ring : List PySem.Str := ["rankings", "displacements"]
theorem sc_decide_ring : FnScope N_decide_ring ["rankings", "displacements"] (defScope st_decide_ring) := ⟨rfl, rfl, rfl, by decide +kernel, rfl, by decide +kernel, by decide +kernel⟩
theorem sg_decide_ring (v0 v1 : V) : L2.start N_decide_ring [v0, v1] = [some v0, some v1] := rfl
theorem bi_decide_ring {K : PySem.W.Frag} {f : Addr} {fd : FuncData} (F : FnP K "decide_ring" st_decide_ring f fd) : Binds K fd ["rankings", "displacements"] [] := F.bindsN fun _ _ _ _ _ _ us hl => match us, hl with | [_, _], _ => rfl

theorem ok_decide_ring (F : FnP K "decide_ring" st_decide_ring f fd) (fr : Free mg) (D_check_both : Def P w K mg base CX0 6 "check_both" ["rankings", "displacements"] (spCheckBoth K))
    (D_decide_there : Def P w K mg base CX0 5 "decide_there" ["rankings", "displacements"] (spDecide K)) : FnOk P w K mg base CX0 7 f fd ["rankings", "displacements"] (spDecide K) := by
  refine F.ok sc_decide_ring (fun vs H Q E h => ?_) (fun cdv A outer s H vs Q E hr h => ?_)
  · obtain ⟨a, b, R, d, rfl, _⟩ := h
    rfl
  · obtain ⟨a, b, R, d, rfl, hR, ok, hd, od, hl, k⟩ := h
    refine ⟨_, PSs.nox (pss_cons (ps_expr (pe_def D_check_both (hr.mono (by decide)) (pa_cons (pv 0) (pa_cons (pv 1) pa_nil))))
    (pss_one (ps_ret (pe_def D_decide_there (hr.mono (by decide)) (pa_cons (pv 0) (pa_cons (pv 1) pa_nil)))))), ?_⟩
    rw [sg_decide_ring]
    tm_at "r"
    refine ⟨a, b, R, d, rfl, hR, ok, hd, od, hl, fun H1 e1 => ?_⟩
    tm_at "r"
    refine ⟨a, b, R, d, rfl, dp_ex e1 hR, ok, ex_t e1 hd, od, hl, fun p H2 x ns e2 q1 q2 => ?_⟩
    exact k p H2 x ns (e1.trans e2) q1 q2
end
end SW
end

section
set_option Elab.async false
set_option linter.all false
set_option maxRecDepth 100000
set_option maxHeartbeats 4000000
namespace SW
open PySem PySem.Spec PyProof.Rows L2 Evl
local macro_rules | `(tactic| tm_at "r1") => `(tactic| first
  | ((with_reducible refine' r_var ?hx ?_); (case hx => exact rfl))
  | with_reducible refine r_c ?_
  | with_reducible refine r_op ?_
  | with_reducible refine r_I0 ?_
  | with_reducible refine r_un ?_
  | with_reducible refine r_U ?_
  | with_reducible refine r_cons ?_
  | with_reducible refine r_nil ?_
  | with_reducible refine r_call ?_
  | with_reducible refine r_cb ?_
  | with_reducible refine r_test ?_
  | with_reducible refine r_blp ?_
  | with_reducible refine r_tYes ?_
  | with_reducible refine r_ifT ?_
  | with_reducible refine r_ifF ?_
  | ((with_reducible refine' r_aug ?hx ?_); (case hx => exact rfl))
  | with_reducible refine r_seq ?_
  | with_reducible refine r_asg ?_
  | with_reducible refine r_gname ?_
  | with_reducible refine r_ret ?_
  | with_reducible refine r_tup ?_
  | with_reducible refine r_lst ?_
  | with_reducible refine r_ifS ?_
  | with_reducible refine r_par ?_
  | with_reducible refine r_two ?_
  | with_reducible refine r_lc ?_
  | with_reducible refine r_rng1 ?_
  | with_reducible refine r_rng2 ?_
  | with_reducible refine r_iList ?_
  | with_reducible refine r_iTup ?_
  | with_reducible refine r_for ?_
  | with_reducible refine r_not ?_
  | with_reducible refine r_and ?_
  | with_reducible refine r_or ?_
  | with_reducible refine r_andV ?_
  | with_reducible refine r_orV ?_
  | with_reducible refine r_notV ?_
  | with_reducible refine r_if ?_
  | with_reducible refine r_chain ?_
  | with_reducible refine r_B ?_
  | with_reducible refine r_next ?_
  | with_reducible refine r_drop ?_
  | with_reducible refine r_retN ?_
  | with_reducible refine r_ipI ?_
  | ((with_reducible refine' r_sz ?hz ?_); (case hz => exact Nat.le_of_ble_eq_true rfl))
  | with_reducible refine r_gCons ?_
  | with_reducible refine r_gNil ?_
  | with_reducible refine r_par3 ?_
  | with_reducible refine r_three ?_
  | with_reducible refine r_listRg ?_
  | with_reducible refine r_tupRg ?_
  | with_reducible refine r_augS ?_
  | with_reducible refine r_lenSetT ?_
  | with_reducible refine r_lenSetL ?_
  | with_reducible refine r_ifNT ?_
  | with_reducible refine r_ifNF ?_
  | with_reducible refine r_eqI ?_
  | with_reducible refine r_neI ?_
  | with_reducible refine r_eqS ?_
  | with_reducible refine r_neS ?_
  | with_reducible refine r_bm ?_
  | with_reducible refine r_bt ?_
  | with_reducible refine r_iEnT ?_
  | with_reducible refine r_iEnL ?_
  | with_reducible refine r_dc ?_
  | with_reducible refine r_dget ?_
  | with_reducible refine r_dput ?_
  | with_reducible refine r_sl ?_
  | with_reducible refine r_noP ?_
  | with_reducible refine r_part ?_
  | with_reducible refine r_revL ?_
  | with_reducible refine r_gSub ?_)
local macro_rules | `(tactic| tm_at "r") => `(tactic| repeat tm_at "r1")
local macro_rules | `(tactic| w_call $p $n $H1 $e $h $u $z) => `(tactic| (intro $p:ident $n:ident; generalize $u:ident : upd _ $p:ident _ = $H1:ident; obtain ⟨$e, $h⟩ := new_of $n:ident $u:ident))
section
variable {P : Program} {w : World} {K : PySem.W.Frag} {mg : Str → Option Value} {base : Heap} {f : Addr} {fd : FuncData} {C : Addr}
def spRun (K : PySem.W.Frag) (C : Addr) : Sp := fun vs H Q E => ∃ (a b : Addr) (R : List (List Int)) (ns : List Int), vs = [.ref a, .ref b] ∧ RkAt K H a R ∧ RkOk R ∧ SqT K H b (ns.map V.int) ∧
  (∀ mv, movesT R ns = some mv → ∀ p H', Ex H H' → ExT H' p (mv.map V.int) → Q (.ref p) H') ∧ (movesT R ns = none → ∀ d H', Ex H H' → E (.ref C) (some d) H')
theorem rep0 (n : Nat) : (List.replicate (n : Int).toNat [V.int 0]).flatten = List.replicate n (V.int 0) := by
  rw [show ((n : Int)).toNat = n from rfl]
  induction n with
  | zero => rfl
  | succ n ih => rw [List.replicate_succ, List.flatten_cons, ih, List.replicate_succ] <;> rfl
theorem r_tErr {K : PySem.W.Frag} {f : Str} {C : Addr} {W : WX} {ta : TA} {D : Ends} {σ : L2.St} {H : Hp} (h : tMkO C (spInit K C f) [] ta σ H fun cls d H' => W cls d σ H') : tErr K f C W ta D σ H := h
theorem r_mko {C : Addr} {sp : Sp} {dvs : List V} {ta : TA} {σ : L2.St} {H : Hp} {Q : XK} (h : ta σ H fun vs H1 => vs.length ≤ 1000 ∧ ∀ a, H1 a = none → sp (.ref a :: (vs ++ dvs)) (upd H1 a (exo a C none))
  (fun v H2 => v = .non ∧ ∃ (d : Addr) (fs : List (Str × V)), H2 a = some (exo a C (some d)) ∧ H2 d = some (exd d fs) ∧ H1 d = none ∧ Q (.ref C) (some d) (upd (del H2 a) d (.xd fs))) (fun _ _ _ => False)) : tMkO C sp dvs ta σ H Q := h
abbrev N_run_ring : List PySem.Str := ["rankings", "sequence", "size", "tables", "arrangement", "moves", "index", "swap", "other"]
theorem sc_run_ring : FnScope N_run_ring ["rankings", "sequence"] (defScope st_run_ring) := ⟨rfl, rfl, rfl, by decide +kernel, rfl, by decide +kernel, by decide +kernel⟩
theorem sg_run_ring (v0 v1 : V) : L2.start N_run_ring [v0, v1] = [some v0, some v1, none, none, none, none, none, none, none] := rfl
theorem bi_run_ring {K : PySem.W.Frag} {f : Addr} {fd : FuncData} (F : FnP K "run_ring" st_run_ring f fd) : Binds K fd ["rankings", "sequence"] [] := F.bindsN fun _ _ _ _ _ _ us hl => match us, hl with | [_, _], _ => rfl

-- 0:rankings 1:sequence 2:size 3:tables 4:arrangement 5:moves 6:index 7:swap 8:other
theorem ok_run_ring (F : FnP K "run_ring" st_run_ring f fd) (fr : Free mg) (T_InvalidSequence : ErrD P w K mg base "InvalidSequence" "index" C) (D_check_ring : Def P w K mg base CX0 5 "check_ring" ["rankings"] (spCheckRk K))
    (D_rank_tables : Def P w K mg base CX0 1 "rank_tables" ["rankings"] (spTables K)) (D_is_number_below : Def P w K mg base CX0 2 "is_number_below" ["value", "limit"] spNumBelow)
    (D_is_ring_swap_allowed : Def P w K mg base CX0 1 "is_ring_swap_allowed" ["tables", "arrangement", "swap"] (spMay K)) : FnOk P w K mg base (L2.CX P w) 6 f fd ["rankings", "sequence"] (spRun K C) := by
  refine F.ok sc_run_ring (fun vs H Q E h => ?_) (fun cdv A outer s H vs Q E hr h => ?_)
  · obtain ⟨a, b, R, ns, rfl, _⟩ := h
    rfl
  · obtain ⟨a, b, R, ns, rfl, hR, ok, hb, kQ, kE⟩ := h
    have hlo := ok.lo
    have hhi := ok.hi
    obtain ⟨xs, hx, hl, hat⟩ := rk_sq hR
    refine ⟨_, (pss_cons (ps_expr (pe_def D_check_ring (hr.mono (by decide)) (pa_cons (pv 0) pa_nil)))
    (pss_cons (ps_if (pt_not (pt_val (pe_callB (isiq (K := K) rfl) (by rfl) fr.isinstance (by decide +kernel) (pa_cons (pv 1) (pa_cons (pe_bltn (v := .ty "tuple") (by rfl) fr.tuple (by decide +kernel) rfl) pa_nil))))) (pss_one ps_never) pss_nil)
    (pss_cons (ps_par (i := 2) (j := 3) rfl sc_run_ring.nd rfl rfl (by decide) rfl rfl (pa_cons (pe_callB (lenq (K := K) rfl) (by rfl) fr.len (by decide +kernel) (pa_cons (pv 0) pa_nil)) (pa_cons (pe_def D_rank_tables (hr.mono (by decide)) (pa_cons (pv 0) pa_nil)) pa_nil)) (by rfl))
    (pss_cons (ps_par (i := 4) (j := 5) rfl sc_run_ring.nd rfl rfl (by decide) rfl rfl (pa_cons (pe_listRg rfl (by rfl) fr.list (prg_1 (by rfl) fr.range (pv 2))) (pa_cons (pe_op op_rep (pe_lst (pa_cons pe_int pa_nil)) (pv 2)) pa_nil)) (by rfl))
    (pss_cons (ps_for (passes_of rfl) rfl (pienT (K := K) rfl (by rfl) fr.enumerate (pa_cons (pv 1) pa_nil)) (pgt (n := 2) (K := K) rfl rfl (pgs_cons (pg_name (i := 6) sc_run_ring.nd rfl (Or.inl rfl)) (pgs_cons (pg_name (i := 7) sc_run_ring.nd rfl (Or.inl rfl)) pgs_nil)))
    (pss_cons (ps_if (PW.pt (pw_or (pt_not (pt_val (pe_def D_is_number_below (hr.mono (by decide)) (pa_cons (pv 7) (pa_cons (pv 2) pa_nil))))) (pw_or1 (pt_not (pt_val (pe_def D_is_ring_swap_allowed (hr.mono (by decide)) (pa_cons (pv 3) (pa_cons (pv 4) (pa_cons (pv 7) pa_nil))))))))) (pss_one (ps_err (K := K) rfl rfl T_InvalidSequence (hr.mono (by decide)) (takes_of rfl rfl rfl rfl) (pa_cons (pv 6) pa_nil))) pss_nil)
      (pss_cons (ps_set (i := 8) sc_run_ring.nd rfl (Or.inl rfl) (pe_op op_mod (pe_op op_add (pv 7) pe_int) (pv 2)))
      (pss_cons (ps_augS (pv 5) (pe_ix (ixl (K := K) rfl) (pv 4) (pv 7) (fun _ _ => rfl)) (getl (K := K) rfl) pe_int ip_add set_list)
      (pss_cons (ps_augS (pv 5) (pe_ix (ixl (K := K) rfl) (pv 4) (pv 8) (fun _ _ => rfl)) (getl (K := K) rfl) pe_int ip_sub set_list)
      (pss_one (ps_asg (pe_tup (pa_cons (pe_ix (ixl (K := K) rfl) (pv 4) (pv 8) (fun _ _ => rfl)) (pa_cons (pe_ix (ixl (K := K) rfl) (pv 4) (pv 7) (fun _ _ => rfl)) pa_nil))) (pgt (n := 2) (K := K) rfl rfl (pgs_cons (pg_sub (pv 4) (pv 7) set_list) (pgs_cons (pg_sub (pv 4) (pv 8) set_list) pgs_nil))))))))))
    (pss_one (ps_ret (pe_callTy (tupx (K := K) rfl) (by rfl) fr.tuple (by decide +kernel) (pa_cons (pv 5) pa_nil))))))))), ?_⟩
    rw [sg_run_ring]
    tm_at "r"
    refine ⟨a, R, rfl, hR, ok, fun H1 e1 => ?_⟩
    tm_at "r"
    refine r_isiTT (ex_t e1 hb) ?_
    tm_at "r"
    refine r_lenT (ex_t e1 hx) ?_
    rw [hl]
    tm_at "r"
    refine ⟨a, R, rfl, dp_ex e1 hR, ok, fun pt H2 qs e2 h2 tb => ?_⟩
    tm_at "r"
    refine ⟨_, rfl, rg0_ok (by omega), ?_⟩
    rw [rgV_eq]
    w_call pa n3 H3 e3 h3 u3 z3
    tm_at "r"
    w_call p0 n4 H4 e4 h4 u4 z4
    refine r_var rfl ?_
    refine ⟨p0, R.length, [.int 0], rfl, rfl, h4, by omega, by omega, by show 1 * (R.length : Int).toNat ≤ sizeLine; rw [sizeLine_eq]; omega, ?_⟩
    rw [rep0]
    w_call pm n5 H5 e5 h5 u5 z5
    tm_at "r"
    have e25 := (e3.trans e4).trans e5
    have e05 := ((e1.trans e2).trans e25)
    have npa : H pa = none := fresh_back (e1.trans e2) n3
    have npm : H pm = none := fresh_back ((e1.trans e2).trans (e3.trans e4)) n5
    have npa2 : H2 pa = none := n3
    have npm2 : H2 pm = none := fresh_back (e3.trans e4) n5
    have dam : pa ≠ pm := ne_of_none (e4 _ _ h3) n5
    refine ⟨_, _, rfl, ex_t e05 hb, ?_⟩
    refine for_run walkEI (fun i σ H' => (∃ v6 v7 v8, σ = [some (.ref a), some (.ref b), some (.int (R.length : Int)), some (.ref pt), some (.ref pa), some (.ref pm), v6, v7, v8]) ∧ Ex H2 H' ∧
      ∃ s : List Int × List Int, runT R (st0 R.length) (ns.take i) = some s ∧ s.1.length = R.length ∧ s.2.length = R.length ∧ (∀ x ∈ s.1, 0 ≤ x ∧ x < (R.length : Int)) ∧ H' pa = some (.lst (s.1.map V.int)) ∧ H' pm = some (.lst (s.2.map V.int)))
      ⟨⟨_, _, _, rfl⟩, e25, st0 R.length, rfl, rgI_len _ _, List.length_replicate, fun x hx => ?_, e5 _ _ (e4 _ _ h3), ?_⟩ (fun i σ H' _ q => ex_t ((e1.trans e2).trans q.2.1) hb) ?_ ?_
    · have := rgI_mem.mp hx
      omega
    · rw [h5]
      show some (HO.lst _) = some (HO.lst ((List.replicate R.length (0 : Int)).map V.int))
      rw [List.map_replicate]
    · rintro i x σ H6 H7 hi ⟨⟨v6, v7, v8, rfl⟩, e6, s, rs, l1, l2, ra, ha6, hm6⟩ ⟨T, rfl, nT, rfl⟩
      generalize huT : upd H6 T _ = HT
      obtain ⟨eT, hT⟩ := new_of nT huT
      have e2T := e6.trans eT
      have e0T := (e1.trans e2).trans e2T
      refine r_gTup (SqT.of hT) rfl ?_
      tm_at "r"
      refine ⟨_, _, rfl, ?_⟩
      tm_at "r"
      have out : stepT R s (ns.getD i 0) = none → movesT R ns = none := fun z => by
        unfold movesT
        rw [runT_stop hi rs z] <;> rfl
      refine r_ite (fun hc => ?_) (fun hc => ?_)
      · rw [Bool.not_eq_true', Bool.and_eq_false_iff] at hc
        tm_at "r"
        refine r_tErr (r_mko ?_)
        tm_at "r"
        refine r_err fun d H8 nd e8 _ => ?_
        exact kE (out (stepT_no (by rcases hc with hc | hc; exact .inl hc; exact .inr (.inl hc)))) d H8 (e0T.trans e8)
      · rw [Bool.not_eq_false', Bool.and_eq_true, decide_eq_true_eq, decide_eq_true_eq] at hc
        obtain ⟨p0, p1⟩ := hc
        tm_at "r"
        refine ⟨pt, pa, qs, R, s.1, _, rfl, ex_l e2T (SqL.of h2), tb.ex e2T, ok, SqL.of (eT _ _ ha6), l1, ra, p0, p1, ?_⟩
        tm_at "r"
        refine r_ite (fun hc => ?_) (fun hc => ?_)
        · rw [Bool.not_eq_true'] at hc
          tm_at "r"
          refine r_tErr (r_mko ?_)
          tm_at "r"
          refine r_err fun d H8 nd e8 _ => ?_
          exact kE (out (stepT_no (.inr (.inr hc)))) d H8 (e0T.trans e8)
        · rw [Bool.not_eq_false'] at hc
          have st := stepT_eq p0 p1 hc
          have q0 : 0 ≤ (ns.getD i 0 + 1) % (R.length : Int) := Int.emod_nonneg _ (by omega)
          have q1 : (ns.getD i 0 + 1) % (R.length : Int) < R.length := Int.emod_lt_of_pos _ (by omega)
          have a1 := ra _ (ix_mem (A := s.1) (p := ns.getD i 0) p0 (by omega))
          have a2 := ra _ (ix_mem (A := s.1) q0 (by omega))
          tm_at "r"
          refine r_I (by omega) ?_
          tm_at "r"
          refine r_ixLI (SqL.of (eT _ _ ha6)) p0 (by omega) ?_
          refine r_gIxI (SqL.of (eT _ _ hm6)) a1.1 (by omega) ?_
          tm_at "r"
          refine r_setLI (eT _ _ hm6) a1.1 (by omega) ?_
          generalize hu8 : upd HT pm _ = H8
          obtain ⟨m8, h8⟩ := mut_of hu8
          have g8 : H8 pa = some (.lst (s.1.map V.int)) := m8 _ _ dam (eT _ _ ha6)
          tm_at "r"
          refine r_ixLI (SqL.of g8) q0 (by omega) ?_
          refine r_gIxI (SqL.of h8) a2.1 (by rw [setI_len]; omega) ?_
          tm_at "r"
          refine r_setLI h8 a2.1 (by rw [setI_len]; omega) ?_
          generalize hu9 : upd H8 pm _ = H9
          obtain ⟨m9, h9⟩ := mut_of hu9
          have g9 : H9 pa = some (.lst (s.1.map V.int)) := m9 _ _ dam g8
          tm_at "r"
          refine r_ixLI (SqL.of g9) q0 (by omega) ?_
          tm_at "r"
          refine r_ixLI (SqL.of g9) p0 (by omega) ?_
          tm_at "r"
          w_call pt2 n10 H10 e10 h10 u10 z10
          refine r_gTup (SqT.of h10) rfl ?_
          tm_at "r"
          refine r_setLI (e10 _ _ g9) p0 (by omega) ?_
          generalize hu11 : upd H10 pa _ = H11
          obtain ⟨m11, h11⟩ := mut_of hu11
          tm_at "r"
          refine r_setLI h11 q0 (by rw [setI_len]; omega) ?_
          generalize hu12 : upd H11 pa _ = H12
          obtain ⟨m12, h12⟩ := mut_of hu12
          tm_at "r"
          obtain ⟨k1, k2, k3⟩ := stepR_ok (n := R.length) hlo l1 l2 ra p0 p1
          exact ⟨⟨_, _, _, rfl⟩, exm (exm ((exm (exm e2T npm2 m8) npm2 m9).trans e10) npa2 m11) npa2 m12, stepR R.length s (ns.getD i 0), by rw [runT_snoc hi rs, st], k1, k2, k3, h12, m12 _ _ (Ne.symm dam) (m11 _ _ (Ne.symm dam) (e10 _ _ h9))⟩
    · rintro σ H6 ⟨⟨v6, v7, v8, rfl⟩, e6, s, rs, l1, l2, ra, ha6, hm6⟩
      rw [List.take_length] at rs
      tm_at "r"
      refine r_tupX (SqL.of hm6) fun p H7 n7 e7 x7 => ?_
      exact kQ s.2 (by unfold movesT; rw [rs] <;> rfl) p H7 (((e1.trans e2).trans e6).trans e7) x7
end
end SW
end

section
set_option Elab.async false
set_option linter.all false
set_option maxRecDepth 100000
set_option maxHeartbeats 4000000
namespace SW
open PySem PySem.Spec PyProof.Rows L2 Evl
local macro_rules | `(tactic| tm_at "r1") => `(tactic| first
  | ((with_reducible refine' r_var ?hx ?_); (case hx => exact rfl))
  | with_reducible refine r_c ?_
  | with_reducible refine r_op ?_
  | with_reducible refine r_I0 ?_
  | with_reducible refine r_un ?_
  | with_reducible refine r_U ?_
  | with_reducible refine r_cons ?_
  | with_reducible refine r_nil ?_
  | with_reducible refine r_call ?_
  | with_reducible refine r_cb ?_
  | with_reducible refine r_test ?_
  | with_reducible refine r_blp ?_
  | with_reducible refine r_tYes ?_
  | with_reducible refine r_ifT ?_
  | with_reducible refine r_ifF ?_
  | ((with_reducible refine' r_aug ?hx ?_); (case hx => exact rfl))
  | with_reducible refine r_seq ?_
  | with_reducible refine r_asg ?_
  | with_reducible refine r_gname ?_
  | with_reducible refine r_ret ?_
  | with_reducible refine r_tup ?_
  | with_reducible refine r_lst ?_
  | with_reducible refine r_ifS ?_
  | with_reducible refine r_par ?_
  | with_reducible refine r_two ?_
  | with_reducible refine r_lc ?_
  | with_reducible refine r_rng1 ?_
  | with_reducible refine r_rng2 ?_
  | with_reducible refine r_iList ?_
  | with_reducible refine r_iTup ?_
  | with_reducible refine r_for ?_
  | with_reducible refine r_not ?_
  | with_reducible refine r_and ?_
  | with_reducible refine r_or ?_
  | with_reducible refine r_andV ?_
  | with_reducible refine r_orV ?_
  | with_reducible refine r_notV ?_
  | with_reducible refine r_if ?_
  | with_reducible refine r_chain ?_
  | with_reducible refine r_B ?_
  | with_reducible refine r_next ?_
  | with_reducible refine r_drop ?_
  | with_reducible refine r_retN ?_
  | with_reducible refine r_ipI ?_
  | ((with_reducible refine' r_sz ?hz ?_); (case hz => exact Nat.le_of_ble_eq_true rfl))
  | with_reducible refine r_gCons ?_
  | with_reducible refine r_gNil ?_
  | with_reducible refine r_par3 ?_
  | with_reducible refine r_three ?_
  | with_reducible refine r_listRg ?_
  | with_reducible refine r_tupRg ?_
  | with_reducible refine r_augS ?_
  | with_reducible refine r_lenSetT ?_
  | with_reducible refine r_lenSetL ?_
  | with_reducible refine r_ifNT ?_
  | with_reducible refine r_ifNF ?_
  | with_reducible refine r_eqI ?_
  | with_reducible refine r_neI ?_
  | with_reducible refine r_eqS ?_
  | with_reducible refine r_neS ?_
  | with_reducible refine r_bm ?_
  | with_reducible refine r_bt ?_
  | with_reducible refine r_iEnT ?_
  | with_reducible refine r_iEnL ?_
  | with_reducible refine r_dc ?_
  | with_reducible refine r_dget ?_
  | with_reducible refine r_dput ?_
  | with_reducible refine r_sl ?_
  | with_reducible refine r_noP ?_
  | with_reducible refine r_part ?_
  | with_reducible refine r_revL ?_
  | with_reducible refine r_gSub ?_)
local macro_rules | `(tactic| tm_at "r") => `(tactic| repeat tm_at "r1")
local macro_rules | `(tactic| w_call $p $n $H1 $e $h $u $z) => `(tactic| (intro $p:ident $n:ident; generalize $u:ident : upd _ $p:ident _ = $H1:ident; obtain ⟨$e, $h⟩ := new_of $n:ident $u:ident))
section
variable {P : Program} {w : World} {K : PySem.W.Frag} {mg : Str → Option Value} {base : Heap} {f : Addr} {fd : FuncData} {C : Addr}
def spLeads (K : PySem.W.Frag) : Sp := fun vs H Q _ => ∃ (a b c : Addr) (R : List (List Int)) (ns d : List Int), vs = [.ref a, .ref b, .ref c] ∧ RkAt K H a R ∧ RkOk R ∧ SqT K H b (ns.map V.int) ∧ SqT K H c (d.map V.int) ∧ ∀ H', Ex H H' → Q (.bl (leadsT R d ns)) H'
abbrev N_leads_to : List PySem.Str := ["rankings", "sequence", "displacements", "found"]
theorem sc_leads_to : FnScope N_leads_to ["rankings", "sequence", "displacements"] (defScope st_leads_to) := ⟨rfl, rfl, rfl, by decide +kernel, rfl, by decide +kernel, by decide +kernel⟩
theorem sg_leads_to (v0 v1 v2 : V) : L2.start N_leads_to [v0, v1, v2] = [some v0, some v1, some v2, none] := rfl
theorem bi_leads_to {K : PySem.W.Frag} {f : Addr} {fd : FuncData} (F : FnP K "leads_to" st_leads_to f fd) : Binds K fd ["rankings", "sequence", "displacements"] [] := F.bindsN fun _ _ _ _ _ _ us hl => match us, hl with | [_, _, _], _ => rfl

-- 0:rankings 1:sequence 2:displacements 3:found
theorem ok_leads_to (F : FnP K "leads_to" st_leads_to f fd) (fr : Free mg) (T_InvalidSequence : ErrD P w K mg base "InvalidSequence" "index" C) (D_run_ring : Def P w K mg base (L2.CX P w) 6 "run_ring" ["rankings", "sequence"] (spRun K C)) : FnOk P w K mg base CX0 7 f fd ["rankings", "sequence", "displacements"] (spLeads K) := by
  refine F.ok sc_leads_to (fun vs H Q E h => ?_) (fun cdv A outer s H vs Q E hr h => ?_)
  · obtain ⟨a, b, c, R, ns, d, rfl, _⟩ := h
    rfl
  · obtain ⟨a, b, c, R, ns, d, rfl, hR, ok, hb, hc, k⟩ := h
    have hu64 := hr.units
    obtain ⟨fI, fdI, TE, _, _⟩ := T_InvalidSequence.ex
    refine ⟨_, PSs.nox (pss_cons (ps_try_only rfl rfl ⟨rfl, by decide, .inl TE.gC⟩ LamX.takes0 (fun W pn xe tk _ => pss_one (ps_set (i := 3) sc_leads_to.nd rfl (Or.inl rfl) (pe_defX D_run_ring (hr.mono (by decide)) tk (pa_cons (pv 0) (pa_cons (pv 1) pa_nil))))) (fun a oe cls d pn _ _ => pss_one (ps_ret pe_bl)))
      (pss_one (ps_ret (pe_cmpR (eqd (K := K) rfl hu64) (pv 3) (pv 2) (nomark _))))), ?_⟩
    rw [sg_leads_to]
    tm_at "r"
    refine r_callS ?_
    tm_at "r"
    refine ⟨a, b, R, ns, rfl, hR, ok, hb, fun mv hm p H1 e1 x1 => ?_, fun hm dd H1 e1 => ?_⟩
    · tm_at "r"
      refine ⟨dTI mv, dTI d, dp_ti x1.sq, dp_ti (ex_t e1 hc), sh_ti _, sh_ti _, ?_⟩
      rw [eqv_ti]
      have q := k H1 e1
      unfold leadsT at q
      rw [hm] at q
      have e : decide (some mv = some d) = decide (mv = d) := by simp
      rw [e] at q
      exact q
    · refine ⟨true, TE.me, fun _ a2 ha2 => ?_, fun z => by cases z⟩
      tm_at "r"
      have q := k H1 e1
      unfold leadsT at q
      rw [hm] at q
      exact q
def spAreInts (K : PySem.W.Frag) : Sp := fun vs H Q _ => ∃ (a : Addr) (ns : List Int) (n : Int), vs = [.ref a, .int n] ∧ SqT K H a (ns.map V.int) ∧ ns.length ≤ 100000 ∧ ∀ H', Ex H H' → Q (.bl (decide ((ns.length : Int) = n))) H'
abbrev N_are_integers : List PySem.Str := ["value", "size", "item"]
theorem sc_are_integers : FnScope N_are_integers ["value", "size"] (defScope st_are_integers) := ⟨rfl, rfl, rfl, by decide +kernel, rfl, by decide +kernel, by decide +kernel⟩
theorem sg_are_integers (v0 v1 : V) : L2.start N_are_integers [v0, v1] = [some v0, some v1, none] := rfl
theorem bi_are_integers {K : PySem.W.Frag} {f : Addr} {fd : FuncData} (F : FnP K "are_integers" st_are_integers f fd) : Binds K fd ["value", "size"] [] := F.bindsN fun _ _ _ _ _ _ us hl => match us, hl with | [_, _], _ => rfl

-- 0:value 1:size 2:item
theorem ok_are_integers (F : FnP K "are_integers" st_are_integers f fd) (fr : Free mg) (D_is_integer : Def P w K mg base CX0 1 "is_integer" ["value"] spIsInt) : FnOk P w K mg base CX0 2 f fd ["value", "size"] (spAreInts K) := by
  refine F.ok sc_are_integers (fun vs H Q E h => ?_) (fun cdv A outer s H vs Q E hr h => ?_)
  · obtain ⟨a, ns, n, rfl, _⟩ := h
    rfl
  · obtain ⟨a, ns, n, rfl, ha, hz, k⟩ := h
    refine ⟨_, PSs.nox (pss_one (ps_ret (pe_and (pe_callB (isiq (K := K) rfl) (by rfl) fr.isinstance (by decide +kernel) (pa_cons (pv 0) (pa_cons (pe_bltn (v := .ty "tuple") (by rfl) fr.tuple (by decide +kernel) rfl) pa_nil))) (pe_and (pe_cmpR op_eq (pe_callB (lenq (K := K) rfl) (by rfl) fr.len (by decide +kernel) (pa_cons (pv 0) pa_nil)) (pv 1) (nomark _)) (pe_one (pe_callB (allq (K := K) rfl rfl) (by rfl) fr.all (by decide +kernel) (pa_cons (pe_lc (own := [("item", 2)]) rfl sc_are_integers.nd (pit (K := K) rfl (pv 0)) (blkOk_by (own := [("item", 2)]) (N := N_are_integers) (sc := defScope st_are_integers) (by decide +kernel)) (fun _ _ _ _ _ => (pg_name (i := 2) sc_are_integers.nd rfl (Or.inl rfl))) (fun _ _ _ _ _ => pts_nil) (fun _ _ _ _ _ => (pe_def D_is_integer (hr.mono (by decide)) (pa_cons (pv 2) pa_nil)))) pa_nil))))))), ?_⟩
    rw [sg_are_integers]
    tm_at "r"
    refine r_isiTT ha ?_
    tm_at "r"
    refine r_lenT ha ?_
    rw [List.length_map]
    tm_at "r"
    refine r_ite (fun hb => ?_) (fun hb => ?_)
    · tm_at "r"
      refine ⟨_, rfl, ⟨_, ha⟩, ?_⟩
      refine lc_vals walkTI (fun _ => true) (fun _ => .bl true) (fun _ e => ex_t e ha) (by omega) ?_ ?_
      · rintro D i v H' H'' acc KN KY hi e2 ⟨rfl, rfl⟩ hD hy _ h2
        refine ⟨rfl, ?_⟩
        tm_at "r"
        refine ⟨_, rfl, ?_⟩
        exact h2 rfl _ (Ex.refl _)
      · intro D H' hD e2 h2
        tm_at "r"
        refine ⟨_, List.replicate ns.length true, rfl, SqL.of ?_, ?_⟩
        · rw [h2, filter_yes, List.map_const', List.length_range, List.map_replicate]
        have e3 : (List.replicate ns.length true).all id = true := List.all_eq_true.mpr fun b hb => (List.mem_replicate.mp hb).2
        rw [e3, ← hb]
        exact k H' e2
    · rw [← hb]
      exact k H (Ex.refl _)
def spIsTrip (K : PySem.W.Frag) : Sp := fun vs H Q _ => ∃ (a b : Addr) (d ns : List Int), vs = [.ref a, .ref b] ∧ SqT K H a (d.map V.int) ∧ 3 ≤ d.length ∧ SqT K H b (ns.map V.int) ∧ ns.length ≤ 100000 ∧ ∀ H', Ex H H' → Q (.bl (isTripT d ns)) H'
abbrev N_is_triple : List PySem.Str := ["displacements", "value", "x", "y", "z"]
theorem sc_is_triple : FnScope N_is_triple ["displacements", "value"] (defScope st_is_triple) := ⟨rfl, rfl, rfl, by decide +kernel, rfl, by decide +kernel, by decide +kernel⟩
theorem sg_is_triple (v0 v1 : V) : L2.start N_is_triple [v0, v1] = [some v0, some v1, none, none, none] := rfl
theorem bi_is_triple {K : PySem.W.Frag} {f : Addr} {fd : FuncData} (F : FnP K "is_triple" st_is_triple f fd) : Binds K fd ["displacements", "value"] [] := F.bindsN fun _ _ _ _ _ _ us hl => match us, hl with | [_, _], _ => rfl

-- 0:displacements 1:value 2:x 3:y 4:z
theorem ok_is_triple (F : FnP K "is_triple" st_is_triple f fd) (fr : Free mg) (D_are_integers : Def P w K mg base CX0 2 "are_integers" ["value", "size"] (spAreInts K)) (D_end_of_copy : Def P w K mg base CX0 1 "end_of_copy" ["displacements", "copy"] (spEoc K)) : FnOk P w K mg base CX0 3 f fd ["displacements", "value"] (spIsTrip K) := by
  refine F.ok sc_is_triple (fun vs H Q E h => ?_) (fun cdv A outer s H vs Q E hr h => ?_)
  · obtain ⟨a, b, d, ns, rfl, _⟩ := h
    rfl
  · obtain ⟨a, b, d, ns, rfl, ha, hd3, hb, hz, k⟩ := h
    refine ⟨_, PSs.nox (pss_cons (ps_if (PW.pt (pw_or (pt_not (pt_val (pe_def D_are_integers (hr.mono (by decide)) (pa_cons (pv 1) (pa_cons pe_int pa_nil))))) (pw_or1 (pt_not (pt_chain op_le op_lt pe_int (pe_ix (ixt (K := K) rfl) (pv 1) pe_int (fun _ _ => rfl)) (pe_callB (lenq (K := K) rfl) (by rfl) fr.len (by decide +kernel) (pa_cons (pv 0) pa_nil))))))) (pss_one (ps_ret pe_bl)) pss_nil)
    (pss_cons (ps_asg (pv 1) (pgt (n := 3) (K := K) rfl rfl (pgs_cons (pg_name (i := 2) sc_is_triple.nd rfl (Or.inl rfl)) (pgs_cons (pg_name (i := 3) sc_is_triple.nd rfl (Or.inl rfl)) (pgs_cons (pg_name (i := 4) sc_is_triple.nd rfl (Or.inl rfl)) pgs_nil)))))
    (pss_one (ps_ret (pe_and (pe_chain op_lt op_lt (pv 2) (pv 3) (pv 4)) (pe_one (pe_chain op_gt op_gt (pe_def D_end_of_copy (hr.mono (by decide)) (pa_cons (pv 0) (pa_cons (pv 2) pa_nil))) (pe_def D_end_of_copy (hr.mono (by decide)) (pa_cons (pv 0) (pa_cons (pv 3) pa_nil))) (pe_def D_end_of_copy (hr.mono (by decide)) (pa_cons (pv 0) (pa_cons (pv 4) pa_nil)))))))))), ?_⟩
    rw [sg_is_triple]
    tm_at "r"
    refine ⟨b, ns, 3, rfl, hb, hz, fun H1 e1 => ?_⟩
    have q := k H1 e1
    unfold isTripT at q
    have e3 : decide ((ns.length : Int) = 3) = decide (ns.length = 3) := decide_eq_decide.mpr (by omega)
    rw [e3]
    tm_at "r"
    refine r_ite (fun hc => ?_) (fun hc => ?_)
    · rw [Bool.not_eq_true'] at hc
      rw [hc] at q
      tm_at "r"
      exact q
    · rw [Bool.not_eq_false'] at hc
      rw [hc] at q
      have hl := of_decide_eq_true hc
      match ns, hl with
      | [x, y, z], _ => ?_
      have hb1 := ex_t e1 hb
      have ha1 := ex_t e1 ha
      tm_at "r"
      refine r_ixT hb1 (at_of (j := 0) rfl rfl) ?_
      have q : Q (.bl (true && (decide (0 ≤ x) && decide (x < (d.length : Int))) && ((decide (x < y) && decide (y < z)) && (decide (eoc d y < eoc d x) && decide (eoc d z < eoc d y))))) H1 := q
      tm_at "r"
      refine r_ite (fun c1 => ?_) (fun c1 => by rw [c1] at q; tm_at "r"; exact q)
      rw [c1] at q
      tm_at "r"
      refine r_lenT ha1 ?_
      rw [List.length_map]
      tm_at "r"
      refine r_ite (fun c2 => ?_) (fun c2 => ?_)
      · rw [Bool.not_eq_true'] at c2
        rw [c2] at q
        tm_at "r"
        exact q
      rw [Bool.not_eq_false'] at c2
      rw [c2] at q
      tm_at "r"
      refine r_gTup hb1 rfl ?_
      rw [show [x, y, z].map V.int = [.int x, .int y, .int z] from rfl]
      tm_at "r"
      refine r_ite (fun c3 => ?_) (fun c3 => ?_)
      · rw [c3] at q
        tm_at "r"
        refine r_ite (fun c4 => ?_) (fun c4 => ?_)
        · rw [c4] at q
          tm_at "r"
          refine ⟨a, d, _, rfl, ha1, by omega, ?_⟩
          tm_at "r"
          refine ⟨a, d, _, rfl, ha1, by omega, ?_⟩
          tm_at "r"
          refine r_ite (fun c5 => ?_) (fun c5 => ?_)
          · rw [c5] at q
            tm_at "r"
            refine ⟨a, d, _, rfl, ha1, by omega, ?_⟩
            tm_at "r"
            exact q
          · rw [c5] at q
            exact q
        · rw [c4] at q
          exact q
      · rw [c3] at q
        tm_at "r"
        exact q
def spIsRef (K : PySem.W.Frag) : Sp := fun vs H Q _ => ∃ (a b c : Addr) (R : List (List Int)) (d ns : List Int), vs = [.ref a, .ref b, .ref c] ∧ RkAt K H a R ∧ RkOk R ∧ SqT K H b (d.map V.int) ∧ 3 ≤ d.length ∧ d.length ≤ 20 ∧ d.length = R.length ∧
  SqT K H c (ns.map V.int) ∧ ns.length ≤ 100000 ∧ ∀ H', Ex H H' → Q (.bl (isRefT R d ns)) H'
abbrev N_is_refusal : List PySem.Str := ["rankings", "displacements", "value", "x", "z"]
theorem sc_is_refusal : FnScope N_is_refusal ["rankings", "displacements", "value"] (defScope st_is_refusal) := ⟨rfl, rfl, rfl, by decide +kernel, rfl, by decide +kernel, by decide +kernel⟩
theorem sg_is_refusal (v0 v1 v2 : V) : L2.start N_is_refusal [v0, v1, v2] = [some v0, some v1, some v2, none, none] := rfl
theorem bi_is_refusal {K : PySem.W.Frag} {f : Addr} {fd : FuncData} (F : FnP K "is_refusal" st_is_refusal f fd) : Binds K fd ["rankings", "displacements", "value"] [] := F.bindsN fun _ _ _ _ _ _ us hl => match us, hl with | [_, _, _], _ => rfl

-- 0:rankings 1:displacements 2:value 3:x 4:z
theorem ok_is_refusal (F : FnP K "is_refusal" st_is_refusal f fd) (fr : Free mg) (D_are_integers : Def P w K mg base CX0 2 "are_integers" ["value", "size"] (spAreInts K)) (D_triple_there : Def P w K mg base CX0 4 "triple_there" ["displacements"] (spTrip K))
    (D_rank_tables : Def P w K mg base CX0 1 "rank_tables" ["rankings"] (spTables K)) (D_inversions_there : Def P w K mg base CX0 3 "inversions_there" ["displacements"] (spInvs K))
    (D_refusals_there : Def P w K mg base CX0 3 "refusals_there" ["tables", "displacements", "x", "z"] (spRef K)) : FnOk P w K mg base CX0 5 f fd ["rankings", "displacements", "value"] (spIsRef K) := by
  refine F.ok sc_is_refusal (fun vs H Q E h => ?_) (fun cdv A outer s H vs Q E hr h => ?_)
  · obtain ⟨a, b, c, R, d, ns, rfl, _⟩ := h
    rfl
  · obtain ⟨a, b, c, R, d, ns, rfl, hR, ok, hd, h3, h20, hl, hc, hz, k⟩ := h
    have hu65 : (A.deeper (envOfC "is_refusal" (defScope st_is_refusal) s.heap.objs.size f cdv)).units + 65 < cLine := by have := hr.un; omega
    refine ⟨_, PSs.nox (pss_cons (ps_if (PW.pt (pw_or (pt_cmpR notn (pe_def D_triple_there (hr.mono (by decide)) (pa_cons (pv 1) pa_nil)) pe_non (nomark _)) (pw_or1 (pt_not (pt_val (pe_def D_are_integers (hr.mono (by decide)) (pa_cons (pv 2) (pa_cons pe_int pa_nil)))))))) (pss_one (ps_ret pe_bl)) pss_nil)
    (pss_cons (ps_par (i := 3) (j := 4) rfl sc_is_refusal.nd rfl rfl (by decide) rfl rfl (pa_cons (pe_ix (ixt (K := K) rfl) (pv 2) pe_int (fun _ _ => rfl)) (pa_cons (pe_ix (ixt (K := K) rfl) (pv 2) pe_int (fun _ _ => rfl)) pa_nil)) (by rfl))
    (pss_cons (ps_if (pt_cmpR (nind (K := K) rfl hu65) (pe_tup (pa_cons (pv 3) (pa_cons (pv 4) pa_nil))) (pe_def D_inversions_there (hr.mono (by decide)) (pa_cons (pv 1) pa_nil)) rfl) (pss_one (ps_ret pe_bl)) pss_nil)
    (pss_one (ps_ret (pe_cmpR (ind (K := K) rfl hu65) (pv 2) (pe_def D_refusals_there (hr.mono (by decide)) (pa_cons (pe_def D_rank_tables (hr.mono (by decide)) (pa_cons (pv 0) pa_nil)) (pa_cons (pv 1) (pa_cons (pv 3) (pa_cons (pv 4) pa_nil))))) rfl)))))), ?_⟩
    rw [sg_is_refusal]
    unfold isRefT at k
    tm_at "r"
    refine ⟨b, d, rfl, hd, h3, h20, fun no H1 e1 => ?_, fun t ht p H1 e1 hp => ?_⟩
    · rw [no] at k
      tm_at "r"
      refine r_notN ?_
      tm_at "r"
      refine ⟨c, ns, 4, rfl, ex_t e1 hc, hz, fun H2 e2 => ?_⟩
      have e4 : decide ((ns.length : Int) = 4) = decide (ns.length = 4) := decide_eq_decide.mpr (by omega)
      rw [e4]
      tm_at "r"
      refine r_ite (fun c1 => ?_) (fun c1 => ?_)
      · rw [Bool.not_eq_true'] at c1
        have q := k H2 (e1.trans e2)
        rw [c1] at q
        tm_at "r"
        exact q
      · rw [Bool.not_eq_false'] at c1
        have h4 := of_decide_eq_true c1
        have e02 := e1.trans e2
        have hc2 := ex_t e02 hc
        tm_at "r"
        refine r_ixTI hc2 (by omega) (by omega) ?_
        tm_at "r"
        refine r_ixTI hc2 (by omega) (by omega) ?_
        tm_at "r"
        w_call pq n3 H3 e3 h3' u3 z3
        tm_at "r"
        refine ⟨b, d, rfl, ex_t (e02.trans e3) hd, h3, h20, fun pi H4 ys e5 hp ty => ?_⟩
        have e04 := (e02.trans e3).trans e5
        refine ⟨dTI [ix ns 1, ix ns 2], (invs d).map dTI, dp_ti (SqT.of (e5 _ _ h3')), .lst (SqL.of hp) ty.dp, sh_ti _, sh_tis _, ?_⟩
        tm_at "r"
        rw [any_tis]
        refine r_ite (fun c2 => ?_) (fun c2 => ?_)
        · rw [Bool.not_eq_true'] at c2
          have q := k H4 e04
          rw [c1, c2] at q
          tm_at "r"
          exact q
        · rw [Bool.not_eq_false'] at c2
          have hm := of_decide_eq_true c2
          obtain ⟨x, z, eq, hx, hx2, hz2⟩ := invs_mem hm
          have hzb := later_bd hz2
          injection eq with ea eb
          injection eb with eb _
          tm_at "r"
          refine ⟨a, R, rfl, dp_ex e04 hR, ok, fun pt H5 qs e6 h5 tb => ?_⟩
          tm_at "r"
          refine ⟨pt, b, qs, R, d, ix ns 1, ix ns 2, rfl, SqL.of h5, tb, ok, ex_t (e04.trans e6) hd, hl, by omega, by omega, by omega, by omega, fun pf H6 zs e7 h6 tz => ?_⟩
          refine ⟨dTI ns, (refT R d (ix ns 1) (ix ns 2)).map dTI, dp_ti (ex_t ((e04.trans e6).trans e7) hc), .lst (SqL.of h6) tz.dp, sh_ti _, sh_tis _, ?_⟩
          rw [any_tis]
          have q := k H6 ((e04.trans e6).trans e7)
          rw [c1, c2] at q
          exact q
    · rw [ht] at k
      tm_at "r"
      refine r_notR ?_
      tm_at "r"
      exact k H1 e1
theorem none_of_ex {H H' : Hp} {a : Addr} (e : Ex H H') (n : H' a = none) : H a = none := by
  cases q : H a with
  | none => rfl
  | some u => rw [e _ _ q] at n; cases n
def goodT (R : List (List Int)) (d : List Int) (x : Str) (ns : List Int) : Bool := if x = "sequence" then leadsT R d ns else if x = "triple" then isTripT d ns else isRefT R d ns
def IsWord (x : Str) : Prop := x = "refused" ∨ x = "sequence" ∨ x = "triple"
def spCheck (K : PySem.W.Frag) (C : Addr) : Sp := fun vs H Q E => ∃ (a b c : Addr) (R : List (List Int)) (d : List Int) (x : Str) (ns : List Int), vs = [.ref a, .ref b, .ref c] ∧ RkAt K H a R ∧ RkOk R ∧ SqT K H b (d.map V.int) ∧ DispOk d ∧ d.length = R.length ∧
  AnsAt K H c x ns ∧ IsWord x ∧ ns.length ≤ 100000 ∧ (goodT R d x ns = true → ∀ H', Ex H H' → Q (.str x) H') ∧ (goodT R d x ns = false → ∀ dd H', H dd = none → Ex H H' → H' dd = some (.xd [("part", .str x)]) → E (.ref C) (some dd) H')
abbrev N_check_ring_decision : List PySem.Str := ["rankings", "displacements", "answer", "word", "value", "is_correct"]
theorem sc_check_ring_decision : FnScope N_check_ring_decision ["rankings", "displacements", "answer"] (defScope st_check_ring_decision) := ⟨rfl, rfl, rfl, by decide +kernel, rfl, by decide +kernel, by decide +kernel⟩
theorem sg_check_ring_decision (v0 v1 v2 : V) : L2.start N_check_ring_decision [v0, v1, v2] = [some v0, some v1, some v2, none, none, none] := rfl
theorem bi_check_ring_decision {K : PySem.W.Frag} {f : Addr} {fd : FuncData} (F : FnP K "check_ring_decision" st_check_ring_decision f fd) : Binds K fd ["rankings", "displacements", "answer"] [] := F.bindsN fun _ _ _ _ _ _ us hl => match us, hl with | [_, _, _], _ => rfl

-- 0:rankings 1:displacements 2:answer 3:word 4:value 5:is_correct
theorem ok_check_ring_decision (F : FnP K "check_ring_decision" st_check_ring_decision f fd) (fr : Free mg) (gl : Glo K mg) (T_InvalidAnswer : ErrD P w K mg base "InvalidAnswer" "part" C) (D_check_both : Def P w K mg base CX0 6 "check_both" ["rankings", "displacements"] (spCheckBoth K))
    (D_leads_to : Def P w K mg base CX0 7 "leads_to" ["rankings", "sequence", "displacements"] (spLeads K)) (D_is_triple : Def P w K mg base CX0 3 "is_triple" ["displacements", "value"] (spIsTrip K))
    (D_is_refusal : Def P w K mg base CX0 5 "is_refusal" ["rankings", "displacements", "value"] (spIsRef K)) : FnOk P w K mg base (L2.CX P w) 8 f fd ["rankings", "displacements", "answer"] (spCheck K C) := by
  refine F.ok sc_check_ring_decision (fun vs H Q E h => ?_) (fun cdv A outer s H vs Q E hr h => ?_)
  · obtain ⟨a, b, c, R, d, x, ns, rfl, _⟩ := h
    rfl
  · obtain ⟨a, b, c, R, d, x, ns, rfl, hR, ok, hd, od, hl, ⟨q, hc, hq⟩, hw, hz, k1, k2⟩ := h
    obtain ⟨wa, gW, sW⟩ := gl.WORDS
    have h3 := od.lo
    have h20 := od.hi
    refine ⟨_, (pss_cons (ps_expr (pe_def D_check_both (hr.mono (by decide)) (pa_cons (pv 0) (pa_cons (pv 1) pa_nil))))
    (pss_cons (ps_if (PW.pt (pw_or (pt_not (pt_val (pe_callB (isiq (K := K) rfl) (by rfl) fr.isinstance (by decide +kernel) (pa_cons (pv 2) (pa_cons (pe_bltn (v := .ty "tuple") (by rfl) fr.tuple (by decide +kernel) rfl) pa_nil))))) (pw_or (pt_cmpR op_ne (pe_callB (lenq (K := K) rfl) (by rfl) fr.len (by decide +kernel) (pa_cons (pv 2) pa_nil)) pe_int (nomark _)) (pw_or (pt_not (pt_val (pe_callB (isiq (K := K) rfl) (by rfl) fr.isinstance (by decide +kernel) (pa_cons (pe_ix (ixt (K := K) rfl) (pv 2) pe_int (fun _ _ => rfl)) (pa_cons (pe_bltn (v := .ty "str") (by rfl) fr.str (by decide +kernel) rfl) pa_nil))))) (pw_or1 (pt_cmpR (ninq (K := K) rfl) (pe_ix (ixt (K := K) rfl) (pv 2) pe_int (fun _ _ => rfl)) (pe_glob (v := .ref wa) (by rfl) gW rfl) rfl)))))) (pss_one ps_never) pss_nil)
    (pss_cons (ps_asg (pv 2) (pgt (n := 2) (K := K) rfl rfl (pgs_cons (pg_name (i := 3) sc_check_ring_decision.nd rfl (Or.inl rfl)) (pgs_cons (pg_name (i := 4) sc_check_ring_decision.nd rfl (Or.inl rfl)) pgs_nil))))
    (Evl.pss_cut (ps_if (pt_cmpR op_eq (pv 3) pe_str (nomark _)) (pss_one (ps_set (i := 5) sc_check_ring_decision.nd rfl (Or.inl rfl) (pe_def D_leads_to (hr.mono (by decide)) (pa_cons (pv 0) (pa_cons (pv 4) (pa_cons (pv 1) pa_nil)))))) (pss_one (ps_if (pt_cmpR op_eq (pv 3) pe_str (nomark _)) (pss_one (ps_set (i := 5) sc_check_ring_decision.nd rfl (Or.inl rfl) (pe_def D_is_triple (hr.mono (by decide)) (pa_cons (pv 1) (pa_cons (pv 4) pa_nil))))) (pss_one (ps_set (i := 5) sc_check_ring_decision.nd rfl (Or.inl rfl) (pe_def D_is_refusal (hr.mono (by decide)) (pa_cons (pv 0) (pa_cons (pv 1) (pa_cons (pv 4) pa_nil)))))))))
    (pss_cons (ps_if (pt_not (pt_val (pv 5))) (pss_one (ps_err (K := K) rfl rfl T_InvalidAnswer (hr.mono (by decide)) (takes_of rfl rfl rfl rfl) (pa_cons (pv 3) pa_nil))) pss_nil)
    (pss_one (ps_ret (pv 3)))))))), ?_⟩
    rw [sg_check_ring_decision]
    tm_at "r"
    refine ⟨a, b, R, d, rfl, hR, ok, hd, od, hl, fun H1 e1 => ?_⟩
    tm_at "r"
    have hc1 := ex_t e1 hc
    have hq1 := ex_t e1 hq
    refine r_isiTT hc1 ?_
    tm_at "r"
    refine r_lenT hc1 ?_
    tm_at "r"
    refine r_no (by rw [show ([V.str x, V.ref q].length : Int) = 2 from rfl, decide_eq_true rfl] <;> rfl) ?_
    tm_at "r"
    refine r_ixT hc1 (at_of (j := 0) rfl rfl) ?_
    tm_at "r"
    refine r_isiSS ?_
    tm_at "r"
    refine r_ixT hc1 (at_of (j := 0) rfl rfl) ?_
    tm_at "r"
    refine ⟨wa, _, rfl, .inr (sW H1), rfl, rfl, ?_⟩
    have hin : (if true = true then !inV (V.str x) [.str "refused", .str "sequence", .str "triple"] else inV (V.str x) [.str "refused", .str "sequence", .str "triple"]) = false := by
      rcases hw with rfl | rfl | rfl <;> decide +kernel
    rw [hin]
    tm_at "r"
    refine r_gTup hc1 rfl ?_
    tm_at "r"
    refine r_cut (fun σ' H2 => ∃ g, σ' = [some (.ref a), some (.ref b), some (.ref c), some (.str x), some (.ref q), some (.bl g)] ∧ g = goodT R d x ns ∧ Ex H H2) ?_ ?_
    · tm_at "r"
      unfold goodT
      refine r_ite (fun c1 => ?_) (fun c1 => ?_)
      · rw [if_pos (of_decide_eq_true c1)]
        tm_at "r"
        exact ⟨a, q, b, R, ns, d, rfl, dp_ex e1 hR, ok, hq1, ex_t e1 hd, fun H2 e2 => ⟨_, rfl, rfl, e1.trans e2⟩⟩
      · rw [if_neg (of_decide_eq_false c1)]
        tm_at "r"
        refine r_ite (fun c2 => ?_) (fun c2 => ?_)
        · rw [if_pos (of_decide_eq_true c2)]
          tm_at "r"
          exact ⟨b, q, d, ns, rfl, ex_t e1 hd, h3, hq1, hz, fun H2 e2 => ⟨_, rfl, rfl, e1.trans e2⟩⟩
        · rw [if_neg (of_decide_eq_false c2)]
          tm_at "r"
          exact ⟨a, b, q, R, d, ns, rfl, dp_ex e1 hR, ok, ex_t e1 hd, h3, h20, hl, hq1, hz, fun H2 e2 => ⟨_, rfl, rfl, e1.trans e2⟩⟩
    · rintro σ' H2 ⟨g, rfl, hg, e2⟩
      tm_at "r"
      refine r_ite (fun c1 => ?_) (fun c1 => ?_)
      · rw [Bool.not_eq_true'] at c1
        tm_at "r"
        refine r_tErr (r_mko ?_)
        tm_at "r"
        refine r_err fun dd H3 nd e3 h3 => ?_
        exact k2 (hg.symm.trans c1) dd H3 (none_of_ex e2 nd) (e2.trans e3) h3
      · rw [Bool.not_eq_false'] at c1
        tm_at "r"
        exact k1 (hg.symm.trans c1) H2 e2
end
end SW
end

section
set_option Elab.async false
set_option linter.all false
set_option maxRecDepth 100000
set_option maxHeartbeats 4000000
namespace SW
open PySem PySem.Spec PyProof.Rows L2 Evl
local macro_rules | `(tactic| tm_at "r1") => `(tactic| first
  | ((with_reducible refine' r_var ?hx ?_); (case hx => exact rfl))
  | with_reducible refine r_c ?_
  | with_reducible refine r_op ?_
  | with_reducible refine r_I0 ?_
  | with_reducible refine r_un ?_
  | with_reducible refine r_U ?_
  | with_reducible refine r_cons ?_
  | with_reducible refine r_nil ?_
  | with_reducible refine r_call ?_
  | with_reducible refine r_cb ?_
  | with_reducible refine r_test ?_
  | with_reducible refine r_blp ?_
  | with_reducible refine r_tYes ?_
  | with_reducible refine r_ifT ?_
  | with_reducible refine r_ifF ?_
  | ((with_reducible refine' r_aug ?hx ?_); (case hx => exact rfl))
  | with_reducible refine r_seq ?_
  | with_reducible refine r_asg ?_
  | with_reducible refine r_gname ?_
  | with_reducible refine r_ret ?_
  | with_reducible refine r_tup ?_
  | with_reducible refine r_lst ?_
  | with_reducible refine r_ifS ?_
  | with_reducible refine r_par ?_
  | with_reducible refine r_two ?_
  | with_reducible refine r_lc ?_
  | with_reducible refine r_rng1 ?_
  | with_reducible refine r_rng2 ?_
  | with_reducible refine r_iList ?_
  | with_reducible refine r_iTup ?_
  | with_reducible refine r_for ?_
  | with_reducible refine r_not ?_
  | with_reducible refine r_and ?_
  | with_reducible refine r_or ?_
  | with_reducible refine r_andV ?_
  | with_reducible refine r_orV ?_
  | with_reducible refine r_notV ?_
  | with_reducible refine r_if ?_
  | with_reducible refine r_chain ?_
  | with_reducible refine r_B ?_
  | with_reducible refine r_next ?_
  | with_reducible refine r_drop ?_
  | with_reducible refine r_retN ?_
  | with_reducible refine r_ipI ?_
  | ((with_reducible refine' r_sz ?hz ?_); (case hz => exact Nat.le_of_ble_eq_true rfl))
  | with_reducible refine r_gCons ?_
  | with_reducible refine r_gNil ?_
  | with_reducible refine r_par3 ?_
  | with_reducible refine r_three ?_
  | with_reducible refine r_listRg ?_
  | with_reducible refine r_tupRg ?_
  | with_reducible refine r_augS ?_
  | with_reducible refine r_lenSetT ?_
  | with_reducible refine r_lenSetL ?_
  | with_reducible refine r_ifNT ?_
  | with_reducible refine r_ifNF ?_
  | with_reducible refine r_eqI ?_
  | with_reducible refine r_neI ?_
  | with_reducible refine r_eqS ?_
  | with_reducible refine r_neS ?_
  | with_reducible refine r_bm ?_
  | with_reducible refine r_bt ?_
  | with_reducible refine r_iEnT ?_
  | with_reducible refine r_iEnL ?_
  | with_reducible refine r_dc ?_
  | with_reducible refine r_dget ?_
  | with_reducible refine r_dput ?_
  | with_reducible refine r_sl ?_
  | with_reducible refine r_noP ?_
  | with_reducible refine r_part ?_
  | with_reducible refine r_revL ?_
  | with_reducible refine r_gSub ?_)
local macro_rules | `(tactic| tm_at "r") => `(tactic| repeat tm_at "r1")
local macro_rules | `(tactic| w_call $p $n $H1 $e $h $u $z) => `(tactic| (intro $p:ident $n:ident; generalize $u:ident : upd _ $p:ident _ = $H1:ident; obtain ⟨$e, $h⟩ := new_of $n:ident $u:ident))
/-! the law's own defs that only read -/
/-- the rankings as tuple(..) makes them -/
def RkX (K : PySem.W.Frag) (H : Hp) (a : Addr) (R : List (List Int)) : Prop := ∃ qs : List Addr, SqT K H a (qs.map V.ref) ∧ Paired (fun r q => ExT H q (r.map V.int)) R qs
theorem RkX.ex {K : PySem.W.Frag} {H H' : Hp} {a : Addr} {R : List (List Int)} (h : RkX K H a R) (e : Ex H H') : RkX K H' a R := let ⟨qs, s, p⟩ := h; ⟨qs, ex_t e s, Paired.mapP p fun _ _ z => z.ex e⟩
theorem RkX.at {K : PySem.W.Frag} {H : Hp} {R : List (List Int)} {qs : List Addr} (p : Paired (fun r q => ExT H q (r.map V.int)) R qs) : ∀ {i : Nat} {r : List Int}, R[i]? = some r → ∃ q, qs[i]? = some q ∧ ExT H q (r.map V.int) := by
  induction p with
  | nil => intro i r e; simp at e
  | cons h t ih =>
    intro i r e
    cases i with
    | zero =>
      cases e
      exact ⟨_, rfl, h⟩
    | succ i => exact ih (i := i) (by simpa using e)
theorem RkX.rk {K : PySem.W.Frag} {H : Hp} {a : Addr} {R : List (List Int)} (h : RkX K H a R) : RkAt K H a R := by
  obtain ⟨qs, s, p⟩ := h
  refine .tup s ?_
  clear s
  induction p with
  | nil => exact .nil
  | cons h t ih => exact .cons (dp_ti h.sq) ih
theorem rk_look {K : PySem.W.Frag} {H : Hp} {a : Addr} {R : List (List Int)} (h : RkX K H a R) (ok : RkOk R) {p : Int} (h0 : 0 ≤ p) (h1 : p < R.length) :
    ∃ (xs : List V) (q : Addr), SqT K H a xs ∧ xs.length = R.length ∧ atI xs p = some (.ref q) ∧ ExT H q ((R.getD p.toNat []).map V.int) ∧ ∀ x : Int, 0 ≤ x → x < R.length → x ∈ R.getD p.toNat [] := by
  obtain ⟨qs, s, pr⟩ := h
  have hl : p.toNat < R.length := by omega
  obtain ⟨q, e1, e2⟩ := RkX.at (K := K) pr (List.getElem?_eq_getElem hl)
  have eg : R.getD p.toNat [] = R[p.toNat] := by rw [List.getD_eq_getElem?_getD, List.getElem?_eq_getElem hl] <;> rfl
  rw [eg]
  exact ⟨_, q, s, by rw [List.length_map]; exact (Paired.length pr).symm, at_of (j := p.toNat) (by omega) (by rw [List.getElem?_map, e1] <;> rfl), e2, fun x a b => ok.has _ (List.getElem_mem hl) x a b⟩
section
variable {P : Program} {w : World} {K : PySem.W.Frag} {mg : Str → Option Value} {base : Heap} {f : Addr} {fd : FuncData} {C : Addr}
def spLikes (K : PySem.W.Frag) : Sp := fun vs H Q _ => ∃ (a : Addr) (R : List (List Int)) (p x z : Int), vs = [.ref a, .int p, .int x, .int z] ∧ RkX K H a R ∧ RkOk R ∧ 0 ≤ p ∧ p < R.length ∧ 0 ≤ x ∧ x < R.length ∧ 0 ≤ z ∧ z < R.length ∧ Q (.bl (decide (rk R p x < rk R p z))) H
abbrev N_law_likes_more : List PySem.Str := ["_law_lists", "_law_who", "_law_thing", "_law_far"]
theorem sc_law_likes_more : FnScope N_law_likes_more ["_law_lists", "_law_who", "_law_thing", "_law_far"] (defScope st_law_likes_more) := ⟨rfl, rfl, rfl, by decide +kernel, rfl, by decide +kernel, by decide +kernel⟩
theorem sg_law_likes_more (v0 v1 v2 v3 : V) : L2.start N_law_likes_more [v0, v1, v2, v3] = [some v0, some v1, some v2, some v3] := rfl
theorem bi_law_likes_more {K : PySem.W.Frag} {f : Addr} {fd : FuncData} (F : FnP K "_law_likes_more" st_law_likes_more f fd) : Binds K fd ["_law_lists", "_law_who", "_law_thing", "_law_far"] [] := F.bindsN fun _ _ _ _ _ _ us hl => match us, hl with | [_, _, _, _], _ => rfl

-- 0:_law_lists 1:_law_who 2:_law_thing 3:_law_far
theorem ok_likes_more (F : FnP K "_law_likes_more" st_law_likes_more f fd) (fr : Free mg) : FnOk P w K mg base CX0 1 f fd ["_law_lists", "_law_who", "_law_thing", "_law_far"] (spLikes K) := by
  refine F.ok sc_law_likes_more (fun vs H Q E h => ?_) (fun cdv A outer s H vs Q E hr h => ?_)
  · obtain ⟨a, R, p, x, z, rfl, _⟩ := h
    rfl
  · obtain ⟨a, R, p, x, z, rfl, hR, ok, p0, p1, x0, x1, z0, z1, k⟩ := h
    obtain ⟨xs, q, hs, hl, hat, xq, hin⟩ := rk_look hR ok p0 p1
    refine ⟨_, PSs.nox (pss_one (ps_ret (pe_cmpR op_lt (bmt PySem.F.plainAttrs_tuple PySem.F.slot_tuple_index PySem.F.type_tuple_index (idxt (K := K) rfl) (pe_ix (ixt (K := K) rfl) (pv 0) (pv 1) (fun _ _ => rfl)) (pa_cons (pv 2) pa_nil)) (bmt PySem.F.plainAttrs_tuple PySem.F.slot_tuple_index PySem.F.type_tuple_index (idxt (K := K) rfl) (pe_ix (ixt (K := K) rfl) (pv 0) (pv 1) (fun _ _ => rfl)) (pa_cons (pv 3) pa_nil)) (nomark _)))), ?_⟩
    rw [sg_law_likes_more]
    tm_at "r"
    refine r_ixT hs hat ?_
    refine ⟨⟨q, _, rfl, xq⟩, ?_⟩
    tm_at "r"
    refine r_idxT xq.sq (hin x x0 x1) ?_
    tm_at "r"
    refine r_ixT hs hat ?_
    refine ⟨⟨q, _, rfl, xq⟩, ?_⟩
    tm_at "r"
    refine r_idxT xq.sq (hin z z0 z1) ?_
    tm_at "r"
    exact k
def spLMay (K : PySem.W.Frag) : Sp := fun vs H Q _ => ∃ (a b : Addr) (R : List (List Int)) (A : List Int) (p : Int), vs = [.ref a, .ref b, .int p] ∧ RkX K H a R ∧ RkOk R ∧ SqT K H b (A.map V.int) ∧ A.length = R.length ∧ (∀ x ∈ A, 0 ≤ x ∧ x < R.length) ∧ 0 ≤ p ∧ p < R.length ∧ Q (.bl (mayT R A p)) H
abbrev N_law_ring_may : List PySem.Str := ["_law_lists", "_law_row", "_law_at", "_law_near"]
theorem sc_law_ring_may : FnScope N_law_ring_may ["_law_lists", "_law_row", "_law_at"] (defScope st_law_ring_may) := ⟨rfl, rfl, rfl, by decide +kernel, rfl, by decide +kernel, by decide +kernel⟩
theorem sg_law_ring_may (v0 v1 v2 : V) : L2.start N_law_ring_may [v0, v1, v2] = [some v0, some v1, some v2, none] := rfl
theorem bi_law_ring_may {K : PySem.W.Frag} {f : Addr} {fd : FuncData} (F : FnP K "_law_ring_may" st_law_ring_may f fd) : Binds K fd ["_law_lists", "_law_row", "_law_at"] [] := F.bindsN fun _ _ _ _ _ _ us hl => match us, hl with | [_, _, _], _ => rfl

-- 0:_law_lists 1:_law_row 2:_law_at 3:_law_near
theorem ok_ring_may (F : FnP K "_law_ring_may" st_law_ring_may f fd) (fr : Free mg) (D_law_likes_more : Def P w K mg base CX0 1 "_law_likes_more" ["_law_lists", "_law_who", "_law_thing", "_law_far"] (spLikes K)) : FnOk P w K mg base CX0 2 f fd ["_law_lists", "_law_row", "_law_at"] (spLMay K) := by
  refine F.ok sc_law_ring_may (fun vs H Q E h => ?_) (fun cdv A outer s H vs Q E hr h => ?_)
  · obtain ⟨a, b, R, A, p, rfl, _⟩ := h
    rfl
  · obtain ⟨a, b, R, A, p, rfl, hR, ok, hb, hl, hA, p0, p1, k⟩ := h
    have hlo := ok.lo
    refine ⟨_, PSs.nox (pss_cons (ps_set (i := 3) sc_law_ring_may.nd rfl (Or.inl rfl) (pe_op op_mod (pe_op op_add (pv 2) pe_int) (pe_callB (lenq (K := K) rfl) (by rfl) fr.len (by decide +kernel) (pa_cons (pv 1) pa_nil))))
    (pss_one (ps_ret (pe_and (pe_def D_law_likes_more (hr.mono (by decide)) (pa_cons (pv 0) (pa_cons (pv 2) (pa_cons (pe_ix (ixt (K := K) rfl) (pv 1) (pv 3) (fun _ _ => rfl)) (pa_cons (pe_ix (ixt (K := K) rfl) (pv 1) (pv 2) (fun _ _ => rfl)) pa_nil))))) (pe_one (pe_def D_law_likes_more (hr.mono (by decide)) (pa_cons (pv 0) (pa_cons (pv 3) (pa_cons (pe_ix (ixt (K := K) rfl) (pv 1) (pv 2) (fun _ _ => rfl)) (pa_cons (pe_ix (ixt (K := K) rfl) (pv 1) (pv 3) (fun _ _ => rfl)) pa_nil)))))))))), ?_⟩
    rw [sg_law_ring_may]
    tm_at "r"
    refine r_lenT hb ?_
    rw [List.length_map]
    refine r_I (by omega) ?_
    have q0 : 0 ≤ (p + 1) % (A.length : Int) := Int.emod_nonneg _ (by omega)
    have q1 : (p + 1) % (A.length : Int) < A.length := Int.emod_lt_of_pos _ (by omega)
    have a1 := hA _ (ix_mem (A := A) p0 (by omega))
    have a2 := hA _ (ix_mem (A := A) q0 q1)
    tm_at "r"
    refine r_ixTI hb q0 q1 ?_
    tm_at "r"
    refine r_ixTI hb p0 (by omega) ?_
    tm_at "r"
    refine ⟨a, R, p, _, _, rfl, hR, ok, p0, p1, a2.1, a2.2, a1.1, a1.2, ?_⟩
    unfold mayT at k
    tm_at "r"
    refine r_ite (fun c1 => ?_) (fun c1 => ?_)
    · rw [c1] at k
      tm_at "r"
      refine r_ixTI hb p0 (by omega) ?_
      tm_at "r"
      refine r_ixTI hb q0 q1 ?_
      tm_at "r"
      exact ⟨a, R, _, _, _, rfl, hR, ok, q0, by omega, a1.1, a1.2, a2.1, a2.2, k⟩
    · rw [c1] at k
      exact k
def spAfter (K : PySem.W.Frag) : Sp := fun vs H Q _ => ∃ (a b : Addr) (n : Nat) (s : List Int × List Int) (p : Int), vs = [.ref a, .ref b, .int p] ∧ SqT K H a (s.1.map V.int) ∧ SqT K H b (s.2.map V.int) ∧ 3 ≤ n ∧ s.1.length = n ∧ s.2.length = n ∧ (∀ x ∈ s.1, 0 ≤ x ∧ x < (n : Int)) ∧ 0 ≤ p ∧ p < n ∧
  ∀ r q1 q2 H', Ex H H' → H' r = some (.tup [.ref q1, .ref q2]) → ExT H' q1 ((stepR n s p).1.map V.int) → ExT H' q2 ((stepR n s p).2.map V.int) → Q (.ref r) H'
abbrev N_law_ring_after : List PySem.Str := ["_law_row", "_law_moves", "_law_at", "_law_near", "_law_later", "_law_shifts"]
theorem sc_law_ring_after : FnScope N_law_ring_after ["_law_row", "_law_moves", "_law_at"] (defScope st_law_ring_after) := ⟨rfl, rfl, rfl, by decide +kernel, rfl, by decide +kernel, by decide +kernel⟩
theorem sg_law_ring_after (v0 v1 v2 : V) : L2.start N_law_ring_after [v0, v1, v2] = [some v0, some v1, some v2, none, none, none] := rfl
theorem bi_law_ring_after {K : PySem.W.Frag} {f : Addr} {fd : FuncData} (F : FnP K "_law_ring_after" st_law_ring_after f fd) : Binds K fd ["_law_row", "_law_moves", "_law_at"] [] := F.bindsN fun _ _ _ _ _ _ us hl => match us, hl with | [_, _, _], _ => rfl

-- 0:_law_row 1:_law_moves 2:_law_at 3:_law_near 4:_law_later 5:_law_shifts
theorem ok_ring_after (F : FnP K "_law_ring_after" st_law_ring_after f fd) (fr : Free mg) : FnOk P w K mg base CX0 1 f fd ["_law_row", "_law_moves", "_law_at"] (spAfter K) := by
  refine F.ok sc_law_ring_after (fun vs H Q E h => ?_) (fun cdv A outer s H vs Q E hr h => ?_)
  · obtain ⟨a, b, n, s, p, rfl, _⟩ := h
    rfl
  · obtain ⟨a, b, n, s, p, rfl, ha, hb, h3, l1, l2, ra, p0, p1, k⟩ := h
    refine ⟨_, PSs.nox (pss_cons (ps_par3 (i := 3) (j := 4) (l := 5) rfl sc_law_ring_after.nd rfl rfl rfl (by decide) (by decide) (by decide) rfl rfl rfl (pa_cons (pe_op op_mod (pe_op op_add (pv 2) pe_int) (pe_callB (lenq (K := K) rfl) (by rfl) fr.len (by decide +kernel) (pa_cons (pv 0) pa_nil))) (pa_cons (pe_callTy (lstq (K := K) rfl) (by rfl) fr.list (by decide +kernel) (pa_cons (pv 0) pa_nil)) (pa_cons (pe_callTy (lstq (K := K) rfl) (by rfl) fr.list (by decide +kernel) (pa_cons (pv 1) pa_nil)) pa_nil))) (by rfl))
    (pss_cons (ps_asg (pe_tup (pa_cons (pe_ix (ixt (K := K) rfl) (pv 0) (pv 3) (fun _ _ => rfl)) (pa_cons (pe_ix (ixt (K := K) rfl) (pv 0) (pv 2) (fun _ _ => rfl)) pa_nil))) (pgt (n := 2) (K := K) rfl rfl (pgs_cons (pg_sub (pv 4) (pv 2) set_list) (pgs_cons (pg_sub (pv 4) (pv 3) set_list) pgs_nil))))
    (pss_cons (ps_asg (pe_op op_add (pe_ix (ixl (K := K) rfl) (pv 5) (pe_ix (ixt (K := K) rfl) (pv 0) (pv 2) (fun _ _ => rfl)) (fun _ _ => rfl)) pe_int) (pg_sub (pv 5) (pe_ix (ixt (K := K) rfl) (pv 0) (pv 2) (fun _ _ => rfl)) set_list))
    (pss_cons (ps_asg (pe_op op_sub (pe_ix (ixl (K := K) rfl) (pv 5) (pe_ix (ixt (K := K) rfl) (pv 0) (pv 3) (fun _ _ => rfl)) (fun _ _ => rfl)) pe_int) (pg_sub (pv 5) (pe_ix (ixt (K := K) rfl) (pv 0) (pv 3) (fun _ _ => rfl)) set_list))
    (pss_one (ps_ret (pe_tup (pa_cons (pe_callTy (tupx (K := K) rfl) (by rfl) fr.tuple (by decide +kernel) (pa_cons (pv 4) pa_nil)) (pa_cons (pe_callTy (tupx (K := K) rfl) (by rfl) fr.tuple (by decide +kernel) (pa_cons (pv 5) pa_nil)) pa_nil))))))))), ?_⟩
    rw [sg_law_ring_after]
    tm_at "r"
    refine r_lenT ha ?_
    rw [List.length_map]
    refine r_I (by omega) ?_
    tm_at "r"
    refine r_lstOf (.inr ha) fun pl H1 n1 e1 h1 => ?_
    tm_at "r"
    refine r_lstOf (.inr (ex_t e1 hb)) fun pm H2 n2 e2 h2 => ?_
    tm_at "r"
    have npl : H pl = none := n1
    have npm : H pm = none := fresh_back e1 n2
    have d12 : pl ≠ pm := ne_of_none h1 n2
    rw [l1]
    have q0 : 0 ≤ (p + 1) % (n : Int) := Int.emod_nonneg _ (by omega)
    have q1 : (p + 1) % (n : Int) < n := Int.emod_lt_of_pos _ (by omega)
    have a1 := ra _ (ix_mem (A := s.1) (p := p) p0 (by omega))
    have a2 := ra _ (ix_mem (A := s.1) q0 (by omega))
    have e02 := e1.trans e2
    refine r_ixTI (ex_t e02 ha) q0 (by omega) ?_
    tm_at "r"
    refine r_ixTI (ex_t e02 ha) p0 (by omega) ?_
    tm_at "r"
    w_call pt n3 H3 e3 h3 u3 z3
    refine r_gTup (SqT.of h3) rfl ?_
    tm_at "r"
    refine r_setLI (e3 _ _ (e2 _ _ h1)) p0 (by omega) ?_
    generalize hu4 : upd H3 pl _ = H4
    obtain ⟨m4, h4⟩ := mut_of hu4
    tm_at "r"
    refine r_setLI h4 q0 (by rw [setI_len]; omega) ?_
    generalize hu5 : upd H4 pl _ = H5
    obtain ⟨m5, h5⟩ := mut_of hu5
    have e05 : Ex H H5 := exm (exm (e02.trans e3) npl m4) npl m5
    have g5 : H5 pm = some (.lst (s.2.map V.int)) := m5 _ _ (Ne.symm d12) (m4 _ _ (Ne.symm d12) (e3 _ _ h2))
    tm_at "r"
    refine r_ixTI (ex_t e05 ha) p0 (by omega) ?_
    refine r_ixLI (SqL.of g5) a1.1 (by omega) ?_
    tm_at "r"
    refine r_ixTI (ex_t e05 ha) p0 (by omega) ?_
    refine r_setLI g5 a1.1 (by omega) ?_
    generalize hu6 : upd H5 pm _ = H6
    obtain ⟨m6, h6⟩ := mut_of hu6
    have e06 : Ex H H6 := exm e05 npm m6
    tm_at "r"
    refine r_ixTI (ex_t e06 ha) q0 (by omega) ?_
    refine r_ixLI (SqL.of h6) a2.1 (by rw [setI_len]; omega) ?_
    tm_at "r"
    refine r_ixTI (ex_t e06 ha) q0 (by omega) ?_
    refine r_setLI h6 a2.1 (by rw [setI_len]; omega) ?_
    generalize hu7 : upd H6 pm _ = H7
    obtain ⟨m7, h7⟩ := mut_of hu7
    have e07 : Ex H H7 := exm e06 npm m7
    tm_at "r"
    refine r_tupX (SqL.of (m7 _ _ d12 (m6 _ _ d12 h5))) fun t1 H8 n8 e8 x8 => ?_
    tm_at "r"
    refine r_tupX (SqL.of (e8 _ _ h7)) fun t2 H9 n9 e9 x9 => ?_
    tm_at "r"
    w_call pr n10 H10 e10 h10 u10 z10
    exact k pr t1 t2 H10 (((e07.trans e8).trans e9).trans e10) h10 ((x8.ex e9).ex e10) (x9.ex e10)
abbrev N_law_ring_ended : List PySem.Str := ["_law_moves", "_law_u"]
theorem sc_law_ring_ended : FnScope N_law_ring_ended ["_law_moves", "_law_u"] (defScope st_law_ring_ended) := ⟨rfl, rfl, rfl, by decide +kernel, rfl, by decide +kernel, by decide +kernel⟩
theorem sg_law_ring_ended (v0 v1 : V) : L2.start N_law_ring_ended [v0, v1] = [some v0, some v1] := rfl
theorem bi_law_ring_ended {K : PySem.W.Frag} {f : Addr} {fd : FuncData} (F : FnP K "_law_ring_ended" st_law_ring_ended f fd) : Binds K fd ["_law_moves", "_law_u"] [] := F.bindsN fun _ _ _ _ _ _ us hl => match us, hl with | [_, _], _ => rfl

theorem ok_ring_ended (F : FnP K "_law_ring_ended" st_law_ring_ended f fd) (fr : Free mg) : FnOk P w K mg base CX0 1 f fd ["_law_moves", "_law_u"] (spEoc K) := by
  refine F.ok sc_law_ring_ended (fun vs H Q E h => ?_) (fun cdv A outer s H vs Q E hr h => ?_)
  · obtain ⟨a, d, c, rfl, _⟩ := h
    rfl
  · obtain ⟨a, d, c, rfl, hd, hn, k⟩ := h
    refine ⟨_, PSs.nox (pss_one (ps_ret (pe_op op_add (pv 1) (pe_ix (ixt (K := K) rfl) (pv 0) (pe_op op_mod (pv 1) (pe_callB (lenq (K := K) rfl) (by rfl) fr.len (by decide +kernel) (pa_cons (pv 0) pa_nil))) (fun _ _ => rfl))))), ?_⟩
    rw [sg_law_ring_ended]
    tm_at "r"
    refine r_lenT hd ?_
    rw [List.length_map]
    refine r_I (by omega) ?_
    refine r_ixT hd (ix_at (Int.emod_nonneg _ (by omega)) (Int.emod_lt_of_pos _ (by omega))) ?_
    tm_at "r"
    exact k
abbrev N_law_ring_place : List PySem.Str := ["_law_moves", "_law_x", "_law_z", "_law_y"]
theorem sc_law_ring_place : FnScope N_law_ring_place ["_law_moves", "_law_x", "_law_z"] (defScope st_law_ring_place) := ⟨rfl, rfl, rfl, by decide +kernel, rfl, by decide +kernel, by decide +kernel⟩
theorem sg_law_ring_place (v0 v1 v2 : V) : L2.start N_law_ring_place [v0, v1, v2] = [some v0, some v1, some v2, none] := rfl
theorem bi_law_ring_place {K : PySem.W.Frag} {f : Addr} {fd : FuncData} (F : FnP K "_law_ring_place" st_law_ring_place f fd) : Binds K fd ["_law_moves", "_law_x", "_law_z"] [] := F.bindsN fun _ _ _ _ _ _ us hl => match us, hl with | [_, _, _], _ => rfl

theorem ok_ring_place (F : FnP K "_law_ring_place" st_law_ring_place f fd) (fr : Free mg) (D_law_ring_ended : Def P w K mg base CX0 1 "_law_ring_ended" ["_law_moves", "_law_u"] (spEoc K)) : FnOk P w K mg base CX0 2 f fd ["_law_moves", "_law_x", "_law_z"] (spPlace K) := by
  refine F.ok sc_law_ring_place (fun vs H Q E h => ?_) (fun cdv A outer s H vs Q E hr h => ?_)
  · obtain ⟨a, d, x, z, rfl, _⟩ := h
    rfl
  · obtain ⟨a, d, x, z, rfl, hd, hn, hn2, hx, hx2, hz, hz2, k⟩ := h
    refine ⟨_, PSs.nox (pss_one (ps_ret (pe_op op_mod (pe_op op_add (pv 1) (pe_callB (lenq (K := K) rfl) (by rfl) fr.len (by decide +kernel) (pa_cons (pe_lc (own := [("_law_y", 3)]) rfl sc_law_ring_place.nd (pi_range2 (by rfl) fr.range (pa_cons (pe_op op_add (pv 1) pe_int) (pa_cons (pv 2) pa_nil))) (blkOk_by (own := [("_law_y", 3)]) (N := N_law_ring_place) (sc := defScope st_law_ring_place) (by decide +kernel)) (fun _ _ _ _ _ => (pg_name (i := 3) sc_law_ring_place.nd rfl (Or.inl rfl))) (fun _ _ _ _ _ => pts_one (pt_cmpR op_lt (pe_def D_law_ring_ended (hr.mono (by decide)) (pa_cons (pv 0) (pa_cons (pv 3) pa_nil))) (pv 3) (nomark _))) (fun _ _ _ _ _ => (pv 3))) pa_nil))) (pe_callB (lenq (K := K) rfl) (by rfl) fr.len (by decide +kernel) (pa_cons (pv 0) pa_nil))))), ?_⟩
    rw [sg_law_ring_place]
    tm_at "r"
    refine ⟨_, _, rfl, rg_ok (by omega), ?_⟩
    refine lc_vals walk_range (fun i => decide (eoc d (x + 1 + (i : Int)) < x + 1 + (i : Int))) (fun i => .int (x + 1 + (i : Int))) (fun _ _ => trivial) (by omega) ?_ ?_
    · rintro D i v H' H'' acc KN KY hi e2 ⟨rfl, rfl⟩ hD hy h1 h2
      refine ⟨rfl, ?_⟩
      tm_at "r"
      refine ⟨a, d, _, rfl, ex_t e2 hd, by omega, ?_⟩
      tm_at "r"
      refine r_ite (fun hb => ?_) (fun hb => h1 hb _ (Ex.refl _))
      tm_at "r"
      exact h2 hb _ (Ex.refl _)
    · intro D H' hD e2 h2
      tm_at "r"
      refine r_lenL (SqL.of h2) ?_
      tm_at "r"
      refine r_lenT (ex_t e2 hd) ?_
      rw [List.length_map, List.length_map]
      refine r_I (by omega) ?_
      have q := k H' e2
      have e : placeT d x z = (x + (((List.range (z - (x + 1)).toNat).filter fun (i : Nat) => decide (eoc d (x + 1 + (i : Int)) < x + 1 + (i : Int))).length : Nat)) % (d.length : Int) := by
        unfold placeT rgI
        rw [List.filter_map, List.length_map]
        rfl
      rw [e] at q
      exact q
def spPairs (K : PySem.W.Frag) : Sp := fun vs H Q _ => ∃ (a : Addr) (d : List Int), vs = [.ref a] ∧ SqT K H a (d.map V.int) ∧ 3 ≤ d.length ∧ d.length ≤ 20 ∧ ∀ p H' ys, Ex H H' → H' p = some (.lst ys) → Tups H' (lpairs d) ys → Q (.ref p) H'
theorem llater_map {α : Type} (d : List Int) (c : Int) (g : Int → α) : (llater d c).map g = ((List.range (2 * d.length + 1)).filter fun (i : Nat) => decide (eoc d (c + 1 + (i : Int)) < eoc d c)).map fun (i : Nat) => g (c + 1 + (i : Int)) := by
  unfold llater rgI
  rw [List.filter_map, List.map_map]
  rfl
abbrev N_law_ring_pairs : List PySem.Str := ["_law_moves", "_law_many", "_law_found", "_law_x", "_law_end", "_law_z"]
theorem sc_law_ring_pairs : FnScope N_law_ring_pairs ["_law_moves"] (defScope st_law_ring_pairs) := ⟨rfl, rfl, rfl, by decide +kernel, rfl, by decide +kernel, by decide +kernel⟩
theorem sg_law_ring_pairs (v0 : V) : L2.start N_law_ring_pairs [v0] = [some v0, none, none, none, none, none] := rfl
theorem bi_law_ring_pairs {K : PySem.W.Frag} {f : Addr} {fd : FuncData} (F : FnP K "_law_ring_pairs" st_law_ring_pairs f fd) : Binds K fd ["_law_moves"] [] := F.bindsN fun _ _ _ _ _ _ us hl => match us, hl with | [_], _ => rfl

-- 0:_law_moves* 1:_law_many 2:_law_found 3:_law_x* 4:_law_end* 5:_law_z
theorem ok_ring_pairs (F : FnP K "_law_ring_pairs" st_law_ring_pairs f fd) (fr : Free mg) (D_law_ring_ended : Def P w K mg base CX0 1 "_law_ring_ended" ["_law_moves", "_law_u"] (spEoc K)) : FnOk P w K mg base CX0 2 f fd ["_law_moves"] (spPairs K) := by
  refine F.ok sc_law_ring_pairs (fun vs H Q E h => ?_) (fun cdv A outer s H vs Q E hr h => ?_)
  · obtain ⟨a, d, rfl, _⟩ := h
    rfl
  · obtain ⟨a, d, rfl, hd, h3, h20, k⟩ := h
    refine ⟨_, PSs.nox (pss_cons (ps_par (i := 1) (j := 2) rfl sc_law_ring_pairs.nd rfl rfl (by decide) rfl rfl (pa_cons (pe_callB (lenq (K := K) rfl) (by rfl) fr.len (by decide +kernel) (pa_cons (pv 0) pa_nil)) (pa_cons (pe_lst pa_nil) pa_nil)) (by rfl))
    (pss_cons (ps_for PassesOwn.never rfl (pi_range1 (by rfl) fr.range (pa_cons (pv 1) pa_nil)) (pg_name (i := 3) sc_law_ring_pairs.nd rfl (Or.inr rfl))
    (pss_cons (ps_set (i := 4) sc_law_ring_pairs.nd rfl (Or.inr rfl) (pe_def D_law_ring_ended (hr.mono (by decide)) (pa_cons (pv 0) (pa_cons (pv 3) pa_nil))))
      (pss_one (ps_set (i := 2) sc_law_ring_pairs.nd rfl (Or.inl rfl) (pe_op op_cat (pv 2) (pe_lc (own := [("_law_z", 5)]) rfl sc_law_ring_pairs.nd (pi_range2 (by rfl) fr.range (pa_cons (pe_op op_add (pv 3) pe_int) (pa_cons (pe_op op_add (pe_op op_add (pv 3) (pe_op op_mul pe_int (pv 1))) pe_int) pa_nil))) (blkOk_by (own := [("_law_z", 5)]) (N := N_law_ring_pairs) (sc := defScope st_law_ring_pairs) (by decide +kernel)) (fun _ _ _ _ _ => (pg_name (i := 5) sc_law_ring_pairs.nd rfl (Or.inl rfl))) (fun _ _ _ _ _ => pts_one (pt_cmpR op_lt (pe_def D_law_ring_ended (hr.mono (by decide)) (pa_cons (pv 0) (pa_cons (pv 5) pa_nil))) (pv 4) (nomark _))) (fun _ _ _ _ _ => (pe_tup (pa_cons (pv 3) (pa_cons (pv 5) pa_nil))))))))))
    (pss_one (ps_ret (pv 2))))), ?_⟩
    rw [sg_law_ring_pairs]
    tm_at "r"
    refine r_lenT hd ?_
    rw [List.length_map]
    tm_at "r"
    w_call p0 n0 H0 e0 h0 u0 z0
    tm_at "r"
    refine ⟨_, rfl, by omega, by omega, ?_⟩
    rw [show ((d.length : Nat) : Int).toNat = d.length from rfl]
    refine for_run walk0 (fun i σ H' => (∃ pf v2 v3 v5, σ = [some (.ref a), some (.int (d.length : Int)), some (.ref pf), v2, v3, v5] ∧ Ex H H' ∧ ∃ ys, H' pf = some (.lst ys) ∧ Tups H' ((List.range i).flatMap fun (x : Nat) => (llater d x).map fun z => [(x : Int), z]) ys)) ⟨p0, _, _, _, rfl, e0, [], h0, .nil⟩ (fun _ _ _ _ _ => trivial) ?_ ?_
    · rintro i x σ H1 H2 hi ⟨pf, v2, v3, v5, rfl, e1, ys, hy, ty⟩ ⟨rfl, rfl⟩
      tm_at "r"
      refine ⟨a, d, _, rfl, ex_t e1 hd, by omega, ?_⟩
      tm_at "r"
      refine r_I (Or.inl ⟨by decide, by decide⟩) ?_
      tm_at "r"
      refine ⟨_, _, rfl, rg_ok (by omega), ?_⟩
      rw [show ((i : Int) + 2 * (d.length : Int) + 2 - ((i : Int) + 1)).toNat = 2 * d.length + 1 by omega]
      refine lc_tups walk_range (fun j => decide (eoc d ((i : Int) + 1 + (j : Int)) < eoc d (i : Int))) (fun j => [(i : Int), (i : Int) + 1 + (j : Int)]) (fun _ _ => trivial) (by omega) ?_ ?_
      · rintro D j x H3 H4 acc KN KY hj e3 ⟨rfl, rfl⟩ hD hy2 h1 h2
        refine ⟨rfl, ?_⟩
        tm_at "r"
        refine ⟨a, d, _, rfl, ex_t (e1.trans e3) hd, by omega, ?_⟩
        tm_at "r"
        refine r_ite (fun hb => ?_) (fun hb => h1 hb _ (Ex.refl _))
        tm_at "r"
        w_call pt n5 H5 e5 h5 u5 z5
        exact h2 hb pt H5 e5 h5
      · intro D H3 zs hD e3 hz tz
        have l1 := ty.len
        have l2 := tz.len
        have b1 := flatMap_len (l := List.range i) (f := fun (x : Nat) => (llater d x).map fun z => [(x : Int), z]) (b := 41) fun x _ => by
          rw [List.length_map]
          have := llater_len d x
          omega
        have b2 : (List.map (fun (j : Nat) => [(i : Int), (i : Int) + 1 + (j : Int)]) (List.filter (fun (j : Nat) => decide (eoc d ((i : Int) + 1 + (j : Int)) < eoc d (i : Int))) (List.range (2 * d.length + 1)))).length ≤ 41 := by
          rw [List.length_map]
          refine Nat.le_trans (List.length_filter_le _ _) ?_
          rw [List.length_range]
          omega
        rw [List.length_range] at b1
        refine ⟨pf, D, ys, zs, rfl, rfl, e3 _ _ hy, hz, sz_of (by omega), ?_⟩
        w_call pc n4 H4 e4 h4 u4 z4
        tm_at "r"
        refine ⟨pc, _, _, _, rfl, (e1.trans e3).trans e4, _, h4, ?_⟩
        rw [List.range_succ, List.flatMap_append, List.flatMap_cons, List.flatMap_nil, List.append_nil, llater_map]
        exact (ty.mono (TEx.of (e3.trans e4))).app (tz.mono (TEx.of e4))
    · rintro σ H1 ⟨pf, v2, v3, v5, rfl, e1, ys, hy, ty⟩
      tm_at "r"
      exact k pf H1 ys e1 hy ty
def spTrips (K : PySem.W.Frag) : Sp := fun vs H Q _ => ∃ (a : Addr) (d : List Int), vs = [.ref a] ∧ SqT K H a (d.map V.int) ∧ 3 ≤ d.length ∧ d.length ≤ 20 ∧ ∀ p H' ys, Ex H H' → H' p = some (.lst ys) → Tups H' (ltrips d) ys → Q (.ref p) H'
abbrev N_law_ring_triples : List PySem.Str := ["_law_moves", "_law_many", "_law_found", "_law_x", "_law_y", "_law_end", "_law_z"]
theorem sc_law_ring_triples : FnScope N_law_ring_triples ["_law_moves"] (defScope st_law_ring_triples) := ⟨rfl, rfl, rfl, by decide +kernel, rfl, by decide +kernel, by decide +kernel⟩
theorem sg_law_ring_triples (v0 : V) : L2.start N_law_ring_triples [v0] = [some v0, none, none, none, none, none, none] := rfl
theorem bi_law_ring_triples {K : PySem.W.Frag} {f : Addr} {fd : FuncData} (F : FnP K "_law_ring_triples" st_law_ring_triples f fd) : Binds K fd ["_law_moves"] [] := F.bindsN fun _ _ _ _ _ _ us hl => match us, hl with | [_], _ => rfl

-- 0:_law_moves* 1:_law_many 2:_law_found 3:_law_x* 4:_law_y* 5:_law_end* 6:_law_z
theorem ok_ring_triples (F : FnP K "_law_ring_triples" st_law_ring_triples f fd) (fr : Free mg) (D_law_ring_ended : Def P w K mg base CX0 1 "_law_ring_ended" ["_law_moves", "_law_u"] (spEoc K))
    (D_law_ring_pairs : Def P w K mg base CX0 2 "_law_ring_pairs" ["_law_moves"] (spPairs K)) : FnOk P w K mg base CX0 3 f fd ["_law_moves"] (spTrips K) := by
  refine F.ok sc_law_ring_triples (fun vs H Q E h => ?_) (fun cdv A outer s H vs Q E hr h => ?_)
  · obtain ⟨a, d, rfl, _⟩ := h
    rfl
  · obtain ⟨a, d, rfl, hd, h3, h20, k⟩ := h
    refine ⟨_, PSs.nox (pss_cons (ps_par (i := 1) (j := 2) rfl sc_law_ring_triples.nd rfl rfl (by decide) rfl rfl (pa_cons (pe_callB (lenq (K := K) rfl) (by rfl) fr.len (by decide +kernel) (pa_cons (pv 0) pa_nil)) (pa_cons (pe_lst pa_nil) pa_nil)) (by rfl))
    (pss_cons (ps_for PassesOwn.never rfl (pil (K := K) rfl (pe_def D_law_ring_pairs (hr.mono (by decide)) (pa_cons (pv 0) pa_nil))) (pgt (n := 2) (K := K) rfl rfl (pgs_cons (pg_name (i := 3) sc_law_ring_triples.nd rfl (Or.inr rfl)) (pgs_cons (pg_name (i := 4) sc_law_ring_triples.nd rfl (Or.inr rfl)) pgs_nil)))
    (pss_cons (ps_set (i := 5) sc_law_ring_triples.nd rfl (Or.inr rfl) (pe_def D_law_ring_ended (hr.mono (by decide)) (pa_cons (pv 0) (pa_cons (pv 4) pa_nil))))
      (pss_one (ps_set (i := 2) sc_law_ring_triples.nd rfl (Or.inl rfl) (pe_op op_cat (pv 2) (pe_lc (own := [("_law_z", 6)]) rfl sc_law_ring_triples.nd (pi_range2 (by rfl) fr.range (pa_cons (pe_op op_add (pv 4) pe_int) (pa_cons (pe_op op_add (pe_op op_add (pv 4) (pe_op op_mul pe_int (pv 1))) pe_int) pa_nil))) (blkOk_by (own := [("_law_z", 6)]) (N := N_law_ring_triples) (sc := defScope st_law_ring_triples) (by decide +kernel)) (fun _ _ _ _ _ => (pg_name (i := 6) sc_law_ring_triples.nd rfl (Or.inl rfl))) (fun _ _ _ _ _ => pts_one (pt_cmpR op_lt (pe_def D_law_ring_ended (hr.mono (by decide)) (pa_cons (pv 0) (pa_cons (pv 6) pa_nil))) (pv 5) (nomark _))) (fun _ _ _ _ _ => (pe_tup (pa_cons (pv 3) (pa_cons (pv 4) (pa_cons (pv 6) pa_nil)))))))))))
    (pss_one (ps_ret (pv 2))))), ?_⟩
    rw [sg_law_ring_triples]
    have lp := lpairs_len d
    have lq : d.length * (2 * d.length + 1) ≤ 20 * 41 := Nat.mul_le_mul h20 (by omega)
    tm_at "r"
    refine r_lenT hd ?_
    rw [List.length_map]
    tm_at "r"
    w_call p0 n0 H0 e0 h0 u0 z0
    tm_at "r"
    refine ⟨a, d, rfl, ex_t e0 hd, h3, h20, fun pp H1 xs e1 hp tp => ?_⟩
    refine ⟨_, rfl, ⟨_, SqL.of hp⟩, ?_⟩
    refine for_run (walkTups (ls := lpairs d) (ys := xs)) (fun i σ H' => (∃ pf v2 v3 v5 v6, σ = [some (.ref a), some (.int (d.length : Int)), some (.ref pf), v2, v3, v5, v6] ∧ Ex H1 H' ∧ ∃ ys, H' pf = some (.lst ys) ∧ Tups H' (((lpairs d).take i).flatMap fun q => (llater d (ix q 1)).map fun z => [ix q 0, ix q 1, z]) ys)) ⟨p0, _, _, _, _, rfl, Ex.refl _, [], e1 _ _ h0, .nil⟩ (fun i σ H' _ q => ?_) ?_ ?_
    · obtain ⟨_, _, _, _, _, _, e, _⟩ := q
      exact ⟨SqL.of (e _ _ hp), tp.mono (TEx.of e)⟩
    · rintro i x σ H2 H2' hi ⟨pf, v2, v3, v5, v6, rfl, e2, ys, hy, ty⟩ ⟨rfl, q, rfl, hq⟩
      have hm : (lpairs d)[i] ∈ lpairs d := List.getElem_mem hi
      have eg : (lpairs d).getD i [] = (lpairs d)[i] := by rw [List.getD_eq_getElem?_getD, List.getElem?_eq_getElem hi] <;> rfl
      obtain ⟨x, y, eq, hx, hx2, hy2⟩ := lpairs_mem hm
      have hyb := llater_bd hy2
      rw [eg, eq] at hq
      have hq : H2' q = some (.tup [.int x, .int y]) := hq
      have e02 := (e0.trans e1).trans e2
      refine r_gTup (SqT.of hq) rfl ?_
      tm_at "r"
      refine ⟨a, d, _, rfl, ex_t e02 hd, by omega, ?_⟩
      tm_at "r"
      refine r_I (Or.inl ⟨by decide, by decide⟩) ?_
      tm_at "r"
      refine ⟨_, _, rfl, rg_ok (by omega), ?_⟩
      rw [show (y + 2 * (d.length : Int) + 2 - (y + 1)).toNat = 2 * d.length + 1 by omega]
      refine lc_tups walk_range (fun j => decide (eoc d (y + 1 + (j : Int)) < eoc d y)) (fun j => [x, y, y + 1 + (j : Int)]) (fun _ _ => trivial) (by omega) ?_ ?_
      · rintro D j z H3 H4 acc KN KY hj e3 ⟨rfl, rfl⟩ hD hy2 h1 h2
        refine ⟨rfl, ?_⟩
        tm_at "r"
        refine ⟨a, d, _, rfl, ex_t (e02.trans e3) hd, by omega, ?_⟩
        tm_at "r"
        refine r_ite (fun hb => ?_) (fun hb => h1 hb _ (Ex.refl _))
        tm_at "r"
        w_call pt n5 H5 e5 h5 u5 z5
        exact h2 hb pt H5 e5 h5
      · intro D H3 zs hD e3 hz tz
        have l1 := ty.len
        have l2 := tz.len
        have b1 := flatMap_len (l := (lpairs d).take i) (f := fun q => (llater d (ix q 1)).map fun z => [ix q 0, ix q 1, z]) (b := 41) fun q _ => by
          rw [List.length_map]
          have := llater_len d (ix q 1)
          omega
        have b2 : (List.map (fun (j : Nat) => [x, y, y + 1 + (j : Int)]) (List.filter (fun (j : Nat) => decide (eoc d (y + 1 + (j : Int)) < eoc d y)) (List.range (2 * d.length + 1)))).length ≤ 41 := by
          rw [List.length_map]
          refine Nat.le_trans (List.length_filter_le _ _) ?_
          rw [List.length_range]
          omega
        rw [List.length_take] at b1
        refine ⟨pf, D, ys, zs, rfl, rfl, e3 _ _ hy, hz, sz_of (by omega), ?_⟩
        w_call pc n4 H4 e4 h4 u4 z4
        tm_at "r"
        refine ⟨pc, _, _, _, _, rfl, (e2.trans e3).trans e4, _, h4, ?_⟩
        rw [List.take_succ, List.getElem?_eq_getElem hi, List.flatMap_append, eq]
        show Tups H4 (_ ++ List.flatMap (fun q => (llater d (ix q 1)).map fun z => [ix q 0, ix q 1, z]) [[x, y]]) _
        rw [List.flatMap_cons, List.flatMap_nil, List.append_nil, show ix [x, y] 1 = y from rfl, show ix [x, y] 0 = x from rfl, llater_map]
        exact (ty.mono (TEx.of (e3.trans e4))).app (tz.mono (TEx.of e4))
    · rintro σ H2 ⟨pf, v2, v3, v5, v6, rfl, e2, ys, hy, ty⟩
      rw [List.take_length] at ty
      tm_at "r"
      exact k pf H2 ys ((e0.trans e1).trans e2) hy ty
end
end SW
end

section
set_option Elab.async false
set_option linter.all false
set_option maxRecDepth 100000
set_option maxHeartbeats 4000000
namespace SW
open PySem PySem.Spec PyProof.Rows L2 Evl
local macro_rules | `(tactic| tm_at "r1") => `(tactic| first
  | ((with_reducible refine' r_var ?hx ?_); (case hx => exact rfl))
  | with_reducible refine r_c ?_
  | with_reducible refine r_op ?_
  | with_reducible refine r_I0 ?_
  | with_reducible refine r_un ?_
  | with_reducible refine r_U ?_
  | with_reducible refine r_cons ?_
  | with_reducible refine r_nil ?_
  | with_reducible refine r_call ?_
  | with_reducible refine r_cb ?_
  | with_reducible refine r_test ?_
  | with_reducible refine r_blp ?_
  | with_reducible refine r_tYes ?_
  | with_reducible refine r_ifT ?_
  | with_reducible refine r_ifF ?_
  | ((with_reducible refine' r_aug ?hx ?_); (case hx => exact rfl))
  | with_reducible refine r_seq ?_
  | with_reducible refine r_asg ?_
  | with_reducible refine r_gname ?_
  | with_reducible refine r_ret ?_
  | with_reducible refine r_tup ?_
  | with_reducible refine r_lst ?_
  | with_reducible refine r_ifS ?_
  | with_reducible refine r_par ?_
  | with_reducible refine r_two ?_
  | with_reducible refine r_lc ?_
  | with_reducible refine r_rng1 ?_
  | with_reducible refine r_rng2 ?_
  | with_reducible refine r_iList ?_
  | with_reducible refine r_iTup ?_
  | with_reducible refine r_for ?_
  | with_reducible refine r_not ?_
  | with_reducible refine r_and ?_
  | with_reducible refine r_or ?_
  | with_reducible refine r_andV ?_
  | with_reducible refine r_orV ?_
  | with_reducible refine r_notV ?_
  | with_reducible refine r_if ?_
  | with_reducible refine r_chain ?_
  | with_reducible refine r_B ?_
  | with_reducible refine r_next ?_
  | with_reducible refine r_drop ?_
  | with_reducible refine r_retN ?_
  | with_reducible refine r_ipI ?_
  | ((with_reducible refine' r_sz ?hz ?_); (case hz => exact Nat.le_of_ble_eq_true rfl))
  | with_reducible refine r_gCons ?_
  | with_reducible refine r_gNil ?_
  | with_reducible refine r_par3 ?_
  | with_reducible refine r_three ?_
  | with_reducible refine r_listRg ?_
  | with_reducible refine r_tupRg ?_
  | with_reducible refine r_augS ?_
  | with_reducible refine r_lenSetT ?_
  | with_reducible refine r_lenSetL ?_
  | with_reducible refine r_ifNT ?_
  | with_reducible refine r_ifNF ?_
  | with_reducible refine r_eqI ?_
  | with_reducible refine r_neI ?_
  | with_reducible refine r_eqS ?_
  | with_reducible refine r_neS ?_
  | with_reducible refine r_bm ?_
  | with_reducible refine r_bt ?_
  | with_reducible refine r_iEnT ?_
  | with_reducible refine r_iEnL ?_
  | with_reducible refine r_dc ?_
  | with_reducible refine r_dget ?_
  | with_reducible refine r_dput ?_
  | with_reducible refine r_sl ?_
  | with_reducible refine r_noP ?_
  | with_reducible refine r_part ?_
  | with_reducible refine r_revL ?_
  | with_reducible refine r_gSub ?_)
local macro_rules | `(tactic| tm_at "r") => `(tactic| repeat tm_at "r1")
local macro_rules | `(tactic| w_call $p $n $H1 $e $h $u $z) => `(tactic| (intro $p:ident $n:ident; generalize $u:ident : upd _ $p:ident _ = $H1:ident; obtain ⟨$e, $h⟩ := new_of $n:ident $u:ident))
section
variable {P : Program} {w : World} {K : PySem.W.Frag} {mg : Str → Option Value} {base : Heap} {f : Addr} {fd : FuncData} {C : Addr}
def spRefs (K : PySem.W.Frag) : Sp := fun vs H Q _ => ∃ (a b : Addr) (R : List (List Int)) (d : List Int), vs = [.ref a, .ref b] ∧ RkX K H a R ∧ RkOk R ∧ SqT K H b (d.map V.int) ∧ d.length = R.length ∧ ∀ p H' ys, Ex H H' → H' p = some (.lst ys) → Tups H' (lrefs R d) ys → Q (.ref p) H'
abbrev N_law_ring_refusals : List PySem.Str := ["_law_lists", "_law_moves", "_law_many", "_law_found", "_law_x", "_law_z", "_law_at", "_law_near"]
theorem sc_law_ring_refusals : FnScope N_law_ring_refusals ["_law_lists", "_law_moves"] (defScope st_law_ring_refusals) := ⟨rfl, rfl, rfl, by decide +kernel, rfl, by decide +kernel, by decide +kernel⟩
theorem sg_law_ring_refusals (v0 v1 : V) : L2.start N_law_ring_refusals [v0, v1] = [some v0, some v1, none, none, none, none, none, none] := rfl
theorem bi_law_ring_refusals {K : PySem.W.Frag} {f : Addr} {fd : FuncData} (F : FnP K "_law_ring_refusals" st_law_ring_refusals f fd) : Binds K fd ["_law_lists", "_law_moves"] [] := F.bindsN fun _ _ _ _ _ _ us hl => match us, hl with | [_, _], _ => rfl

-- 0:_law_lists 1:_law_moves 2:_law_many 3:_law_found 4:_law_x 5:_law_z 6:_law_at 7:_law_near
theorem ok_ring_refusals (F : FnP K "_law_ring_refusals" st_law_ring_refusals f fd) (fr : Free mg) (D_law_ring_pairs : Def P w K mg base CX0 2 "_law_ring_pairs" ["_law_moves"] (spPairs K))
    (D_law_ring_place : Def P w K mg base CX0 2 "_law_ring_place" ["_law_moves", "_law_x", "_law_z"] (spPlace K)) (D_law_likes_more : Def P w K mg base CX0 1 "_law_likes_more" ["_law_lists", "_law_who", "_law_thing", "_law_far"] (spLikes K)) : FnOk P w K mg base CX0 3 f fd ["_law_lists", "_law_moves"] (spRefs K) := by
  refine F.ok sc_law_ring_refusals (fun vs H Q E h => ?_) (fun cdv A outer s H vs Q E hr h => ?_)
  · obtain ⟨a, b, R, d, rfl, _⟩ := h
    rfl
  · obtain ⟨a, b, R, d, rfl, hR, ok, hd, hl, k⟩ := h
    have hlo := ok.lo
    have hhi := ok.hi
    have lp := lpairs_len d
    have lq : d.length * (2 * d.length + 1) ≤ 20 * 41 := Nat.mul_le_mul (by omega) (by omega)
    refine ⟨_, PSs.nox (pss_cons (ps_par (i := 2) (j := 3) rfl sc_law_ring_refusals.nd rfl rfl (by decide) rfl rfl (pa_cons (pe_callB (lenq (K := K) rfl) (by rfl) fr.len (by decide +kernel) (pa_cons (pv 1) pa_nil)) (pa_cons (pe_lst pa_nil) pa_nil)) (by rfl))
    (pss_cons (ps_for PassesOwn.never rfl (pil (K := K) rfl (pe_def D_law_ring_pairs (hr.mono (by decide)) (pa_cons (pv 1) pa_nil))) (pgt (n := 2) (K := K) rfl rfl (pgs_cons (pg_name (i := 4) sc_law_ring_refusals.nd rfl (Or.inl rfl)) (pgs_cons (pg_name (i := 5) sc_law_ring_refusals.nd rfl (Or.inl rfl)) pgs_nil)))
    (pss_cons (ps_set (i := 6) sc_law_ring_refusals.nd rfl (Or.inl rfl) (pe_def D_law_ring_place (hr.mono (by decide)) (pa_cons (pv 1) (pa_cons (pv 4) (pa_cons (pv 5) pa_nil)))))
      (pss_cons (ps_set (i := 7) sc_law_ring_refusals.nd rfl (Or.inl rfl) (pe_op op_mod (pe_op op_add (pv 6) pe_int) (pv 2)))
      (Evl.pss_cut (ps_if (pt_not (pt_val (pe_def D_law_likes_more (hr.mono (by decide)) (pa_cons (pv 0) (pa_cons (pv 6) (pa_cons (pe_op op_mod (pv 5) (pv 2)) (pa_cons (pe_op op_mod (pv 4) (pv 2)) pa_nil))))))) (pss_one (ps_expr (bmq (K := K) rfl PySem.F.plainAttrs_list PySem.F.slot_list_append PySem.F.type_list_append mt_append (pv 3) (pa_cons (pe_tup (pa_cons (pv 6) (pa_cons (pv 4) (pa_cons (pv 5) (pa_cons (pv 6) pa_nil))))) pa_nil)))) pss_nil)
      (pss_one (ps_if (pt_not (pt_val (pe_def D_law_likes_more (hr.mono (by decide)) (pa_cons (pv 0) (pa_cons (pv 7) (pa_cons (pe_op op_mod (pv 4) (pv 2)) (pa_cons (pe_op op_mod (pv 5) (pv 2)) pa_nil))))))) (pss_one (ps_expr (bmq (K := K) rfl PySem.F.plainAttrs_list PySem.F.slot_list_append PySem.F.type_list_append mt_append (pv 3) (pa_cons (pe_tup (pa_cons (pv 6) (pa_cons (pv 4) (pa_cons (pv 5) (pa_cons (pv 7) pa_nil))))) pa_nil)))) pss_nil))))))
    (pss_one (ps_ret (pv 3))))), ?_⟩
    rw [sg_law_ring_refusals]
    tm_at "r"
    refine r_lenT hd ?_
    rw [List.length_map]
    tm_at "r"
    w_call pf n0 H0 e0 h0 u0 z0
    tm_at "r"
    refine ⟨b, d, rfl, ex_t e0 hd, by omega, by omega, fun pp H1 xs e1 hp tp => ?_⟩
    refine ⟨_, rfl, ⟨_, SqL.of hp⟩, ?_⟩
    have npf1 : H pf = none := n0
    refine for_run (walkTups (ls := lpairs d) (ys := xs)) (fun i σ H' => (∃ v4 v5 v6 v7, σ = [some (.ref a), some (.ref b), some (.int (d.length : Int)), some (.ref pf), v4, v5, v6, v7]) ∧ Ex H H' ∧ H' pp = some (.lst xs) ∧ Tups H' (lpairs d) xs ∧
      ∃ ys, H' pf = some (.lst ys) ∧ Tups H' (((lpairs d).take i).flatMap fun q => lref R d (ix q 0) (ix q 1)) ys) ⟨⟨_, _, _, _, rfl⟩, e0.trans e1, hp, tp, [], e1 _ _ h0, .nil⟩ (fun i σ H' _ q => ⟨SqL.of q.2.2.1, q.2.2.2.1⟩) ?_ ?_
    · rintro i x σ H2 H2' hi ⟨⟨v4, v5, v6, v7, rfl⟩, e2, hp2, tp2, ys, hy, ty⟩ ⟨rfl, q, rfl, hq⟩
      have hm : (lpairs d)[i] ∈ lpairs d := List.getElem_mem hi
      have eg : (lpairs d).getD i [] = (lpairs d)[i] := by rw [List.getD_eq_getElem?_getD, List.getElem?_eq_getElem hi] <;> rfl
      obtain ⟨x, z, eq, hx, hx2, hz⟩ := lpairs_mem hm
      have hzb := llater_bd hz
      rw [eg, eq] at hq
      have hq : H2' q = some (.tup [.int x, .int z]) := hq
      have dpf : pp ≠ pf := fun e => by rw [e, hy] at hp2; have := ty.len; have := tp2.len; have e2 := HO.lst.inj (Option.some.inj hp2); exact absurd (e1 _ _ h0) (by rw [← e, hp]; intro z; have := HO.lst.inj (Option.some.inj z); rw [this] at tp2; have := tp2.len; rw [List.length_nil] at this; omega)
      have b1 := flatMap_len (l := (lpairs d).take i) (f := fun q => lref R d (ix q 0) (ix q 1)) (b := 2) fun q _ => by
        unfold lref
        rw [List.length_append]
        split <;> split <;> simp
      rw [List.length_take] at b1
      have l1 := ty.len
      refine r_gTup (SqT.of hq) rfl ?_
      tm_at "r"
      refine ⟨b, d, x, z, rfl, ex_t e2 hd, by omega, by omega, by omega, by omega, by omega, by omega, fun H3 e3 => ?_⟩
      have pb := placeT_bd (d := d) (by omega) x z
      have el : lref R d (ix [x, z] 0) (ix [x, z] 1) = lref R d x z := rfl
      have xb : 0 ≤ x % (d.length : Int) ∧ x % (d.length : Int) < d.length := ⟨Int.emod_nonneg _ (by omega), Int.emod_lt_of_pos _ (by omega)⟩
      have zb : 0 ≤ z % (d.length : Int) ∧ z % (d.length : Int) < d.length := ⟨Int.emod_nonneg _ (by omega), Int.emod_lt_of_pos _ (by omega)⟩
      have ob : 0 ≤ (placeT d x z + 1) % (d.length : Int) ∧ (placeT d x z + 1) % (d.length : Int) < d.length := ⟨Int.emod_nonneg _ (by omega), Int.emod_lt_of_pos _ (by omega)⟩
      unfold lref at el
      generalize hpl : placeT d x z = pl at pb el ob
      tm_at "r"
      refine r_I (by omega) ?_
      tm_at "r"
      have e03 := e2.trans e3
      refine r_cut (fun σ' H4 => σ' = [some (.ref a), some (.ref b), some (.int (d.length : Int)), some (.ref pf), some (.int x), some (.int z), some (.int pl), some (.int ((pl + 1) % (d.length : Int)))] ∧ Ex H H4 ∧ H4 pp = some (.lst xs) ∧ Tups H4 (lpairs d) xs ∧
        ∃ zs, H4 pf = some (.lst zs) ∧ zs.length ≤ ys.length + 1 ∧ Tups H4 ((((lpairs d).take i).flatMap fun q => lref R d (ix q 0) (ix q 1)) ++ (if rk R pl (z % d.length) < rk R pl (x % d.length) then [] else [[pl, x, z, pl]])) zs) ?_ ?_
      · tm_at "r"
        refine r_I (by omega) ?_
        tm_at "r"
        refine r_I (by omega) ?_
        tm_at "r"
        refine ⟨a, R, pl, _, _, rfl, hR.ex e03, ok, pb.1, by omega, zb.1, by omega, xb.1, by omega, ?_⟩
        tm_at "r"
        refine r_ite (fun hb => ?_) (fun hb => ?_)
        · rw [Bool.not_eq_true', decide_eq_false_iff_not] at hb
          tm_at "r"
          refine ⟨ty_l (SqL.of (e3 _ _ hy)), ?_⟩
          tm_at "r"
          w_call p3 n5 H5 e5 h5 u5 z5
          tm_at "r"
          refine r_app (e5 _ _ (e3 _ _ hy)) (by omega) ?_
          generalize hu6 : upd H5 pf _ = H6
          obtain ⟨m6, h6⟩ := mut_of hu6
          have te : TEx H5 H6 := by rw [← hu6]; exact TEx.lst (e5 _ _ (e3 _ _ hy))
          rw [if_neg hb]
          refine ⟨rfl, exm (e03.trans e5) npf1 m6, m6 _ _ dpf (e5 _ _ (e3 _ _ hp2)), (tp2.mono (TEx.of (e3.trans e5))).mono te, _, h6, by rw [List.length_append]; exact Nat.le_refl _, ((ty.mono (TEx.of (e3.trans e5))).mono te).app ((Tups.one h5).mono te)⟩
        · rw [Bool.not_eq_false', decide_eq_true_eq] at hb
          tm_at "r"
          rw [if_pos hb, List.append_nil]
          exact ⟨rfl, e03, e3 _ _ hp2, tp2.mono (TEx.of e3), ys, e3 _ _ hy, Nat.le_succ _, ty.mono (TEx.of e3)⟩
      · rintro σ' H4 ⟨rfl, e4, hp4, tp4, zs, hzs, lz, tz⟩
        have fin : ∀ {H' : Hp} {ws : List V}, Tups H' ((((lpairs d).take i).flatMap fun q => lref R d (ix q 0) (ix q 1)) ++ ((if rk R pl (z % d.length) < rk R pl (x % d.length) then [] else [[pl, x, z, pl]]) ++ (if rk R ((pl + 1) % d.length) (x % d.length) < rk R ((pl + 1) % d.length) (z % d.length) then [] else [[pl, x, z, (pl + 1) % d.length]]))) ws → Tups H' (((lpairs d).take (i + 1)).flatMap fun q => lref R d (ix q 0) (ix q 1)) ws := fun t => by
          rw [List.take_succ, List.getElem?_eq_getElem hi, List.flatMap_append, eq]
          show Tups _ (_ ++ List.flatMap (fun q => lref R d (ix q 0) (ix q 1)) [[x, z]]) _
          rw [List.flatMap_cons, List.flatMap_nil, List.append_nil]
          unfold lref
          rw [show ix [x, z] 0 = x from rfl, show ix [x, z] 1 = z from rfl, hpl]
          exact t
        tm_at "r"
        refine r_I (by omega) ?_
        tm_at "r"
        refine r_I (by omega) ?_
        tm_at "r"
        refine ⟨a, R, _, _, _, rfl, hR.ex e4, ok, ob.1, by omega, xb.1, by omega, zb.1, by omega, ?_⟩
        tm_at "r"
        refine r_ite (fun hb => ?_) (fun hb => ?_)
        · rw [Bool.not_eq_true', decide_eq_false_iff_not] at hb
          tm_at "r"
          refine ⟨ty_l (SqL.of hzs), ?_⟩
          tm_at "r"
          w_call p3 n5 H5 e5 h5 u5 z5
          tm_at "r"
          refine r_app (e5 _ _ hzs) (by omega) ?_
          generalize hu6 : upd H5 pf _ = H6
          obtain ⟨m6, h6⟩ := mut_of hu6
          have te : TEx H5 H6 := by rw [← hu6]; exact TEx.lst (e5 _ _ hzs)
          refine ⟨⟨_, _, _, _, rfl⟩, exm (e4.trans e5) npf1 m6, m6 _ _ dpf (e5 _ _ hp4), (tp4.mono (TEx.of e5)).mono te, _, h6, fin ?_⟩
          rw [if_neg hb, ← List.append_assoc]
          exact ((tz.mono (TEx.of e5)).mono te).app ((Tups.one h5).mono te)
        · rw [Bool.not_eq_false', decide_eq_true_eq] at hb
          tm_at "r"
          refine ⟨⟨_, _, _, _, rfl⟩, e4, hp4, tp4, zs, hzs, fin ?_⟩
          rw [if_pos hb, List.append_nil]
          exact tz
    · rintro σ H2 ⟨⟨v4, v5, v6, v7, rfl⟩, e2, hp2, tp2, ys, hy, ty⟩
      rw [List.take_length] at ty
      tm_at "r"
      exact k pf H2 ys e2 hy ty
end
end SW
end

section
set_option Elab.async false
set_option linter.all false
set_option maxRecDepth 100000
set_option maxHeartbeats 4000000
namespace SW
open PySem PySem.Spec PyProof.Rows L2 Evl
local macro_rules | `(tactic| tm_at "r1") => `(tactic| first
  | ((with_reducible refine' r_var ?hx ?_); (case hx => exact rfl))
  | with_reducible refine r_c ?_
  | with_reducible refine r_op ?_
  | with_reducible refine r_I0 ?_
  | with_reducible refine r_un ?_
  | with_reducible refine r_U ?_
  | with_reducible refine r_cons ?_
  | with_reducible refine r_nil ?_
  | with_reducible refine r_call ?_
  | with_reducible refine r_cb ?_
  | with_reducible refine r_test ?_
  | with_reducible refine r_blp ?_
  | with_reducible refine r_tYes ?_
  | with_reducible refine r_ifT ?_
  | with_reducible refine r_ifF ?_
  | ((with_reducible refine' r_aug ?hx ?_); (case hx => exact rfl))
  | with_reducible refine r_seq ?_
  | with_reducible refine r_asg ?_
  | with_reducible refine r_gname ?_
  | with_reducible refine r_ret ?_
  | with_reducible refine r_tup ?_
  | with_reducible refine r_lst ?_
  | with_reducible refine r_ifS ?_
  | with_reducible refine r_par ?_
  | with_reducible refine r_two ?_
  | with_reducible refine r_lc ?_
  | with_reducible refine r_rng1 ?_
  | with_reducible refine r_rng2 ?_
  | with_reducible refine r_iList ?_
  | with_reducible refine r_iTup ?_
  | with_reducible refine r_for ?_
  | with_reducible refine r_not ?_
  | with_reducible refine r_and ?_
  | with_reducible refine r_or ?_
  | with_reducible refine r_andV ?_
  | with_reducible refine r_orV ?_
  | with_reducible refine r_notV ?_
  | with_reducible refine r_if ?_
  | with_reducible refine r_chain ?_
  | with_reducible refine r_B ?_
  | with_reducible refine r_next ?_
  | with_reducible refine r_drop ?_
  | with_reducible refine r_retN ?_
  | with_reducible refine r_ipI ?_
  | ((with_reducible refine' r_sz ?hz ?_); (case hz => exact Nat.le_of_ble_eq_true rfl))
  | with_reducible refine r_gCons ?_
  | with_reducible refine r_gNil ?_
  | with_reducible refine r_par3 ?_
  | with_reducible refine r_three ?_
  | with_reducible refine r_listRg ?_
  | with_reducible refine r_tupRg ?_
  | with_reducible refine r_augS ?_
  | with_reducible refine r_lenSetT ?_
  | with_reducible refine r_lenSetL ?_
  | with_reducible refine r_ifNT ?_
  | with_reducible refine r_ifNF ?_
  | with_reducible refine r_eqI ?_
  | with_reducible refine r_neI ?_
  | with_reducible refine r_eqS ?_
  | with_reducible refine r_neS ?_
  | with_reducible refine r_bm ?_
  | with_reducible refine r_bt ?_
  | with_reducible refine r_iEnT ?_
  | with_reducible refine r_iEnL ?_
  | with_reducible refine r_dc ?_
  | with_reducible refine r_dget ?_
  | with_reducible refine r_dput ?_
  | with_reducible refine r_sl ?_
  | with_reducible refine r_noP ?_
  | with_reducible refine r_part ?_
  | with_reducible refine r_revL ?_
  | with_reducible refine r_gSub ?_)
local macro_rules | `(tactic| tm_at "r") => `(tactic| repeat tm_at "r1")
local macro_rules | `(tactic| w_call $p $n $H1 $e $h $u $z) => `(tactic| (intro $p:ident $n:ident; generalize $u:ident : upd _ $p:ident _ = $H1:ident; obtain ⟨$e, $h⟩ := new_of $n:ident $u:ident))
section
variable {P : Program} {w : World} {K : PySem.W.Frag} {mg : Str → Option Value} {base : Heap} {f : Addr} {fd : FuncData} {C : Addr}
def spLRun (K : PySem.W.Frag) : Sp := fun vs H Q _ => ∃ (a b : Addr) (R : List (List Int)) (ns : List Int), vs = [.ref a, .ref b] ∧ RkX K H a R ∧ RkOk R ∧ SqT K H b (ns.map V.int) ∧
  (∀ mv, movesT R ns = some mv → ∀ p H', Ex H H' → SqT K H' p (mv.map V.int) → Q (.ref p) H') ∧ (movesT R ns = none → ∀ H', Ex H H' → Q .non H')
theorem filter_no {α : Type} (l : List α) : l.filter (fun _ => false) = [] := by simp
theorem rep1 (n : Nat) (x : V) : (List.replicate (n : Int).toNat [x]).flatten = List.replicate n x := by
  rw [show ((n : Int)).toNat = n from rfl]
  induction n with
  | zero => rfl
  | succ n ih => rw [List.replicate_succ, List.flatten_cons, ih, List.replicate_succ] <;> rfl
abbrev N_law_ring_run : List PySem.Str := ["_law_lists", "_law_road", "_law_many", "_law_row", "_law_moves", "_law_at"]
theorem sc_law_ring_run : FnScope N_law_ring_run ["_law_lists", "_law_road"] (defScope st_law_ring_run) := ⟨rfl, rfl, rfl, by decide +kernel, rfl, by decide +kernel, by decide +kernel⟩
theorem sg_law_ring_run (v0 v1 : V) : L2.start N_law_ring_run [v0, v1] = [some v0, some v1, none, none, none, none] := rfl
theorem bi_law_ring_run {K : PySem.W.Frag} {f : Addr} {fd : FuncData} (F : FnP K "_law_ring_run" st_law_ring_run f fd) : Binds K fd ["_law_lists", "_law_road"] [] := F.bindsN fun _ _ _ _ _ _ us hl => match us, hl with | [_, _], _ => rfl

-- 0:_law_lists 1:_law_road 2:_law_many 3:_law_row 4:_law_moves 5:_law_at
theorem ok_lring_run (F : FnP K "_law_ring_run" st_law_ring_run f fd) (fr : Free mg) (D_law_ring_may : Def P w K mg base CX0 2 "_law_ring_may" ["_law_lists", "_law_row", "_law_at"] (spLMay K))
    (D_law_ring_after : Def P w K mg base CX0 1 "_law_ring_after" ["_law_row", "_law_moves", "_law_at"] (spAfter K)) : FnOk P w K mg base CX0 3 f fd ["_law_lists", "_law_road"] (spLRun K) := by
  refine F.ok sc_law_ring_run (fun vs H Q E h => ?_) (fun cdv A outer s H vs Q E hr h => ?_)
  · obtain ⟨a, b, R, ns, rfl, _⟩ := h
    rfl
  · obtain ⟨a, b, R, ns, rfl, hR, ok, hb, kQ, kN⟩ := h
    have hlo := ok.lo
    have hhi := ok.hi
    obtain ⟨xs, hx, hl, hat⟩ := rk_sq hR.rk
    refine ⟨_, PSs.nox (pss_cons (ps_set (i := 2) sc_law_ring_run.nd rfl (Or.inl rfl) (pe_callB (lenq (K := K) rfl) (by rfl) fr.len (by decide +kernel) (pa_cons (pv 0) pa_nil)))
    (pss_cons (ps_par (i := 3) (j := 4) rfl sc_law_ring_run.nd rfl rfl (by decide) rfl rfl (pa_cons (pe_tupRg rfl (by rfl) fr.tuple (prg_1 (by rfl) fr.range (pv 2))) (pa_cons (pe_op (rept (K := K) rfl) (pe_tup (pa_cons pe_int pa_nil)) (pv 2)) pa_nil)) (by rfl))
    (pss_cons (ps_if (pt_not (pt_val (pe_callB (isiq (K := K) rfl) (by rfl) fr.isinstance (by decide +kernel) (pa_cons (pv 1) (pa_cons (pe_bltn (v := .ty "tuple") (by rfl) fr.tuple (by decide +kernel) rfl) pa_nil))))) (pss_one (ps_ret pe_non)) pss_nil)
    (pss_cons (ps_for PassesOwn.never rfl (pit (K := K) rfl (pv 1)) (pg_name (i := 5) sc_law_ring_run.nd rfl (Or.inl rfl))
    (pss_cons (ps_if (PW.pt (pw_or (pt_not (pt_val (pe_callB (isiq (K := K) rfl) (by rfl) fr.isinstance (by decide +kernel) (pa_cons (pv 5) (pa_cons (pe_bltn (v := .ty "int") (by rfl) fr.int (by decide +kernel) rfl) pa_nil))))) (pw_or (pt_val (pe_callB (isiq (K := K) rfl) (by rfl) fr.isinstance (by decide +kernel) (pa_cons (pv 5) (pa_cons (pe_bltn (v := .ty "bool") (by rfl) fr.bool (by decide +kernel) rfl) pa_nil)))) (pw_or (pt_not (pt_chain op_le op_lt pe_int (pv 5) (pv 2))) (pw_or1 (pt_not (pt_val (pe_def D_law_ring_may (hr.mono (by decide)) (pa_cons (pv 0) (pa_cons (pv 3) (pa_cons (pv 5) pa_nil))))))))))) (pss_one (ps_ret pe_non)) pss_nil)
      (pss_one (ps_asg (pe_def D_law_ring_after (hr.mono (by decide)) (pa_cons (pv 3) (pa_cons (pv 4) (pa_cons (pv 5) pa_nil)))) (pgt (n := 2) (K := K) rfl rfl (pgs_cons (pg_name (i := 3) sc_law_ring_run.nd rfl (Or.inl rfl)) (pgs_cons (pg_name (i := 4) sc_law_ring_run.nd rfl (Or.inl rfl)) pgs_nil)))))))
    (pss_one (ps_ret (pv 4))))))), ?_⟩
    rw [sg_law_ring_run]
    tm_at "r"
    refine r_lenT hx ?_
    rw [hl]
    tm_at "r"
    refine ⟨_, rfl, rg0_ok (by omega), ?_⟩
    rw [rgV_eq]
    w_call pa n1 H1 e1 h1 u1 z1
    tm_at "r"
    w_call p0 n2 H2 e2 h2 u2 z2
    refine r_var rfl ?_
    refine ⟨p0, R.length, _, rfl, rfl, SqT.of h2, (fun z => by cases z), by omega, by omega, by decide, ?_⟩
    rw [rep1]
    w_call pm n3 H3 e3 h3 u3 z3
    tm_at "r"
    have e03 := (e1.trans e2).trans e3
    refine r_isiTT (ex_t e03 hb) ?_
    tm_at "r"
    refine ⟨_, rfl, ⟨_, ex_t e03 hb⟩, ?_⟩
    refine for_run (walkTI (ns := ns)) (fun i σ H' => ∃ pa pm v5, σ = [some (.ref a), some (.ref b), some (.int (R.length : Int)), some (.ref pa), some (.ref pm), v5] ∧ Ex H H' ∧
      ∃ s : List Int × List Int, runT R (st0 R.length) (ns.take i) = some s ∧ s.1.length = R.length ∧ s.2.length = R.length ∧ (∀ x ∈ s.1, 0 ≤ x ∧ x < (R.length : Int)) ∧ SqT K H' pa (s.1.map V.int) ∧ SqT K H' pm (s.2.map V.int))
      ⟨pa, pm, _, rfl, e03, st0 R.length, rfl, rgI_len _ _, List.length_replicate, fun x hx => ?_, SqT.of (e3 _ _ (e2 _ _ h1)), SqT.of ?_⟩ (fun i σ H' _ q => ?_) ?_ ?_
    · have := rgI_mem.mp hx
      omega
    · rw [h3]
      show some (HO.tup _) = some (HO.tup ((List.replicate R.length (0 : Int)).map V.int))
      rw [List.map_replicate]
    · obtain ⟨_, _, _, _, e, _⟩ := q
      exact ex_t e hb
    · rintro i x σ H6 H7 hi ⟨pa, pm, v5, rfl, e6, s, rs, l1, l2, ra, ha6, hm6⟩ ⟨rfl, rfl⟩
      have out : stepT R s (ns.getD i 0) = none → movesT R ns = none := fun z => by
        unfold movesT
        rw [runT_stop hi rs z] <;> rfl
      tm_at "r"
      refine r_isiII ?_
      tm_at "r"
      refine r_isiIB ?_
      tm_at "r"
      refine r_ite (fun c1 => ?_) (fun c1 => ?_)
      · tm_at "r"
        refine r_ite (fun c2 => ?_) (fun c2 => ?_)
        · rw [Bool.not_eq_true'] at c2
          tm_at "r"
          exact kN (out (stepT_no (.inr (.inl c2)))) H7 e6
        · rw [Bool.not_eq_false', decide_eq_true_eq] at c2
          have p0 := of_decide_eq_true c1
          tm_at "r"
          refine ⟨a, pa, R, s.1, _, rfl, hR.ex e6, ok, ha6, l1, ra, p0, c2, ?_⟩
          tm_at "r"
          refine r_ite (fun c3 => ?_) (fun c3 => ?_)
          · rw [Bool.not_eq_true'] at c3
            tm_at "r"
            exact kN (out (stepT_no (.inr (.inr c3)))) H7 e6
          · rw [Bool.not_eq_false'] at c3
            have st := stepT_eq p0 c2 c3
            obtain ⟨k1, k2, k3⟩ := stepR_ok (n := R.length) hlo l1 l2 ra p0 c2
            tm_at "r"
            refine ⟨pa, pm, R.length, s, _, rfl, ha6, hm6, hlo, l1, l2, ra, p0, c2, fun r q1 q2 H8 e8 h8 x1 x2 => ?_⟩
            refine r_gTup (SqT.of h8) rfl ?_
            tm_at "r"
            exact ⟨q1, q2, _, rfl, e6.trans e8, stepR R.length s (ns.getD i 0), by rw [runT_snoc hi rs, st], k1, k2, k3, x1.sq, x2.sq⟩
      · tm_at "r"
        exact kN (out (stepT_no (.inl c1))) H7 e6
    · rintro σ H6 ⟨pa, pm, v5, rfl, e6, s, rs, l1, l2, ra, ha6, hm6⟩
      rw [List.take_length] at rs
      tm_at "r"
      exact kQ s.2 (by unfold movesT; rw [rs] <;> rfl) pm H6 e6 hm6
abbrev N_law_are_integers : List PySem.Str := ["_law_thing", "_law_many", "_law_one"]
theorem sc_law_are_integers : FnScope N_law_are_integers ["_law_thing", "_law_many"] (defScope st_law_are_integers) := ⟨rfl, rfl, rfl, by decide +kernel, rfl, by decide +kernel, by decide +kernel⟩
theorem sg_law_are_integers (v0 v1 : V) : L2.start N_law_are_integers [v0, v1] = [some v0, some v1, none] := rfl
theorem bi_law_are_integers {K : PySem.W.Frag} {f : Addr} {fd : FuncData} (F : FnP K "_law_are_integers" st_law_are_integers f fd) : Binds K fd ["_law_thing", "_law_many"] [] := F.bindsN fun _ _ _ _ _ _ us hl => match us, hl with | [_, _], _ => rfl

-- 0:_law_thing 1:_law_many 2:_law_one
theorem ok_lare_integers (F : FnP K "_law_are_integers" st_law_are_integers f fd) (fr : Free mg) : FnOk P w K mg base CX0 1 f fd ["_law_thing", "_law_many"] (spAreInts K) := by
  refine F.ok sc_law_are_integers (fun vs H Q E h => ?_) (fun cdv A outer s H vs Q E hr h => ?_)
  · obtain ⟨a, ns, n, rfl, _⟩ := h
    rfl
  · obtain ⟨a, ns, n, rfl, ha, hz, k⟩ := h
    have hu64 := hr.units
    refine ⟨_, PSs.nox (pss_cons (ps_if (PW.pt (pw_or (pt_not (pt_val (pe_callB (isiq (K := K) rfl) (by rfl) fr.isinstance (by decide +kernel) (pa_cons (pv 0) (pa_cons (pe_bltn (v := .ty "tuple") (by rfl) fr.tuple (by decide +kernel) rfl) pa_nil))))) (pw_or1 (pt_cmpR op_ne (pe_callB (lenq (K := K) rfl) (by rfl) fr.len (by decide +kernel) (pa_cons (pv 0) pa_nil)) (pv 1) (nomark _))))) (pss_one (ps_ret pe_bl)) pss_nil)
    (pss_one (ps_ret (pe_cmpR (eqd (K := K) rfl hu64) (pe_lc (own := [("_law_one", 2)]) rfl sc_law_are_integers.nd (pit (K := K) rfl (pv 0)) (blkOk_by (own := [("_law_one", 2)]) (N := N_law_are_integers) (sc := defScope st_law_are_integers) (by decide +kernel)) (fun _ _ _ _ _ => (pg_name (i := 2) sc_law_are_integers.nd rfl (Or.inl rfl))) (fun _ _ _ _ _ => pts_one (PW.pt (pw_or (pt_not (pt_val (pe_callB (isiq (K := K) rfl) (by rfl) fr.isinstance (by decide +kernel) (pa_cons (pv 2) (pa_cons (pe_bltn (v := .ty "int") (by rfl) fr.int (by decide +kernel) rfl) pa_nil))))) (pw_or1 (pt_val (pe_callB (isiq (K := K) rfl) (by rfl) fr.isinstance (by decide +kernel) (pa_cons (pv 2) (pa_cons (pe_bltn (v := .ty "bool") (by rfl) fr.bool (by decide +kernel) rfl) pa_nil)))))))) (fun _ _ _ _ _ => (pv 2))) (pe_lst pa_nil) (nomark _))))), ?_⟩
    rw [sg_law_are_integers]
    tm_at "r"
    refine r_isiTT ha ?_
    tm_at "r"
    refine r_lenT ha ?_
    rw [List.length_map]
    tm_at "r"
    refine r_ite (fun hb => ?_) (fun hb => ?_)
    · rw [Bool.not_eq_true'] at hb
      have q := k H (Ex.refl _)
      rw [hb] at q
      tm_at "r"
      exact q
    · rw [Bool.not_eq_false'] at hb
      tm_at "r"
      refine ⟨_, rfl, ⟨_, ha⟩, ?_⟩
      refine lc_vals walkTI (fun _ => false) (fun _ => .non) (fun _ e => ex_t e ha) (by omega) ?_ ?_
      · rintro D i v H' H'' acc KN KY hi e2 ⟨rfl, rfl⟩ hD hy h1 _
        refine ⟨rfl, ?_⟩
        tm_at "r"
        refine r_isiII ?_
        tm_at "r"
        refine r_isiIB ?_
        tm_at "r"
        exact h1 rfl _ (Ex.refl _)
      · intro D H' hD e2 h2
        rw [filter_no, List.map_nil] at h2
        tm_at "r"
        w_call p0 n3 H3 e3 h3 u3 z3
        refine ⟨.list [], .list [], .lst (SqL.of (e3 _ _ h2)) .nil, .lst (SqL.of h3) .nil, sh_nilL, sh_nilL, ?_⟩
        rw [show PyData.eqv (.list []) (.list []) = true by decide +kernel, ← hb]
        exact k H3 (e2.trans e3)
def goodL (R : List (List Int)) (d : List Int) (x : Str) (ns : List Int) : Bool := if x = "sequence" then leadsT R d ns else if x = "triple" then inTrips d ns else inRefs R d ns
def spWord (K : PySem.W.Frag) : Sp := fun vs H Q _ => ∃ (a b c : Addr) (R : List (List Int)) (d : List Int) (x : Str) (ns : List Int), vs = [.ref a, .ref b, .ref c] ∧ RkX K H a R ∧ RkOk R ∧ SqT K H b (d.map V.int) ∧ d.length = R.length ∧ AnsAt K H c x ns ∧ IsWord x ∧ ns.length ≤ 100000 ∧
  (goodL R d x ns = true → ∀ p H', Ex H H' → H' p = some (.lst [.str x]) → Q (.ref p) H') ∧ (goodL R d x ns = false → ∀ p H', Ex H H' → H' p = some (.tup [.str "InvalidAnswer", .str x]) → Q (.ref p) H')
abbrev N_law_ring_word : List PySem.Str := ["_law_lists", "_law_moves", "_law_reply", "_law_word", "_law_found", "_law_good", "_law_some"]
theorem sc_law_ring_word : FnScope N_law_ring_word ["_law_lists", "_law_moves", "_law_reply"] (defScope st_law_ring_word) := ⟨rfl, rfl, rfl, by decide +kernel, rfl, by decide +kernel, by decide +kernel⟩
theorem sg_law_ring_word (v0 v1 v2 : V) : L2.start N_law_ring_word [v0, v1, v2] = [some v0, some v1, some v2, none, none, none, none] := rfl
theorem bi_law_ring_word {K : PySem.W.Frag} {f : Addr} {fd : FuncData} (F : FnP K "_law_ring_word" st_law_ring_word f fd) : Binds K fd ["_law_lists", "_law_moves", "_law_reply"] [] := F.bindsN fun _ _ _ _ _ _ us hl => match us, hl with | [_, _, _], _ => rfl

-- 0:_law_lists 1:_law_moves 2:_law_reply 3:_law_word 4:_law_found 5:_law_good 6:_law_some
theorem ok_ring_word (F : FnP K "_law_ring_word" st_law_ring_word f fd) (fr : Free mg) (D_law_ring_run : Def P w K mg base CX0 3 "_law_ring_run" ["_law_lists", "_law_road"] (spLRun K)) (D_law_are_integers : Def P w K mg base CX0 1 "_law_are_integers" ["_law_thing", "_law_many"] (spAreInts K))
    (D_law_ring_triples : Def P w K mg base CX0 3 "_law_ring_triples" ["_law_moves"] (spTrips K)) (D_law_ring_refusals : Def P w K mg base CX0 3 "_law_ring_refusals" ["_law_lists", "_law_moves"] (spRefs K)) : FnOk P w K mg base CX0 4 f fd ["_law_lists", "_law_moves", "_law_reply"] (spWord K) := by
  refine F.ok sc_law_ring_word (fun vs H Q E h => ?_) (fun cdv A outer s H vs Q E hr h => ?_)
  · obtain ⟨a, b, c, R, d, x, ns, rfl, _⟩ := h
    rfl
  · obtain ⟨a, b, c, R, d, x, ns, rfl, hR, ok, hd, hl, ⟨q, hc, hq⟩, hw, hz, k1, k2⟩ := h
    have hu64 := hr.units
    have hu65 : (A.deeper (envOfC "_law_ring_word" (defScope st_law_ring_word) s.heap.objs.size f cdv)).units + 65 < cLine := by have := hr.un; omega
    have h3 := ok.lo
    have h20 := ok.hi
    refine ⟨_, PSs.nox (pss_cons (ps_if (PW.pt (pw_or (pt_not (pt_val (pe_callB (isiq (K := K) rfl) (by rfl) fr.isinstance (by decide +kernel) (pa_cons (pv 2) (pa_cons (pe_bltn (v := .ty "tuple") (by rfl) fr.tuple (by decide +kernel) rfl) pa_nil))))) (pw_or (pt_cmpR op_ne (pe_callB (lenq (K := K) rfl) (by rfl) fr.len (by decide +kernel) (pa_cons (pv 2) pa_nil)) pe_int (nomark _)) (pw_or1 (pt_not (pt_val (pe_callB (isiq (K := K) rfl) (by rfl) fr.isinstance (by decide +kernel) (pa_cons (pe_ix (ixt (K := K) rfl) (pv 2) pe_int (fun _ _ => rfl)) (pa_cons (pe_bltn (v := .ty "str") (by rfl) fr.str (by decide +kernel) rfl) pa_nil))))))))) (pss_one (ps_ret (pe_tup (pa_cons pe_str (pa_cons pe_str pa_nil))))) pss_nil)
    (pss_cons (ps_asg (pv 2) (pgt (n := 2) (K := K) rfl rfl (pgs_cons (pg_name (i := 3) sc_law_ring_word.nd rfl (Or.inl rfl)) (pgs_cons (pg_name (i := 4) sc_law_ring_word.nd rfl (Or.inl rfl)) pgs_nil))))
    (pss_cons (ps_if (pt_cmpR (ninq (K := K) rfl) (pv 3) (pe_lst (pa_cons pe_str (pa_cons pe_str (pa_cons pe_str pa_nil)))) rfl) (pss_one (ps_ret (pe_tup (pa_cons pe_str (pa_cons pe_str pa_nil))))) pss_nil)
    (pss_cons (ps_set (i := 5) sc_law_ring_word.nd rfl (Or.inl rfl) pe_bl)
    (Evl.pss_cut (ps_if (pt_cmpR op_eq (pv 3) pe_str (nomark _)) (pss_one (ps_set (i := 5) sc_law_ring_word.nd rfl (Or.inl rfl) (pe_cmpR (eqd (K := K) rfl hu64) (pe_def D_law_ring_run (hr.mono (by decide)) (pa_cons (pv 0) (pa_cons (pv 4) pa_nil))) (pv 1) (nomark _)))) (pss_one (ps_if (pt_val (pe_def D_law_are_integers (hr.mono (by decide)) (pa_cons (pv 4) (pa_cons (pe_ifExp (pt_cmpR op_eq (pv 3) pe_str (nomark _)) pe_int pe_int) pa_nil)))) (pss_cons (ps_set (i := 6) sc_law_ring_word.nd rfl (Or.inl rfl) (pe_def D_law_ring_triples (hr.mono (by decide)) (pa_cons (pv 1) pa_nil)))
        (pss_one (ps_set (i := 5) sc_law_ring_word.nd rfl (Or.inl rfl) (pe_ifExp (pt_cmpR op_eq (pv 3) pe_str (nomark _)) (pe_cmpR (ind (K := K) rfl hu65) (pv 4) (pv 6) rfl) (pe_and (pe_cmpR (eqd (K := K) rfl hu64) (pv 6) (pe_lst pa_nil) (nomark _)) (pe_one (pe_cmpR (ind (K := K) rfl hu65) (pv 4) (pe_def D_law_ring_refusals (hr.mono (by decide)) (pa_cons (pv 0) (pa_cons (pv 1) pa_nil))) rfl))))))) pss_nil)))
    (pss_one (ps_ret (pe_ifExp (pt_val (pv 5)) (pe_lst (pa_cons (pv 3) pa_nil)) (pe_tup (pa_cons pe_str (pa_cons (pv 3) pa_nil))))))))))), ?_⟩
    rw [sg_law_ring_word]
    tm_at "r"
    refine r_isiTT hc ?_
    tm_at "r"
    refine r_lenT hc ?_
    tm_at "r"
    refine r_no (by rw [show ([V.str x, V.ref q].length : Int) = 2 from rfl, decide_eq_true rfl] <;> rfl) ?_
    tm_at "r"
    refine r_ixT hc (at_of (j := 0) rfl rfl) ?_
    tm_at "r"
    refine r_isiSS ?_
    tm_at "r"
    refine r_gTup hc rfl ?_
    tm_at "r"
    w_call pw n1 H1 e1 h1 u1 z1
    refine ⟨pw, _, rfl, .inl (SqL.of h1), rfl, rfl, ?_⟩
    have hin : (if true = true then !inV (V.str x) [.str "sequence", .str "triple", .str "refused"] else inV (V.str x) [.str "sequence", .str "triple", .str "refused"]) = false := by
      rcases hw with rfl | rfl | rfl <;> decide +kernel
    rw [hin]
    tm_at "r"
    refine r_cut (fun σ' H2 => ∃ g v6, σ' = [some (.ref a), some (.ref b), some (.ref c), some (.str x), some (.ref q), some (.bl g), v6] ∧ g = goodL R d x ns ∧ Ex H H2) ?_ ?_
    · tm_at "r"
      unfold goodL
      refine r_ite (fun c1 => ?_) (fun c1 => ?_)
      · rw [if_pos (of_decide_eq_true c1)]
        tm_at "r"
        refine ⟨a, q, R, ns, rfl, hR.ex e1, ok, ex_t e1 hq, fun mv hm p H2 e2 h2 => ?_, fun hm H2 e2 => ?_⟩
        · tm_at "r"
          refine ⟨dTI mv, dTI d, dp_ti h2, dp_ti (ex_t (e1.trans e2) hd), sh_ti _, sh_ti _, ?_⟩
          rw [eqv_ti]
          refine ⟨_, _, rfl, ?_, e1.trans e2⟩
          unfold leadsT
          rw [hm]
          simp
        · tm_at "r"
          refine ⟨.none, dTI d, .non, dp_ti (ex_t (e1.trans e2) hd), sh_non, sh_ti _, ?_⟩
          rw [eqv_non_ti]
          refine ⟨_, _, rfl, ?_, e1.trans e2⟩
          unfold leadsT
          rw [hm]
          simp
      · rw [if_neg (of_decide_eq_false c1)]
        tm_at "r"
        refine r_ite (fun c2 => ?_) (fun c2 => ?_)
        · rw [if_pos (of_decide_eq_true c2)]
          tm_at "r"
          refine ⟨q, ns, 3, rfl, ex_t e1 hq, hz, fun H2 e2 => ?_⟩
          have e3 : decide ((ns.length : Int) = 3) = decide (ns.length = 3) := decide_eq_decide.mpr (by omega)
          rw [e3]
          tm_at "r"
          unfold inTrips
          refine r_ite (fun c3 => ?_) (fun c3 => ?_)
          · rw [c3]
            tm_at "r"
            refine ⟨b, d, rfl, ex_t (e1.trans e2) hd, by omega, by omega, fun p H3 ys e4 hp ty => ?_⟩
            tm_at "r"
            rw [c2]
            tm_at "r"
            refine ⟨dTI ns, (ltrips d).map dTI, dp_ti (ex_t ((e1.trans e2).trans e4) hq), .lst (SqL.of hp) ty.dp, sh_ti _, sh_tis _, ?_⟩
            rw [any_tis]
            exact ⟨_, _, rfl, rfl, (e1.trans e2).trans e4⟩
          · rw [c3]
            tm_at "r"
            exact ⟨_, _, rfl, rfl, e1.trans e2⟩
        · rw [if_neg (of_decide_eq_false c2)]
          tm_at "r"
          refine ⟨q, ns, 4, rfl, ex_t e1 hq, hz, fun H2 e2 => ?_⟩
          have e3 : decide ((ns.length : Int) = 4) = decide (ns.length = 4) := decide_eq_decide.mpr (by omega)
          rw [e3]
          tm_at "r"
          unfold inRefs
          refine r_ite (fun c3 => ?_) (fun c3 => ?_)
          · rw [c3]
            tm_at "r"
            refine ⟨b, d, rfl, ex_t (e1.trans e2) hd, by omega, by omega, fun p H3 ys e4 hp ty => ?_⟩
            have e03 := (e1.trans e2).trans e4
            tm_at "r"
            rw [c2]
            tm_at "r"
            w_call p0 n5 H5 e5 h5 u5 z5
            refine ⟨.list ((ltrips d).map dTI), .list [], .lst (SqL.of (e5 _ _ hp)) (ty.mono (TEx.of e5)).dp, .lst (SqL.of h5) .nil, sh_tis _, sh_nilL, ?_⟩
            rw [eqv_tis_nil]
            tm_at "r"
            refine r_ite (fun c4 => ?_) (fun c4 => ?_)
            · rw [c4]
              tm_at "r"
              refine ⟨a, b, R, d, rfl, hR.ex (e03.trans e5), ok, ex_t (e03.trans e5) hd, hl, fun p2 H6 zs e6 hp2 tz => ?_⟩
              refine ⟨dTI ns, (lrefs R d).map dTI, dp_ti (ex_t ((e03.trans e5).trans e6) hq), .lst (SqL.of hp2) tz.dp, sh_ti _, sh_tis _, ?_⟩
              rw [any_tis]
              exact ⟨_, _, rfl, rfl, (e03.trans e5).trans e6⟩
            · rw [c4]
              exact ⟨_, _, rfl, rfl, e03.trans e5⟩
          · rw [c3]
            tm_at "r"
            exact ⟨_, _, rfl, rfl, e1.trans e2⟩
    · rintro σ' H2 ⟨g, v6, rfl, hg, e2⟩
      tm_at "r"
      refine r_ite (fun c1 => ?_) (fun c1 => ?_)
      · tm_at "r"
        w_call pr n3 H3 e3 h3' u3 z3
        exact k1 (hg.symm.trans c1) pr H3 (e2.trans e3) h3'
      · tm_at "r"
        w_call pr n3 H3 e3 h3' u3 z3
        exact k2 (hg.symm.trans c1) pr H3 (e2.trans e3) h3'
end
end SW
end

section
set_option Elab.async false
set_option linter.all false
set_option maxRecDepth 100000
set_option maxHeartbeats 4000000
namespace SW
open PySem PySem.Spec PyProof.Rows L2 Evl
local macro_rules | `(tactic| tm_at "r1") => `(tactic| first
  | ((with_reducible refine' r_var ?hx ?_); (case hx => exact rfl))
  | with_reducible refine r_c ?_
  | with_reducible refine r_op ?_
  | with_reducible refine r_I0 ?_
  | with_reducible refine r_un ?_
  | with_reducible refine r_U ?_
  | with_reducible refine r_cons ?_
  | with_reducible refine r_nil ?_
  | with_reducible refine r_call ?_
  | with_reducible refine r_cb ?_
  | with_reducible refine r_test ?_
  | with_reducible refine r_blp ?_
  | with_reducible refine r_tYes ?_
  | with_reducible refine r_ifT ?_
  | with_reducible refine r_ifF ?_
  | ((with_reducible refine' r_aug ?hx ?_); (case hx => exact rfl))
  | with_reducible refine r_seq ?_
  | with_reducible refine r_asg ?_
  | with_reducible refine r_gname ?_
  | with_reducible refine r_ret ?_
  | with_reducible refine r_tup ?_
  | with_reducible refine r_lst ?_
  | with_reducible refine r_ifS ?_
  | with_reducible refine r_par ?_
  | with_reducible refine r_two ?_
  | with_reducible refine r_lc ?_
  | with_reducible refine r_rng1 ?_
  | with_reducible refine r_rng2 ?_
  | with_reducible refine r_iList ?_
  | with_reducible refine r_iTup ?_
  | with_reducible refine r_for ?_
  | with_reducible refine r_not ?_
  | with_reducible refine r_and ?_
  | with_reducible refine r_or ?_
  | with_reducible refine r_andV ?_
  | with_reducible refine r_orV ?_
  | with_reducible refine r_notV ?_
  | with_reducible refine r_if ?_
  | with_reducible refine r_chain ?_
  | with_reducible refine r_B ?_
  | with_reducible refine r_next ?_
  | with_reducible refine r_drop ?_
  | with_reducible refine r_retN ?_
  | with_reducible refine r_ipI ?_
  | ((with_reducible refine' r_sz ?hz ?_); (case hz => exact Nat.le_of_ble_eq_true rfl))
  | with_reducible refine r_gCons ?_
  | with_reducible refine r_gNil ?_
  | with_reducible refine r_par3 ?_
  | with_reducible refine r_three ?_
  | with_reducible refine r_listRg ?_
  | with_reducible refine r_tupRg ?_
  | with_reducible refine r_augS ?_
  | with_reducible refine r_lenSetT ?_
  | with_reducible refine r_lenSetL ?_
  | with_reducible refine r_ifNT ?_
  | with_reducible refine r_ifNF ?_
  | with_reducible refine r_eqI ?_
  | with_reducible refine r_neI ?_
  | with_reducible refine r_eqS ?_
  | with_reducible refine r_neS ?_
  | with_reducible refine r_bm ?_
  | with_reducible refine r_bt ?_
  | with_reducible refine r_iEnT ?_
  | with_reducible refine r_iEnL ?_
  | with_reducible refine r_dc ?_
  | with_reducible refine r_dget ?_
  | with_reducible refine r_dput ?_
  | with_reducible refine r_sl ?_
  | with_reducible refine r_noP ?_
  | with_reducible refine r_part ?_
  | with_reducible refine r_revL ?_
  | with_reducible refine r_gSub ?_)
local macro_rules | `(tactic| tm_at "r") => `(tactic| repeat tm_at "r1")
local macro_rules | `(tactic| w_call $p $n $H1 $e $h $u $z) => `(tactic| (intro $p:ident $n:ident; generalize $u:ident : upd _ $p:ident _ = $H1:ident; obtain ⟨$e, $h⟩ := new_of $n:ident $u:ident))
/-- the numbers below n, each once, in some order -/
structure PermI (n : Nat) (r : List Int) : Prop where
  len : r.length = n
  nd : r.Nodup
  rng : ∀ x ∈ r, 0 ≤ x ∧ x < (n : Int)
  has : ∀ x : Int, 0 ≤ x → x < n → x ∈ r
/-- a move that brings i to its place in r -/
def Brings (n : Nat) (r : List Int) (i m : Int) : Prop := (i + m) % (n : Int) = (r.idxOf i : Nat) ∧ -(n : Int) < m ∧ m < n
theorem disp_of {n : Nat} {r l : List Int} (pm : PermI n r) (h3 : 3 ≤ n) (h20 : n ≤ 20) (hl : l.length = n) (hb : ∀ i : Nat, i < n → Brings n r i (l.getD i 0)) (hs : l.sum = 0) : DispOk l := by
  refine ⟨by omega, by omega, fun x hx => ?_, hs, ?_⟩
  · obtain ⟨i, hi, rfl⟩ := List.getElem_of_mem hx
    have := (hb i (by omega)).2
    rw [getD_at hi, hl]
    exact this
  · rw [hl]
    refine List.pairwise_iff_getElem.mpr fun i j hi hj hij e => ?_
    simp only [List.length_map, List.length_range] at hi hj
    simp only [List.getElem_map, List.getElem_range] at e
    rw [(hb i hi).1, (hb j hj).1] at e
    have e2 : r.idxOf (i : Int) = r.idxOf (j : Int) := by omega
    have mi : r.idxOf (i : Int) < r.length := List.idxOf_lt_length_iff.mpr (pm.has _ (by omega) (by omega))
    have mj : r.idxOf (j : Int) < r.length := List.idxOf_lt_length_iff.mpr (pm.has _ (by omega) (by omega))
    have e3 : r[r.idxOf (i : Int)] = r[r.idxOf (j : Int)] := by simp only [e2]
    rw [List.getElem_idxOf, List.getElem_idxOf] at e3
    omega
section
variable {P : Program} {w : World} {K : PySem.W.Frag} {mg : Str → Option Value} {base : Heap} {f : Addr} {fd : FuncData} {C : Addr}
def spChoices (K : PySem.W.Frag) : Sp := fun vs H Q _ => ∃ (a : Addr) (n : Nat) (r : List Int), vs = [.ref a] ∧ ExT H a (r.map V.int) ∧ PermI n r ∧ 3 ≤ n ∧ n ≤ 8 ∧
  ∀ p H' ls ys, Ex H H' → H p = none → H' p = some (.lst ys) → Tups H' ls ys → (∀ l ∈ ls, DispOk l ∧ l.length = n) → ys.length ≤ 100000 → Q (.ref p) H'
abbrev N_law_ring_choices : List PySem.Str := ["_law_row", "_law_many", "_law_found", "_law_thing", "_law_shift", "_law_far", "_law_some", "_law_longer", "_law_ahead", "_law_one", "_law_moves"]
theorem sc_law_ring_choices : FnScope N_law_ring_choices ["_law_row"] (defScope st_law_ring_choices) := ⟨rfl, rfl, rfl, by decide +kernel, rfl, by decide +kernel, by decide +kernel⟩
theorem sg_law_ring_choices (v0 : V) : L2.start N_law_ring_choices [v0] = [some v0, none, none, none, none, none, none, none, none, none, none] := rfl
theorem bi_law_ring_choices {K : PySem.W.Frag} {f : Addr} {fd : FuncData} (F : FnP K "_law_ring_choices" st_law_ring_choices f fd) : Binds K fd ["_law_row"] [] := F.bindsN fun _ _ _ _ _ _ us hl => match us, hl with | [_], _ => rfl

-- 0:_law_row 1:_law_many 2:_law_found 3:_law_thing 4:_law_shift 5:_law_far 6:_law_some 7:_law_longer 8:_law_ahead* 9:_law_one 10:_law_moves
theorem ok_ring_choices (F : FnP K "_law_ring_choices" st_law_ring_choices f fd) (fr : Free mg) : FnOk P w K mg base CX0 1 f fd ["_law_row"] (spChoices K) := by
  refine F.ok sc_law_ring_choices (fun vs H Q E h => ?_) (fun cdv A outer s H vs Q E hr h => ?_)
  · obtain ⟨a, n, r, rfl, _⟩ := h
    rfl
  · obtain ⟨a, n, r, rfl, hx, pm, h3, h8, k⟩ := h
    have ha := hx.sq (K := K)
    have hrl := pm.len
    refine ⟨_, PSs.nox (pss_cons (ps_par (i := 1) (j := 2) rfl sc_law_ring_choices.nd rfl rfl (by decide) rfl rfl (pa_cons (pe_callB (lenq (K := K) rfl) (by rfl) fr.len (by decide +kernel) (pa_cons (pv 0) pa_nil)) (pa_cons (pe_lst (pa_cons (pe_tup pa_nil) pa_nil)) pa_nil)) (by rfl))
    (pss_cons (ps_for PassesOwn.never rfl (pi_range1 (by rfl) fr.range (pa_cons (pv 1) pa_nil)) (pg_name (i := 3) sc_law_ring_choices.nd rfl (Or.inl rfl))
    (pss_cons (ps_set (i := 4) sc_law_ring_choices.nd rfl (Or.inl rfl) (pe_op op_sub (bmt PySem.F.plainAttrs_tuple PySem.F.slot_tuple_index PySem.F.type_tuple_index (idxt (K := K) rfl) (pv 0) (pa_cons (pv 3) pa_nil)) (pv 3)))
      (Evl.pss_cut (ps_set (i := 5) sc_law_ring_choices.nd rfl (Or.inl rfl) (pe_ifExp (pt_cmpR op_gt (pv 4) pe_int (nomark _)) (pe_op op_sub (pv 4) (pv 1)) (pe_op op_add (pv 4) (pv 1))))
      (Evl.pss_cut (ps_set (i := 6) sc_law_ring_choices.nd rfl (Or.inl rfl) (pe_ifExp (pt_cmpR op_eq (pv 4) pe_int (nomark _)) (pe_lst (pa_cons pe_int pa_nil)) (pe_callB (srtq (K := K) rfl) (by rfl) fr.sorted (by decide +kernel) (pa_cons (pe_lst (pa_cons (pv 4) (pa_cons (pv 5) pa_nil))) pa_nil))))
      (pss_cons (ps_set (i := 7) sc_law_ring_choices.nd rfl (Or.inl rfl) (pe_lst pa_nil))
      (pss_cons (ps_for PassesOwn.never rfl (pil (K := K) rfl (pv 2)) (pg_name (i := 8) sc_law_ring_choices.nd rfl (Or.inr rfl))
      (pss_one (ps_set (i := 7) sc_law_ring_choices.nd rfl (Or.inl rfl) (pe_op op_cat (pv 7) (pe_lc (own := [("_law_one", 9)]) rfl sc_law_ring_choices.nd (pil (K := K) rfl (pv 6)) (blkOk_by (own := [("_law_one", 9)]) (N := N_law_ring_choices) (sc := defScope st_law_ring_choices) (by decide +kernel)) (fun _ _ _ _ _ => (pg_name (i := 9) sc_law_ring_choices.nd rfl (Or.inl rfl))) (fun _ _ _ _ _ => pts_nil) (fun _ _ _ _ _ => (pe_op (catt (K := K) rfl) (pv 8) (pe_tup (pa_cons (pv 9) pa_nil)))))))))
      (pss_one (ps_set (i := 2) sc_law_ring_choices.nd rfl (Or.inl rfl) (pv 7)))))))))
    (pss_one (ps_ret (pe_lc (own := [("_law_moves", 10)]) rfl sc_law_ring_choices.nd (pil (K := K) rfl (pv 2)) (blkOk_by (own := [("_law_moves", 10)]) (N := N_law_ring_choices) (sc := defScope st_law_ring_choices) (by decide +kernel)) (fun _ _ _ _ _ => (pg_name (i := 10) sc_law_ring_choices.nd rfl (Or.inl rfl))) (fun _ _ _ _ _ => pts_one (pt_cmpR op_eq (pe_callB (sumt (K := K) rfl rfl) (by rfl) fr.sum (by decide +kernel) (pa_cons (pv 10) pa_nil)) pe_int (nomark _))) (fun _ _ _ _ _ => (pv 10))))))), ?_⟩
    rw [sg_law_ring_choices]
    tm_at "r"
    refine r_lenT ha ?_
    rw [List.length_map, hrl]
    tm_at "r"
    w_call t0 n1 H1 e1 h1 u1 z1
    tm_at "r"
    w_call pf n2 H2 e2 h2 u2 z2
    tm_at "r"
    refine ⟨_, rfl, by omega, by omega, ?_⟩
    rw [show ((n : Nat) : Int).toNat = n from rfl]
    refine for_run walk0 (fun i σ H' => ∃ pf v3 v4 v5 v6 v7 v8 v9 v10, σ = [some (.ref a), some (.int (n : Int)), some (.ref pf), v3, v4, v5, v6, v7, v8, v9, v10] ∧ Ex H H' ∧
      ∃ ys ls, H' pf = some (.lst ys) ∧ Tups H' ls ys ∧ ls.length ≤ 2 ^ i ∧ ∀ l ∈ ls, l.length = i ∧ ∀ j : Nat, j < i → Brings n r j (l.getD j 0)) ⟨pf, _, _, _, _, _, _, _, _, rfl, e1.trans e2, _, [[]], h2, Tups.one (e2 _ _ h1), by decide, fun l hl => ?_⟩ (fun _ _ _ _ _ => trivial) ?_ ?_
    · rw [List.mem_singleton.mp hl]
      exact ⟨rfl, fun j hj => absurd hj (Nat.not_lt_zero _)⟩
    · rintro i x σ H3 H4 hi ⟨pf, v3, v4, v5, v6, v7, v8, v9, v10, rfl, e3, ys, ls, hy, ty, hlen, hls⟩ ⟨rfl, rfl⟩
      have hp8 : 2 ^ i ≤ 256 := Nat.le_trans (Nat.pow_le_pow_right (by decide) (show i ≤ 8 by omega)) (by decide)
      have hin : (i : Int) ∈ r := pm.has _ (by omega) (by omega)
      have hix : r.idxOf (i : Int) < r.length := List.idxOf_lt_length_iff.mpr hin
      tm_at "r"
      refine ⟨⟨a, _, rfl, hx.ex e3⟩, ?_⟩
      tm_at "r"
      refine r_idxT (ex_t e3 ha) hin ?_
      have ix0 : (r.idxOf (i : Int) : Int) < n := by omega
      tm_at "r"
      refine r_cut (fun σ' H5 => H5 = H4 ∧ ∃ far : Int, σ' = [some (.ref a), some (.int (n : Int)), some (.ref pf), some (.int (i : Int)), some (.int ((r.idxOf (i : Int) : Nat) - (i : Int))), some (.int far), v6, v7, v8, v9, v10] ∧ ((r.idxOf (i : Int) : Nat) - (i : Int) ≠ 0 → Brings n r i far)) ?_ ?_
      · tm_at "r"
        refine r_ite (fun hb => ?_) (fun hb => ?_)
        · have hb := of_decide_eq_true hb
          tm_at "r"
          refine ⟨rfl, _, rfl, fun _ => ⟨?_, by omega, by omega⟩⟩
          rw [show (i : Int) + ((r.idxOf (i : Int) : Nat) - (i : Int) - (n : Int)) = (r.idxOf (i : Int) : Nat) - (n : Int) * 1 by omega, Int.sub_mul_emod_self_left]
          exact Int.emod_eq_of_lt (by omega) ix0
        · have hb := of_decide_eq_false hb
          tm_at "r"
          refine ⟨rfl, _, rfl, fun hne => ⟨?_, by omega, by omega⟩⟩
          rw [show (i : Int) + ((r.idxOf (i : Int) : Nat) - (i : Int) + (n : Int)) = (r.idxOf (i : Int) : Nat) + (n : Int) * 1 by omega, Int.add_mul_emod_self_left]
          exact Int.emod_eq_of_lt (by omega) ix0
      · rintro σ' H5 ⟨rfl, far, rfl, hfar⟩
        have b0 : Brings n r i ((r.idxOf (i : Int) : Nat) - (i : Int)) := ⟨by rw [show (i : Int) + ((r.idxOf (i : Int) : Nat) - (i : Int)) = (r.idxOf (i : Int) : Nat) by omega]; exact Int.emod_eq_of_lt (by omega) ix0, by omega, by omega⟩
        refine r_cut (fun σ' H6 => Ex H5 H6 ∧ ∃ (so : List Int) (ps : Addr), σ' = [some (.ref a), some (.int (n : Int)), some (.ref pf), some (.int (i : Int)), some (.int ((r.idxOf (i : Int) : Nat) - (i : Int))), some (.int far), some (.ref ps), v7, v8, v9, v10] ∧ H6 ps = some (.lst (so.map V.int)) ∧ so.length ≤ 2 ∧ ∀ m ∈ so, Brings n r i m) ?_ ?_
        · tm_at "r"
          refine r_ite (fun hb => ?_) (fun hb => ?_)
          · tm_at "r"
            w_call ps n6 H6 e6 h6 u6 z6
            tm_at "r"
            refine ⟨e6, [0], ps, rfl, h6, by decide, fun m hm => ?_⟩
            rw [List.mem_singleton.mp hm, ← of_decide_eq_true hb]
            exact b0
          · have hne := of_decide_eq_false hb
            tm_at "r"
            w_call ps n6 H6 e6 h6 u6 z6
            refine ⟨ps, [(r.idxOf (i : Int) : Nat) - (i : Int), far], rfl, SqL.of h6, by show 2 < 64; decide, fun ns' p hp _ np => ?_⟩
            generalize hu7 : upd H6 p _ = H7
            obtain ⟨e7, h7⟩ := new_of np hu7
            tm_at "r"
            refine ⟨e6.trans e7, ns', p, rfl, h7, Nat.le_of_eq hp.length_eq, fun m hm => ?_⟩
            have hm2 := hp.mem_iff.mp hm
            rcases List.mem_cons.mp hm2 with rfl | hm2
            · exact b0
            · rw [List.mem_singleton.mp hm2]
              exact hfar hne
        · rintro σ' H6 ⟨e6, so, ps, rfl, hso, lso, bso⟩
          tm_at "r"
          w_call p0 n7 H7 e7 h7 u7 z7
          tm_at "r"
          have e57 := e6.trans e7
          refine ⟨_, rfl, ⟨_, SqL.of (e57 _ _ hy)⟩, ?_⟩
          refine for_run (walkTups (ls := ls) (ys := ys)) (fun k σ H' => ∃ pl v8 v9, σ = [some (.ref a), some (.int (n : Int)), some (.ref pf), some (.int (i : Int)), some (.int ((r.idxOf (i : Int) : Nat) - (i : Int))), some (.int far), some (.ref ps), some (.ref pl), v8, v9, v10] ∧ Ex H7 H' ∧
            ∃ zs ms, H' pl = some (.lst zs) ∧ Tups H' ms zs ∧ ms.length ≤ 2 * k ∧ ∀ l ∈ ms, l.length = i + 1 ∧ ∀ j : Nat, j < i + 1 → Brings n r j (l.getD j 0)) ⟨p0, _, _, rfl, Ex.refl _, [], [], h7, .nil, Nat.zero_le _, fun l hl => nomatch hl⟩ (fun k σ H' _ q => ?_) ?_ ?_
          · obtain ⟨_, _, _, _, e, _⟩ := q
            exact ⟨SqL.of (e _ _ (e57 _ _ hy)), ty.mono (TEx.of (e57.trans e))⟩
          · rintro k x σ H8 H9 hk ⟨pl, v8, v9, rfl, e8, zs, ms, hz, tz, lz, hms⟩ ⟨rfl, q, rfl, hq⟩
            have hml : ls.getD k [] ∈ ls := by
              rw [List.getD_eq_getElem?_getD, List.getElem?_eq_getElem hk]
              exact List.getElem_mem hk
            obtain ⟨ll, lb⟩ := hls _ hml
            generalize hlk : ls.getD k [] = l at hml ll lb hq
            tm_at "r"
            refine ⟨_, rfl, ⟨_, SqL.of (e8 _ _ (e7 _ _ hso))⟩, ?_⟩
            refine lc_tups (walkLI (ns := so)) (fun _ => true) (fun j => l ++ [so.getD j 0]) (fun _ e => SqL.of (e _ _ (e8 _ _ (e7 _ _ hso)))) (by omega) ?_ ?_
            · rintro D j x H10 H11 acc KN KY hj e10 ⟨rfl, rfl⟩ hD hy2 _ h2
              refine ⟨rfl, ?_⟩
              tm_at "r"
              w_call pt n12 H12 e12 h12 u12 z12
              refine ⟨q, pt, _, _, rfl, rfl, SqT.of (e12 _ _ (e10 _ _ hq)), SqT.of h12, ?_, fun z => ?_, fun _ z => (by cases z), fun _ _ => ?_⟩
              · rw [List.length_map, ll]
                exact sz_of (by show i + 1 ≤ 100000; omega)
              · have hl0 : l = [] := List.map_eq_nil_iff.mp z
                refine h2 rfl pt H12 e12 ?_
                rw [hl0, h12]
                rfl
              · w_call pc n13 H13 e13 h13 u13 z13
                refine h2 rfl pc H13 (e12.trans e13) ?_
                rw [h13, List.map_append]
                rfl
            · intro D H10 ws hD e10 hw tw
              rw [filter_yes] at tw
              have l1 := tz.len
              have l2 := tw.len
              rw [List.length_map, List.length_range] at l2
              refine ⟨pl, D, zs, ws, rfl, rfl, e10 _ _ hz, hw, sz_of (by omega), ?_⟩
              w_call pc n11 H11 e11 h11 u11 z11
              tm_at "r"
              refine ⟨pc, _, _, rfl, (e8.trans e10).trans e11, _, _, h11, (tz.mono (TEx.of (e10.trans e11))).app (tw.mono (TEx.of e11)), ?_, fun l2 hl2 => ?_⟩
              · rw [List.length_append, List.length_map, List.length_range]
                omega
              · rcases List.mem_append.mp hl2 with hl2 | hl2
                · exact hms _ hl2
                · obtain ⟨j, hj, rfl⟩ := List.mem_map.mp hl2
                  have hj := List.mem_range.mp hj
                  refine ⟨by rw [List.length_append, ll] <;> rfl, fun m hm => ?_⟩
                  by_cases e : m = i
                  · subst e
                    rw [List.getD_eq_getElem?_getD, List.getElem?_append_right (by omega), ll, Nat.sub_self]
                    refine bso _ ?_
                    show so.getD j 0 ∈ so
                    rw [← getD_at hj]
                    exact List.getElem_mem hj
                  · have := lb m (by omega)
                    rw [List.getD_eq_getElem?_getD, List.getElem?_append_left (by omega), ← List.getD_eq_getElem?_getD]
                    exact this
          · rintro σ H8 ⟨pl, v8, v9, rfl, e8, zs, ms, hz, tz, lz, hms⟩
            tm_at "r"
            refine ⟨pl, _, _, _, _, _, _, _, _, rfl, (e3.trans e57).trans e8, zs, ms, hz, tz, ?_, hms⟩
            rw [Nat.pow_succ]
            omega
    · rintro σ H3 ⟨pf, v3, v4, v5, v6, v7, v8, v9, v10, rfl, e3, ys, ls, hy, ty, hlen, hls⟩
      have hp8 : 2 ^ n ≤ 256 := Nat.le_trans (Nat.pow_le_pow_right (by decide) h8) (by decide)
      tm_at "r"
      refine ⟨_, rfl, ⟨_, SqL.of hy⟩, ?_⟩
      refine lc_tups (walkTups (ls := ls) (ys := ys)) (fun j => decide ((ls.getD j []).sum = 0)) (fun j => ls.getD j []) (fun _ e => ⟨SqL.of (e _ _ hy), ty.mono (TEx.of e)⟩) (by omega) ?_ ?_
      · rintro D j x H4 H5 acc KN KY hj e4 ⟨rfl, q, rfl, hq⟩ hD hy2 h1 h2
        refine ⟨rfl, ?_⟩
        tm_at "r"
        refine ⟨q, _, rfl, SqT.of hq, ?_⟩
        tm_at "r"
        refine r_ite (fun hb => ?_) (fun hb => h1 hb _ (Ex.refl _))
        tm_at "r"
        exact h2 hb q _ (Ex.refl _) hq
      · intro D H4 ws hD e4 hw tw
        refine k D H4 _ ws (e3.trans e4) (none_of_ex e3 hD) hw tw (fun l hl => ?_) ?_
        · obtain ⟨j, hj, rfl⟩ := List.mem_map.mp hl
          obtain ⟨hj, hs⟩ := List.mem_filter.mp hj
          have hj := List.mem_range.mp hj
          have hml : ls.getD j [] ∈ ls := by
            rw [List.getD_eq_getElem?_getD, List.getElem?_eq_getElem hj]
            exact List.getElem_mem hj
          obtain ⟨ll, lb⟩ := hls _ hml
          exact ⟨disp_of pm h3 (by omega) ll lb (of_decide_eq_true hs), ll⟩
        · rw [← tw.len, List.length_map]
          have := List.length_filter_le (fun j => decide ((ls.getD j []).sum = 0)) (List.range ls.length)
          rw [List.length_range] at this
          omega
end
end SW
end

section
set_option Elab.async false
set_option linter.all false
set_option maxRecDepth 100000
set_option maxHeartbeats 4000000
namespace SW
open PySem PySem.Spec PyProof.Rows L2 Evl
local macro_rules | `(tactic| tm_at "r1") => `(tactic| first
  | ((with_reducible refine' r_var ?hx ?_); (case hx => exact rfl))
  | with_reducible refine r_c ?_
  | with_reducible refine r_op ?_
  | with_reducible refine r_I0 ?_
  | with_reducible refine r_un ?_
  | with_reducible refine r_U ?_
  | with_reducible refine r_cons ?_
  | with_reducible refine r_nil ?_
  | with_reducible refine r_call ?_
  | with_reducible refine r_cb ?_
  | with_reducible refine r_test ?_
  | with_reducible refine r_blp ?_
  | with_reducible refine r_tYes ?_
  | with_reducible refine r_ifT ?_
  | with_reducible refine r_ifF ?_
  | ((with_reducible refine' r_aug ?hx ?_); (case hx => exact rfl))
  | with_reducible refine r_seq ?_
  | with_reducible refine r_asg ?_
  | with_reducible refine r_gname ?_
  | with_reducible refine r_ret ?_
  | with_reducible refine r_tup ?_
  | with_reducible refine r_lst ?_
  | with_reducible refine r_ifS ?_
  | with_reducible refine r_par ?_
  | with_reducible refine r_two ?_
  | with_reducible refine r_lc ?_
  | with_reducible refine r_rng1 ?_
  | with_reducible refine r_rng2 ?_
  | with_reducible refine r_iList ?_
  | with_reducible refine r_iTup ?_
  | with_reducible refine r_for ?_
  | with_reducible refine r_not ?_
  | with_reducible refine r_and ?_
  | with_reducible refine r_or ?_
  | with_reducible refine r_andV ?_
  | with_reducible refine r_orV ?_
  | with_reducible refine r_notV ?_
  | with_reducible refine r_if ?_
  | with_reducible refine r_chain ?_
  | with_reducible refine r_B ?_
  | with_reducible refine r_next ?_
  | with_reducible refine r_drop ?_
  | with_reducible refine r_retN ?_
  | with_reducible refine r_ipI ?_
  | ((with_reducible refine' r_sz ?hz ?_); (case hz => exact Nat.le_of_ble_eq_true rfl))
  | with_reducible refine r_gCons ?_
  | with_reducible refine r_gNil ?_
  | with_reducible refine r_par3 ?_
  | with_reducible refine r_three ?_
  | with_reducible refine r_listRg ?_
  | with_reducible refine r_tupRg ?_
  | with_reducible refine r_augS ?_
  | with_reducible refine r_lenSetT ?_
  | with_reducible refine r_lenSetL ?_
  | with_reducible refine r_ifNT ?_
  | with_reducible refine r_ifNF ?_
  | with_reducible refine r_eqI ?_
  | with_reducible refine r_neI ?_
  | with_reducible refine r_eqS ?_
  | with_reducible refine r_neS ?_
  | with_reducible refine r_bm ?_
  | with_reducible refine r_bt ?_
  | with_reducible refine r_iEnT ?_
  | with_reducible refine r_iEnL ?_
  | with_reducible refine r_dc ?_
  | with_reducible refine r_dget ?_
  | with_reducible refine r_dput ?_
  | with_reducible refine r_sl ?_
  | with_reducible refine r_noP ?_
  | with_reducible refine r_part ?_
  | with_reducible refine r_revL ?_
  | with_reducible refine r_gSub ?_)
local macro_rules | `(tactic| tm_at "r") => `(tactic| repeat tm_at "r1")
local macro_rules | `(tactic| w_call $p $n $H1 $e $h $u $z) => `(tactic| (intro $p:ident $n:ident; generalize $u:ident : upd _ $p:ident _ = $H1:ident; obtain ⟨$e, $h⟩ := new_of $n:ident $u:ident))
/-! the store m: a dict that is drawn from -/
def mK (c g : Addr) (k : Int) : List (Key × V) := [(.inr "cells", .ref c), (.inr "great", .ref g), (.inr "spot", .int k)]
/-- all but the store's own two objects -/
def hid (d g : Addr) (H : Hp) : Hp := fun a => if a = d ∨ a = g then none else H a
theorem hid_eq {d g a : Addr} {H : Hp} (h1 : a ≠ d) (h2 : a ≠ g) : hid d g H a = H a := by
  unfold hid
  rw [if_neg]
  rintro (z | z)
  · exact h1 z
  · exact h2 z
theorem hid_le {d g : Addr} {H : Hp} : Ex (hid d g H) H := fun a u h => by
  unfold hid at h
  split at h
  · cases h
  · exact h
theorem hid_some {d g a : Addr} {H : Hp} {u : HO} (h : hid d g H a = some u) : a ≠ d ∧ a ≠ g := by
  unfold hid at h
  split at h
  · cases h
  · rename_i z
    exact ⟨fun e => z (.inl e), fun e => z (.inr e)⟩
theorem hid_mono {d g : Addr} {H H' : Hp} (e : Ex H H') : Ex (hid d g H) (hid d g H') := fun a u h => by
  obtain ⟨h1, h2⟩ := hid_some h
  rw [hid_eq h1 h2] at h ⊢
  exact e _ _ h
theorem hid_none {d g a : Addr} {H : Hp} (h : H a = none) : hid d g H a = none := by
  unfold hid
  split
  · rfl
  · exact h
/-- the store: its dict at d, its cells at c, its great list at g; b draws more, at most -/
structure MI (H : Hp) (d c g : Addr) (b : Nat) : Prop where
  ex : ∃ (cs gs : List Int) (k : Int), H d = some (.dK (mK c g k)) ∧ H c = some (.lst (cs.map V.int)) ∧ cs.length = 64 ∧ H g = some (.lst (gs.map V.int)) ∧ c ≠ g ∧ 0 ≤ k ∧ k + b ≤ 2 ^ 50
theorem MI.mono {H H' : Hp} {d c g : Addr} {b b' : Nat} (m : MI H d c g b) (e : Ex H H') (h : b' ≤ b) : MI H' d c g b' := by
  obtain ⟨cs, gs, k, h1, h2, h3, h4, h5, h6, h7⟩ := m.ex
  exact ⟨cs, gs, k, e _ _ h1, e _ _ h2, h3, e _ _ h4, h5, h6, by omega⟩
theorem MI.ne {H : Hp} {d c g : Addr} {b : Nat} (m : MI H d c g b) {p : Addr} (h : H p = none) : p ≠ d ∧ p ≠ g ∧ p ≠ c := by
  obtain ⟨cs, gs, k, h1, h2, h3, h4, h5, h6, h7⟩ := m.ex
  refine ⟨fun e => ?_, fun e => ?_, fun e => ?_⟩
  · rw [e, h1] at h; cases h
  · rw [e, h4] at h; cases h
  · rw [e, h2] at h; cases h
/-- a change elsewhere -/
theorem MI.mut {H H' : Hp} {d c g p : Addr} {b : Nat} (m : MI H d c g b) (h : ∀ a u, a ≠ p → H a = some u → H' a = some u) (n : p ≠ d ∧ p ≠ g ∧ p ≠ c) : MI H' d c g b := by
  obtain ⟨cs, gs, k, h1, h2, h3, h4, h5, h6, h7⟩ := m.ex
  exact ⟨cs, gs, k, h _ _ (Ne.symm n.1) h1, h _ _ (Ne.symm n.2.2) h2, h3, h _ _ (Ne.symm n.2.1) h4, h5, h6, h7⟩
theorem hid_mut {d g p : Addr} {H H1 H2 : Hp} (e : Ex (hid d g H) (hid d g H1)) (n : hid d g H p = none) (m : ∀ a u, a ≠ p → H1 a = some u → H2 a = some u) : Ex (hid d g H) (hid d g H2) :=
  exm e n fun a u ha h => by
    obtain ⟨h1, h2⟩ := hid_some h
    rw [hid_eq h1 h2] at h ⊢
    exact m a u ha h
theorem hid_at {d g p : Addr} {H : Hp} {u : HO} (h : H p = some u) (n : p ≠ d ∧ p ≠ g) : hid d g H p = some u := by rw [hid_eq n.1 n.2]; exact h
theorem mK_spot {c g : Addr} {k k' : Int} : putK (mK c g k) (.inr "spot") (.int k') = mK c g k' := by
  unfold mK putK
  have h1 : ¬ (Sum.inr "cells" : Key) = .inr "spot" := by decide
  have h2 : ¬ (Sum.inr "great" : Key) = .inr "spot" := by decide
  simp [h1, h2]
theorem mK_merge {c g : Addr} {k : Int} : mergeK [] (mK c g k) = mK c g k := by
  have h1 : ¬ (Sum.inr "cells" : Key) = .inr "spot" := by decide
  have h2 : ¬ (Sum.inr "great" : Key) = .inr "spot" := by decide
  have h3 : ¬ (Sum.inr "cells" : Key) = .inr "great" := by decide
  have e1 : putK ([] : List (Key × V)) (.inr "cells") (.ref c) = [(.inr "cells", .ref c)] := rfl
  have e2 : putK [((.inr "cells" : Key), V.ref c)] (.inr "great") (.ref g) = [(.inr "cells", .ref c), (.inr "great", .ref g)] := by unfold putK; simp [h3]
  have e3 : putK [((.inr "cells" : Key), V.ref c), (.inr "great", .ref g)] (.inr "spot") (.int k) = [(.inr "cells", .ref c), (.inr "great", .ref g), (.inr "spot", .int k)] := by unfold putK; simp [h1, h2]
  show putK (putK (putK ([] : List (Key × V)) (Sum.inr "cells" : Key) (.ref c)) (Sum.inr "great" : Key) (.ref g)) (Sum.inr "spot" : Key) (.int k) = _
  rw [e1, e2, e3] <;> rfl
theorem mK_great {c g g' : Addr} {k : Int} : putK (mK c g k) (.inr "great") (.ref g') = mK c g' k := by
  have h2 : ¬ (Sum.inr "spot" : Key) = .inr "great" := by decide
  have h3 : ¬ (Sum.inr "cells" : Key) = .inr "great" := by decide
  unfold mK putK
  simp [h2, h3]
theorem mK_at (c g : Addr) (k : Int) : valV (mK c g k) (.inr "spot") = some (.int k) ∧ valV (mK c g k) (.inr "great") = some (.ref g) ∧ valV (mK c g k) (.inr "cells") = some (.ref c) := by
  have h1 : ¬ (Sum.inr "cells" : Key) = .inr "spot" := by decide
  have h2 : ¬ (Sum.inr "great" : Key) = .inr "spot" := by decide
  have h3 : ¬ (Sum.inr "cells" : Key) = .inr "great" := by decide
  unfold mK
  exact ⟨by rw [valV_neg h1, valV_neg h2, valV_pos rfl], by rw [valV_neg h3, valV_pos rfl], valV_pos rfl⟩
theorem dg_spot {H : Hp} {d c g : Addr} {k : Int} (h : H d = some (.dK (mK c g k))) : DGet H d (.str "spot") (some (.int k)) := by
  have z := DGet.k (k := (Sum.inr "spot" : Key)) h
  rw [(mK_at c g k).1] at z
  exact z
theorem dg_great {H : Hp} {d c g : Addr} {k : Int} (h : H d = some (.dK (mK c g k))) : DGet H d (.str "great") (some (.ref g)) := by
  have z := DGet.k (k := (Sum.inr "great" : Key)) h
  rw [(mK_at c g k).2.1] at z
  exact z
theorem dg_cells {H : Hp} {d c g : Addr} {k : Int} (h : H d = some (.dK (mK c g k))) : DGet H d (.str "cells") (some (.ref c)) := by
  have z := DGet.k (k := (Sum.inr "cells" : Key)) h
  rw [(mK_at c g k).2.2] at z
  exact z
/-- a change to the store's own two objects is not seen -/
theorem hid_same {d g p : Addr} {H H' : Hp} (h : ∀ a u, a ≠ p → H a = some u → H' a = some u) (hp : p = d ∨ p = g) : Ex (hid d g H) (hid d g H') := fun a u q => by
  obtain ⟨h1, h2⟩ := hid_some q
  rw [hid_eq h1 h2] at q ⊢
  refine h a u ?_ q
  rcases hp with rfl | rfl
  · exact h1
  · exact h2
section
variable {P : Program} {w : World} {K : PySem.W.Frag} {mg : Str → Option Value} {base : Heap} {f : Addr} {fd : FuncData} {C : Addr}
def spMixed : Sp := fun vs H Q _ => ∃ c n : Int, vs = [.int c, .int n] ∧ 0 ≤ n ∧ n ≤ 2 ^ 51 ∧ ∀ r : Int, Q (.int r) H
abbrev N_law_mixed : List PySem.Str := ["_law_cell", "_law_n", "_law_turned"]
theorem sc_law_mixed : FnScope N_law_mixed ["_law_cell", "_law_n"] (defScope st_law_mixed) := ⟨rfl, rfl, rfl, by decide +kernel, rfl, by decide +kernel, by decide +kernel⟩
theorem sg_law_mixed (v0 v1 : V) : L2.start N_law_mixed [v0, v1] = [some v0, some v1, none] := rfl
theorem bi_law_mixed {K : PySem.W.Frag} {f : Addr} {fd : FuncData} (F : FnP K "_law_mixed" st_law_mixed f fd) : Binds K fd ["_law_cell", "_law_n"] [] := F.bindsN fun _ _ _ _ _ _ us hl => match us, hl with | [_, _], _ => rfl

-- 0:_law_cell 1:_law_n 2:_law_turned
theorem ok_mixed (F : FnP K "_law_mixed" st_law_mixed f fd) (fr : Free mg) : FnOk P w K mg base CX0 1 f fd ["_law_cell", "_law_n"] spMixed := by
  refine F.ok sc_law_mixed (fun vs H Q E h => ?_) (fun cdv A outer s H vs Q E hr h => ?_)
  · obtain ⟨c, n, rfl, _⟩ := h
    rfl
  · obtain ⟨c, n, rfl, n0, n1, k⟩ := h
    refine ⟨_, PSs.nox (pss_cons (ps_set (i := 2) sc_law_mixed.nd rfl (Or.inl rfl) (pe_op op_add (pe_op op_add (pe_op op_mod (pe_op op_mul (pe_op op_mul (pv 0) (pe_op op_add pe_int (pe_op op_mul pe_int (pv 1)))) pe_int) pe_int) (pe_op op_mul (pe_op op_mul pe_int (pv 1)) (pv 1))) (pe_op op_mul pe_int (pv 1))))
    (pss_one (ps_ret (pe_op op_fdiv (pe_op op_mod (pe_op op_mul (pv 2) pe_int) pe_int) pe_int)))), ?_⟩
    rw [sg_law_mixed]
    tm_at "r"
    refine r_I (Or.inl ⟨by decide, by decide⟩) ?_
    tm_at "r"
    refine r_I (Or.inr ⟨by omega, by omega⟩) ?_
    tm_at "r"
    refine r_I (Or.inr ⟨by decide, by decide⟩) ?_
    tm_at "r"
    refine r_I (by decide) ?_
    tm_at "r"
    refine r_I (Or.inl ⟨by decide, by decide⟩) ?_
    tm_at "r"
    refine r_I (Or.inr ⟨by omega, by omega⟩) ?_
    tm_at "r"
    refine r_I (Or.inl ⟨by decide, by decide⟩) ?_
    tm_at "r"
    refine r_I (Or.inr ⟨by decide, by decide⟩) ?_
    tm_at "r"
    refine r_I (by decide) ?_
    tm_at "r"
    refine r_I ⟨by decide, by decide⟩ ?_
    tm_at "r"
    exact k _
def spDraw : Sp := fun vs H Q _ => ∃ (d c g : Addr) (b : Nat) (top : Int), vs = [.ref d, .int top] ∧ MI H d c g (b + 1) ∧ 1 ≤ top ∧ top ≤ 1000000 ∧ ∀ r H', 0 ≤ r → r < top → MI H' d c g b → Ex (hid d g H) (hid d g H') → Q (.int r) H'
abbrev N_law_draw : List PySem.Str := ["_law_m", "_law_top", "_law_n", "_law_at", "_law_cell"]
theorem sc_law_draw : FnScope N_law_draw ["_law_m", "_law_top"] (defScope st_law_draw) := ⟨rfl, rfl, rfl, by decide +kernel, rfl, by decide +kernel, by decide +kernel⟩
theorem sg_law_draw (v0 v1 : V) : L2.start N_law_draw [v0, v1] = [some v0, some v1, none, none, none] := rfl
theorem bi_law_draw {K : PySem.W.Frag} {f : Addr} {fd : FuncData} (F : FnP K "_law_draw" st_law_draw f fd) : Binds K fd ["_law_m", "_law_top"] [] := F.bindsN fun _ _ _ _ _ _ us hl => match us, hl with | [_, _], _ => rfl

-- 0:_law_m 1:_law_top 2:_law_n 3:_law_at 4:_law_cell
theorem ok_draw (F : FnP K "_law_draw" st_law_draw f fd) (fr : Free mg) (D_law_mixed : Def P w K mg base CX0 1 "_law_mixed" ["_law_cell", "_law_n"] spMixed) : FnOk P w K mg base CX0 2 f fd ["_law_m", "_law_top"] spDraw := by
  refine F.ok sc_law_draw (fun vs H Q E h => ?_) (fun cdv A outer s H vs Q E hr h => ?_)
  · obtain ⟨d, c, g, b, top, rfl, _⟩ := h
    rfl
  · obtain ⟨d, c, g, b, top, rfl, m, t1, t2, k⟩ := h
    obtain ⟨cs, gs, n, h1, h2, h3, h4, h5, h6, h7⟩ := m.ex
    have hu := hu_of hr
    have hu64 := hr.units
    refine ⟨_, PSs.nox (pss_cons (ps_set (i := 2) sc_law_draw.nd rfl (Or.inl rfl) (pe_dget hu (pv 0) pe_str (fun _ _ => rfl)))
    (pss_cons (ps_dput hu (pv 0) pe_str (pe_op op_add (pv 2) pe_int) rfl)
    (Evl.pss_cut (ps_if (pt_cmpR (ned (K := K) rfl hu64) (pe_dget hu (pv 0) pe_str (fun _ _ => rfl)) (pe_lst pa_nil) (nomark _)) (pss_cons (ps_set (i := 3) sc_law_draw.nd rfl (Or.inl rfl) (pe_op op_mod (pv 2) (pe_callB (lenq (K := K) rfl) (by rfl) fr.len (by decide +kernel) (pa_cons (pe_dget hu (pv 0) pe_str (fun _ _ => rfl)) pa_nil))))
      (pss_cons (ps_set (i := 4) sc_law_draw.nd rfl (Or.inl rfl) (pe_ix (ixl (K := K) rfl) (pe_dget hu (pv 0) pe_str (fun _ _ => rfl)) (pv 3) (fun _ _ => rfl)))
      (pss_one (ps_if (pt_cmpR op_gt (pv 4) pe_int (nomark _)) (pss_cons (ps_asg (pe_op op_fdiv (pv 4) (pv 1)) (pg_sub (pe_dget hu (pv 0) pe_str (fun _ _ => rfl)) (pv 3) set_list))
        (pss_one (ps_ret (pe_op op_mod (pv 4) (pv 1))))) pss_nil)))) pss_nil)
    (pss_one (ps_ret (pe_op op_mod (pe_def D_law_mixed (hr.mono (by decide)) (pa_cons (pe_def D_law_mixed (hr.mono (by decide)) (pa_cons (pe_op op_add (pe_ix (ixl (K := K) rfl) (pe_dget hu (pv 0) pe_str (fun _ _ => rfl)) (pe_op op_mod (pv 2) pe_int) (fun _ _ => rfl)) (pe_op op_mul pe_int (pe_op op_fdiv (pv 2) pe_int))) (pa_cons (pv 2) pa_nil))) (pa_cons (pe_op op_add (pv 2) pe_int) pa_nil))) (pv 1))))))), ?_⟩
    rw [sg_law_draw]
    tm_at "r"
    refine ⟨d, _, rfl, dg_spot h1, ?_⟩
    tm_at "r"
    refine ⟨d, _, rfl, DPut.k (k := (Sum.inr "spot" : Key)) h1 (sz_lt (by show 3 < 100000; decide)), ?_⟩
    rw [mK_spot]
    generalize hu1 : upd H d _ = H1
    obtain ⟨m1, g1⟩ := mut_of hu1
    have dc : c ≠ d := fun e => by rw [e, h1] at h2; cases h2
    have dg : g ≠ d := fun e => by rw [e, h1] at h4; cases h4
    have c1 : H1 c = some (.lst (cs.map V.int)) := m1 _ _ dc h2
    have g2 : H1 g = some (.lst (gs.map V.int)) := m1 _ _ dg h4
    have x1 : Ex (hid d g H) (hid d g H1) := hid_same m1 (.inl rfl)
    tm_at "r"
    refine r_cut (fun σ' H2 => Ex H1 H2 ∧ ∃ v3 v4, σ' = [some (.ref d), some (.int top), some (.int n), v3, v4]) ?_ ?_
    · tm_at "r"
      refine ⟨d, _, rfl, dg_great g1, ?_⟩
      tm_at "r"
      w_call pe n2 H2 e2 p2 u2 z2
      refine ⟨dLI gs, .list [], dp_li (SqL.of (e2 _ _ g2)), .lst (SqL.of p2) .nil, sh_li _, sh_nilL, ?_⟩
      tm_at "r"
      rw [eqv_li_nil]
      refine r_ite (fun hb => ?_) (fun hb => ?_)
      · have hne : gs ≠ [] := by simpa using hb
        have hgl : 0 < gs.length := List.length_pos_iff.mpr hne
        tm_at "r"
        refine ⟨d, _, rfl, dg_great (e2 _ _ g1), ?_⟩
        tm_at "r"
        refine r_lenL (SqL.of (e2 _ _ g2)) ?_
        rw [List.length_map]
        refine r_I (by omega) ?_
        have q0 : 0 ≤ n % (gs.length : Int) := Int.emod_nonneg _ (by omega)
        have q1 : n % (gs.length : Int) < gs.length := Int.emod_lt_of_pos _ (by omega)
        tm_at "r"
        refine ⟨d, _, rfl, dg_great (e2 _ _ g1), ?_⟩
        tm_at "r"
        refine r_ixLI (SqL.of (e2 _ _ g2)) q0 q1 ?_
        tm_at "r"
        refine r_ite (fun hc => ?_) (fun hc => ?_)
        · tm_at "r"
          refine r_I ⟨by omega, by omega⟩ ?_
          tm_at "r"
          refine ⟨d, _, rfl, dg_great (e2 _ _ g1), ?_⟩
          tm_at "r"
          refine r_setLI (e2 _ _ g2) q0 q1 ?_
          generalize hu3 : upd H2 g _ = H3
          obtain ⟨m3, p3⟩ := mut_of hu3
          tm_at "r"
          refine r_I (by omega) ?_
          exact k _ H3 (Int.emod_nonneg _ (by omega)) (Int.emod_lt_of_pos _ (by omega)) ⟨cs, _, n + 1, m3 _ _ (Ne.symm dg) (e2 _ _ g1), m3 _ _ h5 (e2 _ _ c1), h3, p3, h5, by omega, by omega⟩ ((x1.trans (hid_mono e2)).trans (hid_same m3 (.inr rfl)))
        · tm_at "r"
          exact ⟨e2, _, _, rfl⟩
      · tm_at "r"
        exact ⟨e2, _, _, rfl⟩
    · rintro σ' H2 ⟨e2, v3, v4, rfl⟩
      have d64 : 0 ≤ n % 64 ∧ n % 64 < 64 := ⟨Int.emod_nonneg _ (by decide), Int.emod_lt_of_pos _ (by decide)⟩
      tm_at "r"
      refine ⟨d, _, rfl, dg_cells (e2 _ _ g1), ?_⟩
      tm_at "r"
      refine r_I (by decide) ?_
      refine r_ixLI (SqL.of (e2 _ _ c1)) d64.1 (by omega) ?_
      tm_at "r"
      refine r_I ⟨by decide, by decide⟩ ?_
      refine r_I (Or.inl ⟨by decide, by decide⟩) ?_
      tm_at "r"
      refine ⟨_, n, rfl, h6, by omega, fun r1 => ?_⟩
      tm_at "r"
      refine ⟨r1, n + 7, rfl, by omega, by omega, fun r2 => ?_⟩
      tm_at "r"
      refine r_I (by omega) ?_
      exact k _ H2 (Int.emod_nonneg _ (by omega)) (Int.emod_lt_of_pos _ (by omega)) ⟨cs, gs, n + 1, e2 _ _ g1, e2 _ _ c1, h3, e2 _ _ g2, h5, by omega, by omega⟩ (x1.trans (hid_mono e2))
end
end SW
end

section
set_option Elab.async false
set_option linter.all false
set_option maxRecDepth 100000
set_option maxHeartbeats 4000000
namespace SW
open PySem PySem.Spec PyProof.Rows L2 Evl
local macro_rules | `(tactic| tm_at "r1") => `(tactic| first
  | ((with_reducible refine' r_var ?hx ?_); (case hx => exact rfl))
  | with_reducible refine r_c ?_
  | with_reducible refine r_op ?_
  | with_reducible refine r_I0 ?_
  | with_reducible refine r_un ?_
  | with_reducible refine r_U ?_
  | with_reducible refine r_cons ?_
  | with_reducible refine r_nil ?_
  | with_reducible refine r_call ?_
  | with_reducible refine r_cb ?_
  | with_reducible refine r_test ?_
  | with_reducible refine r_blp ?_
  | with_reducible refine r_tYes ?_
  | with_reducible refine r_ifT ?_
  | with_reducible refine r_ifF ?_
  | ((with_reducible refine' r_aug ?hx ?_); (case hx => exact rfl))
  | with_reducible refine r_seq ?_
  | with_reducible refine r_asg ?_
  | with_reducible refine r_gname ?_
  | with_reducible refine r_ret ?_
  | with_reducible refine r_tup ?_
  | with_reducible refine r_lst ?_
  | with_reducible refine r_ifS ?_
  | with_reducible refine r_par ?_
  | with_reducible refine r_two ?_
  | with_reducible refine r_lc ?_
  | with_reducible refine r_rng1 ?_
  | with_reducible refine r_rng2 ?_
  | with_reducible refine r_iList ?_
  | with_reducible refine r_iTup ?_
  | with_reducible refine r_for ?_
  | with_reducible refine r_not ?_
  | with_reducible refine r_and ?_
  | with_reducible refine r_or ?_
  | with_reducible refine r_andV ?_
  | with_reducible refine r_orV ?_
  | with_reducible refine r_notV ?_
  | with_reducible refine r_if ?_
  | with_reducible refine r_chain ?_
  | with_reducible refine r_B ?_
  | with_reducible refine r_next ?_
  | with_reducible refine r_drop ?_
  | with_reducible refine r_retN ?_
  | with_reducible refine r_ipI ?_
  | ((with_reducible refine' r_sz ?hz ?_); (case hz => exact Nat.le_of_ble_eq_true rfl))
  | with_reducible refine r_gCons ?_
  | with_reducible refine r_gNil ?_
  | with_reducible refine r_par3 ?_
  | with_reducible refine r_three ?_
  | with_reducible refine r_listRg ?_
  | with_reducible refine r_tupRg ?_
  | with_reducible refine r_augS ?_
  | with_reducible refine r_lenSetT ?_
  | with_reducible refine r_lenSetL ?_
  | with_reducible refine r_ifNT ?_
  | with_reducible refine r_ifNF ?_
  | with_reducible refine r_eqI ?_
  | with_reducible refine r_neI ?_
  | with_reducible refine r_eqS ?_
  | with_reducible refine r_neS ?_
  | with_reducible refine r_bm ?_
  | with_reducible refine r_bt ?_
  | with_reducible refine r_iEnT ?_
  | with_reducible refine r_iEnL ?_
  | with_reducible refine r_dc ?_
  | with_reducible refine r_dget ?_
  | with_reducible refine r_dput ?_
  | with_reducible refine r_sl ?_
  | with_reducible refine r_noP ?_
  | with_reducible refine r_part ?_
  | with_reducible refine r_revL ?_
  | with_reducible refine r_gSub ?_)
local macro_rules | `(tactic| tm_at "r") => `(tactic| repeat tm_at "r1")
local macro_rules | `(tactic| w_call $p $n $H1 $e $h $u $z) => `(tactic| (intro $p:ident $n:ident; generalize $u:ident : upd _ $p:ident _ = $H1:ident; obtain ⟨$e, $h⟩ := new_of $n:ident $u:ident))
section
variable {P : Program} {w : World} {K : PySem.W.Frag} {mg : Str → Option Value} {base : Heap} {f : Addr} {fd : FuncData} {C : Addr}
def spFolded (K : PySem.W.Frag) : Sp := fun vs H Q _ => ∃ (a : Addr) (xs : List Int), vs = [.ref a] ∧ SqL K H a (xs.map V.int) ∧ xs.length ≤ 63 ∧ ∀ p H' (cs : List Int), Ex H H' → H' p = some (.lst (cs.map V.int)) → cs.length = 64 → Q (.ref p) H'
abbrev N_law_folded : List PySem.Str := ["_law_script", "_law_found", "_law_n", "_law_cell"]
theorem sc_law_folded : FnScope N_law_folded ["_law_script"] (defScope st_law_folded) := ⟨rfl, rfl, rfl, by decide +kernel, rfl, by decide +kernel, by decide +kernel⟩
theorem sg_law_folded (v0 : V) : L2.start N_law_folded [v0] = [some v0, none, none, none] := rfl
theorem bi_law_folded {K : PySem.W.Frag} {f : Addr} {fd : FuncData} (F : FnP K "_law_folded" st_law_folded f fd) : Binds K fd ["_law_script"] [] := F.bindsN fun _ _ _ _ _ _ us hl => match us, hl with | [_], _ => rfl

-- 0:_law_script 1:_law_found 2:_law_n 3:_law_cell
theorem ok_folded (F : FnP K "_law_folded" st_law_folded f fd) (fr : Free mg) : FnOk P w K mg base CX0 1 f fd ["_law_script"] (spFolded K) := by
  refine F.ok sc_law_folded (fun vs H Q E h => ?_) (fun cdv A outer s H vs Q E hr h => ?_)
  · obtain ⟨a, xs, rfl, _⟩ := h
    rfl
  · obtain ⟨a, xs, rfl, ha, hl, k⟩ := h
    refine ⟨_, PSs.nox (pss_cons (ps_setLc (i := 1) (own := [("_law_n", 2)]) rfl sc_law_folded.nd rfl rfl (sw_true rfl rfl rfl (by decide +kernel)) (pi_range1 (by rfl) fr.range (pa_cons pe_int pa_nil)) (blkOk_by (own := [("_law_n", 2)]) (N := N_law_folded) (sc := defScope st_law_folded) (by decide +kernel)) (fun _ _ _ _ _ => (pg_name (i := 2) sc_law_folded.nd rfl (Or.inl rfl))) (fun _ _ _ _ _ => pts_nil) (fun _ _ _ _ _ => (pe_op op_add pe_int (pv 2))))
    (pss_cons (ps_for PassesOwn.never rfl (pienL (K := K) rfl (by rfl) fr.enumerate (pa_cons (pv 0) pa_nil)) (pgt (n := 2) (K := K) rfl rfl (pgs_cons (pg_name (i := 2) sc_law_folded.nd rfl (Or.inl rfl)) (pgs_cons (pg_name (i := 3) sc_law_folded.nd rfl (Or.inl rfl)) pgs_nil)))
    (pss_one (ps_asg (pe_op op_mod (pe_op op_add (pe_op op_mul (pe_ix (ixl (K := K) rfl) (pv 1) (pe_op op_mod (pv 2) pe_int) (fun _ _ => rfl)) pe_int) (pv 3)) pe_int) (pg_sub (pv 1) (pe_op op_mod (pv 2) pe_int) set_list))))
    (pss_cons (ps_for PassesOwn.never rfl (pi_range2 (by rfl) fr.range (pa_cons pe_int (pa_cons pe_int pa_nil))) (pg_name (i := 2) sc_law_folded.nd rfl (Or.inl rfl))
    (pss_one (ps_asg (pe_op op_mod (pe_op op_add (pe_ix (ixl (K := K) rfl) (pv 1) (pv 2) (fun _ _ => rfl)) (pe_op op_mul (pe_ix (ixl (K := K) rfl) (pv 1) (pe_op op_sub (pv 2) pe_int) (fun _ _ => rfl)) pe_int)) pe_int) (pg_sub (pv 1) (pv 2) set_list))))
    (pss_one (ps_ret (pv 1)))))), ?_⟩
    rw [sg_law_folded]
    tm_at "r"
    refine ⟨_, rfl, by decide, by decide, ?_⟩
    refine lc_vals walk0 (fun _ => true) (fun i => .int (17 + (i : Int))) (fun _ _ => trivial) (by decide) ?_ ?_
    · rintro D i v H' H'' acc KN KY hi e2 ⟨rfl, rfl⟩ hD hy _ h2
      refine ⟨rfl, ?_⟩
      tm_at "r"
      exact h2 rfl _ (Ex.refl _)
    · intro D H1 nD e1 h1
      have hD1 : ∃ cs : List Int, H1 D = some (.lst (cs.map V.int)) ∧ cs.length = 64 := ⟨(List.range 64).map fun (i : Nat) => 17 + (i : Int), by rw [h1, filter_yes, List.map_map] <;> rfl, by rw [List.length_map, List.length_range]⟩
      obtain ⟨cs, hcs, lcs⟩ := hD1
      tm_at "r"
      refine ⟨_, _, rfl, ex_l e1 ha, ?_⟩
      have dDa : ∀ {H' : Hp}, Ex H H' → SqL K H' a (xs.map V.int) := fun e => ex_l e ha
      refine for_run (walkELI (ns := xs)) (fun i σ H' => (∃ v2 v3, σ = [some (.ref a), some (.ref D), v2, v3]) ∧ Ex H H' ∧ ∃ cs : List Int, H' D = some (.lst (cs.map V.int)) ∧ cs.length = 64) ⟨⟨_, _, rfl⟩, e1, cs, hcs, lcs⟩ (fun i σ H' _ q => dDa q.2.1) ?_ ?_
      · rintro i x σ H2 H3 hi ⟨⟨v2, v3, rfl⟩, e2, cs, hcs, lcs⟩ ⟨T, rfl, nT, rfl⟩
        generalize huT : upd H2 T _ = HT
        obtain ⟨eT, hT⟩ := new_of nT huT
        have d0 : 0 ≤ (i : Int) % 64 ∧ (i : Int) % 64 < 64 := ⟨Int.emod_nonneg _ (by decide), Int.emod_lt_of_pos _ (by decide)⟩
        refine r_gTup (SqT.of hT) rfl ?_
        tm_at "r"
        refine r_I (by decide) ?_
        refine r_ixLI (SqL.of (eT _ _ hcs)) d0.1 (by omega) ?_
        tm_at "r"
        refine r_I (Or.inr ⟨by decide, by decide⟩) ?_
        tm_at "r"
        refine r_I (by decide) ?_
        tm_at "r"
        refine r_I (by decide) ?_
        refine r_setLI (eT _ _ hcs) d0.1 (by omega) ?_
        generalize hu4 : upd HT D _ = H4
        obtain ⟨m4, h4⟩ := mut_of hu4
        tm_at "r"
        exact ⟨⟨_, _, rfl⟩, exm (e2.trans eT) nD m4, _, h4, by rw [setI_len]; exact lcs⟩
      · rintro σ H2 ⟨⟨v2, v3, rfl⟩, e2, cs, hcs, lcs⟩
        tm_at "r"
        refine ⟨_, _, rfl, ⟨by decide, by decide, by decide, by decide⟩, ?_⟩
        refine for_run walk_range (fun i σ H' => (∃ v2 v3, σ = [some (.ref a), some (.ref D), v2, v3]) ∧ Ex H H' ∧ ∃ cs : List Int, H' D = some (.lst (cs.map V.int)) ∧ cs.length = 64) ⟨⟨_, _, rfl⟩, e2, cs, hcs, lcs⟩ (fun _ _ _ _ _ => trivial) ?_ ?_
        · rintro i x σ H3 H4 hi ⟨⟨v2, v3, rfl⟩, e3, cs, hcs, lcs⟩ ⟨rfl, rfl⟩
          have hi63 : i < 63 := hi
          tm_at "r"
          refine r_ixLI (SqL.of hcs) (by omega) (by omega) ?_
          tm_at "r"
          refine r_ixLI (SqL.of hcs) (by omega) (by omega) ?_
          tm_at "r"
          refine r_I (Or.inr ⟨by decide, by decide⟩) ?_
          tm_at "r"
          refine r_I (by decide) ?_
          tm_at "r"
          refine r_setLI hcs (by omega) (by omega) ?_
          generalize hu5 : upd H4 D _ = H5
          obtain ⟨m5, h5⟩ := mut_of hu5
          tm_at "r"
          exact ⟨⟨_, _, rfl⟩, exm e3 nD m5, _, h5, by rw [setI_len]; exact lcs⟩
        · rintro σ H3 ⟨⟨v2, v3, rfl⟩, e3, cs, hcs, lcs⟩
          tm_at "r"
          exact k D H3 cs e3 hcs lcs
def spBegun (K : PySem.W.Frag) : Sp := fun vs H Q _ => ∃ (a : Addr) (xs : List Int), vs = [.ref a] ∧ SqL K H a (xs.map V.int) ∧ xs.length ≤ 63 ∧ ∀ d c g H', Ex H H' → H d = none → H g = none → MI H' d c g (2 ^ 40) → Q (.ref d) H'
abbrev N_law_begun : List PySem.Str := ["_law_script", "_law_m", "_law_cell"]
theorem sc_law_begun : FnScope N_law_begun ["_law_script"] (defScope st_law_begun) := ⟨rfl, rfl, rfl, by decide +kernel, rfl, by decide +kernel, by decide +kernel⟩
theorem sg_law_begun (v0 : V) : L2.start N_law_begun [v0] = [some v0, none, none] := rfl
theorem bi_law_begun {K : PySem.W.Frag} {f : Addr} {fd : FuncData} (F : FnP K "_law_begun" st_law_begun f fd) : Binds K fd ["_law_script"] [] := F.bindsN fun _ _ _ _ _ _ us hl => match us, hl with | [_], _ => rfl

-- 0:_law_script 1:_law_m 2:_law_cell
theorem ok_begun (F : FnP K "_law_begun" st_law_begun f fd) (fr : Free mg) (D_law_folded : Def P w K mg base CX0 1 "_law_folded" ["_law_script"] (spFolded K)) : FnOk P w K mg base CX0 2 f fd ["_law_script"] (spBegun K) := by
  refine F.ok sc_law_begun (fun vs H Q E h => ?_) (fun cdv A outer s H vs Q E hr h => ?_)
  · obtain ⟨a, xs, rfl, _⟩ := h
    rfl
  · obtain ⟨a, xs, rfl, ha, hl, k⟩ := h
    have hu := hu_of hr
    refine ⟨_, PSs.nox (pss_cons (ps_set (i := 1) sc_law_begun.nd rfl (Or.inl rfl) (pe_disp (pps_cons pe_str (pe_def D_law_folded (hr.mono (by decide)) (pa_cons (pv 0) pa_nil)) (pps_cons pe_str (pe_lst pa_nil) (pps_cons pe_str pe_int pps_nil))) (by rfl) (by rfl) (fun z => by cases z) (by decide)))
    (pss_cons (ps_dput hu (pv 1) pe_str (pe_lc (own := [("_law_cell", 2)]) rfl sc_law_begun.nd (pil (K := K) rfl (pv 0)) (blkOk_by (own := [("_law_cell", 2)]) (N := N_law_begun) (sc := defScope st_law_begun) (by decide +kernel)) (fun _ _ _ _ _ => (pg_name (i := 2) sc_law_begun.nd rfl (Or.inl rfl))) (fun _ _ _ _ _ => pts_nil) (fun _ _ _ _ _ => (pe_ifExp (pt_cmpR op_ge (pv 2) (pe_op op_pow pe_int pe_int) (nomark _)) (pv 2) pe_int))) rfl)
    (pss_one (ps_ret (pv 1))))), ?_⟩
    rw [sg_law_begun]
    tm_at "r"
    intro pd nd
    generalize hu0 : upd H pd _ = H0
    obtain ⟨e0, h0⟩ := new_of nd hu0
    simp only [tPairs]
    tm_at "r"
    refine ⟨a, xs, rfl, ex_l e0 ha, hl, fun pc H1 cs e1 hc lc => ?_⟩
    tm_at "r"
    w_call pg n2 H2 e2 h2 u2 z2
    tm_at "r"
    refine ⟨e2 _ _ (e1 _ _ h0), mK pc pg 0, rfl, by show 3 ≤ 15; decide, ?_⟩
    rw [mK_merge]
    generalize hu3 : upd H2 pd _ = H3
    obtain ⟨m3, h3⟩ := mut_of hu3
    have e03 : Ex H H3 := exm ((e0.trans e1).trans e2) nd m3
    have dcd : pc ≠ pd := fun e => by have z := e1 _ _ h0; rw [← e, hc] at z; cases z
    tm_at "r"
    refine ⟨_, rfl, ⟨_, ex_l e03 ha⟩, ?_⟩
    refine lc_vals (walkLI (ns := xs)) (fun _ => true) (fun i => .int (if 10 ^ 18 ≤ xs.getD i 0 then xs.getD i 0 else 0)) (fun _ e => ex_l (e03.trans e) ha) (by omega) ?_ ?_
    · rintro D i v H' H'' acc KN KY hi e4 ⟨rfl, rfl⟩ hD hy _ hk
      refine ⟨rfl, ?_⟩
      tm_at "r"
      refine r_I ⟨by decide, by decide, by decide⟩ ?_
      tm_at "r"
      refine r_ite (fun hb => ?_) (fun hb => ?_)
      · tm_at "r"
        have hb : (10 : Int) ^ 18 ≤ xs.getD i 0 := of_decide_eq_true hb
        have z := hk rfl _ (Ex.refl _)
        rw [if_pos hb] at z
        exact z
      · tm_at "r"
        have hb : ¬ (10 : Int) ^ 18 ≤ xs.getD i 0 := of_decide_eq_false hb
        have z := hk rfl _ (Ex.refl _)
        rw [if_neg hb] at z
        exact z
    · intro D H4 nD e4 h4
      have hD : H4 D = some (.lst (((List.range xs.length).map fun i => if 10 ^ 18 ≤ xs.getD i 0 then xs.getD i 0 else 0).map V.int)) := by
        rw [h4, filter_yes, List.map_map] <;> rfl
      tm_at "r"
      refine ⟨pd, _, rfl, DPut.k (k := (Sum.inr "great" : Key)) (e4 _ _ h3) (sz_lt (by show 3 < 100000; decide)), ?_⟩
      rw [mK_great]
      generalize hu5 : upd H4 pd _ = H5
      obtain ⟨m5, h5⟩ := mut_of hu5
      have nDd : D ≠ pd := fun e => by rw [e, h3] at nD; cases nD
      have c3 : H3 pc = some (.lst (cs.map V.int)) := m3 _ _ dcd (e2 _ _ hc)
      have dcD : pc ≠ D := fun e => by rw [← e, c3] at nD; cases nD
      tm_at "r"
      exact k pd pc D H5 (exm (e03.trans e4) nd m5) nd (none_of_ex e03 nD) ⟨cs, _, 0, h5, m5 _ _ dcd (e4 _ _ c3), lc, m5 _ _ nDd hD, dcD, by decide, by decide⟩
theorem erase_map {α β : Type} (f : α → β) : ∀ (l : List α) (i : Nat), (l.map f).eraseIdx i = (l.eraseIdx i).map f
  | [], _ => rfl
  | a :: l, 0 => rfl
  | a :: l, i + 1 => congrArg (f a :: ·) (erase_map f l i)
theorem erase_perm {α : Type} : ∀ (l : List α) (i : Nat) (h : i < l.length), (l[i] :: l.eraseIdx i).Perm l
  | [], i, h => absurd h (Nat.not_lt_zero _)
  | a :: l, 0, h => List.Perm.refl _
  | a :: l, i + 1, h => (List.Perm.swap a _ _).trans ((erase_perm l i (Nat.lt_of_succ_lt_succ h)).cons a)
def spMixUp (K : PySem.W.Frag) : Sp := fun vs H Q _ => ∃ (d c g a : Addr) (b : Nat) (xs : List Int), vs = [.ref d, .ref a] ∧ MI H d c g (b + xs.length) ∧ SqL K (hid d g H) a (xs.map V.int) ∧ xs.length ≤ 64 ∧
  ∀ p H' (ys : List Int), ys.Perm xs → MI H' d c g b → Ex (hid d g H) (hid d g H') → hid d g H p = none → hid d g H' p = some (.lst (ys.map V.int)) → Q (.ref p) H'
abbrev N_law_mixed_up : List PySem.Str := ["_law_m", "_law_things", "_law_stock", "_law_found", "_law_n"]
theorem sc_law_mixed_up : FnScope N_law_mixed_up ["_law_m", "_law_things"] (defScope st_law_mixed_up) := ⟨rfl, rfl, rfl, by decide +kernel, rfl, by decide +kernel, by decide +kernel⟩
theorem sg_law_mixed_up (v0 v1 : V) : L2.start N_law_mixed_up [v0, v1] = [some v0, some v1, none, none, none] := rfl
theorem bi_law_mixed_up {K : PySem.W.Frag} {f : Addr} {fd : FuncData} (F : FnP K "_law_mixed_up" st_law_mixed_up f fd) : Binds K fd ["_law_m", "_law_things"] [] := F.bindsN fun _ _ _ _ _ _ us hl => match us, hl with | [_, _], _ => rfl

-- 0:_law_m 1:_law_things 2:_law_stock 3:_law_found 4:_law_n
theorem ok_mixed_up (F : FnP K "_law_mixed_up" st_law_mixed_up f fd) (fr : Free mg) (D_law_draw : Def P w K mg base CX0 2 "_law_draw" ["_law_m", "_law_top"] spDraw) : FnOk P w K mg base CX0 3 f fd ["_law_m", "_law_things"] (spMixUp K) := by
  refine F.ok sc_law_mixed_up (fun vs H Q E h => ?_) (fun cdv A outer s H vs Q E hr h => ?_)
  · obtain ⟨d, c, g, a, b, xs, rfl, _⟩ := h
    rfl
  · obtain ⟨d, c, g, a, b, xs, rfl, m, ha, hl, k⟩ := h
    refine ⟨_, PSs.nox (pss_cons (ps_par (i := 2) (j := 3) rfl sc_law_mixed_up.nd rfl rfl (by decide) rfl rfl (pa_cons (pe_callTy (lstq (K := K) rfl) (by rfl) fr.list (by decide +kernel) (pa_cons (pv 1) pa_nil)) (pa_cons (pe_lst pa_nil) pa_nil)) (by rfl))
    (pss_cons (ps_for PassesOwn.never rfl (pi_range1 (by rfl) fr.range (pa_cons (pe_callB (lenq (K := K) rfl) (by rfl) fr.len (by decide +kernel) (pa_cons (pv 2) pa_nil)) pa_nil)) (pg_name (i := 4) sc_law_mixed_up.nd rfl (Or.inl rfl))
    (pss_one (ps_expr (bmq (K := K) rfl PySem.F.plainAttrs_list PySem.F.slot_list_append PySem.F.type_list_append mt_append (pv 3) (pa_cons (bmq (K := K) rfl PySem.F.plainAttrs_list PySem.F.slot_list_pop PySem.F.type_list_pop mt_popAt (pv 2) (pa_cons (pe_def D_law_draw (hr.mono (by decide)) (pa_cons (pv 0) (pa_cons (pe_callB (lenq (K := K) rfl) (by rfl) fr.len (by decide +kernel) (pa_cons (pv 2) pa_nil)) pa_nil))) pa_nil)) pa_nil)))))
    (pss_one (ps_ret (pv 3))))), ?_⟩
    rw [sg_law_mixed_up]
    tm_at "r"
    have ha0 := ex_l hid_le ha
    refine r_lstOf (.inl ha0) fun ps H1 n1 e1 h1 => ?_
    tm_at "r"
    w_call pf n2 H2 e2 h2 u2 z2
    tm_at "r"
    have dsf : ps ≠ pf := ne_of_none h1 n2
    have ns := m.ne n1
    have nf0 : H pf = none := none_of_ex e1 n2
    have nf := m.ne nf0
    refine r_lenL (SqL.of (e2 _ _ h1)) ?_
    rw [List.length_map]
    tm_at "r"
    refine ⟨_, rfl, by omega, by omega, ?_⟩
    rw [show ((xs.length : Nat) : Int).toNat = xs.length from rfl]
    refine for_run walk0 (fun i σ H' => (∃ v4, σ = [some (.ref d), some (.ref a), some (.ref ps), some (.ref pf), v4]) ∧ Ex (hid d g H) (hid d g H') ∧ MI H' d c g (b + (xs.length - i)) ∧
      ∃ us ws : List Int, hid d g H' ps = some (.lst (us.map V.int)) ∧ hid d g H' pf = some (.lst (ws.map V.int)) ∧ (us ++ ws).Perm xs ∧ us.length = xs.length - i ∧ ws.length = i) ⟨⟨_, rfl⟩, hid_mono (e1.trans e2), m.mono (e1.trans e2) (Nat.le_refl _), xs, [], ?_, ?_, by rw [List.append_nil], rfl, rfl⟩ (fun _ _ _ _ _ => trivial) ?_ ?_
    · exact hid_at (e2 _ _ h1) ⟨ns.1, ns.2.1⟩
    · exact hid_at h2 ⟨nf.1, nf.2.1⟩
    · rintro i x σ H3 H4 hi ⟨⟨v4, rfl⟩, e3, m3, us, ws, hs, hf, pm, lu, lw⟩ ⟨rfl, rfl⟩
      have hf4 := hid_le _ _ hf
      have hs4 := hid_le _ _ hs
      tm_at "r"
      refine ⟨ty_l (SqL.of hf4), ?_⟩
      tm_at "r"
      refine ⟨ty_l (SqL.of hs4), ?_⟩
      tm_at "r"
      refine r_lenL (SqL.of hs4) ?_
      rw [List.length_map]
      tm_at "r"
      refine ⟨d, c, g, b + (xs.length - (i + 1)), _, rfl, ?_, by omega, by omega, fun r H5 r0 r1 m5 e5 => ?_⟩
      · rw [show b + (xs.length - (i + 1)) + 1 = b + (xs.length - i) by omega]
        exact m3
      have hs5 := hid_le _ _ (e5 _ _ hs)
      have hf5 := hid_le _ _ (e5 _ _ hf)
      tm_at "r"
      have hr2 : r.toNat < us.length := by omega
      refine ⟨ps, us.map V.int, r, r.toNat, .int us[r.toNat], rfl, rfl, hs5, by omega, by omega, ?_, by rw [List.getElem?_map, List.getElem?_eq_getElem hr2] <;> rfl, ?_⟩
      · rw [List.length_map]
        unfold seqIndex?
        simp
        omega
      rw [erase_map]
      generalize hu6 : upd H5 ps _ = H6
      obtain ⟨m6, h6⟩ := mut_of hu6
      tm_at "r"
      refine r_appI (m6 _ _ (Ne.symm dsf) hf5) (by omega) ?_
      generalize hu7 : upd H6 pf _ = H7
      obtain ⟨m7, h7⟩ := mut_of hu7
      tm_at "r"
      have m7' := (m5.mut m6 ns).mut m7 nf
      refine ⟨⟨_, rfl⟩, hid_mut (hid_mut (e3.trans e5) (hid_none n1) m6) (hid_none nf0) m7, m7', us.eraseIdx r.toNat, ws ++ [us[r.toNat]], hid_at (m7 _ _ dsf h6) ⟨ns.1, ns.2.1⟩, hid_at h7 ⟨nf.1, nf.2.1⟩, ?_, ?_, ?_⟩
      · refine List.Perm.trans ?_ pm
        have p1 : (us.eraseIdx r.toNat ++ (ws ++ [us[r.toNat]])).Perm (us[r.toNat] :: (us.eraseIdx r.toNat ++ ws)) := by
          rw [← List.append_assoc]
          exact List.perm_append_comm
        refine p1.trans ?_
        show ((us[r.toNat] :: us.eraseIdx r.toNat) ++ ws).Perm _
        exact (erase_perm us r.toNat hr2).append_right ws
      · rw [List.length_eraseIdx_of_lt hr2]
        omega
      · rw [List.length_append, lw]
        rfl
    · rintro σ H3 ⟨⟨v4, rfl⟩, e3, m3, us, ws, hs, hf, pm, lu, lw⟩
      tm_at "r"
      have hu0 : us = [] := List.length_eq_zero_iff.mp (by omega)
      rw [hu0] at pm
      exact k pf H3 ws pm (by rw [Nat.sub_self] at m3; exact m3) e3 (hid_none nf0) hf
end
end SW
end

section
set_option Elab.async false
set_option linter.all false
set_option maxRecDepth 100000
set_option maxHeartbeats 4000000
namespace SW
open PySem PySem.Spec PyProof.Rows L2 Evl
local macro_rules | `(tactic| tm_at "r1") => `(tactic| first
  | ((with_reducible refine' r_var ?hx ?_); (case hx => exact rfl))
  | with_reducible refine r_c ?_
  | with_reducible refine r_op ?_
  | with_reducible refine r_I0 ?_
  | with_reducible refine r_un ?_
  | with_reducible refine r_U ?_
  | with_reducible refine r_cons ?_
  | with_reducible refine r_nil ?_
  | with_reducible refine r_call ?_
  | with_reducible refine r_cb ?_
  | with_reducible refine r_test ?_
  | with_reducible refine r_blp ?_
  | with_reducible refine r_tYes ?_
  | with_reducible refine r_ifT ?_
  | with_reducible refine r_ifF ?_
  | ((with_reducible refine' r_aug ?hx ?_); (case hx => exact rfl))
  | with_reducible refine r_seq ?_
  | with_reducible refine r_asg ?_
  | with_reducible refine r_gname ?_
  | with_reducible refine r_ret ?_
  | with_reducible refine r_tup ?_
  | with_reducible refine r_lst ?_
  | with_reducible refine r_ifS ?_
  | with_reducible refine r_par ?_
  | with_reducible refine r_two ?_
  | with_reducible refine r_lc ?_
  | with_reducible refine r_rng1 ?_
  | with_reducible refine r_rng2 ?_
  | with_reducible refine r_iList ?_
  | with_reducible refine r_iTup ?_
  | with_reducible refine r_for ?_
  | with_reducible refine r_not ?_
  | with_reducible refine r_and ?_
  | with_reducible refine r_or ?_
  | with_reducible refine r_andV ?_
  | with_reducible refine r_orV ?_
  | with_reducible refine r_notV ?_
  | with_reducible refine r_if ?_
  | with_reducible refine r_chain ?_
  | with_reducible refine r_B ?_
  | with_reducible refine r_next ?_
  | with_reducible refine r_drop ?_
  | with_reducible refine r_retN ?_
  | with_reducible refine r_ipI ?_
  | ((with_reducible refine' r_sz ?hz ?_); (case hz => exact Nat.le_of_ble_eq_true rfl))
  | with_reducible refine r_gCons ?_
  | with_reducible refine r_gNil ?_
  | with_reducible refine r_par3 ?_
  | with_reducible refine r_three ?_
  | with_reducible refine r_listRg ?_
  | with_reducible refine r_tupRg ?_
  | with_reducible refine r_augS ?_
  | with_reducible refine r_lenSetT ?_
  | with_reducible refine r_lenSetL ?_
  | with_reducible refine r_ifNT ?_
  | with_reducible refine r_ifNF ?_
  | with_reducible refine r_eqI ?_
  | with_reducible refine r_neI ?_
  | with_reducible refine r_eqS ?_
  | with_reducible refine r_neS ?_
  | with_reducible refine r_bm ?_
  | with_reducible refine r_bt ?_
  | with_reducible refine r_iEnT ?_
  | with_reducible refine r_iEnL ?_
  | with_reducible refine r_dc ?_
  | with_reducible refine r_dget ?_
  | with_reducible refine r_dput ?_
  | with_reducible refine r_sl ?_
  | with_reducible refine r_noP ?_
  | with_reducible refine r_part ?_
  | with_reducible refine r_revL ?_
  | with_reducible refine r_gSub ?_)
local macro_rules | `(tactic| tm_at "r") => `(tactic| repeat tm_at "r1")
local macro_rules | `(tactic| w_call $p $n $H1 $e $h $u $z) => `(tactic| (intro $p:ident $n:ident; generalize $u:ident : upd _ $p:ident _ = $H1:ident; obtain ⟨$e, $h⟩ := new_of $n:ident $u:ident))
/-! lists of lists that grow -/
structure HeldAt (H : Hp) (ph : Addr) (qs : List Addr) (held : List (List Int)) : Prop where
  lst : H ph = some (.lst (qs.map V.ref))
  pr : Paired (fun (h : List Int) q => H q = some (.lst (h.map V.int))) held qs
  nd : qs.Nodup
theorem HeldAt.keep {H H' : Hp} {ph : Addr} {qs : List Addr} {held : List (List Int)} (h : HeldAt H ph qs held) (e : Ex H H') : HeldAt H' ph qs held := ⟨e _ _ h.lst, Paired.mapP h.pr fun _ _ z => e _ _ z, h.nd⟩
theorem paired_mem {α β : Type} {R : α → β → Prop} : ∀ {l : List α} {m : List β}, Paired R l m → ∀ y ∈ m, ∃ x ∈ l, R x y
  | _, _, .nil, y, h => nomatch h
  | _, _, .cons h t, y, hy => by
    rcases List.mem_cons.mp hy with rfl | hy
    · exact ⟨_, List.mem_cons_self, h⟩
    · obtain ⟨x, hx, r⟩ := paired_mem t y hy
      exact ⟨x, List.mem_cons_of_mem _ hx, r⟩
theorem HeldAt.mut {H H' : Hp} {ph p : Addr} {qs : List Addr} {held : List (List Int)} (h : HeldAt H ph qs held) (m : ∀ a u, a ≠ p → H a = some u → H' a = some u) (n : p ≠ ph) (nq : p ∉ qs) : HeldAt H' ph qs held := by
  refine ⟨m _ _ (Ne.symm n) h.lst, ?_, h.nd⟩
  have aux : ∀ {hs : List (List Int)} {ms : List Addr}, (∀ q ∈ ms, q ≠ p) → Paired (fun (h : List Int) q => H q = some (.lst (h.map V.int))) hs ms → Paired (fun (h : List Int) q => H' q = some (.lst (h.map V.int))) hs ms := by
    intro hs ms hn pr
    induction pr with
    | nil => exact .nil
    | cons h t ih => exact .cons (m _ _ (hn _ List.mem_cons_self) h) (ih fun q hq => hn q (List.mem_cons_of_mem _ hq))
  exact aux (fun q hq e => nq (e ▸ hq)) h.pr
theorem HeldAt.len {H : Hp} {ph : Addr} {qs : List Addr} {held : List (List Int)} (h : HeldAt H ph qs held) : qs.length = held.length := (Paired.length h.pr).symm
theorem held_set {H H' : Hp} {q : Addr} {y : List Int} : ∀ {hs : List (List Int)} {ms : List Addr} {i : Nat}, Paired (fun (h : List Int) q => H q = some (.lst (h.map V.int))) hs ms → ms.Nodup → ms[i]? = some q → (∀ a u, a ≠ q → H a = some u → H' a = some u) → H' q = some (.lst (y.map V.int)) →
    Paired (fun (h : List Int) q => H' q = some (.lst (h.map V.int))) (hs.set i y) ms
  | _, _, i, .nil, _, e, _, _ => by simp at e
  | _, _, 0, .cons (a := a) (b := b) (l₁ := l₁) (l₂ := l₂) h t, nd, e, m, hq => by
    have e : b = q := Option.some.inj e
    subst e
    obtain ⟨n1, n2⟩ := List.nodup_cons.mp nd
    refine .cons hq ?_
    clear hq nd h e
    induction t with
    | nil => exact .nil
    | cons h t ih => exact .cons (m _ _ (fun z => n1 (z ▸ List.mem_cons_self)) h) (ih (fun z => n1 (List.mem_cons_of_mem _ z)) (List.nodup_cons.mp n2).2)
  | _, _, i + 1, .cons (a := a) (b := b) (l₁ := l₁) (l₂ := l₂) h t, nd, e, m, hq => by
    obtain ⟨n1, n2⟩ := List.nodup_cons.mp nd
    have e : l₂[i]? = some q := by simpa using e
    have hb : b ≠ q := fun z => n1 (by rw [z]; exact List.mem_of_getElem? e)
    exact .cons (m _ _ hb h) (held_set t n2 e m hq)
/-- the p-th of the lists -/
theorem HeldAt.at {H : Hp} {ph : Addr} {qs : List Addr} {held : List (List Int)} (h : HeldAt H ph qs held) {p : Int} (h0 : 0 ≤ p) (h1 : p < held.length) :
    ∃ q, qs[p.toNat]? = some q ∧ atI (qs.map V.ref) p = some (.ref q) ∧ H q = some (.lst ((hix held p).map V.int)) ∧ q ∈ qs := by
  have hl : p.toNat < held.length := by omega
  have aux : ∀ {hs : List (List Int)} {ms : List Addr} {i : Nat} {l : List Int}, Paired (fun (h : List Int) q => H q = some (.lst (h.map V.int))) hs ms → hs[i]? = some l → ∃ q, ms[i]? = some q ∧ H q = some (.lst (l.map V.int)) := by
    intro hs ms i l pr e
    induction pr generalizing i with
    | nil => simp at e
    | cons h t ih =>
      cases i with
      | zero => cases e; exact ⟨_, rfl, h⟩
      | succ i => exact ih (i := i) (by simpa using e)
  obtain ⟨q, e1, e2⟩ := aux h.pr (List.getElem?_eq_getElem hl)
  have eg : hix held p = held[p.toNat] := by unfold hix; rw [List.getD_eq_getElem?_getD, List.getElem?_eq_getElem hl] <;> rfl
  rw [← eg] at e2
  exact ⟨q, e1, at_of (j := p.toNat) (by omega) (by rw [List.getElem?_map, e1] <;> rfl), e2, List.mem_of_getElem? e1⟩
theorem HeldAt.app {H H' : Hp} {ph q : Addr} {qs : List Addr} {held : List (List Int)} (h : HeldAt H ph qs held) {p x : Int} (hq : qs[p.toNat]? = some q) (hph : q ≠ ph) (m : ∀ a u, a ≠ q → H a = some u → H' a = some u)
    (hn : H' q = some (.lst ((hix held p ++ [x]).map V.int))) : HeldAt H' ph qs (happ held p x) := ⟨m _ _ (Ne.symm hph) h.lst, held_set h.pr h.nd hq m hn, h.nd⟩
theorem hmut {d g p : Addr} {H1 H2 : Hp} (m : ∀ a u, a ≠ p → H1 a = some u → H2 a = some u) : ∀ a u, a ≠ p → hid d g H1 a = some u → hid d g H2 a = some u := fun a u ha h => by
  obtain ⟨h1, h2⟩ := hid_some h
  rw [hid_eq h1 h2] at h ⊢
  exact m a u ha h
/-- the lists that a comprehension has made -/
theorem held_made {H0 H : Hp} {ph : Addr} : ∀ {l : List Nat} {ys : List V}, l.Nodup → Paired (fun (i : Nat) y => ∃ q, y = V.ref q ∧ q ≠ ph ∧ H0 q = none ∧ H q = some (.lst [.int (i : Int)])) l ys →
    ∃ qs : List Addr, ys = qs.map V.ref ∧ Paired (fun (h : List Int) q => H q = some (.lst (h.map V.int))) (l.map fun (i : Nat) => [(i : Int)]) qs ∧ qs.Nodup ∧ (∀ q ∈ qs, q ≠ ph ∧ H0 q = none ∧ ∃ i ∈ l, H q = some (.lst [.int (i : Int)]))
  | [], _, _, .nil => ⟨[], rfl, .nil, List.nodup_nil, fun q h => nomatch h⟩
  | i :: l, y :: ys, nd, .cons h t => by
    obtain ⟨n1, n2⟩ := List.nodup_cons.mp nd
    obtain ⟨qs, e, p, n, f⟩ := held_made n2 t
    obtain ⟨q, rfl, a, b, c⟩ := h
    refine ⟨q :: qs, by rw [e] <;> rfl, .cons c p, List.nodup_cons.mpr ⟨fun hq => ?_, n⟩, fun r hr => ?_⟩
    · obtain ⟨_, _, j, hj, z⟩ := f q hq
      rw [c] at z
      have z2 := HO.lst.inj (Option.some.inj z)
      injection z2 with z2 _
      injection z2 with z2
      have z3 : i = j := by omega
      exact n1 (z3 ▸ hj)
    · rcases List.mem_cons.mp hr with rfl | hr
      · exact ⟨a, b, i, List.mem_cons_self, c⟩
      · obtain ⟨x, y, j, hj, z⟩ := f r hr
        exact ⟨x, y, j, List.mem_cons_of_mem _ hj, z⟩
theorem eqV_int {y x : Int} : eqV (.int y) (.int x) = decide (y = x) := by
  show (y == x) = _
  rw [Bool.beq_eq_decide_eq]
theorem inV_ints (ns : List Int) (x : Int) : inV (.int x) (ns.map V.int) = decide (x ∈ ns) := by
  unfold inV
  rw [List.any_map]
  induction ns with
  | nil => rfl
  | cons y ns ih =>
    rw [List.any_cons, ih]
    have e : (((fun y => eqV y (V.int x)) ∘ V.int) y) = decide (y = x) := by
      show eqV (.int y) (.int x) = _
      rw [eqV_int]
    rw [e]
    by_cases h : y = x
    · simp [h]
    · have h2 : ¬ x = y := fun e => h e.symm
      simp [h, h2]
theorem notin_ints {ns : List Int} {x : Int} (h : (if true = true then !inV (.int x) (ns.map V.int) else inV (.int x) (ns.map V.int)) = true) : x ∉ ns := by
  rw [if_pos rfl, inV_ints, Bool.not_eq_true'] at h
  exact of_decide_eq_false h
section
variable {P : Program} {w : World} {K : PySem.W.Frag} {mg : Str → Option Value} {base : Heap} {f : Addr} {fd : FuncData} {C : Addr}
def spWalk (K : PySem.W.Frag) : Sp := fun vs H Q _ => ∃ (d c g : Addr) (b n : Nat), vs = [.ref d, .int (n : Int)] ∧ MI H d c g (b + 100) ∧ 3 ≤ n ∧ n ≤ 20 ∧
  ∀ p ph pm qs held s H', Ex (hid d g H) (hid d g H') → MI H' d c g b → hid d g H' p = some (.tup [.ref ph, .ref pm]) → HeldAt (hid d g H') ph qs held → ExT (hid d g H') pm (s.2.map V.int) → PosOk n s → HeldOk n held s → Q (.ref p) H'
abbrev N_law_ring_walk : List PySem.Str := ["_law_m", "_law_many", "_law_row", "_law_held", "_law_moves", "_law_who", "_law_n", "_law_at", "_law_near", "_law_thing", "_law_far"]
theorem sc_law_ring_walk : FnScope N_law_ring_walk ["_law_m", "_law_many"] (defScope st_law_ring_walk) := ⟨rfl, rfl, rfl, by decide +kernel, rfl, by decide +kernel, by decide +kernel⟩
theorem sg_law_ring_walk (v0 v1 : V) : L2.start N_law_ring_walk [v0, v1] = [some v0, some v1, none, none, none, none, none, none, none, none, none] := rfl
theorem bi_law_ring_walk {K : PySem.W.Frag} {f : Addr} {fd : FuncData} (F : FnP K "_law_ring_walk" st_law_ring_walk f fd) : Binds K fd ["_law_m", "_law_many"] [] := F.bindsN fun _ _ _ _ _ _ us hl => match us, hl with | [_, _], _ => rfl

-- 0:_law_m 1:_law_many 2:_law_row 3:_law_held 4:_law_moves 5:_law_who 6:_law_n 7:_law_at 8:_law_near 9:_law_thing 10:_law_far
theorem ok_ring_walk (F : FnP K "_law_ring_walk" st_law_ring_walk f fd) (fr : Free mg) (D_law_draw : Def P w K mg base CX0 2 "_law_draw" ["_law_m", "_law_top"] spDraw) : FnOk P w K mg base CX0 3 f fd ["_law_m", "_law_many"] (spWalk K) := by
  refine F.ok sc_law_ring_walk (fun vs H Q E h => ?_) (fun cdv A outer s H vs Q E hr h => ?_)
  · obtain ⟨d, c, g, b, n, rfl, _⟩ := h
    rfl
  · obtain ⟨d, c, g, b, n, rfl, m, h3, h20, k⟩ := h
    refine ⟨_, PSs.nox (pss_cons (ps_par3 (i := 2) (j := 3) (l := 4) rfl sc_law_ring_walk.nd rfl rfl rfl (by decide) (by decide) (by decide) rfl rfl rfl (pa_cons (pe_listRg rfl (by rfl) fr.list (prg_1 (by rfl) fr.range (pv 1))) (pa_cons (pe_lc (own := [("_law_who", 5)]) rfl sc_law_ring_walk.nd (pi_range1 (by rfl) fr.range (pa_cons (pv 1) pa_nil)) (blkOk_by (own := [("_law_who", 5)]) (N := N_law_ring_walk) (sc := defScope st_law_ring_walk) (by decide +kernel)) (fun _ _ _ _ _ => (pg_name (i := 5) sc_law_ring_walk.nd rfl (Or.inl rfl))) (fun _ _ _ _ _ => pts_nil) (fun _ _ _ _ _ => (pe_lst (pa_cons (pv 5) pa_nil)))) (pa_cons (pe_op op_rep (pe_lst (pa_cons pe_int pa_nil)) (pv 1)) pa_nil))) (by rfl))
    (pss_cons (ps_for PassesOwn.never rfl (pi_range1 (by rfl) fr.range (pa_cons (pe_def D_law_draw (hr.mono (by decide)) (pa_cons (pv 0) (pa_cons (pe_op op_mul pe_int (pv 1)) pa_nil))) pa_nil)) (pg_name (i := 6) sc_law_ring_walk.nd rfl (Or.inl rfl))
    (pss_cons (ps_set (i := 7) sc_law_ring_walk.nd rfl (Or.inl rfl) (pe_def D_law_draw (hr.mono (by decide)) (pa_cons (pv 0) (pa_cons (pv 1) pa_nil))))
      (pss_cons (ps_set (i := 8) sc_law_ring_walk.nd rfl (Or.inl rfl) (pe_op op_mod (pe_op op_add (pv 7) pe_int) (pv 1)))
      (pss_cons (ps_par (i := 9) (j := 10) rfl sc_law_ring_walk.nd rfl rfl (by decide) rfl rfl (pa_cons (pe_ix (ixl (K := K) rfl) (pv 2) (pv 7) (fun _ _ => rfl)) (pa_cons (pe_ix (ixl (K := K) rfl) (pv 2) (pv 8) (fun _ _ => rfl)) pa_nil)) (by rfl))
      (pss_one (ps_if (PW.pt (pw_and (pt_cmpR op_ge (pe_ix (ixl (K := K) rfl) (pv 4) (pv 9) (fun _ _ => rfl)) pe_int (nomark _)) (pw_and (pt_cmpR op_le (pe_ix (ixl (K := K) rfl) (pv 4) (pv 10) (fun _ _ => rfl)) pe_int (nomark _)) (pw_and (pt_cmpR (ninq (K := K) rfl) (pv 10) (pe_ix (ixl (K := K) rfl) (pv 3) (pv 7) (fun _ _ => rfl)) rfl) (pw_and1 (pt_cmpR (ninq (K := K) rfl) (pv 9) (pe_ix (ixl (K := K) rfl) (pv 3) (pv 8) (fun _ _ => rfl)) rfl)))))) (pss_cons (ps_asg (pe_tup (pa_cons (pe_op op_add (pe_ix (ixl (K := K) rfl) (pv 4) (pv 9) (fun _ _ => rfl)) pe_int) (pa_cons (pe_op op_sub (pe_ix (ixl (K := K) rfl) (pv 4) (pv 10) (fun _ _ => rfl)) pe_int) pa_nil))) (pgt (n := 2) (K := K) rfl rfl (pgs_cons (pg_sub (pv 4) (pv 9) set_list) (pgs_cons (pg_sub (pv 4) (pv 10) set_list) pgs_nil))))
        (pss_cons (ps_asg (pe_tup (pa_cons (pv 10) (pa_cons (pv 9) pa_nil))) (pgt (n := 2) (K := K) rfl rfl (pgs_cons (pg_sub (pv 2) (pv 7) set_list) (pgs_cons (pg_sub (pv 2) (pv 8) set_list) pgs_nil))))
        (pss_cons (ps_expr (bmq (K := K) rfl PySem.F.plainAttrs_list PySem.F.slot_list_append PySem.F.type_list_append mt_append (pe_ix (ixl (K := K) rfl) (pv 3) (pv 7) (fun _ _ => rfl)) (pa_cons (pv 10) pa_nil)))
        (pss_one (ps_expr (bmq (K := K) rfl PySem.F.plainAttrs_list PySem.F.slot_list_append PySem.F.type_list_append mt_append (pe_ix (ixl (K := K) rfl) (pv 3) (pv 8) (fun _ _ => rfl)) (pa_cons (pv 9) pa_nil))))))) pss_nil))))))
    (pss_one (ps_ret (pe_tup (pa_cons (pv 3) (pa_cons (pe_callTy (tupx (K := K) rfl) (by rfl) fr.tuple (by decide +kernel) (pa_cons (pv 4) pa_nil)) pa_nil))))))), ?_⟩
    rw [sg_law_ring_walk]
    tm_at "r"
    refine ⟨_, rfl, rg0_ok (by omega), ?_⟩
    rw [rgV_eq]
    w_call pr n1 H1 e1 h1 u1 z1
    tm_at "r"
    refine ⟨_, rfl, by omega, by omega, ?_⟩
    rw [show ((n : Nat) : Int).toNat = n from rfl]
    refine lc_run walk0 (fun _ => true) (fun D i y H' => ∃ q, y = .ref q ∧ q ≠ D ∧ H1 q = none ∧ H' q = some (.lst [.int (i : Int)])) (fun D i y H1 H2 h ⟨q, e, n, n0, z⟩ => ⟨q, e, n, n0, h q _ n z⟩) (fun _ _ => trivial) (by omega) ?_ ?_
    · rintro D i x H2 H3 acc KN KY hi e2 ⟨rfl, rfl⟩ hD hy _ hk
      refine ⟨rfl, ?_⟩
      tm_at "r"
      w_call q n4 H4 e4 h4 u4 z4
      exact hk rfl _ H4 e4 ⟨q, rfl, (ne_of_none hy n4).symm, none_of_ex e2 n4, h4⟩
    · intro ph H2 ys nph e2 hph pry
      rw [filter_yes] at pry
      obtain ⟨qs, rfl, prq, ndq, fq⟩ := held_made List.nodup_range pry
      tm_at "r"
      w_call p0 n3 H3 e3 h3' u3 z3
      refine r_var rfl ?_
      refine ⟨p0, n, [.int 0], rfl, rfl, h3', by omega, by omega, by show 1 * (n : Int).toNat ≤ sizeLine; rw [sizeLine_eq]; omega, ?_⟩
      rw [rep0]
      w_call pm n4 H4 e4 h4 u4 z4
      tm_at "r"
      refine r_I (Or.inl ⟨by decide, by decide⟩) ?_
      tm_at "r"
      have e02 := e1.trans e2
      have e04 := (e02.trans e3).trans e4
      have npr : H pr = none := n1
      have nph1 : H1 ph = none := nph
      have nph0 : H ph = none := none_of_ex e1 nph
      have npm2 : H2 pm = none := none_of_ex (e3.trans e4 |> fun _ => e3) n4
      have npm : H pm = none := none_of_ex e02 npm2
      have dprph : pr ≠ ph := ne_of_none h1 nph
      have dprpm : pr ≠ pm := ne_of_none (e2 _ _ h1) npm2
      have dphpm : ph ≠ pm := ne_of_none hph npm2
      have fr' : ∀ q ∈ qs, q ≠ ph ∧ q ≠ pr ∧ q ≠ pm ∧ H q = none := fun q hq => by
        obtain ⟨a, b, i, _, z⟩ := fq q hq
        exact ⟨a, (fun e => by rw [e, h1] at b; cases b), ne_of_none z npm2, none_of_ex e1 b⟩
      have nr := m.ne npr
      have nh := m.ne nph0
      have nm := m.ne npm
      have m4 := m.mono e04 (Nat.le_refl _)
      have held0 : HeldAt (hid d g H4) ph qs (hd0 n) := by
        refine ⟨hid_at (e4 _ _ (e3 _ _ hph)) ⟨nh.1, nh.2.1⟩, ?_, ndq⟩
        have aux : ∀ {hs : List (List Int)} {ms : List Addr}, (∀ q ∈ ms, H q = none) → Paired (fun (h : List Int) q => H2 q = some (.lst (h.map V.int))) hs ms → Paired (fun (h : List Int) q => hid d g H4 q = some (.lst (h.map V.int))) hs ms := by
          intro hs ms hn pr
          induction pr with
          | nil => exact .nil
          | cons h t ih =>
            have z := m.ne (hn _ List.mem_cons_self)
            exact .cons (hid_at (e4 _ _ (e3 _ _ h)) ⟨z.1, z.2.1⟩) (ih fun q hq => hn q (List.mem_cons_of_mem _ hq))
        exact aux (fun q hq => (fr' q hq).2.2.2) prq
      refine ⟨d, c, g, b + 99, _, rfl, m4, by omega, by omega, fun r H5 r0 r1 m5 e5 => ?_⟩
      tm_at "r"
      refine ⟨_, rfl, by omega, by omega, ?_⟩
      have hr60 : r.toNat < 60 := by omega
      refine for_run walk0 (fun i σ H' => (∃ v6 v7 v8 v9 v10, σ = [some (.ref d), some (.int (n : Int)), some (.ref pr), some (.ref ph), some (.ref pm), none, v6, v7, v8, v9, v10]) ∧ Ex (hid d g H) (hid d g H') ∧ MI H' d c g (b + (99 - i)) ∧
        ∃ held s, PosOk n s ∧ HeldOk n held s ∧ HeldAt (hid d g H') ph qs held ∧ hid d g H' pr = some (.lst (s.1.map V.int)) ∧ hid d g H' pm = some (.lst (s.2.map V.int)))
        ⟨⟨_, _, _, _, _, rfl⟩, (hid_mono e04).trans e5, m5, hd0 n, st0 n, posOk_init, heldOk_init (by omega), held0.keep e5, e5 _ _ (hid_at (e4 _ _ (e3 _ _ (e2 _ _ h1))) ⟨nr.1, nr.2.1⟩), ?_⟩ (fun _ _ _ _ _ => trivial) ?_ ?_
      · refine e5 _ _ (hid_at ?_ ⟨nm.1, nm.2.1⟩)
        rw [h4]
        show some (HO.lst _) = some (HO.lst ((List.replicate n (0 : Int)).map V.int))
        rw [List.map_replicate]
      · rintro i x σ H6 H7 hi ⟨⟨v6, v7, v8, v9, v10, rfl⟩, e6, m6, held, s, pk, hk, ha, hrow, hmv⟩ ⟨rfl, rfl⟩
        tm_at "r"
        refine ⟨d, c, g, b + (99 - (i + 1)), _, rfl, by rw [show b + (99 - (i + 1)) + 1 = b + (99 - i) by omega]; exact m6, by omega, by omega, fun p H8 p0 p1 m8 e8 => ?_⟩
        have ha8 := ha.keep e8
        have hrow8 := e8 _ _ hrow
        have hmv8 := e8 _ _ hmv
        have e08 := e6.trans e8
        have l1 := pk.l1
        have l2 := pk.l2
        have F := stepF (by omega) pk p0 p1
        have step := posOk_step h3 pk p0 p1
        have hst := fun c1 c2 c3 c4 => heldOk_step h3 pk hk p0 p1 c1 c2 c3 c4
        have hl := hk.len
        tm_at "r"
        refine r_I (by omega) ?_
        tm_at "r"
        refine r_ixLI (SqL.of (hid_le _ _ hrow8)) p0 (by omega) ?_
        tm_at "r"
        refine r_ixLI (SqL.of (hid_le _ _ hrow8)) F.q0 (by have := F.q1; omega) ?_
        have es : (stepR n s p).2 = setI (setI s.2 (ix s.1 p) (ix s.2 (ix s.1 p) + 1)) (ix s.1 ((p + 1) % (n : Int))) (ix s.2 (ix s.1 ((p + 1) % (n : Int))) - 1) := by
          show setI (setI s.2 _ _) _ (ix (setI s.2 _ _) _ - 1) = _
          rw [ix_setI F.u0 F.v0 (by have := F.u1; omega), if_neg F.uv]
        have es1 : (stepR n s p).1 = setI (setI s.1 p (ix s.1 ((p + 1) % (n : Int)))) ((p + 1) % (n : Int)) (ix s.1 p) := rfl
        generalize hv : ix s.1 ((p + 1) % (n : Int)) = v at F hst es es1
        generalize hu : ix s.1 p = u at F hst es es1
        generalize hq : (p + 1) % (n : Int) = q at F hst es es1
        have stay : ∀ w9 w10 w7 w8, (∃ v6 v7 v8 v9 v10, [some (V.ref d), some (V.int (n : Int)), some (V.ref pr), some (V.ref ph), some (V.ref pm), none, some (V.int (i : Int)), w7, w8, w9, w10] = [some (V.ref d), some (V.int (n : Int)), some (V.ref pr), some (V.ref ph), some (V.ref pm), none, v6, v7, v8, v9, v10]) ∧ Ex (hid d g H) (hid d g H8) ∧ MI H8 d c g (b + (99 - (i + 1))) ∧
            ∃ held s, PosOk n s ∧ HeldOk n held s ∧ HeldAt (hid d g H8) ph qs held ∧ hid d g H8 pr = some (.lst (s.1.map V.int)) ∧ hid d g H8 pm = some (.lst (s.2.map V.int)) := fun w9 w10 w7 w8 => ⟨⟨_, _, _, _, _, rfl⟩, e08, m8, held, s, pk, hk, ha8, hrow8, hmv8⟩
        tm_at "r"
        refine r_ixLI (SqL.of (hid_le _ _ hmv8)) F.u0 (by have := F.u1; omega) ?_
        tm_at "r"
        refine r_ite (fun c1 => ?_) (fun c1 => by tm_at "r"; exact stay _ _ _ _)
        tm_at "r"
        refine r_ixLI (SqL.of (hid_le _ _ hmv8)) F.v0 (by have := F.v1; omega) ?_
        tm_at "r"
        refine r_ite (fun c2 => ?_) (fun c2 => by tm_at "r"; exact stay _ _ _ _)
        obtain ⟨qp, qp1, qp2, qp3, qp4⟩ := ha8.at p0 (by omega)
        obtain ⟨qq, qq1, qq2, qq3, qq4⟩ := ha8.at F.q0 (by have := F.q1; omega)
        tm_at "r"
        refine r_ixL (SqL.of (hid_le _ _ ha8.lst)) qp2 ?_
        refine ⟨qp, _, rfl, .inl (SqL.of (hid_le _ _ qp3)), rfl, flat_ints _, ?_⟩
        tm_at "r"
        refine r_ite (fun c3 => ?_) (fun c3 => by tm_at "r"; exact stay _ _ _ _)
        tm_at "r"
        refine r_ixL (SqL.of (hid_le _ _ ha8.lst)) qq2 ?_
        refine ⟨qq, _, rfl, .inl (SqL.of (hid_le _ _ qq3)), rfl, flat_ints _, ?_⟩
        tm_at "r"
        refine r_ite (fun c4 => ?_) (fun c4 => by tm_at "r"; exact stay _ _ _ _)
        have hst := hst (of_decide_eq_true c1) (of_decide_eq_true c2) (notin_ints c3) (notin_ints c4)
        tm_at "r"
        refine r_ixLI (SqL.of (hid_le _ _ hmv8)) F.u0 (by have := F.u1; omega) ?_
        tm_at "r"
        refine r_ixLI (SqL.of (hid_le _ _ hmv8)) F.v0 (by have := F.v1; omega) ?_
        tm_at "r"
        w_call pt n9 H9 e9 h9 u9 z9
        refine r_gTup (SqT.of h9) rfl ?_
        tm_at "r"
        refine r_setLI (e9 _ _ (hid_le _ _ hmv8)) F.u0 (by have := F.u1; omega) ?_
        generalize hu10 : upd H9 pm _ = H10
        obtain ⟨m10, h10⟩ := mut_of hu10
        tm_at "r"
        refine r_setLI h10 F.v0 (by rw [setI_len]; have := F.v1; omega) ?_
        generalize hu11 : upd H10 pm _ = H11
        obtain ⟨m11, h11⟩ := mut_of hu11
        tm_at "r"
        w_call pt2 n12 H12 e12 h12 u12 z12
        refine r_gTup (SqT.of h12) rfl ?_
        have row11 : hid d g H11 pr = some (.lst (s.1.map V.int)) := hmut m11 _ _ dprpm (hmut m10 _ _ dprpm (hid_mono e9 _ _ hrow8))
        have row12 := hid_mono (d := d) (g := g) e12 _ _ row11
        tm_at "r"
        refine r_setLI (hid_le _ _ row12) p0 (by omega) ?_
        generalize hu13 : upd H12 pr _ = H13
        obtain ⟨m13, h13⟩ := mut_of hu13
        tm_at "r"
        refine r_setLI h13 F.q0 (by rw [setI_len]; have := F.q1; omega) ?_
        generalize hu14 : upd H13 pr _ = H14
        obtain ⟨m14, h14⟩ := mut_of hu14
        have npmq : pm ∉ qs := fun z => (fr' pm z).2.2.1 rfl
        have nprq : pr ∉ qs := fun z => (fr' pr z).2.1 rfl
        have ha14 : HeldAt (hid d g H14) ph qs held := ((((ha8.keep (hid_mono e9)).mut (hmut m10) (Ne.symm dphpm) npmq).mut (hmut m11) (Ne.symm dphpm) npmq).keep (hid_mono e12) |>.mut (hmut m13) dprph nprq).mut (hmut m14) dprph nprq
        have hpm14 : hid d g H14 pm = some (.lst ((stepR n s p).2.map V.int)) := by
          rw [es]
          exact hmut m14 _ _ (Ne.symm dprpm) (hmut m13 _ _ (Ne.symm dprpm) (hid_mono e12 _ _ (hid_at h11 ⟨nm.1, nm.2.1⟩)))
        have hpr14 : hid d g H14 pr = some (.lst ((stepR n s p).1.map V.int)) := by
          rw [es1]
          exact hid_at h14 ⟨nr.1, nr.2.1⟩
        have e014 : Ex (hid d g H) (hid d g H14) := hid_mut (hid_mut ((hid_mut (hid_mut (e08.trans (hid_mono e9)) (hid_none npm) m10) (hid_none npm) m11).trans (hid_mono e12)) (hid_none npr) m13) (hid_none npr) m14
        have m14' : MI H14 d c g (b + (99 - (i + 1))) := (((((m8.mono e9 (Nat.le_refl _)).mut m10 nm).mut m11 nm).mono e12 (Nat.le_refl _)).mut m13 nr).mut m14 nr
        tm_at "r"
        obtain ⟨qp', ap1, ap2, ap3, ap4⟩ := ha14.at p0 (by omega)
        refine r_ixL (SqL.of (hid_le _ _ ha14.lst)) ap2 ?_
        refine ⟨ty_l (SqL.of (hid_le _ _ ap3)), ?_⟩
        tm_at "r"
        have lz : ∀ {r : Int}, 0 ≤ r → r < (n : Int) → (hix held r).length ≤ 20 := fun r0 r1 => by
          have z := nd_le (m := rgI 0 n) (hk.nd _ (hix_mem r0 (by omega))) fun x hx => by
            have := hk.rng _ (hix_mem r0 (by omega)) x hx
            exact rgI_mem.mpr (by omega)
          rw [rgI_len] at z
          omega
        refine r_appI (hid_le _ _ ap3) (by have := lz p0 p1; omega) ?_
        generalize hu15 : upd H14 qp' _ = H15
        obtain ⟨m15, h15⟩ := mut_of hu15
        obtain ⟨fa, fb, fc, fd'⟩ := fr' qp' ap4
        have nqp := m.ne fd'
        have ha15 : HeldAt (hid d g H15) ph qs (happ held p v) := ha14.app ap1 fa (hmut m15) (hid_at h15 ⟨nqp.1, nqp.2.1⟩)
        have hl15 : (happ held p v).length = n := by unfold happ; rw [List.length_set]; exact hl
        have hq15 : hix (happ held p v) q = hix held q := by rw [hix_happ p0 (by omega) F.q0, if_neg F.qp]
        tm_at "r"
        obtain ⟨qq', aq1, aq2, aq3, aq4⟩ := ha15.at F.q0 (by have := F.q1; omega)
        rw [hq15] at aq3
        refine r_ixL (SqL.of (hid_le _ _ ha15.lst)) aq2 ?_
        refine ⟨ty_l (SqL.of (hid_le _ _ aq3)), ?_⟩
        tm_at "r"
        refine r_appI (hid_le _ _ aq3) (by have := lz F.q0 F.q1; omega) ?_
        generalize hu16 : upd H15 qq' _ = H16
        obtain ⟨m16, h16⟩ := mut_of hu16
        obtain ⟨ga, gb, gc, gd⟩ := fr' qq' aq4
        have nqq := m.ne gd
        have ha16 : HeldAt (hid d g H16) ph qs (happ (happ held p v) q u) := ha15.app aq1 ga (hmut m16) (by rw [hq15]; exact hid_at h16 ⟨nqq.1, nqq.2.1⟩)
        tm_at "r"
        exact ⟨⟨_, _, _, _, _, rfl⟩, hid_mut (hid_mut e014 (hid_none fd') m15) (hid_none gd) m16, (m14'.mut m15 nqp).mut m16 nqq, _, stepR n s p, step, hst, ha16, hmut m16 _ _ (Ne.symm gb) (hmut m15 _ _ (Ne.symm fb) hpr14), hmut m16 _ _ (Ne.symm gc) (hmut m15 _ _ (Ne.symm fc) hpm14)⟩
      · rintro σ H6 ⟨⟨v6, v7, v8, v9, v10, rfl⟩, e6, m6, held, s, pk, hk, ha, hrow, hmv⟩
        tm_at "r"
        refine r_tupX (SqL.of (hid_le _ _ hmv)) fun pu H7 n7 e7 x7 => ?_
        tm_at "r"
        w_call pw n8 H8 e8 h8 u8 z8
        have nw := m6.ne (none_of_ex e7 n8)
        have nu := m6.ne n7
        obtain ⟨o, x7a, x7b, x7c⟩ := x7.ex e8
        exact k pw ph pu qs held s H8 ((e6.trans (hid_mono e7)).trans (hid_mono e8)) ((m6.mono (e7.trans e8) (by omega))) (hid_at h8 ⟨nw.1, nw.2.1⟩) ((ha.keep (hid_mono e7)).keep (hid_mono e8)) ⟨o, hid_at x7a ⟨nu.1, nu.2.1⟩, x7b, x7c⟩ pk hk
end
end SW
end

section
set_option Elab.async false
set_option linter.all false
set_option maxRecDepth 100000
set_option maxHeartbeats 4000000
/-! slices -/
namespace SW
open PySem PySem.Spec PyProof.Rows L2 Evl
section
variable {K : PySem.W.Frag} {σ : L2.St} {H : Hp} {Q : VK} {te : TE} {tl th : TO} {r : V → Option Int → Option Int → Hp → VK → Prop}
theorem r_sl (h : te σ H fun x H1 => tl σ H1 fun l H2 => th σ H2 fun u H3 => r x l u H3 Q) : tSl r te tl th σ H Q := h
theorem r_noP {Qo : Option Int → Hp → Prop} (h : Qo none H) : tNoPart σ H Qo := h
theorem r_part {Qo : Option Int → Hp → Prop} (h : te σ H fun x H1 => ∃ i, x = .int i ∧ Qo (some i) H1) : tPart te σ H Qo := h
theorem r_intp {i : Int} {Po : Int → Prop} (q : Po i) : ∃ j, V.int i = .int j ∧ Po j := ⟨i, rfl, q⟩
theorem r_revL (h : te σ H fun x H1 => ∃ a xs, x = .ref a ∧ SqL K H1 a xs ∧ ∀ p, H1 p = none → Q (.ref p) (upd H1 p (.lst xs.reverse))) : tRevL K te σ H Q := h
end
theorem cut_lo {xs : List V} {k : Int} (h0 : 0 ≤ k) (h1 : k ≤ xs.length) : cutV xs (some k) none = xs.drop k.toNat := by
  have e : HT.sIx xs.length 0 (some k) = k.toNat := by
    show (if k < 0 then (k + (xs.length : Int)).toNat else min k.toNat xs.length) = k.toNat
    rw [if_neg (by omega)]
    omega
  unfold cutV
  rw [e, HT.sIx_none, List.take_of_length_le]
  rw [List.length_drop]
  exact Nat.le_refl _
theorem cut_hi {xs : List V} {k : Int} (h0 : 0 ≤ k) (h1 : k ≤ xs.length) : cutV xs none (some k) = xs.take k.toNat := by
  have e : HT.sIx xs.length xs.length (some k) = k.toNat := by
    show (if k < 0 then (k + (xs.length : Int)).toNat else min k.toNat xs.length) = k.toNat
    rw [if_neg (by omega)]
    omega
  unfold cutV
  rw [e, HT.sIx_none, List.drop_zero, Nat.sub_zero]
end SW
end

section
set_option Elab.async false
set_option linter.all false
set_option maxRecDepth 100000
set_option maxHeartbeats 4000000
namespace SW
open PySem PySem.Spec PyProof.Rows L2 Evl
local macro_rules | `(tactic| tm_at "r1") => `(tactic| first
  | ((with_reducible refine' r_var ?hx ?_); (case hx => exact rfl))
  | with_reducible refine r_c ?_
  | with_reducible refine r_op ?_
  | with_reducible refine r_I0 ?_
  | with_reducible refine r_un ?_
  | with_reducible refine r_U ?_
  | with_reducible refine r_cons ?_
  | with_reducible refine r_nil ?_
  | with_reducible refine r_call ?_
  | with_reducible refine r_cb ?_
  | with_reducible refine r_test ?_
  | with_reducible refine r_blp ?_
  | with_reducible refine r_tYes ?_
  | with_reducible refine r_ifT ?_
  | with_reducible refine r_ifF ?_
  | ((with_reducible refine' r_aug ?hx ?_); (case hx => exact rfl))
  | with_reducible refine r_seq ?_
  | with_reducible refine r_asg ?_
  | with_reducible refine r_gname ?_
  | with_reducible refine r_ret ?_
  | with_reducible refine r_tup ?_
  | with_reducible refine r_lst ?_
  | with_reducible refine r_ifS ?_
  | with_reducible refine r_par ?_
  | with_reducible refine r_two ?_
  | with_reducible refine r_lc ?_
  | with_reducible refine r_rng1 ?_
  | with_reducible refine r_rng2 ?_
  | with_reducible refine r_iList ?_
  | with_reducible refine r_iTup ?_
  | with_reducible refine r_for ?_
  | with_reducible refine r_not ?_
  | with_reducible refine r_and ?_
  | with_reducible refine r_or ?_
  | with_reducible refine r_andV ?_
  | with_reducible refine r_orV ?_
  | with_reducible refine r_notV ?_
  | with_reducible refine r_if ?_
  | with_reducible refine r_chain ?_
  | with_reducible refine r_B ?_
  | with_reducible refine r_next ?_
  | with_reducible refine r_drop ?_
  | with_reducible refine r_retN ?_
  | with_reducible refine r_ipI ?_
  | ((with_reducible refine' r_sz ?hz ?_); (case hz => exact Nat.le_of_ble_eq_true rfl))
  | with_reducible refine r_gCons ?_
  | with_reducible refine r_gNil ?_
  | with_reducible refine r_par3 ?_
  | with_reducible refine r_three ?_
  | with_reducible refine r_listRg ?_
  | with_reducible refine r_tupRg ?_
  | with_reducible refine r_augS ?_
  | with_reducible refine r_lenSetT ?_
  | with_reducible refine r_lenSetL ?_
  | with_reducible refine r_ifNT ?_
  | with_reducible refine r_ifNF ?_
  | with_reducible refine r_eqI ?_
  | with_reducible refine r_neI ?_
  | with_reducible refine r_eqS ?_
  | with_reducible refine r_neS ?_
  | with_reducible refine r_bm ?_
  | with_reducible refine r_bt ?_
  | with_reducible refine r_iEnT ?_
  | with_reducible refine r_iEnL ?_
  | with_reducible refine r_dc ?_
  | with_reducible refine r_dget ?_
  | with_reducible refine r_dput ?_
  | with_reducible refine r_sl ?_
  | with_reducible refine r_noP ?_
  | with_reducible refine r_part ?_
  | with_reducible refine r_revL ?_
  | with_reducible refine r_gSub ?_)
local macro_rules | `(tactic| tm_at "r") => `(tactic| repeat tm_at "r1")
local macro_rules | `(tactic| w_call $p $n $H1 $e $h $u $z) => `(tactic| (intro $p:ident $n:ident; generalize $u:ident : upd _ $p:ident _ = $H1:ident; obtain ⟨$e, $h⟩ := new_of $n:ident $u:ident))
theorem rg0_fm (n : Nat) (p : Int → Bool) : ((List.range n).filter fun (j : Nat) => p (j : Int)).map (fun (j : Nat) => V.int (j : Int)) = ((rgI 0 n).filter p).map V.int := by
  have e : rgI 0 n = (List.range n).map fun (i : Nat) => (i : Int) := by
    unfold rgI
    exact congrArg (fun f => (List.range n).map f) (funext fun (i : Nat) => Int.zero_add (i : Int))
  rw [e, List.filter_map, List.map_map]
  rfl
/-- a number list that is all, once -/
theorem rkOk_of {n : Nat} (h3 : 3 ≤ n) (h20 : n ≤ 20) {R : List (List Int)} (hl : R.length = n) (h : ∀ r ∈ R, PermI n r) : RkOk R :=
  ⟨by omega, by omega, fun r hr => by rw [(h r hr).len, hl], fun r hr => (h r hr).nd, fun r hr => by rw [hl]; exact (h r hr).rng, fun r hr => by rw [hl]; exact (h r hr).has⟩
/-- what is not held, and what is held, in any order -/
theorem permI_of {n : Nat} {held rest liked row : List Int} (nd : held.Nodup) (rg : ∀ x ∈ held, 0 ≤ x ∧ x < (n : Int)) (h1 : rest.Perm ((rgI 0 n).filter fun x => !decide (x ∈ held))) (h2 : liked.Perm held) (h3 : row.Perm (rest ++ liked)) : PermI n row := by
  have ndr : (rgI 0 n).Nodup := by
    unfold rgI
    refine List.pairwise_iff_getElem.mpr fun i j hi hj hij e => ?_
    simp at e
    omega
  have mem : ∀ x : Int, x ∈ row ↔ 0 ≤ x ∧ x < (n : Int) := fun x => by
    rw [h3.mem_iff, List.mem_append, h1.mem_iff, h2.mem_iff, List.mem_filter, rgI_mem]
    constructor
    · rintro (⟨z, _⟩ | z)
      · omega
      · exact rg x z
    · intro z
      by_cases hm : x ∈ held
      · exact .inr hm
      · exact .inl ⟨by omega, by simp [hm]⟩
  have ndw : row.Nodup := by
    refine h3.nodup_iff.mpr (List.nodup_append.mpr ⟨h1.nodup_iff.mpr (ndr.filter _), h2.nodup_iff.mpr nd, fun a ha b hb e => ?_⟩)
    have z := (List.mem_filter.mp (h1.mem_iff.mp ha)).2
    have y := h2.mem_iff.mp hb
    rw [← e] at y
    simp [y] at z
  refine ⟨?_, ndw, fun x hx => (mem x).mp hx, fun x a b => (mem x).mpr ⟨a, b⟩⟩
  have p : row.Perm (rgI 0 n) := (List.perm_ext_iff_of_nodup ndw ndr).mpr fun x => by rw [mem, rgI_mem]; omega
  rw [p.length_eq, rgI_len]
section
variable {P : Program} {w : World} {K : PySem.W.Frag} {mg : Str → Option Value} {base : Heap} {f : Addr} {fd : FuncData} {C : Addr}
def spLists (K : PySem.W.Frag) : Sp := fun vs H Q _ => ∃ (d c g ph : Addr) (b n : Nat) (qs : List Addr) (held : List (List Int)) (s : List Int × List Int), vs = [.ref d, .int (n : Int), .ref ph] ∧ MI H d c g (b + 1000) ∧ 3 ≤ n ∧ n ≤ 20 ∧ HeldAt (hid d g H) ph qs held ∧ HeldOk n held s ∧
  ∀ p R H', Ex (hid d g H) (hid d g H') → MI H' d c g b → RkX K (hid d g H') p R → RkOk R → R.length = n → Q (.ref p) H'
abbrev N_law_ring_lists : List PySem.Str := ["_law_m", "_law_many", "_law_held", "_law_way", "_law_found", "_law_who", "_law_rest", "_law_thing", "_law_liked", "_law_cut"]
theorem sc_law_ring_lists : FnScope N_law_ring_lists ["_law_m", "_law_many", "_law_held"] (defScope st_law_ring_lists) := ⟨rfl, rfl, rfl, by decide +kernel, rfl, by decide +kernel, by decide +kernel⟩
theorem sg_law_ring_lists (v0 v1 v2 : V) : L2.start N_law_ring_lists [v0, v1, v2] = [some v0, some v1, some v2, none, none, none, none, none, none, none] := rfl
theorem bi_law_ring_lists {K : PySem.W.Frag} {f : Addr} {fd : FuncData} (F : FnP K "_law_ring_lists" st_law_ring_lists f fd) : Binds K fd ["_law_m", "_law_many", "_law_held"] [] := F.bindsN fun _ _ _ _ _ _ us hl => match us, hl with | [_, _, _], _ => rfl

-- 0:_law_m 1:_law_many 2:_law_held* 3:_law_way 4:_law_found 5:_law_who* 6:_law_rest 7:_law_thing 8:_law_liked 9:_law_cut
theorem ok_ring_lists (F : FnP K "_law_ring_lists" st_law_ring_lists f fd) (fr : Free mg) (D_law_draw : Def P w K mg base CX0 2 "_law_draw" ["_law_m", "_law_top"] spDraw)
    (D_law_mixed_up : Def P w K mg base CX0 3 "_law_mixed_up" ["_law_m", "_law_things"] (spMixUp K)) : FnOk P w K mg base CX0 4 f fd ["_law_m", "_law_many", "_law_held"] (spLists K) := by
  refine F.ok sc_law_ring_lists (fun vs H Q E h => ?_) (fun cdv A outer s H vs Q E hr h => ?_)
  · obtain ⟨d, c, g, ph, b, n, qs, held, s, rfl, _⟩ := h
    rfl
  · obtain ⟨d, c, g, ph, b, n, qs, held, s0, rfl, m, h3, h20, ha, hk, k⟩ := h
    refine ⟨_, PSs.nox (pss_cons (ps_par (i := 3) (j := 4) rfl sc_law_ring_lists.nd rfl rfl (by decide) rfl rfl (pa_cons (pe_def D_law_draw (hr.mono (by decide)) (pa_cons (pv 0) (pa_cons pe_int pa_nil))) (pa_cons (pe_lst pa_nil) pa_nil)) (by rfl))
    (pss_cons (ps_for PassesOwn.never rfl (pi_range1 (by rfl) fr.range (pa_cons (pv 1) pa_nil)) (pg_name (i := 5) sc_law_ring_lists.nd rfl (Or.inr rfl))
    (pss_cons (ps_set (i := 6) sc_law_ring_lists.nd rfl (Or.inl rfl) (pe_def D_law_mixed_up (hr.mono (by decide)) (pa_cons (pv 0) (pa_cons (pe_lc (own := [("_law_thing", 7)]) rfl sc_law_ring_lists.nd (pi_range1 (by rfl) fr.range (pa_cons (pv 1) pa_nil)) (blkOk_by (own := [("_law_thing", 7)]) (N := N_law_ring_lists) (sc := defScope st_law_ring_lists) (by decide +kernel)) (fun _ _ _ _ _ => (pg_name (i := 7) sc_law_ring_lists.nd rfl (Or.inl rfl))) (fun _ _ _ _ _ => pts_one (pt_cmpR (ninq (K := K) rfl) (pv 7) (pe_ix (ixl (K := K) rfl) (pv 2) (pv 5) (fun _ _ => rfl)) rfl)) (fun _ _ _ _ _ => (pv 7))) pa_nil))))
      (pss_cons (ps_set (i := 8) sc_law_ring_lists.nd rfl (Or.inl rfl) (revl (K := K) rfl (pe_ix (ixl (K := K) rfl) (pv 2) (pv 5) (fun _ _ => rfl))))
      (Evl.pss_cut (ps_if (PW.pt (pw_or (pt_cmpR op_eq (pv 3) pe_int (nomark _)) (pw_or1 (PW.pt (pw_and (pt_cmpR op_eq (pv 3) pe_int (nomark _)) (pw_and1 (pt_cmpR op_eq (pe_def D_law_draw (hr.mono (by decide)) (pa_cons (pv 0) (pa_cons pe_int pa_nil))) pe_int (nomark _)))))))) (pss_one (ps_set (i := 8) sc_law_ring_lists.nd rfl (Or.inl rfl) (pe_def D_law_mixed_up (hr.mono (by decide)) (pa_cons (pv 0) (pa_cons (pv 8) pa_nil))))) pss_nil)
      (Evl.pss_cut (ps_set (i := 9) sc_law_ring_lists.nd rfl (Or.inl rfl) (pe_ifExp (pt_cmpR op_eq (pv 3) pe_int (nomark _)) (pe_def D_law_draw (hr.mono (by decide)) (pa_cons (pv 0) (pa_cons (pe_op op_add (pe_callB (lenq (K := K) rfl) (by rfl) fr.len (by decide +kernel) (pa_cons (pv 6) pa_nil)) pe_int) pa_nil))) (pe_callB (lenq (K := K) rfl) (by rfl) fr.len (by decide +kernel) (pa_cons (pv 6) pa_nil))))
      (pss_one (ps_expr (bmq (K := K) rfl PySem.F.plainAttrs_list PySem.F.slot_list_append PySem.F.type_list_append mt_append (pv 4) (pa_cons (pe_callTy (tupx (K := K) rfl) (by rfl) fr.tuple (by decide +kernel) (pa_cons (pe_op op_cat (pe_op op_cat (pe_slice (sll (K := K) rfl) (pv 6) (po_some (pv 9)) po_none) (pv 8)) (pe_slice (sll (K := K) rfl) (pv 6) po_none (po_some (pv 9)))) pa_nil)) pa_nil)))))))))
    (pss_one (ps_ret (pe_callTy (tupx (K := K) rfl) (by rfl) fr.tuple (by decide +kernel) (pa_cons (pv 4) pa_nil)))))), ?_⟩
    rw [sg_law_ring_lists]
    tm_at "r"
    refine ⟨d, c, g, b + 999, _, rfl, m, by decide, by decide, fun way H1 w0 w1 m1 e1 => ?_⟩
    tm_at "r"
    w_call pf n2 H2 e2 h2 u2 z2
    tm_at "r"
    have npf := m1.ne n2
    have npf0 : hid d g H pf = none := none_of_ex e1 (hid_none n2)
    refine ⟨_, rfl, by omega, by omega, ?_⟩
    rw [show ((n : Nat) : Int).toNat = n from rfl]
    refine for_run walk0 (fun i σ H' => (∃ v5 v6 v7 v8 v9, σ = [some (.ref d), some (.int (n : Int)), some (.ref ph), some (.int way), some (.ref pf), v5, v6, v7, v8, v9]) ∧ Ex (hid d g H) (hid d g H') ∧ MI H' d c g (b + (999 - 43 * i)) ∧
      ∃ (ts : List Addr) (Rs : List (List Int)), hid d g H' pf = some (.lst (ts.map V.ref)) ∧ Paired (fun (r : List Int) t => ExT (hid d g H') t (r.map V.int)) Rs ts ∧ Rs.length = i ∧ ∀ r ∈ Rs, PermI n r)
      ⟨⟨_, _, _, _, _, rfl⟩, e1.trans (hid_mono e2), m1.mono e2 (Nat.le_refl _), [], [], hid_at h2 ⟨npf.1, npf.2.1⟩, .nil, rfl, fun r h => nomatch h⟩ (fun _ _ _ _ _ => trivial) ?_ ?_
    · rintro i x σ H3 H4 hi ⟨⟨v5, v6, v7, v8, v9, rfl⟩, e3, m3, ts, Rs, hts, prt, lR, hR⟩ ⟨rfl, rfl⟩
      have hl := hk.len
      have ha4 := ha.keep e3
      obtain ⟨q, q1, q2, q3, q4⟩ := ha4.at (p := (i : Int)) (by omega) (by omega)
      have hm := hix_mem (h := held) (p := (i : Int)) (by omega) (by omega)
      have lh : (hix held (i : Int)).length ≤ n := by
        have z := nd_le (m := rgI 0 n) (hk.nd _ hm) fun x hx => by
          have := hk.rng _ hm x hx
          exact rgI_mem.mpr (by omega)
        rw [rgI_len] at z
        exact z
      tm_at "r"
      refine ⟨_, rfl, by omega, by omega, ?_⟩
      rw [show ((n : Nat) : Int).toNat = n from rfl]
      refine lc_vals walk0 (fun j => !decide ((j : Int) ∈ hix held (i : Int))) (fun j => .int (j : Int)) (fun _ _ => trivial) (by omega) ?_ ?_
      · rintro D j v H5 H6 acc KN KY hj e5 ⟨rfl, rfl⟩ hD hy hk1 hk2
        refine ⟨rfl, ?_⟩
        tm_at "r"
        refine r_ixL (ex_l e5 (SqL.of (hid_le _ _ ha4.lst))) q2 ?_
        refine ⟨q, _, rfl, .inl (SqL.of (e5 _ _ (hid_le _ _ q3))), rfl, flat_ints _, ?_⟩
        rw [if_pos rfl, inV_ints]
        tm_at "r"
        refine r_ite (fun hb => ?_) (fun hb => hk1 hb _ (Ex.refl _))
        tm_at "r"
        exact hk2 hb _ (Ex.refl _)
      · intro D H5 nD e5 h5
        have hD5 : H5 D = some (.lst ((((rgI 0 n).filter fun x => !decide (x ∈ hix held (i : Int)))).map V.int)) := by
          rw [h5]
          exact congrArg (fun z => some (HO.lst z)) (rg0_fm n fun x => !decide (x ∈ hix held (i : Int)))
        have nDm := m3.ne nD
        generalize hfil : (rgI 0 n).filter (fun x => !decide (x ∈ hix held (i : Int))) = fil at hD5
        have lf : fil.length ≤ n := by
          rw [← hfil]
          refine Nat.le_trans (List.length_filter_le _ _) ?_
          rw [rgI_len]
          exact Nat.le_refl _
        tm_at "r"
        refine ⟨d, c, g, D, b + (979 - 43 * i), fil, rfl, m3.mono e5 (by omega), SqL.of (hid_at hD5 ⟨nDm.1, nDm.2.1⟩), by omega, fun p6 H6 rest prest m6 e6 np6 h6 => ?_⟩
        have lrest : rest.length ≤ n := by rw [prest.length_eq]; exact lf
        tm_at "r"
        have e06 := (e3.trans (hid_mono e5)).trans e6
        have ha6 := ha.keep e06
        obtain ⟨q', q1', q2', q3', q4'⟩ := ha6.at (p := (i : Int)) (by omega) (by omega)
        refine r_ixL (SqL.of (hid_le _ _ ha6.lst)) q2' ?_
        refine ⟨q', _, rfl, SqL.of (hid_le _ _ q3'), ?_⟩
        rw [← List.map_reverse]
        w_call p7 n7 H7 e7 h7 u7 z7
        have n7m := m6.ne n7
        tm_at "r"
        refine r_cut (fun σ' H8 => ∃ (p8 : Addr) (v7 : Option V) (liked : List Int), σ' = [some (.ref d), some (.int (n : Int)), some (.ref ph), some (.int way), some (.ref pf), some (.int (i : Int)), some (.ref p6), v7, some (.ref p8), v9] ∧ liked.Perm (hix held (i : Int)) ∧ MI H8 d c g (b + (958 - 43 * i)) ∧ Ex (hid d g H7) (hid d g H8) ∧ hid d g H8 p8 = some (.lst (liked.map V.int))) ?_ ?_
        · have done : ∀ {H8 : Hp} {v7 : Option V}, MI H8 d c g (b + (978 - 43 * i)) → Ex (hid d g H7) (hid d g H8) → ∃ (p8 : Addr) (v7' : Option V) (liked : List Int), [some (V.ref d), some (.int (n : Int)), some (.ref ph), some (.int way), some (.ref pf), some (.int (i : Int)), some (.ref p6), v7, some (.ref p7), v9] = [some (.ref d), some (.int (n : Int)), some (.ref ph), some (.int way), some (.ref pf), some (.int (i : Int)), some (.ref p6), v7', some (.ref p8), v9] ∧ liked.Perm (hix held (i : Int)) ∧ MI H8 d c g (b + (958 - 43 * i)) ∧ Ex (hid d g H7) (hid d g H8) ∧ hid d g H8 p8 = some (.lst (liked.map V.int)) :=
            fun m8 e8 => ⟨p7, _, _, rfl, List.reverse_perm _, m8.mono (Ex.refl _) (by omega), e8, e8 _ _ (hid_at h7 ⟨n7m.1, n7m.2.1⟩)⟩
          have mixit : ∀ {H8 : Hp} {σ8 : L2.St} {N : L2.St → Hp → Prop}, MI H8 d c g (b + (978 - 43 * i)) → Ex (hid d g H7) (hid d g H8) →
              (∀ p8 H9 (liked : List Int), liked.Perm (hix held (i : Int)) → MI H9 d c g (b + (958 - 43 * i)) → Ex (hid d g H7) (hid d g H9) → hid d g H9 p8 = some (.lst (liked.map V.int)) → N (σ8.set 8 (some (.ref p8))) H9) → spMixUp K [.ref d, .ref p7] H8 (fun x H' => gName 8 x σ8 H' N) E0 := fun m8 e8 hk =>
            ⟨d, c, g, p7, b + (958 - 43 * i), (hix held (i : Int)).reverse, rfl, m8.mono (Ex.refl _) (by rw [List.length_reverse]; omega), SqL.of (e8 _ _ (hid_at h7 ⟨n7m.1, n7m.2.1⟩)), by rw [List.length_reverse]; omega, fun p8 H9 ys py m9 e9 _ h9 => hk p8 H9 ys (py.trans (List.reverse_perm _)) m9 (e8.trans e9) h9⟩
          tm_at "r"
          refine r_ite (fun hb => ?_) (fun hb => ?_)
          · tm_at "r"
            refine mixit (m6.mono e7 (by omega)) (Ex.refl _) fun p8 H9 liked pl m9 e9 h9 => ?_
            exact ⟨p8, _, liked, rfl, pl, m9, e9, h9⟩
          · tm_at "r"
            refine r_ite (fun hb => ?_) (fun hb => ?_)
            · tm_at "r"
              refine ⟨d, c, g, b + (978 - 43 * i), _, rfl, m6.mono e7 (by omega), by decide, by decide, fun r H8 r0 r1 m8 e8 => ?_⟩
              tm_at "r"
              refine r_ite (fun hb => ?_) (fun hb => ?_)
              · tm_at "r"
                refine mixit m8 e8 fun p8 H9 liked pl m9 e9 h9 => ?_
                exact ⟨p8, _, liked, rfl, pl, m9, e9, h9⟩
              · tm_at "r"
                exact done m8 e8
            · tm_at "r"
              exact done (m6.mono e7 (by omega)) (Ex.refl _)
        · rintro σ' H8 ⟨p8, v7, liked, rfl, pl, m8, e8, h8⟩
          have hr8 : hid d g H8 p6 = some (.lst (rest.map V.int)) := e8 _ _ (hid_mono e7 _ _ h6)
          refine r_cut (fun σ' H9 => ∃ cut : Int, σ' = [some (.ref d), some (.int (n : Int)), some (.ref ph), some (.int way), some (.ref pf), some (.int (i : Int)), some (.ref p6), v7, some (.ref p8), some (.int cut)] ∧ 0 ≤ cut ∧ cut ≤ rest.length ∧ MI H9 d c g (b + (957 - 43 * i)) ∧ Ex (hid d g H8) (hid d g H9)) ?_ ?_
          · tm_at "r"
            refine r_ite (fun hb => ?_) (fun hb => ?_)
            · tm_at "r"
              refine r_lenL (SqL.of (hid_le _ _ hr8)) ?_
              rw [List.length_map]
              tm_at "r"
              refine ⟨d, c, g, b + (957 - 43 * i), _, rfl, m8.mono (Ex.refl _) (by omega), by omega, by omega, fun r H9 r0 r1 m9 e9 => ?_⟩
              exact ⟨r, rfl, r0, by omega, m9, e9⟩
            · tm_at "r"
              refine r_lenL (SqL.of (hid_le _ _ hr8)) ?_
              rw [List.length_map]
              tm_at "r"
              exact ⟨_, rfl, by omega, Int.le_refl _, m8.mono (Ex.refl _) (by omega), Ex.refl _⟩
          · rintro σ' H9 ⟨cut, rfl, c0, c1, m9, e9⟩
            have e09 := ((e06.trans (hid_mono e7)).trans e8).trans e9
            have e39 := (((hid_mono e5).trans e6).trans (hid_mono e7)).trans (e8.trans e9)
            have hts9 := e39 _ _ hts
            have lts := (Paired.length prt).symm
            tm_at "r"
            refine ⟨ty_l (SqL.of (hid_le _ _ hts9)), ?_⟩
            tm_at "r"
            refine ⟨_, rfl, ?_⟩
            tm_at "r"
            refine ⟨p6, _, rfl, SqL.of (hid_le _ _ (e9 _ _ hr8)), ?_⟩
            rw [cut_lo c0 (by rw [List.length_map]; exact c1), ← List.map_drop]
            w_call p10 n10 H10 e10 h10 u10 z10
            tm_at "r"
            have lpl := pl.length_eq
            refine ⟨p10, p8, _, _, rfl, rfl, h10, e10 _ _ (hid_le _ _ (e9 _ _ h8)), sz_of (by rw [List.length_map, List.length_map, List.length_drop]; omega), ?_⟩
            rw [← List.map_append]
            w_call p11 n11 H11 e11 h11 u11 z11
            tm_at "r"
            refine ⟨_, rfl, ?_⟩
            refine ⟨p6, _, rfl, SqL.of (e11 _ _ (e10 _ _ (hid_le _ _ (e9 _ _ hr8)))), ?_⟩
            rw [cut_hi c0 (by rw [List.length_map]; exact c1), ← List.map_take]
            w_call p12 n12 H12 e12 h12 u12 z12
            refine ⟨p11, p12, _, _, rfl, rfl, e12 _ _ h11, h12, sz_of (by rw [List.length_map, List.length_map, List.length_append, List.length_drop, List.length_take]; omega), ?_⟩
            rw [← List.map_append]
            w_call p13 n13 H13 e13 h13 u13 z13
            tm_at "r"
            refine r_tupX (SqL.of h13) fun pt H14 n14 e14 x14 => ?_
            tm_at "r"
            have e914 := (((e10.trans e11).trans e12).trans e13).trans e14
            refine r_app (e914 _ _ (hid_le _ _ hts9)) (by rw [List.length_map]; omega) ?_
            generalize hu15 : upd H14 pf _ = H15
            obtain ⟨m15, h15⟩ := mut_of hu15
            obtain ⟨o, x1, x2, x3⟩ := x14
            have dpt : pt ≠ pf := fun e => by rw [e, e914 _ _ (hid_le _ _ hts9)] at x1; cases x1
            have nt := m9.ne (none_of_ex (((e10.trans e11).trans e12).trans e13) n14)
            have npf9 : pf ≠ d ∧ pf ≠ g ∧ pf ≠ c := npf
            tm_at "r"
            refine ⟨⟨_, _, _, _, _, rfl⟩, hid_mut (e09.trans (hid_mono e914)) npf0 m15, (m9.mono e914 (by omega)).mut m15 npf, ts ++ [pt], Rs ++ [rest.drop cut.toNat ++ liked ++ rest.take cut.toNat], ?_, ?_, by rw [List.length_append, lR] <;> rfl, fun r hr => ?_⟩
            · rw [List.map_append]
              exact hid_at h15 ⟨npf.1, npf.2.1⟩
            · have old : Paired (fun (r : List Int) t => ExT (hid d g H15) t (r.map V.int)) Rs ts := by
                refine Paired.mapP prt fun r t ⟨o, y1, y2, y3⟩ => ⟨o, hmut m15 _ _ (fun e => ?_) (hid_mono e914 _ _ (e39 _ _ y1)), y2, y3⟩
                rw [e, hts] at y1
                cases y1
              have last : ExT (hid d g H15) pt ((rest.drop cut.toNat ++ liked ++ rest.take cut.toNat).map V.int) := ⟨o, hid_at (m15 _ _ dpt x1) ⟨nt.1, nt.2.1⟩, x2, x3⟩
              have snoc : ∀ {l : List (List Int)} {m : List Addr}, Paired (fun (r : List Int) t => ExT (hid d g H15) t (r.map V.int)) l m → Paired (fun (r : List Int) t => ExT (hid d g H15) t (r.map V.int)) (l ++ [rest.drop cut.toNat ++ liked ++ rest.take cut.toNat]) (m ++ [pt]) := by
                intro l m p
                induction p with
                | nil => exact .cons last .nil
                | cons h t ih => exact .cons h ih
              exact snoc old
            · rcases List.mem_append.mp hr with hr | hr
              · exact hR r hr
              · rw [List.mem_singleton.mp hr]
                refine permI_of (rest := rest) (hk.nd _ hm) (hk.rng _ hm) (by rw [hfil]; exact prest) pl ?_
                have t1 : (rest.drop cut.toNat ++ liked ++ rest.take cut.toNat).Perm (rest.take cut.toNat ++ (rest.drop cut.toNat ++ liked)) := List.perm_append_comm
                rw [← List.append_assoc, List.take_append_drop] at t1
                exact t1
    · rintro σ H3 ⟨⟨v5, v6, v7, v8, v9, rfl⟩, e3, m3, ts, Rs, hts, prt, lR, hR⟩
      tm_at "r"
      refine r_tupX (SqL.of (hid_le _ _ hts)) fun p H4 n4 e4 x4 => ?_
      obtain ⟨o, x1, x2, x3⟩ := x4
      have n4m := m3.ne n4
      exact k p Rs H4 (e3.trans (hid_mono e4)) (m3.mono e4 (by omega)) ⟨ts, (ExT.sq (⟨o, hid_at x1 ⟨n4m.1, n4m.2.1⟩, x2, x3⟩ : ExT (hid d g H4) p (ts.map V.ref))), Paired.mapP prt fun r t y => y.ex (hid_mono e4)⟩ (rkOk_of h3 h20 lR hR) lR
end
end SW
end

section
set_option Elab.async false
set_option linter.all false
set_option maxRecDepth 100000
set_option maxHeartbeats 4000000
namespace SW
open PySem PySem.Spec PyProof.Rows L2 Evl
local macro_rules | `(tactic| tm_at "r1") => `(tactic| first
  | ((with_reducible refine' r_var ?hx ?_); (case hx => exact rfl))
  | with_reducible refine r_c ?_
  | with_reducible refine r_op ?_
  | with_reducible refine r_I0 ?_
  | with_reducible refine r_un ?_
  | with_reducible refine r_U ?_
  | with_reducible refine r_cons ?_
  | with_reducible refine r_nil ?_
  | with_reducible refine r_call ?_
  | with_reducible refine r_cb ?_
  | with_reducible refine r_test ?_
  | with_reducible refine r_blp ?_
  | with_reducible refine r_tYes ?_
  | with_reducible refine r_ifT ?_
  | with_reducible refine r_ifF ?_
  | ((with_reducible refine' r_aug ?hx ?_); (case hx => exact rfl))
  | with_reducible refine r_seq ?_
  | with_reducible refine r_asg ?_
  | with_reducible refine r_gname ?_
  | with_reducible refine r_ret ?_
  | with_reducible refine r_tup ?_
  | with_reducible refine r_lst ?_
  | with_reducible refine r_ifS ?_
  | with_reducible refine r_par ?_
  | with_reducible refine r_two ?_
  | with_reducible refine r_lc ?_
  | with_reducible refine r_rng1 ?_
  | with_reducible refine r_rng2 ?_
  | with_reducible refine r_iList ?_
  | with_reducible refine r_iTup ?_
  | with_reducible refine r_for ?_
  | with_reducible refine r_not ?_
  | with_reducible refine r_and ?_
  | with_reducible refine r_or ?_
  | with_reducible refine r_andV ?_
  | with_reducible refine r_orV ?_
  | with_reducible refine r_notV ?_
  | with_reducible refine r_if ?_
  | with_reducible refine r_chain ?_
  | with_reducible refine r_B ?_
  | with_reducible refine r_next ?_
  | with_reducible refine r_drop ?_
  | with_reducible refine r_retN ?_
  | with_reducible refine r_ipI ?_
  | ((with_reducible refine' r_sz ?hz ?_); (case hz => exact Nat.le_of_ble_eq_true rfl))
  | with_reducible refine r_gCons ?_
  | with_reducible refine r_gNil ?_
  | with_reducible refine r_par3 ?_
  | with_reducible refine r_three ?_
  | with_reducible refine r_listRg ?_
  | with_reducible refine r_tupRg ?_
  | with_reducible refine r_augS ?_
  | with_reducible refine r_lenSetT ?_
  | with_reducible refine r_lenSetL ?_
  | with_reducible refine r_ifNT ?_
  | with_reducible refine r_ifNF ?_
  | with_reducible refine r_eqI ?_
  | with_reducible refine r_neI ?_
  | with_reducible refine r_eqS ?_
  | with_reducible refine r_neS ?_
  | with_reducible refine r_bm ?_
  | with_reducible refine r_bt ?_
  | with_reducible refine r_iEnT ?_
  | with_reducible refine r_iEnL ?_
  | with_reducible refine r_dc ?_
  | with_reducible refine r_dget ?_
  | with_reducible refine r_dput ?_
  | with_reducible refine r_sl ?_
  | with_reducible refine r_noP ?_
  | with_reducible refine r_part ?_
  | with_reducible refine r_revL ?_
  | with_reducible refine r_gSub ?_)
local macro_rules | `(tactic| tm_at "r") => `(tactic| repeat tm_at "r1")
local macro_rules | `(tactic| w_call $p $n $H1 $e $h $u $z) => `(tactic| (intro $p:ident $n:ident; generalize $u:ident : upd _ $p:ident _ = $H1:ident; obtain ⟨$e, $h⟩ := new_of $n:ident $u:ident))
theorem tups_hid {d g : Addr} {H : Hp} {ls : List (List Int)} {ys : List V} (t : Tups H ls ys) (hd : ∀ xs, H d ≠ some (.tup xs)) (hg : ∀ xs, H g ≠ some (.tup xs)) : Tups (hid d g H) ls ys :=
  Paired.mapP t fun _ _ ⟨p, e, h⟩ => ⟨p, e, hid_at h ⟨fun z => hd _ (z ▸ h), fun z => hg _ (z ▸ h)⟩⟩
theorem MI.notup {H : Hp} {d c g : Addr} {b : Nat} (m : MI H d c g b) : (∀ xs, H d ≠ some (.tup xs)) ∧ ∀ xs, H g ≠ some (.tup xs) := by
  obtain ⟨cs, gs, k, h1, h2, h3, h4, h5, h6, h7⟩ := m.ex
  exact ⟨fun xs z => by rw [h1] at z; (cases z), fun xs z => by rw [h4] at z; (cases z)⟩
section
variable {P : Program} {w : World} {K : PySem.W.Frag} {mg : Str → Option Value} {base : Heap} {f : Addr} {fd : FuncData} {C : Addr}
/-- lists and displacements of a ring of n -/
structure CaseAt (K : PySem.W.Frag) (H : Hp) (n : Nat) (pR pm : Addr) (R : List (List Int)) (dd : List Int) : Prop where
  rk : RkX K H pR R
  ok : RkOk R
  rl : R.length = n
  mv : SqT K H pm (dd.map V.int)
  dk : DispOk dd
  dl : dd.length = n
def spCase (K : PySem.W.Frag) : Sp := fun vs H Q _ => ∃ (d c g : Addr) (b n : Nat), vs = [.ref d, .int (n : Int)] ∧ MI H d c g (b + 2000) ∧ 3 ≤ n ∧ n ≤ 8 ∧
  ∀ p pR pm R dd H', Ex (hid d g H) (hid d g H') → MI H' d c g b → hid d g H' p = some (.tup [.ref pR, .ref pm]) → CaseAt K (hid d g H') n pR pm R dd → Q (.ref p) H'
theorem walk_disp {n : Nat} (h3 : 3 ≤ n) (h20 : n ≤ 20) {held : List (List Int)} {s : List Int × List Int} (pk : PosOk n s) (hk : HeldOk n held s) : DispOk s.2 := by
  refine disp_posOk h3 h20 pk fun x hx => ?_
  obtain ⟨i, hi, rfl⟩ := List.getElem_of_mem hx
  have l2 := pk.l2
  have z := hk.bd (i : Int) (by omega) (by omega)
  have e : ix s.2 (i : Int) = s.2[i] := by
    unfold ix
    rw [List.getD_eq_getElem?_getD, Int.toNat_natCast, List.getElem?_eq_getElem hi] <;> rfl
  rw [e] at z
  exact z
abbrev N_law_ring_case : List PySem.Str := ["_law_m", "_law_many", "_law_held", "_law_moves", "_law_lists", "_law_way", "_law_row", "_law_some"]
theorem sc_law_ring_case : FnScope N_law_ring_case ["_law_m", "_law_many"] (defScope st_law_ring_case) := ⟨rfl, rfl, rfl, by decide +kernel, rfl, by decide +kernel, by decide +kernel⟩
theorem sg_law_ring_case (v0 v1 : V) : L2.start N_law_ring_case [v0, v1] = [some v0, some v1, none, none, none, none, none, none] := rfl
theorem bi_law_ring_case {K : PySem.W.Frag} {f : Addr} {fd : FuncData} (F : FnP K "_law_ring_case" st_law_ring_case f fd) : Binds K fd ["_law_m", "_law_many"] [] := F.bindsN fun _ _ _ _ _ _ us hl => match us, hl with | [_, _], _ => rfl

-- 0:_law_m 1:_law_many 2:_law_held 3:_law_moves 4:_law_lists 5:_law_way 6:_law_row 7:_law_some
theorem ok_ring_case (F : FnP K "_law_ring_case" st_law_ring_case f fd) (fr : Free mg) (D_law_draw : Def P w K mg base CX0 2 "_law_draw" ["_law_m", "_law_top"] spDraw)
    (D_law_mixed_up : Def P w K mg base CX0 3 "_law_mixed_up" ["_law_m", "_law_things"] (spMixUp K)) (D_law_ring_walk : Def P w K mg base CX0 3 "_law_ring_walk" ["_law_m", "_law_many"] (spWalk K))
    (D_law_ring_lists : Def P w K mg base CX0 4 "_law_ring_lists" ["_law_m", "_law_many", "_law_held"] (spLists K)) (D_law_ring_choices : Def P w K mg base CX0 1 "_law_ring_choices" ["_law_row"] (spChoices K)) : FnOk P w K mg base CX0 5 f fd ["_law_m", "_law_many"] (spCase K) := by
  refine F.ok sc_law_ring_case (fun vs H Q E h => ?_) (fun cdv A outer s H vs Q E hr h => ?_)
  · obtain ⟨d, c, g, b, n, rfl, _⟩ := h
    rfl
  · obtain ⟨d, c, g, b, n, rfl, m, h3, h8, k⟩ := h
    have hu64 := hr.units
    refine ⟨_, PSs.nox (pss_cons (ps_asg (pe_def D_law_ring_walk (hr.mono (by decide)) (pa_cons (pv 0) (pa_cons (pv 1) pa_nil))) (pgt (n := 2) (K := K) rfl rfl (pgs_cons (pg_name (i := 2) sc_law_ring_case.nd rfl (Or.inl rfl)) (pgs_cons (pg_name (i := 3) sc_law_ring_case.nd rfl (Or.inl rfl)) pgs_nil))))
    (pss_cons (ps_par (i := 4) (j := 5) rfl sc_law_ring_case.nd rfl rfl (by decide) rfl rfl (pa_cons (pe_def D_law_ring_lists (hr.mono (by decide)) (pa_cons (pv 0) (pa_cons (pv 1) (pa_cons (pv 2) pa_nil)))) (pa_cons (pe_def D_law_draw (hr.mono (by decide)) (pa_cons (pv 0) (pa_cons pe_int pa_nil))) pa_nil)) (by rfl))
    (Evl.pss_cut (ps_if (pt_cmpR op_eq (pv 5) pe_int (nomark _)) (pss_one (ps_set (i := 3) sc_law_ring_case.nd rfl (Or.inl rfl) (pe_ix (ixt (K := K) rfl) (pe_def D_law_ring_walk (hr.mono (by decide)) (pa_cons (pv 0) (pa_cons (pv 1) pa_nil))) pe_int (fun _ _ => rfl)))) pss_nil)
    (Evl.pss_cut (ps_if (pt_cmpR op_eq (pv 5) pe_int (nomark _)) (pss_cons (ps_set (i := 6) sc_law_ring_case.nd rfl (Or.inl rfl) (pe_callTy (tupx (K := K) rfl) (by rfl) fr.tuple (by decide +kernel) (pa_cons (pe_def D_law_mixed_up (hr.mono (by decide)) (pa_cons (pv 0) (pa_cons (pe_listRg rfl (by rfl) fr.list (prg_1 (by rfl) fr.range (pv 1))) pa_nil))) pa_nil)))
      (pss_cons (ps_set (i := 7) sc_law_ring_case.nd rfl (Or.inl rfl) (pe_def D_law_ring_choices (hr.mono (by decide)) (pa_cons (pv 6) pa_nil)))
      (pss_one (ps_set (i := 3) sc_law_ring_case.nd rfl (Or.inl rfl) (pe_ifExp (pt_cmpR (ned (K := K) rfl hu64) (pv 7) (pe_lst pa_nil) (nomark _)) (pe_ix (ixl (K := K) rfl) (pv 7) (pe_def D_law_draw (hr.mono (by decide)) (pa_cons (pv 0) (pa_cons (pe_callB (lenq (K := K) rfl) (by rfl) fr.len (by decide +kernel) (pa_cons (pv 7) pa_nil)) pa_nil))) (fun _ _ => rfl)) (pv 3)))))) pss_nil)
    (pss_one (ps_ret (pe_tup (pa_cons (pv 4) (pa_cons (pv 3) pa_nil))))))))), ?_⟩
    rw [sg_law_ring_case]
    tm_at "r"
    refine ⟨d, c, g, b + 1900, n, rfl, m, h3, by omega, fun pw ph pm qs held s H1 e1 m1 hw1 ha1 xm1 pk hk => ?_⟩
    refine r_gTup (SqT.of (hid_le _ _ hw1)) rfl ?_
    tm_at "r"
    refine ⟨d, c, g, ph, b + 900, n, qs, held, s, rfl, m1, h3, by omega, ha1, hk, fun pR R H2 e2 m2 hR ok lR => ?_⟩
    tm_at "r"
    refine ⟨d, c, g, b + 899, _, rfl, m2, by decide, by decide, fun way H3 w0 w1 m3 e3 => ?_⟩
    have e02 := e1.trans (e2.trans e3)
    have hR3 := hR.ex e3
    tm_at "r"
    refine r_cut (fun σ' H4 => ∃ pm' dd, σ' = [some (.ref d), some (.int (n : Int)), some (.ref ph), some (.ref pm'), some (.ref pR), some (.int way), none, none] ∧ Ex (hid d g H3) (hid d g H4) ∧ MI H4 d c g (b + 400) ∧ SqT K (hid d g H4) pm' (dd.map V.int) ∧ DispOk dd ∧ dd.length = n) ?_ ?_
    · tm_at "r"
      refine r_ite (fun hb => ?_) (fun hb => ?_)
      · tm_at "r"
        refine ⟨d, c, g, b + 400, n, rfl, m3.mono (Ex.refl _) (by omega), h3, by omega, fun pw2 ph2 pm2 qs2 held2 s2 H4 e4 m4 hw4 ha4 xm4 pk2 hk2 => ?_⟩
        tm_at "r"
        refine r_ixT (SqT.of (hid_le _ _ hw4)) (at_of (j := 1) rfl rfl) ?_
        tm_at "r"
        exact ⟨pm2, s2.2, rfl, e4, m4, xm4.sq, walk_disp h3 (by omega) pk2 hk2, pk2.l2⟩
      · tm_at "r"
        exact ⟨pm, s.2, rfl, Ex.refl _, m3.mono (Ex.refl _) (by omega), ex_t (e2.trans e3) xm1.sq, walk_disp h3 (by omega) pk hk, pk.l2⟩
    · rintro σ' H4 ⟨pm', dd, rfl, e4, m4, sm, dk, dl⟩
      refine r_cut (fun σ' H5 => ∃ pm'' dd v6 v7, σ' = [some (.ref d), some (.int (n : Int)), some (.ref ph), some (.ref pm''), some (.ref pR), some (.int way), v6, v7] ∧ Ex (hid d g H4) (hid d g H5) ∧ MI H5 d c g b ∧ SqT K (hid d g H5) pm'' (dd.map V.int) ∧ DispOk dd ∧ dd.length = n) ?_ ?_
      · tm_at "r"
        refine r_ite (fun hb => ?_) (fun hb => ?_)
        · tm_at "r"
          refine ⟨_, rfl, rg0_ok (by omega), ?_⟩
          rw [rgV_eq]
          w_call pl n5 H5 e5 h5 u5 z5
          have n5m := m4.ne n5
          tm_at "r"
          refine ⟨d, c, g, pl, b + 300, rgI 0 n, rfl, m4.mono e5 (by rw [rgI_len]; omega), SqL.of (hid_at h5 ⟨n5m.1, n5m.2.1⟩), by rw [rgI_len]; omega, fun p6 H6 row prow m6 e6 n6 h6 => ?_⟩
          tm_at "r"
          refine r_tupX (SqL.of (hid_le _ _ h6)) fun pt H7 n7 e7 x7 => ?_
          tm_at "r"
          have pI : PermI n row := by
            have nd0 : (rgI 0 n).Nodup := by
              unfold rgI
              refine List.pairwise_iff_getElem.mpr fun i j hi hj hij e => ?_
              simp at e
              omega
            refine ⟨by rw [prow.length_eq, rgI_len], prow.nodup_iff.mpr nd0, fun x hx => ?_, fun x a z => prow.mem_iff.mpr (rgI_mem.mpr (by omega))⟩
            have := rgI_mem.mp (prow.mem_iff.mp hx)
            omega
          refine ⟨pt, n, row, rfl, x7, pI, h3, h8, fun p8 H8 ls ys e8 n8 h8' ty8 hls lys => ?_⟩
          have e48 := ((hid_mono (d := d) (g := g) e5).trans e6).trans (hid_mono (e7.trans e8))
          have m8 := m6.mono (e7.trans e8) (Nat.le_refl _)
          have n8m := m6.ne (none_of_ex e7 n8)
          tm_at "r"
          w_call p9 n9 H9 e9 h9 u9 z9
          refine ⟨.list (ls.map dTI), .list [], .lst (SqL.of (e9 _ _ h8')) (ty8.mono (TEx.of e9)).dp, .lst (SqL.of h9) .nil, sh_tis _, sh_nilL, ?_⟩
          tm_at "r"
          rw [eqv_tis_nil]
          have lty := ty8.len
          refine r_ite (fun hc => ?_) (fun hc => ?_)
          · have hne : ls ≠ [] := by simpa using hc
            have hl0 : 0 < ls.length := List.length_pos_iff.mpr hne
            tm_at "r"
            refine r_lenL (SqL.of (e9 _ _ h8')) ?_
            tm_at "r"
            refine ⟨d, c, g, b + 1, _, rfl, m8.mono e9 (by omega), by omega, by omega, fun r H10 r0 r1 m10 e10 => ?_⟩
            have h10 : hid d g H10 p8 = some (.lst ys) := e10 _ _ (hid_mono e9 _ _ (hid_at h8' ⟨n8m.1, n8m.2.1⟩))
            have ty10 : Tups (hid d g H10) ls ys := (tups_hid ty8 m8.notup.1 m8.notup.2).mono (TEx.of ((hid_mono e9).trans e10))
            have hr1 : r.toNat < ys.length := by omega
            obtain ⟨l, q, hl1, hl2, hl3⟩ := ty10.at (List.getElem?_eq_getElem hr1)
            refine r_ixL (SqL.of (hid_le _ _ h10)) (at_of (j := r.toNat) (by omega) (List.getElem?_eq_getElem hr1)) ?_
            rw [hl2]
            tm_at "r"
            have hml : l ∈ ls := List.mem_of_getElem? hl1
            exact ⟨q, l, _, _, rfl, (e48.trans (hid_mono e9)).trans e10, m10.mono (Ex.refl _) (by omega), SqT.of hl3, (hls l hml).1, (hls l hml).2⟩
          · tm_at "r"
            exact ⟨pm', dd, _, _, rfl, e48.trans (hid_mono e9), m8.mono e9 (by omega), ex_t (e48.trans (hid_mono e9)) sm, dk, dl⟩
        · tm_at "r"
          exact ⟨pm', dd, _, _, rfl, Ex.refl _, m4.mono (Ex.refl _) (by omega), sm, dk, dl⟩
      · rintro σ' H5 ⟨pm'', dd, v6, v7, rfl, e5, m5, sm, dk, dl⟩
        tm_at "r"
        w_call pr n6 H6 e6 h6 u6 z6
        have nr := m5.ne n6
        exact k pr pR pm'' R dd H6 ((e02.trans (e4.trans e5)).trans (hid_mono e6)) (m5.mono e6 (Nat.le_refl _)) (hid_at h6 ⟨nr.1, nr.2.1⟩) ⟨(hR3.ex (e4.trans e5)).ex (hid_mono e6), ok, lR, ex_t (hid_mono e6) sm, dk, dl⟩
end
end SW
end

section
set_option Elab.async false
set_option linter.all false
set_option maxRecDepth 100000
set_option maxHeartbeats 4000000
namespace SW
open PySem PySem.Spec PyProof.Rows L2 Evl
local macro_rules | `(tactic| tm_at "r1") => `(tactic| first
  | ((with_reducible refine' r_var ?hx ?_); (case hx => exact rfl))
  | with_reducible refine r_c ?_
  | with_reducible refine r_op ?_
  | with_reducible refine r_I0 ?_
  | with_reducible refine r_un ?_
  | with_reducible refine r_U ?_
  | with_reducible refine r_cons ?_
  | with_reducible refine r_nil ?_
  | with_reducible refine r_call ?_
  | with_reducible refine r_cb ?_
  | with_reducible refine r_test ?_
  | with_reducible refine r_blp ?_
  | with_reducible refine r_tYes ?_
  | with_reducible refine r_ifT ?_
  | with_reducible refine r_ifF ?_
  | ((with_reducible refine' r_aug ?hx ?_); (case hx => exact rfl))
  | with_reducible refine r_seq ?_
  | with_reducible refine r_asg ?_
  | with_reducible refine r_gname ?_
  | with_reducible refine r_ret ?_
  | with_reducible refine r_tup ?_
  | with_reducible refine r_lst ?_
  | with_reducible refine r_ifS ?_
  | with_reducible refine r_par ?_
  | with_reducible refine r_two ?_
  | with_reducible refine r_lc ?_
  | with_reducible refine r_rng1 ?_
  | with_reducible refine r_rng2 ?_
  | with_reducible refine r_iList ?_
  | with_reducible refine r_iTup ?_
  | with_reducible refine r_for ?_
  | with_reducible refine r_not ?_
  | with_reducible refine r_and ?_
  | with_reducible refine r_or ?_
  | with_reducible refine r_andV ?_
  | with_reducible refine r_orV ?_
  | with_reducible refine r_notV ?_
  | with_reducible refine r_if ?_
  | with_reducible refine r_chain ?_
  | with_reducible refine r_B ?_
  | with_reducible refine r_next ?_
  | with_reducible refine r_drop ?_
  | with_reducible refine r_retN ?_
  | with_reducible refine r_ipI ?_
  | ((with_reducible refine' r_sz ?hz ?_); (case hz => exact Nat.le_of_ble_eq_true rfl))
  | with_reducible refine r_gCons ?_
  | with_reducible refine r_gNil ?_
  | with_reducible refine r_par3 ?_
  | with_reducible refine r_three ?_
  | with_reducible refine r_listRg ?_
  | with_reducible refine r_tupRg ?_
  | with_reducible refine r_augS ?_
  | with_reducible refine r_lenSetT ?_
  | with_reducible refine r_lenSetL ?_
  | with_reducible refine r_ifNT ?_
  | with_reducible refine r_ifNF ?_
  | with_reducible refine r_eqI ?_
  | with_reducible refine r_neI ?_
  | with_reducible refine r_eqS ?_
  | with_reducible refine r_neS ?_
  | with_reducible refine r_bm ?_
  | with_reducible refine r_bt ?_
  | with_reducible refine r_iEnT ?_
  | with_reducible refine r_iEnL ?_
  | with_reducible refine r_dc ?_
  | with_reducible refine r_dget ?_
  | with_reducible refine r_dput ?_
  | with_reducible refine r_sl ?_
  | with_reducible refine r_noP ?_
  | with_reducible refine r_part ?_
  | with_reducible refine r_revL ?_
  | with_reducible refine r_gSub ?_)
local macro_rules | `(tactic| tm_at "r") => `(tactic| repeat tm_at "r1")
local macro_rules | `(tactic| w_call $p $n $H1 $e $h $u $z) => `(tactic| (intro $p:ident $n:ident; generalize $u:ident : upd _ $p:ident _ = $H1:ident; obtain ⟨$e, $h⟩ := new_of $n:ident $u:ident))
structure BlkI (n cnt : Nat) (s : List Int × List (List Int)) : Prop where
  l1 : s.1.length = n
  l2 : s.2.length = n
  bd : ∀ l ∈ s.2, l.length ≤ 1 + cnt
theorem blkI_step {n cnt p : Nat} {b : Int} {s : List Int × List (List Int)} (h : BlkI n cnt s) (hp : p + 1 < n) : BlkI n (cnt + 1) (blkS b s p) := by
  unfold blkS
  split
  · have l1 := h.l1
    have l2 := h.l2
    have z2 : (happ s.2 p (ix s.1 ((p : Int) + 1))).length = n := by unfold happ; rw [List.length_set]; exact l2
    have q2 : hix (happ s.2 p (ix s.1 ((p : Int) + 1))) ((p : Int) + 1) = hix s.2 ((p : Int) + 1) := by rw [hix_happ (by omega) (by omega) (by omega), if_neg (by omega)]
    refine ⟨by show (setI (setI s.1 _ _) _ _).length = n; rw [setI_len, setI_len]; exact l1, by show (happ (happ s.2 _ _) _ _).length = n; unfold happ; rw [List.length_set, List.length_set]; exact l2, fun l hl => ?_⟩
    rcases happ_in hl with hl | rfl
    · rcases happ_in hl with hl | rfl
      · have := h.bd l hl; omega
      · have := h.bd _ (hix_mem (h := s.2) (p := (p : Int)) (by omega) (by omega))
        rw [List.length_append, List.length_singleton]
        omega
    · rw [q2]
      have := h.bd _ (hix_mem (h := s.2) (p := (p : Int) + 1) (by omega) (by omega))
      rw [List.length_append, List.length_singleton]
      omega
  · exact ⟨h.l1, h.l2, fun l hl => Nat.le_succ_of_le (h.bd l hl)⟩
section
variable {P : Program} {w : World} {K : PySem.W.Frag} {mg : Str → Option Value} {base : Heap} {f : Addr} {fd : FuncData} {C : Addr}
def spBlock : Sp := fun vs H Q _ => ∃ (d c g : Addr) (b : Nat), vs = [.ref d] ∧ MI H d c g (b + 2) ∧ ∀ H', Ex (hid d g H) (hid d g H') → MI H' d c g b → Q (.bl true) H'
abbrev N_law_block_right : List PySem.Str := ["_law_m", "_law_a", "_law_b", "_law_many", "_law_row", "_law_held", "_law_who", "_law_time", "_law_at", "_law_moves", "_law_lists", "_law_thing", "_law_found"]
theorem sc_law_block_right : FnScope N_law_block_right ["_law_m"] (defScope st_law_block_right) := ⟨rfl, rfl, rfl, by decide +kernel, rfl, by decide +kernel, by decide +kernel⟩
theorem sg_law_block_right (v0 : V) : L2.start N_law_block_right [v0] = [some v0, none, none, none, none, none, none, none, none, none, none, none, none] := rfl
theorem bi_law_block_right {K : PySem.W.Frag} {f : Addr} {fd : FuncData} (F : FnP K "_law_block_right" st_law_block_right f fd) : Binds K fd ["_law_m"] [] := F.bindsN fun _ _ _ _ _ _ us hl => match us, hl with | [_], _ => rfl

-- 0:_law_m 1:_law_a 2:_law_b 3:_law_many 4:_law_row 5:_law_held* 6:_law_who* 7:_law_time 8:_law_at 9:_law_moves 10:_law_lists 11:_law_thing 12:_law_found
theorem ok_block_right (F : FnP K "_law_block_right" st_law_block_right f fd) (fr : Free mg) (D_law_draw : Def P w K mg base CX0 2 "_law_draw" ["_law_m", "_law_top"] spDraw) (D_decide_ring : Def P w K mg base CX0 7 "decide_ring" ["rankings", "displacements"] (spDecide K))
    (D_law_ring_run : Def P w K mg base CX0 3 "_law_ring_run" ["_law_lists", "_law_road"] (spLRun K)) : FnOk P w K mg base CX0 8 f fd ["_law_m"] spBlock := by
  refine F.ok sc_law_block_right (fun vs H Q E h => ?_) (fun cdv A outer s H vs Q E hr h => ?_)
  · obtain ⟨d, c, g, b, rfl, _⟩ := h
    rfl
  · obtain ⟨d, c, g, b, rfl, m, k⟩ := h
    have hu64 := hr.units
    refine ⟨_, PSs.nox (pss_cons (ps_par (i := 1) (j := 2) rfl sc_law_block_right.nd rfl rfl (by decide) rfl rfl (pa_cons (pe_op op_add pe_int (pe_def D_law_draw (hr.mono (by decide)) (pa_cons (pv 0) (pa_cons pe_int pa_nil)))) (pa_cons (pe_op op_add pe_int (pe_def D_law_draw (hr.mono (by decide)) (pa_cons (pv 0) (pa_cons pe_int pa_nil)))) pa_nil)) (by rfl))
    (pss_cons (ps_par (i := 3) (j := 4) rfl sc_law_block_right.nd rfl rfl (by decide) rfl rfl (pa_cons (pe_op op_add (pv 1) (pv 2)) (pa_cons (pe_listRg rfl (by rfl) fr.list (prg_1 (by rfl) fr.range (pe_op op_add (pv 1) (pv 2)))) pa_nil)) (by rfl))
    (pss_cons (ps_set (i := 5) sc_law_block_right.nd rfl (Or.inr rfl) (pe_lc (own := [("_law_who", 6)]) rfl sc_law_block_right.nd (pi_range1 (by rfl) fr.range (pa_cons (pv 3) pa_nil)) (blkOk_by (own := [("_law_who", 6)]) (N := N_law_block_right) (sc := defScope st_law_block_right) (by decide +kernel)) (fun _ _ _ _ _ => (pg_name (i := 6) sc_law_block_right.nd rfl (Or.inl rfl))) (fun _ _ _ _ _ => pts_nil) (fun _ _ _ _ _ => (pe_lst (pa_cons (pv 6) pa_nil)))))
    (pss_cons (ps_for PassesOwn.never rfl (pi_range1 (by rfl) fr.range (pa_cons (pv 3) pa_nil)) (pg_name (i := 7) sc_law_block_right.nd rfl (Or.inl rfl))
    (pss_one (ps_for PassesOwn.never rfl (pi_range1 (by rfl) fr.range (pa_cons (pe_op op_sub (pv 3) pe_int) pa_nil)) (pg_name (i := 8) sc_law_block_right.nd rfl (Or.inl rfl))
      (pss_one (ps_if (pt_chain op_lt op_le (pe_ix (ixl (K := K) rfl) (pv 4) (pv 8) (fun _ _ => rfl)) (pv 2) (pe_ix (ixl (K := K) rfl) (pv 4) (pe_op op_add (pv 8) pe_int) (fun _ _ => rfl))) (pss_cons (ps_asg (pe_tup (pa_cons (pe_ix (ixl (K := K) rfl) (pv 4) (pe_op op_add (pv 8) pe_int) (fun _ _ => rfl)) (pa_cons (pe_ix (ixl (K := K) rfl) (pv 4) (pv 8) (fun _ _ => rfl)) pa_nil))) (pgt (n := 2) (K := K) rfl rfl (pgs_cons (pg_sub (pv 4) (pv 8) set_list) (pgs_cons (pg_sub (pv 4) (pe_op op_add (pv 8) pe_int) set_list) pgs_nil))))
          (pss_cons (ps_expr (bmq (K := K) rfl PySem.F.plainAttrs_list PySem.F.slot_list_append PySem.F.type_list_append mt_append (pe_ix (ixl (K := K) rfl) (pv 5) (pv 8) (fun _ _ => rfl)) (pa_cons (pe_ix (ixl (K := K) rfl) (pv 4) (pv 8) (fun _ _ => rfl)) pa_nil)))
          (pss_one (ps_expr (bmq (K := K) rfl PySem.F.plainAttrs_list PySem.F.slot_list_append PySem.F.type_list_append mt_append (pe_ix (ixl (K := K) rfl) (pv 5) (pe_op op_add (pv 8) pe_int) (fun _ _ => rfl)) (pa_cons (pe_ix (ixl (K := K) rfl) (pv 4) (pe_op op_add (pv 8) pe_int) (fun _ _ => rfl)) pa_nil)))))) pss_nil)))))
    (pss_cons (ps_par (i := 9) (j := 10) rfl sc_law_block_right.nd rfl rfl (by decide) rfl rfl (pa_cons (pe_op (catt (K := K) rfl) (pe_op (rept (K := K) rfl) (pe_tup (pa_cons (pv 1) pa_nil)) (pv 2)) (pe_op (rept (K := K) rfl) (pe_tup (pa_cons (pe_op op_sub pe_int (pv 2)) pa_nil)) (pv 1))) (pa_cons (pe_lst pa_nil) pa_nil)) (by rfl))
    (pss_cons (ps_for PassesOwn.never rfl (pi_range1 (by rfl) fr.range (pa_cons (pv 3) pa_nil)) (pg_name (i := 6) sc_law_block_right.nd rfl (Or.inr rfl))
    (pss_one (ps_expr (bmq (K := K) rfl PySem.F.plainAttrs_list PySem.F.slot_list_append PySem.F.type_list_append mt_append (pv 10) (pa_cons (pe_callTy (tupx (K := K) rfl) (by rfl) fr.tuple (by decide +kernel) (pa_cons (pe_op op_cat (revl (K := K) rfl (pe_ix (ixl (K := K) rfl) (pv 5) (pv 6) (fun _ _ => rfl))) (pe_lc (own := [("_law_thing", 11)]) rfl sc_law_block_right.nd (pi_range1 (by rfl) fr.range (pa_cons (pv 3) pa_nil)) (blkOk_by (own := [("_law_thing", 11)]) (N := N_law_block_right) (sc := defScope st_law_block_right) (by decide +kernel)) (fun _ _ _ _ _ => (pg_name (i := 11) sc_law_block_right.nd rfl (Or.inl rfl))) (fun _ _ _ _ _ => pts_one (pt_cmpR (ninq (K := K) rfl) (pv 11) (pe_ix (ixl (K := K) rfl) (pv 5) (pv 6) (fun _ _ => rfl)) rfl)) (fun _ _ _ _ _ => (pv 11)))) pa_nil)) pa_nil)))))
    (pss_cons (ps_set (i := 12) sc_law_block_right.nd rfl (Or.inl rfl) (pe_def D_decide_ring (hr.mono (by decide)) (pa_cons (pe_callTy (tupx (K := K) rfl) (by rfl) fr.tuple (by decide +kernel) (pa_cons (pv 10) pa_nil)) (pa_cons (pv 9) pa_nil))))
    (pss_one (ps_ret (pe_and (pe_cmpR op_eq (pe_ix (ixt (K := K) rfl) (pv 12) pe_int (fun _ _ => rfl)) pe_str (nomark _)) (pe_and (pe_cmpR op_eq (pe_callB (lenq (K := K) rfl) (by rfl) fr.len (by decide +kernel) (pa_cons (pe_ix (ixt (K := K) rfl) (pv 12) pe_int (fun _ _ => rfl)) pa_nil)) (pe_op op_mul (pv 1) (pv 2)) (nomark _)) (pe_one (pe_cmpR (eqd (K := K) rfl hu64) (pe_def D_law_ring_run (hr.mono (by decide)) (pa_cons (pe_callTy (tupx (K := K) rfl) (by rfl) fr.tuple (by decide +kernel) (pa_cons (pv 10) pa_nil)) (pa_cons (pe_ix (ixt (K := K) rfl) (pv 12) pe_int (fun _ _ => rfl)) pa_nil))) (pv 9) (nomark _)))))))))))))), ?_⟩
    rw [sg_law_block_right]
    tm_at "r"
    refine ⟨d, c, g, b + 1, _, rfl, m, by decide, by decide, fun r1 H1 ra0 ra1 m1 e1 => ?_⟩
    tm_at "r"
    refine ⟨d, c, g, b, _, rfl, m1, by decide, by decide, fun r2 H2 rb0 rb1 m2 e2 => ?_⟩
    tm_at "r"
    have e02 := e1.trans e2
    obtain ⟨a, ea, ha⟩ : ∃ a : Nat, 8 + r1 = (a : Int) ∧ 8 ≤ a ∧ a ≤ 10 := ⟨(8 + r1).toNat, by omega, by omega, by omega⟩
    obtain ⟨bb, eb, hb⟩ : ∃ a : Nat, 9 + r2 = (a : Int) ∧ 9 ≤ a ∧ a ≤ 10 := ⟨(9 + r2).toNat, by omega, by omega, by omega⟩
    rw [ea, eb]
    have hn : ((a : Int) + (bb : Int)) = ((a + bb : Nat) : Int) := by omega
    rw [hn]
    generalize hN : a + bb = n at hn
    have hn20 : n ≤ 20 := by omega
    have hn17 : 17 ≤ n := by omega
    refine ⟨_, rfl, rg0_ok (by omega), ?_⟩
    rw [rgV_eq]
    w_call pr n3 H3 e3 h3 u3 z3
    tm_at "r"
    refine ⟨_, rfl, by omega, by omega, ?_⟩
    rw [show ((n : Nat) : Int).toNat = n from rfl]
    refine lc_run walk0 (fun _ => true) (fun D i y H' => ∃ q, y = .ref q ∧ q ≠ D ∧ H3 q = none ∧ H' q = some (.lst [.int (i : Int)])) (fun D i y H1 H2 h ⟨q, e, n, n0, z⟩ => ⟨q, e, n, n0, h q _ n z⟩) (fun _ _ => trivial) (by omega) ?_ ?_
    · rintro D i x H4 H5 acc KN KY hi e4 ⟨rfl, rfl⟩ hD hy _ hk
      refine ⟨rfl, ?_⟩
      tm_at "r"
      w_call q n6 H6 e6 h6 u6 z6
      exact hk rfl _ H6 e6 ⟨q, rfl, (ne_of_none hy n6).symm, none_of_ex e4 n6, h6⟩
    · intro ph H4 ys nph e4 hph pry
      rw [filter_yes] at pry
      obtain ⟨qs, rfl, prq, ndq, fq⟩ := held_made List.nodup_range pry
      have dprph : pr ≠ ph := ne_of_none h3 nph
      have fr' : ∀ q ∈ qs, q ≠ ph ∧ q ≠ pr ∧ H2 q = none := fun q hq => by
        obtain ⟨a, b, i, _, z⟩ := fq q hq
        exact ⟨a, (fun e => by rw [e, h3] at b; cases b), none_of_ex e3 b⟩
      have npr : H2 pr = none := n3
      have nprq : pr ∉ qs := fun z => (fr' pr z).2.1 rfl
      have e24 := e3.trans e4
      tm_at "r"
      refine ⟨_, rfl, by omega, by omega, ?_⟩
      rw [show ((n : Nat) : Int).toNat = n from rfl]
      have i0 : BlkI n 0 (rgI 0 n, hd0 n) := ⟨rgI_len _ _, by show (hd0 n).length = n; unfold hd0; rw [List.length_map, List.length_range], fun l hl => by
        obtain ⟨i, _, rfl⟩ := List.mem_map.mp hl
        exact Nat.le_refl _⟩
      refine for_run walk0 (fun t σ H' => (∃ v6 v7 v8 v9 v10 v11 v12, σ = [some (.ref d), some (.int (a : Int)), some (.int (bb : Int)), some (.int (n : Int)), some (.ref pr), some (.ref ph), v6, v7, v8, v9, v10, v11, v12]) ∧ Ex H2 H' ∧ H' pr = some (.lst ((blkF bb n t).1.map V.int)) ∧ HeldAt H' ph qs (blkF bb n t).2 ∧ BlkI n (t * 20) (blkF bb n t))
        ⟨⟨_, _, _, _, _, _, _, rfl⟩, e24, e4 _ _ h3, ⟨hph, prq, ndq⟩, i0⟩ (fun _ _ _ _ _ => trivial) ?_ ?_
      · rintro t x σ H5 H6 ht ⟨⟨v6, v7, v8, v9, v10, v11, v12, rfl⟩, e5, hrow, hat, hI⟩ ⟨rfl, rfl⟩
        tm_at "r"
        refine ⟨_, rfl, by omega, by omega, ?_⟩
        rw [show ((n : Int) - 1).toNat = n - 1 by omega]
        refine for_run walk0 (fun i σ H' => (∃ v6 v7 v8 v9 v10 v11 v12, σ = [some (.ref d), some (.int (a : Int)), some (.int (bb : Int)), some (.int (n : Int)), some (.ref pr), some (.ref ph), v6, v7, v8, v9, v10, v11, v12]) ∧ Ex H2 H' ∧
          H' pr = some (.lst (((List.range i).foldl (blkS bb) (blkF bb n t)).1.map V.int)) ∧ HeldAt H' ph qs ((List.range i).foldl (blkS bb) (blkF bb n t)).2 ∧ BlkI n (t * 20 + i) ((List.range i).foldl (blkS bb) (blkF bb n t)))
          ⟨⟨_, _, _, _, _, _, _, rfl⟩, e5, hrow, hat, hI⟩ (fun _ _ _ _ _ => trivial) ?_ ?_
        · rintro i x σ H7 H8 hi ⟨⟨w6, w7, w8, w9, w10, w11, w12, rfl⟩, e7, hrow, hat, hI⟩ ⟨rfl, rfl⟩
          have es : (List.range (i + 1)).foldl (blkS bb) (blkF bb n t) = blkS bb ((List.range i).foldl (blkS bb) (blkF bb n t)) i := by
            rw [List.range_succ, List.foldl_append] <;> rfl
          rw [es]
          have hI' := blkI_step (b := (bb : Int)) hI (show i + 1 < n by omega)
          generalize (List.range i).foldl (blkS bb) (blkF bb n t) = st at hrow hat hI hI' ⊢
          have l1 := hI.l1
          have l2 := hI.l2
          have ln : ∀ {p : Int}, 0 ≤ p → p < (n : Int) → (hix st.2 p).length < 100000 := fun p0 p1 => by
            have := hI.bd _ (hix_mem (h := st.2) p0 (by omega))
            omega
          tm_at "r"
          refine r_ixLI (SqL.of hrow) (by omega) (by omega) ?_
          tm_at "r"
          refine r_ite (fun c1 => ?_) (fun c1 => ?_)
          · tm_at "r"
            refine r_ixLI (SqL.of hrow) (by omega) (by omega) ?_
            tm_at "r"
            refine r_ite (fun c2 => ?_) (fun c2 => ?_)
            · have eS : blkS bb st i = (setI (setI st.1 i (ix st.1 ((i : Int) + 1))) ((i : Int) + 1) (ix st.1 i), happ (happ st.2 i (ix st.1 ((i : Int) + 1))) ((i : Int) + 1) (ix st.1 i)) := by
                unfold blkS
                rw [c1, c2]
                rfl
              tm_at "r"
              refine r_ixLI (SqL.of hrow) (by omega) (by omega) ?_
              tm_at "r"
              refine r_ixLI (SqL.of hrow) (by omega) (by omega) ?_
              tm_at "r"
              w_call pt n9 H9 e9 h9 u9 z9
              refine r_gTup (SqT.of h9) rfl ?_
              tm_at "r"
              refine r_setLI (e9 _ _ hrow) (by omega) (by omega) ?_
              generalize hu10 : upd H9 pr _ = H10
              obtain ⟨m10, h10⟩ := mut_of hu10
              tm_at "r"
              refine r_setLI h10 (by omega) (by rw [setI_len]; omega) ?_
              generalize hu11 : upd H10 pr _ = H11
              obtain ⟨m11, h11⟩ := mut_of hu11
              have hat11 : HeldAt H11 ph qs st.2 := ((hat.keep e9).mut m10 dprph nprq).mut m11 dprph nprq
              have rw0 : ix (setI (setI st.1 i (ix st.1 ((i : Int) + 1))) ((i : Int) + 1) (ix st.1 i)) i = ix st.1 ((i : Int) + 1) := by
                rw [ix_setI (by omega) (by omega) (by rw [setI_len]; omega), if_neg (by omega), ix_setI (by omega) (by omega) (by omega), if_pos rfl]
              have rw1 : ix (setI (setI st.1 i (ix st.1 ((i : Int) + 1))) ((i : Int) + 1) (ix st.1 i)) ((i : Int) + 1) = ix st.1 i := by
                rw [ix_setI (by omega) (by omega) (by rw [setI_len]; omega), if_pos rfl]
              tm_at "r"
              obtain ⟨qp, ap1, ap2, ap3, ap4⟩ := hat11.at (p := (i : Int)) (by omega) (by omega)
              refine r_ixL (SqL.of hat11.lst) ap2 ?_
              refine ⟨ty_l (SqL.of ap3), ?_⟩
              tm_at "r"
              refine r_ixLI (SqL.of h11) (by omega) (by rw [setI_len, setI_len]; omega) ?_
              rw [rw0]
              tm_at "r"
              refine r_appI ap3 (ln (by omega) (by omega)) ?_
              generalize hu12 : upd H11 qp _ = H12
              obtain ⟨m12, h12⟩ := mut_of hu12
              obtain ⟨fa, fb, fc⟩ := fr' qp ap4
              have hat12 : HeldAt H12 ph qs (happ st.2 i (ix st.1 ((i : Int) + 1))) := hat11.app ap1 fa m12 h12
              have row12 := m12 _ _ (Ne.symm fb) h11
              have l12 : (happ st.2 i (ix st.1 ((i : Int) + 1))).length = n := by unfold happ; rw [List.length_set]; exact l2
              have hq12 : hix (happ st.2 i (ix st.1 ((i : Int) + 1))) ((i : Int) + 1) = hix st.2 ((i : Int) + 1) := by rw [hix_happ (by omega) (by omega) (by omega), if_neg (by omega)]
              tm_at "r"
              obtain ⟨qq, aq1, aq2, aq3, aq4⟩ := hat12.at (p := (i : Int) + 1) (by omega) (by omega)
              rw [hq12] at aq3
              refine r_ixL (SqL.of hat12.lst) aq2 ?_
              refine ⟨ty_l (SqL.of aq3), ?_⟩
              tm_at "r"
              refine r_ixLI (SqL.of row12) (by omega) (by rw [setI_len, setI_len]; omega) ?_
              rw [rw1]
              tm_at "r"
              refine r_appI aq3 (ln (by omega) (by omega)) ?_
              generalize hu13 : upd H12 qq _ = H13
              obtain ⟨m13, h13⟩ := mut_of hu13
              obtain ⟨ga, gb, gc⟩ := fr' qq aq4
              have hat13 : HeldAt H13 ph qs (happ (happ st.2 i (ix st.1 ((i : Int) + 1))) ((i : Int) + 1) (ix st.1 i)) := hat12.app aq1 ga m13 (by rw [hq12]; exact h13)
              tm_at "r"
              rw [eS] at hI' ⊢
              exact ⟨⟨_, _, _, _, _, _, _, rfl⟩, exm (exm (exm (exm (e7.trans e9) npr m10) npr m11) fc m12) gc m13, m13 _ _ (Ne.symm gb) row12, hat13, hI'⟩
            · have eS : blkS bb st i = st := by
                unfold blkS
                rw [c1, c2]
                rfl
              tm_at "r"
              rw [eS] at hI' ⊢
              exact ⟨⟨_, _, _, _, _, _, _, rfl⟩, e7, hrow, hat, hI'⟩
          · have eS : blkS bb st i = st := by
              unfold blkS
              rw [c1]
              rfl
            tm_at "r"
            rw [eS] at hI' ⊢
            exact ⟨⟨_, _, _, _, _, _, _, rfl⟩, e7, hrow, hat, hI'⟩
        · rintro σ H7 ⟨⟨w6, w7, w8, w9, w10, w11, w12, rfl⟩, e7, hrow, hat, hI⟩
          have es : blkF bb n (t + 1) = (List.range (n - 1)).foldl (blkS bb) (blkF bb n t) := by
            unfold blkF
            rw [List.range_succ, List.foldl_append] <;> rfl
          rw [es]
          exact ⟨⟨_, _, _, _, _, _, _, rfl⟩, e7, hrow, hat, hI.l1, hI.l2, fun l hl => by have := hI.bd l hl; omega⟩
      · rintro σ H5 ⟨⟨v6, v7, v8, v9, v10, v11, v12, rfl⟩, e5, hrow, hat, hI⟩
        tm_at "r"
        have fact := blk_ok ha hb
        unfold blkB at fact
        rw [Bool.and_eq_true, Bool.and_eq_true, Bool.and_eq_true, Bool.and_eq_true, decide_eq_true_eq, Option.isNone_iff_eq_none, Option.isNone_iff_eq_none] at fact
        obtain ⟨⟨⟨⟨f1, f2⟩, f3⟩, f4⟩, f5⟩ := fact
        have okR := rkB_ok f1
        have okD := dispB_ok f2
        have lR : (blkR a bb).length = n := by unfold blkR; rw [List.length_map, List.length_range, hN]
        have lD : (blkD a bb).length = n := by unfold blkD; rw [List.length_append, List.length_replicate, List.length_replicate]; omega
        w_call p1 n6 H6 e6 h6 u6 z6
        refine r_var rfl ?_
        refine ⟨p1, bb, _, rfl, rfl, SqT.of h6, (fun z => by cases z), by omega, by omega, by show 1 ≤ 1000; decide, ?_⟩
        rw [rep1]
        w_call p2 n7 H7 e7 h7 u7 z7
        tm_at "r"
        w_call p3 n8 H8 e8 h8 u8 z8
        refine r_var rfl ?_
        refine ⟨p3, a, _, rfl, rfl, SqT.of h8, (fun z => by cases z), by omega, by omega, by show 1 ≤ 1000; decide, ?_⟩
        rw [rep1]
        w_call p4 n9 H9 e9 h9 u9 z9
        refine ⟨p2, p4, _, _, rfl, rfl, SqT.of (e9 _ _ (e8 _ _ h7)), SqT.of h9, sz_of (by rw [List.length_replicate, List.length_replicate]; omega), (fun z => ?_), (fun _ z => ?_), fun _ _ => ?_⟩
        · have := congrArg List.length z
          rw [List.length_replicate] at this
          exact absurd this (by show bb ≠ 0; omega)
        · have := congrArg List.length z
          rw [List.length_replicate] at this
          exact absurd this (by show a ≠ 0; omega)
        have ed : List.replicate bb (V.int (a : Int)) ++ List.replicate a (V.int (0 - (bb : Int))) = (blkD a bb).map V.int := by
          unfold blkD
          rw [List.map_append, List.map_replicate, List.map_replicate]
        rw [ed]
        w_call pm n10 H10 e10 h10 u10 z10
        tm_at "r"
        w_call pl n11 H11 e11 h11 u11 z11
        tm_at "r"
        have e511 := ((((e6.trans e7).trans e8).trans e9).trans e10).trans e11
        have e211 := e5.trans e511
        have hat11 := hat.keep e511
        have npl : H2 pl = none := none_of_ex (e5.trans ((((e6.trans e7).trans e8).trans e9).trans e10)) n11
        have hpm11 : H11 pm = some (.tup ((blkD a bb).map V.int)) := e11 _ _ h10
        refine ⟨_, rfl, by omega, by omega, ?_⟩
        rw [show ((n : Nat) : Int).toNat = n from rfl]
        have nplm : H10 pl = none := n11
        have dpl : ∀ {q : Addr} {u : HO}, H5 q = some u → q ≠ pl := fun hq => ne_of_none ((((e6.trans e7).trans e8).trans e9).trans e10 _ _ hq) n11
        refine for_run walk0 (fun i σ H' => (∃ v6 v7 v8 v11 v12, σ = [some (.ref d), some (.int (a : Int)), some (.int (bb : Int)), some (.int (n : Int)), some (.ref pr), some (.ref ph), v6, v7, v8, some (.ref pm), some (.ref pl), v11, v12]) ∧ Ex H2 H' ∧ HeldAt H' ph qs (blkF bb n n).2 ∧ H' pm = some (.tup ((blkD a bb).map V.int)) ∧
          ∃ ts : List Addr, H' pl = some (.lst (ts.map V.ref)) ∧ Paired (fun (r : List Int) t => ExT H' t (r.map V.int)) ((List.range i).map fun (p : Nat) => blkRow n (hix (blkF bb n n).2 p)) ts) ⟨⟨_, _, _, _, _, rfl⟩, e211, hat11, hpm11, [], h11, .nil⟩ (fun _ _ _ _ _ => trivial) ?_ ?_
        · rintro i x σ H12 H13 hi ⟨⟨w6, w7, w8, w11, w12, rfl⟩, e12, hat12, hpm12, ts, hts, prt⟩ ⟨rfl, rfl⟩
          have l2 := hI.l2
          generalize hh : (blkF (bb : Int) n n).2 = held at hat12 l2 prt ⊢
          have lb : (hix held (i : Int)).length ≤ 401 := by
            have z := hI.bd _ (by rw [hh]; exact hix_mem (h := held) (p := (i : Int)) (by omega) (by omega))
            omega
          obtain ⟨q, q1, q2, q3, q4⟩ := hat12.at (p := (i : Int)) (by omega) (by omega)
          have lts := (Paired.length prt).symm
          rw [List.length_map, List.length_range] at lts
          tm_at "r"
          refine ⟨ty_l (SqL.of hts), ?_⟩
          tm_at "r"
          refine r_ixL (SqL.of hat12.lst) q2 ?_
          refine ⟨q, _, rfl, SqL.of q3, ?_⟩
          rw [← List.map_reverse]
          w_call p14 n14 H14 e14 h14 u14 z14
          tm_at "r"
          refine ⟨_, rfl, by omega, by omega, ?_⟩
          rw [show ((n : Nat) : Int).toNat = n from rfl]
          refine lc_vals walk0 (fun j => !decide ((j : Int) ∈ hix held (i : Int))) (fun j => .int (j : Int)) (fun _ _ => trivial) (by omega) ?_ ?_
          · rintro D j v H15 H16 acc KN KY hj e15 ⟨rfl, rfl⟩ hD hy hk1 hk2
            refine ⟨rfl, ?_⟩
            tm_at "r"
            refine r_ixL (SqL.of (e15 _ _ (e14 _ _ hat12.lst))) q2 ?_
            refine ⟨q, _, rfl, .inl (SqL.of (e15 _ _ (e14 _ _ q3))), rfl, flat_ints _, ?_⟩
            rw [if_pos rfl, inV_ints]
            tm_at "r"
            refine r_ite (fun hb => ?_) (fun hb => hk1 hb _ (Ex.refl _))
            tm_at "r"
            exact hk2 hb _ (Ex.refl _)
          · intro D H15 nD e15 h15
            have hD15 : H15 D = some (.lst (((rgI 0 n).filter fun x => !decide (x ∈ hix held (i : Int))).map V.int)) := by
              rw [h15]
              exact congrArg (fun z => some (HO.lst z)) (rg0_fm n fun x => !decide (x ∈ hix held (i : Int)))
            have lf : ((rgI 0 n).filter fun x => !decide (x ∈ hix held (i : Int))).length ≤ n := by
              refine Nat.le_trans (List.length_filter_le _ _) ?_
              rw [rgI_len]
              exact Nat.le_refl _
            refine ⟨p14, D, _, _, rfl, rfl, e15 _ _ h14, hD15, sz_of (by rw [List.length_map, List.length_map, List.length_reverse]; omega), ?_⟩
            rw [← List.map_append]
            w_call p16 n16 H16 e16 h16 u16 z16
            tm_at "r"
            refine r_tupX (SqL.of h16) fun pt H17 n17 e17 x17 => ?_
            tm_at "r"
            have e1317 := ((e14.trans e15).trans e16).trans e17
            refine r_app (e1317 _ _ hts) (by rw [List.length_map]; omega) ?_
            generalize hu18 : upd H17 pl _ = H18
            obtain ⟨m18, h18⟩ := mut_of hu18
            obtain ⟨o, x1, x2, x3⟩ := x17
            have dpt : pt ≠ pl := fun e => by rw [e, e1317 _ _ hts] at x1; cases x1
            have dph : pl ≠ ph := fun e => by have z := e1317 _ _ hat12.lst; exact dpl hat.lst e.symm
            have nplq : pl ∉ qs := fun z => by
              obtain ⟨l, _, zz⟩ := paired_mem hat.pr pl z
              exact dpl zz rfl
            have dpm : pm ≠ pl := fun e => by rw [e, hts] at hpm12; cases hpm12
            tm_at "r"
            refine ⟨⟨_, _, _, _, _, rfl⟩, exm (e12.trans e1317) npl m18, (hat12.keep e1317).mut m18 dph nplq, m18 _ _ dpm (e1317 _ _ hpm12), ts ++ [pt], by rw [List.map_append]; exact h18, ?_⟩
            have old : Paired (fun (r : List Int) t => ExT H18 t (r.map V.int)) ((List.range i).map fun (p : Nat) => blkRow n (hix held p)) ts := by
              refine Paired.mapP prt fun r t ⟨o, y1, y2, y3⟩ => ⟨o, m18 _ _ (fun e => ?_) (e1317 _ _ y1), y2, y3⟩
              rw [e, hts] at y1
              cases y1
            have last : ExT H18 pt ((blkRow n (hix held i)).map V.int) := ⟨o, m18 _ _ dpt x1, x2, x3⟩
            rw [List.range_succ, List.map_append]
            have snoc : ∀ {l : List (List Int)} {m : List Addr}, Paired (fun (r : List Int) t => ExT H18 t (r.map V.int)) l m → Paired (fun (r : List Int) t => ExT H18 t (r.map V.int)) (l ++ [blkRow n (hix held i)]) (m ++ [pt]) := by
              intro l m p
              induction p with
              | nil => exact .cons last .nil
              | cons h t ih => exact .cons h ih
            exact snoc old
        · rintro σ H12 ⟨⟨w6, w7, w8, w11, w12, rfl⟩, e12, hat12, hpm12, ts, hts, prt⟩
          have eR : ((List.range n).map fun (p : Nat) => blkRow n (hix (blkF bb n n).2 p)) = blkR a bb := by
            unfold blkR
            rw [hN]
          rw [eR] at prt
          tm_at "r"
          refine r_tupX (SqL.of hts) fun pL H13 n13 e13 x13 => ?_
          have rk13 : RkX K H13 pL (blkR a bb) := ⟨ts, x13.sq, Paired.mapP prt fun r t y => y.ex e13⟩
          tm_at "r"
          refine ⟨pL, pm, blkR a bb, blkD a bb, rfl, rk13.rk, okR, SqT.of (e13 _ _ hpm12), okD, by rw [lR, lD], fun pf H14 x fs e14 ans dec => ?_⟩
          obtain ⟨qf, a1, a2⟩ := ans
          cases dec with
          | triple h => rw [f3] at h; cases h
          | refused h h2 => rw [f4] at h2; cases h2
          | sequence hno hno2 sq =>
            have hlen := seq_mu okD sq
            have hmv := seq_moves okR okD (by rw [lR, lD]) hno hno2 sq
            tm_at "r"
            refine r_ixT a1 (at_of (j := 0) rfl rfl) ?_
            tm_at "r"
            rw [decide_eq_true rfl]
            tm_at "r"
            refine r_ixT a1 (at_of (j := 1) rfl rfl) ?_
            tm_at "r"
            refine r_lenT a2 ?_
            rw [List.length_map]
            tm_at "r"
            refine r_I (Or.inl ⟨by omega, by omega⟩) ?_
            tm_at "r"
            have e1 : decide ((fs.length : Int) = (a : Int) * (bb : Int)) = true := decide_eq_true (by rw [hlen, f5]; exact Int.natCast_mul a bb)
            rw [e1]
            tm_at "r"
            refine r_tupX (SqL.of (e14 _ _ (e13 _ _ hts))) fun pL2 H15 n15 e15 x15 => ?_
            tm_at "r"
            refine r_ixT (ex_t e15 a1) (at_of (j := 1) rfl rfl) ?_
            tm_at "r"
            refine ⟨pL2, qf, blkR a bb, fs, rfl, ⟨ts, x15.sq, Paired.mapP prt fun r t y => y.ex ((e13.trans e14).trans e15)⟩, okR, ex_t e15 a2, fun mv hm p H16 e16 h16 => ?_, fun hm => by rw [hmv] at hm; cases hm⟩
            rw [hmv] at hm
            cases hm
            tm_at "r"
            refine ⟨dTI (blkD a bb), dTI (blkD a bb), dp_ti h16, dp_ti (SqT.of (e16 _ _ (e15 _ _ (e14 _ _ (e13 _ _ hpm12))))), sh_ti _, sh_ti _, ?_⟩
            rw [eqv_ti, decide_eq_true rfl]
            have ef := e12.trans (((e13.trans e14).trans e15).trans e16)
            exact k H16 (e02.trans (hid_mono ef)) (m2.mono ef (Nat.le_refl _))
end
end SW
end

section
set_option Elab.async false
set_option linter.all false
set_option maxRecDepth 100000
set_option maxHeartbeats 4000000
namespace SW
open PySem PySem.Spec PyProof.Rows L2 Evl
local macro_rules | `(tactic| tm_at "r1") => `(tactic| first
  | ((with_reducible refine' r_var ?hx ?_); (case hx => exact rfl))
  | with_reducible refine r_c ?_
  | with_reducible refine r_op ?_
  | with_reducible refine r_I0 ?_
  | with_reducible refine r_un ?_
  | with_reducible refine r_U ?_
  | with_reducible refine r_cons ?_
  | with_reducible refine r_nil ?_
  | with_reducible refine r_call ?_
  | with_reducible refine r_cb ?_
  | with_reducible refine r_test ?_
  | with_reducible refine r_blp ?_
  | with_reducible refine r_tYes ?_
  | with_reducible refine r_ifT ?_
  | with_reducible refine r_ifF ?_
  | ((with_reducible refine' r_aug ?hx ?_); (case hx => exact rfl))
  | with_reducible refine r_seq ?_
  | with_reducible refine r_asg ?_
  | with_reducible refine r_gname ?_
  | with_reducible refine r_ret ?_
  | with_reducible refine r_tup ?_
  | with_reducible refine r_lst ?_
  | with_reducible refine r_ifS ?_
  | with_reducible refine r_par ?_
  | with_reducible refine r_two ?_
  | with_reducible refine r_lc ?_
  | with_reducible refine r_rng1 ?_
  | with_reducible refine r_rng2 ?_
  | with_reducible refine r_iList ?_
  | with_reducible refine r_iTup ?_
  | with_reducible refine r_for ?_
  | with_reducible refine r_not ?_
  | with_reducible refine r_and ?_
  | with_reducible refine r_or ?_
  | with_reducible refine r_andV ?_
  | with_reducible refine r_orV ?_
  | with_reducible refine r_notV ?_
  | with_reducible refine r_if ?_
  | with_reducible refine r_chain ?_
  | with_reducible refine r_B ?_
  | with_reducible refine r_next ?_
  | with_reducible refine r_drop ?_
  | with_reducible refine r_retN ?_
  | with_reducible refine r_ipI ?_
  | ((with_reducible refine' r_sz ?hz ?_); (case hz => exact Nat.le_of_ble_eq_true rfl))
  | with_reducible refine r_gCons ?_
  | with_reducible refine r_gNil ?_
  | with_reducible refine r_par3 ?_
  | with_reducible refine r_three ?_
  | with_reducible refine r_listRg ?_
  | with_reducible refine r_tupRg ?_
  | with_reducible refine r_augS ?_
  | with_reducible refine r_lenSetT ?_
  | with_reducible refine r_lenSetL ?_
  | with_reducible refine r_ifNT ?_
  | with_reducible refine r_ifNF ?_
  | with_reducible refine r_eqI ?_
  | with_reducible refine r_neI ?_
  | with_reducible refine r_eqS ?_
  | with_reducible refine r_neS ?_
  | with_reducible refine r_bm ?_
  | with_reducible refine r_bt ?_
  | with_reducible refine r_iEnT ?_
  | with_reducible refine r_iEnL ?_
  | with_reducible refine r_dc ?_
  | with_reducible refine r_dget ?_
  | with_reducible refine r_dput ?_
  | with_reducible refine r_sl ?_
  | with_reducible refine r_noP ?_
  | with_reducible refine r_part ?_
  | with_reducible refine r_revL ?_
  | with_reducible refine r_gSub ?_)
local macro_rules | `(tactic| tm_at "r") => `(tactic| repeat tm_at "r1")
local macro_rules | `(tactic| w_call $p $n $H1 $e $h $u $z) => `(tactic| (intro $p:ident $n:ident; generalize $u:ident : upd _ $p:ident _ = $H1:ident; obtain ⟨$e, $h⟩ := new_of $n:ident $u:ident))
section
variable {P : Program} {w : World} {K : PySem.W.Frag} {mg : Str → Option Value} {base : Heap} {f : Addr} {fd : FuncData} {C C0 : Addr}
/-- the other classes that are asked for before -/
structure Others (K : PySem.W.Frag) (mg : Str → Option Value) (C : Addr) : Prop where
  c1 : ∃ D, mg "InvalidRankings" = some (.ref D) ∧ PySem.W.kitOne K (.ref C) (.ref D) = some false
  c2 : ∃ D, mg "InvalidArrangement" = some (.ref D) ∧ PySem.W.kitOne K (.ref C) (.ref D) = some false
  c3 : ∃ D, mg "InvalidDisplacements" = some (.ref D) ∧ PySem.W.kitOne K (.ref C) (.ref D) = some false
  c4 : ∃ D, mg "InvalidSequence" = some (.ref D) ∧ PySem.W.kitOne K (.ref C) (.ref D) = some false
  c5 : PySem.W.kitOne K (.ref C) (.ref C) = some true
theorem pss_nev {X : Cx} {l : List Stmt} : PSs X l (fun _ _ _ => False) := ⟨fun _ _ _ _ _ _ h => h.elim⟩
def spClass (C : Addr) : Sp := fun vs H Q _ => ∃ (a dd : Addr) (x : Str), vs = [.ref a] ∧ H a = some (exT a (.ref C) (some dd)) ∧ H dd = some (.xd [("part", .str x)]) ∧ ∀ p H', Ex H H' → H' p = some (.tup [.str "InvalidAnswer", .str x]) → Q (.ref p) H'
abbrev N_law_class : List PySem.Str := ["_law_error"]
theorem sc_law_class : FnScope N_law_class ["_law_error"] (defScope st_law_class) := ⟨rfl, rfl, rfl, by decide +kernel, rfl, by decide +kernel, by decide +kernel⟩
theorem sg_law_class (v0 : V) : L2.start N_law_class [v0] = [some v0] := rfl
theorem bi_law_class {K : PySem.W.Frag} {f : Addr} {fd : FuncData} (F : FnP K "_law_class" st_law_class f fd) : Binds K fd ["_law_error"] [] := F.bindsN fun _ _ _ _ _ _ us hl => match us, hl with | [_], _ => rfl

theorem ok_class (F : FnP K "_law_class" st_law_class f fd) (fr : Free mg) (T : ErrD P w K mg base "InvalidAnswer" "part" C) (O : Others K mg C) : FnOk P w K mg base CX0 1 f fd ["_law_error"] (spClass C) := by
  refine F.ok sc_law_class (fun vs H Q E h => ?_) (fun cdv A outer s H vs Q E hr h => ?_)
  · obtain ⟨a, dd, x, rfl, _⟩ := h
    rfl
  · obtain ⟨a, dd, x, rfl, ha, hd, k⟩ := h
    obtain ⟨fI, fdI, TE, _, _⟩ := T.ex
    obtain ⟨D1, g1, k1⟩ := O.c1
    obtain ⟨D2, g2, k2⟩ := O.c2
    obtain ⟨D3, g3, k3⟩ := O.c3
    obtain ⟨D4, g4, k4⟩ := O.c4
    refine ⟨_, PSs.nox (pss_cons (ps_if (pt_val (pe_callB (isix (K := K) rfl) (by rfl) fr.isinstance (by decide +kernel) (pa_cons (pv 0) (pa_cons (pe_glob (v := .ref D1) (by rfl) g1 rfl) pa_nil)))) (pss_one ps_never) pss_nil)
      (pss_cons (ps_if (pt_val (pe_callB (isix (K := K) rfl) (by rfl) fr.isinstance (by decide +kernel) (pa_cons (pv 0) (pa_cons (pe_glob (v := .ref D2) (by rfl) g2 rfl) pa_nil)))) (pss_one ps_never) pss_nil)
      (pss_cons (ps_if (pt_val (pe_callB (isix (K := K) rfl) (by rfl) fr.isinstance (by decide +kernel) (pa_cons (pv 0) (pa_cons (pe_glob (v := .ref D3) (by rfl) g3 rfl) pa_nil)))) (pss_one ps_never) pss_nil)
      (pss_cons (ps_if (pt_val (pe_callB (isix (K := K) rfl) (by rfl) fr.isinstance (by decide +kernel) (pa_cons (pv 0) (pa_cons (pe_glob (v := .ref D4) (by rfl) g4 rfl) pa_nil)))) (pss_one ps_never) pss_nil)
      (pss_cons (ps_if (pt_val (pe_callB (isix (K := K) rfl) (by rfl) fr.isinstance (by decide +kernel) (pa_cons (pv 0) (pa_cons (pe_glob (v := .ref C) (by rfl) TE.gC rfl) pa_nil)))) (pss_one (ps_ret (pe_tup (pa_cons pe_str (pa_cons (pe_xff (K := K) rfl (pv 0)) pa_nil))))) pss_nil)
      pss_nev))))), ?_⟩
    rw [sg_law_class]
    tm_at "r"
    refine ⟨a, C, D1, dd, _, mg, _, _, fI, false, rfl, TE, ha, hd, k1, ?_⟩
    tm_at "r"
    refine ⟨a, C, D2, dd, _, mg, _, _, fI, false, rfl, TE, ha, hd, k2, ?_⟩
    tm_at "r"
    refine ⟨a, C, D3, dd, _, mg, _, _, fI, false, rfl, TE, ha, hd, k3, ?_⟩
    tm_at "r"
    refine ⟨a, C, D4, dd, _, mg, _, _, fI, false, rfl, TE, ha, hd, k4, ?_⟩
    tm_at "r"
    refine ⟨a, C, C, dd, _, mg, _, _, fI, true, rfl, TE, ha, hd, O.c5, ?_⟩
    tm_at "r"
    refine r_xff (r_var rfl ⟨a, C, dd, mg, _, fI, _, rfl, TE, ha, hd, ?_⟩)
    tm_at "r"
    w_call pr n1 H1 e1 h1 u1 z1
    exact k pr H1 e1 h1
/-- what is told of a deed: its answer in a list; or the class and the part of its error -/
def TTold2 (C : Addr) : (XK → Hp → VK → Prop) → Hp → VK → Prop := fun tl H Q => ∀ (H1 : Hp) (E' : XK) (Q' : VK), Ex H H1 →
  (∀ cls d H2, (∃ dd x, cls = .ref C ∧ d = some dd ∧ H2 dd = some (.xd [("part", .str x)]) ∧ ∀ H3 p, Ex H2 H3 → H3 p = some (.tup [.str "InvalidAnswer", .str x]) → Q (.ref p) H3) → E' cls d H2) →
  (∀ v H2, (∀ p H3, Ex H2 H3 → H3 p = some (.lst [v]) → Q (.ref p) H3) → Q' v H2) → tl E' H1 Q'
abbrev N_law_told : List PySem.Str := ["_law_deed", "_law_error", "_law_found", "e"]
theorem sc_law_told : FnScope N_law_told ["_law_deed"] (defScope st_law_told) := ⟨rfl, rfl, rfl, by decide +kernel, rfl, by decide +kernel, by decide +kernel⟩
theorem sg_law_told (v0 : V) : L2.start N_law_told [v0] = [some v0, none, none, none] := rfl
theorem bi_law_told {K : PySem.W.Frag} {f : Addr} {fd : FuncData} (F : FnP K "_law_told" st_law_told f fd) : Binds K fd ["_law_deed"] [] := F.bindsN fun _ _ _ _ _ _ us hl => match us, hl with | [_], _ => rfl

theorem told2_gives {X : Cx} {g : Addr} {cdg : Value} {q : Str} (g0 : X.mg "SwaprowError" = some (.ref C0)) (me : PySem.W.exmOne X.K (.ref C) (.ref C0) = some true) (k : Nat) (hk : 2 ≤ k) (hr : Room k X.A)
    (D_law_class : Def X.prog X.w X.K X.mg X.base CX0 1 "_law_class" ["_law_error"] (spClass C)) :
    LamX.GivesTo X N_law_told "_law_told" (defScope st_law_told) g cdg (defBody st_law_told) "_law_deed" q (TTold2 C) := by
  intro f c' s H Q tl act hc h
  have nd := sc_law_told.nd
  refine ⟨_, pss_cons (ps_set (i := 1) nd rfl (Or.inl rfl) pe_non) (pss_cons (ps_set (i := 2) nd rfl (Or.inl rfl) (pe_lst pa_nil)) (pss_cons
    (ps_keep (X := (cxOf C8.CX0 X.prog X.w X.K X.mg X.base N_law_told "_law_told" (defScope st_law_told) g cdg X.A X.stack s H C8.E0).nox) (i := 3)
      (tb := fun W D σ H2 => ∃ Ech : XK, (∀ cls d σ' H', Ech cls d H' → W cls d σ' H') ∧ σ[0]? = some (some (.ref f)) ∧ H2 c' = some (LamX.CodeO c' q) ∧ tl Ech H2 fun v H3 => [v].length ≤ sizeLine ∧ ∀ p, H3 p = none → D.nx (σ.set 2 (some (.ref p))) (upd H3 p (.lst [v])))
      rfl rfl rfl nd rfl rfl ⟨rfl, by decide, .inl g0⟩ (fun W ps xe tk => ?_) (fun a ob cls d ps hz => pss_one (ps_set (i := 1) nd rfl (Or.inl rfl) (pv 3))))
    (pss_one (ps_ret (pe_ifExp (pt_cmpR isn (pv 1) pe_non (nomark _)) (pv 2) (pe_def D_law_class (Room.deeper (hr.mono hk) _) (pa_cons (pv 1) pa_nil))))))), ?_⟩
  · refine ⟨fun pins s' σ H' D I hh => ?_⟩
    obtain ⟨Ech, hW, h1, h2, h3⟩ := hh
    have hp := fun p1 p2 => act W ps xe Ech p1 p2 tk hW
    exact (pss_one (ps_set (i := 2) nd rfl (Or.inl rfl) (pe_lst (pa_cons (hp _ _) pa_nil)))).run pins s' σ H' D I ⟨h1, h2, h3⟩
  · rw [sg_law_told]
    tm_at "r"
    w_call p0 n0 H0 e0 h0 u0 z0
    tm_at "r"
    refine ⟨fun cls d H2 => ∃ dd x, cls = .ref C ∧ d = some dd ∧ H2 dd = some (.xd [("part", .str x)]) ∧ ∀ H3 p, Ex H2 H3 → H3 p = some (.tup [.str "InvalidAnswer", .str x]) → Q (.ref p) H3, fun cls d σ' H2 hE hl => ?_, rfl, e0 _ _ hc, h H0 _ _ e0 (fun cls d H2 z => z) fun v H2 hQ => ?_⟩
    · obtain ⟨dd, x, rfl, rfl, hd, hk2⟩ := hE
      refine ⟨me, fun a na => ?_⟩
      have hlen : σ'.length = 4 := hl
      match σ', hlen with
      | [s0, s1, s2, s3], _ => ?_
      tm_at "r"
      have e2 : Ex H2 (upd H2 a (exT a (.ref C) (some dd))) := Ex.new na
      have ne : dd ≠ a := ne_of_none hd na
      refine ⟨rfl, ?_⟩
      rw [decide_eq_false (fun z => by cases z)]
      tm_at "r"
      refine ⟨a, dd, x, rfl, upd_same, by rw [upd_ne ne]; exact hd, fun p H3 e3 h3 => ?_⟩
      exact hk2 H3 p (e2.trans e3) h3
    · refine ⟨by show 1 ≤ sizeLine; decide, fun p np => ?_⟩
      generalize hu : upd H2 p _ = H3
      obtain ⟨e3, h3⟩ := new_of np hu
      tm_at "r"
      refine ⟨rfl, ?_⟩
      rw [decide_eq_true rfl]
      tm_at "r"
      exact hQ p H3 e3 h3
end
end SW
end

section
set_option Elab.async false
set_option linter.all false
set_option maxRecDepth 100000
set_option maxHeartbeats 4000000
/-! defs that are called where no repr is under way; repr -/
namespace SW
open PySem PySem.Spec PyProof.Rows L2 Evl
theorem deep_guards {A : Around} {env : Env} (h : A.guards = some []) : (A.deeper env).guards = some [] := by
  first
    | exact h
    | (show pushGuards _ A.guards = some []; rw [h]; rfl)
    | (unfold Around.deeper Around.under pushGuards; rw [h]; rfl)
/-- a def's promise, where no repr is under way -/
structure FnOkG (P : Program) (w : World) (K : PySem.W.Frag) (mg : Str → Option Value) (base : Heap) (CX : CXT) (k : Nat) (f : Addr) (fd : FuncData) (ps : List Str) (sp : Sp) : Prop where
  len : ∀ vs H Q E, sp vs H Q E → vs.length = ps.length
  run : ∀ (A : Around) (outer : List Env) (s : Shared) (H : Hp) (args : Args) (us : List Value) (vs : List V) (Q : VK) (E : XK), Room k A → A.guards = some [] → Env0 P w K mg base A outer s H → BindsTo s fd args (ps.zip us) → Vals vs us → sp vs H Q E →
    codeAny (model P w) A (.call (.ref f) args) (CR CX outer P w H s Q E) s
theorem okG {P : Program} {w : World} {K : PySem.W.Frag} {mg : Str → Option Value} {base : Heap} {CX : CXT} {x : Str} {st : Stmt} {f : Addr} {fd : FuncData} {N ps : List Str} {k : Nat} {sp : Sp} (F : FnP K x st f fd) (S : FnScope N ps (defScope st)) (len : ∀ vs H Q E, sp vs H Q E → vs.length = ps.length)
    (hb : ∀ (cdv : Value) (A : Around) (outer : List Env) (s : Shared) (H : Hp) (vs : List V) (Q : VK) (E : XK), fd.code = cdv → Room k (A.deeper (envOfC x (defScope st) s.heap.objs.size f cdv)) → (A.deeper (envOfC x (defScope st) s.heap.objs.size f cdv)).guards = some [] → sp vs H Q E →
      ∃ t, PSs (cxOf CX P w K mg base N x (defScope st) f cdv A outer s H E) (defBody st) t ∧ t { nx := fun _ H' => Q .non H', rt := Q } (L2.start N vs) H) : FnOkG P w K mg base CX (k + 1) f fd ps sp := by
  obtain ⟨oc, od, dV, kV, doc, pm, an, cdv, ct, osl, rfl, lk, hcd, _, _⟩ := F.ex
  exact ⟨len, fun A outer s H args us vs Q E hr hg e0 hbi r hs => LamX.run_ofS lk hcd S hr e0 hbi r (len _ _ _ _ hs) fun hr' => hb cdv A outer s H vs Q E rfl hr' (deep_guards hg) hs⟩
structure DefG (P : Program) (w : World) (K : PySem.W.Frag) (mg : Str → Option Value) (base : Heap) (CX : CXT) (k : Nat) (x : Str) (ps : List Str) (sp : Sp) : Prop where
  ex : ∃ (f : Addr) (fd : FuncData), mg x = some (.ref f) ∧ PySem.W.keepIn K (.ref f) = true ∧ Binds K fd ps [] ∧ FnOkG P w K mg base CX k f fd ps sp
section
variable {X : Cx} {k : Nat} {x : Str} {ps : List Str} {sp : Sp} {t : TA} {e : Expr} {es : List Expr} {pos p : Pos}
theorem pe_defG (F : DefG X.prog X.w X.K X.mg X.base CX0 k x ps sp) (hr : Room k X.A) (hG : X.A.guards = some []) (ha : PA X (e :: es) t) (hg : Gl X x := by rfl)
    (he : starEach (e :: es) X.env = (false, eval e X.env) :: starEach es X.env := by rfl) (hpl : (backTo pos (starEach es X.env)).any (·.1) = false := by rfl)
    (hdb : (x == ("__debug__" : Str)) = false := by decide) : PE X (.Call (.Name x p) (e :: es) [] pos) (tCall sp [] E0 t) := by
  obtain ⟨f, fd, gm, kp, b, G⟩ := F.ex
  constructor
  intro pins s σ H Q I h
  refine wpAny_Call_Name_kw (ld_glob I hg gm ?_ hdb)
  refine PySem.W.callWith_K (h₀ := X.base) I.ok.mod.kin kp (thn (ha.run pos pins s σ H _ I h) fun us s1 hh => ?_) he hpl
  obtain ⟨vs, H1, I1, r, q⟩ := hh
  rw [List.append_nil] at q
  have hl : us.length = ps.length := by rw [← r.length]; exact G.len _ _ _ _ q
  have bb := b s1 us I1.kIn (by rw [List.append_nil]; exact hl)
  rw [List.append_nil] at bb
  refine ⟨I1.kIn, wpAny_call (codeAny_mono (G.run X.A X.stack s1 H1 ⟨us, []⟩ us vs Q E0 hr hG I1.env0 bb r q) fun r2 s2 hq => ?_)⟩
  cases r2 with
  | error e => exact (show False from hq).elim
  | ok fl =>
    cases fl with
    | ret u => exact I1.after hq
    | next => exact False.elim hq
    | brk => exact False.elim hq
    | cont => exact False.elim hq
end
section
variable {X : Cx} {k : Nat} {x : Str} {ps : List Str} {sp : Sp} {t : TA} {e : Expr} {es : List Expr} {pos p : Pos}
/-- f(a, ..), f a def that may let an error out, but does not here -/
theorem pe_defC (F : Def X.prog X.w X.K X.mg X.base (L2.CX X.prog X.w) k x ps sp) (hr : Room k X.A) (ha : PA X (e :: es) t) (hg : Gl X x := by rfl)
    (he : starEach (e :: es) X.env = (false, eval e X.env) :: starEach es X.env := by rfl) (hpl : (backTo pos (starEach es X.env)).any (·.1) = false := by rfl)
    (hdb : (x == ("__debug__" : Str)) = false := by decide) : PE X (.Call (.Name x p) (e :: es) [] pos) (tCall sp [] E0 t) := by
  obtain ⟨f, fd, gm, kp, b, G⟩ := F.ex
  exact pe_call G hr hg gm kp b .nil passL ha (he := he) (hpl := hpl) (hdb := hdb)
end
/-! ### repr of data -/
def rReprD (K : PySem.W.Frag) : List V → Hp → VK → Prop := fun xs H Q => ∃ (p : Addr) (d : PyData), xs = [.ref p] ∧ Dp K H (.ref p) d ∧ d.showable = true ∧ d.hasDict = false ∧ d.depth ≤ 60 ∧ d.shown.length ≤ sizeLine ∧ Q (.str d.shown) H
theorem repq {X : Cx} {K : PySem.W.Frag} (hK : X.K = K) (hG : X.A.guards = some []) (hu : X.A.units + 65 < cLine) : CallR X (.builtin "repr") (rReprD K) := by
  subst hK
  intro pins s σ H xs us Q I r h
  obtain ⟨p, d, rfl, hd, h1, h2, h3, h4, q⟩ := h
  obtain ⟨u, rfl, ru⟩ := vals1 r
  cases ru
  obtain ⟨as, rd⟩ := Dp.reads I d _ _ hd rfl
  exact repr_of_reads' (h₀ := s.heap) rd h1 (fun z => by rw [h2] at z; cases z) hG (by omega) (fun _ _ z => z) (fun h' u tk hk => ⟨.str d.shown, H, I.kept (t' := tk) hk, ⟨u, rfl⟩, q⟩) h4
end SW
end

section
set_option Elab.async false
set_option linter.all false
set_option maxRecDepth 100000
set_option maxHeartbeats 4000000
namespace SW
open PySem PySem.Spec PyProof.Rows L2 Evl
local macro_rules | `(tactic| tm_at "r1") => `(tactic| first
  | ((with_reducible refine' r_var ?hx ?_); (case hx => exact rfl))
  | with_reducible refine r_c ?_
  | with_reducible refine r_op ?_
  | with_reducible refine r_I0 ?_
  | with_reducible refine r_un ?_
  | with_reducible refine r_U ?_
  | with_reducible refine r_cons ?_
  | with_reducible refine r_nil ?_
  | with_reducible refine r_call ?_
  | with_reducible refine r_cb ?_
  | with_reducible refine r_test ?_
  | with_reducible refine r_blp ?_
  | with_reducible refine r_tYes ?_
  | with_reducible refine r_ifT ?_
  | with_reducible refine r_ifF ?_
  | ((with_reducible refine' r_aug ?hx ?_); (case hx => exact rfl))
  | with_reducible refine r_seq ?_
  | with_reducible refine r_asg ?_
  | with_reducible refine r_gname ?_
  | with_reducible refine r_ret ?_
  | with_reducible refine r_tup ?_
  | with_reducible refine r_lst ?_
  | with_reducible refine r_ifS ?_
  | with_reducible refine r_par ?_
  | with_reducible refine r_two ?_
  | with_reducible refine r_lc ?_
  | with_reducible refine r_rng1 ?_
  | with_reducible refine r_rng2 ?_
  | with_reducible refine r_iList ?_
  | with_reducible refine r_iTup ?_
  | with_reducible refine r_for ?_
  | with_reducible refine r_not ?_
  | with_reducible refine r_and ?_
  | with_reducible refine r_or ?_
  | with_reducible refine r_andV ?_
  | with_reducible refine r_orV ?_
  | with_reducible refine r_notV ?_
  | with_reducible refine r_if ?_
  | with_reducible refine r_chain ?_
  | with_reducible refine r_B ?_
  | with_reducible refine r_next ?_
  | with_reducible refine r_drop ?_
  | with_reducible refine r_retN ?_
  | with_reducible refine r_ipI ?_
  | ((with_reducible refine' r_sz ?hz ?_); (case hz => exact Nat.le_of_ble_eq_true rfl))
  | with_reducible refine r_gCons ?_
  | with_reducible refine r_gNil ?_
  | with_reducible refine r_par3 ?_
  | with_reducible refine r_three ?_
  | with_reducible refine r_listRg ?_
  | with_reducible refine r_tupRg ?_
  | with_reducible refine r_augS ?_
  | with_reducible refine r_lenSetT ?_
  | with_reducible refine r_lenSetL ?_
  | with_reducible refine r_ifNT ?_
  | with_reducible refine r_ifNF ?_
  | with_reducible refine r_eqI ?_
  | with_reducible refine r_neI ?_
  | with_reducible refine r_eqS ?_
  | with_reducible refine r_neS ?_
  | with_reducible refine r_bm ?_
  | with_reducible refine r_bt ?_
  | with_reducible refine r_iEnT ?_
  | with_reducible refine r_iEnL ?_
  | with_reducible refine r_dc ?_
  | with_reducible refine r_dget ?_
  | with_reducible refine r_dput ?_
  | with_reducible refine r_sl ?_
  | with_reducible refine r_noP ?_
  | with_reducible refine r_part ?_
  | with_reducible refine r_revL ?_
  | with_reducible refine r_gSub ?_)
local macro_rules | `(tactic| tm_at "r") => `(tactic| repeat tm_at "r1")
local macro_rules | `(tactic| w_call $p $n $H1 $e $h $u $z) => `(tactic| (intro $p:ident $n:ident; generalize $u:ident : upd _ $p:ident _ = $H1:ident; obtain ⟨$e, $h⟩ := new_of $n:ident $u:ident))
/-! what stays where only tables of code objects grow -/
theorem exN_t {K : PySem.W.Frag} {H H' : Hp} {a : Addr} {xs : List V} (e : LamX.ExtN H H') (h : SqT K H a xs) : SqT K H' a xs := by
  rcases h with (h | ⟨o, h⟩) | h
  · exact .inl (.inl (e _ _ h fun ps z => by cases z))
  · exact .inl (.inr ⟨o, e _ _ h fun ps z => by cases z⟩)
  · obtain ⟨o, its, n, k1, k2, k3, k4⟩ := h
    exact .inr ⟨o, its, n, k1, k2, k3, k4⟩
theorem exN_rk {K : PySem.W.Frag} {H H' : Hp} {a : Addr} {R : List (List Int)} (e : LamX.ExtN H H') (h : RkX K H a R) : RkX K H' a R := by
  obtain ⟨qs, s, p⟩ := h
  exact ⟨qs, exN_t e s, Paired.mapP p fun _ _ ⟨o, x, y, z⟩ => ⟨o, e _ _ x (fun ps z => by cases z), y, z⟩⟩
theorem exN_ans {K : PySem.W.Frag} {H H' : Hp} {a : Addr} {x : Str} {ns : List Int} (e : LamX.ExtN H H') (h : AnsAt K H a x ns) : AnsAt K H' a x ns := let ⟨q, a, b⟩ := h; ⟨q, exN_t e a, exN_t e b⟩
theorem exN_mi {H H' : Hp} {d c g : Addr} {b : Nat} (e : LamX.ExtN H H') (m : MI H d c g b) : MI H' d c g b := by
  obtain ⟨cs, gs, k, h1, h2, h3, h4, h5, h6, h7⟩ := m.ex
  exact ⟨cs, gs, k, e _ _ h1 (fun ps z => by cases z), e _ _ h2 (fun ps z => by cases z), h3, e _ _ h4 (fun ps z => by cases z), h5, h6, h7⟩
theorem hid_ne {d g a : Addr} {H : Hp} {u : HO} {b : Nat} {c : Addr} (m : MI H d c g b) (h : H a = some u) (h1 : ∀ k, u ≠ .dK k) (h2 : ∀ k, u ≠ .lst k) : a ≠ d ∧ a ≠ g := by
  obtain ⟨cs, gs, k, g1, g2, g3, g4, g5, g6, g7⟩ := m.ex
  exact ⟨fun e => by rw [e, g1] at h; exact h1 _ (Option.some.inj h).symm, fun e => by rw [e, g4] at h; exact h2 _ (Option.some.inj h).symm⟩
/-- tables stand where the store alone has changed -/
theorem tabs_hid {T : List (Addr × Str)} {H H' : Hp} {d c g : Addr} {b : Nat} (t : LamX.Tabs T H) (m : MI H d c g b) (e : Ex (hid d g H) (hid d g H')) : LamX.Tabs T H' := fun p hp => by
  obtain ⟨ps, h1, h2, h3⟩ := t p hp
  have z := hid_ne m h1 (fun k z => by cases z) (fun k z => by cases z)
  refine ⟨ps, hid_le _ _ (e _ _ (hid_at h1 z)), h2, fun pos cv hc => ?_⟩
  obtain ⟨c', e1, e2⟩ := h3 pos cv hc
  have y := hid_ne m e2 (fun k z => by unfold LamX.CodeO at z; cases z) (fun k z => by unfold LamX.CodeO at z; cases z)
  exact ⟨c', e1, hid_le _ _ (e _ _ (hid_at e2 y))⟩
theorem cutI_ex (ns : List Int) (lo hi : Option Int) : ∃ ms : List Int, cutV (ns.map V.int) lo hi = ms.map V.int ∧ ms.length ≤ ns.length := by
  refine ⟨(ns.drop (HT.sIx (ns.map V.int).length 0 lo)).take (HT.sIx (ns.map V.int).length (ns.map V.int).length hi - HT.sIx (ns.map V.int).length 0 lo), ?_, ?_⟩
  · unfold cutV
    rw [List.map_take, List.map_drop]
  · rw [List.length_take, List.length_drop]
    omega
theorem eqv_ti_nil (ns : List Int) : PyData.eqv (dTI ns) (.tuple []) = decide (ns = []) := by
  cases ns <;> simp [dTI, PyData.eqv, PyData.eqvAll]
section
variable {K : PySem.W.Frag} {H : Hp} {Q : VK}
/-- a slice of a tuple of ints: some tuple of ints -/
theorem r_slI {a : Addr} {ns : List Int} {lo hi : Option Int} (h : SqT K H a (ns.map V.int)) (q : ∀ p H' (ms : List Int), Ex H H' → SqT K H' p (ms.map V.int) → ms.length ≤ ns.length → Q (.ref p) H') : rSlA K (.ref a) lo hi H Q := by
  refine ⟨a, _, rfl, h, fun _ => q a H ns (Ex.refl _) h (Nat.le_refl _), fun _ p hp => ?_⟩
  obtain ⟨ms, e, l⟩ := cutI_ex ns lo hi
  rw [e]
  generalize hu : upd H p _ = H1
  obtain ⟨e1, h1⟩ := new_of hp hu
  exact q p H1 ms e1 (SqT.of h1) l
theorem r_catI {a b : Addr} {ns ms : List Int} (h : SqT K H a (ns.map V.int)) (h2 : SqT K H b (ms.map V.int)) (hz : ns.length + ms.length ≤ 100000) (q : ∀ p H', Ex H H' → SqT K H' p ((ns ++ ms).map V.int) → Q (.ref p) H') : rCatA K (.ref a) (.ref b) H Q := by
  refine ⟨a, b, _, _, rfl, rfl, h, h2, sz_of (by rw [List.length_map, List.length_map]; exact hz), fun z => ?_, fun _ z => ?_, fun _ _ p hp => ?_⟩
  · have e : ns = [] := List.map_eq_nil_iff.mp z
    exact q b H (Ex.refl _) (by rw [e]; exact h2)
  · have e : ms = [] := List.map_eq_nil_iff.mp z
    exact q a H (Ex.refl _) (by rw [e, List.append_nil]; exact h)
  · rw [← List.map_append]
    generalize hu : upd H p _ = H1
    obtain ⟨e1, h1⟩ := new_of hp hu
    exact q p H1 e1 (SqT.of h1)
end
section
variable {P : Program} {w : World} {K : PySem.W.Frag} {mg : Str → Option Value} {base : Heap} {f : Addr} {fd : FuncData} {C C0 : Addr}
/-- the case, the answer, as they stand -/
structure BentAt (K : PySem.W.Frag) (T : List (Addr × Str)) (H : Hp) (d c g : Addr) (b : Nat) (pR pm : Addr) (R : List (List Int)) (dd : List Int) : Prop where
  mi : MI H d c g b
  tb : LamX.Tabs T H
  rk : RkX K H pR R
  ok : RkOk R
  mv : SqT K H pm (dd.map V.int)
  dk : DispOk dd
  dl : dd.length = R.length
theorem BentAt.ex {T : List (Addr × Str)} {H H' : Hp} {d c g : Addr} {b : Nat} {pR pm : Addr} {R : List (List Int)} {dd : List Int} (h : BentAt K T H d c g b pR pm R dd) (e : Ex H H') : BentAt K T H' d c g b pR pm R dd :=
  ⟨h.mi.mono e (Nat.le_refl _), h.tb.ext e, h.rk.ex e, h.ok, ex_t e h.mv, h.dk, h.dl⟩
theorem BentAt.exN {T : List (Addr × Str)} {H H' : Hp} {d c g : Addr} {b : Nat} {pR pm : Addr} {R : List (List Int)} {dd : List Int} (h : BentAt K T H d c g b pR pm R dd) (e : LamX.ExtN H H') (t : LamX.Tabs T H') : BentAt K T H' d c g b pR pm R dd :=
  ⟨exN_mi e h.mi, t, exN_rk e h.rk, h.ok, exN_t e h.mv, h.dk, h.dl⟩
theorem BentAt.draw {T : List (Addr × Str)} {H H' : Hp} {d c g : Addr} {b b' : Nat} {pR pm : Addr} {R : List (List Int)} {dd : List Int} (h : BentAt K T H d c g b pR pm R dd) (e : Ex (hid d g H) (hid d g H')) (m : MI H' d c g b') : BentAt K T H' d c g b' pR pm R dd := by
  have n := h.mi.notup
  have st : ∀ {a : Addr} {xs : List V}, SqT K H a xs → SqT K (hid d g H) a xs := fun s => by
    rcases s with (s | ⟨o, s⟩) | s
    · exact .inl (.inl (hid_at s (hid_ne h.mi s (fun k z => by cases z) (fun k z => by cases z))))
    · exact .inl (.inr ⟨o, hid_at s (hid_ne h.mi s (fun k z => by cases z) (fun k z => by cases z))⟩)
    · obtain ⟨o, its, n, k1, k2, k3, k4⟩ := s
      exact .inr ⟨o, its, n, k1, k2, k3, k4⟩
  obtain ⟨qs, s, p⟩ := h.rk
  exact ⟨m, tabs_hid h.tb h.mi e, ⟨qs, ex_t hid_le (ex_t e (st s)), Paired.mapP p fun _ _ ⟨o, x, y, z⟩ => ⟨o, hid_le _ _ (e _ _ (hid_at x (hid_ne h.mi x (fun k z => by cases z) (fun k z => by cases z)))), y, z⟩⟩, h.ok, ex_t hid_le (ex_t e (st h.mv)), h.dk, h.dl⟩
theorem ans_draw {H H' : Hp} {d c g a : Addr} {b : Nat} {x : Str} {ns : List Int} (m : MI H d c g b) (e : Ex (hid d g H) (hid d g H')) (h : AnsAt K H a x ns) : AnsAt K H' a x ns := by
  have st : ∀ {a : Addr} {xs : List V}, SqT K H a xs → SqT K (hid d g H) a xs := fun s => by
    rcases s with (s | ⟨o, s⟩) | s
    · exact .inl (.inl (hid_at s (hid_ne m s (fun k z => by cases z) (fun k z => by cases z))))
    · exact .inl (.inr ⟨o, hid_at s (hid_ne m s (fun k z => by cases z) (fun k z => by cases z))⟩)
    · obtain ⟨o, its, n, k1, k2, k3, k4⟩ := s
      exact .inr ⟨o, its, n, k1, k2, k3, k4⟩
  obtain ⟨q, h1, h2⟩ := h
  exact ⟨q, ex_t hid_le (ex_t e (st h1)), ex_t hid_le (ex_t e (st h2))⟩
def spBent (K : PySem.W.Frag) (T : List (Addr × Str)) : Sp := fun vs H Q _ => ∃ (d c g pR pm pf : Addr) (b : Nat) (R : List (List Int)) (dd : List Int) (x : Str) (ns : List Int), vs = [.ref d, .ref pR, .ref pm, .ref pf] ∧ BentAt K T H d c g (b + 3) pR pm R dd ∧ AnsAt K H pf x ns ∧ IsWord x ∧ ns.length ≤ 1000 ∧
  ∀ H', MI H' d c g b → LamX.Tabs T H' → Q (.bl true) H'
theorem good_eq {R : List (List Int)} {d ns : List Int} {x : Str} (ok : RkOk R) (od : DispOk d) (hl : d.length = R.length) : goodL R d x ns = goodT R d x ns := by
  unfold goodL goodT
  rw [trips_eq od, refs_eq ok od hl]
/-- _law_told(lambda: check_ring_decision(_law_lists, _law_moves, _law_reply)) -/
theorem pe_told {X : Cx} {T : List (Addr × Str)} {K : PySem.W.Frag} {C C0 c Pt gT : Addr} {fdT : FuncData} {qx : Str} {params : Arguments} {scope : Scope} {p lpos pos p0 p1 p2 p3 p4 : Pos} (hK : X.K = K) (hg : Gl X "_law_told") (hq : X.env.qual = qx) (FT : FnP X.K "_law_told" st_law_told gT fdT) (gmT : X.mg "_law_told" = some (.ref gT))
    (g0 : X.mg "SwaprowError" = some (.ref C0)) (me : PySem.W.exmOne X.K (.ref C) (.ref C0) = some true) (D_law_class : Def X.prog X.w X.K X.mg X.base CX0 1 "_law_class" ["_law_error"] (spClass C))
    (D_check : Def X.prog X.w X.K X.mg X.base (L2.CX X.prog X.w) 8 "check_ring_decision" ["rankings", "displacements", "answer"] (spCheck X.K C))
    (TB : LamX.TabB X.base X.mg c Pt) (hcode : X.env.code = .ref c) (hmT : (Pt, qx ++ "<lambda>") ∈ T) (huT : ∀ p ∈ T, p.1 = Pt → p.2 = qx ++ "<lambda>") (hr : Room 10 X.A) (L : LamX.LamS X.env.scope scope) (hdef : defaultsOf params X.env = ([], []))
    (hbind : ∀ (q : Str) (cl : List (Str × Addr)) (pm cv ctv : Value), bindArgs (PySem.W.kla_fn "<lambda>" q params (.Call (.Name "check_ring_decision" p0) [.Name "_law_lists" p1, .Name "_law_moves" p2, .Name "_law_reply" p3] [] p4) scope cl pm cv ctv) ⟨[], []⟩ = pure [])
    (n1 : X.N[1]? = some (("_law_lists" : Str))) (n2 : X.N[2]? = some (("_law_moves" : Str))) (n9 : X.N[9]? = some (("_law_reply" : Str))) (v1 : Vis scope "_law_lists") (v2 : Vis scope "_law_moves") (v9 : Vis scope "_law_reply") (gc : scope.names.lookup ("check_ring_decision" : Str) = some .globalImplicit) :
    PE X (.Call (.Name "_law_told" p) [.Lambda params (.Call (.Name "check_ring_decision" p0) [.Name "_law_lists" p1, .Name "_law_moves" p2, .Name "_law_reply" p3] [] p4) scope lpos] [] pos)
      (LamX.tLam T (TTold2 C) fun E => tCallS (spCheck K C) (WE fun cls d _ H => E cls d H) (tCons (tVar 1) (tCons (tVar 2) (tCons (tVar 9) tNil)))) := by
  subst hK hq
  have biT := bi_law_told FT
  obtain ⟨ocT, odT, dVT, kVT, docT, pmT, anT, cdvT, ctT, oslT, efT, lkT, hcT, _, _⟩ := FT.ex
  rw [efT] at lkT biT
  exact LamX.pe_lamcall (T := T) (Ng := N_law_told) (k := 8) hg gmT FT.kp lkT hcT biT sc_law_told rfl (Or.inl rfl) (told2_gives g0 me 10 (by decide) hr D_law_class) TB hcode hmT huT hr L hdef hbind
    fun A2 outer2 s2 H2 E2 f2 c2 hr2 => pe_defX D_check hr2 (takes_of rfl rfl rfl rfl) (pa_cons (pe_var n1 v1 (by decide) (by decide)) (pa_cons (pe_var n2 v2 (by decide) (by decide)) (pa_cons (pe_var n9 v9 (by decide) (by decide)) pa_nil))) gc
theorem shw {x : Str} (h : IsWord x) : (PyData.showable (.list [.str x]) = true ∧ PyData.hasDict (.list [.str x]) = false ∧ PyData.depth (.list [.str x]) ≤ 60 ∧ (PyData.shown (.list [.str x])).length ≤ sizeLine) ∧
    (PyData.showable (.tuple [.str "InvalidAnswer", .str x]) = true ∧ PyData.hasDict (.tuple [.str "InvalidAnswer", .str x]) = false ∧ PyData.depth (.tuple [.str "InvalidAnswer", .str x]) ≤ 60 ∧ (PyData.shown (.tuple [.str "InvalidAnswer", .str x])).length ≤ sizeLine) := by
  rcases h with rfl | rfl | rfl <;> decide +kernel
abbrev qnB : Str := ("_law_bent_right" : Str) ++ ".<locals>."
abbrev N_law_bent_right : List PySem.Str := ["_law_m", "_law_lists", "_law_moves", "_law_found", "_law_at", "_law_more", "_law_bent", "_law_one", "_law_some", "_law_reply", "_law_told_here"]
theorem sc_law_bent_right : FnScope N_law_bent_right ["_law_m", "_law_lists", "_law_moves", "_law_found"] (defScope st_law_bent_right) := ⟨rfl, rfl, rfl, by decide +kernel, rfl, by decide +kernel, by decide +kernel⟩
theorem sg_law_bent_right (v0 v1 v2 v3 : V) : L2.start N_law_bent_right [v0, v1, v2, v3] = [some v0, some v1, some v2, some v3, none, none, none, none, none, none, none] := rfl
theorem bi_law_bent_right {K : PySem.W.Frag} {f : Addr} {fd : FuncData} (F : FnP K "_law_bent_right" st_law_bent_right f fd) : Binds K fd ["_law_m", "_law_lists", "_law_moves", "_law_found"] [] := F.bindsN fun _ _ _ _ _ _ us hl => match us, hl with | [_, _, _, _], _ => rfl

-- 0:_law_m 1:_law_lists* 2:_law_moves* 3:_law_found 4:_law_at 5:_law_more* 6:_law_bent 7:_law_one 8:_law_some 9:_law_reply* 10:_law_told_here
theorem ok_bent_right (F : FnP K "_law_bent_right" st_law_bent_right f fd) (fr : Free mg) (T : List (Addr × Str)) {cc Pt gT : Addr} {fdT : FuncData} (hcode : fd.code = .ref cc) (TB : LamX.TabB base mg cc Pt) (hmT : (Pt, qnB ++ "<lambda>") ∈ T) (huT : ∀ p ∈ T, p.1 = Pt → p.2 = qnB ++ "<lambda>")
    (FT : FnP K "_law_told" st_law_told gT fdT) (gmT : mg "_law_told" = some (.ref gT)) (g0 : mg "SwaprowError" = some (.ref C0)) (me : PySem.W.exmOne K (.ref C) (.ref C0) = some true) (D_law_class : Def P w K mg base CX0 1 "_law_class" ["_law_error"] (spClass C))
    (D_check : Def P w K mg base (L2.CX P w) 8 "check_ring_decision" ["rankings", "displacements", "answer"] (spCheck K C)) (D_law_draw : Def P w K mg base CX0 2 "_law_draw" ["_law_m", "_law_top"] spDraw)
    (D_law_ring_word : Def P w K mg base CX0 4 "_law_ring_word" ["_law_lists", "_law_moves", "_law_reply"] (spWord K)) : FnOkG P w K mg base CX0 11 f fd ["_law_m", "_law_lists", "_law_moves", "_law_found"] (spBent K T) := by
  refine okG F sc_law_bent_right (fun vs H Q E h => ?_) (fun cdv A outer s H vs Q E hcd hr hG h => ?_)
  · obtain ⟨d, c, g, pR, pm, pf, b, R, dd, x, ns, rfl, _⟩ := h
    rfl
  · obtain ⟨d, c, g, pR, pm, pf, b, R, dd, x, ns, rfl, ba, an, hw, hz, k⟩ := h
    have hu64 := hr.units
    have hu65 : (A.deeper (envOfC "_law_bent_right" (defScope st_law_bent_right) s.heap.objs.size f cdv)).units + 65 < cLine := by have := hr.un; omega
    have hcodeX : cdv = .ref cc := hcd.symm.trans hcode
    refine ⟨_, PSs.nox (Evl.pss_cut (ps_set (i := 4) sc_law_bent_right.nd rfl (Or.inl rfl) (pe_ifExp (pt_cmpR (ned (K := K) rfl hu64) (pe_ix (ixt (K := K) rfl) (pv 3) pe_int (fun _ _ => rfl)) (pe_tup pa_nil) (nomark _)) (pe_def D_law_draw (hr.mono (by decide)) (pa_cons (pv 0) (pa_cons (pe_callB (lenq (K := K) rfl) (by rfl) fr.len (by decide +kernel) (pa_cons (pe_ix (ixt (K := K) rfl) (pv 3) pe_int (fun _ _ => rfl)) pa_nil)) pa_nil))) pe_int))
    (pss_cons (ps_set (i := 5) sc_law_bent_right.nd rfl (Or.inr rfl) (pe_ix (ixl (K := K) rfl) (pe_lst (pa_cons pe_int (pa_cons (pe_un un_neg pe_int) (pa_cons (pe_callB (lenq (K := K) rfl) (by rfl) fr.len (by decide +kernel) (pa_cons (pv 2) pa_nil)) pa_nil)))) (pe_def D_law_draw (hr.mono (by decide)) (pa_cons (pv 0) (pa_cons pe_int pa_nil))) (fun _ _ => rfl)))
    (pss_cons (ps_set (i := 6) sc_law_bent_right.nd rfl (Or.inl rfl) (pe_tup (pa_cons (pe_ix (ixt (K := K) rfl) (pv 3) pe_int (fun _ _ => rfl)) (pa_cons (pe_op (catt (K := K) rfl) (pe_op (catt (K := K) rfl) (pe_slice (slt (K := K) rfl) (pe_ix (ixt (K := K) rfl) (pv 3) pe_int (fun _ _ => rfl)) po_none (po_some (pv 4))) (pe_callTy (tupx (K := K) rfl) (by rfl) fr.tuple (by decide +kernel) (pa_cons (pe_lc (own := [("_law_one", 7)]) rfl sc_law_bent_right.nd (pit (K := K) rfl (pe_slice (slt (K := K) rfl) (pe_ix (ixt (K := K) rfl) (pv 3) pe_int (fun _ _ => rfl)) (po_some (pv 4)) (po_some (pe_op op_add (pv 4) pe_int)))) (blkOk_by (own := [("_law_one", 7)]) (N := N_law_bent_right) (sc := defScope st_law_bent_right) (by decide +kernel)) (fun _ _ _ _ _ => (pg_name (i := 7) sc_law_bent_right.nd rfl (Or.inl rfl))) (fun _ _ _ _ _ => pts_nil) (fun _ _ _ _ _ => (pe_op op_add (pv 7) (pv 5)))) pa_nil))) (pe_slice (slt (K := K) rfl) (pe_ix (ixt (K := K) rfl) (pv 3) pe_int (fun _ _ => rfl)) (po_some (pe_op op_add (pv 4) pe_int)) po_none)) pa_nil))))
    (pss_cons (ps_set (i := 8) sc_law_bent_right.nd rfl (Or.inl rfl) (pe_lst (pa_cons (pv 6) (pa_cons (pe_tup (pa_cons (pe_ix (ixt (K := K) rfl) (pv 3) pe_int (fun _ _ => rfl)) (pa_cons (pe_slice (slt (K := K) rfl) (pe_ix (ixt (K := K) rfl) (pv 3) pe_int (fun _ _ => rfl)) po_none (po_some (pe_un un_neg pe_int))) pa_nil))) (pa_cons (pe_tup (pa_cons (pe_ix (ixl (K := K) rfl) (pe_lst (pa_cons pe_str (pa_cons pe_str (pa_cons pe_str pa_nil)))) (pe_def D_law_draw (hr.mono (by decide)) (pa_cons (pv 0) (pa_cons pe_int pa_nil))) (fun _ _ => rfl)) (pa_cons (pe_ix (ixt (K := K) rfl) (pv 3) pe_int (fun _ _ => rfl)) pa_nil))) pa_nil)))))
    (pss_cons (ps_for PassesOwn.never rfl (pil (K := K) rfl (pv 8)) (pg_name (i := 9) sc_law_bent_right.nd rfl (Or.inr rfl))
    (pss_cons (ps_set (i := 10) sc_law_bent_right.nd rfl (Or.inl rfl) (pe_told (K := K) rfl rfl (qx := qnB) rfl FT gmT g0 me D_law_class D_check TB hcodeX hmT huT hr (LamX.lamS_by (sc := defScope st_law_bent_right) (by decide +kernel)) rfl (fun _ _ _ _ _ => rfl) rfl rfl rfl (Or.inr (Or.inr rfl)) (Or.inr (Or.inr rfl)) (Or.inr (Or.inr rfl)) rfl))
      (pss_one (ps_if (pt_cmpR op_ne (pe_callB (repq (K := K) rfl hG hu65) (by rfl) fr.repr (by decide +kernel) (pa_cons (pv 10) pa_nil)) (pe_callB (repq (K := K) rfl hG hu65) (by rfl) fr.repr (by decide +kernel) (pa_cons (pe_def D_law_ring_word (hr.mono (by decide)) (pa_cons (pv 1) (pa_cons (pv 2) (pa_cons (pv 9) pa_nil)))) pa_nil)) (nomark _)) (pss_one (ps_ret pe_bl)) pss_nil))))
    (pss_one (ps_ret pe_bl))))))), ?_⟩
    rw [sg_law_bent_right]
    tm_at "r"
    refine r_cut (fun σ' H1 => ∃ i : Int, σ' = [some (.ref d), some (.ref pR), some (.ref pm), some (.ref pf), some (.int i), none, none, none, none, none, none] ∧ BentAt K T H1 d c g (b + 2) pR pm R dd ∧ AnsAt K H1 pf x ns) ?_ ?_
    · obtain ⟨qf, a1, a2⟩ := an
      tm_at "r"
      refine r_ixT a1 (at_of (j := 1) rfl rfl) ?_
      tm_at "r"
      w_call p0 n0 H0 e0 h0 u0 z0
      refine ⟨dTI ns, .tuple [], dp_ti (ex_t e0 a2), .tup (SqT.of h0) .nil, sh_ti _, by decide +kernel, ?_⟩
      tm_at "r"
      rw [eqv_ti_nil]
      have a10 := ex_t e0 a1
      have a20 := ex_t e0 a2
      refine r_ite (fun hb => ?_) (fun hb => ?_)
      · have hne : ns ≠ [] := by simpa using hb
        have hl0 : 0 < ns.length := List.length_pos_iff.mpr hne
        tm_at "r"
        refine r_ixT a10 (at_of (j := 1) rfl rfl) ?_
        tm_at "r"
        refine r_lenT a20 ?_
        rw [List.length_map]
        tm_at "r"
        refine ⟨d, c, g, b + 2, _, rfl, (ba.ex e0).mi, by omega, by omega, fun r H1 r0 r1 m1 e1 => ?_⟩
        exact ⟨r, rfl, (ba.ex e0).draw e1 m1, ans_draw (ba.ex e0).mi e1 ⟨qf, a10, a20⟩⟩
      · tm_at "r"
        have b2 := ba.ex e0
        exact ⟨0, rfl, ⟨b2.mi.mono (Ex.refl _) (by omega), b2.tb, b2.rk, b2.ok, b2.mv, b2.dk, b2.dl⟩, qf, a10, a20⟩
    · rintro σ' H1 ⟨i, rfl, b1, an1⟩
      tm_at "r"
      refine r_lenT b1.mv ?_
      rw [List.length_map]
      tm_at "r"
      w_call p2 n2 H2 e2 h2 u2 z2
      tm_at "r"
      have b2 := b1.ex e2
      refine ⟨d, c, g, b + 1, 3, rfl, b2.mi, by decide, by decide, fun r H3 r0 r1 m3 e3 => ?_⟩
      have n2m := b1.mi.ne n2
      have h3 : H3 p2 = some (.lst ([1, -1, (dd.length : Int)].map V.int)) := hid_le _ _ (e3 _ _ (hid_at h2 ⟨n2m.1, n2m.2.1⟩))
      refine r_ixLI (SqL.of h3) r0 (by show r < 3; exact r1) ?_
      generalize ix [1, -1, (dd.length : Int)] r = more
      have b3 := b2.draw e3 m3
      obtain ⟨qf, a1, a2⟩ := ans_draw b2.mi e3 (an1.ex e2)
      tm_at "r"
      refine r_ixT a1 (at_of (j := 0) rfl rfl) ?_
      tm_at "r"
      refine r_ixT a1 (at_of (j := 1) rfl rfl) ?_
      tm_at "r"
      refine ⟨_, rfl, ?_⟩
      refine r_slI a2 fun q1 H4 m1 e4 s4 l4 => ?_
      tm_at "r"
      refine r_ixT (ex_t e4 a1) (at_of (j := 1) rfl rfl) ?_
      tm_at "r"
      refine ⟨_, rfl, ?_⟩
      tm_at "r"
      refine ⟨_, rfl, ?_⟩
      refine r_slI (ex_t e4 a2) fun q2 H5 m2 e5 s5 l5 => ?_
      refine ⟨_, rfl, ⟨_, s5⟩, ?_⟩
      refine lc_vals (walkTI (ns := m2)) (fun _ => true) (fun j => .int (m2.getD j 0 + more)) (fun _ e => ex_t e s5) (by omega) ?_ ?_
      · rintro D j v H' H'' acc KN KY hj e6 ⟨rfl, rfl⟩ hD hy _ hk
        refine ⟨rfl, ?_⟩
        tm_at "r"
        exact hk rfl _ (Ex.refl _)
      · intro D H6 nD e6 h6
        have h6' : H6 D = some (.lst (((List.range m2.length).map fun j => m2.getD j 0 + more).map V.int)) := by
          rw [h6, filter_yes, List.map_map] <;> rfl
        tm_at "r"
        refine r_tupX (SqL.of h6') fun q3 H7 n7 e7 x7 => ?_
        have e47 := (e5.trans e6).trans e7
        refine r_catI (ex_t e47 s4) x7.sq (by rw [List.length_map, List.length_range]; omega) fun q4 H8 e8 s8 => ?_
        tm_at "r"
        have e38 := (e4.trans e47).trans e8
        refine r_ixT (ex_t e38 a1) (at_of (j := 1) rfl rfl) ?_
        tm_at "r"
        refine ⟨_, rfl, ?_⟩
        tm_at "r"
        refine r_slI (ex_t e38 a2) fun q5 H9 m5 e9 s9 l9 => ?_
        refine r_catI (ex_t e9 s8) s9 (by rw [List.length_append, List.length_map, List.length_range]; omega) fun q6 H10 e10 s10 => ?_
        generalize hns6 : m1 ++ ((List.range m2.length).map fun j => m2.getD j 0 + more) ++ m5 = ns6 at s10
        have l6 : ns6.length ≤ 3000 := by rw [← hns6, List.length_append, List.length_append, List.length_map, List.length_range]; omega
        tm_at "r"
        w_call pb n11 H11 e11 h11 u11 z11
        have e311 := ((e38.trans e9).trans e10).trans e11
        tm_at "r"
        refine r_ixT (ex_t e311 a1) (at_of (j := 0) rfl rfl) ?_
        tm_at "r"
        refine r_ixT (ex_t e311 a1) (at_of (j := 1) rfl rfl) ?_
        tm_at "r"
        refine ⟨_, rfl, ?_⟩
        refine r_slI (ex_t e311 a2) fun q7 H12 m7 e12 s12 l12 => ?_
        tm_at "r"
        w_call pc n13 H13 e13 h13 u13 z13
        have e313 := (e311.trans e12).trans e13
        tm_at "r"
        w_call pw n14 H14 e14 h14 u14 z14
        tm_at "r"
        have b14 := b3.ex (e313.trans e14)
        refine ⟨d, c, g, b, 3, rfl, b14.mi, by decide, by decide, fun r2 H15 r20 r21 m15 e15 => ?_⟩
        have b15 := b14.draw e15 m15
        have an15 := ans_draw b14.mi e15 (show AnsAt K H14 pf x ns from ⟨qf, ex_t (e313.trans e14) a1, ex_t (e313.trans e14) a2⟩)
        have anb15 := ans_draw b14.mi e15 (show AnsAt K H14 pb x ns6 from ⟨q6, SqT.of (e14 _ _ (e13 _ _ (e12 _ _ h11))), ex_t (((e11.trans e12).trans e13).trans e14) s10⟩)
        have anc15 := ans_draw b14.mi e15 (show AnsAt K H14 pc x m7 from ⟨q7, SqT.of (e14 _ _ h13), ex_t (e13.trans e14) s12⟩)
        have n14m := (b3.ex e313).mi.ne n14
        have hw15 : H15 pw = some (.lst [.str "triple", .str "refused", .str "sequence"]) := hid_le _ _ (e15 _ _ (hid_at h14 ⟨n14m.1, n14m.2.1⟩))
        obtain ⟨x3, hx3, hw3⟩ : ∃ x3 : Str, atI [V.str "triple", V.str "refused", V.str "sequence"] r2 = some (.str x3) ∧ IsWord x3 := by
          have h : r2 = 0 ∨ r2 = 1 ∨ r2 = 2 := by omega
          rcases h with rfl | rfl | rfl
          · exact ⟨"triple", at_of (j := 0) rfl rfl, .inr (.inr rfl)⟩
          · exact ⟨"refused", at_of (j := 1) rfl rfl, .inl rfl⟩
          · exact ⟨"sequence", at_of (j := 2) rfl rfl, .inr (.inl rfl)⟩
        refine r_ixL (SqL.of hw15) hx3 ?_
        tm_at "r"
        obtain ⟨qf', a1', a2'⟩ := an15
        refine r_ixT a1' (at_of (j := 1) rfl rfl) ?_
        tm_at "r"
        w_call pd n16 H16 e16 h16 u16 z16
        tm_at "r"
        w_call ps n17 H17 e17 h17 u17 z17
        tm_at "r"
        have b17 := b15.ex (e16.trans e17)
        have r1' := anb15.ex (e16.trans e17)
        have r2' := anc15.ex (e16.trans e17)
        have r3' : AnsAt K H17 pd x3 ns := ⟨qf', SqT.of (e17 _ _ h16), ex_t (e16.trans e17) a2'⟩
        refine ⟨_, rfl, ⟨_, SqL.of h17⟩, ?_⟩
        refine for_run (walk_list (xs := [.ref pb, .ref pc, .ref pd])) (fun j σ H' => (∃ v4 v5 v6 v7 v9 v10, σ = [some (.ref d), some (.ref pR), some (.ref pm), some (.ref pf), v4, v5, v6, v7, some (.ref ps), v9, v10]) ∧ BentAt K T H' d c g b pR pm R dd ∧ H' ps = some (.lst [.ref pb, .ref pc, .ref pd]) ∧ AnsAt K H' pb x ns6 ∧ AnsAt K H' pc x m7 ∧ AnsAt K H' pd x3 ns)
          ⟨⟨_, _, _, _, _, _, rfl⟩, b17, h17, r1', r2', r3'⟩ (fun j σ H' _ q => SqL.of q.2.2.1) ?_ ?_
        · rintro j v σ H18 H19 hj ⟨⟨v4, v5, v6, v7, v9, v10, rfl⟩, b18, hps, ab, ac, ad⟩ ⟨rfl, hv⟩
          obtain ⟨pr, xr, nr, rfl, ar, hwr, lr⟩ : ∃ (pr : Addr) (xr : Str) (nr : List Int), v = .ref pr ∧ AnsAt K H19 pr xr nr ∧ IsWord xr ∧ nr.length ≤ 3000 := by
            have h : j = 0 ∨ j = 1 ∨ j = 2 := by have : j < 3 := hj; omega
            rcases h with rfl | rfl | rfl
            · cases hv; exact ⟨pb, x, ns6, rfl, ab, hw, l6⟩
            · cases hv; exact ⟨pc, x, m7, rfl, ac, hw, by omega⟩
            · cases hv; exact ⟨pd, x3, ns, rfl, ad, hw3, by omega⟩
          tm_at "r"
          refine ⟨b18.tb, fun H20 eN tb20 => ?_⟩
          have b20 := b18.exN eN tb20
          have ps20 : H20 ps = some (.lst [.ref pb, .ref pc, .ref pd]) := eN _ _ hps (fun ps z => by cases z)
          have ab20 := exN_ans eN ab
          have ac20 := exN_ans eN ac
          have ad20 := exN_ans eN ad
          have ar20 := exN_ans eN ar
          intro H21 E' Q' e21 hE hQ
          have b21 := b20.ex e21
          refine r_callS ?_
          tm_at "r"
          have eqg := good_eq (x := xr) (ns := nr) b21.ok b21.dk b21.dl
          refine ⟨pR, pm, pr, R, dd, xr, nr, rfl, b21.rk.rk, b21.ok, b21.mv, b21.dk, b21.dl, ar20.ex e21, hwr, by omega, fun good H22 e22 => hQ _ _ fun p H23 e23 h23 => ?_, fun bad de H22 nde e22 h22 => hE _ _ _ ⟨de, xr, rfl, rfl, h22, fun H23 p e23 h23 => ?_⟩⟩
          · have e2123 := e22.trans e23
            have b23 := b21.ex e2123
            obtain ⟨w1, w2, w3, w4⟩ := (shw hwr).1
            tm_at "r"
            refine ⟨p, .list [.str xr], rfl, .lst (SqL.of h23) (.cons (.str _) .nil), w1, w2, w3, w4, ?_⟩
            tm_at "r"
            refine ⟨pR, pm, pr, R, dd, xr, nr, rfl, b23.rk, b23.ok, b23.mv, b23.dl, (ar20.ex e21).ex e2123, hwr, by omega, fun _ p2 H24 e24 h24 => ?_, (fun g2 => by rw [eqg, good] at g2; cases g2)⟩
            tm_at "r"
            refine ⟨p2, .list [.str xr], rfl, .lst (SqL.of h24) (.cons (.str _) .nil), w1, w2, w3, w4, ?_⟩
            tm_at "r"
            rw [decide_eq_true rfl]
            tm_at "r"
            have ef := (e21.trans e2123).trans e24
            exact ⟨⟨_, _, _, _, _, _, rfl⟩, b20.ex ef, ef _ _ ps20, ab20.ex ef, ac20.ex ef, ad20.ex ef⟩
          · have e2123 := e22.trans e23
            have b23 := b21.ex e2123
            obtain ⟨w1, w2, w3, w4⟩ := (shw hwr).2
            tm_at "r"
            refine ⟨p, .tuple [.str "InvalidAnswer", .str xr], rfl, .tup (SqT.of h23) (.cons (.str _) (.cons (.str _) .nil)), w1, w2, w3, w4, ?_⟩
            tm_at "r"
            refine ⟨pR, pm, pr, R, dd, xr, nr, rfl, b23.rk, b23.ok, b23.mv, b23.dl, (ar20.ex e21).ex e2123, hwr, by omega, (fun g2 => by rw [eqg, bad] at g2; cases g2), fun _ p2 H24 e24 h24 => ?_⟩
            tm_at "r"
            refine ⟨p2, .tuple [.str "InvalidAnswer", .str xr], rfl, .tup (SqT.of h24) (.cons (.str _) (.cons (.str _) .nil)), w1, w2, w3, w4, ?_⟩
            tm_at "r"
            rw [decide_eq_true rfl]
            tm_at "r"
            have ef := (e21.trans e2123).trans e24
            exact ⟨⟨_, _, _, _, _, _, rfl⟩, b20.ex ef, ef _ _ ps20, ab20.ex ef, ac20.ex ef, ad20.ex ef⟩
        · rintro σ H18 ⟨⟨v4, v5, v6, v7, v9, v10, rfl⟩, b18, _⟩
          tm_at "r"
          exact k H18 b18.mi b18.tb
end
end SW
end

section
set_option Elab.async false
set_option linter.all false
set_option maxRecDepth 100000
set_option maxHeartbeats 4000000
namespace SW
open PySem PySem.Spec PyProof.Rows L2 Evl
local macro_rules | `(tactic| tm_at "r1") => `(tactic| first
  | ((with_reducible refine' r_var ?hx ?_); (case hx => exact rfl))
  | with_reducible refine r_c ?_
  | with_reducible refine r_op ?_
  | with_reducible refine r_I0 ?_
  | with_reducible refine r_un ?_
  | with_reducible refine r_U ?_
  | with_reducible refine r_cons ?_
  | with_reducible refine r_nil ?_
  | with_reducible refine r_call ?_
  | with_reducible refine r_cb ?_
  | with_reducible refine r_test ?_
  | with_reducible refine r_blp ?_
  | with_reducible refine r_tYes ?_
  | with_reducible refine r_ifT ?_
  | with_reducible refine r_ifF ?_
  | ((with_reducible refine' r_aug ?hx ?_); (case hx => exact rfl))
  | with_reducible refine r_seq ?_
  | with_reducible refine r_asg ?_
  | with_reducible refine r_gname ?_
  | with_reducible refine r_ret ?_
  | with_reducible refine r_tup ?_
  | with_reducible refine r_lst ?_
  | with_reducible refine r_ifS ?_
  | with_reducible refine r_par ?_
  | with_reducible refine r_two ?_
  | with_reducible refine r_lc ?_
  | with_reducible refine r_rng1 ?_
  | with_reducible refine r_rng2 ?_
  | with_reducible refine r_iList ?_
  | with_reducible refine r_iTup ?_
  | with_reducible refine r_for ?_
  | with_reducible refine r_not ?_
  | with_reducible refine r_and ?_
  | with_reducible refine r_or ?_
  | with_reducible refine r_andV ?_
  | with_reducible refine r_orV ?_
  | with_reducible refine r_notV ?_
  | with_reducible refine r_if ?_
  | with_reducible refine r_chain ?_
  | with_reducible refine r_B ?_
  | with_reducible refine r_next ?_
  | with_reducible refine r_drop ?_
  | with_reducible refine r_retN ?_
  | with_reducible refine r_ipI ?_
  | ((with_reducible refine' r_sz ?hz ?_); (case hz => exact Nat.le_of_ble_eq_true rfl))
  | with_reducible refine r_gCons ?_
  | with_reducible refine r_gNil ?_
  | with_reducible refine r_par3 ?_
  | with_reducible refine r_three ?_
  | with_reducible refine r_listRg ?_
  | with_reducible refine r_tupRg ?_
  | with_reducible refine r_augS ?_
  | with_reducible refine r_lenSetT ?_
  | with_reducible refine r_lenSetL ?_
  | with_reducible refine r_ifNT ?_
  | with_reducible refine r_ifNF ?_
  | with_reducible refine r_eqI ?_
  | with_reducible refine r_neI ?_
  | with_reducible refine r_eqS ?_
  | with_reducible refine r_neS ?_
  | with_reducible refine r_bm ?_
  | with_reducible refine r_bt ?_
  | with_reducible refine r_iEnT ?_
  | with_reducible refine r_iEnL ?_
  | with_reducible refine r_dc ?_
  | with_reducible refine r_dget ?_
  | with_reducible refine r_dput ?_
  | with_reducible refine r_sl ?_
  | with_reducible refine r_noP ?_
  | with_reducible refine r_part ?_
  | with_reducible refine r_revL ?_
  | with_reducible refine r_gSub ?_)
local macro_rules | `(tactic| tm_at "r") => `(tactic| repeat tm_at "r1")
local macro_rules | `(tactic| w_call $p $n $H1 $e $h $u $z) => `(tactic| (intro $p:ident $n:ident; generalize $u:ident : upd _ $p:ident _ = $H1:ident; obtain ⟨$e, $h⟩ := new_of $n:ident $u:ident))
theorem perm_sumI {l m : List Int} (h : l.Perm m) : l.sum = m.sum := by
  induction h with
  | nil => rfl
  | cons x _ ih => rw [List.sum_cons, List.sum_cons, ih]
  | swap x y l => rw [List.sum_cons, List.sum_cons, List.sum_cons, List.sum_cons]; omega
  | trans _ _ a b => exact a.trans b
theorem rgI_nd (n : Nat) : (rgI 0 n).Nodup := by
  unfold rgI
  refine List.pairwise_iff_getElem.mpr fun i j hi hj hij e => ?_
  simp at e
  omega
theorem sum_sub {α : Type} (l : List α) (f g : α → Int) : (l.map fun x => f x - g x).sum = (l.map f).sum - (l.map g).sum := by
  induction l with
  | nil => rfl
  | cons a l ih => rw [List.map_cons, List.map_cons, List.map_cons, List.sum_cons, List.sum_cons, List.sum_cons, ih]; omega
theorem perm_of_sub {α : Type} [DecidableEq α] {l m : List α} (h1 : l.Nodup) (h2 : m.Nodup) (hs : ∀ x ∈ l, x ∈ m) (hl : m.length ≤ l.length) : l.Perm m := by
  refine (List.perm_ext_iff_of_nodup h1 h2).mpr fun x => ⟨hs x, fun hx => ?_⟩
  by_cases h : x ∈ l
  · exact h
  · have z := nd_le (l := x :: l) (m := m) (List.nodup_cons.mpr ⟨h, h1⟩) fun y hy => by
      rcases List.mem_cons.mp hy with rfl | hy
      · exact hx
      · exact hs y hy
    rw [List.length_cons] at z
    omega
/-- what brings each to its place, never around -/
def withinT (n : Nat) (r : List Int) : List Int := (List.range n).map fun (i : Nat) => ((r.idxOf (i : Int) : Nat) : Int) - (i : Int)
theorem within_ok {n : Nat} {r : List Int} (pm : PermI n r) (h3 : 3 ≤ n) (h20 : n ≤ 20) : DispOk (withinT n r) ∧ (withinT n r).length = n := by
  have hl : (withinT n r).length = n := by unfold withinT; rw [List.length_map, List.length_range]
  have ixl : ∀ i : Nat, i < n → r.idxOf (i : Int) < n := fun i hi => by
    have z : r.idxOf (i : Int) < r.length := List.idxOf_lt_length_iff.mpr (pm.has _ (by omega) (by omega))
    rw [pm.len] at z
    exact z
  have inj : ∀ i j : Nat, i < n → j < n → r.idxOf (i : Int) = r.idxOf (j : Int) → i = j := fun i j hi hj e => by
    have mi : r.idxOf (i : Int) < r.length := List.idxOf_lt_length_iff.mpr (pm.has _ (by omega) (by omega))
    have mj : r.idxOf (j : Int) < r.length := List.idxOf_lt_length_iff.mpr (pm.has _ (by omega) (by omega))
    have e3 : r[r.idxOf (i : Int)] = r[r.idxOf (j : Int)] := by simp only [e]
    rw [List.getElem_idxOf, List.getElem_idxOf] at e3
    omega
  refine ⟨disp_of pm h3 h20 hl (fun i hi => ?_) ?_, hl⟩
  · have e : (withinT n r).getD i 0 = ((r.idxOf (i : Int) : Nat) : Int) - (i : Int) := by
      unfold withinT
      rw [List.getD_eq_getElem?_getD, List.getElem?_map, List.getElem?_range hi] <;> rfl
    have z := ixl i hi
    rw [e]
    refine ⟨?_, by omega, by omega⟩
    rw [show (i : Int) + (((r.idxOf (i : Int) : Nat) : Int) - (i : Int)) = ((r.idxOf (i : Int) : Nat) : Int) by omega]
    exact Int.emod_eq_of_lt (by omega) (by omega)
  · unfold withinT
    rw [sum_sub]
    have p : ((List.range n).map fun (i : Nat) => ((r.idxOf (i : Int) : Nat) : Int)).Perm ((List.range n).map fun (i : Nat) => (i : Int)) := by
      have nd1 : ((List.range n).map fun (i : Nat) => ((r.idxOf (i : Int) : Nat) : Int)).Nodup := by
        refine List.pairwise_iff_getElem.mpr fun i j hi hj hij e => ?_
        simp only [List.length_map, List.length_range] at hi hj
        simp only [List.getElem_map, List.getElem_range] at e
        exact absurd (inj i j hi hj (by omega)) (by omega)
      have e0 : ((List.range n).map fun (i : Nat) => (i : Int)) = rgI 0 n := by
        unfold rgI
        exact congrArg (fun f => (List.range n).map f) (funext fun (i : Nat) => (Int.zero_add (i : Int)).symm)
      rw [e0]
      have sub : ∀ x ∈ (List.range n).map fun (i : Nat) => ((r.idxOf (i : Int) : Nat) : Int), x ∈ rgI 0 n := fun x hx => by
        obtain ⟨i, hi, rfl⟩ := List.mem_map.mp hx
        have := ixl i (List.mem_range.mp hi)
        exact rgI_mem.mpr (by omega)
      refine perm_of_sub nd1 (rgI_nd n) sub ?_
      rw [List.length_map, List.length_range, rgI_len]
      exact Nat.le_refl _
    rw [perm_sumI p]
    exact Int.sub_self _
theorem shl {x : Str} (h : IsWord x) : SeqAt.shaped (.list [.str x]) = true ∧ PyData.eqv (.list [.str x]) (.list [.str x]) = true := by
  rcases h with rfl | rfl | rfl <;> decide +kernel
/-- the word that the law expects -/
def wordOf (R : List (List Int)) (d : List Int) : Str := if ltrips d ≠ [] then "triple" else if lrefs R d = [] then "sequence" else "refused"
theorem dec_facts {R : List (List Int)} {d ns : List Int} {x : Str} (ok : RkOk R) (od : DispOk d) (hl : d.length = R.length) (h : Dec R d x ns) : x = wordOf R d ∧ goodT R d x ns = true ∧ IsWord x ∧ ns.length ≤ 1000 ∧ (x = "sequence" → ns.length = (lpairs d).length) := by
  have ne1 : ("triple" : Str) ≠ "sequence" := by decide
  have ne2 : ("refused" : Str) ≠ "sequence" := by decide
  have ne3 : ("refused" : Str) ≠ "triple" := by decide
  unfold wordOf goodT
  cases h with
  | triple h =>
    have g := trip_good od h
    have l : ns.length = 3 := by
      unfold isTripT at g
      simp only [Bool.and_eq_true, decide_eq_true_eq] at g
      exact g.1.1
    refine ⟨?_, ?_, .inr (.inr rfl), by omega, fun z => absurd z ne1⟩
    · rw [if_pos]
      intro z
      rw [(ltrips_nil od).mp z] at h
      cases h
    · rw [if_neg ne1, if_pos rfl]
      exact g
  | refused no h =>
    have g := ref_good ok od hl no h
    have l : ns.length = 4 := by
      unfold isRefT at g
      simp only [Bool.and_eq_true, decide_eq_true_eq] at g
      exact g.1.1.2
    refine ⟨?_, ?_, .inl rfl, by omega, fun z => absurd z ne2⟩
    · rw [if_neg (fun z => z ((ltrips_nil od).mpr no)), if_neg]
      intro z
      rw [(lrefs_nil ok od hl).mp z] at h
      cases h
    · rw [if_neg ne2, if_neg ne3]
      exact g
  | sequence no nr h =>
    have g := seq_moves ok od hl no nr h
    have l := seq_mu od h
    have := mu_le od
    refine ⟨?_, ?_, .inr (.inl rfl), by omega, fun _ => seq_len od no h⟩
    · rw [if_neg (fun z => z ((ltrips_nil od).mpr no)), if_pos ((lrefs_nil ok od hl).mpr nr)]
    · rw [if_pos rfl]
      unfold leadsT
      rw [g]
      exact decide_eq_true rfl
section
variable {P : Program} {w : World} {K : PySem.W.Frag} {mg : Str → Option Value} {base : Heap} {f : Addr} {fd : FuncData} {C C0 : Addr}
def spLaw (K : PySem.W.Frag) (T : List (Addr × Str)) : Sp := fun vs H Q _ => ∃ (a : Addr) (xs : List Int), vs = [.ref a] ∧ SqL K H a (xs.map V.int) ∧ xs.length ≤ 63 ∧ LamX.Tabs T H ∧ ∀ H', Q (.bl true) H'
abbrev N_law : List PySem.Str := ["_law_script", "_law_m", "_law_bout", "_law_many", "_law_lists", "_law_moves", "_law_held", "_law_row", "_law_within", "_law_thing", "_law_found", "_law_word"]
theorem sc_law : FnScope N_law ["_law_script"] (defScope st_law) := ⟨rfl, rfl, rfl, by decide +kernel, rfl, by decide +kernel, by decide +kernel⟩
theorem sg_law (v0 : V) : L2.start N_law [v0] = [some v0, none, none, none, none, none, none, none, none, none, none, none] := rfl
theorem bi_law {K : PySem.W.Frag} {f : Addr} {fd : FuncData} (F : FnP K "law" st_law f fd) : Binds K fd ["_law_script"] [] := F.bindsN fun _ _ _ _ _ _ us hl => match us, hl with | [_], _ => rfl

-- 0:_law_script 1:_law_m 2:_law_bout 3:_law_many 4:_law_lists 5:_law_moves 6:_law_held 7:_law_row* 8:_law_within 9:_law_thing 10:_law_found 11:_law_word
theorem ok_law (F : FnP K "law" st_law f fd) (fr : Free mg) (T : List (Addr × Str)) (D_law_begun : Def P w K mg base CX0 2 "_law_begun" ["_law_script"] (spBegun K)) (D_law_block_right : Def P w K mg base CX0 8 "_law_block_right" ["_law_m"] spBlock)
    (D_law_draw : Def P w K mg base CX0 2 "_law_draw" ["_law_m", "_law_top"] spDraw) (D_law_ring_case : Def P w K mg base CX0 5 "_law_ring_case" ["_law_m", "_law_many"] (spCase K)) (D_law_ring_walk : Def P w K mg base CX0 3 "_law_ring_walk" ["_law_m", "_law_many"] (spWalk K))
    (D_law_ring_lists : Def P w K mg base CX0 4 "_law_ring_lists" ["_law_m", "_law_many", "_law_held"] (spLists K)) (D_law_mixed_up : Def P w K mg base CX0 3 "_law_mixed_up" ["_law_m", "_law_things"] (spMixUp K)) (D_decide_ring : Def P w K mg base CX0 7 "decide_ring" ["rankings", "displacements"] (spDecide K))
    (D_law_ring_triples : Def P w K mg base CX0 3 "_law_ring_triples" ["_law_moves"] (spTrips K)) (D_law_ring_refusals : Def P w K mg base CX0 3 "_law_ring_refusals" ["_law_lists", "_law_moves"] (spRefs K)) (D_law_ring_word : Def P w K mg base CX0 4 "_law_ring_word" ["_law_lists", "_law_moves", "_law_reply"] (spWord K))
    (D_law_ring_pairs : Def P w K mg base CX0 2 "_law_ring_pairs" ["_law_moves"] (spPairs K)) (D_check_ring_decision : Def P w K mg base (L2.CX P w) 8 "check_ring_decision" ["rankings", "displacements", "answer"] (spCheck K C))
    (D_law_bent_right : DefG P w K mg base CX0 11 "_law_bent_right" ["_law_m", "_law_lists", "_law_moves", "_law_found"] (spBent K T)) : FnOkG P w K mg base CX0 12 f fd ["_law_script"] (spLaw K T) := by
  refine okG F sc_law (fun vs H Q E h => ?_) (fun cdv A outer s H vs Q E hcd hr hG h => ?_)
  · obtain ⟨a, xs, rfl, _⟩ := h
    rfl
  · obtain ⟨a, xs, rfl, ha, hl, tb, k⟩ := h
    have hu64 := hr.units
    refine ⟨_, PSs.nox (pss_cons (ps_set (i := 1) sc_law.nd rfl (Or.inl rfl) (pe_def D_law_begun (hr.mono (by decide)) (pa_cons (pv 0) pa_nil)))
    (pss_cons (ps_if (pt_not (pt_val (pe_def D_law_block_right (hr.mono (by decide)) (pa_cons (pv 1) pa_nil)))) (pss_one (ps_ret pe_bl)) pss_nil)
    (pss_cons (ps_for PassesOwn.never rfl (pi_range1 (by rfl) fr.range (pa_cons pe_int pa_nil)) (pg_name (i := 2) sc_law.nd rfl (Or.inl rfl))
    (pss_cons (ps_set (i := 3) sc_law.nd rfl (Or.inl rfl) (pe_op op_sub (pe_ix (ixl (K := K) rfl) (pe_lst (pa_cons pe_int (pa_cons pe_int (pa_cons pe_int (pa_cons pe_int pa_nil))))) (pv 2) (fun _ _ => rfl)) (pe_def D_law_draw (hr.mono (by decide)) (pa_cons (pv 1) (pa_cons (pe_op op_add pe_int (pv 2)) pa_nil)))))
      (Evl.pss_cut (ps_asg (pe_ifExp (pt_cmpR op_lt (pv 3) pe_int (nomark _)) (pe_def D_law_ring_case (hr.mono (by decide)) (pa_cons (pv 1) (pa_cons (pv 3) pa_nil))) (pe_tup (pa_cons pe_non (pa_cons pe_non pa_nil)))) (pgt (n := 2) (K := K) rfl rfl (pgs_cons (pg_name (i := 4) sc_law.nd rfl (Or.inl rfl)) (pgs_cons (pg_name (i := 5) sc_law.nd rfl (Or.inl rfl)) pgs_nil))))
      (Evl.pss_cut (ps_if (pt_cmpR op_ge (pv 3) pe_int (nomark _)) (pss_cons (ps_asg (pe_def D_law_ring_walk (hr.mono (by decide)) (pa_cons (pv 1) (pa_cons (pv 3) pa_nil))) (pgt (n := 2) (K := K) rfl rfl (pgs_cons (pg_name (i := 6) sc_law.nd rfl (Or.inl rfl)) (pgs_cons (pg_name (i := 5) sc_law.nd rfl (Or.inl rfl)) pgs_nil))))
        (pss_cons (ps_set (i := 4) sc_law.nd rfl (Or.inl rfl) (pe_def D_law_ring_lists (hr.mono (by decide)) (pa_cons (pv 1) (pa_cons (pv 3) (pa_cons (pv 6) pa_nil)))))
        (pss_cons (ps_set (i := 7) sc_law.nd rfl (Or.inr rfl) (pe_def D_law_mixed_up (hr.mono (by decide)) (pa_cons (pv 1) (pa_cons (pe_listRg rfl (by rfl) fr.list (prg_1 (by rfl) fr.range (pv 3))) pa_nil))))
        (pss_cons (ps_set (i := 8) sc_law.nd rfl (Or.inl rfl) (pe_callTy (tupx (K := K) rfl) (by rfl) fr.tuple (by decide +kernel) (pa_cons (pe_lc (own := [("_law_thing", 9)]) rfl sc_law.nd (pi_range1 (by rfl) fr.range (pa_cons (pv 3) pa_nil)) (blkOk_by (own := [("_law_thing", 9)]) (N := N_law) (sc := defScope st_law) (by decide +kernel)) (fun _ _ _ _ _ => (pg_name (i := 9) sc_law.nd rfl (Or.inl rfl))) (fun _ _ _ _ _ => pts_nil) (fun _ _ _ _ _ => (pe_op op_sub (bmq (K := K) rfl PySem.F.plainAttrs_list PySem.F.slot_list_index PySem.F.type_list_index (idxl (K := K) rfl) (pv 7) (pa_cons (pv 9) pa_nil)) (pv 9)))) pa_nil)))
        (pss_one (ps_set (i := 5) sc_law.nd rfl (Or.inl rfl) (pe_ix (ixl (K := K) rfl) (pe_lst (pa_cons (pv 5) (pa_cons (pe_ix (ixt (K := K) rfl) (pe_def D_law_ring_walk (hr.mono (by decide)) (pa_cons (pv 1) (pa_cons (pv 3) pa_nil))) pe_int (fun _ _ => rfl)) (pa_cons (pv 8) pa_nil)))) (pe_def D_law_draw (hr.mono (by decide)) (pa_cons (pv 1) (pa_cons pe_int pa_nil))) (fun _ _ => rfl)))))))) pss_nil)
      (pss_cons (ps_set (i := 10) sc_law.nd rfl (Or.inl rfl) (pe_def D_decide_ring (hr.mono (by decide)) (pa_cons (pv 4) (pa_cons (pv 5) pa_nil))))
      (Evl.pss_cut (ps_set (i := 11) sc_law.nd rfl (Or.inl rfl) (pe_ifExp (pt_cmpR (ned (K := K) rfl hu64) (pe_def D_law_ring_triples (hr.mono (by decide)) (pa_cons (pv 5) pa_nil)) (pe_lst pa_nil) (nomark _)) pe_str pe_str))
      (Evl.pss_cut (ps_if (PW.pt (pw_and (pt_cmpR op_eq (pv 11) pe_str (nomark _)) (pw_and1 (pt_cmpR (eqd (K := K) rfl hu64) (pe_def D_law_ring_refusals (hr.mono (by decide)) (pa_cons (pv 4) (pa_cons (pv 5) pa_nil))) (pe_lst pa_nil) (nomark _))))) (pss_one (ps_set (i := 11) sc_law.nd rfl (Or.inl rfl) pe_str)) pss_nil)
      (pss_cons (ps_if (PW.pt (pw_or (pt_cmpR op_ne (pe_ix (ixt (K := K) rfl) (pv 10) pe_int (fun _ _ => rfl)) (pv 11) (nomark _)) (pw_or1 (pt_cmpR (ned (K := K) rfl hu64) (pe_def D_law_ring_word (hr.mono (by decide)) (pa_cons (pv 4) (pa_cons (pv 5) (pa_cons (pv 10) pa_nil)))) (pe_lst (pa_cons (pv 11) pa_nil)) (nomark _))))) (pss_one (ps_ret pe_bl)) pss_nil)
      (pss_cons (ps_if (PW.pt (pw_and (pt_cmpR op_eq (pv 11) pe_str (nomark _)) (pw_and1 (pt_cmpR op_ne (pe_callB (lenq (K := K) rfl) (by rfl) fr.len (by decide +kernel) (pa_cons (pe_ix (ixt (K := K) rfl) (pv 10) pe_int (fun _ _ => rfl)) pa_nil)) (pe_callB (lenq (K := K) rfl) (by rfl) fr.len (by decide +kernel) (pa_cons (pe_def D_law_ring_pairs (hr.mono (by decide)) (pa_cons (pv 5) pa_nil)) pa_nil)) (nomark _))))) (pss_one (ps_ret pe_bl)) pss_nil)
      (pss_one (ps_if (PW.pt (pw_or (pt_cmpR op_ne (pe_defC D_check_ring_decision (hr.mono (by decide)) (pa_cons (pv 4) (pa_cons (pv 5) (pa_cons (pv 10) pa_nil)))) (pv 11) (nomark _)) (pw_or1 (pt_not (pt_val (pe_defG D_law_bent_right (hr.mono (by decide)) hG (pa_cons (pv 1) (pa_cons (pv 4) (pa_cons (pv 5) (pa_cons (pv 10) pa_nil)))))))))) (pss_one (ps_ret pe_bl)) pss_nil)))))))))))
    (pss_one (ps_ret pe_bl))))), ?_⟩
    rw [sg_law]
    tm_at "r"
    refine ⟨a, xs, rfl, ha, hl, fun d c g H1 e1 nd ng m1 => ?_⟩
    tm_at "r"
    refine ⟨d, c, g, 12010, rfl, m1.mono (Ex.refl _) (by decide), fun H2 e2 m2 => ?_⟩
    tm_at "r"
    have tb2 := tabs_hid (tb.ext e1) m1 e2
    refine ⟨_, rfl, by decide, by decide, ?_⟩
    refine for_run walk0 (fun i σ H' => (∃ v2 v3 v4 v5 v6 v7 v8 v9 v10 v11, σ = [some (.ref a), some (.ref d), v2, v3, v4, v5, v6, v7, v8, v9, v10, v11]) ∧ MI H' d c g (3000 * (4 - i) + 10) ∧ LamX.Tabs T H') ⟨⟨_, _, _, _, _, _, _, _, _, _, rfl⟩, m2, tb2⟩ (fun _ _ _ _ _ => trivial) ?_ ?_
    · rintro i x σ H3 H4 hi ⟨⟨v2, v3, v4, v5, v6, v7, v8, v9, v10, v11, rfl⟩, m3, tb3⟩ ⟨rfl, rfl⟩
      have hi4 : i < 4 := hi
      tm_at "r"
      w_call p5 n5 H5 e5 h5 u5 z5
      tm_at "r"
      refine r_ixLI (ns := [3, 8, 14, 20]) (SqL.of h5) (by omega) (by show (i : Int) < 4; omega) ?_
      tm_at "r"
      refine ⟨d, c, g, 3000 * (4 - (i + 1)) + 10 + 2900, _, rfl, m3.mono e5 (by omega), by omega, by omega, fun r H6 r0 r1 m6 e6 => ?_⟩
      have tb6 := tabs_hid (tb3.ext e5) (m3.mono e5 (Nat.le_refl _)) e6
      obtain ⟨n, en, n3, n20⟩ : ∃ n : Nat, ix [3, 8, 14, 20] (i : Int) - r = (n : Int) ∧ 3 ≤ n ∧ n ≤ 20 := by
        have h : i = 0 ∨ i = 1 ∨ i = 2 ∨ i = 3 := by omega
        rcases h with rfl | rfl | rfl | rfl
        · exact ⟨(3 - r).toNat, by show (3 : Int) - r = _; omega, by omega, by omega⟩
        · exact ⟨(8 - r).toNat, by show (8 : Int) - r = _; omega, by omega, by omega⟩
        · exact ⟨(14 - r).toNat, by show (14 : Int) - r = _; omega, by omega, by omega⟩
        · exact ⟨(20 - r).toNat, by show (20 : Int) - r = _; omega, by omega, by omega⟩
      tm_at "r"
      rw [en]
      clear en
      generalize hB : 3000 * (4 - (i + 1)) + 10 = B at m6 ⊢
      refine r_cut (fun σ' H7 => ∃ w4 w5, σ' = [some (.ref a), some (.ref d), some (.int (i : Int)), some (.int (n : Int)), some w4, some w5, v6, v7, v8, v9, v10, v11] ∧ MI H7 d c g (B + 800) ∧ LamX.Tabs T H7 ∧ (n < 9 → ∃ pR pm R dd, w4 = .ref pR ∧ w5 = .ref pm ∧ CaseAt K (hid d g H7) n pR pm R dd) ∧ (9 ≤ n → MI H7 d c g (B + 2900))) ?_ ?_
      · tm_at "r"
        refine r_ite (fun hb => ?_) (fun hb => ?_)
        · have h9 := of_decide_eq_true hb
          tm_at "r"
          refine ⟨d, c, g, B + 800, n, rfl, m6.mono (Ex.refl _) (by omega), n3, by omega, fun p pR pm R dd H7 e7 m7 h7 ca => ?_⟩
          refine r_gTup (SqT.of (hid_le _ _ h7)) rfl ?_
          tm_at "r"
          exact ⟨.ref pR, .ref pm, rfl, m7, tabs_hid tb6 m6 e7, fun _ => ⟨pR, pm, R, dd, rfl, rfl, ca⟩, fun h => absurd h (by omega)⟩
        · have h9 := of_decide_eq_false hb
          tm_at "r"
          w_call p7 n7 H7 e7 h7 u7 z7
          refine r_gTup (SqT.of h7) rfl ?_
          tm_at "r"
          exact ⟨.non, .non, rfl, m6.mono e7 (by omega), tb6.ext e7, fun h => absurd h (by omega), fun _ => m6.mono e7 (Nat.le_refl _)⟩
      · rintro σ' H7 ⟨w4, w5, rfl, m7, tb7, c7, mm7⟩
        refine r_cut (fun σ' H8 => ∃ pR pm R dd w6 w7 w8 w9, σ' = [some (.ref a), some (.ref d), some (.int (i : Int)), some (.int (n : Int)), some (.ref pR), some (.ref pm), w6, w7, w8, w9, v10, v11] ∧ MI H8 d c g (B + 800) ∧ LamX.Tabs T H8 ∧ CaseAt K (hid d g H8) n pR pm R dd) ?_ ?_
        · tm_at "r"
          refine r_ite (fun hb => ?_) (fun hb => ?_)
          · have h9 : 9 ≤ n := by have := of_decide_eq_true hb; omega
            have m7' := mm7 h9
            tm_at "r"
            refine ⟨d, c, g, B + 2800, n, rfl, m7', n3, n20, fun pw ph pm qs held s H8 e8 m8 hw8 ha8 xm8 pk hk => ?_⟩
            refine r_gTup (SqT.of (hid_le _ _ hw8)) rfl ?_
            tm_at "r"
            refine ⟨d, c, g, ph, B + 1800, n, qs, held, s, rfl, m8, n3, n20, ha8, hk, fun pR R H9 e9 m9 hR9 okR lR => ?_⟩
            tm_at "r"
            refine ⟨_, rfl, rg0_ok (by omega), ?_⟩
            rw [rgV_eq]
            w_call pl n10 H10 e10 h10 u10 z10
            have n10m := m9.ne n10
            tm_at "r"
            refine ⟨d, c, g, pl, B + 1700, rgI 0 n, rfl, m9.mono e10 (by rw [rgI_len]; omega), SqL.of (hid_at h10 ⟨n10m.1, n10m.2.1⟩), by rw [rgI_len]; omega, fun p11 H11 row prow m11 e11 n11 h11 => ?_⟩
            tm_at "r"
            have pI : PermI n row := by
              refine ⟨by rw [prow.length_eq, rgI_len], prow.nodup_iff.mpr (rgI_nd n), fun x hx => ?_, fun x a z => prow.mem_iff.mpr (rgI_mem.mpr (by omega))⟩
              have := rgI_mem.mp (prow.mem_iff.mp hx)
              omega
            refine ⟨_, rfl, by omega, by omega, ?_⟩
            rw [show ((n : Nat) : Int).toNat = n from rfl]
            refine lc_vals walk0 (fun _ => true) (fun j => .int (((row.idxOf (j : Int) : Nat) : Int) - (j : Int))) (fun _ _ => trivial) (by omega) ?_ ?_
            · rintro D j v H12 H13 acc KN KY hj e12 ⟨rfl, rfl⟩ hD hy _ hk2
              refine ⟨rfl, ?_⟩
              tm_at "r"
              refine ⟨ty_l (SqL.of (e12 _ _ (hid_le _ _ h11))), ?_⟩
              tm_at "r"
              refine r_idxL (SqL.of (e12 _ _ (hid_le _ _ h11))) (pI.has _ (by omega) (by omega)) ?_
              tm_at "r"
              exact hk2 rfl _ (Ex.refl _)
            · intro D H12 nD e12 h12
              have h12' : H12 D = some (.lst ((withinT n row).map V.int)) := by
                rw [h12, filter_yes]
                unfold withinT
                rw [List.map_map]
                rfl
              tm_at "r"
              refine r_tupX (SqL.of h12') fun pt H13 n13 e13 x13 => ?_
              tm_at "r"
              have m13 := m11.mono (e12.trans e13) (Nat.le_refl _)
              refine ⟨d, c, g, B + 1600, n, rfl, m13.mono (Ex.refl _) (by omega), n3, n20, fun pw2 ph2 pm2 qs2 held2 s2 H14 e14 m14 hw14 ha14 xm14 pk2 hk2 => ?_⟩
              tm_at "r"
              refine r_ixT (SqT.of (hid_le _ _ hw14)) (at_of (j := 1) rfl rfl) ?_
              tm_at "r"
              w_call pls n15 H15 e15 h15 u15 z15
              tm_at "r"
              refine ⟨d, c, g, B + 1599, 3, rfl, m14.mono e15 (by omega), by decide, by decide, fun r2 H16 r20 r21 m16 e16 => ?_⟩
              have n15m := m14.ne n15
              have h16 : H16 pls = some (.lst [.ref pm, .ref pm2, .ref pt]) := hid_le _ _ (e16 _ _ (hid_at h15 ⟨n15m.1, n15m.2.1⟩))
              have e1113 := hid_mono (d := d) (g := g) (e12.trans e13)
              have e1316 := (e14.trans (hid_mono e15)).trans e16
              have e916 := ((hid_mono e10).trans e11).trans (e1113.trans e1316)
              have hR16 := hR9.ex e916
              have nt := m11.ne (none_of_ex e12 n13)
              obtain ⟨ot, x1, x2, x3⟩ := x13
              have wk := within_ok pI n3 n20
              obtain ⟨pv, dd, hpv, sv, dk, dl⟩ : ∃ pv dd, atI [V.ref pm, V.ref pm2, V.ref pt] r2 = some (.ref pv) ∧ SqT K (hid d g H16) pv (dd.map V.int) ∧ DispOk dd ∧ dd.length = n := by
                have h : r2 = 0 ∨ r2 = 1 ∨ r2 = 2 := by omega
                rcases h with rfl | rfl | rfl
                · exact ⟨pm, s.2, at_of (j := 0) rfl rfl, ex_t (e9.trans e916) xm8.sq, walk_disp n3 n20 pk hk, pk.l2⟩
                · exact ⟨pm2, s2.2, at_of (j := 1) rfl rfl, ex_t ((hid_mono e15).trans e16) xm14.sq, walk_disp n3 n20 pk2 hk2, pk2.l2⟩
                · exact ⟨pt, withinT n row, at_of (j := 2) rfl rfl, ex_t e1316 (ExT.sq (⟨ot, hid_at x1 ⟨nt.1, nt.2.1⟩, x2, x3⟩ : ExT (hid d g H13) pt _)), wk.1, wk.2⟩
              refine r_ixL (SqL.of h16) hpv ?_
              tm_at "r"
              have tb16 := tabs_hid (tabs_hid (tabs_hid ((tabs_hid ((tabs_hid (tabs_hid tb7 m7' e8) m8 e9).ext e10) (m9.mono e10 (Nat.le_refl _)) e11).ext (e12.trans e13)) m13 e14 |>.ext e15) (m14.mono e15 (Nat.le_refl _)) e16) m16 (Ex.refl _)
              exact ⟨pR, pv, R, dd, _, _, _, _, rfl, m16.mono (Ex.refl _) (by omega), tb16, ⟨hR16, okR, lR, sv, dk, dl⟩⟩
          · have h9 := of_decide_eq_false hb
            obtain ⟨pR, pm, R, dd, rfl, rfl, ca⟩ := c7 (by omega)
            tm_at "r"
            exact ⟨pR, pm, R, dd, _, _, _, _, rfl, m7, tb7, ca⟩
        · rintro σ' H8 ⟨pR, pm, R, dd, w6, w7, w8, w9, rfl, m8, tb8, ca⟩
          have rk8 : RkX K H8 pR R := by
            obtain ⟨qs, s, p⟩ := ca.rk
            exact ⟨qs, ex_t hid_le s, Paired.mapP p fun _ _ z => z.ex hid_le⟩
          have mv8 : SqT K H8 pm (dd.map V.int) := ex_t hid_le ca.mv
          have okR := ca.ok
          have dk := ca.dk
          have ld : dd.length = R.length := by rw [ca.dl, ca.rl]
          have d3 := dk.lo
          have d20 := dk.hi
          tm_at "r"
          refine ⟨pR, pm, R, dd, rfl, rk8.rk, okR, mv8, dk, ld, fun pf H9 x ns e9 an dec => ?_⟩
          obtain ⟨fx, fg, fw, fl, fs⟩ := dec_facts okR dk ld dec
          obtain ⟨qf, a1, a2⟩ := an
          tm_at "r"
          have an9 : AnsAt K H9 pf x ns := ⟨qf, a1, a2⟩
          refine r_cut (fun σ' H10 => σ' = [some (.ref a), some (.ref d), some (.int (i : Int)), some (.int (n : Int)), some (.ref pR), some (.ref pm), w6, w7, w8, w9, some (.ref pf), some (.str (if ltrips dd = [] then "refused" else "triple"))] ∧ Ex H9 H10) ?_ ?_
          · tm_at "r"
            refine ⟨pm, dd, rfl, ex_t e9 mv8, d3, d20, fun p10 H10 ys e10 h10 ty10 => ?_⟩
            tm_at "r"
            w_call p11 n11 H11 e11 h11 u11 z11
            refine ⟨.list ((ltrips dd).map dTI), .list [], .lst (SqL.of (e11 _ _ h10)) (ty10.mono (TEx.of e11)).dp, .lst (SqL.of h11) .nil, sh_tis _, sh_nilL, ?_⟩
            tm_at "r"
            rw [eqv_tis_nil]
            refine r_ite (fun hb => ?_) (fun hb => ?_)
            · have hne : ltrips dd ≠ [] := by simpa using hb
              rw [if_neg hne]
              tm_at "r"
              exact ⟨rfl, e10.trans e11⟩
            · have hne : ltrips dd = [] := by simpa using hb
              rw [if_pos hne]
              tm_at "r"
              exact ⟨rfl, e10.trans e11⟩
          · rintro σ' H10 ⟨rfl, e10⟩
            refine r_cut (fun σ' H11 => σ' = [some (.ref a), some (.ref d), some (.int (i : Int)), some (.int (n : Int)), some (.ref pR), some (.ref pm), w6, w7, w8, w9, some (.ref pf), some (.str x)] ∧ Ex H10 H11) ?_ ?_
            · rw [fx]
              unfold wordOf
              have ne3 : ("triple" : Str) ≠ "refused" := by decide
              by_cases ht : ltrips dd = []
              · rw [if_pos ht, if_neg (fun z => z ht)]
                tm_at "r"
                rw [decide_eq_true rfl]
                tm_at "r"
                refine ⟨pR, pm, R, dd, rfl, rk8.ex (e9.trans e10), okR, ex_t (e9.trans e10) mv8, ld, fun p12 H12 ys e12 h12 ty12 => ?_⟩
                tm_at "r"
                w_call p13 n13 H13 e13 h13 u13 z13
                refine ⟨.list ((lrefs R dd).map dTI), .list [], .lst (SqL.of (e13 _ _ h12)) (ty12.mono (TEx.of e13)).dp, .lst (SqL.of h13) .nil, sh_tis _, sh_nilL, ?_⟩
                tm_at "r"
                rw [eqv_tis_nil]
                refine r_ite (fun hb => ?_) (fun hb => ?_)
                · rw [if_pos (of_decide_eq_true hb)]
                  tm_at "r"
                  exact ⟨rfl, e12.trans e13⟩
                · rw [if_neg (of_decide_eq_false hb)]
                  tm_at "r"
                  exact ⟨rfl, e12.trans e13⟩
              · rw [if_neg ht, if_pos ht]
                tm_at "r"
                rw [decide_eq_false ne3]
                tm_at "r"
                exact ⟨rfl, Ex.refl _⟩
            · rintro σ' H11 ⟨rfl, e11⟩
              have e911 := e10.trans e11
              have e811 := e9.trans e911
              tm_at "r"
              refine r_ixT (ex_t e911 a1) (at_of (j := 0) rfl rfl) ?_
              tm_at "r"
              rw [decide_eq_true rfl]
              tm_at "r"
              refine ⟨pR, pm, pf, R, dd, x, ns, rfl, rk8.ex e811, okR, ex_t e811 mv8, ld, an9.ex e911, fw, by omega, fun _ p12 H12 e12 h12 => ?_, fun bad => by rw [good_eq okR dk ld, fg] at bad; cases bad⟩
              tm_at "r"
              w_call p13 n13 H13 e13 h13 u13 z13
              refine ⟨.list [.str x], .list [.str x], .lst (SqL.of (e13 _ _ h12)) (.cons (.str _) .nil), .lst (SqL.of h13) (.cons (.str _) .nil), (shl fw).1, (shl fw).1, ?_⟩
              rw [(shl fw).2]
              tm_at "r"
              have e913 := e911.trans (e12.trans e13)
              have e813 := e9.trans e913
              have bent : ∀ {H14 : Hp}, Ex H13 H14 → BentAt K T H14 d c g (B + 3) pR pm R dd ∧ AnsAt K H14 pf x ns := fun e14 =>
                ⟨⟨m8.mono (e813.trans e14) (by omega), tb8.ext (e813.trans e14), rk8.ex (e813.trans e14), okR, ex_t (e813.trans e14) mv8, dk, ld⟩, an9.ex (e913.trans e14)⟩
              refine r_ite (fun hb => ?_) (fun hb => ?_)
              · have hx := of_decide_eq_true hb
                tm_at "r"
                refine r_ixT (ex_t e913 a1) (at_of (j := 1) rfl rfl) ?_
                tm_at "r"
                refine r_lenT (ex_t e913 a2) ?_
                rw [List.length_map]
                tm_at "r"
                refine ⟨pm, dd, rfl, ex_t e813 mv8, d3, d20, fun p14 H14 ys e14 h14 ty14 => ?_⟩
                tm_at "r"
                refine r_lenL (SqL.of h14) ?_
                have ly := ty14.len
                tm_at "r"
                rw [decide_eq_true (show (ns.length : Int) = (ys.length : Int) by rw [fs hx, ly])]
                tm_at "r"
                refine ⟨pR, pm, pf, R, dd, x, ns, rfl, (rk8.ex (e813.trans e14)).rk, okR, ex_t (e813.trans e14) mv8, dk, ld, an9.ex (e913.trans e14), fw, by omega, fun _ H15 e15 => ?_, fun bad => by rw [fg] at bad; cases bad⟩
                tm_at "r"
                rw [decide_eq_true rfl]
                tm_at "r"
                obtain ⟨bt, ba⟩ := bent (e14.trans e15)
                refine ⟨d, c, g, pR, pm, pf, B, R, dd, x, ns, rfl, bt, ba, fw, fl, fun H16 m16 tb16 => ?_⟩
                tm_at "r"
                exact ⟨⟨_, _, _, _, _, _, _, _, _, _, rfl⟩, m16, tb16⟩
              · have e14 : Ex H13 H13 := Ex.refl _
                tm_at "r"
                refine ⟨pR, pm, pf, R, dd, x, ns, rfl, (rk8.ex (e813.trans e14)).rk, okR, ex_t (e813.trans e14) mv8, dk, ld, an9.ex (e913.trans e14), fw, by omega, fun _ H15 e15 => ?_, fun bad => by rw [fg] at bad; cases bad⟩
                tm_at "r"
                rw [decide_eq_true rfl]
                tm_at "r"
                obtain ⟨bt, ba⟩ := bent (e14.trans e15)
                refine ⟨d, c, g, pR, pm, pf, B, R, dd, x, ns, rfl, bt, ba, fw, fl, fun H16 m16 tb16 => ?_⟩
                tm_at "r"
                exact ⟨⟨_, _, _, _, _, _, _, _, _, _, rfl⟩, m16, tb16⟩
    · rintro σ H3 ⟨⟨v2, v3, v4, v5, v6, v7, v8, v9, v10, v11, rfl⟩, m3, tb3⟩
      tm_at "r"
      exact k H3
end
end SW
end

section
set_option Elab.async false
set_option linter.all false
set_option maxRecDepth 100000
set_option maxHeartbeats 4000000
/-! the end of a law whose def is called where no repr is under way -/
namespace SW
open PySem PySem.Spec PyProof.Rows L2 LamX
theorem law_callG {P : Program} {w : World} {K : PySem.W.Frag} {mg mb : Str → Option Value} {CX : CXT} {k : Nat} {fa a : Addr} {tabs : List (Addr × Addr)} {fd : FuncData} {x : Str} {sp : Sp} {sA : Shared} {us : List Value} {zs : List Int}
    (Xk : K.In sA.heap) (gN : sA.heap.Ns mainGlobals mg) (bN : sA.heap.Ns builtinsNs mb) (bB : ∀ x : Str, x ≠ "__name__" → mb x = bootBuiltins x) (nL : sA.heap.NoLimit) (gE : sA.gens = #[])
    (tT : ∀ p ∈ tabs, sA.heap.get? p.2 = some { cls := .none, data := .fields #[] }) (oT : ∀ p ∈ tabs, K.lookup p.2 = none) (C : ∀ p ∈ tabs, PySem.W.CodeHd sA.heap p.1 p.2)
    (mB : ∃ (bm : Addr) (ob : Obj), mg "__builtins__" = some (.ref bm) ∧ bm ≠ builtinsNs ∧ sA.heap.get? bm = some ob ∧ ob.cls = .type "module" ∧ ob.dict = some builtinsNs ∧ ob.data = .plain)
    (aH : sA.heap.get? a = some { cls := .type "list", data := .seq us.toArray }) (aI : IntsAre us zs) (aL : zs.length ≤ sizeLine) (rm : Room k callerA)
    (F : ∀ base : Heap, K.In base → base.Ns mainGlobals mg → (∀ p ∈ tabs, LamX.TabB base mg p.1 p.2) → FnOkG P w K mg base CX k fa fd [x] sp) (bnd : ∀ (s : Shared) (u : Value), BindsTo s fd ⟨[u], []⟩ [(x, u)])
    (wsp : ∀ J : Hp, (∀ p ∈ tabs, J p.2 = some (.tbl #[])) → SqL K J a (zs.map V.int) → sp [.ref a] J (fun v _ => v = .bl true) fun _ _ _ => False)
    (xCX : ∀ J e s', CX [] J sA (fun _ _ _ => False) e s' → False) :
    codeAny (model P w) callerA (.call (.ref fa) ⟨[.ref a], []⟩) (fun r s' => r = .ok (.ret (.bool true)) ∧ OldK sA.heap s'.heap ∧ s'.os = sA.os ∧ AllBare s'.gens) sA := by
  have vR := vals_ints aI
  have lV := aI.length
  have tI : ∀ b : Addr, b ∈ tabs.map (·.2) → sA.heap.get? b = some { cls := .none, data := .fields #[] } := fun b bN => by
    obtain ⟨p, hp, e⟩ := List.mem_map.mp bN
    rw [← e]
    exact tT p hp
  have aN : a ∉ tabs.map (·.2) := fun y => by
    have r0 := tI a y
    rw [aH] at r0
    have z' : Data.seq us.toArray _ = Data.fields #[] := congrArg Obj.data (Option.some.inj r0)
    cases z'
  have mT : ∀ p ∈ tabs, p.2 ∈ tabs.map (·.2) := fun p hp => List.mem_map.mpr ⟨p, hp, rfl⟩
  have mid : ∀ J : Hp, (∀ p ∈ tabs, J p.2 = some (.tbl #[])) → (∀ b, J b = none ∨ b ∈ tabs.map (·.2) ∨ ∃ o xs, J b = some (.frz o (.lst xs))) → SqL K J a (zs.map V.int) → HOk P w J sA.heap → (∀ b, J b ≠ none → b = a ∨ b ∈ tabs.map (·.2)) → (J a ≠ none → K.lookup a = none) →
      codeAny (model P w) callerA (.call (.ref fa) ⟨[.ref a], []⟩) (fun r s' => r = .ok (.ret (.bool true)) ∧ OldK sA.heap s'.heap ∧ s'.os = sA.os ∧ AllBare s'.gens) sA := by
    intro J hJ oJ sJ kJ aJ lJ
    have in_base : ∀ {b : Addr} {o : Obj}, sA.heap.get? b = some o → J b = none → (hidT sA.heap J).get? b = some o := fun e n => hidT_get e n
    have noDat : ∀ {b : Addr} {o : Obj}, sA.heap.get? b = some o → (∀ us n, o.data ≠ .seq us n) → o.data ≠ .fields #[] → J b = none := fun {b o} e h1 h2 => by
      cases r0 : J b with
      | none => rfl
      | some u =>
        rcases aJ b (by rw [r0]; simp) with e' | e'
        · rw [e', aH] at e
          cases e
          exact (h1 _ _ rfl).elim
        · rw [tI b e'] at e
          cases e
          exact (h2 rfl).elim
    have noDic : ∀ {b : Addr} {o : Obj} {es : Array DictEntry} {ep : Nat}, sA.heap.get? b = some o → o.data = .dict es ep → J b = none := fun {b o es ep} e d => by
      refine noDat e (fun us n y => ?_) fun y => ?_
      · rw [d] at y
        cases y
      · rw [d] at y
        cases y
    have ns_in : ∀ {b : Addr} {m : Str → Option Value}, sA.heap.Ns b m → (hidT sA.heap J).Ns b m := fun {b m} ⟨o, es, ep, e, d, r⟩ => ⟨o, es, ep, in_base e (noDic e d), d, r⟩
    have kIb : K.In (hidT sA.heap J) := fun b o e => in_base (Xk b o e) (by
      cases r0 : J b with
      | none => rfl
      | some u =>
        rcases aJ b (by rw [r0]; simp) with e' | e'
        · rw [e'] at e r0
          rw [lJ (by rw [r0]; simp)] at e
          cases e
        · obtain ⟨p, hp, ep⟩ := List.mem_map.mp e'
          rw [← ep, oT p hp] at e
          cases e)
    have mdl : L2.Mod K mg (hidT sA.heap J) := ⟨kIb, ns_in gN, ⟨mb, ns_in bN, bB⟩, let ⟨mc, h1, h2⟩ := nL; ⟨mc, ns_in h1, h2⟩⟩
    have tbl : ∀ p ∈ tabs, LamX.TabB (hidT sA.heap J) mg p.1 p.2 := fun p hp => by
      have hTp := tT p hp
      refine ⟨?_, ?_, fun y => ?_⟩
      · obtain ⟨o, us, file, tf, flags, tg, inF, text, tt, e1, r1, r2, r3, r4, r5, r6, r7, r8, hne⟩ := C p hp
        refine ⟨o, us, file, tf, flags, tg, inF, text, tt, in_base e1 (noDat e1 (fun us n y => ?_) fun y => ?_), r1, r2, r3, r4, r5, r6, r7, r8, hne⟩
        · rw [r2] at y
          cases y
        · rw [r2] at y
          cases y
          simp at r3
      · obtain ⟨bm, ob, b1, b2, b3, b4, b5, b6⟩ := mB
        have nG : bm ≠ mainGlobals := fun r0 => by
          obtain ⟨o, es, ep, e, hd, _⟩ := gN
          rw [r0, e] at b3
          cases b3
          rw [hd] at b6
          cases b6
        have nP : bm ≠ p.2 := fun r0 => by
          rw [r0, hTp] at b3
          cases b3
          cases b6
        refine ⟨bm, ob, b1, b2, nG, nP, in_base b3 (noDat b3 (fun us n y => ?_) fun y => ?_), b4, b5, b6⟩
        · rw [b6] at y
          cases y
        · rw [b6] at y
          cases y
      · obtain ⟨o, es, ep, e, hd, _⟩ := gN
        rw [y, hTp] at e
        cases e
        cases hd
    have env0 : Env0 P w K mg (hidT sA.heap J) callerA [] sA J := ⟨rfl, mdl, fun b o e => of_hidT e, Nat.le_of_eq (hidT_size _ _), trivial, fun b bN => absurd (show b ∈ ([] : List Addr) from bN) (by simp), kJ, .of_eq gE⟩
    refine codeAny_mono ((F _ kIb (ns_in gN) tbl).run callerA [] sA J ⟨[.ref a], []⟩ [.ref a] [.ref a] _ _ rm rfl env0 (bnd sA (.ref a)) (.cons rfl .nil) (wsp J hJ sJ)) fun r s' h => ?_
    cases r with
    | error e => exact (xCX J e s' h).elim
    | ok fl =>
      cases fl with
      | next => exact False.elim h
      | brk => exact False.elim h
      | cont => exact False.elim h
      | ret u =>
        obtain ⟨v, J', os, bare, un, kJ', r', r0⟩ := h
        have q' : v = .bl true := r0
        subst q'
        obtain rfl : u = Value.bool true := r'
        have kpt : ∀ b o, b ∉ tabs.map (·.2) → sA.heap.get? b = some o → s'.heap.get? b = some o := fun b o nin e => by
          cases r0 : J b with
          | none => exact un.keep b o e r0 (by intro y; exact absurd (show b ∈ ([] : List Addr) from y) (by simp)) (by simp)
          | some u =>
            rcases oJ b with y | y | ⟨ob, xs, y⟩
            · rw [r0] at y; cases y
            · exact absurd y nin
            · have z2 := un.frzs b ob _ y
              obtain ⟨e1, _⟩ := kJ b _ y
              obtain ⟨e2, _⟩ := kJ' b _ z2
              rw [e] at e1; cases e1
              exact e2
        have more_ : ∀ p ∈ tabs, ∃ more : Array Value, s'.heap.get? p.2 = some { cls := .none, data := .fields more } := fun p hp => by
          obtain ⟨more, y⟩ := un.tbls p.2 #[] (hJ p hp)
          exact ⟨_, kJ' p.2 _ y⟩
        refine ⟨rfl, ⟨fun b o e => ?_, fun b o e => ?_⟩, os, bare⟩
        · by_cases bN : b ∈ tabs.map (·.2)
          · obtain ⟨p, hp, ep⟩ := List.mem_map.mp bN
            obtain ⟨more, hm⟩ := more_ p hp
            rw [← ep] at e ⊢
            rw [tT p hp] at e
            cases e
            exact .inr (.inl ⟨((C p hp).tab (tT p hp)).isCodeTable, rfl, #[], more, rfl, by rw [Array.empty_append]; exact hm⟩)
          · exact .inl (kpt b o bN e)
        · by_cases bN : b ∈ tabs.map (·.2)
          · obtain ⟨p, hp, ep⟩ := List.mem_map.mp bN
            obtain ⟨more, hm⟩ := more_ p hp
            rw [← ep]
            exact ⟨_, hm⟩
          · exact ⟨o, kpt b o bN e⟩
  cases hk : K.lookup a with
  | some o =>
    have e := Xk a o hk
    rw [aH] at e
    cases e
    refine mid (fun b => if b ∈ tabs.map (·.2) then some (.tbl #[]) else none) (fun p hp => if_pos (mT p hp)) (fun b => ?_) (.inr ⟨_, us.toArray, _, hk, rfl, rfl, rfl, by rw [List.size_toArray, lV]; exact aL, by simpa using vR⟩) (fun b u y => ?_) (fun b y => ?_) fun y => absurd (show (if a ∈ tabs.map (·.2) then some (HO.tbl #[]) else none) = none from if_neg aN) y
    · by_cases bN : b ∈ tabs.map (·.2)
      · exact .inr (.inl bN)
      · exact .inl (if_neg bN)
    · by_cases bN : b ∈ tabs.map (·.2)
      · have z' := (if_pos bN).symm.trans y
        cases z'
        exact tI b bN
      · have z' := (if_neg bN).symm.trans y
        cases z'
    · by_cases bN : b ∈ tabs.map (·.2)
      · exact .inr bN
      · exact absurd (if_neg bN) y
  | none =>
    refine mid (fun b => if b = a then some (.frz { cls := .type "list", data := .seq us.toArray } (.lst (zs.map V.int))) else if b ∈ tabs.map (·.2) then some (.tbl #[]) else none) (fun p hp => (if_neg (show ¬ p.2 = a from fun y => aN (by rw [← y]; exact mT p hp))).trans (if_pos (mT p hp))) (fun b => ?_)
      (.inl (.inr ⟨{ cls := .type "list", data := .seq us.toArray }, if_pos rfl⟩)) (fun b u y => ?_) (fun b y => ?_) fun _ => hk
    · by_cases bN : b = a
      · exact .inr (.inr ⟨_, _, if_pos bN⟩)
      · by_cases hb2 : b ∈ tabs.map (·.2)
        · exact .inr (.inl hb2)
        · exact .inl ((if_neg bN).trans (if_neg hb2))
    · by_cases bN : b = a
      · have z' := (if_pos bN).symm.trans y
        cases z'
        rw [bN]
        exact ⟨aH, by rw [List.length_map]; exact aL, us, _, vR, aH⟩
      · have z1 := (if_neg bN).symm.trans y
        by_cases hb2 : b ∈ tabs.map (·.2)
        · have z' := (if_pos hb2).symm.trans z1
          cases z'
          exact tI b hb2
        · have z' := (if_neg hb2).symm.trans z1
          cases z'
    · by_cases bN : b = a
      · exact .inl bN
      · by_cases hb2 : b ∈ tabs.map (·.2)
        · exact .inr hb2
        · exact absurd ((if_neg bN).trans (if_neg hb2)) y
/-- what is known of the law's promise at the head's heap h -/
def LawAtG (l : PySem.W.OpenLaw) (w : World) (K : PySem.W.Frag) (CX : CXT) (k n : Nat) (x : Str) (mg : Str → Option Value) (fa : Addr) (h : Heap) : Prop :=
  ∃ (fd : FuncData) (tabs : List (Addr × Addr)) (sp : Sp), (∀ p ∈ tabs, h.get? p.2 = some { cls := .none, data := .fields #[] }) ∧ (∀ p ∈ tabs, K.lookup p.2 = none) ∧ (∀ p ∈ tabs, PySem.W.CodeHd h p.1 p.2) ∧ (∀ (s : Shared) (u : Value), BindsTo s fd ⟨[u], []⟩ [(x, u)]) ∧
    (∀ (J : Hp) (a : Addr) (zs : List Int), zs.length ≤ n → (∀ p ∈ tabs, J p.2 = some (.tbl #[])) → SqL K J a (zs.map V.int) → sp [.ref a] J (fun v _ => v = .bl true) fun _ _ _ => False) ∧
    ∀ base : Heap, K.In base → base.Ns mainGlobals mg → (∀ p ∈ tabs, LamX.TabB base mg p.1 p.2) → FnOkG l.prog w K mg base CX k fa fd [x] sp
theorem walk_ofG {l : PySem.W.OpenLaw} {n k : Nat} {q : Program} {loose : List Str} {XP : (Str → Option Value) → Heap → Prop} {YP : World → Heap → Prop} {d : DefRec} {CX : World → CXT} {x : Str}
    (h1 : l.most = some n) (h2 : n ≤ sizeLine) (h3 : d.params.defaults = []) (rm : Room k callerA)
    (F : ∀ (w : World) (mg : Str → Option Value) (fa : Addr) (h : Heap), YP w h → h.Ns mainGlobals mg → mg d.name = some (.ref fa) → ∃ K : PySem.W.Frag, K.In h ∧ LawAtG l w K (CX w) k n x mg fa h)
    (xCX : ∀ (w : World) (J : Hp) (s : Shared) (e : Value) (s' : Shared), CX w [] J s (fun _ _ _ => False) e s' → False) :
    PySem.W.WalkO q loose XP YP l.row.toRowW d [] (fun f us => PySem.call f us) := by
  refine Att.attach_callB h1 h3 fun w s0 sA mg mb fa o pm cd doc a us zs G Y ho hd hcd hm hobj hints hlen hbits hgen => ?_
  obtain ⟨K, Xk, fd, tabs, sp, t1, t2, t3, t4, t5, t6⟩ := F w mg fa _ Y G.T.g hm
  exact law_callG Xk G.T.g G.T.b G.T.builtins G.T.nolimit hgen t1 t2 t3 G.T.bmain hobj hints (Nat.le_trans hlen h2) rm t6 t4 (fun J hJ sJ => t5 J a zs hlen hJ sJ) fun J e s' => xCX w J sA e s'
end SW
end

set_option Elab.async false
set_option linter.all false
set_option maxRecDepth 100000
set_option maxHeartbeats 0
/-! all defs' promises, from the head's facts -/
namespace SW
open PySem PySem.Spec PyProof.Rows L2
theorem clsB_ok {K : PySem.W.Frag} {C : Addr} (h : clsB K C = true) : ∃ nm q N bs bm sn sub ab col dd k0 k1 k2 k3 k5, K.lookup C = some (excClassObj nm q C N bs bm true sn sub ab col dd k0 k1 k2 k3 k5 "ValueError.__new__") ∧ PySem.HandSPX.refsVE bm = true := by
  unfold clsB at h
  split at h
  · rename_i c dd cd k0 k1 k2 k3 n k5 e
    split at h
    · rename_i C' bm em
      simp only [Bool.and_eq_true, decide_eq_true_eq, Bool.not_eq_true'] at h
      obtain ⟨⟨⟨⟨⟨h1, h2⟩, h3⟩, h4⟩, h5⟩, h6⟩ := h
      obtain ⟨nm, bs, mro, ns, qn, hd, sn, sub, ab, col, del⟩ := cd
      simp only at em h4 h5
      subst h1 h2 h3 h4 h5 em
      exact ⟨nm, qn, ns, bs, bm, sn, sub, ab, col, dd, k0, k1, k2, k3, k5, e, h6⟩
    · cases h
  · cases h
theorem errB_ok {K : PySem.W.Frag} {mg : Str → Option Value} {x f : Str} (h : errB K x f = true) (g : mg x = some (.ref (He.ga K x))) : ErrC K mg x f (He.ga K x) (He.fAd K (x, some "__init__")) := by
  unfold errB at h
  simp only [Bool.and_eq_true, decide_eq_true_eq] at h
  obtain ⟨⟨⟨⟨⟨⟨⟨⟨⟨⟨⟨⟨⟨⟨h1, h2⟩, h3⟩, h4⟩, h5⟩, h6⟩, h7⟩, h8⟩, h9⟩, h10⟩, h11⟩, h12⟩, h13⟩, h14⟩, h15⟩ := h
  exact ⟨⟨clsB_ok h1, h2, h3, h4, h5⟩, g, h6, h7, h8, xfB_ok h9, h10, h11, h12, h13, h14, h15⟩
theorem baseB_ok {K : PySem.W.Frag} {mg : Str → Option Value} (h : baseB K = true) (g : mg "SwaprowError" = some (.ref (He.ga K "SwaprowError"))) : BaseC K mg (He.ga K "SwaprowError") ∧ PySem.W.exmOne K (.ref (He.ga K "InvalidAnswer")) (.ref (He.ga K "SwaprowError")) = some true := by
  unfold baseB at h
  simp only [Bool.and_eq_true, decide_eq_true_eq] at h
  obtain ⟨⟨⟨h1, h2⟩, h3⟩, h4⟩ := h
  refine ⟨⟨g, h1, h2, ?_⟩, h4⟩
  split at h3
  · rename_i n e
    rw [e, of_decide_eq_true h3]
  · cases h3
theorem othB_ok {K : PySem.W.Frag} {mg : Str → Option Value} (h : othB K = true) (g1 : mg "InvalidRankings" = some (.ref (He.ga K "InvalidRankings"))) (g2 : mg "InvalidArrangement" = some (.ref (He.ga K "InvalidArrangement"))) (g3 : mg "InvalidDisplacements" = some (.ref (He.ga K "InvalidDisplacements")))
    (g4 : mg "InvalidSequence" = some (.ref (He.ga K "InvalidSequence"))) : Others K mg (He.ga K "InvalidAnswer") := by
  unfold othB at h
  simp only [Bool.and_eq_true, decide_eq_true_eq] at h
  obtain ⟨⟨⟨⟨h1, h2⟩, h3⟩, h4⟩, h5⟩ := h
  exact ⟨⟨_, g1, h1⟩, ⟨_, g2, h2⟩, ⟨_, g3, h3⟩, ⟨_, g4, h4⟩, h5⟩
theorem ends {P : Program} {w : World} {K : PySem.W.Frag} {h : Heap} {mg : Str → Option Value} (X : K.In h) (G : h.Ns mainGlobals mg) (c : He.SaysX fa fn [] tf ex w h K) :
    ∃ fd : FuncData, FnP K "law" st_law (He.ga K "law") fd ∧ mg "law" = some (.ref (He.ga K "law")) ∧ ∀ base : Heap, K.In base → base.Ns mainGlobals mg → (∀ p ∈ [He.cT K ("_law_bent_right", none)], LamX.TabB base mg p.1 p.2) →
      FnOkG P w K mg base CX0 12 (He.ga K "law") fd ["_law_script"] (spLaw K [((He.cT K ("_law_bent_right", none)).2, qnB ++ "<lambda>")]) := by
  have sd := c.t.d
  have fr : Free mg := ⟨He.free_ok X G (sd.fact 49 (f := .free "len") rfl), He.free_ok X G (sd.fact 50 (f := .free "isinstance") rfl), He.free_ok X G (sd.fact 51 (f := .free "int") rfl), He.free_ok X G (sd.fact 52 (f := .free "bool") rfl), He.free_ok X G (sd.fact 53 (f := .free "tuple") rfl), He.free_ok X G (sd.fact 54 (f := .free "str") rfl), He.free_ok X G (sd.fact 55 (f := .free "all") rfl), He.free_ok X G (sd.fact 56 (f := .free "any") rfl), He.free_ok X G (sd.fact 57 (f := .free "set") rfl), He.free_ok X G (sd.fact 58 (f := .free "enumerate") rfl), He.free_ok X G (sd.fact 59 (f := .free "range") rfl), He.free_ok X G (sd.fact 60 (f := .free "sum") rfl), He.free_ok X G (sd.fact 61 (f := .free "list") rfl), He.free_ok X G (sd.fact 62 (f := .free "sorted") rfl), He.free_ok X G (sd.fact 63 (f := .free "repr") rfl)⟩
  have mo : ((((He.tupB K "WORDS" [.str "refused", .str "sequence", .str "triple"] && errB K "InvalidSequence" "index") && errB K "InvalidAnswer" "part") && baseB K) && othB K) = true := c.more
  simp only [Bool.and_eq_true] at mo
  obtain ⟨⟨⟨⟨moW, moS⟩, moA⟩, moB⟩, moO⟩ := mo
  have gl : Glo K mg := ⟨He.int_ok X G (sd.fact 70 (f := .int "MAX_PEOPLE" 40) rfl), He.int_ok X G (sd.fact 71 (f := .int "MAX_RING" 20) rfl), _, He.glo_ok X G (sd.fact 72 (f := .glo "WORDS") rfl), fun H => He.tupB_ok moW H⟩
  have ES := errB_ok (mg := mg) moS (He.glo_ok X G (sd.fact 68 (f := .glo "InvalidSequence") rfl))
  have EA := errB_ok (mg := mg) moA (He.glo_ok X G (sd.fact 69 (f := .glo "InvalidAnswer") rfl))
  obtain ⟨BC, me⟩ := baseB_ok (mg := mg) moB (He.glo_ok X G (sd.fact 64 (f := .glo "SwaprowError") rfl))
  have OC := othB_ok (mg := mg) moO (He.glo_ok X G (sd.fact 65 (f := .glo "InvalidRankings") rfl)) (He.glo_ok X G (sd.fact 66 (f := .glo "InvalidArrangement") rfl)) (He.glo_ok X G (sd.fact 67 (f := .glo "InvalidDisplacements") rfl)) (He.glo_ok X G (sd.fact 68 (f := .glo "InvalidSequence") rfl))
  obtain ⟨fdS, FS⟩ := sd.def_ 49 (d := d_InvSeq) rfl
  obtain ⟨fdA, FA⟩ := sd.def_ 50 (d := d_InvAns) rfl
  obtain ⟨fd_end_of_copy, F_end_of_copy⟩ := sd.def_ 8 (d := d_end_of_copy) rfl
  have F_end_of_copy : FnP K "end_of_copy" st_end_of_copy (He.ga K "end_of_copy") fd_end_of_copy := F_end_of_copy
  have g_end_of_copy := He.glo_ok X G (sd.fact 8 (f := .glo "end_of_copy") rfl)
  obtain ⟨fd_later_copies, F_later_copies⟩ := sd.def_ 9 (d := d_later_copies) rfl
  have F_later_copies : FnP K "later_copies" st_later_copies (He.ga K "later_copies") fd_later_copies := F_later_copies
  have g_later_copies := He.glo_ok X G (sd.fact 9 (f := .glo "later_copies") rfl)
  obtain ⟨fd_inversions_there, F_inversions_there⟩ := sd.def_ 10 (d := d_inversions_there) rfl
  have F_inversions_there : FnP K "inversions_there" st_inversions_there (He.ga K "inversions_there") fd_inversions_there := F_inversions_there
  have g_inversions_there := He.glo_ok X G (sd.fact 10 (f := .glo "inversions_there") rfl)
  obtain ⟨fd_rank_tables, F_rank_tables⟩ := sd.def_ 4 (d := d_rank_tables) rfl
  have F_rank_tables : FnP K "rank_tables" st_rank_tables (He.ga K "rank_tables") fd_rank_tables := F_rank_tables
  have g_rank_tables := He.glo_ok X G (sd.fact 4 (f := .glo "rank_tables") rfl)
  obtain ⟨fd_is_ring_swap_allowed, F_is_ring_swap_allowed⟩ := sd.def_ 12 (d := d_is_ring_swap_allowed) rfl
  have F_is_ring_swap_allowed : FnP K "is_ring_swap_allowed" st_is_ring_swap_allowed (He.ga K "is_ring_swap_allowed") fd_is_ring_swap_allowed := F_is_ring_swap_allowed
  have g_is_ring_swap_allowed := He.glo_ok X G (sd.fact 12 (f := .glo "is_ring_swap_allowed") rfl)
  obtain ⟨fd_place_there, F_place_there⟩ := sd.def_ 14 (d := d_place_there) rfl
  have F_place_there : FnP K "place_there" st_place_there (He.ga K "place_there") fd_place_there := F_place_there
  have g_place_there := He.glo_ok X G (sd.fact 14 (f := .glo "place_there") rfl)
  obtain ⟨fd_triple_there, F_triple_there⟩ := sd.def_ 11 (d := d_triple_there) rfl
  have F_triple_there : FnP K "triple_there" st_triple_there (He.ga K "triple_there") fd_triple_there := F_triple_there
  have g_triple_there := He.glo_ok X G (sd.fact 11 (f := .glo "triple_there") rfl)
  obtain ⟨fd_refusals_there, F_refusals_there⟩ := sd.def_ 15 (d := d_refusals_there) rfl
  have F_refusals_there : FnP K "refusals_there" st_refusals_there (He.ga K "refusals_there") fd_refusals_there := F_refusals_there
  have g_refusals_there := He.glo_ok X G (sd.fact 15 (f := .glo "refusals_there") rfl)
  obtain ⟨fd_is_integer, F_is_integer⟩ := sd.def_ 0 (d := d_is_integer) rfl
  have F_is_integer : FnP K "is_integer" st_is_integer (He.ga K "is_integer") fd_is_integer := F_is_integer
  have g_is_integer := He.glo_ok X G (sd.fact 0 (f := .glo "is_integer") rfl)
  obtain ⟨fd_is_number_below, F_is_number_below⟩ := sd.def_ 1 (d := d_is_number_below) rfl
  have F_is_number_below : FnP K "is_number_below" st_is_number_below (He.ga K "is_number_below") fd_is_number_below := F_is_number_below
  have g_is_number_below := He.glo_ok X G (sd.fact 1 (f := .glo "is_number_below") rfl)
  obtain ⟨fd_is_ranking, F_is_ranking⟩ := sd.def_ 2 (d := d_is_ranking) rfl
  have F_is_ranking : FnP K "is_ranking" st_is_ranking (He.ga K "is_ranking") fd_is_ranking := F_is_ranking
  have g_is_ranking := He.glo_ok X G (sd.fact 2 (f := .glo "is_ranking") rfl)
  obtain ⟨fd_check_rankings, F_check_rankings⟩ := sd.def_ 3 (d := d_check_rankings) rfl
  have F_check_rankings : FnP K "check_rankings" st_check_rankings (He.ga K "check_rankings") fd_check_rankings := F_check_rankings
  have g_check_rankings := He.glo_ok X G (sd.fact 3 (f := .glo "check_rankings") rfl)
  obtain ⟨fd_check_displacements, F_check_displacements⟩ := sd.def_ 5 (d := d_check_displacements) rfl
  have F_check_displacements : FnP K "check_displacements" st_check_displacements (He.ga K "check_displacements") fd_check_displacements := F_check_displacements
  have g_check_displacements := He.glo_ok X G (sd.fact 5 (f := .glo "check_displacements") rfl)
  obtain ⟨fd_check_ring, F_check_ring⟩ := sd.def_ 6 (d := d_check_ring) rfl
  have F_check_ring : FnP K "check_ring" st_check_ring (He.ga K "check_ring") fd_check_ring := F_check_ring
  have g_check_ring := He.glo_ok X G (sd.fact 6 (f := .glo "check_ring") rfl)
  obtain ⟨fd_check_both, F_check_both⟩ := sd.def_ 7 (d := d_check_both) rfl
  have F_check_both : FnP K "check_both" st_check_both (He.ga K "check_both") fd_check_both := F_check_both
  have g_check_both := He.glo_ok X G (sd.fact 7 (f := .glo "check_both") rfl)
  obtain ⟨fd_sequence_for, F_sequence_for⟩ := sd.def_ 16 (d := d_sequence_for) rfl
  have F_sequence_for : FnP K "sequence_for" st_sequence_for (He.ga K "sequence_for") fd_sequence_for := F_sequence_for
  have g_sequence_for := He.glo_ok X G (sd.fact 16 (f := .glo "sequence_for") rfl)
  obtain ⟨fd_decide_there, F_decide_there⟩ := sd.def_ 17 (d := d_decide_there) rfl
  have F_decide_there : FnP K "decide_there" st_decide_there (He.ga K "decide_there") fd_decide_there := F_decide_there
  have g_decide_there := He.glo_ok X G (sd.fact 17 (f := .glo "decide_there") rfl)
  obtain ⟨fd_decide_ring, F_decide_ring⟩ := sd.def_ 18 (d := d_decide_ring) rfl
  have F_decide_ring : FnP K "decide_ring" st_decide_ring (He.ga K "decide_ring") fd_decide_ring := F_decide_ring
  have g_decide_ring := He.glo_ok X G (sd.fact 18 (f := .glo "decide_ring") rfl)
  obtain ⟨fd_run_ring, F_run_ring⟩ := sd.def_ 13 (d := d_run_ring) rfl
  have F_run_ring : FnP K "run_ring" st_run_ring (He.ga K "run_ring") fd_run_ring := F_run_ring
  have g_run_ring := He.glo_ok X G (sd.fact 13 (f := .glo "run_ring") rfl)
  obtain ⟨fd_leads_to, F_leads_to⟩ := sd.def_ 19 (d := d_leads_to) rfl
  have F_leads_to : FnP K "leads_to" st_leads_to (He.ga K "leads_to") fd_leads_to := F_leads_to
  have g_leads_to := He.glo_ok X G (sd.fact 19 (f := .glo "leads_to") rfl)
  obtain ⟨fd_are_integers, F_are_integers⟩ := sd.def_ 20 (d := d_are_integers) rfl
  have F_are_integers : FnP K "are_integers" st_are_integers (He.ga K "are_integers") fd_are_integers := F_are_integers
  have g_are_integers := He.glo_ok X G (sd.fact 20 (f := .glo "are_integers") rfl)
  obtain ⟨fd_is_triple, F_is_triple⟩ := sd.def_ 21 (d := d_is_triple) rfl
  have F_is_triple : FnP K "is_triple" st_is_triple (He.ga K "is_triple") fd_is_triple := F_is_triple
  have g_is_triple := He.glo_ok X G (sd.fact 21 (f := .glo "is_triple") rfl)
  obtain ⟨fd_is_refusal, F_is_refusal⟩ := sd.def_ 22 (d := d_is_refusal) rfl
  have F_is_refusal : FnP K "is_refusal" st_is_refusal (He.ga K "is_refusal") fd_is_refusal := F_is_refusal
  have g_is_refusal := He.glo_ok X G (sd.fact 22 (f := .glo "is_refusal") rfl)
  obtain ⟨fd_check_ring_decision, F_check_ring_decision⟩ := sd.def_ 23 (d := d_check_ring_decision) rfl
  have F_check_ring_decision : FnP K "check_ring_decision" st_check_ring_decision (He.ga K "check_ring_decision") fd_check_ring_decision := F_check_ring_decision
  have g_check_ring_decision := He.glo_ok X G (sd.fact 23 (f := .glo "check_ring_decision") rfl)
  obtain ⟨fd_law_likes_more, F_law_likes_more⟩ := sd.def_ 31 (d := d_law_likes_more) rfl
  have F_law_likes_more : FnP K "_law_likes_more" st_law_likes_more (He.ga K "_law_likes_more") fd_law_likes_more := F_law_likes_more
  have g_law_likes_more := He.glo_ok X G (sd.fact 31 (f := .glo "_law_likes_more") rfl)
  obtain ⟨fd_law_ring_may, F_law_ring_may⟩ := sd.def_ 32 (d := d_law_ring_may) rfl
  have F_law_ring_may : FnP K "_law_ring_may" st_law_ring_may (He.ga K "_law_ring_may") fd_law_ring_may := F_law_ring_may
  have g_law_ring_may := He.glo_ok X G (sd.fact 32 (f := .glo "_law_ring_may") rfl)
  obtain ⟨fd_law_ring_after, F_law_ring_after⟩ := sd.def_ 33 (d := d_law_ring_after) rfl
  have F_law_ring_after : FnP K "_law_ring_after" st_law_ring_after (He.ga K "_law_ring_after") fd_law_ring_after := F_law_ring_after
  have g_law_ring_after := He.glo_ok X G (sd.fact 33 (f := .glo "_law_ring_after") rfl)
  obtain ⟨fd_law_ring_ended, F_law_ring_ended⟩ := sd.def_ 34 (d := d_law_ring_ended) rfl
  have F_law_ring_ended : FnP K "_law_ring_ended" st_law_ring_ended (He.ga K "_law_ring_ended") fd_law_ring_ended := F_law_ring_ended
  have g_law_ring_ended := He.glo_ok X G (sd.fact 34 (f := .glo "_law_ring_ended") rfl)
  obtain ⟨fd_law_ring_place, F_law_ring_place⟩ := sd.def_ 37 (d := d_law_ring_place) rfl
  have F_law_ring_place : FnP K "_law_ring_place" st_law_ring_place (He.ga K "_law_ring_place") fd_law_ring_place := F_law_ring_place
  have g_law_ring_place := He.glo_ok X G (sd.fact 37 (f := .glo "_law_ring_place") rfl)
  obtain ⟨fd_law_ring_pairs, F_law_ring_pairs⟩ := sd.def_ 35 (d := d_law_ring_pairs) rfl
  have F_law_ring_pairs : FnP K "_law_ring_pairs" st_law_ring_pairs (He.ga K "_law_ring_pairs") fd_law_ring_pairs := F_law_ring_pairs
  have g_law_ring_pairs := He.glo_ok X G (sd.fact 35 (f := .glo "_law_ring_pairs") rfl)
  obtain ⟨fd_law_ring_triples, F_law_ring_triples⟩ := sd.def_ 36 (d := d_law_ring_triples) rfl
  have F_law_ring_triples : FnP K "_law_ring_triples" st_law_ring_triples (He.ga K "_law_ring_triples") fd_law_ring_triples := F_law_ring_triples
  have g_law_ring_triples := He.glo_ok X G (sd.fact 36 (f := .glo "_law_ring_triples") rfl)
  obtain ⟨fd_law_ring_refusals, F_law_ring_refusals⟩ := sd.def_ 38 (d := d_law_ring_refusals) rfl
  have F_law_ring_refusals : FnP K "_law_ring_refusals" st_law_ring_refusals (He.ga K "_law_ring_refusals") fd_law_ring_refusals := F_law_ring_refusals
  have g_law_ring_refusals := He.glo_ok X G (sd.fact 38 (f := .glo "_law_ring_refusals") rfl)
  obtain ⟨fd_law_ring_run, F_law_ring_run⟩ := sd.def_ 39 (d := d_law_ring_run) rfl
  have F_law_ring_run : FnP K "_law_ring_run" st_law_ring_run (He.ga K "_law_ring_run") fd_law_ring_run := F_law_ring_run
  have g_law_ring_run := He.glo_ok X G (sd.fact 39 (f := .glo "_law_ring_run") rfl)
  obtain ⟨fd_law_are_integers, F_law_are_integers⟩ := sd.def_ 42 (d := d_law_are_integers) rfl
  have F_law_are_integers : FnP K "_law_are_integers" st_law_are_integers (He.ga K "_law_are_integers") fd_law_are_integers := F_law_are_integers
  have g_law_are_integers := He.glo_ok X G (sd.fact 42 (f := .glo "_law_are_integers") rfl)
  obtain ⟨fd_law_ring_word, F_law_ring_word⟩ := sd.def_ 41 (d := d_law_ring_word) rfl
  have F_law_ring_word : FnP K "_law_ring_word" st_law_ring_word (He.ga K "_law_ring_word") fd_law_ring_word := F_law_ring_word
  have g_law_ring_word := He.glo_ok X G (sd.fact 41 (f := .glo "_law_ring_word") rfl)
  obtain ⟨fd_law_ring_choices, F_law_ring_choices⟩ := sd.def_ 40 (d := d_law_ring_choices) rfl
  have F_law_ring_choices : FnP K "_law_ring_choices" st_law_ring_choices (He.ga K "_law_ring_choices") fd_law_ring_choices := F_law_ring_choices
  have g_law_ring_choices := He.glo_ok X G (sd.fact 40 (f := .glo "_law_ring_choices") rfl)
  obtain ⟨fd_law_mixed, F_law_mixed⟩ := sd.def_ 24 (d := d_law_mixed) rfl
  have F_law_mixed : FnP K "_law_mixed" st_law_mixed (He.ga K "_law_mixed") fd_law_mixed := F_law_mixed
  have g_law_mixed := He.glo_ok X G (sd.fact 24 (f := .glo "_law_mixed") rfl)
  obtain ⟨fd_law_draw, F_law_draw⟩ := sd.def_ 26 (d := d_law_draw) rfl
  have F_law_draw : FnP K "_law_draw" st_law_draw (He.ga K "_law_draw") fd_law_draw := F_law_draw
  have g_law_draw := He.glo_ok X G (sd.fact 26 (f := .glo "_law_draw") rfl)
  obtain ⟨fd_law_folded, F_law_folded⟩ := sd.def_ 25 (d := d_law_folded) rfl
  have F_law_folded : FnP K "_law_folded" st_law_folded (He.ga K "_law_folded") fd_law_folded := F_law_folded
  have g_law_folded := He.glo_ok X G (sd.fact 25 (f := .glo "_law_folded") rfl)
  obtain ⟨fd_law_begun, F_law_begun⟩ := sd.def_ 27 (d := d_law_begun) rfl
  have F_law_begun : FnP K "_law_begun" st_law_begun (He.ga K "_law_begun") fd_law_begun := F_law_begun
  have g_law_begun := He.glo_ok X G (sd.fact 27 (f := .glo "_law_begun") rfl)
  obtain ⟨fd_law_mixed_up, F_law_mixed_up⟩ := sd.def_ 28 (d := d_law_mixed_up) rfl
  have F_law_mixed_up : FnP K "_law_mixed_up" st_law_mixed_up (He.ga K "_law_mixed_up") fd_law_mixed_up := F_law_mixed_up
  have g_law_mixed_up := He.glo_ok X G (sd.fact 28 (f := .glo "_law_mixed_up") rfl)
  obtain ⟨fd_law_ring_walk, F_law_ring_walk⟩ := sd.def_ 29 (d := d_law_ring_walk) rfl
  have F_law_ring_walk : FnP K "_law_ring_walk" st_law_ring_walk (He.ga K "_law_ring_walk") fd_law_ring_walk := F_law_ring_walk
  have g_law_ring_walk := He.glo_ok X G (sd.fact 29 (f := .glo "_law_ring_walk") rfl)
  obtain ⟨fd_law_ring_lists, F_law_ring_lists⟩ := sd.def_ 30 (d := d_law_ring_lists) rfl
  have F_law_ring_lists : FnP K "_law_ring_lists" st_law_ring_lists (He.ga K "_law_ring_lists") fd_law_ring_lists := F_law_ring_lists
  have g_law_ring_lists := He.glo_ok X G (sd.fact 30 (f := .glo "_law_ring_lists") rfl)
  obtain ⟨fd_law_ring_case, F_law_ring_case⟩ := sd.def_ 43 (d := d_law_ring_case) rfl
  have F_law_ring_case : FnP K "_law_ring_case" st_law_ring_case (He.ga K "_law_ring_case") fd_law_ring_case := F_law_ring_case
  have g_law_ring_case := He.glo_ok X G (sd.fact 43 (f := .glo "_law_ring_case") rfl)
  obtain ⟨fd_law_block_right, F_law_block_right⟩ := sd.def_ 46 (d := d_law_block_right) rfl
  have F_law_block_right : FnP K "_law_block_right" st_law_block_right (He.ga K "_law_block_right") fd_law_block_right := F_law_block_right
  have g_law_block_right := He.glo_ok X G (sd.fact 46 (f := .glo "_law_block_right") rfl)
  obtain ⟨fd_law_class, F_law_class⟩ := sd.def_ 44 (d := d_law_class) rfl
  have F_law_class : FnP K "_law_class" st_law_class (He.ga K "_law_class") fd_law_class := F_law_class
  have g_law_class := He.glo_ok X G (sd.fact 44 (f := .glo "_law_class") rfl)
  obtain ⟨fd_law_bent_right, F_law_bent_right⟩ := sd.def_ 47 (d := d_law_bent_right) rfl
  have F_law_bent_right : FnP K "_law_bent_right" st_law_bent_right (He.ga K "_law_bent_right") fd_law_bent_right := F_law_bent_right
  have g_law_bent_right := He.glo_ok X G (sd.fact 47 (f := .glo "_law_bent_right") rfl)
  obtain ⟨fd_law, F_law⟩ := sd.def_ 48 (d := d_law) rfl
  have F_law : FnP K "law" st_law (He.ga K "law") fd_law := F_law
  have g_law := He.glo_ok X G (sd.fact 48 (f := .glo "law") rfl)
  obtain ⟨fd_law_told, F_law_told⟩ := sd.def_ 45 (d := d_law_told) rfl
  have F_law_told : FnP K "_law_told" st_law_told (He.ga K "_law_told") fd_law_told := F_law_told
  have g_law_told := He.glo_ok X G (sd.fact 45 (f := .glo "_law_told") rfl)
  refine ⟨fd_law, F_law, g_law, fun base Kb Gb tbs => ?_⟩
  have T_InvalidSequence : ErrD P w K mg base "InvalidSequence" "index" (He.ga K "InvalidSequence") := ⟨_, fdS, ES, ok_initS FS BC ES.o ES.noF, bi_initS FS⟩
  have T_InvalidAnswer : ErrD P w K mg base "InvalidAnswer" "part" (He.ga K "InvalidAnswer") := ⟨_, fdA, EA, ok_initA FA BC EA.o EA.noF, bi_initA FA⟩
  have D_end_of_copy : Def P w K mg base CX0 1 "end_of_copy" ["displacements", "copy"] (spEoc K) := Def.mk' F_end_of_copy g_end_of_copy (bi_end_of_copy F_end_of_copy) (ok_end_of_copy F_end_of_copy fr)
  have D_later_copies : Def P w K mg base CX0 2 "later_copies" ["displacements", "copy"] (spLater K) := Def.mk' F_later_copies g_later_copies (bi_later_copies F_later_copies) (ok_later_copies F_later_copies fr D_end_of_copy)
  have D_inversions_there : Def P w K mg base CX0 3 "inversions_there" ["displacements"] (spInvs K) := Def.mk' F_inversions_there g_inversions_there (bi_inversions_there F_inversions_there) (ok_inversions_there F_inversions_there fr D_later_copies)
  have D_rank_tables : Def P w K mg base CX0 1 "rank_tables" ["rankings"] (spTables K) := Def.mk' F_rank_tables g_rank_tables (bi_rank_tables F_rank_tables) (ok_rank_tables F_rank_tables fr)
  have D_is_ring_swap_allowed : Def P w K mg base CX0 1 "is_ring_swap_allowed" ["tables", "arrangement", "swap"] (spMay K) := Def.mk' F_is_ring_swap_allowed g_is_ring_swap_allowed (bi_is_ring_swap_allowed F_is_ring_swap_allowed) (ok_is_ring_swap_allowed F_is_ring_swap_allowed fr)
  have D_place_there : Def P w K mg base CX0 2 "place_there" ["displacements", "x", "z"] (spPlace K) := Def.mk' F_place_there g_place_there (bi_place_there F_place_there) (ok_place_there F_place_there fr D_end_of_copy)
  have D_triple_there : Def P w K mg base CX0 4 "triple_there" ["displacements"] (spTrip K) := Def.mk' F_triple_there g_triple_there (bi_triple_there F_triple_there) (ok_triple_there F_triple_there fr D_later_copies D_inversions_there)
  have D_refusals_there : Def P w K mg base CX0 3 "refusals_there" ["tables", "displacements", "x", "z"] (spRef K) := Def.mk' F_refusals_there g_refusals_there (bi_refusals_there F_refusals_there) (ok_refusals_there F_refusals_there fr D_place_there)
  have D_is_integer : Def P w K mg base CX0 1 "is_integer" ["value"] spIsInt := Def.mk' F_is_integer g_is_integer (bi_is_integer F_is_integer) (ok_is_integer F_is_integer fr)
  have D_is_number_below : Def P w K mg base CX0 2 "is_number_below" ["value", "limit"] spNumBelow := Def.mk' F_is_number_below g_is_number_below (bi_is_number_below F_is_number_below) (ok_is_number_below F_is_number_below fr D_is_integer)
  have D_is_ranking : Def P w K mg base CX0 3 "is_ranking" ["value", "size"] (spIsRanking K) := Def.mk' F_is_ranking g_is_ranking (bi_is_ranking F_is_ranking) (ok_is_ranking F_is_ranking fr D_is_number_below)
  have D_check_rankings : Def P w K mg base CX0 4 "check_rankings" ["value"] (spCheckRk K) := Def.mk' F_check_rankings g_check_rankings (bi_check_rankings F_check_rankings) (ok_check_rankings F_check_rankings fr gl D_is_ranking)
  have D_check_displacements : Def P w K mg base CX0 2 "check_displacements" ["value"] (spCheckDisp K) := Def.mk' F_check_displacements g_check_displacements (bi_check_displacements F_check_displacements) (ok_check_displacements F_check_displacements fr gl D_is_integer)
  have D_check_ring : Def P w K mg base CX0 5 "check_ring" ["rankings"] (spCheckRk K) := Def.mk' F_check_ring g_check_ring (bi_check_ring F_check_ring) (ok_check_ring F_check_ring fr gl D_check_rankings)
  have D_check_both : Def P w K mg base CX0 6 "check_both" ["rankings", "displacements"] (spCheckBoth K) := Def.mk' F_check_both g_check_both (bi_check_both F_check_both) (ok_check_both F_check_both fr D_check_ring D_check_displacements)
  have D_sequence_for : Def P w K mg base CX0 1 "sequence_for" ["displacements"] (spSeq K) := Def.mk' F_sequence_for g_sequence_for (bi_sequence_for F_sequence_for) (ok_sequence_for F_sequence_for fr)
  have D_decide_there : Def P w K mg base CX0 5 "decide_there" ["rankings", "displacements"] (spDecide K) := Def.mk' F_decide_there g_decide_there (bi_decide_there F_decide_there) (ok_decide_there F_decide_there fr D_triple_there D_rank_tables D_inversions_there D_refusals_there D_sequence_for)
  have D_decide_ring : Def P w K mg base CX0 7 "decide_ring" ["rankings", "displacements"] (spDecide K) := Def.mk' F_decide_ring g_decide_ring (bi_decide_ring F_decide_ring) (ok_decide_ring F_decide_ring fr D_check_both D_decide_there)
  have D_run_ring : Def P w K mg base (L2.CX P w) 6 "run_ring" ["rankings", "sequence"] (spRun K (He.ga K "InvalidSequence")) := Def.mk' F_run_ring g_run_ring (bi_run_ring F_run_ring) (ok_run_ring F_run_ring fr T_InvalidSequence D_check_ring D_rank_tables D_is_number_below D_is_ring_swap_allowed)
  have D_leads_to : Def P w K mg base CX0 7 "leads_to" ["rankings", "sequence", "displacements"] (spLeads K) := Def.mk' F_leads_to g_leads_to (bi_leads_to F_leads_to) (ok_leads_to F_leads_to fr T_InvalidSequence D_run_ring)
  have D_are_integers : Def P w K mg base CX0 2 "are_integers" ["value", "size"] (spAreInts K) := Def.mk' F_are_integers g_are_integers (bi_are_integers F_are_integers) (ok_are_integers F_are_integers fr D_is_integer)
  have D_is_triple : Def P w K mg base CX0 3 "is_triple" ["displacements", "value"] (spIsTrip K) := Def.mk' F_is_triple g_is_triple (bi_is_triple F_is_triple) (ok_is_triple F_is_triple fr D_are_integers D_end_of_copy)
  have D_is_refusal : Def P w K mg base CX0 5 "is_refusal" ["rankings", "displacements", "value"] (spIsRef K) := Def.mk' F_is_refusal g_is_refusal (bi_is_refusal F_is_refusal) (ok_is_refusal F_is_refusal fr D_are_integers D_triple_there D_rank_tables D_inversions_there D_refusals_there)
  have D_check_ring_decision : Def P w K mg base (L2.CX P w) 8 "check_ring_decision" ["rankings", "displacements", "answer"] (spCheck K (He.ga K "InvalidAnswer")) := Def.mk' F_check_ring_decision g_check_ring_decision (bi_check_ring_decision F_check_ring_decision) (ok_check_ring_decision F_check_ring_decision fr gl T_InvalidAnswer D_check_both D_leads_to D_is_triple D_is_refusal)
  have D_law_likes_more : Def P w K mg base CX0 1 "_law_likes_more" ["_law_lists", "_law_who", "_law_thing", "_law_far"] (spLikes K) := Def.mk' F_law_likes_more g_law_likes_more (bi_law_likes_more F_law_likes_more) (ok_likes_more F_law_likes_more fr)
  have D_law_ring_may : Def P w K mg base CX0 2 "_law_ring_may" ["_law_lists", "_law_row", "_law_at"] (spLMay K) := Def.mk' F_law_ring_may g_law_ring_may (bi_law_ring_may F_law_ring_may) (ok_ring_may F_law_ring_may fr D_law_likes_more)
  have D_law_ring_after : Def P w K mg base CX0 1 "_law_ring_after" ["_law_row", "_law_moves", "_law_at"] (spAfter K) := Def.mk' F_law_ring_after g_law_ring_after (bi_law_ring_after F_law_ring_after) (ok_ring_after F_law_ring_after fr)
  have D_law_ring_ended : Def P w K mg base CX0 1 "_law_ring_ended" ["_law_moves", "_law_u"] (spEoc K) := Def.mk' F_law_ring_ended g_law_ring_ended (bi_law_ring_ended F_law_ring_ended) (ok_ring_ended F_law_ring_ended fr)
  have D_law_ring_place : Def P w K mg base CX0 2 "_law_ring_place" ["_law_moves", "_law_x", "_law_z"] (spPlace K) := Def.mk' F_law_ring_place g_law_ring_place (bi_law_ring_place F_law_ring_place) (ok_ring_place F_law_ring_place fr D_law_ring_ended)
  have D_law_ring_pairs : Def P w K mg base CX0 2 "_law_ring_pairs" ["_law_moves"] (spPairs K) := Def.mk' F_law_ring_pairs g_law_ring_pairs (bi_law_ring_pairs F_law_ring_pairs) (ok_ring_pairs F_law_ring_pairs fr D_law_ring_ended)
  have D_law_ring_triples : Def P w K mg base CX0 3 "_law_ring_triples" ["_law_moves"] (spTrips K) := Def.mk' F_law_ring_triples g_law_ring_triples (bi_law_ring_triples F_law_ring_triples) (ok_ring_triples F_law_ring_triples fr D_law_ring_ended D_law_ring_pairs)
  have D_law_ring_refusals : Def P w K mg base CX0 3 "_law_ring_refusals" ["_law_lists", "_law_moves"] (spRefs K) := Def.mk' F_law_ring_refusals g_law_ring_refusals (bi_law_ring_refusals F_law_ring_refusals) (ok_ring_refusals F_law_ring_refusals fr D_law_ring_pairs D_law_ring_place D_law_likes_more)
  have D_law_ring_run : Def P w K mg base CX0 3 "_law_ring_run" ["_law_lists", "_law_road"] (spLRun K) := Def.mk' F_law_ring_run g_law_ring_run (bi_law_ring_run F_law_ring_run) (ok_lring_run F_law_ring_run fr D_law_ring_may D_law_ring_after)
  have D_law_are_integers : Def P w K mg base CX0 1 "_law_are_integers" ["_law_thing", "_law_many"] (spAreInts K) := Def.mk' F_law_are_integers g_law_are_integers (bi_law_are_integers F_law_are_integers) (ok_lare_integers F_law_are_integers fr)
  have D_law_ring_word : Def P w K mg base CX0 4 "_law_ring_word" ["_law_lists", "_law_moves", "_law_reply"] (spWord K) := Def.mk' F_law_ring_word g_law_ring_word (bi_law_ring_word F_law_ring_word) (ok_ring_word F_law_ring_word fr D_law_ring_run D_law_are_integers D_law_ring_triples D_law_ring_refusals)
  have D_law_ring_choices : Def P w K mg base CX0 1 "_law_ring_choices" ["_law_row"] (spChoices K) := Def.mk' F_law_ring_choices g_law_ring_choices (bi_law_ring_choices F_law_ring_choices) (ok_ring_choices F_law_ring_choices fr)
  have D_law_mixed : Def P w K mg base CX0 1 "_law_mixed" ["_law_cell", "_law_n"] spMixed := Def.mk' F_law_mixed g_law_mixed (bi_law_mixed F_law_mixed) (ok_mixed F_law_mixed fr)
  have D_law_draw : Def P w K mg base CX0 2 "_law_draw" ["_law_m", "_law_top"] spDraw := Def.mk' F_law_draw g_law_draw (bi_law_draw F_law_draw) (ok_draw F_law_draw fr D_law_mixed)
  have D_law_folded : Def P w K mg base CX0 1 "_law_folded" ["_law_script"] (spFolded K) := Def.mk' F_law_folded g_law_folded (bi_law_folded F_law_folded) (ok_folded F_law_folded fr)
  have D_law_begun : Def P w K mg base CX0 2 "_law_begun" ["_law_script"] (spBegun K) := Def.mk' F_law_begun g_law_begun (bi_law_begun F_law_begun) (ok_begun F_law_begun fr D_law_folded)
  have D_law_mixed_up : Def P w K mg base CX0 3 "_law_mixed_up" ["_law_m", "_law_things"] (spMixUp K) := Def.mk' F_law_mixed_up g_law_mixed_up (bi_law_mixed_up F_law_mixed_up) (ok_mixed_up F_law_mixed_up fr D_law_draw)
  have D_law_ring_walk : Def P w K mg base CX0 3 "_law_ring_walk" ["_law_m", "_law_many"] (spWalk K) := Def.mk' F_law_ring_walk g_law_ring_walk (bi_law_ring_walk F_law_ring_walk) (ok_ring_walk F_law_ring_walk fr D_law_draw)
  have D_law_ring_lists : Def P w K mg base CX0 4 "_law_ring_lists" ["_law_m", "_law_many", "_law_held"] (spLists K) := Def.mk' F_law_ring_lists g_law_ring_lists (bi_law_ring_lists F_law_ring_lists) (ok_ring_lists F_law_ring_lists fr D_law_draw D_law_mixed_up)
  have D_law_ring_case : Def P w K mg base CX0 5 "_law_ring_case" ["_law_m", "_law_many"] (spCase K) := Def.mk' F_law_ring_case g_law_ring_case (bi_law_ring_case F_law_ring_case) (ok_ring_case F_law_ring_case fr D_law_draw D_law_mixed_up D_law_ring_walk D_law_ring_lists D_law_ring_choices)
  have D_law_block_right : Def P w K mg base CX0 8 "_law_block_right" ["_law_m"] spBlock := Def.mk' F_law_block_right g_law_block_right (bi_law_block_right F_law_block_right) (ok_block_right F_law_block_right fr D_law_draw D_decide_ring D_law_ring_run)
  have D_law_class : Def P w K mg base CX0 1 "_law_class" ["_law_error"] (spClass (He.ga K "InvalidAnswer")) := Def.mk' F_law_class g_law_class (bi_law_class F_law_class) (ok_class F_law_class fr T_InvalidAnswer OC)
  have hcode : fd_law_bent_right.code = .ref (He.cT K ("_law_bent_right", none)).1 := by
    obtain ⟨oc, od, dV, kV, doc, pm, an, cdv, ct, osl, e, lk, hc, _, _⟩ := F_law_bent_right.ex
    obtain ⟨cc, e2⟩ := He.codeIn_ref hc
    have e3 : fd_law_bent_right.code = .ref cc := by rw [e]; exact e2
    rw [e3]
    exact congrArg Value.ref (He.codeOf_eq (p := ("_law_bent_right", none)) lk e3).symm
  have D_law_bent_right : DefG P w K mg base CX0 11 "_law_bent_right" ["_law_m", "_law_lists", "_law_moves", "_law_found"] (spBent K [((He.cT K ("_law_bent_right", none)).2, qnB ++ "<lambda>")]) := ⟨_, _, g_law_bent_right, F_law_bent_right.kp, bi_law_bent_right F_law_bent_right, ok_bent_right F_law_bent_right fr [((He.cT K ("_law_bent_right", none)).2, qnB ++ "<lambda>")] hcode (tbs _ List.mem_cons_self) List.mem_cons_self (fun p hp _ => by rw [List.mem_singleton.mp hp]) F_law_told g_law_told BC.gC me D_law_class D_check_ring_decision D_law_draw D_law_ring_word⟩
  exact ok_law F_law fr [((He.cT K ("_law_bent_right", none)).2, qnB ++ "<lambda>")] D_law_begun D_law_block_right D_law_draw D_law_ring_case D_law_ring_walk D_law_ring_lists D_law_mixed_up D_decide_ring D_law_ring_triples D_law_ring_refusals D_law_ring_word D_law_ring_pairs D_check_ring_decision D_law_bent_right
end SW
open PySem PySem.W PySem.Calls PyProof.Rows
theorem PySem.Challenge.cw_swaprow_k54_whole_rings_of_many_people_holds : PySem.Challenge.rw_swaprow_k54_whole_rings_of_many_people.Holds := by
  w_on; o_law
  refine HandSHeadRun.head_any (r := OpenLaw.row PySem.Challenge.rw_swaprow_k54_whole_rings_of_many_people) (q := view (OpenLaw.row PySem.Challenge.rw_swaprow_k54_whole_rings_of_many_people).prog [70]) (H := SW.hk) (ob := SW.ob) (M := 7000) (loose := SW.loose) (d := HandSHeadRun.topDef (OpenLaw.row PySem.Challenge.rw_swaprow_k54_whole_rings_of_many_people).prog 70) (kwd := []) SW.ob_eq
    (by kernel_rfl) (fun s => by kernel_rfl) SW.run (by kernel_rfl) (by kernel_rfl) (by kernel_rfl) (by rfl) (by first | assumption | decide +kernel) (by decide +kernel) ⟨rfl, rfl, rfl, rfl, rfl, by decide +kernel⟩ ?hw ?hc
  case hw => w_witness2
  case hc =>
    refine SW.walk_ofG (l := PySem.Challenge.rw_swaprow_k54_whole_rings_of_many_people) (n := 63) (k := 12) (x := "_law_script") (CX := fun _ => L2.CX0) rfl (by decide) (by kernel_rfl) ⟨rfl, by decide, by decide⟩ ?F (fun _ _ _ _ _ z => z)
    intro w mg fa h Y G hmg0
    obtain ⟨K, X, c⟩ := Y
    have hmg : mg ("law" : PySem.Str) = some (.ref fa) := by
      have e : (HandSHeadRun.topDef (OpenLaw.row PySem.Challenge.rw_swaprow_k54_whole_rings_of_many_people).prog 70).name = ("law" : PySem.Str) := by kernel_rfl
      rw [← e]
      exact hmg0
    obtain ⟨fd, F, gL, hF⟩ := SW.ends (P := (PySem.Challenge.rw_swaprow_k54_whole_rings_of_many_people).prog) (w := w) X G c
    have e : fa = He.ga K "law" := by
      rw [hmg] at gL
      exact Value.ref.inj (Option.some.inj gL)
    subst e
    have bA := L2.FunD.bindsA (ps := ["_law_script"]) F fun _ _ _ _ _ _ us hl => match us, hl with | [_], _ => rfl
    refine ⟨K, X, fd, [He.cT K ("_law_bent_right", none)], SW.spLaw K [((He.cT K ("_law_bent_right", none)).2, SW.qnB ++ "<lambda>")], fun p hp => ?_, fun p hp => ?_, fun p hp => ?_, fun s v => bA s [v] rfl, fun J a zs hl hJ hS => ⟨a, zs, rfl, hS, hl, fun p hp => ?_, fun _ => rfl⟩, hF⟩
    · rw [List.mem_singleton.mp hp]
      exact c.empty _ List.mem_cons_self
    · rw [List.mem_singleton.mp hp]
      exact c.out _ List.mem_cons_self
    · rw [List.mem_singleton.mp hp]
      exact codeHd_of_K X (c.hd _ List.mem_cons_self)
    · rw [List.mem_singleton.mp hp]
      exact LamX.TabS.nil (hJ _ List.mem_cons_self)
