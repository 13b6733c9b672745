import PyProof.Rows.All
import Wide.All
import OpenK.AllK
import Wide.FinOn
import PyProof.SumWalkG
import PyProof.ReprRoads
import PyProof.ReprLen
import HandS.ForMost
import HandS.Walk
import HandS.Flow
import HandS.IsInst
import HandS.Conv
import HandS.Zip
import HandS.SetFor
import HandS.SortInts
import HandS.TupAny
import HandS.TupMul
import HandS.Wide
import HandS.More
import PySem.Challenge.RW_keelroom_k36_whole_just_once
set_option Elab.async false
set_option maxRecDepth 100000
set_option maxHeartbeats 1000000
set_option linter.unusedVariables false
set_option maxRecDepth 100000
namespace Sl
open PySem L2

/-! ### heaps in pieces -/
abbrev SA := Hp → Prop
def Imm : HO → Prop
  | .tup _ => True
  | _ => False
def Cmp (H1 H2 : Hp) : Prop := ∀ a o1 o2, H1 a = some o1 → H2 a = some o2 → o1 = o2 ∧ Imm o1
def Sub (H1 H2 : Hp) : Prop := ∀ a o, H1 a = some o → H2 a = some o
theorem Sub.refl (H : Hp) : Sub H H := fun _ _ h => h
theorem Sub.trans {H1 H2 H3 : Hp} (a : Sub H1 H2) (b : Sub H2 H3) : Sub H1 H3 := fun x o h => b x o (a x o h)
theorem Cmp.symm {H1 H2 : Hp} (c : Cmp H1 H2) : Cmp H2 H1 := fun a o1 o2 h1 h2 => by
  obtain ⟨e, i⟩ := c a o2 o1 h2 h1
  subst e
  exact ⟨rfl, i⟩
theorem Cmp.sub {H1 H2 G1 G2 : Hp} (c : Cmp H1 H2) (a : Sub G1 H1) (b : Sub G2 H2) : Cmp G1 G2 := fun x o1 o2 h1 h2 => c x o1 o2 (a x o1 h1) (b x o2 h2)
def uni (H1 H2 : Hp) : Hp := fun a => match H1 a with
  | some o => some o
  | none => H2 a
theorem uni_l (H1 H2 : Hp) : Sub H1 (uni H1 H2) := fun a o h => by
  unfold uni
  rw [h]
theorem uni_r {H1 H2 : Hp} (c : Cmp H1 H2) : Sub H2 (uni H1 H2) := fun a o h => by
  unfold uni
  cases e : H1 a with
  | none => exact h
  | some o1 =>
    obtain ⟨e2, _⟩ := c a o1 o e h
    rw [e2]
theorem uni_or {H1 H2 : Hp} {a : Addr} {o : HO} (h : uni H1 H2 a = some o) : H1 a = some o ∨ H2 a = some o := by
  unfold uni at h
  cases e : H1 a with
  | none =>
    rw [e] at h
    exact .inr h
  | some o1 =>
    rw [e] at h
    exact .inl h
theorem uni_sub {H1 H2 H : Hp} (a : Sub H1 H) (b : Sub H2 H) : Sub (uni H1 H2) H := fun x o h => (uni_or h).elim (a x o) (b x o)
theorem uni_cmp {H1 H2 H : Hp} (a : Cmp H H1) (b : Cmp H H2) : Cmp H (uni H1 H2) := fun x o1 o2 h1 h2 => (uni_or h2).elim (a x o1 o2 h1) (b x o1 o2 h1)

/-- the heap bears these, each in a piece of its own (tuples may be shared), and more -/
def Hd : List SA → Hp → Prop
  | [], _ => True
  | A :: L, H => ∃ H1 H2, Cmp H1 H2 ∧ Sub H1 H ∧ Sub H2 H ∧ A H1 ∧ Hd L H2
theorem Hd.up {H H' : Hp} : ∀ {L : List SA}, Sub H H' → Hd L H → Hd L H'
  | [], _, _ => trivial
  | _ :: _, s, ⟨H1, H2, c, a, b, p, q⟩ => ⟨H1, H2, c, a.trans s, b.trans s, p, q⟩
theorem Hd.tl {A : SA} {L : List SA} {H : Hp} (h : Hd (A :: L) H) : Hd L H := by
  obtain ⟨H1, H2, _, _, b, _, q⟩ := h
  exact q.up b
theorem Hd.mono {A : SA} {L L' : List SA} {H : Hp} (h : Hd (A :: L) H) (f : ∀ H, Hd L H → Hd L' H) : Hd (A :: L') H := by
  obtain ⟨H1, H2, c, a, b, p, q⟩ := h
  exact ⟨H1, H2, c, a, b, p, f _ q⟩
theorem Hd.imp {A B : SA} {L : List SA} {H : Hp} (h : Hd (A :: L) H) (f : ∀ H, A H → B H) : Hd (B :: L) H := by
  obtain ⟨H1, H2, c, a, b, p, q⟩ := h
  exact ⟨H1, H2, c, a, b, f _ p, q⟩
theorem Hd.swap {A B : SA} {L : List SA} {H : Hp} (h : Hd (A :: B :: L) H) : Hd (B :: A :: L) H := by
  obtain ⟨H1, H2, c, a, b, p, H3, H4, c2, a2, b2, p2, q⟩ := h
  have c13 : Cmp H1 H3 := c.sub (Sub.refl _) a2
  have c14 : Cmp H1 H4 := c.sub (Sub.refl _) b2
  exact ⟨H3, uni H1 H4, uni_cmp c13.symm c2, a2.trans b, uni_sub a (b2.trans b), p2, H1, H4, c14, uni_l _ _, uni_r c14, p, q⟩
/-- A stands in L, the others are L' -/
inductive Pull : SA → List SA → List SA → Prop
  | here {A : SA} {L : List SA} : Pull A (A :: L) L
  | there {A B : SA} {L L' : List SA} : Pull A L L' → Pull A (B :: L) (B :: L')
theorem Hd.pull {A : SA} {L L' : List SA} (p : Pull A L L') : ∀ {H : Hp}, Hd L H → Hd (A :: L') H := by
  induction p with
  | here => exact fun h => h
  | there _ ih => exact fun h => (h.mono fun _ => ih).swap
theorem Hd.push {A : SA} {L L' : List SA} (p : Pull A L L') : ∀ {H : Hp}, Hd (A :: L') H → Hd L H := by
  induction p with
  | here => exact fun h => h
  | there _ ih => exact fun h => h.swap.mono fun _ => ih
/-- A in L is exchanged for B -/
inductive Put : SA → SA → List SA → List SA → Prop
  | here {A B : SA} {L : List SA} : Put A B (A :: L) (B :: L)
  | there {A B C : SA} {L L' : List SA} : Put A B L L' → Put A B (C :: L) (C :: L')
theorem Put.pulls {A B : SA} {L L' : List SA} (p : Put A B L L') : ∃ M, Pull A L M ∧ Pull B L' M := by
  induction p with
  | here => exact ⟨_, .here, .here⟩
  | there _ ih =>
    obtain ⟨M, a, b⟩ := ih
    exact ⟨_, .there a, .there b⟩
/-- L bears M (in any order; more in L is let fall) -/
inductive Mt : List SA → List SA → Prop
  | nil {L : List SA} : Mt [] L
  | refl {L : List SA} : Mt L L
  | cons {A : SA} {L L' M : List SA} : Pull A L L' → Mt M L' → Mt (A :: M) L
  | drop {A : SA} {L M : List SA} : Mt M L → Mt M (A :: L)
theorem Hd.mt {M L : List SA} (m : Mt M L) : ∀ {H : Hp}, Hd L H → Hd M H := by
  induction m with
  | nil => exact fun _ => trivial
  | refl => exact fun h => h
  | cons p _ ih => exact fun h => (h.pull p).mono fun _ => ih
  | drop _ ih => exact fun h => ih h.tl

/-! ### what stands at an address -/
def pto (a : Addr) (o : HO) : SA := fun H => H a = some o
theorem Hd.get {a : Addr} {o : HO} {L L' : List SA} {H : Hp} (h : Hd L H) (p : Pull (pto a o) L L') : H a = some o := by
  obtain ⟨H1, H2, _, s, _, e, _⟩ := h.pull p
  exact s a o e
def one (a : Addr) (o : HO) : Hp := fun b => if b = a then some o else none
theorem one_at {a : Addr} {o : HO} : one a o a = some o := if_pos rfl
theorem of_one {a b : Addr} {o u : HO} (h : one a o b = some u) : b = a ∧ u = o := by
  unfold one at h
  split at h
  · rename_i e
    exact ⟨e, (Option.some.inj h).symm⟩
  · cases h
theorem one_cmp {a : Addr} {o : HO} {H : Hp} (n : H a = none) : Cmp (one a o) H := fun b o1 o2 h1 h2 => by
  obtain ⟨rfl, rfl⟩ := of_one h1
  rw [n] at h2
  cases h2
theorem one_sub {a : Addr} {o : HO} {H : Hp} (n : H a = some o) : Sub (one a o) H := fun b u h => by
  obtain ⟨rfl, rfl⟩ := of_one h
  exact n
theorem Hd.new {a : Addr} {o : HO} {L : List SA} {H : Hp} (h : Hd L H) (n : H a = none) : Hd (pto a o :: L) (upd H a o) :=
  ⟨one a o, H, one_cmp n, one_sub upd_same, fun b u e => by
    rw [upd_ne (ne_of_none e n)]
    exact e, one_at, h⟩
theorem Hd.set {a : Addr} {o o' : HO} {L L' : List SA} {H : Hp} (h : Hd L H) (p : Put (pto a o) (pto a o') L L') (m : ¬ Imm o) : Hd L' (upd H a o') := by
  obtain ⟨M, pa, pb⟩ := p.pulls
  refine Hd.push pb ?_
  obtain ⟨H1, H2, c, s1, s2, e, q⟩ := h.pull pa
  have n : H2 a = none := by
    cases z : H2 a with
    | none => rfl
    | some u => exact (m (c a o u e z).2).elim
  exact ⟨one a o', H2, one_cmp n, one_sub upd_same, fun b u e => by
    rw [upd_ne (ne_of_none e n)]
    exact s2 _ _ e, one_at, q⟩
/-- a tuple is shared -/
theorem Hd.dup {a : Addr} {xs : List V} {L L' : List SA} {H : Hp} (h : Hd L H) (p : Pull (pto a (.tup xs)) L L') : Hd (pto a (.tup xs) :: L) H :=
  ⟨one a (.tup xs), H, fun b o1 o2 h1 h2 => by
    obtain ⟨rfl, rfl⟩ := of_one h1
    rw [h.get p] at h2
    cases h2
    exact ⟨rfl, trivial⟩, one_sub (h.get p), Sub.refl _, one_at, h⟩
/-- words over pieces -/
theorem Hd.ex {α : Type} {A : α → SA} {L : List SA} {H : Hp} (h : Hd ((fun H => ∃ x, A x H) :: L) H) : ∃ x, Hd (A x :: L) H := by
  obtain ⟨H1, H2, c, s1, s2, ⟨x, e⟩, q⟩ := h
  exact ⟨x, H1, H2, c, s1, s2, e, q⟩
theorem Hd.pure {p : Prop} {A : SA} {L : List SA} {H : Hp} (h : Hd ((fun H => p ∧ A H) :: L) H) : p ∧ Hd (A :: L) H := by
  obtain ⟨H1, H2, c, s1, s2, ⟨x, e⟩, q⟩ := h
  exact ⟨x, H1, H2, c, s1, s2, e, q⟩
theorem Hd.open {M : List SA} : ∀ {L : List SA} {H : Hp}, Hd (Hd M :: L) H → Hd (M ++ L) H := by
  induction M with
  | nil => exact fun h => h.tl
  | cons A M ih =>
    rintro L H ⟨H1, H2, c, s1, s2, ⟨H3, H4, c2, s3, s4, p, q⟩, r⟩
    have c32 := c.sub s3 (Sub.refl _)
    have c42 := c.sub s4 (Sub.refl _)
    exact ⟨H3, uni H4 H2, uni_cmp c2 c32, s3.trans s1, uni_sub (s4.trans s1) s2, p, ih ⟨H4, H2, c42, uni_l _ _, uni_r c42, q, r⟩⟩
theorem Hd.close {M : List SA} : ∀ {L : List SA} {H : Hp}, Hd (M ++ L) H → Hd (Hd M :: L) H := by
  induction M with
  | nil => exact fun {L H} h => ⟨fun _ => none, H, fun _ _ _ h => (nomatch h), fun _ _ h => (nomatch h), Sub.refl _, trivial, h⟩
  | cons A M ih =>
    rintro L H ⟨H1, H2, c, s1, s2, p, q⟩
    obtain ⟨H3, H4, c2, s3, s4, p2, q2⟩ := ih q
    have c13 := c.sub (Sub.refl _) s3
    have c14 := c.sub (Sub.refl _) s4
    exact ⟨uni H1 H3, H4, (uni_cmp c14.symm c2.symm).symm, uni_sub s1 (s3.trans s2), s4.trans s2, ⟨H1, H3, c13, uni_l _ _, uni_r c13, p, p2⟩, q2⟩
/-- a list that is read only -/
def sql (K : PySem.W.Frag) (a : Addr) (xs : List V) : SA := fun H => SqL K H a xs
theorem Hd.sql {K : PySem.W.Frag} {a : Addr} {xs : List V} {L L' : List SA} {H : Hp} (h : Hd L H) (p : Pull (sql K a xs) L L') : SqL K H a xs := by
  obtain ⟨H1, H2, _, s, _, e, _⟩ := h.pull p
  exact Same.seq s e
theorem Hd.sq {K : PySem.W.Frag} {a : Addr} {xs : List V} {L L' : List SA} {H : Hp} (h : Hd L H) (p : Pull (pto a (.lst xs)) L L') : SqL K H a xs := SqL.of (h.get p)
theorem Hd.st {K : PySem.W.Frag} {a : Addr} {xs : List V} {L L' : List SA} {H : Hp} (h : Hd L H) (p : Pull (pto a (.tup xs)) L L') : SqT K H a xs := SqT.of (h.get p)
end Sl

set_option maxRecDepth 100000
set_option maxHeartbeats 1000000
namespace Sl
open PySem L2

/-! ### operators of several kinds at once -/
def rDG : R2 := fun x y H Q => ∃ a v, x = .ref a ∧ DGet H a y (some v) ∧ Q v H
def rDIn (neg : Bool) : R2 := fun y x H Q => ∃ a o, x = .ref a ∧ DGet H a y o ∧ Q (.bl (if neg then !o.isSome else o.isSome)) H
def rAddS : R2 := fun x y H Q => ∃ i j, x = .str i ∧ y = .str j ∧ i.length + j.length ≤ sizeLine ∧ Q (.str (i ++ j)) H
def rAddU (K : PySem.W.Frag) : R2 := fun x y H Q => rI0 (fun i j => .int (i + j)) x y H Q ∨ rCat x y H Q ∨ rAddS x y H Q ∨ rCatA K x y H Q
def rMulU (K : PySem.W.Frag) : R2 := fun x y H Q => rI CMul (fun i j => .int (i * j)) x y H Q ∨ rRep x y H Q ∨ rRepT K x y H Q
def rDivU : R2 := fun x y H Q => rI CDiv (fun i j => .int (i / j)) x y H Q ∨ rI CDivW (fun i j => .int (i / j)) x y H Q
def rEqU (K : PySem.W.Frag) : R2 := fun x y H Q => rEq x y H Q ∨ rEqD K x y H Q
def rNeU (K : PySem.W.Frag) : R2 := fun x y H Q => rNe x y H Q ∨ rNeD K x y H Q
def rInU (K : PySem.W.Frag) (neg : Bool) : R2 := fun x y H Q => rIn K neg x y H Q ∨ rDIn neg x y H Q
def rIxU (K : PySem.W.Frag) : R2 := fun x y H Q => rIx K x y H Q ∨ rDG x y H Q
def rIsN' : R2 := fun x y H Q => y = .non ∧ Q (.bl (decide (x = .non))) H
def rNotN' : R2 := fun x y H Q => y = .non ∧ Q (.bl (!decide (x = .non))) H
section
variable {X : Cx}
theorem u_add : OpR X (binaryOp .Add) (rAddU X.K) := op_add.or (op_cat.or (op_add_str.or op_catA))
theorem u_sub : OpR X (binaryOp .Sub) (rI0 fun i j => .int (i - j)) := op_sub
theorem u_mul : OpR X (binaryOp .Mult) (rMulU X.K) := op_mul.or (op_rep.or op_repT)
theorem u_div : OpR X (binaryOp .FloorDiv) rDivU := op_fdiv.or op_fdivW
theorem u_mod : OpR X (binaryOp .Mod) (rI (fun _ j => 0 < j) fun i j => .int (i % j)) := op_mod
theorem u_pow : OpR X (binaryOp .Pow) (rI CPow fun i j => .int (i ^ j.toNat)) := op_pow
theorem u_eq (hu : X.A.units + 64 < cLine) : OpR X (compareOp .Eq) (rEqU X.K) := op_eq.or (op_eqD hu)
theorem u_ne (hu : X.A.units + 64 < cLine) : OpR X (compareOp .NotEq) (rNeU X.K) := op_ne.or (op_neD hu)
theorem op_dIn (hu : X.A.units + 1 < cLine) : OpR X (compareOp .In) (rDIn false) := by
  intro pins s σ H x y v u Q I rx ry h
  obtain ⟨a, o, rfl, g, q⟩ := h
  cases ry
  exact d_in hu I g rx fun s3 I3 => ⟨.bl o.isSome, H, I3, rfl, q⟩
theorem op_dNotIn (hu : X.A.units + 1 < cLine) : OpR X (compareOp .NotIn) (rDIn true) := by
  intro pins s σ H x y v u Q I rx ry h
  obtain ⟨a, o, rfl, g, q⟩ := h
  cases ry
  exact d_notIn hu I g rx fun s3 I3 => ⟨.bl (!o.isSome), H, I3, rfl, q⟩
theorem u_in (hu : X.A.units + 1 < cLine) : OpR X (compareOp .In) (rInU X.K false) := op_in_seq.or (op_dIn hu)
theorem u_notIn (hu : X.A.units + 1 < cLine) : OpR X (compareOp .NotIn) (rInU X.K true) := op_notIn_seq.or (op_dNotIn hu)
theorem u_isN : OpR X (compareOp .Is) rIsN' := op_isN
theorem u_notN : OpR X (compareOp .IsNot) rNotN' := op_notN
theorem ix_dict (hu : X.A.units + 1 < cLine) : IxR X rDG := by
  intro value slice pins s σ H x y v u Q I rx ry h hs
  obtain ⟨a, w, rfl, g, q⟩ := h
  cases rx
  exact PyProof.Rows.tail_any (dict_typeIs I g) PySem.F.slot_dict_getitem.lookup (d_getItem hu I g ry fun w' s3 I3 rw' => ⟨w, H, I3, rw', q⟩) hs
end
end Sl

set_option maxRecDepth 100000
set_option maxHeartbeats 1000000
namespace Sl
open PySem L2

/-! ### subscripts stored -/
def rSetD : TSet := fun o i v H Q => ∃ a H', o = .ref a ∧ DPut H a i v H' ∧ Q H'
def rSetU : TSet := fun o i v H Q => rSetL o i v H Q ∨ rSetD o i v H Q
section
variable {X : Cx}
theorem set_dict (hu : X.A.units + 1 < cLine) : PSet X rSetD := by
  intro pins s σ H o i v ov iv u Q I ro ri rv h
  obtain ⟨a, H', rfl, g, q⟩ := h
  cases ro
  exact d_setItem hu I g ri rv fun s' I' => ⟨H', I', q⟩
theorem u_set (hu : X.A.units + 1 < cLine) : PSet X rSetU := by
  intro pins s σ H o i v ov iv u Q I ro ri rv h
  rcases h with h | h
  · exact set_list pins s σ H o i v ov iv u Q I ro ri rv h
  · exact set_dict hu pins s σ H o i v ov iv u Q I ro ri rv h
end

/-! ### built-ins, their readings named -/
def rLenU (K : PySem.W.Frag) : List V → Hp → VK → Prop := fun xs H Q => (∃ x n, xs = [x] ∧ LenV K x H n ∧ Q (.int (n : Nat)) H) ∨ ∃ a kvs, xs = [V.ref a] ∧ H a = some (.dK kvs) ∧ Q (.int (kvs.length : Nat)) H
def rAbs : List V → Hp → VK → Prop := fun xs H Q => ∃ i, xs = [.int i] ∧ Q (.int (if i < 0 then -i else i)) H
def rMax2 : List V → Hp → VK → Prop := fun xs H Q => ∃ i j, xs = [.int i, .int j] ∧ Q (.int (if j > i then j else i)) H
def rMin2 : List V → Hp → VK → Prop := fun xs H Q => ∃ i j, xs = [.int i, .int j] ∧ Q (.int (if j < i then j else i)) H
def rInt1 : List V → Hp → VK → Prop := fun xs H Q => (∃ i, xs = [.int i] ∧ Q (.int i) H) ∨ ∃ k, xs = [.bl k] ∧ Q (.int (if k then 1 else 0)) H
def rListOf (K : PySem.W.Frag) : List V → Hp → VK → Prop := fun xs H Q => ∃ p ys, xs = [.ref p] ∧ (SqL K H p ys ∨ SqT K H p ys) ∧ ∀ l, H l = none → Q (.ref l) (upd H l (.lst ys))
def rTupleOf (K : PySem.W.Frag) : List V → Hp → VK → Prop := fun xs H Q => ∃ p ys, xs = [.ref p] ∧ ((SqL K H p ys ∧ ∀ l, H l = none → Q (.ref l) (upd H l (.tup ys))) ∨ (SqT K H p ys ∧ Q (.ref p) H))
def rIsiU (K : PySem.W.Frag) : List V → Hp → VK → Prop := fun xs H Q => rIsi K xs H Q ∨ rIsiT K xs H Q
section
variable {X : Cx}
theorem u_len : CallR X (.builtin "len") (rLenU X.K) := call_len.or call_lenD
theorem u_abs : CallR X (.builtin "abs") rAbs := call_abs
theorem u_max2 (hc : X.calm = true) : CallR X (.builtin "max") rMax2 := call_max2 hc
theorem u_min2 (hc : X.calm = true) : CallR X (.builtin "min") rMin2 := call_min2 hc
theorem u_int1 : CallR X (.type "int") rInt1 := call_int1
theorem u_list : CallR X (.type "list") (rListOf X.K) := call_list_of
theorem u_tuple : CallR X (.type "tuple") (rTupleOf X.K) := call_tuple_of
theorem u_isi : CallR X (.builtin "isinstance") (rIsiU X.K) := call_isi.or call_isiT
theorem u_ix (hu : X.A.units + 1 < cLine) : IxR X (rIxU X.K) := ix_seq.or (ix_dict hu)
end

/-! ### what stands at the leaves of a reading, named -/
def AllocT (Q : VK) (xs : List V) (H : Hp) : Prop := xs.length ≤ sizeLine ∧ ∀ p, H p = none → Q (.ref p) (upd H p (.tup xs))
def AllocL (Q : VK) (xs : List V) (H : Hp) : Prop := xs.length ≤ sizeLine ∧ ∀ p, H p = none → Q (.ref p) (upd H p (.lst xs))
def IsB (QT : Bool → Hp → Prop) (x : V) (H : Hp) : Prop := ∃ k, x = .bl k ∧ QT k H
def AndK (tb : TE) (σ : L2.St) (Q : VK) (x : V) (H : Hp) : Prop := ∃ c, x = .bl c ∧ if c = true then tb σ H Q else Q (.bl false) H
def OrK (tb : TE) (σ : L2.St) (Q : VK) (x : V) (H : Hp) : Prop := ∃ c, x = .bl c ∧ if c = true then Q (.bl true) H else tb σ H Q
def NotK (Q : VK) (x : V) (H : Hp) : Prop := ∃ c, x = .bl c ∧ Q (.bl (!c)) H
def FldK (K : PySem.W.Frag) (f : Str) (Q : VK) (x : V) (H : Hp) : Prop := ∃ a C dx fs v, x = .ref a ∧ H a = some (.ins C dx fs) ∧ Cls K C ∧ NoAttr K C f ∧ fs.lookup f = some v ∧ Q v H
def SFldK (K : PySem.W.Frag) (f : Str) (N : Hp → Prop) (y x : V) (H : Hp) : Prop := ∃ a C dx fs, x = .ref a ∧ H a = some (.ins C dx fs) ∧ Cls K C ∧ NoAttr K C f ∧ fs.length < 1000 ∧ N (upd H a (.ins C dx (putF f y fs)))
def MethK (C : Addr) (m : Str) (R : V → Hp → Prop) (x : V) (H : Hp) : Prop := ∃ a dx fs, x = .ref a ∧ H a = some (.ins C dx fs) ∧ fs.lookup m = none ∧ R x H
def MakeK (C : Addr) (sp : Sp) (dvs : List V) (E : XK) (Q : VK) (vs : List V) (H : Hp) : Prop := ∀ x dx, H x = none → H dx = none → dx ≠ x → sp (.ref x :: (vs ++ dvs)) (upd (upd H dx (.own x)) x (.ins C dx [])) (fun v H2 => v = .non ∧ Q (.ref x) H2) E
def PartK (QO : Option Int → Hp → Prop) (x : V) (H : Hp) : Prop := ∃ i, x = .int i ∧ QO (some i) H
def DispE (p : Addr) (Q : VK) (ps : List (V × V)) (H : Hp) : Prop := H p = some (.dK []) ∧ ∃ kvs : List (Key × V), ps = kvs.map (fun kv => (kV kv.1, kv.2)) ∧ kvs.length ≤ 15 ∧ Q (.ref p) (upd H p (.dK (mergeK [] kvs)))
def GetE1 (a : Addr) (Q : VK) (y : V) (H : Hp) : Prop := ∃ o, DGet H a y o ∧ Q (o.getD .non) H
def GetE2 (a : Addr) (y : V) (Q : VK) (z : V) (H : Hp) : Prop := ∃ o, DGet H a y o ∧ Q (o.getD z) H
def IsDK (R : Addr → Hp → Prop) (x : V) (H : Hp) : Prop := ∃ a, x = .ref a ∧ IsD H a ∧ R a H

/-! ### readings, one construct after the other -/
section
variable {K : PySem.W.Frag} {σ : L2.St} {H : Hp} {D : Ends} {t u tw : TS} {te ta tb tx : TE} {tr : TA} {tt tu : TT} {g : TG} {gs : TGs} {Q : VK} {QA : List V → Hp → Prop} {QT : Bool → Hp → Prop} {v x y : V} {i j k : Int} {b c : Bool} {n : Nat}
  {L L' : List SA} {a p : Addr} {xs ys zs : List V} {r : R2} {N : Hp → Prop}
theorem r_seq (q : t { D with nx := u D } σ H) : tSeq t u D σ H := q
theorem r_next (q : D.nx σ H) : tNext D σ H := q
theorem r_asg (q : te σ H fun x H1 => g x σ H1 D.nx) : tAsg te g D σ H := q
theorem r_gName {QS : L2.St → Hp → Prop} (q : QS (σ.set n (some v)) H) : gName n v σ H QS := q
theorem r_drop (q : te σ H fun _ H1 => D.nx σ H1) : tDrop te D σ H := q
theorem r_ret (q : te σ H D.rt) : tRet te D σ H := q
theorem r_retN (q : D.rt .non H) : tRetN D σ H := q
theorem r_break (q : D.bk σ H) : tBreak D σ H := q
theorem r_cont (q : D.ct σ H) : tCont D σ H := q
theorem r_ifS (q : tt σ H fun b H1 => if b = true then t D σ H1 else u D σ H1) : tIfS tt t u D σ H := q
theorem r_test (q : te σ H (IsB QT)) : tTest te σ H QT := q
theorem r_tB (q : te σ H (IsB QT)) : tB te σ H QT := q
theorem r_isb (q : QT b H) : IsB QT (.bl b) H := ⟨b, rfl, q⟩
theorem r_tAnd (q : tt σ H fun c H1 => if c = true then tu σ H1 QT else QT false H1) : tAnd tt tu σ H QT := q
theorem r_tOr (q : tt σ H fun c H1 => if c = true then QT true H1 else tu σ H1 QT) : tOr tt tu σ H QT := q
theorem r_tNot (q : tt σ H fun c H1 => QT (!c) H1) : tNot tt σ H QT := q
theorem r_var (h : σ[n]? = some (some v)) (q : Q v H) : tVar n σ H Q := ⟨v, h, q⟩
theorem r_c (q : Q v H) : tC v σ H Q := q
theorem r_op (q : ta σ H fun x H1 => tb σ H1 fun y H2 => r x y H2 Q) : tOp r ta tb σ H Q := q
theorem r_un {ru : V → Hp → VK → Prop} (q : ta σ H fun x H1 => ru x H1 Q) : tUn ru ta σ H Q := q
theorem r_rU {f : Int → V} (q : Q (f i) H) : rU f (.int i) H Q := ⟨i, rfl, q⟩
theorem r_andV (q : ta σ H (AndK tb σ Q)) : tAndV ta tb σ H Q := q
theorem r_andK (q : if b = true then tb σ H Q else Q (.bl false) H) : AndK tb σ Q (.bl b) H := ⟨b, rfl, q⟩
theorem r_orV (q : ta σ H (OrK tb σ Q)) : tOrV ta tb σ H Q := q
theorem r_orK (q : if b = true then Q (.bl true) H else tb σ H Q) : OrK tb σ Q (.bl b) H := ⟨b, rfl, q⟩
theorem r_notV (q : ta σ H (NotK Q)) : tNotV ta σ H Q := q
theorem r_notK (q : Q (.bl (!b)) H) : NotK Q (.bl b) H := ⟨b, rfl, q⟩
theorem r_tIf (q : tt σ H fun c H1 => if c = true then ta σ H1 Q else tb σ H1 Q) : tIf tt ta tb σ H Q := q
theorem r_ite {A B : Prop} (h1 : b = true → A) (h2 : b = false → B) : if b = true then A else B := by
  cases b with
  | true => exact h1 rfl
  | false => exact h2 rfl
theorem r_iteD {P A B : Prop} [Decidable P] (h1 : P → A) (h2 : ¬ P → B) : if decide P = true then A else B := ite2 (fun h => h1 (of_decide_eq_true h)) fun h => h2 fun z => h (decide_eq_true z)
theorem r_iteN {P A B : Prop} [Decidable P] (h1 : ¬ P → A) (h2 : P → B) : if (!decide P) = true then A else B := by
  by_cases h : P
  · rw [decide_eq_true h]
    exact iteF (h2 h)
  · rw [decide_eq_false h]
    exact iteT (h1 h)
theorem r_iteB {A B : Prop} (h1 : b = false → A) (h2 : b = true → B) : if (!b) = true then A else B := by
  cases b with
  | true => exact iteF (h2 rfl)
  | false => exact iteT (h1 rfl)
theorem r_iteY {A B : Prop} (h : A) : if true = true then A else B := iteT h
theorem r_iteZ {A B : Prop} (h : B) : if false = true then A else B := iteF h
theorem r_nil (q : QA [] H) : tNil σ H QA := q
theorem r_cons (q : ta σ H fun x H1 => tr σ H1 fun xs H2 => QA (x :: xs) H2) : tCons ta tr σ H QA := q
theorem r_call {sp : Sp} {dvs : List V} {E : XK} (q : tr σ H fun vs H1 => sp (vs ++ dvs) H1 Q E) : tCall sp dvs E tr σ H Q := q
theorem r_cB {rc : List V → Hp → VK → Prop} (q : tr σ H fun vs H1 => rc vs H1 Q) : tCB rc tr σ H Q := q
theorem r_tup (q : tr σ H (AllocT Q)) : tTup tr σ H Q := q
theorem r_lst (q : tr σ H (AllocL Q)) : tLst tr σ H Q := q
theorem r_newT (hs : Hd L H) (hl : xs.length ≤ sizeLine) (q : ∀ p H', Hd (pto p (.tup xs) :: L) H' → Q (.ref p) H') : AllocT Q xs H := ⟨hl, fun p n => q p _ (hs.new n)⟩
theorem r_newL (hs : Hd L H) (hl : xs.length ≤ sizeLine) (q : ∀ p H', Hd (pto p (.lst xs) :: L) H' → Q (.ref p) H') : AllocL Q xs H := ⟨hl, fun p n => q p _ (hs.new n)⟩
/-! #### operators -/
theorem r_I0 {f : Int → Int → V} (q : Q (f i j) H) : rI0 f (.int i) (.int j) H Q := ⟨i, j, rfl, rfl, q⟩
theorem r_I {C : Int → Int → Prop} {f : Int → Int → V} (h : C i j) (q : Q (f i j) H) : rI C f (.int i) (.int j) H Q := ⟨i, j, rfl, rfl, h, q⟩
theorem r_addI (q : Q (.int (i + j)) H) : rAddU K (.int i) (.int j) H Q := .inl ⟨i, j, rfl, rfl, q⟩
theorem r_addL {b : Addr} (hs : Hd L H) (h1 : H a = some (.lst xs)) (h2 : H b = some (.lst ys)) (hl : xs.length + ys.length ≤ sizeLine) (q : ∀ p H', Hd (pto p (.lst (xs ++ ys)) :: L) H' → Q (.ref p) H') : rAddU K (.ref a) (.ref b) H Q :=
  .inr (.inl ⟨a, b, xs, ys, rfl, rfl, h1, h2, hl, fun p n => q p _ (hs.new n)⟩)
theorem r_addS {z w : Str} (h : z.length + w.length ≤ sizeLine) (q : Q (.str (z ++ w)) H) : rAddU K (.str z) (.str w) H Q := .inr (.inr (.inl ⟨z, w, rfl, rfl, h, q⟩))
theorem r_mulI (h : CMul i j) (q : Q (.int (i * j)) H) : rMulU K (.int i) (.int j) H Q := .inl ⟨i, j, rfl, rfl, h, q⟩
theorem r_mulL (hs : Hd L H) (h1 : H a = some (.lst xs)) (h : -(2 ^ 63) ≤ k ∧ k < 2 ^ 63) (hl : xs.length * k.toNat ≤ sizeLine) (q : ∀ p H', Hd (pto p (.lst (List.replicate k.toNat xs).flatten) :: L) H' → Q (.ref p) H') : rMulU K (.ref a) (.int k) H Q :=
  .inr (.inl ⟨a, k, xs, rfl, rfl, h1, h.1, h.2, hl, fun p n => q p _ (hs.new n)⟩)
theorem r_divI (h : 0 < j ∧ j < 1073741824) (q : Q (.int (i / j)) H) : rDivU (.int i) (.int j) H Q := .inl ⟨i, j, rfl, rfl, h, q⟩
theorem r_divW (h : 0 < j ∧ j.natAbs.log2 < 9000) (q : Q (.int (i / j)) H) : rDivU (.int i) (.int j) H Q := .inr ⟨i, j, rfl, rfl, h, q⟩
theorem r_modI (h : 0 < j) (q : Q (.int (i % j)) H) : rI (fun _ j => 0 < j) (fun i j => .int (i % j)) (.int i) (.int j) H Q := ⟨i, j, rfl, rfl, h, q⟩
theorem r_eqI (q : Q (.bl (decide (i = j))) H) : rEqU K (.int i) (.int j) H Q := .inl ⟨rfl, by
  have e : decide (V.int i = V.int j) = decide (i = j) := by simp
  rw [e]
  exact q⟩
theorem r_neI (q : Q (.bl (!decide (i = j))) H) : rNeU K (.int i) (.int j) H Q := .inl ⟨rfl, by
  have e : decide (V.int i = V.int j) = decide (i = j) := by simp
  rw [e]
  exact q⟩
theorem r_eqS {z w : Str} (q : Q (.bl (decide (z = w))) H) : rEqU K (.str z) (.str w) H Q := .inl ⟨rfl, by
  have e : decide (V.str z = V.str w) = decide (z = w) := by simp
  rw [e]
  exact q⟩
theorem r_neS {z w : Str} (q : Q (.bl (!decide (z = w))) H) : rNeU K (.str z) (.str w) H Q := .inl ⟨rfl, by
  have e : decide (V.str z = V.str w) = decide (z = w) := by simp
  rw [e]
  exact q⟩
theorem r_eqB (q : Q (.bl (decide (b = c))) H) : rEqU K (.bl b) (.bl c) H Q := .inl ⟨rfl, by
  have e : decide (V.bl b = V.bl c) = decide (b = c) := by simp
  rw [e]
  exact q⟩
theorem r_neB (q : Q (.bl (!decide (b = c))) H) : rNeU K (.bl b) (.bl c) H Q := .inl ⟨rfl, by
  have e : decide (V.bl b = V.bl c) = decide (b = c) := by simp
  rw [e]
  exact q⟩
theorem r_eqV (h : scal x y = true) (q : Q (.bl (decide (x = y))) H) : rEqU K x y H Q := .inl ⟨h, q⟩
theorem r_neV (h : scal x y = true) (q : Q (.bl (!decide (x = y))) H) : rNeU K x y H Q := .inl ⟨h, q⟩
theorem r_eqD {d e : PyData} (h1 : Dp K H x d) (h2 : Dp K H y e) (s1 : SeqAt.shaped d = true) (s2 : SeqAt.shaped e = true) (q : Q (.bl (PyData.eqv d e)) H) : rEqU K x y H Q := .inr ⟨d, e, h1, h2, s1, s2, q⟩
theorem r_neD {d e : PyData} (h1 : Dp K H x d) (h2 : Dp K H y e) (s1 : SeqAt.shaped d = true) (s2 : SeqAt.shaped e = true) (q : Q (.bl (!PyData.eqv d e)) H) : rNeU K x y H Q := .inr ⟨d, e, h1, h2, s1, s2, q⟩
theorem r_isN (q : Q (.bl (decide (x = .non))) H) : rIsN' x .non H Q := ⟨rfl, q⟩
theorem r_notN (q : Q (.bl (!decide (x = .non))) H) : rNotN' x .non H Q := ⟨rfl, q⟩
theorem r_inL (h : SqL K H a xs) (h1 : flatV x = true) (h2 : xs.all flatV = true) (q : Q (.bl (inV x xs)) H) : rInU K false x (.ref a) H Q := .inl ⟨a, xs, rfl, .inl h, h1, h2, q⟩
theorem r_inT (h : SqT K H a xs) (h1 : flatV x = true) (h2 : xs.all flatV = true) (q : Q (.bl (inV x xs)) H) : rInU K false x (.ref a) H Q := .inl ⟨a, xs, rfl, .inr h, h1, h2, q⟩
theorem r_niL (h : SqL K H a xs) (h1 : flatV x = true) (h2 : xs.all flatV = true) (q : Q (.bl (!inV x xs)) H) : rInU K true x (.ref a) H Q := .inl ⟨a, xs, rfl, .inl h, h1, h2, q⟩
theorem r_niT (h : SqT K H a xs) (h1 : flatV x = true) (h2 : xs.all flatV = true) (q : Q (.bl (!inV x xs)) H) : rInU K true x (.ref a) H Q := .inl ⟨a, xs, rfl, .inr h, h1, h2, q⟩
theorem r_inDi {kvs : List (Key × V)} (h : H a = some (.dK kvs)) (q : Q (.bl (valV kvs (.inl i)).isSome) H) : rInU K false (.int i) (.ref a) H Q := .inr ⟨a, _, rfl, DGet.k (k := .inl i) h, q⟩
theorem r_niDi {kvs : List (Key × V)} (h : H a = some (.dK kvs)) (q : Q (.bl (!(valV kvs (.inl i)).isSome)) H) : rInU K true (.int i) (.ref a) H Q := .inr ⟨a, _, rfl, DGet.k (k := .inl i) h, q⟩
theorem r_inDs {z : Str} {kvs : List (Key × V)} (h : H a = some (.dK kvs)) (q : Q (.bl (valV kvs (.inr z)).isSome) H) : rInU K false (.str z) (.ref a) H Q := .inr ⟨a, _, rfl, DGet.k (k := .inr z) h, q⟩
theorem r_niDs {z : Str} {kvs : List (Key × V)} (h : H a = some (.dK kvs)) (q : Q (.bl (!(valV kvs (.inr z)).isSome)) H) : rInU K true (.str z) (.ref a) H Q := .inr ⟨a, _, rfl, DGet.k (k := .inr z) h, q⟩
theorem r_ixL (h : SqL K H a xs) (hi : atI xs i = some v) (q : Q v H) : rIxU K (.ref a) (.int i) H Q := .inl (.inl ⟨a, xs, i, v, rfl, rfl, h, hi, q⟩)
theorem r_ixT (h : SqT K H a xs) (hi : atI xs i = some v) (q : Q v H) : rIxU K (.ref a) (.int i) H Q := .inl (.inr (.inl ⟨a, xs, i, v, rfl, rfl, h, hi, q⟩))
theorem r_ixDi {kvs : List (Key × V)} (h : H a = some (.dK kvs)) (hi : valV kvs (.inl i) = some v) (q : Q v H) : rIxU K (.ref a) (.int i) H Q := .inr ⟨a, v, rfl, by
  have g := DGet.k (k := .inl i) h
  rw [hi] at g
  exact g, q⟩
theorem r_ixDs {z : Str} {kvs : List (Key × V)} (h : H a = some (.dK kvs)) (hi : valV kvs (.inr z) = some v) (q : Q v H) : rIxU K (.ref a) (.str z) H Q := .inr ⟨a, v, rfl, by
  have g := DGet.k (k := .inr z) h
  rw [hi] at g
  exact g, q⟩
/-! #### what is stored at a subscript -/
theorem r_gSub {QS : L2.St → Hp → Prop} {ts : TSet} (q : ta σ H fun o H1 => tb σ H1 fun i H2 => ts o i v H2 fun H3 => QS σ H3) : gSub ta tb ts v σ H QS := q
theorem r_setL {QH : Hp → Prop} (hs : Hd L H) (p : Put (pto a (.lst xs)) (pto a (.lst (xs.set n v))) L L') (hn : n < xs.length) (q : ∀ H', Hd L' H' → QH H') : rSetU (.ref a) (.int (n : Int)) v H QH := by
  obtain ⟨M, pa, _⟩ := p.pulls
  refine .inl ⟨a, xs, (n : Int), n, rfl, rfl, hs.get pa, ?_, q _ (hs.set p (fun z => z))⟩
  unfold ixN
  rw [if_pos (Int.natCast_nonneg n), if_pos (by omega), Int.toNat_natCast]
theorem r_setDi {QH : Hp → Prop} {kvs kvs' : List (Key × V)} (hs : Hd L H) (p : Put (pto a (.dK kvs)) (pto a (.dK kvs')) L L') (e : putK kvs (.inl i) v = kvs') (hl : kvs.length < sizeLine) (q : ∀ H', Hd L' H' → QH H') : rSetU (.ref a) (.int i) v H QH := by
  obtain ⟨M, pa, _⟩ := p.pulls
  subst e
  exact .inr ⟨a, _, rfl, DPut.k (k := .inl i) (hs.get pa) hl, q _ (hs.set p (fun z => z))⟩
theorem r_setDs {QH : Hp → Prop} {z : Str} {kvs kvs' : List (Key × V)} (hs : Hd L H) (p : Put (pto a (.dK kvs)) (pto a (.dK kvs')) L L') (e : putK kvs (.inr z) v = kvs') (hl : kvs.length < sizeLine) (q : ∀ H', Hd L' H' → QH H') : rSetU (.ref a) (.str z) v H QH := by
  obtain ⟨M, pa, _⟩ := p.pulls
  subst e
  exact .inr ⟨a, _, rfl, DPut.k (k := .inr z) (hs.get pa) hl, q _ (hs.set p (fun z => z))⟩
/-! #### fields -/
theorem r_fld {f : Str} (q : ta σ H (FldK K f Q)) : tFld K ta f σ H Q := q
theorem r_fldK {C dx : Addr} {fs : List (Str × V)} {f : Str} (h : H a = some (.ins C dx fs)) (c : Cls K C) (nf : NoAttr K C f) (l : fs.lookup f = some v) (q : Q v H) : FldK K f Q (.ref a) H := ⟨a, C, dx, fs, v, rfl, h, c, nf, l, q⟩
theorem r_sFld {f : Str} (q : te σ H fun y H1 => ta σ H1 (SFldK K f (D.nx σ) y)) : sFld K ta te f D σ H := q
theorem r_sFldK {C dx : Addr} {fs fs' : List (Str × V)} {f : Str} (hs : Hd L H) (p : Put (pto a (.ins C dx fs)) (pto a (.ins C dx fs')) L L') (e : putF f y fs = fs') (c : Cls K C) (nf : NoAttr K C f) (hl : fs.length < 1000) (q : ∀ H', Hd L' H' → N H') : SFldK K f N y (.ref a) H := by
  obtain ⟨M, pa, _⟩ := p.pulls
  subst e
  exact ⟨a, C, dx, fs, rfl, hs.get pa, c, nf, hl, q _ (hs.set p (fun z => z))⟩
/-! #### calls of methods -/
theorem r_meth {C : Addr} {m : Str} {sp : Sp} {dvs : List V} {E : XK} (q : ta σ H (MethK C m fun x H1 => tr σ H1 fun vs H2 => sp (x :: (vs ++ dvs)) H2 Q E)) : tMeth C m sp dvs E ta tr σ H Q := q
theorem r_methK {C dx : Addr} {fs : List (Str × V)} {m : Str} {R : V → Hp → Prop} (h : H a = some (.ins C dx fs)) (l : fs.lookup m = none) (q : R (.ref a) H) : MethK C m R (.ref a) H := ⟨a, dx, fs, rfl, h, l, q⟩
theorem r_make {C : Addr} {sp : Sp} {dvs : List V} {E : XK} (q : tr σ H (MakeK C sp dvs E Q)) : tMake C sp dvs E tr σ H Q := q
theorem r_makeK {C : Addr} {sp : Sp} {dvs vs : List V} {E : XK} (hs : Hd L H) (q : ∀ x dx H', Hd (pto x (.ins C dx []) :: L) H' → sp (.ref x :: (vs ++ dvs)) H' (fun v H2 => v = .non ∧ Q (.ref x) H2) E) : MakeK C sp dvs E Q vs H := fun x dx nx nd ne =>
  q x dx _ ((hs.new nd).tl.new (by rw [upd_ne ne.symm]; exact nx))
theorem r_bm {T : String} {rm : V → List V → Hp → VK → Prop} (q : ta σ H fun x H1 => tyV K T x H1 ∧ tr σ H1 fun xs H2 => rm x xs H2 Q) : tBM K T rm ta tr σ H Q := q
theorem r_bm0 {T : String} {rm : V → List V → Hp → VK → Prop} (q : ta σ H fun x H1 => tyV K T x H1 ∧ rm x [] H1 Q) : tBM0 K T rm ta σ H Q := q
theorem r_tyL {R : Prop} (h : SqL K H a xs) (q : R) : tyV K "list" (.ref a) H ∧ R := ⟨.inl ⟨rfl, _, h⟩, q⟩
theorem r_tyD {kvs : List (Key × V)} {R : Prop} (h : H a = some (.dK kvs)) (q : R) : tyV K "dict" (.ref a) H ∧ R := ⟨.inr (.inr (.inl ⟨rfl, .inl ⟨_, h⟩⟩)), q⟩
theorem r_tyS {z : Str} {R : Prop} (q : R) : tyV K "str" (.str z) H ∧ R := ⟨rfl, q⟩
theorem r_append (hs : Hd L H) (p : Put (pto a (.lst xs)) (pto a (.lst (xs ++ [y]))) L L') (hl : xs.length < sizeLine) (q : ∀ H', Hd L' H' → Q .non H') : rAppend (.ref a) [y] H Q := by
  obtain ⟨M, pa, _⟩ := p.pulls
  exact ⟨a, xs, y, rfl, rfl, hs.get pa, hl, q _ (hs.set p (fun z => z))⟩
theorem r_extend {c : Addr} (hs : Hd L H) (p : Put (pto a (.lst xs)) (pto a (.lst (xs ++ ys))) L L') (hb : H c = some (.lst ys)) (hl : xs.length + ys.length ≤ sizeLine) (q : ∀ H', Hd L' H' → Q .non H') : rExtend (.ref a) [.ref c] H Q := by
  obtain ⟨M, pa, _⟩ := p.pulls
  exact ⟨a, c, xs, ys, rfl, rfl, hs.get pa, hb, hl, q _ (hs.set p (fun z => z))⟩
theorem r_pop (hs : Hd L H) (p : Put (pto a (.lst xs)) (pto a (.lst xs.dropLast)) L L') (hy : xs[xs.length - 1]? = some y) (q : ∀ H', Hd L' H' → Q y H') : rPop (.ref a) [] H Q := by
  obtain ⟨M, pa, _⟩ := p.pulls
  exact ⟨a, xs, y, rfl, rfl, hs.get pa, hy, q _ (hs.set p (fun z => z))⟩
theorem r_popAt (hs : Hd L H) (p : Put (pto a (.lst xs)) (pto a (.lst (xs.eraseIdx n))) L L') (hz : xs.length ≤ sizeLine) (hy : xs[n]? = some y) (q : ∀ H', Hd L' H' → Q y H') : rPopAt (.ref a) [.int (n : Int)] H Q := by
  obtain ⟨M, pa, _⟩ := p.pulls
  have hn := (List.getElem?_eq_some_iff.mp hy).1
  have e := sizeLine_eq
  have g : seqIndex? (n : Int) xs.length = some n := by
    have := (ixN_seq (n := xs.length) (i := (n : Int)) (j := n) (by
      unfold ixN
      rw [if_pos (Int.natCast_nonneg n), if_pos (by omega), Int.toNat_natCast])).1
    exact this
  exact ⟨a, xs, (n : Int), n, y, rfl, rfl, hs.get pa, by omega, by omega, g, hy, q _ (hs.set p (fun z => z))⟩
theorem r_clear (hs : Hd L H) (p : Put (pto a (.lst xs)) (pto a (.lst [])) L L') (q : ∀ H', Hd L' H' → Q .non H') : rClear (.ref a) [] H Q := by
  obtain ⟨M, pa, _⟩ := p.pulls
  exact ⟨a, xs, rfl, rfl, hs.get pa, q _ (hs.set p (fun z => z))⟩
/-! #### slices -/
theorem r_sl {rs : V → Option Int → Option Int → Hp → VK → Prop} {tl th : TO} (q : te σ H fun x H1 => tl σ H1 fun l H2 => th σ H2 fun u H3 => rs x l u H3 Q) : tSl rs te tl th σ H Q := q
theorem r_noPart {QO : Option Int → Hp → Prop} (q : QO none H) : tNoPart σ H QO := q
theorem r_part {QO : Option Int → Hp → Prop} (q : te σ H (PartK QO)) : tPart te σ H QO := q
theorem r_partK {QO : Option Int → Hp → Prop} (q : QO (some i) H) : PartK QO (.int i) H := ⟨i, rfl, q⟩
theorem r_slL {lo hi : Option Int} (hs : Hd L H) (h : SqL K H a xs) (q : ∀ p H', Hd (pto p (.lst (cutV xs lo hi)) :: L) H' → Q (.ref p) H') : rSlL K (.ref a) lo hi H Q := ⟨a, xs, rfl, h, fun p n => q p _ (hs.new n)⟩
/-! #### dicts -/
theorem r_dnew (hs : Hd L H) (q : ∀ p H', Hd (pto p (.dK []) :: L) H' → Q (.ref p) H') : tDNewK σ H Q := fun p n => q p _ (hs.new n)
theorem r_disp {trs : List (TE × TE)} (hs : Hd L H) (q : ∀ p H', Hd (pto p (.dK []) :: L) H' → tPairs trs σ H' (DispE p Q)) : tDisp trs σ H Q := fun p n => q p _ (hs.new n)
theorem r_pairsN {QP : List (V × V) → Hp → Prop} (q : QP [] H) : tPairs [] σ H QP := q
theorem r_pairsC {QP : List (V × V) → Hp → Prop} {trs : List (TE × TE)} (q : ta σ H fun x H1 => tb σ H1 fun y H2 => tPairs trs σ H2 fun ps H3 => QP ((x, y) :: ps) H3) : tPairs ((ta, tb) :: trs) σ H QP := q
theorem r_dispE {ps : List (V × V)} {kvs kvs' : List (Key × V)} (hs : Hd L H) (p' : Put (pto p (.dK [])) (pto p (.dK kvs')) L L') (e : ps = kvs.map (fun kv => (kV kv.1, kv.2))) (hl : kvs.length ≤ 15) (e2 : mergeK [] kvs = kvs') (q : ∀ H', Hd L' H' → Q (.ref p) H') : DispE p Q ps H := by
  obtain ⟨M, pa, _⟩ := p'.pulls
  subst e2
  exact ⟨hs.get pa, kvs, e, hl, q _ (hs.set p' (fun z => z))⟩
theorem r_dget1 (q : ta σ H (IsDK fun a H1 => tb σ H1 (GetE1 a Q))) : tDGet1 ta tb σ H Q := q
theorem r_dget2 (q : ta σ H (IsDK fun a H1 => tb σ H1 fun y H2 => tx σ H2 (GetE2 a y Q))) : tDGet2 ta tb tx σ H Q := q
theorem r_isD {kvs : List (Key × V)} {R : Addr → Hp → Prop} (h : H a = some (.dK kvs)) (q : R a H) : IsDK R (.ref a) H := ⟨a, rfl, .inl ⟨_, .inl h⟩, q⟩
theorem r_get1i {kvs : List (Key × V)} (h : H a = some (.dK kvs)) (q : Q ((valV kvs (.inl i)).getD .non) H) : GetE1 a Q (.int i) H := ⟨_, DGet.k (k := .inl i) h, q⟩
theorem r_get1s {z : Str} {kvs : List (Key × V)} (h : H a = some (.dK kvs)) (q : Q ((valV kvs (.inr z)).getD .non) H) : GetE1 a Q (.str z) H := ⟨_, DGet.k (k := .inr z) h, q⟩
theorem r_get2i {kvs : List (Key × V)} (h : H a = some (.dK kvs)) (q : Q ((valV kvs (.inl i)).getD x) H) : GetE2 a (.int i) Q x H := ⟨_, DGet.k (k := .inl i) h, q⟩
theorem r_get2s {z : Str} {kvs : List (Key × V)} (h : H a = some (.dK kvs)) (q : Q ((valV kvs (.inr z)).getD x) H) : GetE2 a (.str z) Q x H := ⟨_, DGet.k (k := .inr z) h, q⟩
/-! #### calls of built-ins -/
theorem r_lenL (h : SqL K H a xs) (q : Q (.int xs.length) H) : rLenU K [.ref a] H Q := .inl ⟨_, _, rfl, .inl ⟨_, h, rfl⟩, q⟩
theorem r_lenT (h : SqT K H a xs) (q : Q (.int xs.length) H) : rLenU K [.ref a] H Q := .inl ⟨_, _, rfl, .inr ⟨_, h, rfl⟩, q⟩
theorem r_lenS {z : Str} (h : z.length ≤ sizeLine) (q : Q (.int z.length) H) : rLenU K [.str z] H Q := .inl ⟨_, _, rfl, ⟨h, rfl⟩, q⟩
theorem r_lenD {kvs : List (Key × V)} (h : H a = some (.dK kvs)) (q : Q (.int kvs.length) H) : rLenU K [.ref a] H Q := .inr ⟨_, _, rfl, h, q⟩
theorem r_abs (q : Q (.int (if i < 0 then -i else i)) H) : rAbs [.int i] H Q := ⟨_, rfl, q⟩
theorem r_max2 (q : Q (.int (if j > i then j else i)) H) : rMax2 [.int i, .int j] H Q := ⟨_, _, rfl, q⟩
theorem r_min2 (q : Q (.int (if j < i then j else i)) H) : rMin2 [.int i, .int j] H Q := ⟨_, _, rfl, q⟩
theorem r_int1b (q : Q (.int (if b then 1 else 0)) H) : rInt1 [.bl b] H Q := .inr ⟨_, rfl, q⟩
theorem r_int1 (q : Q (.int i) H) : rInt1 [.int i] H Q := .inl ⟨_, rfl, q⟩
theorem r_listL (hs : Hd L H) (h : SqL K H a xs) (q : ∀ p H', Hd (pto p (.lst xs) :: L) H' → Q (.ref p) H') : rListOf K [.ref a] H Q := ⟨a, xs, rfl, .inl h, fun p n => q p _ (hs.new n)⟩
theorem r_listT (hs : Hd L H) (h : SqT K H a xs) (q : ∀ p H', Hd (pto p (.lst xs) :: L) H' → Q (.ref p) H') : rListOf K [.ref a] H Q := ⟨a, xs, rfl, .inr h, fun p n => q p _ (hs.new n)⟩
theorem r_tupleL (hs : Hd L H) (h : SqL K H a xs) (q : ∀ p H', Hd (pto p (.tup xs) :: L) H' → Q (.ref p) H') : rTupleOf K [.ref a] H Q := ⟨a, xs, rfl, .inl ⟨h, fun p n => q p _ (hs.new n)⟩⟩
theorem r_tupleT (h : SqT K H a xs) (q : Q (.ref a) H) : rTupleOf K [.ref a] H Q := ⟨a, xs, rfl, .inr ⟨h, q⟩⟩
theorem r_sum {ns : List Int} (h : SqL K H a (ns.map V.int)) (q : Q (.int ns.sum) H) : rSum K [.ref a] H Q := ⟨a, ns, rfl, h, q⟩
theorem r_all {bs : List Bool} (h : SqL K H a (bs.map V.bl)) (q : Q (.bl (bs.all id)) H) : rAll K [.ref a] H Q := ⟨a, bs, rfl, h, q⟩
theorem r_isi {c : V} {t u : Value} (hc : ClsV c u) (ty : TyX K H x t) (e : PySem.W.kitOne K t u = some b) (q : Q (.bl b) H) : rIsiU K [x, c] H Q := .inl ⟨x, c, t, u, b, rfl, hc, ty, e, q⟩
end
end Sl
namespace Sl
open PySem L2
theorem sz {n : Nat} (h : n ≤ 100000) : n ≤ sizeLine := Nat.le_trans h (by decide)
theorem szlt {n : Nat} (h : n < 100000) : n < sizeLine := Nat.lt_of_lt_of_le h (by decide)
theorem sqT_K {K : PySem.W.Frag} {a : Addr} {xs : List V} {us : List Value} {n : Nat} {H : Hp} (h : K.lookup a = some ⟨.type "tuple", none, .seq us.toArray n, #[]⟩) (hl : xs.length ≤ sizeLine) (r : Vals xs us) : SqT K H a xs :=
  .inr ⟨_, us.toArray, n, h, rfl, rfl, by rw [List.size_toArray, ← r.length]; exact hl, by simpa using r⟩
end Sl
namespace Sl
open PySem L2
theorem Hd.one {A : SA} {H : Hp} (h : A H) : Hd [A] H := ⟨H, fun _ => none, fun _ _ _ _ h => (nomatch h), Sub.refl _, fun _ _ h => (nomatch h), h, trivial⟩
/-- an atom that is true of greater heaps, too -/
def Up (A : SA) : Prop := ∀ H H', Sub H H' → A H → A H'
theorem Hd.at {A : SA} {L L' : List SA} {H : Hp} (u : Up A) (h : Hd L H) (p : Pull A L L') : A H := by
  obtain ⟨H1, H2, _, s, _, e, _⟩ := h.pull p
  exact u _ _ s e
theorem up_pto (a : Addr) (o : HO) : Up (pto a o) := fun _ _ s h => s _ _ h
/-- two atoms made one -/
theorem Hd.join {A B C : SA} {L : List SA} {H : Hp} (ua : Up A) (ub : Up B) (h : Hd (A :: B :: L) H) (f : ∀ H, A H → B H → C H) : Hd (C :: L) H := by
  obtain ⟨H1, H2, c, s1, s2, p, H3, H4, c2, s3, s4, q, r⟩ := h
  have c13 := c.sub (Sub.refl _) s3
  have c14 := c.sub (Sub.refl _) s4
  exact ⟨uni H1 H3, H4, (uni_cmp c14.symm c2.symm).symm, uni_sub s1 (s3.trans s2), s4.trans s2, f _ (ua _ _ (uni_l _ _) p) (ub _ _ (uni_r c13) q), r⟩
/-- an object of an atom is changed -/
theorem Hd.chg {A B : SA} {L : List SA} {H : Hp} {d : Addr} {o' : HO} (h : Hd (A :: L) H) (m : ∀ H, A H → ∃ o, H d = some o ∧ ¬ Imm o) (f : ∀ H, A H → B (upd H d o')) : Hd (B :: L) (upd H d o') := by
  obtain ⟨H1, H2, c, s1, s2, p, q⟩ := h
  obtain ⟨o, ho, hm⟩ := m _ p
  have n : H2 d = none := by
    cases z : H2 d with
    | none => rfl
    | some u => exact (hm (c d o u ho z).2).elim
  refine ⟨upd H1 d o', H2, fun b o1 o2 h1 h2 => ?_, fun b u e => ?_, fun b u e => ?_, f _ p, q⟩
  · by_cases z : b = d
    · subst z
      rw [n] at h2
      cases h2
    · rw [upd_ne z] at h1
      exact c b o1 o2 h1 h2
  · by_cases z : b = d
    · subst z
      rw [upd_same] at e ⊢
      exact e
    · rw [upd_ne z] at e ⊢
      exact s1 b u e
  · have z : b ≠ d := fun z => by
      subst z
      rw [n] at e
      cases e
    rw [upd_ne z]
    exact s2 b u e
/-- what is true at all greater heaps of A's piece may be carried beside it -/
theorem Hd.also {A B : SA} {L : List SA} {H : Hp} (h : Hd (A :: L) H) (f : ∀ H, A H → B H) : Hd (B :: L) H := h.imp f
end Sl
namespace Sl
open PySem L2
theorem flat_ints (ns : List Int) : (ns.map V.int).all flatV = true := by
  rw [List.all_map, List.all_eq_true]
  exact fun _ _ => rfl
end Sl
namespace Sl
open PySem L2
/-- what stands behind several ways is shown once: tail at each of them, then its proof -/
theorem r_late {L : List SA} {H : Hp} {B : Prop} {R : Hp → Prop} (_ : Hd L H) (f : (∀ H, Hd L H → R H) → B) (a : ∀ H, Hd L H → R H) : B := f a
end Sl

set_option maxRecDepth 100000
set_option maxHeartbeats 1000000
namespace Sl
open PySem L2
/-! ### what is walked -/
def Rng1K (R : It → Hp → Prop) (vs : List V) (H : Hp) : Prop := ∃ j : Int, vs = [.int j] ∧ -(2 ^ 62) ≤ j ∧ j < 2 ^ 62 ∧ R (Itr 0 j.toNat) H
def Rng2K (R : It → Hp → Prop) (vs : List V) (H : Hp) : Prop := ∃ i j : Int, vs = [.int i, .int j] ∧ (-(2 ^ 62) ≤ i ∧ i < 2 ^ 62 ∧ -(2 ^ 62) ≤ j ∧ j < 2 ^ 62) ∧ R (Itr i (j - i).toNat) H
def ListK (K : PySem.W.Frag) (R : It → Hp → Prop) (x : V) (H : Hp) : Prop := ∃ a, x = .ref a ∧ (∃ xs, SqL K H a xs) ∧ R (Itl K a) H
def TupK (K : PySem.W.Frag) (R : It → Hp → Prop) (x : V) (H : Hp) : Prop := ∃ a, x = .ref a ∧ (∃ xs, SqT K H a xs) ∧ R (Itt K a) H
def EnumK (K : PySem.W.Frag) (R : It → Hp → Prop) (vs : List V) (H : Hp) : Prop := ∃ a xs, vs = [.ref a] ∧ SqL K H a xs ∧ R (Ite K a) H
def ZipK (K : PySem.W.Frag) (R : It → Hp → Prop) (vs : List V) (H : Hp) : Prop := ∃ a b xs ys, vs = [.ref a, .ref b] ∧ SqL K H a xs ∧ SqL K H b ys ∧ R (Itz K a b) H
/-- a loop's turns; a comprehension's -/
def ForK (g : TG) (tb : TS) (D : Ends) (σ : L2.St) (J : It) (H : Hp) : Prop := ∃ W : Nat → Nat → L2.St → Hp → Prop, (∃ m, W 0 m σ H) ∧ ∀ i m σ H, W i m σ H →
  (J.stop i H ∧ D.nx σ H) ∨ (J.go i H ∧ ∃ N : L2.St → Hp → Prop, (∀ σ' H', N σ' H' → ∃ m', m' < m ∧ W (i + 1) m' σ' H') ∧ ∀ x H', J.yld i H x H' → g x σ H' fun σ2 H2 => tb { D with nx := N, ct := N, bk := D.nx } σ2 H2)
def LcK (g : TG) (tt : TT) (te : TE) (vs : List Nat) (σ : L2.St) (Q : VK) (J : It) (H1 : Hp) : Prop := ∀ D, H1 D = none → ∃ W : Nat → Nat → Hp → Prop, (∃ m, W 0 m (upd H1 D (.lst []))) ∧ ∀ i m H, W i m H →
  (J.stop i H ∧ Q (.ref D) H) ∨ (J.go i H ∧ ∃ Nx : Hp → Prop, (∀ H', Nx H' → ∃ m', m' < m ∧ W (i + 1) m' H') ∧ ∀ x H', J.yld i H x H' → g x (wipe σ vs) H' fun σ2 H2 => wipe σ2 vs = wipe σ vs ∧ tt σ2 H2 fun b H3 =>
    if b = true then te σ2 H3 fun y H4 => ∃ acc, H4 D = some (.lst acc) ∧ acc.length < sizeLine ∧ Nx (upd H4 D (.lst (acc ++ [y]))) else Nx H3)
def AppK (D : Addr) (N : Hp → Prop) (y : V) (H : Hp) : Prop := ∃ acc, H D = some (.lst acc) ∧ acc.length < sizeLine ∧ N (upd H D (.lst (acc ++ [y])))
section
variable {K : PySem.W.Frag} {σ : L2.St} {H : Hp} {D : Ends} {t u tb : TS} {te : TE} {tr : TA} {tt : TT} {wi : TI} {g : TG} {gs : TGs} {Q : VK} {R : It → Hp → Prop} {v x y : V} {i j k : Int} {n : Nat}
  {L L' : List SA} {a b p T : Addr} {xs ys : List V} {vs : List Nat} {QS : L2.St → Hp → Prop}
theorem r_for (q : wi σ H (ForK g tb D σ)) : tFor wi g tb D σ H := q
theorem r_lc (q : wi σ H (LcK g tt te vs σ Q)) : tLc wi g tt te vs σ H Q := q
theorem r_rng1 (q : tr σ H (Rng1K R)) : iRng1 tr σ H R := q
theorem r_rng2 (q : tr σ H (Rng2K R)) : iRng2 tr σ H R := q
theorem r_iList (q : te σ H (ListK K R)) : iList K te σ H R := q
theorem r_iTup (q : te σ H (TupK K R)) : iTup K te σ H R := q
theorem r_iEnum (q : tr σ H (EnumK K R)) : iEnum K tr σ H R := q
theorem r_iZip (q : tr σ H (ZipK K R)) : iZip K tr σ H R := q
theorem r_rng1K (h : -4000000000000000000 ≤ j ∧ j ≤ 4000000000000000000) (q : R (Itr 0 j.toNat) H) : Rng1K R [.int j] H := ⟨j, rfl, by omega, by omega, q⟩
theorem r_rng2K (h : -4000000000000000000 ≤ i ∧ i ≤ 4000000000000000000 ∧ -4000000000000000000 ≤ j ∧ j ≤ 4000000000000000000) (q : R (Itr i (j - i).toNat) H) : Rng2K R [.int i, .int j] H := ⟨i, j, rfl, ⟨by omega, by omega, by omega, by omega⟩, q⟩
theorem r_listK (h : SqL K H a xs) (q : R (Itl K a) H) : ListK K R (.ref a) H := ⟨a, rfl, ⟨xs, h⟩, q⟩
theorem r_tupK (h : SqT K H a xs) (q : R (Itt K a) H) : TupK K R (.ref a) H := ⟨a, rfl, ⟨xs, h⟩, q⟩
theorem r_enumK (h : SqL K H a xs) (q : R (Ite K a) H) : EnumK K R [.ref a] H := ⟨a, xs, rfl, h, q⟩
theorem r_zipK (h : SqL K H a xs) (h2 : SqL K H b ys) (q : R (Itz K a b) H) : ZipK K R [.ref a, .ref b] H := ⟨a, b, xs, ys, rfl, h, h2, q⟩
theorem r_gTup {k : Nat} (h : SqT K H a xs) (hl : xs.length = k) (q : gs xs σ H QS) : gTup K k gs (.ref a) σ H QS := ⟨a, xs, rfl, h, hl, q⟩
theorem r_gTupNew {k : Nat} (hs : Hd L H) (hT : H T = none) (hl : xs.length = k) (q : ∀ H', Hd (pto T (.tup xs) :: L) H' → gs xs σ H' QS) : gTup K k gs (.ref T) σ (upd H T (.tup xs)) QS :=
  ⟨T, xs, rfl, SqT.of upd_same, hl, q _ (hs.new hT)⟩
theorem r_gCons {xs : List V} (q : g x σ H fun σ' H' => gs xs σ' H' QS) : gCons g gs (x :: xs) σ H QS := ⟨x, xs, rfl, q⟩
theorem r_gNil (q : QS σ H) : gNil [] σ H QS := ⟨rfl, q⟩
theorem r_yes {QT : Bool → Hp → Prop} (q : QT true H) : tYes σ H QT := q
theorem r_appK {acc : List V} {D : Addr} {N : Hp → Prop} (hs : Hd L H) (p : Put (pto D (.lst acc)) (pto D (.lst (acc ++ [y]))) L L') (hl : acc.length < sizeLine) (q : ∀ H', Hd L' H' → N H') : AppK D N y H := by
  obtain ⟨M, pa, _⟩ := p.pulls
  exact ⟨acc, hs.get pa, hl, q _ (hs.set p (fun z => z))⟩
theorem r_par {i j : Nat} (q : tr σ H fun vs H1 => ∃ v w, vs = [v, w] ∧ D.nx ((σ.set i (some v)).set j (some w)) H1) : tPar i j tr D σ H := q
theorem r_mulT (hs : Hd L H) (h : SqT K H a xs) (hx : xs ≠ []) (hk : 2 ≤ k ∧ k ≤ 1000) (hl : xs.length ≤ 1000) (q : ∀ p H', Hd (pto p (.tup (List.replicate k.toNat xs).flatten) :: L) H' → Q (.ref p) H') : rMulU K (.ref a) (.int k) H Q :=
  .inr (.inr ⟨a, k, xs, rfl, rfl, h, hx, hk.1, hk.2, hl, fun p n => q p _ (hs.new n)⟩)
/-! #### loops by an invariant -/
theorem r_forW {J : It} {G : Hp → Prop} {Y : Nat → Hp → V → Hp → Prop} (w : Walk J n G Y) (P : Nat → L2.St → Hp → Prop) (h0 : P 0 σ H) (hG : ∀ i σ H, i ≤ n → P i σ H → G H)
    (hs : ∀ i x σ H H', i < n → P i σ H → Y i H x H' → g x σ H' fun σ2 H2 => tb { D with nx := P (i + 1), ct := P (i + 1), bk := D.nx } σ2 H2) (hd : ∀ σ H, P n σ H → D.nx σ H) : ForK g tb D σ J H := for_it w P h0 hG hs hd
theorem r_forR {lo : Int} (P : Nat → L2.St → Hp → Prop) (h0 : P 0 σ H)
    (hs : ∀ i σ H, i < n → P i σ H → g (.int (lo + (i : Nat))) σ H fun σ2 H2 => tb { D with nx := P (i + 1), ct := P (i + 1), bk := D.nx } σ2 H2) (hd : ∀ σ H, P n σ H → D.nx σ H) : ForK g tb D σ (Itr lo n) H :=
  r_forW walk_range P h0 (fun _ _ _ _ _ => trivial) (fun i x σ H H' hi p y => by
    obtain ⟨e, y⟩ := y
    subst e y
    exact hs i σ _ hi p) hd
theorem r_forL (xs : List V) (P : Nat → L2.St → Hp → Prop) (h0 : P 0 σ H) (hl : ∀ i σ H, i ≤ xs.length → P i σ H → SqL K H a xs)
    (hs : ∀ i x σ H, xs[i]? = some x → P i σ H → g x σ H fun σ2 H2 => tb { D with nx := P (i + 1), ct := P (i + 1), bk := D.nx } σ2 H2) (hd : ∀ σ H, P xs.length σ H → D.nx σ H) : ForK g tb D σ (Itl K a) H :=
  r_forW walk_list P h0 hl (fun i x σ H H' hi p y => by
    obtain ⟨e, y⟩ := y
    subst e
    exact hs i x σ _ y p) hd
theorem r_forT (xs : List V) (P : Nat → L2.St → Hp → Prop) (h0 : P 0 σ H) (hl : ∀ i σ H, i ≤ xs.length → P i σ H → SqT K H a xs)
    (hs : ∀ i x σ H, xs[i]? = some x → P i σ H → g x σ H fun σ2 H2 => tb { D with nx := P (i + 1), ct := P (i + 1), bk := D.nx } σ2 H2) (hd : ∀ σ H, P xs.length σ H → D.nx σ H) : ForK g tb D σ (Itt K a) H :=
  r_forW walk_tup P h0 hl (fun i x σ H H' hi p y => by
    obtain ⟨e, y⟩ := y
    subst e
    exact hs i x σ _ y p) hd
theorem r_forE (xs : List V) (P : Nat → L2.St → Hp → Prop) (h0 : P 0 σ H) (hl : ∀ i σ H, i ≤ xs.length → P i σ H → SqL K H a xs)
    (hs : ∀ i x T σ H, xs[i]? = some x → P i σ H → H T = none → g (.ref T) σ (upd H T (.tup [.int (i : Nat), x])) fun σ2 H2 => tb { D with nx := P (i + 1), ct := P (i + 1), bk := D.nx } σ2 H2) (hd : ∀ σ H, P xs.length σ H → D.nx σ H) : ForK g tb D σ (Ite K a) H :=
  r_forW walk_enum P h0 hl (fun i x σ H H' hi p y => by
    obtain ⟨T, z, w, rfl, hT, rfl, e1, e2⟩ := y
    cases e1
    exact hs i w T σ _ e2 p hT) hd
theorem r_forZ (xs ys : List V) (hn : n = min xs.length ys.length) (P : Nat → L2.St → Hp → Prop) (h0 : P 0 σ H) (hl : ∀ i σ H, i ≤ n → P i σ H → SqL K H a xs ∧ SqL K H b ys)
    (hs : ∀ i x y T σ H, xs[i]? = some x → ys[i]? = some y → P i σ H → H T = none → g (.ref T) σ (upd H T (.tup [x, y])) fun σ2 H2 => tb { D with nx := P (i + 1), ct := P (i + 1), bk := D.nx } σ2 H2) (hd : ∀ σ H, P n σ H → D.nx σ H) : ForK g tb D σ (Itz K a b) H :=
  r_forW (walk_zip hn) P h0 hl (fun i x σ H H' hi p y => by
    obtain ⟨T, z, w, rfl, hT, rfl, e1, e2⟩ := y
    exact hs i z w T σ _ e1 e2 p hT) hd
/-! #### comprehensions: P D i: what holds behind i turns, the new list at D -/
theorem r_lcW {J : It} {G : Hp → Prop} {Y : Nat → Hp → V → Hp → Prop} (w : Walk J n G Y) (P : Addr → Nat → Hp → Prop) (hh : Hd L H) (h0 : ∀ D H', Hd (pto D (.lst []) :: L) H' → P D 0 H') (hG : ∀ D i H, i ≤ n → P D i H → G H)
    (hs : ∀ D i x H H', i < n → P D i H → Y i H x H' → g x (wipe σ vs) H' fun σ2 H2 => wipe σ2 vs = wipe σ vs ∧ tt σ2 H2 fun b H3 => if b = true then te σ2 H3 (AppK D (P D (i + 1))) else P D (i + 1) H3)
    (hd : ∀ D H, P D n H → Q (.ref D) H) : LcK g tt te vs σ Q J H := fun D hD =>
  lc_it w (P D) (h0 D _ (hh.new hD)) (hG D) (fun i x H H' hi p y => hs D i x H H' hi p y) (hd D)
theorem r_lcR {lo : Int} (P : Addr → Nat → Hp → Prop) (hh : Hd L H) (h0 : ∀ D H', Hd (pto D (.lst []) :: L) H' → P D 0 H')
    (hs : ∀ D i H, i < n → P D i H → g (.int (lo + (i : Nat))) (wipe σ vs) H fun σ2 H2 => wipe σ2 vs = wipe σ vs ∧ tt σ2 H2 fun b H3 => if b = true then te σ2 H3 (AppK D (P D (i + 1))) else P D (i + 1) H3)
    (hd : ∀ D H, P D n H → Q (.ref D) H) : LcK g tt te vs σ Q (Itr lo n) H :=
  r_lcW walk_range P hh h0 (fun _ _ _ _ _ => trivial) (fun D i x H H' hi p y => by
    obtain ⟨e, y⟩ := y
    subst e y
    exact hs D i _ hi p) hd
theorem r_lcL (xs : List V) (P : Addr → Nat → Hp → Prop) (hh : Hd L H) (h0 : ∀ D H', Hd (pto D (.lst []) :: L) H' → P D 0 H') (hl : ∀ D i H, i ≤ xs.length → P D i H → SqL K H a xs)
    (hs : ∀ D i x H, xs[i]? = some x → P D i H → g x (wipe σ vs) H fun σ2 H2 => wipe σ2 vs = wipe σ vs ∧ tt σ2 H2 fun b H3 => if b = true then te σ2 H3 (AppK D (P D (i + 1))) else P D (i + 1) H3)
    (hd : ∀ D H, P D xs.length H → Q (.ref D) H) : LcK g tt te vs σ Q (Itl K a) H :=
  r_lcW walk_list P hh h0 hl (fun D i x H H' hi p y => by
    obtain ⟨e, y⟩ := y
    subst e
    exact hs D i x _ y p) hd
theorem r_lcT (xs : List V) (P : Addr → Nat → Hp → Prop) (hh : Hd L H) (h0 : ∀ D H', Hd (pto D (.lst []) :: L) H' → P D 0 H') (hl : ∀ D i H, i ≤ xs.length → P D i H → SqT K H a xs)
    (hs : ∀ D i x H, xs[i]? = some x → P D i H → g x (wipe σ vs) H fun σ2 H2 => wipe σ2 vs = wipe σ vs ∧ tt σ2 H2 fun b H3 => if b = true then te σ2 H3 (AppK D (P D (i + 1))) else P D (i + 1) H3)
    (hd : ∀ D H, P D xs.length H → Q (.ref D) H) : LcK g tt te vs σ Q (Itt K a) H :=
  r_lcW walk_tup P hh h0 hl (fun D i x H H' hi p y => by
    obtain ⟨e, y⟩ := y
    subst e
    exact hs D i x _ y p) hd
theorem r_lcE (xs : List V) (P : Addr → Nat → Hp → Prop) (hh : Hd L H) (h0 : ∀ D H', Hd (pto D (.lst []) :: L) H' → P D 0 H') (hl : ∀ D i H, i ≤ xs.length → P D i H → SqL K H a xs)
    (hs : ∀ D i x T H, xs[i]? = some x → P D i H → H T = none → g (.ref T) (wipe σ vs) (upd H T (.tup [.int (i : Nat), x])) fun σ2 H2 => wipe σ2 vs = wipe σ vs ∧ tt σ2 H2 fun b H3 => if b = true then te σ2 H3 (AppK D (P D (i + 1))) else P D (i + 1) H3)
    (hd : ∀ D H, P D xs.length H → Q (.ref D) H) : LcK g tt te vs σ Q (Ite K a) H :=
  r_lcW walk_enum P hh h0 hl (fun D i x H H' hi p y => by
    obtain ⟨T, z, w, rfl, hT, rfl, e1, e2⟩ := y
    cases e1
    exact hs D i w T _ e2 p hT) hd
end
theorem Hd.tup {L : List SA} {H : Hp} {t : Addr} {xs : List V} (h : Hd L H) (e : H t = some (.tup xs)) : Hd (pto t (.tup xs) :: L) H :=
  ⟨Sl.one t (.tup xs), H, fun b o1 o2 h1 h2 => by
    obtain ⟨rfl, rfl⟩ := of_one h1
    rw [e] at h2
    cases h2
    exact ⟨rfl, trivial⟩, one_sub e, Sub.refl _, one_at, h⟩
theorem cl_ints : ∀ ns : List Int, PyData.canLayAll0 (ns.map PyData.int) = true
  | [] => rfl
  | n :: r => by rw [List.map_cons, PyData.canLayAll0, cl_ints r]; rfl
theorem dt_ints : ∀ ns : List Int, PyData.depthAll (ns.map PyData.int) ≤ 1
  | [] => by decide
  | n :: r => by
    have h := dt_ints r
    rw [List.map_cons, PyData.depthAll]
    simp only [PyData.depth]
    omega
theorem sh_listI (ns : List Int) : SeqAt.shaped (.list (ns.map PyData.int)) = true := by
  have h := dt_ints ns
  unfold SeqAt.shaped
  rw [PyData.canLay0, cl_ints, Bool.true_and]
  apply decide_eq_true
  rw [PyData.depth]
  omega
theorem sh_tupI (ns : List Int) : SeqAt.shaped (.tuple (ns.map PyData.int)) = true := by
  have h := dt_ints ns
  unfold SeqAt.shaped
  rw [PyData.canLay0, cl_ints, Bool.true_and]
  apply decide_eq_true
  rw [PyData.depth]
  omega
/-- a list, or a tuple -/
def seqO : Bool → List V → HO
  | true, xs => .tup xs
  | false, xs => .lst xs
theorem r_setDX {v : V} {i : Int} {a : Addr} {H : Hp} {N : Hp → Prop} {kvs : List (Key × V)} (h : H a = some (.dK kvs)) (hl : kvs.length < sizeLine) (q : N (upd H a (.dK (putK kvs (.inl i) v)))) : rSetU (.ref a) (.int i) v H N := .inr ⟨a, _, rfl, DPut.k (k := .inl i) h hl, q⟩
theorem dp_ints {K : PySem.W.Frag} {H : Hp} : ∀ ns : List Int, DpAll K H (ns.map V.int) (ns.map PyData.int)
  | [] => .nil
  | n :: r => .cons (.int n) (dp_ints r)
theorem r_eqSame {K : PySem.W.Frag} {H : Hp} {x y : V} {Q : VK} {d : PyData} (h1 : Dp K H x d) (h2 : Dp K H y d) (s1 : SeqAt.shaped d = true) (e : PyData.eqv d d = true) (q : Q (.bl true) H) : rEqU K x y H Q := r_eqD h1 h2 s1 s1 (by rw [e]; exact q)
theorem r_neSame {K : PySem.W.Frag} {H : Hp} {x y : V} {Q : VK} {d : PyData} (h1 : Dp K H x d) (h2 : Dp K H y d) (s1 : SeqAt.shaped d = true) (e : PyData.eqv d d = true) (q : Q (.bl false) H) : rNeU K x y H Q := r_neD h1 h2 s1 s1 (by rw [e]; exact q)
end Sl
namespace Sl
open PySem L2
/-! ### the same rules, the written part named by a letter (within a comprehension's block) -/
section
variable {X : Cx} {K : PySem.W.Frag}
theorem k_add (h : X.K = K) : OpR X (binaryOp .Add) (rAddU K) := h ▸ u_add
theorem k_sub (_ : X.K = K) : OpR X (binaryOp .Sub) (rI0 fun i j => .int (i - j)) := u_sub
theorem k_mul (h : X.K = K) : OpR X (binaryOp .Mult) (rMulU K) := h ▸ u_mul
theorem k_div (_ : X.K = K) : OpR X (binaryOp .FloorDiv) rDivU := u_div
theorem k_mod (_ : X.K = K) : OpR X (binaryOp .Mod) (rI (fun _ j => 0 < j) fun i j => .int (i % j)) := u_mod
theorem k_pow (_ : X.K = K) : OpR X (binaryOp .Pow) (rI CPow fun i j => .int (i ^ j.toNat)) := u_pow
theorem k_eq (h : X.K = K) (hu : X.A.units + 64 < cLine) : OpR X (compareOp .Eq) (rEqU K) := h ▸ u_eq hu
theorem k_ne (h : X.K = K) (hu : X.A.units + 64 < cLine) : OpR X (compareOp .NotEq) (rNeU K) := h ▸ u_ne hu
theorem k_in (h : X.K = K) (hu : X.A.units + 1 < cLine) : OpR X (compareOp .In) (rInU K false) := h ▸ u_in hu
theorem k_notIn (h : X.K = K) (hu : X.A.units + 1 < cLine) : OpR X (compareOp .NotIn) (rInU K true) := h ▸ u_notIn hu
theorem k_ix (h : X.K = K) (hu : X.A.units + 1 < cLine) : IxR X (rIxU K) := h ▸ u_ix hu
theorem k_len (h : X.K = K) : CallR X (.builtin "len") (rLenU K) := h ▸ u_len
theorem k_list (h : X.K = K) : CallR X (.type "list") (rListOf K) := h ▸ u_list
theorem k_tuple (h : X.K = K) : CallR X (.type "tuple") (rTupleOf K) := h ▸ u_tuple
theorem k_isi (h : X.K = K) : CallR X (.builtin "isinstance") (rIsiU K) := h ▸ u_isi
theorem k_sum (h : X.K = K) (hc : X.calm = true) : CallR X (.builtin "sum") (rSum K) := h ▸ cr_sum hc
theorem k_all (h : X.K = K) (hc : X.calm = true) : CallR X (.builtin "all") (rAll K) := h ▸ cr_all hc
theorem k_any (h : X.K = K) (hc : X.calm = true) : CallR X (.builtin "any") (rAny K) := h ▸ cr_any hc
theorem k_sorted (h : X.K = K) : CallR X (.builtin "sorted") (rSortedI K) := h ▸ cr_sortedI
theorem k_max (h : X.K = K) (hc : X.calm = true) : CallR X (.builtin "max") (rMax K) := h ▸ cr_max hc
theorem k_min (h : X.K = K) (hc : X.calm = true) : CallR X (.builtin "min") (rMin K) := h ▸ cr_min hc
theorem k_slL (h : X.K = K) : SlR X (rSlL K) := h ▸ sl_list
theorem k_slT (h : X.K = K) : SlR X (rSlT K) := h ▸ sl_tup
theorem k_mtIndex (h : X.K = K) : MtR X "list.index" (rIndex K) := h ▸ mt_index
theorem k_mtCount (h : X.K = K) : MtR X "list.count" (rCntI K) := h ▸ mt_lcount
theorem k_fld {e : Expr} {ta : TE} {f : Str} {pos : Pos} (h : X.K = K) (he : PE X e ta) (hb : attributeBase e f X.env (eval e X.env) = eval e X.env) : PE X (.Attribute e f pos) (tFld K ta f) := h ▸ pe_fld he hb
theorem k_bm0 {o : Expr} {to : TE} {name : Str} {apos cpos : Pos} {T : String} {r : V → List V → Hp → VK → Prop} (h : X.K = K) (p : PE X (.Call (.Attribute o name apos) [] [] cpos) (tBM0 X.K T r to)) : PE X (.Call (.Attribute o name apos) [] [] cpos) (tBM0 K T r to) := h ▸ p
theorem k_bm {o e : Expr} {es : List Expr} {to : TE} {t : TA} {name : Str} {apos cpos : Pos} {T : String} {r : V → List V → Hp → VK → Prop} (h : X.K = K) (p : PE X (.Call (.Attribute o name apos) (e :: es) [] cpos) (tBM X.K T r to t)) : PE X (.Call (.Attribute o name apos) (e :: es) [] cpos) (tBM K T r to t) := h ▸ p
theorem k_gTup {es : List Expr} {k : Nat} {t : TGs} {n : Nat} {pos : Pos} (h : X.K = K) (p : PG X (.Tuple es k pos) (gTup X.K n t)) : PG X (.Tuple es k pos) (gTup K n t) := h ▸ p
end
end Sl
namespace Sl
open PySem L2
theorem kb_int_int {K : PySem.W.Frag} : PySem.W.kitOne K (.type "int") (.type "int") = some true := kit_ty (by decide +kernel)
theorem kb_int_bool {K : PySem.W.Frag} : PySem.W.kitOne K (.type "int") (.type "bool") = some false := kit_ty (by decide +kernel)
theorem kb_int_str {K : PySem.W.Frag} : PySem.W.kitOne K (.type "int") (.type "str") = some false := kit_ty (by decide +kernel)
theorem kb_int_list {K : PySem.W.Frag} : PySem.W.kitOne K (.type "int") (.type "list") = some false := kit_ty (by decide +kernel)
theorem kb_int_tuple {K : PySem.W.Frag} : PySem.W.kitOne K (.type "int") (.type "tuple") = some false := kit_ty (by decide +kernel)
theorem kb_int_dict {K : PySem.W.Frag} : PySem.W.kitOne K (.type "int") (.type "dict") = some false := kit_ty (by decide +kernel)
theorem kb_bool_int {K : PySem.W.Frag} : PySem.W.kitOne K (.type "bool") (.type "int") = some true := kit_ty (by decide +kernel)
theorem kb_bool_bool {K : PySem.W.Frag} : PySem.W.kitOne K (.type "bool") (.type "bool") = some true := kit_ty (by decide +kernel)
theorem kb_bool_str {K : PySem.W.Frag} : PySem.W.kitOne K (.type "bool") (.type "str") = some false := kit_ty (by decide +kernel)
theorem kb_bool_list {K : PySem.W.Frag} : PySem.W.kitOne K (.type "bool") (.type "list") = some false := kit_ty (by decide +kernel)
theorem kb_bool_tuple {K : PySem.W.Frag} : PySem.W.kitOne K (.type "bool") (.type "tuple") = some false := kit_ty (by decide +kernel)
theorem kb_bool_dict {K : PySem.W.Frag} : PySem.W.kitOne K (.type "bool") (.type "dict") = some false := kit_ty (by decide +kernel)
theorem kb_str_int {K : PySem.W.Frag} : PySem.W.kitOne K (.type "str") (.type "int") = some false := kit_ty (by decide +kernel)
theorem kb_str_bool {K : PySem.W.Frag} : PySem.W.kitOne K (.type "str") (.type "bool") = some false := kit_ty (by decide +kernel)
theorem kb_str_str {K : PySem.W.Frag} : PySem.W.kitOne K (.type "str") (.type "str") = some true := kit_ty (by decide +kernel)
theorem kb_str_list {K : PySem.W.Frag} : PySem.W.kitOne K (.type "str") (.type "list") = some false := kit_ty (by decide +kernel)
theorem kb_str_tuple {K : PySem.W.Frag} : PySem.W.kitOne K (.type "str") (.type "tuple") = some false := kit_ty (by decide +kernel)
theorem kb_str_dict {K : PySem.W.Frag} : PySem.W.kitOne K (.type "str") (.type "dict") = some false := kit_ty (by decide +kernel)
theorem kb_list_int {K : PySem.W.Frag} : PySem.W.kitOne K (.type "list") (.type "int") = some false := kit_ty (by decide +kernel)
theorem kb_list_bool {K : PySem.W.Frag} : PySem.W.kitOne K (.type "list") (.type "bool") = some false := kit_ty (by decide +kernel)
theorem kb_list_str {K : PySem.W.Frag} : PySem.W.kitOne K (.type "list") (.type "str") = some false := kit_ty (by decide +kernel)
theorem kb_list_list {K : PySem.W.Frag} : PySem.W.kitOne K (.type "list") (.type "list") = some true := kit_ty (by decide +kernel)
theorem kb_list_tuple {K : PySem.W.Frag} : PySem.W.kitOne K (.type "list") (.type "tuple") = some false := kit_ty (by decide +kernel)
theorem kb_list_dict {K : PySem.W.Frag} : PySem.W.kitOne K (.type "list") (.type "dict") = some false := kit_ty (by decide +kernel)
theorem kb_tuple_int {K : PySem.W.Frag} : PySem.W.kitOne K (.type "tuple") (.type "int") = some false := kit_ty (by decide +kernel)
theorem kb_tuple_bool {K : PySem.W.Frag} : PySem.W.kitOne K (.type "tuple") (.type "bool") = some false := kit_ty (by decide +kernel)
theorem kb_tuple_str {K : PySem.W.Frag} : PySem.W.kitOne K (.type "tuple") (.type "str") = some false := kit_ty (by decide +kernel)
theorem kb_tuple_list {K : PySem.W.Frag} : PySem.W.kitOne K (.type "tuple") (.type "list") = some false := kit_ty (by decide +kernel)
theorem kb_tuple_tuple {K : PySem.W.Frag} : PySem.W.kitOne K (.type "tuple") (.type "tuple") = some true := kit_ty (by decide +kernel)
theorem kb_tuple_dict {K : PySem.W.Frag} : PySem.W.kitOne K (.type "tuple") (.type "dict") = some false := kit_ty (by decide +kernel)
theorem kb_dict_int {K : PySem.W.Frag} : PySem.W.kitOne K (.type "dict") (.type "int") = some false := kit_ty (by decide +kernel)
theorem kb_dict_bool {K : PySem.W.Frag} : PySem.W.kitOne K (.type "dict") (.type "bool") = some false := kit_ty (by decide +kernel)
theorem kb_dict_str {K : PySem.W.Frag} : PySem.W.kitOne K (.type "dict") (.type "str") = some false := kit_ty (by decide +kernel)
theorem kb_dict_list {K : PySem.W.Frag} : PySem.W.kitOne K (.type "dict") (.type "list") = some false := kit_ty (by decide +kernel)
theorem kb_dict_tuple {K : PySem.W.Frag} : PySem.W.kitOne K (.type "dict") (.type "tuple") = some false := kit_ty (by decide +kernel)
theorem kb_dict_dict {K : PySem.W.Frag} : PySem.W.kitOne K (.type "dict") (.type "dict") = some true := kit_ty (by decide +kernel)
theorem kb_NoneType_int {K : PySem.W.Frag} : PySem.W.kitOne K (.type "NoneType") (.type "int") = some false := kit_ty (by decide +kernel)
theorem kb_NoneType_bool {K : PySem.W.Frag} : PySem.W.kitOne K (.type "NoneType") (.type "bool") = some false := kit_ty (by decide +kernel)
theorem kb_NoneType_str {K : PySem.W.Frag} : PySem.W.kitOne K (.type "NoneType") (.type "str") = some false := kit_ty (by decide +kernel)
theorem kb_NoneType_list {K : PySem.W.Frag} : PySem.W.kitOne K (.type "NoneType") (.type "list") = some false := kit_ty (by decide +kernel)
theorem kb_NoneType_tuple {K : PySem.W.Frag} : PySem.W.kitOne K (.type "NoneType") (.type "tuple") = some false := kit_ty (by decide +kernel)
theorem kb_NoneType_dict {K : PySem.W.Frag} : PySem.W.kitOne K (.type "NoneType") (.type "dict") = some false := kit_ty (by decide +kernel)
theorem r_iteNT {A B : Prop} (h : B) : if (!true) = true then A else B := iteF h
theorem r_iteNF {A B : Prop} (h : A) : if (!false) = true then A else B := iteT h
end Sl

set_option maxRecDepth 100000
set_option maxHeartbeats 1000000
namespace Sl
open PySem L2
/-! ### many lists -/
/-- at the addresses ls stand the lists q -/
def rowsA (ls : List Addr) (q : List (List V)) : SA := fun H => ls.Nodup ∧ ls.length = q.length ∧ ∀ (i : Nat) a r, ls[i]? = some a → q[i]? = some r → H a = some (.lst r)
theorem up_rows (ls : List Addr) (q : List (List V)) : Up (rowsA ls q) := fun _ _ s h => ⟨h.1, h.2.1, fun i a r h1 h2 => s _ _ (h.2.2 i a r h1 h2)⟩
theorem rows_nil {L : List SA} {H : Hp} (h : Hd L H) : Hd (rowsA [] [] :: L) H :=
  ⟨fun _ => none, H, fun _ _ _ h => (nomatch h), fun _ _ h => (nomatch h), Sub.refl _, ⟨List.nodup_nil, rfl, fun _ _ _ h => by simp at h⟩, h⟩
theorem rows_get {ls : List Addr} {q : List (List V)} {L L' : List SA} {H : Hp} (h : Hd L H) (p : Pull (rowsA ls q) L L') {i : Nat} {a : Addr} {r : List V} (h1 : ls[i]? = some a) (h2 : q[i]? = some r) : H a = some (.lst r) :=
  (h.at (up_rows ls q) p).2.2 i a r h1 h2
theorem rows_len {ls : List Addr} {q : List (List V)} {L L' : List SA} {H : Hp} (h : Hd L H) (p : Pull (rowsA ls q) L L') : ls.length = q.length := (h.at (up_rows ls q) p).2.1
theorem rows_at {ls : List Addr} {q : List (List V)} {L L' : List SA} {H : Hp} (h : Hd L H) (p : Pull (rowsA ls q) L L') {i : Nat} (hi : i < q.length) : ∃ a, ls[i]? = some a ∧ H a = some (.lst q[i]) := by
  have e := rows_len h p
  have hi' : i < ls.length := by omega
  exact ⟨ls[i], by simp [hi'], rows_get h p (i := i) (by simp [hi']) (by simp [hi])⟩
theorem rows_set {ls : List Addr} {q : List (List V)} {L : List SA} {H : Hp} (h : Hd (rowsA ls q :: L) H) {i : Nat} {a : Addr} (h1 : ls[i]? = some a) (r : List V) : Hd (rowsA ls (q.set i r) :: L) (upd H a (.lst r)) := by
  refine h.chg (fun G z => ?_) fun G z => ?_
  · have hi : i < q.length := by
      rw [← z.2.1]
      exact (List.getElem?_eq_some_iff.mp h1).1
    exact ⟨_, z.2.2 i a q[i] h1 (by simp [hi]), fun z => z⟩
  · refine ⟨z.1, by rw [List.length_set]; exact z.2.1, fun j b s e1 e2 => ?_⟩
    by_cases e : j = i
    · subst e
      rw [h1] at e1
      cases e1
      have hj : j < q.length := by
        rw [← z.2.1]
        exact (List.getElem?_eq_some_iff.mp h1).1
      rw [List.getElem?_set_self hj] at e2
      cases e2
      exact upd_same
    · rw [List.getElem?_set_ne (Ne.symm e)] at e2
      have nb : b ≠ a := fun z2 => by
        subst z2
        exact e (nd_ix z.1 e1 h1)
      rw [upd_ne nb]
      exact z.2.2 j b s e1 e2
/-- a list of its own is no one of the rows -/
theorem rows_out {ls : List Addr} {q : List (List V)} {L : List SA} {H : Hp} {a : Addr} {r : List V} (h : Hd (pto a (.lst r) :: rowsA ls q :: L) H) : a ∉ ls := fun m => by
  obtain ⟨H1, H2, c, s1, s2, p, H3, H4, c2, s3, s4, p2, q2⟩ := h
  obtain ⟨i, hi, e⟩ := List.mem_iff_getElem.mp m
  have hq : i < q.length := by
    rw [← p2.2.1]
    exact hi
  have h3 := p2.2.2 i a q[i] (by rw [← e]; simp [hi]) (by simp [hq])
  exact (c a _ _ p (s3 _ _ h3)).2
theorem rows_snoc {ls : List Addr} {q : List (List V)} {L : List SA} {H : Hp} {a : Addr} {r : List V} (h : Hd (pto a (.lst r) :: rowsA ls q :: L) H) : Hd (rowsA (ls ++ [a]) (q ++ [r]) :: L) H := by
  have no := rows_out h
  refine Hd.join (up_pto _ _) (up_rows _ _) h fun G z1 z2 => ⟨?_, by simp [z2.2.1], fun i b s e1 e2 => ?_⟩
  · exact nd_snoc z2.1 no
  · by_cases hi : i < ls.length
    · rw [List.getElem?_append_left hi] at e1
      rw [List.getElem?_append_left (by rw [← z2.2.1]; exact hi)] at e2
      exact z2.2.2 i b s e1 e2
    · have hi2 : i < (ls ++ [a]).length := (List.getElem?_eq_some_iff.mp e1).1
      have hi3 : i = ls.length := by
        rw [List.length_append, List.length_singleton] at hi2
        omega
      subst hi3
      rw [List.getElem?_append_right (Nat.le_refl _), Nat.sub_self] at e1
      rw [z2.2.1, List.getElem?_append_right (Nat.le_refl _), Nat.sub_self] at e2
      cases e1
      cases e2
      exact z1
theorem nd_set : ∀ {ls : List Addr} {a : Addr} {i : Nat}, ls.Nodup → a ∉ ls → (ls.set i a).Nodup
  | [], _, _, h, _ => h
  | b :: r, a, 0, h, n => by
    rw [List.set_cons_zero]
    exact List.nodup_cons.mpr ⟨fun m => n (List.mem_cons_of_mem _ m), (List.nodup_cons.mp h).2⟩
  | b :: r, a, i + 1, h, n => by
    rw [List.set_cons_succ]
    refine List.nodup_cons.mpr ⟨fun m => ?_, nd_set (List.nodup_cons.mp h).2 fun m => n (List.mem_cons_of_mem _ m)⟩
    rcases List.mem_or_eq_of_mem_set m with m | m
    · exact (List.nodup_cons.mp h).1 m
    · exact n (by rw [m]; exact List.mem_cons_self)
/-- a row is exchanged for a list of its own -/
theorem rows_repl {ls : List Addr} {q : List (List V)} {L : List SA} {H : Hp} {a : Addr} {r : List V} {i : Nat} (h : Hd (pto a (.lst r) :: rowsA ls q :: L) H) : Hd (rowsA (ls.set i a) (q.set i r) :: L) H := by
  have no := rows_out h
  refine Hd.join (up_pto _ _) (up_rows _ _) h fun G z1 z2 => ⟨?_, by simp [z2.2.1], fun j b s e1 e2 => ?_⟩
  · exact nd_set z2.1 no
  · by_cases e : j = i
    · subst e
      have hj : j < ls.length := by
        have := (List.getElem?_eq_some_iff.mp e1).1
        rw [List.length_set] at this
        exact this
      rw [List.getElem?_set_self hj] at e1
      rw [List.getElem?_set_self (by rw [← z2.2.1]; exact hj)] at e2
      cases e1
      cases e2
      exact z1
    · rw [List.getElem?_set_ne (Ne.symm e)] at e1 e2
      exact z2.2.2 j b s e1 e2
/-! ### a dict of numbers by numbers -/
def dI (d : List (Int × Int)) : List (Key × V) := d.map fun e => (.inl e.1, .int e.2)
def getI (d : List (Int × Int)) (n : Int) : Option Int := (d.find? fun e => decide (e.1 = n)).map (·.2)
def putI (d : List (Int × Int)) (n l : Int) : List (Int × Int) := if d.any fun e => decide (e.1 = n) then d.map fun e => if e.1 = n then (e.1, l) else e else d ++ [(n, l)]
def dropI (d : List (Int × Int)) (n : Int) : List (Int × Int) := d.filter fun e => decide (e.1 ≠ n)
theorem dec_inl (a b : Int) : decide ((Sum.inl a : Key) = Sum.inl b) = decide (a = b) := by
  by_cases e : a = b
  · subst e
    simp
  · have h : ¬ (Sum.inl a : Key) = Sum.inl b := fun q => e (Sum.inl.inj q)
    rw [decide_eq_false h, decide_eq_false e]
theorem valV_dI (d : List (Int × Int)) (n : Int) : valV (dI d) (.inl n) = (getI d n).map V.int := by
  induction d with
  | nil => rfl
  | cons e r ih =>
    by_cases h : e.1 = n
    · rw [show dI (e :: r) = (.inl e.1, .int e.2) :: dI r from rfl, valV_pos (by rw [h])]
      simp [getI, List.find?_cons, h]
    · rw [show dI (e :: r) = (.inl e.1, .int e.2) :: dI r from rfl, valV_neg (fun q => h (Sum.inl.inj q)), ih]
      simp [getI, List.find?_cons, h]
theorem any_dI (d : List (Int × Int)) (n : Int) : ((dI d).any fun kv => decide (kv.1 = (Sum.inl n : Key))) = d.any fun e => decide (e.1 = n) := by
  unfold dI
  rw [List.any_map]
  congr 1
  funext e
  exact dec_inl _ _
theorem putK_dI (d : List (Int × Int)) (n l : Int) : putK (dI d) (.inl n) (.int l) = dI (putI d n l) := by
  unfold putK putI
  rw [any_dI]
  by_cases h : (d.any fun e => decide (e.1 = n)) = true
  · rw [if_pos h, if_pos h]
    unfold dI
    rw [List.map_map, List.map_map]
    congr 1
    funext e
    show (if (Sum.inl e.1 : Key) = Sum.inl n then _ else _) = _
    by_cases q : e.1 = n
    · rw [if_pos (by rw [q])]
      show _ = (Sum.inl (if e.1 = n then (e.1, l) else e).1, V.int (if e.1 = n then (e.1, l) else e).2)
      rw [if_pos q]
    · rw [if_neg (fun z => q (Sum.inl.inj z))]
      show _ = (Sum.inl (if e.1 = n then (e.1, l) else e).1, V.int (if e.1 = n then (e.1, l) else e).2)
      rw [if_neg q]
  · rw [if_neg h, if_neg h]
    unfold dI
    rw [List.map_append]
    rfl
theorem dropK_dI (d : List (Int × Int)) (n : Int) : dropK (dI d) (.inl n) = dI (dropI d n) := by
  unfold dropK dropI dI
  rw [List.filter_map]
  congr 1
  congr 1
  funext e
  by_cases q : e.1 = n
  · simp [q]
  · simp [q]
theorem getI_put (d : List (Int × Int)) (n m l : Int) : getI (putI d n l) m = if m = n then some l else getI d m := by
  have h := valV_put (dI d) (.inl n) (.inl m) (.int l)
  rw [putK_dI, valV_dI, valV_dI] at h
  by_cases e : m = n
  · subst e
    rw [if_pos rfl] at h ⊢
    cases q : getI (putI d m l) m with
    | none =>
      rw [q] at h
      cases h
    | some x =>
      rw [q] at h
      injection h with h
      injection h with h
      rw [h]
  · rw [if_neg (fun z => e (Sum.inl.inj z))] at h
    rw [if_neg e]
    cases q : getI (putI d n l) m <;> cases q2 : getI d m <;> rw [q, q2] at h <;> first | rfl | (cases h; done) | (injection h with h; injection h with h; rw [h])
theorem len_dI (d : List (Int × Int)) : (dI d).length = d.length := by
  unfold dI
  rw [List.length_map]
theorem len_putI (d : List (Int × Int)) (n l : Int) : (putI d n l).length ≤ d.length + 1 := by
  unfold putI
  split
  · rw [List.length_map]
    omega
  · simp
theorem len_dropI (d : List (Int × Int)) (n : Int) : (dropI d n).length ≤ d.length := List.length_filter_le _ _
theorem getI_drop (d : List (Int × Int)) (n m : Int) : getI (dropI d n) m = if m = n then none else getI d m := by
  induction d with
  | nil =>
    split <;> rfl
  | cons e r ih =>
    unfold dropI at ih ⊢
    by_cases h : e.1 = n
    · rw [List.filter_cons, if_neg (by simp [h]), ih]
      by_cases q : m = n
      · rw [if_pos q, if_pos q]
      · rw [if_neg q, if_neg q]
        simp only [getI, List.find?_cons]
        rw [decide_eq_false (fun z => q (z.symm.trans h))]
    · rw [List.filter_cons, if_pos (by simp [h])]
      by_cases q : e.1 = m
      · subst q
        rw [if_neg h]
        simp [getI, List.find?_cons]
      · have a1 : getI (e :: List.filter (fun e => decide (e.1 ≠ n)) r) m = getI (List.filter (fun e => decide (e.1 ≠ n)) r) m := by
          simp only [getI, List.find?_cons]
          rw [decide_eq_false q]
        have a2 : getI (e :: r) m = getI r m := by
          simp only [getI, List.find?_cons]
          rw [decide_eq_false q]
        rw [a1, a2, ih]
/-! ### more rules: objects within atoms -/
section
variable {K : PySem.W.Frag} {H : Hp} {Q : VK} {a c : Addr} {xs ys : List V} {y v : V} {i n : Int} {k : Nat} {N : Hp → Prop}
theorem r_appendX (h : H a = some (.lst xs)) (hl : xs.length < sizeLine) (q : Q .non (upd H a (.lst (xs ++ [y])))) : rAppend (.ref a) [y] H Q := ⟨a, xs, y, rfl, rfl, h, hl, q⟩
theorem r_extendX (h : H a = some (.lst xs)) (h2 : H c = some (.lst ys)) (hl : xs.length + ys.length ≤ sizeLine) (q : Q .non (upd H a (.lst (xs ++ ys)))) : rExtend (.ref a) [.ref c] H Q := ⟨a, c, xs, ys, rfl, rfl, h, h2, hl, q⟩
theorem r_setLX (h : H a = some (.lst xs)) (hk : k < xs.length) (q : N (upd H a (.lst (xs.set k v)))) : rSetU (.ref a) (.int (k : Int)) v H N := by
  refine .inl ⟨a, xs, (k : Int), k, rfl, rfl, h, ?_, q⟩
  unfold ixN
  rw [if_pos (Int.natCast_nonneg k), if_pos (by omega), Int.toNat_natCast]
theorem erase_at : ∀ {ns : List Int} {k : Int} {j : Nat}, ns[j]? = some k → (∀ m : Nat, m < j → ns[m]? ≠ some k) → ns.eraseIdx j = ns.erase k
  | [], _, _, h, _ => by simp at h
  | a :: r, k, 0, h, _ => by
    have e : a = k := Option.some.inj h
    subst e
    simp
  | a :: r, k, j + 1, h, hm => by
    have na : a ≠ k := fun e => hm 0 (Nat.succ_pos _) (by rw [e]; rfl)
    rw [List.eraseIdx_cons_succ, List.erase_cons_tail (by simpa using na), erase_at (ns := r) (k := k) (j := j) h fun m hl => hm (m + 1) (Nat.succ_lt_succ hl)]
theorem first_at : ∀ {ns : List Int} {k : Int}, k ∈ ns → ∃ j : Nat, ns[j]? = some k ∧ ∀ m : Nat, m < j → ns[m]? ≠ some k
  | a :: r, k, h => by
    by_cases e : a = k
    · exact ⟨0, by rw [e]; rfl, fun m hm => by omega⟩
    · obtain ⟨j, h1, h2⟩ := first_at (ns := r) ((List.mem_cons.mp h).resolve_left fun z => e z.symm)
      refine ⟨j + 1, h1, fun m hm => ?_⟩
      cases m with
      | zero => exact fun z => e (Option.some.inj z)
      | succ m => exact h2 m (by omega)
theorem r_removeX {ns : List Int} (h : H a = some (.lst (ns.map V.int))) (hm : n ∈ ns) (q : Q .non (upd H a (.lst ((ns.erase n).map V.int)))) : rRemI (.ref a) [.int n] H Q := by
  obtain ⟨j, h1, h2⟩ := first_at hm
  refine ⟨a, ns, n, j, rfl, rfl, h, h1, h2, ?_⟩
  rw [erase_at h1 h2]
  exact q
theorem r_popDX {kvs : List (Key × V)} (h : H a = some (.dK kvs)) (hv : valV kvs (.inl n) = some v) (q : Q v (upd H a (.dK (dropK kvs (.inl n))))) : ∃ kvs k v, H a = some (.dK kvs) ∧ V.int n = kV k ∧ valV kvs k = some v ∧ Q v (upd H a (.dK (dropK kvs k))) := ⟨kvs, .inl n, v, h, rfl, hv, q⟩
/-- a list of numbers against the empty one -/
theorem eqv_nil (ns : List Int) : PyData.eqv (.list (ns.map PyData.int)) (.list []) = ns.isEmpty := by
  cases ns with
  | nil => rfl
  | cons a r =>
    rw [PyData.eqv, List.map_cons]
    rfl
theorem r_neNil {ns : List Int} (h : SqL K H a (ns.map V.int)) (h2 : SqL K H c []) (q : Q (.bl (!ns.isEmpty)) H) : rNeU K (.ref a) (.ref c) H Q :=
  r_neD (.lst h (dp_ints ns)) (.lst h2 .nil) (sh_listI ns) (by decide) (by rw [eqv_nil]; exact q)
theorem r_eqNil {ns : List Int} (h : SqL K H a (ns.map V.int)) (h2 : SqL K H c []) (q : Q (.bl ns.isEmpty) H) : rEqU K (.ref a) (.ref c) H Q :=
  r_eqD (.lst h (dp_ints ns)) (.lst h2 .nil) (sh_listI ns) (by decide) (by rw [eqv_nil]; exact q)
end
/-! #### o.f += e -/
def AugF (a C : Addr) (f : Str) (N : Hp → Prop) (z : V) (H : Hp) : Prop := ∃ dx' fs', H a = some (.ins C dx' fs') ∧ fs'.length < 1000 ∧ N (upd H a (.ins C dx' (putF f z fs')))
def AugK (K : PySem.W.Frag) (tv : TE) (rd : V → V → Hp → VK → Prop) (f : Str) (σ : L2.St) (N : Hp → Prop) (x : V) (H : Hp) : Prop := ∃ a C dx fs v, x = .ref a ∧ H a = some (.ins C dx fs) ∧ Cls K C ∧ NoAttr K C f ∧ fs.lookup f = some v ∧
  tv σ H fun y H2 => rd v y H2 (AugF a C f N)
def KeysK (R : It → Hp → Prop) (x : V) (H : Hp) : Prop := ∃ d o, x = .ref d ∧ ((∃ kvs, H d = some (.frz o (.dK kvs)) ∧ R (Itk d o kvs) H) ∨ ∃ kvs, H d = some (.frz o (.dT kvs)) ∧ R (Itkt d o kvs) H)
def DPopK (a : Addr) (Q : VK) (y : V) (H : Hp) : Prop := ∃ kvs k v, H a = some (.dK kvs) ∧ y = kV k ∧ valV kvs k = some v ∧ Q v (upd H a (.dK (dropK kvs k)))
def UnlK (d : Addr) (o : Obj) (u : HO) (Q : VK) (v : V) (H : Hp) : Prop := H d = some (.frz o u) ∧ Q v (upd H d u)
section
variable {K : PySem.W.Frag} {σ : L2.St} {H : Hp} {D : Ends} {te ta tb tv : TE} {g : TG} {tt : TT} {Q : VK} {R : It → Hp → Prop} {v x y z : V} {i j n : Int} {L L' : List SA} {a d C dx : Addr} {o : Obj} {kvs : List (Key × V)} {vs : List Nat} {N : Hp → Prop}
theorem r_fldaug {rd : V → V → Hp → VK → Prop} {f : Str} (q : ta σ H (AugK K tv rd f σ (D.nx σ))) : sFldAug K ta tv rd f D σ H := q
theorem r_augK {rd : V → V → Hp → VK → Prop} {f : Str} {fs : List (Str × V)} (h : H a = some (.ins C dx fs)) (c : Cls K C) (nf : NoAttr K C f) (l : fs.lookup f = some v) (q : tv σ H fun y H2 => rd v y H2 (AugF a C f N)) : AugK K tv rd f σ N (.ref a) H := ⟨a, C, dx, fs, v, rfl, h, c, nf, l, q⟩
theorem r_augF {f : Str} {fs fs' : List (Str × V)} (hs : Hd L H) (p : Put (pto a (.ins C dx fs)) (pto a (.ins C dx fs')) L L') (e : putF f z fs = fs') (hl : fs.length < 1000) (q : ∀ H', Hd L' H' → N H') : AugF a C f N z H := by
  obtain ⟨M, pa, _⟩ := p.pulls
  subst e
  exact ⟨dx, fs, hs.get pa, hl, q _ (hs.set p (fun z => z))⟩
theorem r_aAdd (q : Q (.int (i + j)) H) : rAdd (.int i) (.int j) H Q := ⟨i, j, rfl, rfl, q⟩
theorem r_aSub (q : Q (.int (i - j)) H) : rSub (.int i) (.int j) H Q := ⟨i, j, rfl, rfl, q⟩
theorem r_keys (q : te σ H (KeysK R)) : iKeys te σ H R := q
theorem r_keysK (h : H d = some (.frz o (.dK kvs))) (q : R (Itk d o kvs) H) : KeysK R (.ref d) H := ⟨d, o, rfl, .inl ⟨kvs, h, q⟩⟩
theorem r_dpop1 (q : ta σ H (IsDK fun a H1 => tb σ H1 (DPopK a Q))) : tDPop1 ta tb σ H Q := q
theorem r_dpopK (hs : Hd L H) (p : Put (pto a (.dK kvs)) (pto a (.dK (dropK kvs (.inl n)))) L L') (hv : valV kvs (.inl n) = some v) (q : ∀ H', Hd L' H' → Q v H') : DPopK a Q (.int n) H := by
  obtain ⟨M, pa, _⟩ := p.pulls
  exact ⟨kvs, .inl n, v, hs.get pa, rfl, hv, q _ (hs.set p (fun z => z))⟩
theorem r_lock (hs : Hd (pto d (.dK kvs) :: L) H) (q : ∀ od H', Hd (pto d (.frz od (.dK kvs)) :: L) H' → te σ H' (UnlK d od (.dK kvs) Q)) : tLockE te σ H Q :=
  ⟨d, .dK kvs, hs.get .here, trivial, fun od => q od _ (hs.set .here fun z => z)⟩
theorem r_unl {u : HO} (hs : Hd L H) (p : Put (pto d (.frz o u)) (pto d u) L L') (q : ∀ H', Hd L' H' → Q v H') : UnlK d o u Q v H := by
  obtain ⟨M, pa, _⟩ := p.pulls
  exact ⟨hs.get pa, q _ (hs.set p fun z => z)⟩
theorem r_lcK (P : Addr → Nat → Hp → Prop) (hh : Hd L H) (h0 : ∀ D H', Hd (pto D (.lst []) :: L) H' → P D 0 H') (hl : ∀ D i H, i ≤ kvs.length → P D i H → H d = some (.frz o (.dK kvs)))
    (hs : ∀ D i k v H, kvs[i]? = some (k, v) → P D i H → g (kV k) (wipe σ vs) H fun σ2 H2 => wipe σ2 vs = wipe σ vs ∧ tt σ2 H2 fun b H3 => if b = true then te σ2 H3 (AppK D (P D (i + 1))) else P D (i + 1) H3)
    (hd : ∀ D H, P D kvs.length H → Q (.ref D) H) : LcK g tt te vs σ Q (Itk d o kvs) H :=
  r_lcW walk_keys P hh h0 hl (fun D i x H H' hi p y => by
    obtain ⟨e, k, v, y, ex⟩ := y
    subst e ex
    exact hs D i k v _ y p) hd
end
/-- dict(xs) of pairs -/
def rDictP (K : PySem.W.Frag) : List V → Hp → VK → Prop := fun xs H Q => ∃ (a : Addr) (ps : List Addr) (kvs : List (Key × V)), xs = [.ref a] ∧ SqL K H a (ps.map V.ref) ∧ Paired (fun p kv => SqT K H p [kV kv.1, kv.2]) ps kvs ∧
    ∀ p, H p = none → Q (.ref p) (upd H p (.dK (mergeK [] kvs)))
theorem k_dictP {X : Cx} {K : PySem.W.Frag} (h : X.K = K) (hc : X.calm = true) : CallR X (.type "dict") (rDictP K) := h ▸ call_dictP hc
/-- many pairs: a key and what stands for it, tuples at ps -/
def pairsA (ps : List Addr) (kvs : List (Key × V)) : SA := fun H => Paired (fun p kv => H p = some (.tup [kV kv.1, kv.2])) ps kvs
theorem pr_mono {α β : Type} {R S : α → β → Prop} (f : ∀ a b, R a b → S a b) {xs : List α} {ys : List β} (h : Paired R xs ys) : Paired S xs ys := by
  induction h with
  | nil => exact .nil
  | cons a _ ih => exact .cons (f _ _ a) ih
theorem pr_snoc {α β : Type} {R : α → β → Prop} {a : α} {b : β} {xs : List α} {ys : List β} (h : Paired R xs ys) (r : R a b) : Paired R (xs ++ [a]) (ys ++ [b]) := by
  induction h with
  | nil => exact .cons r .nil
  | cons a _ ih => exact .cons a ih
theorem up_pairs (ps : List Addr) (kvs : List (Key × V)) : Up (pairsA ps kvs) := fun _ _ s h => pr_mono (fun _ _ z => s _ _ z) h
theorem pairs_nil {L : List SA} {H : Hp} (h : Hd L H) : Hd (pairsA [] [] :: L) H := ⟨fun _ => none, H, fun _ _ _ h => (nomatch h), fun _ _ h => (nomatch h), Sub.refl _, .nil, h⟩
theorem pairs_snoc {L : List SA} {H : Hp} {t : Addr} {k : Key} {v : V} {ps : List Addr} {kvs : List (Key × V)} (h : Hd (pto t (.tup [kV k, v]) :: pairsA ps kvs :: L) H) : Hd (pairsA (ps ++ [t]) (kvs ++ [(k, v)]) :: L) H :=
  Hd.join (up_pto _ _) (up_pairs _ _) h fun _ z1 z2 => pr_snoc z2 z1
theorem r_dictP {K : PySem.W.Frag} {H : Hp} {Q : VK} {a : Addr} {ps : List Addr} {kvs : List (Key × V)} {L L' : List SA} (hs : Hd L H) (h : SqL K H a (ps.map V.ref)) (p : Pull (pairsA ps kvs) L L') (q : ∀ p H', Hd (pto p (.dK (mergeK [] kvs)) :: L) H' → Q (.ref p) H') : rDictP K [.ref a] H Q :=
  ⟨a, ps, kvs, rfl, h, pr_mono (fun _ _ z => SqT.of z) (hs.at (up_pairs ps kvs) p), fun p n => q p _ (hs.new n)⟩
end Sl

set_option maxRecDepth 100000
set_option maxHeartbeats 1000000
namespace Sl
open PySem L2
/-! ### turns -/
def mI (a b : List (Int × Int)) : List (Int × Int) := b.foldl (fun acc e => putI acc e.1 e.2) a
theorem mergeK_dI : ∀ (b a : List (Int × Int)), mergeK (dI a) (dI b) = dI (mI a b)
  | [], _ => rfl
  | e :: r, a => by
    show mergeK (putK (dI a) (.inl e.1) (.int e.2)) (dI r) = dI (mI (putI a e.1 e.2) r)
    rw [putK_dI]
    exact mergeK_dI r _
def zI (d : List (Int × Int)) : List (Int × Int) := mI [] (d.map fun e => (e.1, 0))
theorem len_mI : ∀ (b a : List (Int × Int)), (mI a b).length ≤ a.length + b.length
  | [], a => by simp [mI]
  | e :: r, a => by
    have h := len_mI r (putI a e.1 e.2)
    have h2 := len_putI a e.1 e.2
    show (mI (putI a e.1 e.2) r).length ≤ _
    rw [List.length_cons]
    omega
theorem len_zI (d : List (Int × Int)) : (zI d).length ≤ d.length := by
  have h := len_mI (d.map fun e => (e.1, (0 : Int))) []
  rw [List.length_map] at h
  simpa [zI] using h
theorem getI_cons (e : Int × Int) (r : List (Int × Int)) (m : Int) : getI (e :: r) m = if e.1 = m then some e.2 else getI r m := by
  by_cases h : e.1 = m
  · rw [if_pos h]
    simp [getI, h]
  · rw [if_neg h]
    simp [getI, h]
theorem getI_mz : ∀ (d a : List (Int × Int)) (m : Int), getI (mI a (d.map fun e => (e.1, 0))) m = if (getI d m).isSome then some 0 else getI a m
  | [], _, _ => rfl
  | e :: r, a, m => by
    show getI (mI (putI a e.1 0) (r.map fun e => (e.1, 0))) m = _
    rw [getI_mz r, getI_put, getI_cons]
    by_cases h : e.1 = m
    · rw [if_pos h, if_pos h.symm]
      simp
    · rw [if_neg h, if_neg (show ¬ m = e.1 from fun z => h z.symm)]
theorem getI_z (d : List (Int × Int)) (m : Int) : getI (zI d) m = (getI d m).map fun _ => 0 := by
  unfold zI
  rw [getI_mz]
  cases getI d m <;> rfl
structure TU where
  q : List (List Int)
  dep : List (Int × Int)
  runs : Option Int
  rest : Int
  steps : Int
def runV : Option Int → V
  | none => .non
  | some n => .int n
def sliceOf (l : Nat) : Int := [2, 4, 8, 16].getD l 0
namespace TU
def new : TU := ⟨[[], [], [], []], [], none, 0, 0⟩
def row (u : TU) (l : Nat) : List Int := u.q.getD l []
def stand (u : TU) (n : Int) (l : Nat) : TU := { u with q := u.q.set l (u.row l ++ [n]), dep := putI u.dep n l }
def over (u : TU) (n : Int) (l : Nat) : TU := { u with q := u.q.set l ((u.row l).erase n), runs := none, rest := 0 }
def lev (u : TU) (n : Int) : Nat := ((getI u.dep n).getD 0).toNat
def next (u : TU) : TU := match u.runs with
  | some _ => u
  | none => match u.q.flatten.head? with
    | none => { u with rest := 0 }
    | some n => { u with runs := some n, rest := sliceOf (u.lev n) }
def lift (u : TU) : TU := ⟨[u.q.flatten, [], [], []], zI u.dep, none, 0, u.steps + 1⟩
def counted (u : TU) : TU := if (u.steps + 1) % 64 > 0 then { u with steps := u.steps + 1 } else u.lift
def wentN (u : TU) (n : Int) : TU := if u.rest - 1 = 0 then ((u.over n (u.lev n)).stand n (min 3 (u.lev n + 1))) else { u with rest := u.rest - 1 }
def passN (u : TU) (n : Int) : TU := (u.over n (u.lev n)).stand n (u.lev n)
def waitN (u : TU) (n : Int) : TU := u.over n (u.lev n)
def endN (u : TU) (n : Int) : TU := { u.over n (u.lev n) with dep := dropI u.dep n }
/-- all is as it should be -/
structure Ok (u : TU) : Prop where
  four : u.q.length = 4
  at_ : ∀ (l : Nat) (r : List Int) (n : Int), u.q[l]? = some r → n ∈ r → getI u.dep n = some (l : Int)
  lv : ∀ n l, getI u.dep n = some l → 0 ≤ l ∧ l < 4
  run : ∀ n, u.runs = some n → n ∈ u.q.flatten ∧ 1 ≤ u.rest
  nd : u.q.flatten.Nodup
end TU
/-! #### rows and their sum -/
theorem fl_snoc : ∀ {q : List (List Int)} {l : Nat} {r : List Int} {n : Int}, q[l]? = some r → (q.set l (r ++ [n])).flatten.Perm (n :: q.flatten)
  | [], _, _, _, h => by simp at h
  | a :: q, 0, r, n, h => by
    have e : a = r := Option.some.inj h
    subst e
    rw [List.set_cons_zero, List.flatten_cons, List.flatten_cons, List.append_assoc]
    exact List.perm_middle
  | a :: q, l + 1, r, n, h => by
    rw [List.set_cons_succ, List.flatten_cons, List.flatten_cons]
    exact (List.Perm.append_left a (fl_snoc (q := q) (l := l) h)).trans List.perm_middle
theorem fl_erase : ∀ {q : List (List Int)} {l : Nat} {r : List Int} {n : Int}, q[l]? = some r → n ∈ r → (n :: (q.set l (r.erase n)).flatten).Perm q.flatten
  | [], _, _, _, h, _ => by simp at h
  | a :: q, 0, r, n, h, m => by
    have e : a = r := Option.some.inj h
    subst e
    rw [List.set_cons_zero, List.flatten_cons, List.flatten_cons]
    exact (List.Perm.append_right _ (List.perm_cons_erase m).symm : ((n :: a.erase n) ++ _).Perm _)
  | a :: q, l + 1, r, n, h, m => by
    rw [List.set_cons_succ, List.flatten_cons, List.flatten_cons]
    exact (List.perm_middle.symm).trans (List.Perm.append_left a (fl_erase (q := q) (l := l) h m))
theorem row_at {u : TU} {l : Nat} {r : List Int} (h : u.q[l]? = some r) : u.row l = r := by
  unfold TU.row
  rw [List.getD_eq_getElem?_getD, h]
  rfl
theorem mem_fl {q : List (List Int)} {l : Nat} {r : List Int} {n : Int} (h : q[l]? = some r) (m : n ∈ r) : n ∈ q.flatten := List.mem_flatten.mpr ⟨r, List.mem_of_getElem? h, m⟩
theorem of_fl {q : List (List Int)} {n : Int} (m : n ∈ q.flatten) : ∃ (l : Nat) (r : List Int), q[l]? = some r ∧ n ∈ r := by
  obtain ⟨r, hr, hn⟩ := List.mem_flatten.mp m
  obtain ⟨l, hl⟩ := List.mem_iff_getElem?.mp hr
  exact ⟨l, r, hl, hn⟩
theorem len_row : ∀ {q : List (List Int)} {l : Nat} {r : List Int}, q[l]? = some r → r.length ≤ q.flatten.length
  | [], _, _, h => by simp at h
  | a :: q, 0, r, h => by
    have e : a = r := Option.some.inj h
    subst e
    rw [List.flatten_cons, List.length_append]
    omega
  | a :: q, l + 1, r, h => by
    have := len_row (q := q) (l := l) h
    rw [List.flatten_cons, List.length_append]
    omega
def rowsV (q : List (List Int)) : List (List V) := q.map fun r => r.map V.int
theorem rows_in {ls : List Addr} {q : List (List Int)} {L L' : List SA} {H : Hp} (h : Hd L H) (p : Pull (rowsA ls (rowsV q)) L L') {l : Nat} {r : List Int} (e : q[l]? = some r) : ∃ a, ls[l]? = some a ∧ H a = some (.lst (r.map V.int)) := by
  have hl : l < (rowsV q).length := by
    rw [rowsV, List.length_map]
    exact (List.getElem?_eq_some_iff.mp e).1
  obtain ⟨a, h1, h2⟩ := rows_at h p (i := l) hl
  refine ⟨a, h1, ?_⟩
  rw [h2]
  congr 2
  obtain ⟨hq, e⟩ := List.getElem?_eq_some_iff.mp e
  simp [rowsV, e]
theorem rows_put {ls : List Addr} {q : List (List Int)} {L : List SA} {H : Hp} (h : Hd (rowsA ls (rowsV q) :: L) H) {l : Nat} {a : Addr} (e : ls[l]? = some a) (r : List Int) : Hd (rowsA ls (rowsV (q.set l r)) :: L) (upd H a (.lst (r.map V.int))) := by
  have z := rows_set h e (r.map V.int)
  have e2 : (rowsV q).set l (r.map V.int) = rowsV (q.set l r) := by simp [rowsV, List.map_set]
  rw [e2] at z
  exact z
theorem rows_count {ls : List Addr} {q : List (List Int)} {L L' : List SA} {H : Hp} (h : Hd L H) (p : Pull (rowsA ls (rowsV q)) L L') : ls.length = q.length := by
  rw [rows_len h p, rowsV, List.length_map]
theorem atI_ref {ls : List Addr} {l : Nat} {a : Addr} (e : ls[l]? = some a) : atI (ls.map V.ref) (l : Int) = some (.ref a) := atI_nat (by simp [e])
theorem rows_cons {ls : List Addr} {q : List (List V)} {L : List SA} {H : Hp} {a : Addr} {r : List V} (h : Hd (pto a (.lst r) :: rowsA ls q :: L) H) : Hd (rowsA (a :: ls) (r :: q) :: L) H := by
  have no := rows_out h
  refine Hd.join (up_pto _ _) (up_rows _ _) h fun G z1 z2 => ⟨List.nodup_cons.mpr ⟨no, z2.1⟩, by simp [z2.2.1], fun i b s e1 e2 => ?_⟩
  cases i with
  | zero =>
    cases e1
    cases e2
    exact z1
  | succ i => exact z2.2.2 i b s e1 e2
theorem head_fl : ∀ {q : List (List Int)} {i : Nat} {h : Int} {t : List Int}, (∀ j : Nat, j < i → q[j]? = some []) → q[i]? = some (h :: t) → q.flatten.head? = some h
  | [], _, _, _, _, e => by simp at e
  | a :: q, 0, h, t, _, e => by
    have e := Option.some.inj e
    rw [e]
    rfl
  | a :: q, i + 1, h, t, z, e => by
    have e0 : a = [] := Option.some.inj (z 0 (Nat.succ_pos _))
    rw [e0]
    exact head_fl (q := q) (i := i) (fun j hj => z (j + 1) (by omega)) e
theorem none_fl : ∀ {q : List (List Int)}, (∀ j : Nat, j < q.length → q[j]? = some []) → q.flatten = []
  | [], _ => rfl
  | a :: q, z => by
    have e0 : a = [] := Option.some.inj (z 0 (Nat.succ_pos _))
    rw [e0]
    exact none_fl (q := q) fun j hj => z (j + 1) (by rw [List.length_cons]; omega)
theorem take_fl {q : List (List Int)} {i : Nat} {r : List Int} (e : q[i]? = some r) : (q.take i).flatten ++ r = (q.take (i + 1)).flatten := by
  rw [List.take_add_one, e, List.flatten_append]
  simp
theorem len_take_fl (q : List (List Int)) (i : Nat) : (q.take i).flatten.length ≤ q.flatten.length := by
  have : q.flatten = (q.take i).flatten ++ (q.drop i).flatten := by rw [← List.flatten_append, List.take_append_drop]
  rw [this, List.length_append]
  omega
theorem sl_at {l : Nat} (h : l < 4) : atI [V.int 2, V.int 4, V.int 8, V.int 16] (l : Int) = some (V.int (sliceOf l)) := by
  have e : l = 0 ∨ l = 1 ∨ l = 2 ∨ l = 3 := by omega
  rcases e with rfl | rfl | rfl | rfl <;> rfl
theorem lev_at {u : TU} {n : Int} {l : Nat} (h : getI u.dep n = some (l : Int)) : u.lev n = l := by
  unfold TU.lev
  rw [h]
  rfl
theorem len_over {u : TU} {n : Int} {l : Nat} {r : List Int} (h : u.q[l]? = some r) (m : n ∈ r) : (u.over n l).q.flatten.length + 1 = u.q.flatten.length := by
  have := (fl_erase h m).length_eq
  rw [List.length_cons] at this
  unfold TU.over
  rw [row_at h]
  exact this
theorem len_stand {u : TU} {n : Int} {l : Nat} (h : l < u.q.length) : (u.stand n l).q.flatten.length = u.q.flatten.length + 1 := by
  have hr : u.q[l]? = some u.q[l] := by simp [h]
  have := (fl_snoc (n := n) hr).length_eq
  rw [List.length_cons] at this
  unfold TU.stand
  rw [row_at hr]
  exact this
theorem four_over {u : TU} {n : Int} {l : Nat} : (u.over n l).q.length = u.q.length := List.length_set
theorem four_stand {u : TU} {n : Int} {l : Nat} : (u.stand n l).q.length = u.q.length := List.length_set
end Sl

set_option maxRecDepth 100000
set_option maxHeartbeats 1000000
namespace Sl
open PySem L2
/-! ### turns: the plain law -/
theorem getI_old {d : List (Int × Int)} {n l0 l : Int} (h : getI d n = some l0) : (putI d n l).length = d.length := by
  have e : (d.any fun e => decide (e.1 = n)) = true := by
    rw [List.any_eq_true]
    unfold getI at h
    obtain ⟨e, he, _⟩ := Option.map_eq_some_iff.mp h
    exact ⟨e, List.mem_of_find?_eq_some he, by simpa using List.find?_some he⟩
  unfold putI
  rw [if_pos e, List.length_map]
theorem TU.Ok.rest {u : TU} (o : u.Ok) (r : Int) (h : u.runs = none ∨ 1 ≤ r) : ({ u with rest := r } : TU).Ok :=
  ⟨o.four, o.at_, o.lv, fun n e => ⟨(o.run n e).1, h.elim (fun z => by have e : u.runs = some n := e; rw [z] at e; cases e) id⟩, o.nd⟩
theorem sl_pos {l : Nat} (h : l < 4) : 2 ≤ sliceOf l := by
  have e : l = 0 ∨ l = 1 ∨ l = 2 ∨ l = 3 := by omega
  rcases e with rfl | rfl | rfl | rfl <;> decide
theorem TU.Ok.next {u : TU} (o : u.Ok) : u.next.Ok := by
  unfold TU.next
  cases hr : u.runs with
  | some n => exact o
  | none =>
    cases hh : u.q.flatten.head? with
    | none =>
      have z := o.rest 0 (.inl hr)
      dsimp only at z ⊢
      rw [hr] at z
      exact z
    | some n =>
      have hm := List.mem_of_mem_head? hh
      obtain ⟨l, r, e, m⟩ := of_fl hm
      have hg := o.at_ l r n e m
      have hl := o.lv n _ hg
      have hs := sl_pos (l := l) (by omega)
      refine ⟨o.four, o.at_, o.lv, fun k e => ?_, o.nd⟩
      cases e
      refine ⟨hm, ?_⟩
      show 1 ≤ sliceOf (u.lev n)
      rw [lev_at hg]
      omega
theorem TU.Ok.over {u : TU} {n : Int} {l : Nat} {r : List Int} (o : u.Ok) (h : u.q[l]? = some r) (m : n ∈ r) : (u.over n l).Ok := by
  have p := fl_erase h m
  have e : u.over n l = { u with q := u.q.set l (r.erase n), runs := none, rest := 0 } := by
    unfold TU.over
    rw [row_at h]
  rw [e]
  refine ⟨by rw [List.length_set]; exact o.four, fun j s x e1 e2 => ?_, o.lv, fun _ e => (nomatch e), ?_⟩
  · by_cases z : j = l
    · subst z
      rw [List.getElem?_set_self (List.getElem?_eq_some_iff.mp h).1] at e1
      cases e1
      exact o.at_ j r x h (List.mem_of_mem_erase e2)
    · rw [List.getElem?_set_ne (Ne.symm z)] at e1
      exact o.at_ j s x e1 e2
  · exact (List.nodup_cons.mp ((List.Perm.nodup_iff p).mpr o.nd)).2
theorem out_over {u : TU} {n : Int} {l : Nat} {r : List Int} (o : u.Ok) (h : u.q[l]? = some r) (m : n ∈ r) : n ∉ (u.over n l).q.flatten := by
  have p := fl_erase h m
  unfold TU.over
  rw [row_at h]
  exact (List.nodup_cons.mp ((List.Perm.nodup_iff p).mpr o.nd)).1
theorem pm_over {u : TU} {n : Int} {l : Nat} {r : List Int} (h : u.q[l]? = some r) (m : n ∈ r) : (n :: (u.over n l).q.flatten).Perm u.q.flatten := by
  have p := fl_erase h m
  unfold TU.over
  rw [row_at h]
  exact p
theorem pm_stand {u : TU} {n : Int} {l : Nat} (h : l < u.q.length) : (u.stand n l).q.flatten.Perm (n :: u.q.flatten) := by
  have hr : u.q[l]? = some u.q[l] := by simp [h]
  unfold TU.stand
  rw [row_at hr]
  exact fl_snoc hr
theorem TU.Ok.stand {u : TU} {n : Int} {l : Nat} (o : u.Ok) (hl : l < 4) (no : n ∉ u.q.flatten) : (u.stand n l).Ok := by
  have hq : l < u.q.length := by rw [o.four]; exact hl
  have hr : u.q[l]? = some u.q[l] := by simp [hq]
  have p := pm_stand (u := u) (n := n) hq
  refine ⟨by rw [four_stand]; exact o.four, fun j s x e1 e2 => ?_, fun x k e => ?_, fun x e => ?_, (List.Perm.nodup_iff p).mpr (List.nodup_cons.mpr ⟨no, o.nd⟩)⟩
  · unfold TU.stand at e1 ⊢
    rw [row_at hr] at e1
    show getI (putI u.dep n l) x = _
    rw [getI_put]
    have old : ∀ (j : Nat) s, u.q[j]? = some s → x ∈ s → (if x = n then some (l : Int) else getI u.dep x) = some (j : Int) := fun j s e1 e2 => by
      have nx : x ≠ n := fun z => no (z ▸ mem_fl e1 e2)
      rw [if_neg nx]
      exact o.at_ j s x e1 e2
    by_cases z : j = l
    · subst z
      rw [List.getElem?_set_self hq] at e1
      cases e1
      rcases List.mem_append.mp e2 with e2 | e2
      · exact old j _ hr e2
      · rw [if_pos (List.mem_singleton.mp e2)]
    · rw [List.getElem?_set_ne (Ne.symm z)] at e1
      exact old j s e1 e2
  · have e : getI (putI u.dep n l) x = some k := e
    rw [getI_put] at e
    split at e
    · cases e
      omega
    · exact o.lv x k e
  · have z := o.run x e
    exact ⟨p.symm.subset (List.mem_cons_of_mem _ z.1), z.2⟩
theorem TU.Ok.drop {u : TU} {n : Int} (o : u.Ok) (no : n ∉ u.q.flatten) : ({ u with dep := dropI u.dep n } : TU).Ok := by
  refine ⟨o.four, fun j s x e1 e2 => ?_, fun x k e => ?_, o.run, o.nd⟩
  · show getI (dropI u.dep n) x = _
    rw [getI_drop, if_neg (fun z => by subst z; exact no (mem_fl e1 e2))]
    exact o.at_ j s x e1 e2
  · have e : getI (dropI u.dep n) x = some k := e
    rw [getI_drop] at e
    split at e
    · cases e
    · exact o.lv x k e
theorem fl_lift (f : List Int) : [f, [], [], []].flatten = f := by simp
theorem fl_counted (u : TU) : u.counted.q.flatten = u.q.flatten := by
  unfold TU.counted
  split
  · rfl
  · exact fl_lift _
theorem TU.Ok.counted {u : TU} (o : u.Ok) : u.counted.Ok := by
  unfold TU.counted
  split
  · exact ⟨o.four, o.at_, o.lv, o.run, o.nd⟩
  · refine ⟨rfl, fun j s x e1 e2 => ?_, fun x k e => ?_, fun _ e => (nomatch e), by show [u.q.flatten, [], [], []].flatten.Nodup; rw [fl_lift]; exact o.nd⟩
    · have e1 : [u.q.flatten, [], [], []][j]? = some s := e1
      show getI (zI u.dep) x = _
      have hj : j < 4 := (List.getElem?_eq_some_iff.mp e1).1
      have ej : j = 0 ∨ j = 1 ∨ j = 2 ∨ j = 3 := by omega
      rcases ej with rfl | rfl | rfl | rfl
      · cases e1
        obtain ⟨l, r, h1, h2⟩ := of_fl e2
        rw [getI_z, o.at_ l r x h1 h2]
        rfl
      · cases e1
        cases e2
      · cases e1
        cases e2
      · cases e1
        cases e2
    · have e : getI (zI u.dep) x = some k := e
      rw [getI_z] at e
      obtain ⟨_, _, e⟩ := Option.map_eq_some_iff.mp e
      omega
theorem dp_counted (u : TU) : u.counted.dep.length ≤ u.dep.length := by
  unfold TU.counted
  split
  · exact Nat.le_refl _
  · exact len_zI _
theorem gt_counted {u : TU} {n l : Int} (h : getI u.dep n = some l) : ∃ l', getI u.counted.dep n = some l' := by
  unfold TU.counted
  split
  · exact ⟨l, h⟩
  · exact ⟨0, by show getI (zI u.dep) n = _; rw [getI_z, h]; rfl⟩
/-! #### one step, told as a relation -/
inductive StepR (v : TU) (R Wt : List Int) (h : Int) : TU → List Int → List Int → Prop
  | went : StepR v R Wt h (v.wentN h).counted R Wt
  | pass : StepR v R Wt h (v.passN h).counted R Wt
  | wait : 1 < R.length → StepR v R Wt h (v.waitN h).counted (R.erase h) (Wt ++ [h])
  | gone : 1 < R.length → StepR v R Wt h (v.endN h).counted (R.erase h) Wt
structure Inv (u : TU) (R Wt : List Int) (last : Int) : Prop where
  ok : u.Ok
  pm : u.q.flatten.Perm R
  nd : (R ++ Wt).Nodup
  le : ∀ x ∈ R ++ Wt, x ≤ last
  wd : ∀ x ∈ Wt, ∃ l, getI u.dep x = some l
  ne : R ≠ []
  few : R.length + Wt.length ≤ 16
  dp : (u.dep.length : Int) ≤ last
theorem lev_of {u : TU} {h : Int} (o : u.Ok) (m : h ∈ u.q.flatten) : ∃ (l : Nat) (r : List Int), getI u.dep h = some (l : Int) ∧ u.q[l]? = some r ∧ h ∈ r ∧ l < 4 := by
  obtain ⟨l, r, e, m⟩ := of_fl m
  have hg := o.at_ l r h e m
  have := o.lv h _ hg
  exact ⟨l, r, hg, e, m, by omega⟩
/-- what the four steps are before they are counted -/
theorem went_fl {v : TU} {h : Int} (o : v.Ok) (hr : v.runs = some h) : (v.wentN h).Ok ∧ (v.wentN h).q.flatten.Perm v.q.flatten ∧ (v.wentN h).dep.length = v.dep.length ∧ (∀ x l, getI v.dep x = some l → ∃ l', getI (v.wentN h).dep x = some l') := by
  obtain ⟨l, r, hg, e, m, hl⟩ := lev_of o (o.run h hr).1
  unfold TU.wentN
  rw [lev_at hg]
  split
  · refine ⟨(o.over e m).stand (by omega) (out_over o e m), ?_, getI_old hg, fun x k ex => ?_⟩
    · exact (pm_stand (u := v.over h l) (by rw [four_over, o.four]; omega)).trans (pm_over e m)
    · show ∃ l', getI (putI v.dep h _) x = some l'
      rw [getI_put]
      split
      · exact ⟨_, rfl⟩
      · exact ⟨k, ex⟩
  · rename_i z
    have := (o.run h hr).2
    exact ⟨o.rest _ (.inr (by omega)), .refl _, rfl, fun x k ex => ⟨k, ex⟩⟩
theorem pass_fl {v : TU} {h : Int} (o : v.Ok) (hr : v.runs = some h) : (v.passN h).Ok ∧ (v.passN h).q.flatten.Perm v.q.flatten ∧ (v.passN h).dep.length = v.dep.length ∧ (∀ x l, getI v.dep x = some l → ∃ l', getI (v.passN h).dep x = some l') := by
  obtain ⟨l, r, hg, e, m, hl⟩ := lev_of o (o.run h hr).1
  unfold TU.passN
  rw [lev_at hg]
  refine ⟨(o.over e m).stand (by omega) (out_over o e m), ?_, getI_old hg, fun x k ex => ?_⟩
  · exact (pm_stand (u := v.over h l) (by rw [four_over, o.four]; omega)).trans (pm_over e m)
  · show ∃ l', getI (putI v.dep h _) x = some l'
    rw [getI_put]
    split
    · exact ⟨_, rfl⟩
    · exact ⟨k, ex⟩
theorem wait_fl {v : TU} {h : Int} (o : v.Ok) (hr : v.runs = some h) : (v.waitN h).Ok ∧ (h :: (v.waitN h).q.flatten).Perm v.q.flatten ∧ h ∉ (v.waitN h).q.flatten ∧ (v.waitN h).dep = v.dep := by
  obtain ⟨l, r, hg, e, m, hl⟩ := lev_of o (o.run h hr).1
  unfold TU.waitN
  rw [lev_at hg]
  exact ⟨o.over e m, pm_over e m, out_over o e m, rfl⟩
theorem next_same (u : TU) : u.next.q = u.q ∧ u.next.dep = u.dep ∧ u.next.steps = u.steps := by
  unfold TU.next
  split
  · exact ⟨rfl, rfl, rfl⟩
  · split <;> exact ⟨rfl, rfl, rfl⟩
theorem Inv.next {u : TU} {R Wt : List Int} {last : Int} (i : Inv u R Wt last) : Inv u.next R Wt last ∧ ∃ h, u.next.runs = some h ∧ h ∈ R := by
  obtain ⟨e1, e2, e3⟩ := next_same u
  refine ⟨⟨i.ok.next, by rw [e1]; exact i.pm, i.nd, i.le, by rw [e2]; exact i.wd, i.ne, i.few, by rw [e2]; exact i.dp⟩, ?_⟩
  unfold TU.next
  cases hr : u.runs with
  | some h => exact ⟨h, hr, i.pm.subset (i.ok.run h hr).1⟩
  | none =>
    cases hh : u.q.flatten.head? with
    | none =>
      rw [List.head?_eq_none_iff] at hh
      have := i.pm
      rw [hh] at this
      exact (i.ne (List.nil_perm.mp this)).elim
    | some n => exact ⟨n, rfl, i.pm.subset (List.mem_of_mem_head? hh)⟩
theorem inv_step {v u' : TU} {R Wt R' Wt' : List Int} {last h : Int} (i : Inv v R Wt last) (hr : v.runs = some h) (s : StepR v R Wt h u' R' Wt') : Inv u' R' Wt' last := by
  have hm : h ∈ R := i.pm.subset (i.ok.run h hr).1
  have hc : ∀ u : TU, u.dep.length ≤ v.dep.length → ((u.counted.dep.length : Nat) : Int) ≤ last := fun u hl => by
    have := dp_counted u
    have := i.dp
    omega
  have pe : (R ++ Wt).Perm (h :: (R.erase h ++ Wt)) := List.Perm.append_right Wt (List.perm_cons_erase hm)
  have el : (R.erase h).length + 1 = R.length := by
    have := (List.perm_cons_erase hm).length_eq
    rw [List.length_cons] at this
    exact this.symm
  have ndr : (R ++ Wt).Nodup := i.nd
  have nd2 := List.nodup_cons.mp ((List.Perm.nodup_iff pe).mp i.nd)
  cases s with
  | went =>
    obtain ⟨a, b, c, d⟩ := went_fl i.ok hr
    refine ⟨a.counted, by rw [fl_counted]; exact b.trans i.pm, i.nd, i.le, fun x hx => ?_, i.ne, i.few, hc _ (Nat.le_of_eq c)⟩
    obtain ⟨l, e⟩ := i.wd x hx
    obtain ⟨l2, e2⟩ := d x l e
    exact gt_counted e2
  | pass =>
    obtain ⟨a, b, c, d⟩ := pass_fl i.ok hr
    refine ⟨a.counted, by rw [fl_counted]; exact b.trans i.pm, i.nd, i.le, fun x hx => ?_, i.ne, i.few, hc _ (Nat.le_of_eq c)⟩
    obtain ⟨l, e⟩ := i.wd x hx
    obtain ⟨l2, e2⟩ := d x l e
    exact gt_counted e2
  | wait hl =>
    obtain ⟨a, b, c, d⟩ := wait_fl i.ok hr
    have pw : (R.erase h ++ (Wt ++ [h])).Perm (R ++ Wt) := by
      rw [← List.append_assoc]
      exact (List.perm_append_comm).trans pe.symm
    refine ⟨a.counted, ?_, (List.Perm.nodup_iff pw).mpr i.nd, fun x hx => i.le x (pw.subset hx), fun x hx => ?_, fun z => ?_, ?_, hc _ (Nat.le_of_eq (by rw [d]))⟩
    · rw [fl_counted]
      exact (List.Perm.cons_inv (b.trans (i.pm.trans (List.perm_cons_erase hm))))
    · rcases List.mem_append.mp hx with hx | hx
      · obtain ⟨l, e⟩ := i.wd x hx
        exact gt_counted (by rw [d]; exact e)
      · obtain ⟨l, r, hg, _⟩ := lev_of i.ok (i.ok.run h hr).1
        rw [List.mem_singleton.mp hx]
        exact gt_counted (by rw [d]; exact hg)
    · rw [z] at el
      simp at el
      omega
    · have := i.few
      rw [List.length_append, List.length_singleton]
      omega
  | gone hl =>
    obtain ⟨a, b, c, d⟩ := wait_fl i.ok hr
    have ho : (v.endN h).Ok := by
      have z := a.drop c
      rw [d] at z
      exact z
    refine ⟨ho.counted, ?_, nd2.2, fun x hx => i.le x (pe.symm.subset (List.mem_cons_of_mem _ hx)), fun x hx => ?_, fun z => ?_, ?_, hc _ (len_dropI _ _)⟩
    · rw [fl_counted]
      exact (List.Perm.cons_inv (b.trans (i.pm.trans (List.perm_cons_erase hm))))
    · obtain ⟨l, e⟩ := i.wd x hx
      refine gt_counted (l := l) ?_
      show getI (dropI v.dep h) x = some l
      rw [getI_drop, if_neg (fun z => ?_)]
      · exact e
      · subst z
        exact nd2.1 (List.mem_append_right _ hx)
    · rw [z] at el
      simp at el
      omega
    · have := i.few
      omega
theorem inv_stand {u : TU} {R Wt R' Wt' : List Int} {last last' n : Int} {l : Nat} (i : Inv u R Wt last) (hl : l < 4) (no : n ∉ R) (er : R' = R ++ [n]) (pw : (R' ++ Wt').Nodup) (le : ∀ x ∈ R' ++ Wt', x ≤ last') (sw : ∀ x ∈ Wt', x ∈ Wt) (few : R'.length + Wt'.length ≤ 16) (dp : ((putI u.dep n l).length : Int) ≤ last') : Inv (u.stand n l) R' Wt' last' := by
  subst er
  have nf : n ∉ u.q.flatten := fun z => no (i.pm.subset z)
  refine ⟨i.ok.stand hl nf, ?_, pw, le, fun x hx => ?_, by simp, few, dp⟩
  · exact ((pm_stand (by rw [i.ok.four]; exact hl)).trans (i.pm.cons n)).trans (List.perm_append_comm (l₁ := [n]) (l₂ := R))
  · obtain ⟨k, e⟩ := i.wd x (sw x hx)
    show ∃ l', getI (putI u.dep n l) x = some l'
    rw [getI_put]
    split
    · exact ⟨_, rfl⟩
    · exact ⟨k, e⟩
end Sl

set_option maxRecDepth 100000
set_option maxHeartbeats 1000000
namespace Sl
open PySem L2 PyProof PyProof.Rows
/-! ### x[i] op= e -/
/-- an item of a list at a place from the front -/
def rGetL (K : PySem.W.Frag) : V → V → Hp → VK → Prop := fun x y H Q => ∃ p xs i z, x = V.ref p ∧ y = .int i ∧ 0 ≤ i ∧ SqL K H p xs ∧ atI xs i = some z ∧ Q z H
theorem get_list {X : Cx} : PGet X (rGetL X.K) := by
  intro pins s σ H x y v u Q I rx ry h
  obtain ⟨p, xs, i, z, rfl, rfl, h0, hq, he, q⟩ := h
  cases rx
  obtain ⟨t, rfl⟩ := ry
  obtain ⟨its, r, pl, hz⟩ := I.list hq
  obtain ⟨j, h1, h2, h3, h4, h5⟩ := atI_get he
  obtain ⟨w, ew, rw'⟩ := r.get h2
  have hl := r.length
  have hn := line63
  have fin : EP X pins σ Q w s := ⟨z, H, I, rw', q⟩
  have hj : i.toNat = j := by
    rw [seqIndex_of h0 h5] at h1
    exact Option.some.inj h1
  exact wpAny_getItem_list pl.isList h0 (by omega) (by rw [hj]; simpa using ew) fin
theorem k_getL {X : Cx} {K : PySem.W.Frag} (h : X.K = K) : PGet X (rGetL K) := h ▸ get_list
section
variable {K : PySem.W.Frag} {σ : L2.St} {H : Hp} {D : Ends} {to ti te : TE} {Q : VK} {i j : Int} {a : Addr} {xs : List V} {z : V}
theorem r_augS {tget : V → V → Hp → VK → Prop} {tip : TIp} {tset : TSet} (q : to σ H fun o H1 => ti σ H1 fun i H2 => tget o i H2 fun x H3 => te σ H3 fun y H4 => tip x y H4 fun z H5 => tset o i z H5 fun H6 => D.nx σ H6) : tAugS to ti te tget tip tset D σ H := q
theorem r_ipI {f : Int → Int → Int} (q : Q (.int (f i j)) H) : ipI f (.int i) (.int j) H Q := ⟨i, j, rfl, rfl, q⟩
theorem r_getL (h : SqL K H a xs) (h0 : 0 ≤ i) (hi : atI xs i = some z) (q : Q z H) : rGetL K (.ref a) (.int i) H Q := ⟨a, xs, i, z, rfl, rfl, h0, h, hi, q⟩
theorem r_setLH {L L' : List SA} {N : Hp → Prop} {n : Nat} {v : V} (hs : Hd L H) (p : Put (pto a (.lst xs)) (pto a (.lst (xs.set n v))) L L') (hn : n < xs.length) (q : ∀ H', Hd L' H' → N H') : rSetU (.ref a) (.int (n : Int)) v H N := r_setL hs p hn q
end
/-! ### chains -/
def ChK (tc : TE) (r' : R2) (y : V) (σ : L2.St) (Q : VK) (z : V) (H : Hp) : Prop := ∃ k, z = .bl k ∧ (if k = true then tc σ H fun w' H4 => r' y w' H4 Q else Q (.bl false) H)
section
variable {σ : L2.St} {H : Hp} {ta tb tc : TE} {r r' : R2} {Q : VK} {b : Bool} {y : V}
theorem r_chain (q : ta σ H fun x H1 => tb σ H1 fun y H2 => r x y H2 (ChK tc r' y σ Q)) : tChain r r' ta tb tc σ H Q := q
theorem r_chK (q : if b = true then tc σ H fun w' H4 => r' y w' H4 Q else Q (.bl false) H) : ChK tc r' y σ Q (.bl b) H := ⟨b, rfl, q⟩
end
/-! ### the first place of a number -/
theorem r_indexI {K : PySem.W.Frag} {H : Hp} {Q : VK} {a : Addr} {ns : List Int} {n : Int} (h : SqL K H a (ns.map V.int)) (hm : n ∈ ns) (q : ∀ j : Nat, ns[j]? = some n → (∀ m : Nat, m < j → ns[m]? ≠ some n) → Q (.int (j : Nat)) H) : rIndex K (.ref a) [.int n] H Q := by
  obtain ⟨j, h1, h2⟩ := first_at hm
  refine ⟨a, ns.map V.int, .int n, j, .int n, rfl, rfl, h, rfl, flat_ints ns, by simp [h1], by simp [eqV], fun m z hm2 hz => ?_, q j h1 h2⟩
  rw [List.getElem?_map] at hz
  obtain ⟨k, hk, rfl⟩ := Option.map_eq_some_iff.mp hz
  have ne : k ≠ n := fun e => h2 m hm2 (by rw [hk, e])
  simp [eqV, ne]
theorem inV_ints (n : Int) (ns : List Int) : inV (.int n) (ns.map V.int) = decide (n ∈ ns) := by
  unfold inV
  rw [List.any_map]
  by_cases m : n ∈ ns
  · rw [decide_eq_true m, List.any_eq_true]
    exact ⟨n, m, by simp [eqV]⟩
  · rw [decide_eq_false m, List.any_eq_false]
    intro k hk
    have ne : k ≠ n := fun e => m (e ▸ hk)
    simp [eqV, ne]
/-! ### lists at addresses, or none -/
def orA (xs : List V) (ws : List (Option (List Int))) : SA := fun H => xs.length = ws.length ∧ ∀ (i : Nat) w, ws[i]? = some w → match w with
  | none => xs[i]? = some .non
  | some r => ∃ a, xs[i]? = some (.ref a) ∧ H a = some (.lst (r.map V.int))
theorem up_or (xs : List V) (ws : List (Option (List Int))) : Up (orA xs ws) := fun _ _ s h => ⟨h.1, fun i w e => by
  have z := h.2 i w e
  cases w with
  | none => exact z
  | some r =>
    obtain ⟨a, z1, z2⟩ := z
    exact ⟨a, z1, s _ _ z2⟩⟩
theorem or_nones {L : List SA} {H : Hp} (h : Hd L H) (n : Nat) : Hd (orA (List.replicate n .non) (List.replicate n none) :: L) H := by
  refine ⟨fun _ => none, H, fun _ _ _ h => (nomatch h), fun _ _ h => (nomatch h), Sub.refl _, ⟨by simp, fun i w e => ?_⟩, h⟩
  rw [List.getElem?_replicate] at e ⊢
  split at e
  · cases e
    rename_i hi
    show (if i < n then some V.non else none) = some .non
    rw [if_pos hi]
  · cases e
theorem or_len {xs : List V} {ws : List (Option (List Int))} {L L' : List SA} {H : Hp} (h : Hd L H) (p : Pull (orA xs ws) L L') : xs.length = ws.length := (h.at (up_or xs ws) p).1
theorem or_at {xs : List V} {ws : List (Option (List Int))} {L L' : List SA} {H : Hp} (h : Hd L H) (p : Pull (orA xs ws) L L') {i : Nat} {r : List Int} (e : ws[i]? = some (some r)) : ∃ a, xs[i]? = some (.ref a) ∧ H a = some (.lst (r.map V.int)) := (h.at (up_or xs ws) p).2 i _ e
theorem or_set {xs : List V} {ws : List (Option (List Int))} {L : List SA} {H : Hp} {a : Addr} {r : List Int} {i : Nat} (h : Hd (pto a (.lst (r.map V.int)) :: orA xs ws :: L) H) (hi : i < ws.length) : Hd (orA (xs.set i (.ref a)) (ws.set i (some r)) :: L) H := by
  refine Hd.join (up_pto _ _) (up_or _ _) h fun G z1 z2 => ⟨by simp [z2.1], fun j w e => ?_⟩
  by_cases q : j = i
  · subst q
    rw [List.getElem?_set_self hi] at e
    cases e
    exact ⟨a, List.getElem?_set_self (by rw [z2.1]; exact hi), z1⟩
  · rw [List.getElem?_set_ne (Ne.symm q)] at e
    rw [List.getElem?_set_ne (Ne.symm q)]
    exact z2.2 j w e
theorem or_snoc {xs : List V} {ws : List (Option (List Int))} {L : List SA} {H : Hp} {a : Addr} {r : List Int} (h : Hd (pto a (.lst (r.map V.int)) :: orA xs ws :: L) H) : Hd (orA (xs ++ [.ref a]) (ws ++ [some r]) :: L) H := by
  refine Hd.join (up_pto _ _) (up_or _ _) h fun G z1 z2 => ⟨by simp [z2.1], fun j w e => ?_⟩
  by_cases q : j < ws.length
  · rw [List.getElem?_append_left q] at e
    rw [List.getElem?_append_left (by rw [z2.1]; exact q)]
    exact z2.2 j w e
  · have hj : j < (ws ++ [some r]).length := (List.getElem?_eq_some_iff.mp e).1
    have ej : j = ws.length := by
      rw [List.length_append, List.length_singleton] at hj
      omega
    subst ej
    rw [List.getElem?_append_right (Nat.le_refl _), Nat.sub_self] at e
    cases e
    exact ⟨a, by rw [List.getElem?_append_right (Nat.le_of_eq z2.1), z2.1, Nat.sub_self]; rfl, z1⟩
end Sl

set_option maxRecDepth 100000
set_option maxHeartbeats 1000000
namespace PySem
open Sem (wp)
/-! ### sum(lists, []) -/
section
variable {prog : Program} {w : World} {A : Around} {R : Result → Shared → Prop} {I : Addr} {fp wr : List Addr} {n : Nat} {P : Nat → Value → Prop} {St : Nat → Heap → Prop}
/-- what the lists hold, one behind the other -/
def catTo (cont : Nat → List Value) : Nat → List Value
  | 0 => []
  | i + 1 => catTo cont i ++ cont i
theorem codeAny_sum_loopL (W : Walks prog w A.in1 I fp wr n P St) (hb : Heap) (ads : Nat → Addr) (cont : Nat → List Value) (hval : ∀ i v, P i v → v = .ref (ads i))
    (hcont : ∀ i, i < n → ∃ c, hb.get? (ads i) = some { cls := .type "list", dict := none, data := .seq (cont i).toArray c, slots := #[] }) (hsz : ∀ i, i ≤ n → (catTo cont i).length ≤ sizeLine)
    (S : Addr) (hSf : S ∉ fp) (hSb : hb.objs.size ≤ S) (hwr : ∀ b ∈ wr, hb.objs.size ≤ b) (hwS : ∀ b ∈ wr, b ≤ S) :
    ∀ (k i : Nat) (s : Shared) (tot : Addr) (c ct : Nat), n - i = k → i ≤ n → St i s.heap → (∀ b o, hb.get? b = some o → s.heap.get? b = some o) → s.heap.get? S = some { cls := .type "list", dict := none, data := .seq #[.ref tot] c, slots := #[] } →
    s.heap.get? tot = some { cls := .type "list", dict := none, data := .seq (catTo cont i).toArray ct, slots := #[] } → tot ∉ wr → tot ≠ S →
    (∀ h' tk tot' ct', (∀ b o, hb.get? b = some o → h'.get? b = some o) → h'.get? tot' = some { cls := .type "list", dict := none, data := .seq (catTo cont n).toArray ct', slots := #[] } → ((tot' = tot ∧ i = n) ∨ hb.objs.size ≤ tot') → R (.ok (.ret (.ref tot'))) { s with heap := h', toks := tk }) →
    codeAny (model prog w) A (.builtin "sum.loop" ⟨[.ref I, .ref S, rawInt 2, rawInt 0], []⟩) R s := by
  have hSw : S ∉ wr := fun h => hSf (W.sub _ h)
  have old : ∀ {b : Addr} {o : Obj}, hb.get? b = some o → b < hb.objs.size := fun e => Heap.lt_size e
  intro k
  induction k with
  | zero =>
    intro i s tot c ct hk hi hst hkeep hS hT hTw hTS hR
    have hin : i = n := by omega
    subst hin
    refine codeAny_builtin F.entry_sum_loop ?_
    rw [Around.under_plainId F.plain_sum_loop _]
    show wpAny _ A.in1 (seqItems? (.ref S) >>= _) _ _ s
    refine wpAny_bind (wpAny_seqItems hS rfl ?_)
    show wpAny _ A.in1 (tryCatch (pyNext (.ref I)) _ >>= _) _ _ s
    refine wpAny_bind (wpAny_tryCatch (W.done s _ _ hst fun h' tk hk' => ?_))
    exact wpAny_pure (hR h' tk tot ct (fun b o e => hk' b o (fun m => absurd (hwr b m) (Nat.not_le.mpr (Heap.lt_size e))) (hkeep b o e)) (hk' tot _ hTw hT) (.inl ⟨rfl, rfl⟩))
  | succ k ih =>
    intro i s tot c ct hk hi hst hkeep hS hT hTw hTS hR
    have hlt : i < n := by omega
    refine codeAny_builtin F.entry_sum_loop ?_
    rw [Around.under_plainId F.plain_sum_loop _]
    show wpAny _ A.in1 (seqItems? (.ref S) >>= _) _ _ s
    refine wpAny_bind (wpAny_seqItems hS rfl ?_)
    show wpAny _ A.in1 (tryCatch (pyNext (.ref I)) _ >>= _) _ _ s
    refine wpAny_bind (wpAny_tryCatch (W.item i s _ _ hlt hst fun v h' tk hP hst' hk' => ?_))
    obtain rfl := hval i v hP
    have hS' := hk' S _ hSw hS
    have hT' := hk' tot _ hTw hT
    obtain ⟨cc, hc⟩ := hcont i hlt
    have hC' := hk' _ _ (fun m => absurd (hwr _ m) (Nat.not_le.mpr (Heap.lt_size hc))) (hkeep _ _ hc)
    have hl := hsz (i + 1) hlt
    show wpAny _ A.in1 ((holding [Value.ref (ads i)] (binaryOp .Add (.ref tot) (.ref (ads i)))).attempt >>= _) _ _ _
    refine wpAny_bind (wpAny_attempt (wpAny_holding (PySem.P.add_list hT' hC' ?_ (by
      rw [List.size_toArray, List.size_toArray]
      have e : (catTo cont (i + 1)).length = (catTo cont i).length + (cont i).length := by rw [catTo, List.length_append]
      omega))))
    have ea : (catTo cont i).toArray ++ (cont i).toArray = (catTo cont (i + 1)).toArray := by rw [catTo]; simp
    rw [ea]
    have hSlt : S < h'.objs.size := Heap.lt_size hS'
    have pu : ∀ b o, h'.get? b = some o → (h'.push { cls := .type "list", data := .seq (catTo cont (i + 1)).toArray }).get? b = some o := fun b o e => Heap.get?_push_of_some _ e
    have hS2 := pu _ _ hS'
    have hN : (h'.push { cls := .type "list", data := .seq (catTo cont (i + 1)).toArray }).get? h'.objs.size = some { cls := .type "list", data := .seq (catTo cont (i + 1)).toArray } := Heap.get?_push_size _ rfl
    have neN : S ≠ h'.objs.size := Nat.ne_of_lt hSlt
    show wpAny _ A.in1 (updateSeq S (fun _ => #[.ref h'.objs.size]) >>= _) _ _ _
    refine wpAny_bind ?_
    refine wpAny_updateSeq hS2 rfl ?_
    have hS3 := Heap.get?_update_self (Obj.mapSeq fun _ => #[Value.ref h'.objs.size]) hS2 rfl
    refine wpAny_bind (wpAny_letGo ?_)
    refine wpAny_bind ?_
    have oth : ∀ b o, S ≠ b → h'.get? b = some o → (((h'.push { cls := .type "list", data := .seq (catTo cont (i + 1)).toArray }).update S (Obj.mapSeq fun _ => #[Value.ref h'.objs.size])).update S (Obj.mapSeq fun _ => #[Value.ref h'.objs.size])).get? b = some o := fun b o ne e =>
      (Heap.get?_update_other _ _ ne).trans ((Heap.get?_update_other _ _ ne).trans (pu b o e))
    have kb : ∀ b o, hb.get? b = some o → h'.get? b = some o := fun b o e => hk' b o (fun m => absurd (hwr b m) (Nat.not_le.mpr (Heap.lt_size e))) (hkeep b o e)
    refine wpAny_updateSeq hS3 rfl (wpAny_pure ⟨plainId_quiet F.plain_sum_loop _, ih (i + 1) _ h'.objs.size _ _ (by omega) hlt (W.frame _ _ _ hst' fun b hbf o e => oth b o (fun z => hSf (z ▸ hbf)) e)
      (fun b o e => oth b o (fun z => absurd hSb (Nat.not_le.mpr (z ▸ Heap.lt_size e))) (kb b o e)) (Heap.get?_update_self _ hS3 rfl) ((Heap.get?_update_other _ _ neN).trans ((Heap.get?_update_other _ _ neN).trans hN))
      (fun m => absurd (hwS _ m) (Nat.not_le.mpr hSlt)) (Ne.symm neN) fun h'' tk'' tot' ct' k2 hT2 ho => hR h'' tk'' tot' ct' k2 hT2 (.inr ?_)⟩)
    rcases ho with ⟨z, -⟩ | z
    · rw [z]
      exact Nat.le_trans hSb (Nat.le_of_lt hSlt)
    · exact z
end

section
variable {prog : Program} {w : World} {A : Around} {E : Value → Shared → Prop} {s : Shared}
theorem args_sum2 (a b : Value) : argsOk "sum" ⟨[a, b], []⟩ := by unfold argsOk; kernel_rfl
theorem call_sum_walkL {x : Value} {st : Addr} {cs : Nat} {Q : Value → Shared → Prop} (hst0 : s.heap.get? st = some { cls := .type "list", dict := none, data := .seq #[] cs, slots := #[] })
    (h : wpAny (model prog w) A.in1 (pyIter x) (fun it s₂ => ∃ (fp : List Addr) (n : Nat) (P : Nat → Value → Prop) (St : Nat → Heap → Prop) (ads : Nat → Addr) (cont : Nat → List Value), it = .ref s.heap.objs.size ∧ Walks prog w A.in1 s.heap.objs.size fp [s.heap.objs.size] n P St ∧ St 0 s₂.heap ∧ (∀ b ∈ fp, b < s₂.heap.objs.size) ∧ s.heap.objs.size < s₂.heap.objs.size ∧
      (∀ i v, P i v → v = .ref (ads i)) ∧ (∀ b o, s.heap.get? b = some o → s₂.heap.get? b = some o) ∧
      (∀ i, i < n → ∃ c, s.heap.get? (ads i) = some { cls := .type "list", dict := none, data := .seq (cont i).toArray c, slots := #[] }) ∧ (∀ i, i ≤ n → (catTo cont i).length ≤ sizeLine) ∧
      ∀ h' tk tot' ct', (∀ b o, s.heap.get? b = some o → h'.get? b = some o) → h'.get? tot' = some { cls := .type "list", dict := none, data := .seq (catTo cont n).toArray ct', slots := #[] } → ((tot' = st ∧ 0 = n) ∨ s.heap.objs.size ≤ tot') → Q (.ref tot') { s₂ with heap := h', toks := tk }) E s) :
    wpAny (model prog w) A (call (.builtin "sum") [x, .ref st]) Q E s := by
  refine call_function_tree F.kind_sum F.plain_sum F.entry_sum (args_sum2 _ _) ?_
  unfold Builtin.«sum»
  simp only [List.length_cons, List.length_nil]
  rw [if_neg (by decide)]
  refine wpAny_bind (wpAny_of_eq (show Builtin.Builtins.bindParams "sum" ["start"] 0 { pos := [.ref st] } = pure [some (.ref st)] from rfl) ?_)
  refine wpAny_bind (wpAny_mono h (fun it s₂ h₂ => ?_) fun _ _ e => e)
  obtain ⟨fp, n, P, St, ads, cont, rfl, W, hst, hfp, hI, hval, hkeep, hcont, hsz, hQ⟩ := h₂
  have ty : s₂.TypeIs (.ref st) "list" := ⟨_, hkeep _ _ hst0, rfl⟩
  refine wpAny_bind (wpAny_pure ?_)
  simp only [List.forIn_cons, List.forIn_nil]
  refine wpAny_bind (wpAny_bind (wpAny_bind (wpAny_isInstance (T := "list") (b := false) ty F.sub_list_str ?_)))
  simp only [Bool.false_eq_true, if_false]
  refine wpAny_pure (wpAny_bind (wpAny_bind (wpAny_isInstance (T := "list") (b := false) ty F.sub_list_bytes ?_)))
  simp only [Bool.false_eq_true, if_false]
  refine wpAny_pure (wpAny_bind (wpAny_bind (wpAny_isInstance (T := "list") (b := false) ty F.sub_list_bytearray ?_)))
  simp only [Bool.false_eq_true, if_false]
  refine wpAny_pure (wpAny_pure ?_)
  refine wpAny_bind (wpAny_newObj_type ?_)
  have hSf : s₂.heap.objs.size ∉ fp := fun hm => Nat.lt_irrefl _ (hfp _ hm)
  have hstl := Heap.lt_size hst0
  refine wpAny_pure ⟨plainId_quiet F.plain_sum_loop _, codeAny_sum_loopL W s.heap ads cont hval hcont hsz s₂.heap.objs.size hSf (Nat.le_of_lt hI) (fun b hb => by rw [List.mem_singleton.mp hb]; exact Nat.le_refl _) (fun b hb => by rw [List.mem_singleton.mp hb]; exact Nat.le_of_lt hI)
    n 0 _ st _ cs rfl (Nat.zero_le _) (W.frame _ _ _ hst fun b _ o e => Heap.get?_push_of_some _ e) (fun b o e => Heap.get?_push_of_some _ (hkeep b o e)) (Heap.get?_push_size _ rfl) (Heap.get?_push_of_some _ (hkeep _ _ hst0)) (fun m => absurd (List.mem_singleton.mp m) (Nat.ne_of_lt hstl)) (Nat.ne_of_lt (Nat.lt_trans hstl hI)) fun h' tk tot' ct' k2 hT ho => ?_⟩
  exact hQ h' tk tot' ct' k2 hT ho
end
end PySem
namespace Sl
open PySem L2 PyProof PyProof.Rows
/-- sum(lists, []) of a list or tuple of one or more lists -/
def rSumL (K : PySem.W.Frag) : List V → Hp → VK → Prop := fun xs H Q => ∃ (a st : Addr) (ls : List Addr) (q : List (List V)), xs = [.ref a, .ref st] ∧ (SqL K H a (ls.map V.ref) ∨ SqT K H a (ls.map V.ref)) ∧ H st = some (.lst []) ∧ ls.length = q.length ∧
  (∀ (i : Nat) b r, ls[i]? = some b → q[i]? = some r → H b = some (.lst r)) ∧ q ≠ [] ∧ q.flatten.length ≤ sizeLine ∧ ∀ p, H p = none → Q (.ref p) (upd H p (.lst q.flatten))
def contOf (h : Heap) (ls : List Addr) (i : Nat) : List Value := match ls[i]? with
  | some a => match h.get? a with
    | some o => match o.data with
      | .seq xs _ => xs.toList
      | _ => []
    | none => []
  | none => []
theorem vals_cat {q : List (List V)} {cont : Nat → List Value} (h : ∀ (i : Nat) r, q[i]? = some r → Vals r (cont i)) : ∀ i, i ≤ q.length → Vals (q.take i).flatten (catTo cont i)
  | 0, _ => by
    rw [List.take_zero]
    exact .nil
  | i + 1, hi => by
    have e : q[i]? = some q[i] := by simp [show i < q.length from hi]
    rw [List.take_add_one, e, List.flatten_append, catTo]
    have z := (vals_cat h i (by omega)).append (h i _ e)
    simpa using z
theorem cr_sumL {X : Cx} (hc : X.calm = true) : CallR X (.builtin "sum") (rSumL X.K) := by
  intro pins s σ H xs us Q I r h
  obtain ⟨a, st, ls, q, rfl, hq, hst, hlen, hrow, hne, hsz, qq⟩ := h
  obtain ⟨u, u2, rfl, rx, ry⟩ := vals2 r
  cases rx
  cases ry
  obtain ⟨-, its0, cs, r0, -, e0⟩ := I.lstM hst
  cases r0
  have hcv : ∀ (i : Nat) r, q[i]? = some r → Vals r (contOf s.heap ls i) ∧ ∃ c, s.heap.get? (ls.getD i 0) = some { cls := .type "list", dict := none, data := .seq (contOf s.heap ls i).toArray c, slots := #[] } := fun i r hr => by
    have hi : i < ls.length := by rw [hlen]; exact (List.getElem?_eq_some_iff.mp hr).1
    have hb : ls[i]? = some ls[i] := by simp [hi]
    obtain ⟨-, its, n, rv, -, e⟩ := I.lstM (hrow i _ r hb hr)
    have ec : contOf s.heap ls i = its := by
      unfold contOf
      rw [hb]
      dsimp only
      rw [e]
    rw [ec, List.getD_eq_getElem?_getD, hb]
    exact ⟨rv, n, e⟩
  have vt : ∀ i, i ≤ q.length → Vals (q.take i).flatten (catTo (contOf s.heap ls) i) := vals_cat fun i r hr => (hcv i r hr).1
  have hs2 : ∀ i, i ≤ q.length → (catTo (contOf s.heap ls) i).length ≤ sizeLine := fun i hi => by
    rw [← (vt i hi).length]
    have e : q.flatten = (q.take i).flatten ++ (q.drop i).flatten := by rw [← List.flatten_append, List.take_append_drop]
    rw [e, List.length_append] at hsz
    omega
  have hc2 : ∀ i, i < q.length → ∃ c, s.heap.get? (ls.getD i 0) = some { cls := .type "list", dict := none, data := .seq (contOf s.heap ls i).toArray c, slots := #[] } := fun i hi => (hcv i q[i] (by simp [hi])).2
  have qpos : 0 < q.length := List.length_pos_iff.mpr hne
  have fin : ∀ h' tk tot' ct', (∀ b o, s.heap.get? b = some o → h'.get? b = some o) → h'.get? tot' = some { cls := .type "list", dict := none, data := .seq (catTo (contOf s.heap ls) q.length).toArray ct', slots := #[] } → ((tot' = st ∧ 0 = q.length) ∨ s.heap.objs.size ≤ tot') → EP X pins σ Q (.ref tot') { s with heap := h', toks := tk } := fun h' tk tot' ct' k hT ho => by
    have ho : s.heap.objs.size ≤ tot' := ho.elim (fun z => by omega) id
    have hv := vt q.length (Nat.le_refl _)
    rw [List.take_length] at hv
    exact ⟨.ref tot', upd H tot' (.lst q.flatten), I.laid (t' := tk) k ho (show ObjOk X.prog X.w _ _ _ (.lst q.flatten) from ⟨hsz, _, ct', hv, hT⟩), rfl, qq _ (I.hok.fresh ho)⟩
  have items : ∀ (i : Nat) (v : Value), (ls.map Value.ref).toArray[i]? = some v → v = .ref (ls.getD i 0) := fun i v e => by
    rw [List.getElem?_toArray, List.getElem?_map] at e
    obtain ⟨b, hb, rfl⟩ := Option.map_eq_some_iff.mp e
    rw [List.getD_eq_getElem?_getD, hb]
    rfl
  have hn : (ls.map Value.ref).toArray.size = q.length := by rw [List.size_toArray, List.length_map, hlen]
  rcases hq with hq | hq
  · obtain ⟨its, rv, pl, hz⟩ := I.list hq
    have ei := refs_at rv
    subst ei
    have il := pl.isList
    have hlt : a < s.heap.objs.size := by obtain ⟨_, e, _⟩ := il; exact Heap.lt_size e
    refine call_sum_walkL e0 (wpAny_pyIter_list il ?_)
    refine ⟨_, _, _, _, fun i => ls.getD i 0, contOf s.heap ls, rfl, Walks.list (A := X.A.in1) (I.ok.hd hc) _ a (Nat.ne_of_lt hlt) (ls.map Value.ref).toArray, ⟨⟨_, Heap.get?_push_size _ rfl, rfl, rfl⟩, il.push _⟩, fun b hb => ?_, ?_, items, fun b o e => Heap.get?_push_of_some _ e, ?_, ?_, ?_⟩
    · show b < (s.heap.push _).objs.size
      rw [Heap.size_push]
      rcases List.mem_cons.mp hb with rfl | hb
      · exact Nat.lt_succ_self _
      · rw [List.mem_singleton.mp hb]
        exact Nat.lt_succ_of_lt hlt
    · show _ < (s.heap.push _).objs.size
      rw [Heap.size_push]
      exact Nat.lt_succ_self _
    · rw [hn]
      exact hc2
    · rw [hn]
      exact hs2
    · rw [hn]
      exact fin
  · obtain ⟨its, rv, pl, hz⟩ := I.tuple hq
    have ei := refs_at rv
    subst ei
    have hlt : a < s.heap.objs.size := by obtain ⟨_, e, _⟩ := id pl; exact Heap.lt_size e
    refine call_sum_walkL e0 (wpAny_pyIter_tuple (show s.heap.IsTuple a (ls.map Value.ref).toArray from pl) ?_)
    refine ⟨_, _, _, _, fun i => ls.getD i 0, contOf s.heap ls, rfl, Walks.tuple (A := X.A.in1) (I.ok.hd hc) _ a (Nat.ne_of_lt hlt) (ls.map Value.ref).toArray, ⟨⟨_, Heap.get?_push_size _ rfl, rfl, rfl⟩, ?_⟩, fun b hb => ?_, ?_, items, fun b o e => Heap.get?_push_of_some _ e, ?_, ?_, ?_⟩
    · obtain ⟨o, e, z⟩ := id pl
      exact ⟨o, Heap.get?_push_of_some _ e, z⟩
    · show b < (s.heap.push _).objs.size
      rw [Heap.size_push]
      rcases List.mem_cons.mp hb with rfl | hb
      · exact Nat.lt_succ_self _
      · rw [List.mem_singleton.mp hb]
        exact Nat.lt_succ_of_lt hlt
    · show _ < (s.heap.push _).objs.size
      rw [Heap.size_push]
      exact Nat.lt_succ_self _
    · rw [hn]
      exact hc2
    · rw [hn]
      exact hs2
    · rw [hn]
      exact fin
theorem k_sumL {X : Cx} {K : PySem.W.Frag} (h : X.K = K) (hc : X.calm = true) : CallR X (.builtin "sum") (rSumL K) := h ▸ cr_sumL hc
end Sl

set_option maxRecDepth 100000
set_option maxHeartbeats 1000000
namespace Sl
open PySem L2
theorem flat_rows (q : List (List Int)) : (rowsV q).flatten = q.flatten.map V.int := by
  unfold rowsV
  rw [List.map_flatten]
theorem r_sumL {K : PySem.W.Frag} {H : Hp} {Q : VK} {a st : Addr} {ls : List Addr} {q : List (List Int)} {L L1 L2 : List SA} (hs : Hd L H) (h : SqL K H a (ls.map V.ref) ∨ SqT K H a (ls.map V.ref)) (p1 : Pull (pto st (.lst [])) L L1) (p2 : Pull (rowsA ls (rowsV q)) L L2) (hne : q ≠ []) (hsz : q.flatten.length ≤ 100000)
    (qq : ∀ p H', Hd (pto p (.lst (q.flatten.map V.int)) :: L) H' → Q (.ref p) H') : rSumL K [.ref a, .ref st] H Q := by
  refine ⟨a, st, ls, rowsV q, rfl, h, hs.get p1, rows_len hs p2, fun i b r h1 h2 => rows_get hs p2 h1 h2, fun e => hne ?_, ?_, fun p n => ?_⟩
  · unfold rowsV at e
    simpa using e
  · rw [flat_rows, List.length_map]
    exact sz hsz
  · rw [flat_rows]
    exact qq p _ (hs.new n)
end Sl

set_option maxRecDepth 100000
set_option maxHeartbeats 1000000
namespace Sl
open PySem L2
theorem filter_out {n : Int} : ∀ {r : List Int}, n ∉ r → r.filter (fun x => !decide (x = n)) = r
  | [], _ => rfl
  | a :: r, h => by
    have ha : a ≠ n := fun e => h (e ▸ List.mem_cons_self)
    rw [List.filter_cons, if_pos (by simp [ha]), filter_out fun m => h (List.mem_cons_of_mem _ m)]
theorem erase_filter {n : Int} : ∀ {r : List Int}, r.Nodup → r.erase n = r.filter (fun x => !decide (x = n))
  | [], _ => rfl
  | a :: r, h => by
    have hc := List.nodup_cons.mp h
    by_cases e : a = n
    · subst e
      rw [List.erase_cons_head, List.filter_cons, if_neg (by simp), filter_out hc.1]
    · rw [List.erase_cons_tail (by simpa using e), List.filter_cons, if_pos (by simp [e]), erase_filter hc.2]
theorem fl_filter {n : Int} : ∀ {q : List (List Int)} {l : Nat} {r : List Int}, q.flatten.Nodup → q[l]? = some r → n ∈ r → (q.set l (r.erase n)).flatten = q.flatten.filter (fun x => !decide (x = n))
  | [], _, _, _, h, _ => by simp at h
  | a :: q, 0, r, nd, h, m => by
    have e : a = r := Option.some.inj h
    subst e
    rw [List.flatten_cons] at nd
    have z := List.nodup_append.mp nd
    rw [List.set_cons_zero, List.flatten_cons, List.flatten_cons, List.filter_append, erase_filter z.1, filter_out (r := q.flatten) fun m2 => z.2.2 n m n m2 rfl]
  | a :: q, l + 1, r, nd, h, m => by
    rw [List.flatten_cons] at nd
    have z := List.nodup_append.mp nd
    have hm : n ∈ q.flatten := mem_fl (q := q) (l := l) h m
    rw [List.set_cons_succ, List.flatten_cons, List.flatten_cons, List.filter_append, fl_filter (q := q) (l := l) z.2.1 h m, filter_out (r := a) fun m2 => z.2.2 n m2 n hm rfl]
end Sl

set_option maxRecDepth 100000
set_option maxHeartbeats 1000000
namespace Sl
open PySem L2 PySem.Spec PyProof.Rows
/-! ### defs that are called while no text of an object is under way (then repr of lists is known) -/
structure FnG (P : Program) (w : World) (K : PySem.W.Frag) (mg : Str → Option Value) (base : Heap) (C : CXT) (k : Nat) (f : Addr) (fd : FuncData) (ps : List Str) (sp : Sp) : Prop where
  lenG : ∀ xs G R F, sp xs G R F → xs.length = ps.length
  runG : ∀ (B : Around) (out : List Env) (z : Shared) (G : Hp) (ar : Args) (ws : List Value) (xs : List V) (R : VK) (F : XK), B.guards = some [] → Room k B →
    Env0 P w K mg base B out z G → BindsTo z fd ar (ps.zip ws) → Vals xs ws → sp xs G R F → codeAny (model P w) B (.call (.ref f) ar) (CR C out P w G z R F) z
theorem FnG.of {P : Program} {w : World} {K : PySem.W.Frag} {mg : Str → Option Value} {base : Heap} {C : CXT} {k : Nat} {f : Addr} {fd : FuncData} {ps : List Str} {sp : Sp} (F : FnOk P w K mg base C k f fd ps sp) : FnG P w K mg base C k f fd ps sp :=
  ⟨F.len, fun B out z G ar ws xs R E _ hr => F.run B out z G ar ws xs R E hr⟩
section
variable {X : Cx} {C : CXT} {k : Nat} {f : Addr} {fd : FuncData} {ps : List Str} {sp : Sp} {dvs : List V} {ds : List Value} {E : XK} {x : Str} {p pos : Pos} {e : Expr} {es : List Expr} {t : TA}
theorem runs_g {pn : List (Addr × Obj)} {τ : L2.St} {G : Hp} {z : Shared} {R : VK} {ws : List Value} {xs : List V} (F : FnG X.prog X.w X.K X.mg X.base C k f fd ps sp) (gd : X.A.guards = some []) (hr : Room k X.A) (bd : Binds X.K fd ps ds) (dv : Vals dvs ds) (ex : Passes C X E)
    (J : L2.Inv X pn τ G z) (rv : Vals xs ws) (q : sp (xs ++ dvs) G R E) : wpAny (model X.prog X.w) X.A (call (.ref f) ws) (EP X pn τ R) X.xe z := by
  have rv2 := rv.append dv
  have hl : (ws ++ ds).length = ps.length := rv2.length.symm.trans (F.lenG _ _ _ _ q)
  have run := F.runG X.A X.stack z G ⟨ws, []⟩ (ws ++ ds) (xs ++ dvs) R E gd hr J.env0 (bd z ws J.kIn hl) rv2 q
  refine wpAny_call (codeAny_mono run ?_)
  intro out z2 done
  match out, done with
  | .error er, done => exact ex pn τ G z er z2 J done
  | .ok (.ret u), done => exact J.after done
theorem pe_callG (F : FnG X.prog X.w X.K X.mg X.base C k f fd ps sp) (gd : X.A.guards = some []) (hr : Room k X.A) (gl : Gl X x) (at_ : X.mg x = some (.ref f)) (kp : PySem.W.keepIn X.K (.ref f) = true) (bd : Binds X.K fd ps ds) (dv : Vals dvs ds) (ex : Passes C X E)
    (as_ : PA X (e :: es) t) (ndb : (x == ("__debug__" : Str)) = false := by decide) (st : starEach (e :: es) X.env = (false, eval e X.env) :: starEach es X.env := by rfl) (np : (backTo pos (starEach es X.env)).any (·.1) = false := by rfl) :
    PE X (.Call (.Name x p) (e :: es) [] pos) (tCall sp dvs E t) :=
  ⟨fun pn z τ G R J q => wpAny_Call_Name_kw (ld_glob J gl at_
    (PySem.W.callWith_K (h₀ := X.base) J.ok.mod.kin kp (thn (as_.run pos pn z τ G _ J q) fun _ _ ⟨_, _, J2, rv, q2⟩ => ⟨J2.kIn, runs_g F gd hr bd dv ex J2 rv q2⟩) st np) ndb)⟩
theorem pe_callG0 (F : FnG X.prog X.w X.K X.mg X.base C k f fd ps sp) (gd : X.A.guards = some []) (hr : Room k X.A) (gl : Gl X x) (at_ : X.mg x = some (.ref f)) (kp : PySem.W.keepIn X.K (.ref f) = true) (bd : Binds X.K fd ps ds) (dv : Vals dvs ds) (ex : Passes C X E)
    (ndb : (x == ("__debug__" : Str)) = false := by decide) : PE X (.Call (.Name x p) [] [] pos) (tCall sp dvs E tNil) :=
  ⟨fun _ _ _ _ _ J q => wpAny_Call_Name_kw (ld_glob J gl at_ (PySem.W.callWith_K0 J.kIn kp (runs_g (ws := []) F gd hr bd dv ex J .nil q)) ndb)⟩
/-! #### repr -/
def rRepr (K : PySem.W.Frag) : List V → Hp → VK → Prop := fun xs H Q => (∃ i, xs = [.int i] ∧ i.natAbs.log2 < 1920 ∧ Q (.str (toString i)) H) ∨
  (xs = [.non] ∧ Q (.str "None") H) ∨ ∃ a d, xs = [.ref a] ∧ Dp K H (.ref a) d ∧ SeqAt.shaped d = true ∧ d.showable = true ∧ d.shown.length ≤ sizeLine ∧ Q (.str d.shown) H
theorem u_repr (gd : X.A.guards = some []) (hu : X.A.units + 66 < cLine) : CallR X (.builtin "repr") (rRepr X.K) := by
  intro pn z τ G xs ws R J rv q
  rcases q with ⟨i, rfl, hi, q⟩ | ⟨rfl, q⟩ | ⟨a, d, rfl, hd, sd, sh, hl, q⟩
  · obtain ⟨u, rfl, t, rfl⟩ := vals1 rv
    exact PySem.P.repr_of_int hi ⟨.str _, G, J.tok _, ⟨_, rfl⟩, q⟩
  · obtain ⟨u, rfl, r2⟩ := vals1 rv
    obtain rfl : u = Value.none := r2
    exact PySem.P.repr_of_none ⟨.str _, G, J.tok _, ⟨_, rfl⟩, q⟩
  · obtain ⟨u, rfl, r⟩ := vals1 rv
    obtain rfl : u = Value.ref a := r
    obtain ⟨as_, rd⟩ := Dp.reads J d (.ref a) (.ref a) hd rfl
    have dp := SeqAt.depth_of_shaped sd
    have hy : d.hasDict = false := PyData.hasDict_of_canLay _ (SeqAt.canLay_of_shaped sd)
    exact repr_of_reads' rd sh (PyData.noDict_hsm hy) gd (by omega) (fun _ _ e => e) (fun h2 u tk kp => ⟨.str _, G, J.kept kp, ⟨_, rfl⟩, q⟩) hl
theorem k_repr {K : PySem.W.Frag} (e : X.K = K) (gd : X.A.guards = some []) (hu : X.A.units + 66 < cLine) : CallR X (.builtin "repr") (rRepr K) := e ▸ u_repr gd hu
end
/-! #### the walk of a def -/
theorem okG {P : Program} {w : World} {K : PySem.W.Frag} {mg : Str → Option Value} {base : Heap} {x qual : Str} {st : Stmt} {f : Addr} {fd : FuncData} {N ps : List Str} {k : Nat} {sp : Sp} (F : Fun K x qual st f fd) (S : FnScope N ps (defScope st)) (len : ∀ xs G R E, sp xs G R E → xs.length = ps.length)
    (walk : ∀ (cv : Value) (B : Around) (out : List Env) (z : Shared) (G : Hp) (xs : List V) (R : VK) (E : XK), (B.deeper (envOfC qual (defScope st) z.heap.objs.size f cv)).guards = some [] → Room k (B.deeper (envOfC qual (defScope st) z.heap.objs.size f cv)) → sp xs G R E →
      ∃ t, PSs (cxOf CX0 P w K mg base N qual (defScope st) f cv B out z G E).nox (defBody st) t ∧ t { nx := fun _ G' => R .non G', rt := R } (start N xs) G) : FnG P w K mg base CX0 (k + 1) f fd ps sp := by
  obtain ⟨oc, od, kV, doc, pm, an, cv, ct, osl, rfl, lk, hcd⟩ := F.ex
  constructor
  · exact len
  intro B out z G ar ws xs R E gd hr e0 bd rv q
  have ll := len xs G R E q
  have kz : K.In z.heap := e0.mod.kin.keeps fun b o e => (e0.bs b o e).1
  have lm : z.heap.NoLimit := e0.mod.nolimit.keeps fun b o e => (e0.bs b o e).1
  have knd : ∀ y ∈ ps.zip ws, (defScope st).names.lookup y.1 = some .local ∨ ((defScope st).names.lookup y.1 = some .cell ∧ ((cellsFrom (z.heap.objs.size + 1) (defScope st).names []).lookup y.1).isSome = true) := by
    intro y hy
    obtain ⟨n, v⟩ := y
    cases S.par n (List.of_mem_zip hy).1 with
    | inl q => exact Or.inl q
    | inr q => exact Or.inr ⟨q, PySem.W.cellsFrom_some _ _ _ (Or.inl q)⟩
  apply codeAny_call_function hr.depth (kz _ _ lk) rfl S.co S.gen rfl (PySem.W.codeRec_of kz hcd) (bd _ _ _ _ ?_)
  apply wpAny_newFunctionEnv_cells S.kind knd
  intro env he z1 mk
  subst he
  refine ⟨lm.keeps mk.toInCall.keep, codeAny_func ?_⟩
  obtain ⟨t, ht, tq⟩ := walk cv B out z G xs R E gd (hr.deeper _) q
  have J := inv_start (CX := CX0) (E := E) S hr.hd e0 ll rv mk
  refine wpAny_mono (ht.nox.run [] z1 (start N xs) G _ J tq) ?_ (fun _ _ hs => hs)
  intro fl z2 hs
  match fl, hs with
  | .ret u, ⟨v, τ, G2, J2, rv2, q2⟩ => exact ⟨v, G2, J2.os, J2.bare, J2.base, J2.hok, rv2, q2⟩
  | .next, ⟨τ, G2, J2, q2⟩ => exact ⟨V.non, G2, J2.os, J2.bare, J2.base, J2.hok, rfl, q2⟩
  | .brk, ⟨_, _, _, q2⟩ => exact False.elim q2
  | .cont, ⟨_, _, _, q2⟩ => exact False.elim q2
/-! #### the law's own call -/
theorem lawG {P : Program} {w : World} {K : PySem.W.Frag} {mg mb : Str → Option Value} {k : Nat} {fa a : Addr} {fd : FuncData} {x : Str} {sp : Sp} {z : Shared} {us : List Value} {ns : List Int}
    (kz : K.In z.heap) (gns : z.heap.Ns mainGlobals mg) (bns : z.heap.Ns builtinsNs mb) (bt : ∀ y : Str, y ≠ "__name__" → mb y = bootBuiltins y) (lm : z.heap.NoLimit) (g0 : z.gens = #[])
    (at_ : z.heap.get? a = some { cls := .type "list", data := .seq us.toArray }) (ia : IntsAre us ns) (few : ns.length ≤ sizeLine) (room : Room k callerA)
    (F : ∀ base : Heap, K.In base → base.Ns mainGlobals mg → FnG P w K mg base CX0 k fa fd [x] sp) (bd : ∀ (s : Shared) (u : Value), BindsTo s fd ⟨[u], []⟩ [(x, u)])
    (start : ∀ G : Hp, Only G → SqL K G a (ns.map V.int) → sp [.ref a] G (fun v _ => v = .bl true) fun _ _ _ => False) :
    codeAny (model P w) callerA (.call (.ref fa) ⟨[.ref a], []⟩) (fun r s' => r = .ok (.ret (.bool true)) ∧ OldK z.heap s'.heap ∧ s'.os = z.os ∧ AllBare s'.gens) z := by
  have rv := vals_ints ia
  have cnt := ia.length
  have main : ∀ G : Hp, Only G → SqL K G a (ns.map V.int) → HOk P w G z.heap → (∀ b, G b ≠ none → b = a) → (G a ≠ none → K.lookup a = none) →
      codeAny (model P w) callerA (.call (.ref fa) ⟨[.ref a], []⟩) (fun r s' => r = .ok (.ret (.bool true)) ∧ OldK z.heap s'.heap ∧ s'.os = z.os ∧ AllBare s'.gens) z := by
    intro G only sq ok own free
    have low : ∀ {b : Addr} {o : Obj}, z.heap.get? b = some o → G b = none → (hidT z.heap G).get? b = some o := fun e n => hidT_get e n
    have noDict : ∀ {b : Addr} {o : Obj} {es : Array DictEntry} {ep : Nat}, z.heap.get? b = some o → o.data = .dict es ep → G b = none := by
      intro b o es ep e d
      apply Classical.byContradiction
      intro q
      cases own b q
      rw [at_] at e
      cases e
      cases d
    have low2 : ∀ {ad : Addr} {m : Str → Option Value}, z.heap.Ns ad m → (hidT z.heap G).Ns ad m := fun hm => by
      obtain ⟨o, es, ep, e, d, r⟩ := hm
      exact ⟨o, es, ep, low e (noDict e d), d, r⟩
    have kb : K.In (hidT z.heap G) := by
      intro b o e
      refine low (kz b o e) (Classical.byContradiction fun q => ?_)
      cases own b q
      rw [free q] at e
      cases e
    have md : Mod K mg (hidT z.heap G) := ⟨kb, low2 gns, ⟨mb, low2 bns, bt⟩, let ⟨mc, h1, h2⟩ := lm; ⟨mc, low2 h1, h2⟩⟩
    have e0 : Env0 P w K mg (hidT z.heap G) callerA [] z G :=
      ⟨rfl, md, fun _ _ e => of_hidT e, Nat.le_of_eq (hidT_size _ _), trivial, fun b hb => (nomatch (show b ∈ ([] : List Addr) from hb)), ok, .of_eq g0⟩
    have run := (F _ kb (low2 gns)).runG callerA [] z G ⟨[.ref a], []⟩ [.ref a] [.ref a] _ _ rfl room e0 (bd z (.ref a)) (.cons rfl .nil) (start G only sq)
    refine codeAny_mono run ?_
    intro r s2 done
    match r, done with
    | .error e, done => exact (show False from done).elim
    | .ok (.ret u), ⟨v, G2, os, bare, un, ok2, rv2, q⟩ =>
      cases (show v = .bl true from q)
      cases (show u = Value.bool true from rv2)
      refine ⟨rfl, OldK.of_keep ?_, os, bare⟩
      intro b o e
      cases q : G b with
      | none => exact un.keep b o e q (fun i => nomatch (show b ∈ ([] : List Addr) from i)) (by simp)
      | some u =>
        cases only b with
        | inl n => rw [q] at n; cases n
        | inr n =>
          obtain ⟨ob, xs, n⟩ := n
          have n2 := un.frzs b ob _ n
          obtain ⟨e1, _⟩ := ok b _ n
          obtain ⟨e2, _⟩ := ok2 b _ n2
          rw [e] at e1
          cases e1
          exact e2
  cases hk : K.lookup a with
  | some o =>
    have e := kz a o hk
    rw [at_] at e
    cases e
    exact main (fun _ => none) (fun _ => .inl rfl) (.inr ⟨_, us.toArray, _, hk, rfl, rfl, rfl, by rw [List.size_toArray, cnt]; exact few, by simpa using rv⟩) (fun b u q => nomatch (show (none : Option HO) = some u from q)) (fun b q => absurd rfl q) fun q => absurd rfl q
  | none =>
    have at1 : ∀ b u, (if b = a then some (HO.frz { cls := .type "list", data := .seq us.toArray } (.lst (ns.map V.int))) else none) = some u → b = a ∧ u = .frz { cls := .type "list", data := .seq us.toArray } (.lst (ns.map V.int)) := by
      intro b u q
      split at q
      · rename_i e
        exact ⟨e, (Option.some.inj q).symm⟩
      · cases q
    refine main (fun b => if b = a then some (.frz { cls := .type "list", data := .seq us.toArray } (.lst (ns.map V.int))) else none) ?_ (.inl (.inr ⟨{ cls := .type "list", data := .seq us.toArray }, if_pos rfl⟩)) ?_ ?_ fun _ => hk
    · intro b
      by_cases e : b = a
      · exact .inr ⟨_, _, if_pos e⟩
      · exact .inl (if_neg e)
    · intro b u q
      obtain ⟨rfl, rfl⟩ := at1 b u q
      exact ⟨at_, by rw [List.length_map]; exact few, us, _, rv, at_⟩
    · intro b q
      apply Classical.byContradiction
      intro e
      exact q (if_neg e)
theorem walkG {l : PySem.W.OpenLaw} {n k : Nat} {q : Program} {loose : List Str} {XP : (Str → Option Value) → Heap → Prop} {YP : World → Heap → Prop} {d : DefRec} {K : Params → PySem.W.Frag} {sp : PySem.W.Frag → Sp} {x : Str}
    (most : l.most = some n) (le : n ≤ sizeLine) (nod : d.params.defaults = []) (room : Room k callerA) (y : ∀ (w : World) (h : Heap), YP w h → (K w.params).In h)
    (F : ∀ (w : World) (mg : Str → Option Value) (fa : Addr) (h : Heap), (K w.params).In h → h.Ns mainGlobals mg → mg d.name = some (.ref fa) →
      ∃ fd : FuncData, (∀ (s : Shared) (u : Value), BindsTo s fd ⟨[u], []⟩ [(x, u)]) ∧ ∀ base : Heap, (K w.params).In base → base.Ns mainGlobals mg → FnG l.prog w (K w.params) mg base CX0 k fa fd [x] (sp (K w.params)))
    (go : ∀ (K : PySem.W.Frag) (G : Hp) (a : Addr) (ns : List Int), ns.length ≤ n → Only G → SqL K G a (ns.map V.int) → sp K [.ref a] G (fun v _ => v = .bl true) fun _ _ _ => False) :
    PySem.W.WalkO q loose XP YP l.row.toRowW d [] (fun f vs => PySem.call f vs) :=
  Att.attach_call most nod fun w _ z mg _ fa _ _ _ _ a _ ns G Y _ _ _ at_ ob ia few g0 =>
    have ⟨_, bd, F2⟩ := F w mg fa _ (y w _ Y) G.T.g at_
    lawG (y w _ Y) G.T.g G.T.b G.T.builtins G.T.nolimit g0 ob ia (Nat.le_trans few le) room F2 bd fun H o s => go _ H a ns few o s
end Sl

set_option maxRecDepth 100000
set_option maxHeartbeats 1000000
namespace Sl
open PySem L2
/-! ### turns of which few steps are done (no lift) -/
theorem counted_no {u : TU} (h0 : 0 ≤ u.steps) (h : u.steps < 62) : u.counted = { u with steps := u.steps + 1 } := if_pos (by omega)
structure W34 (u : TU) (ws : List Int) (last : Int) (cnt st : Nat) : Prop where
  ok : u.Ok
  nd : (u.q.flatten ++ ws).Nodup
  le : ∀ x ∈ u.q.flatten ++ ws, x ≤ last
  wd : ∀ x ∈ ws, ∃ l : Nat, l < 4 ∧ getI u.dep x = some (l : Int)
  few : u.q.flatten.length + ws.length ≤ cnt
  dp : u.dep.length ≤ cnt
  s0 : 0 ≤ u.steps
  st : u.steps ≤ (st : Int)
section
variable {u : TU} {ws : List Int} {last : Int} {cnt st : Nat} {n : Int}
theorem W34.new : W34 TU.new [] 0 0 0 := by
  refine ⟨⟨rfl, fun l r n e m => ?_, fun n l e => (nomatch e), fun n e => (nomatch e), (by decide : ([[], [], [], []] : List (List Int)).flatten.Nodup)⟩, by decide, fun x hx => (nomatch hx), fun x hx => (nomatch hx), by decide, by decide, by decide, by decide⟩
  have e : ([[], [], [], []] : List (List Int))[l]? = some r := e
  have hl : l < 4 := (List.getElem?_eq_some_iff.mp e).1
  have el : l = 0 ∨ l = 1 ∨ l = 2 ∨ l = 3 := by omega
  rcases el with rfl | rfl | rfl | rfl <;> (cases e; cases m)
theorem W34.more {last' : Int} {cnt' st' : Nat} (w : W34 u ws last cnt st) (a : last ≤ last') (b : cnt ≤ cnt') (c : st ≤ st') : W34 u ws last' cnt' st' :=
  ⟨w.ok, w.nd, fun x hx => Int.le_trans (w.le x hx) a, w.wd, Nat.le_trans w.few b, Nat.le_trans w.dp b, w.s0, by have := w.st; omega⟩
theorem W34.next (w : W34 u ws last cnt st) : W34 u.next ws last cnt st := by
  obtain ⟨e1, e2, e3⟩ := next_same u
  exact ⟨w.ok.next, by rw [e1]; exact w.nd, by rw [e1]; exact w.le, by rw [e2]; exact w.wd, by rw [e1]; exact w.few, by rw [e2]; exact w.dp, by rw [e3]; exact w.s0, by rw [e3]; exact w.st⟩
theorem next_runs (o : u.Ok) (ne : u.q.flatten ≠ []) : ∃ h, u.next.runs = some h := by
  unfold TU.next
  cases hr : u.runs with
  | some h => exact ⟨h, hr⟩
  | none =>
    cases hh : u.q.flatten.head? with
    | none => exact (ne (List.head?_eq_none_iff.mp hh)).elim
    | some n => exact ⟨n, rfl⟩
theorem getI_put_self (d : List (Int × Int)) (n l : Int) : getI (putI d n l) n = some l := by rw [getI_put, if_pos rfl]
/-- one stands -/
theorem W34.stand (w : W34 u ws last cnt st) {l : Nat} (hl : l < 4) (hn : last < n) : W34 (u.stand n l) ws n (cnt + 1) st := by
  have no : n ∉ u.q.flatten := fun m => by have := w.le n (List.mem_append_left _ m); omega
  have now : n ∉ ws := fun m => by have := w.le n (List.mem_append_right _ m); omega
  have pm := pm_stand (u := u) (n := n) (l := l) (by rw [w.ok.four]; exact hl)
  have pm2 : ((u.stand n l).q.flatten ++ ws).Perm (n :: (u.q.flatten ++ ws)) := List.Perm.append_right ws pm
  refine ⟨w.ok.stand hl no, (List.Perm.nodup_iff pm2).mpr (List.nodup_cons.mpr ⟨fun m => (List.mem_append.mp m).elim no now, w.nd⟩), fun x hx => ?_, fun x hx => ?_, ?_, ?_, w.s0, w.st⟩
  · rcases List.mem_cons.mp (pm2.subset hx) with e | e
    · omega
    · have := w.le x e; omega
  · obtain ⟨k, hk, e⟩ := w.wd x hx
    refine ⟨k, hk, ?_⟩
    show getI (putI u.dep n _) x = _
    rw [getI_put, if_neg (fun e2 : x = n => now (by rw [← e2]; exact hx))]
    exact e
  · have := pm.length_eq
    rw [List.length_cons] at this
    have := w.few
    omega
  · have := len_putI u.dep n (l : Int)
    have := w.dp
    exact Nat.le_trans (len_putI u.dep n (l : Int)) (by omega)
/-- one that waits stands again -/
theorem W34.wake (w : W34 u ws last cnt st) {l : Nat} (hn : n ∈ ws) (hg : getI u.dep n = some (l : Int)) : W34 (u.stand n l) (ws.erase n) last cnt st := by
  have hl := w.ok.lv n _ hg
  have nd := List.nodup_append.mp w.nd
  have no : n ∉ u.q.flatten := fun m => nd.2.2 n m n hn rfl
  have pm := pm_stand (u := u) (n := n) (l := l) (by rw [w.ok.four]; omega)
  have pk : (n :: ws.erase n).Perm ws := (List.perm_cons_erase hn).symm
  have pm2 : ((u.stand n l).q.flatten ++ ws.erase n).Perm (u.q.flatten ++ ws) := (List.Perm.append_right _ pm).trans ((List.perm_middle.symm).trans (List.Perm.append_left _ pk))
  refine ⟨w.ok.stand (by omega) no, (List.Perm.nodup_iff pm2).mpr w.nd, fun x hx => w.le x (pm2.subset hx), fun x hx => ?_, ?_, ?_, w.s0, w.st⟩
  · obtain ⟨k, hk, e⟩ := w.wd x (List.mem_of_mem_erase hx)
    refine ⟨k, hk, ?_⟩
    show getI (putI u.dep n _) x = _
    rw [getI_put]
    split
    · rename_i e2
      subst e2
      rw [hg] at e
      exact e
    · exact e
  · have := pm2.length_eq
    rw [List.length_append, List.length_append] at this
    have := w.few
    omega
  · show (putI u.dep n _).length ≤ _
    rw [getI_old hg]
    exact w.dp
theorem W34.wait (w : W34 u ws last cnt st) (hr : u.runs = some n) (hs : st < 62) : W34 (u.waitN n).counted (ws ++ [n]) last cnt (st + 1) := by
  obtain ⟨o, pm, no, dp⟩ := wait_fl w.ok hr
  have hst : (u.waitN n).steps = u.steps := rfl
  have e := counted_no (u := u.waitN n) (by rw [hst]; exact w.s0) (by rw [hst]; have := w.st; omega)
  obtain ⟨l, r, hg, _, m, hl⟩ := lev_of w.ok (w.ok.run n hr).1
  have pm2 : ((u.waitN n).q.flatten ++ (ws ++ [n])).Perm (u.q.flatten ++ ws) := by
    rw [← List.append_assoc]
    exact (List.perm_append_comm.trans (List.Perm.append_right ws pm))
  have fl := fl_counted (u.waitN n)
  refine ⟨o.counted, by rw [fl]; exact (List.Perm.nodup_iff pm2).mpr w.nd, fun x hx => w.le x (pm2.subset (by rw [fl] at hx; exact hx)), fun x hx => ?_, ?_, ?_, ?_, ?_⟩
  · rw [e]
    show ∃ l : Nat, l < 4 ∧ getI (u.waitN n).dep x = some (l : Int)
    rw [dp]
    rcases List.mem_append.mp hx with hx | hx
    · exact w.wd x hx
    · rw [List.mem_singleton.mp hx]
      exact ⟨l, hl, hg⟩
  · rw [fl]
    have := pm2.length_eq
    rw [List.length_append] at this
    rw [this, List.length_append]
    exact w.few
  · exact Nat.le_trans (dp_counted _) (by rw [dp]; exact w.dp)
  · rw [e]
    show 0 ≤ u.steps + 1
    have := w.s0
    omega
  · rw [e]
    show u.steps + 1 ≤ _
    have := w.st
    omega
theorem W34.step (w : W34 u ws last cnt st) (hs : st < 62) {v : TU} (o : v.Ok) (pm : v.q.flatten.Perm u.q.flatten) (dl : v.dep.length = u.dep.length) (ds : ∀ x l, getI u.dep x = some l → ∃ l', getI v.dep x = some l') (es : v.steps = u.steps) : W34 v.counted ws last cnt (st + 1) := by
  have e := counted_no (u := v) (by rw [es]; exact w.s0) (by rw [es]; have := w.st; omega)
  have pm2 : (v.q.flatten ++ ws).Perm (u.q.flatten ++ ws) := List.Perm.append_right ws pm
  have fl := fl_counted v
  refine ⟨o.counted, by rw [fl]; exact (List.Perm.nodup_iff pm2).mpr w.nd, fun x hx => w.le x (pm2.subset (by rw [fl] at hx; exact hx)), fun x hx => ?_, ?_, ?_, ?_, ?_⟩
  · obtain ⟨l, hl, hg⟩ := w.wd x hx
    obtain ⟨l', hg'⟩ := ds x _ hg
    have := o.lv x l' hg'
    rw [e]
    exact ⟨l'.toNat, by omega, by show getI v.dep x = _; rw [hg']; congr 1; omega⟩
  · rw [fl, pm.length_eq]
    exact w.few
  · exact Nat.le_trans (dp_counted _) (by rw [dl]; exact w.dp)
  · rw [e]
    show 0 ≤ v.steps + 1
    rw [es]
    have := w.s0
    omega
  · rw [e]
    show v.steps + 1 ≤ _
    rw [es]
    have := w.st
    omega
theorem went_steps (u : TU) (n : Int) : (u.wentN n).steps = u.steps := by
  unfold TU.wentN
  split <;> rfl
theorem W34.went (w : W34 u ws last cnt st) (hr : u.runs = some n) (hs : st < 62) : W34 (u.wentN n).counted ws last cnt (st + 1) := by
  obtain ⟨a, b, c, d⟩ := went_fl w.ok hr
  exact w.step hs a b c d (went_steps u n)
theorem W34.pass (w : W34 u ws last cnt st) (hr : u.runs = some n) (hs : st < 62) : W34 (u.passN n).counted ws last cnt (st + 1) := by
  obtain ⟨a, b, c, d⟩ := pass_fl w.ok hr
  exact w.step hs a b c d rfl
/-- the row of a level behind a standing -/
theorem row_stand {l : Nat} {r : List Int} (h : u.q[l]? = some r) : (u.stand n l).q[l]? = some (r ++ [n]) := by
  have hl := (List.getElem?_eq_some_iff.mp h).1
  show (u.q.set l (u.row l ++ [n]))[l]? = _
  rw [row_at h, List.getElem?_set_self hl]
theorem row_over {l : Nat} {r : List Int} (h : u.q[l]? = some r) : (u.over n l).q[l]? = some (r.erase n) := by
  have hl := (List.getElem?_eq_some_iff.mp h).1
  show (u.q.set l ((u.row l).erase n))[l]? = _
  rw [row_at h, List.getElem?_set_self hl]
theorem row_nd (o : u.Ok) {l : Nat} {r : List Int} (h : u.q[l]? = some r) : r.Nodup := by
  have : r.Sublist u.q.flatten := List.sublist_flatten_of_mem (List.mem_of_getElem? h)
  exact o.nd.sublist this
theorem next_stand {l : Nat} (o : u.Ok) (ne : u.q.flatten ≠ []) : (u.next.stand n l).next = u.next.stand n l := by
  obtain ⟨h, e⟩ := next_runs o ne
  have e2 : (u.next.stand n l).runs = some h := e
  show (match (u.next.stand n l).runs with
    | some _ => u.next.stand n l
    | none => _) = _
  rw [e2]
theorem runs_none (o : u.Ok) (e : u.q.flatten = []) : u.runs = none := by
  cases hr : u.runs with
  | none => rfl
  | some h =>
    have := (o.run h hr).1
    rw [e] at this
    cases this
theorem next_first {l : Nat} (o : u.Ok) (e : u.q.flatten = []) (hl : l < 4) : (u.stand n l).next.runs = some n ∧ (u.stand n l).next.rest = sliceOf l := by
  have pm := pm_stand (u := u) (n := n) (l := l) (by rw [o.four]; exact hl)
  rw [e] at pm
  have e1 : (u.stand n l).q.flatten = [n] := List.perm_singleton.mp pm
  have e2 : (u.stand n l).runs = none := (show (u.stand n l).runs = u.runs from rfl).trans (runs_none o e)
  have e3 : (u.stand n l).lev n = l := lev_at (getI_put_self _ _ _)
  unfold TU.next
  rw [e2]
  dsimp only
  rw [e1, List.head?_cons]
  dsimp only
  rw [e3]
  exact ⟨rfl, rfl⟩
theorem stand_ne {l : Nat} (o : u.Ok) (hl : l < 4) : (u.stand n l).q.flatten ≠ [] := fun e => by
  have pm := pm_stand (u := u) (n := n) (l := l) (by rw [o.four]; exact hl)
  rw [e] at pm
  have := pm.length_eq
  simp at this
theorem went_ne (o : u.Ok) (hr : u.runs = some n) : (u.wentN n).counted.q.flatten ≠ [] := fun e => by
  have pm := (went_fl o hr).2.1
  rw [fl_counted] at e
  rw [e] at pm
  have := (o.run n hr).1
  rw [List.nil_perm.mp pm] at this
  cases this
end
end Sl

set_option maxRecDepth 100000
set_option maxHeartbeats 1000000
namespace Sl
open PySem L2
/-! ### comprehensions whose turns change nothing else -/
section
variable {K : PySem.W.Frag} {σ : L2.St} {H : Hp} {te : TE} {tt : TT} {g : TG} {Q : VK} {L : List SA} {a : Addr} {vs : List Nat}
/-- over values -/
theorem r_lcV (xs : List V) (p : V → Bool) (f : V → V) (hh : Hd L H) (hz : xs.length < 100000) (hl : ∀ H, Hd L H → SqL K H a xs)
    (step : ∀ (D : Addr) (acc : List V) (x : V) H (N : V → Hp → Prop) (M : Hp → Prop), x ∈ xs → Hd (pto D (.lst acc) :: L) H → (p x = true → N (f x) H) → (p x = false → M H) →
      g x (wipe σ vs) H fun σ2 H2 => wipe σ2 vs = wipe σ vs ∧ tt σ2 H2 fun b H3 => if b = true then te σ2 H3 N else M H3)
    (hd : ∀ D H, Hd (pto D (.lst ((xs.filter p).map f)) :: L) H → Q (.ref D) H) : LcK g tt te vs σ Q (Itl K a) H := by
  refine r_lcL xs (fun D i H => Hd (pto D (.lst (((xs.take i).filter p).map f)) :: L) H) hh (fun D H h => h) (fun D i H _ h => hl H h.tl) (fun D i x H hx h => ?_) (fun D H h => ?_)
  · have e : xs.take (i + 1) = xs.take i ++ [x] := by rw [List.take_add_one, hx]; rfl
    refine step D _ x H _ _ (List.mem_of_getElem? hx) h (fun pt => ?_) (fun pf => ?_)
    · refine ⟨_, h.get .here, ?_, ?_⟩
      · refine szlt ?_
        rw [List.length_map]
        exact Nat.lt_of_le_of_lt (List.length_filter_le _ _) (Nat.lt_of_le_of_lt (List.length_take_le' _ _) (by omega))
      · rw [e, List.filter_append, List.map_append, List.filter_cons, if_pos pt]
        exact h.set .here fun z => z
    · rw [e, List.filter_append, List.filter_cons, if_neg (by rw [pf]; exact Bool.false_ne_true)]
      simpa using h
  · rw [List.take_length] at h
    exact hd D H h
/-- over numbers -/
theorem r_lcI (ns : List Int) (p : Int → Bool) (f : Int → V) (hh : Hd L H) (hz : ns.length < 100000) (hl : ∀ H, Hd L H → SqL K H a (ns.map V.int))
    (step : ∀ (D : Addr) (acc : List V) (n : Int) H (N : V → Hp → Prop) (M : Hp → Prop), n ∈ ns → Hd (pto D (.lst acc) :: L) H → (p n = true → N (f n) H) → (p n = false → M H) →
      g (.int n) (wipe σ vs) H fun σ2 H2 => wipe σ2 vs = wipe σ vs ∧ tt σ2 H2 fun b H3 => if b = true then te σ2 H3 N else M H3)
    (hd : ∀ D H, Hd (pto D (.lst ((ns.filter p).map f)) :: L) H → Q (.ref D) H) : LcK g tt te vs σ Q (Itl K a) H := by
  refine r_lcL (ns.map V.int) (fun D i H => Hd (pto D (.lst (((ns.take i).filter p).map f)) :: L) H) hh (fun D H h => h) (fun D i H _ h => hl H h.tl) (fun D i x H hx h => ?_) (fun D H h => ?_)
  · rw [List.getElem?_map] at hx
    obtain ⟨n, hx2, rfl⟩ := Option.map_eq_some_iff.mp hx
    have e : ns.take (i + 1) = ns.take i ++ [n] := by rw [List.take_add_one, hx2]; rfl
    refine step D _ n H _ _ (List.mem_of_getElem? hx2) h (fun pt => ?_) (fun pf => ?_)
    · refine ⟨_, h.get .here, ?_, ?_⟩
      · refine szlt ?_
        rw [List.length_map]
        exact Nat.lt_of_le_of_lt (List.length_filter_le _ _) (Nat.lt_of_le_of_lt (List.length_take_le' _ _) (by omega))
      · rw [e, List.filter_append, List.map_append, List.filter_cons, if_pos pt]
        exact h.set .here fun z => z
    · rw [e, List.filter_append, List.filter_cons, if_neg (by rw [pf]; exact Bool.false_ne_true)]
      simpa using h
  · rw [List.length_map, List.take_length] at h
    exact hd D H h
/-- over a range -/
theorem r_lcN {lo : Int} {n : Nat} (p : Nat → Bool) (f : Nat → V) (hh : Hd L H) (hz : n < 100000)
    (step : ∀ (D : Addr) (acc : List V) (i : Nat) H (N : V → Hp → Prop) (M : Hp → Prop), i < n → Hd (pto D (.lst acc) :: L) H → (p i = true → N (f i) H) → (p i = false → M H) →
      g (.int (lo + (i : Nat))) (wipe σ vs) H fun σ2 H2 => wipe σ2 vs = wipe σ vs ∧ tt σ2 H2 fun b H3 => if b = true then te σ2 H3 N else M H3)
    (hd : ∀ D H, Hd (pto D (.lst (((List.range n).filter p).map f)) :: L) H → Q (.ref D) H) : LcK g tt te vs σ Q (Itr lo n) H := by
  refine r_lcR (fun D i H => Hd (pto D (.lst (((List.range i).filter p).map f)) :: L) H) hh (fun D H h => h) (fun D i H hi h => ?_) hd
  refine step D _ i H _ _ hi h (fun pt => ?_) (fun pf => ?_)
  · refine ⟨_, h.get .here, ?_, ?_⟩
    · refine szlt ?_
      rw [List.length_map]
      exact Nat.lt_of_le_of_lt (List.length_filter_le _ _) (by rw [List.length_range]; omega)
    · rw [List.range_succ, List.filter_append, List.map_append, List.filter_cons, if_pos pt]
      exact h.set .here fun z => z
  · rw [List.range_succ, List.filter_append, List.filter_cons, if_neg (by rw [pf]; exact Bool.false_ne_true)]
    simpa using h
end
theorem r_rem {H : Hp} {Q : VK} {L L' : List SA} {a : Addr} {ns : List Int} {n : Int} (hs : Hd L H) (p : Put (pto a (.lst (ns.map V.int))) (pto a (.lst ((ns.erase n).map V.int))) L L') (hm : n ∈ ns) (q : ∀ H', Hd L' H' → Q .non H') : rRemI (.ref a) [.int n] H Q := by
  obtain ⟨M, pa, _⟩ := p.pulls
  exact r_removeX (hs.get pa) hm (q _ (hs.set p fun z => z))
theorem mI_snoc (ns : List Int) (n : Int) : ns.map V.int ++ [V.int n] = (ns ++ [n]).map V.int := by simp
theorem r_join {B : Prop} {R : Hp → Prop} (P : Hp → Prop) (f : (∀ H, P H → R H) → B) (a : ∀ H, P H → R H) : B := f a
end Sl

set_option maxRecDepth 100000
set_option maxHeartbeats 1000000
namespace Sl
open PySem L2
/-! ### while; two at once; rows as data -/
def WhK (W : Nat → L2.St → Hp → Prop) (m : Nat) (tb : TS) (D : Ends) (σ : L2.St) (H : Hp) : Prop := ∃ N : L2.St → Hp → Prop, (∀ σ' H', N σ' H' → ∃ m', m' < m ∧ W m' σ' H') ∧ tb { D with nx := N, ct := N, bk := D.nx } σ H
def ParK (i j : Nat) (D : Ends) (σ : L2.St) (vs : List V) (H : Hp) : Prop := ∃ v w, vs = [v, w] ∧ D.nx ((σ.set i (some v)).set j (some w)) H
section
variable {K : PySem.W.Frag} {σ : L2.St} {H : Hp} {D : Ends} {tb : TS} {c : TT} {tr : TA} {v w : V} {i j : Nat}
theorem r_while (W : Nat → L2.St → Hp → Prop) (m0 : Nat) (h0 : W m0 σ H) (hs : ∀ m σ H, W m σ H → c σ H fun b H1 => if b = true then WhK W m tb D σ H1 else D.nx σ H1) : tWhile c tb D σ H := ⟨W, ⟨m0, h0⟩, hs⟩
theorem r_whK {W : Nat → L2.St → Hp → Prop} {m : Nat} (q : tb { D with nx := fun σ' H' => ∃ m', m' < m ∧ W m' σ' H', ct := fun σ' H' => ∃ m', m' < m ∧ W m' σ' H', bk := D.nx } σ H) : WhK W m tb D σ H := ⟨_, fun _ _ z => z, q⟩
theorem r_par2 (q : tr σ H (ParK i j D σ)) : tPar i j tr D σ H := q
theorem r_parK (q : D.nx ((σ.set i (some v)).set j (some w)) H) : ParK i j D σ [v, w] H := ⟨v, w, rfl, q⟩
end
def rowD (r : List Int) : PyData := .list (r.map PyData.int)
theorem dp_rowD {K : PySem.W.Frag} {H : Hp} {t : Addr} {ws : List Int} (h : SqL K H t (ws.map V.int)) : Dp K H (.ref t) (rowD ws) := .lst h (dp_ints ws)
theorem dp_rowAll {K : PySem.W.Frag} {H : Hp} : ∀ {ls : List Addr} {q : List (List Int)}, ls.length = q.length → (∀ (i : Nat) a r, ls[i]? = some a → q[i]? = some r → SqL K H a (r.map V.int)) → DpAll K H (ls.map V.ref) (q.map rowD)
  | [], [], _, _ => .nil
  | [], _ :: _, h, _ => nomatch h
  | _ :: _, [], h, _ => nomatch h
  | a :: ls, r :: q, h, f => .cons (dp_rowD (f 0 a r rfl rfl)) (dp_rowAll (Nat.succ.inj h) fun i b s e1 e2 => f (i + 1) b s e1 e2)
theorem dp_rows {K : PySem.W.Frag} {H : Hp} {ls : List Addr} {q : List (List Int)} {L L' : List SA} (h : Hd L H) (p : Pull (rowsA ls (rowsV q)) L L') : DpAll K H (ls.map V.ref) (q.map rowD) := by
  refine dp_rowAll (rows_count h p) fun i a r e1 e2 => SqL.of (rows_get h p e1 ?_)
  simp [rowsV, e2]
theorem cl_rows : ∀ q : List (List Int), PyData.canLayAll0 (q.map rowD) = true
  | [] => rfl
  | r :: q => by
    rw [List.map_cons, PyData.canLayAll0, cl_rows q, rowD, PyData.canLay0, cl_ints]
    rfl
theorem dt_rows : ∀ q : List (List Int), PyData.depthAll (q.map rowD) ≤ 2
  | [] => by decide
  | r :: q => by
    have h := dt_rows q
    have h2 := dt_ints r
    rw [List.map_cons, PyData.depthAll, rowD, PyData.depth]
    omega
theorem sh_listR (q : List (List Int)) : SeqAt.shaped (.list (q.map rowD)) = true := by
  have h := dt_rows q
  unfold SeqAt.shaped
  rw [PyData.canLay0, cl_rows, Bool.true_and]
  apply decide_eq_true
  rw [PyData.depth]
  omega
theorem sh_tupR (q : List (List Int)) : SeqAt.shaped (.tuple (q.map rowD)) = true := by
  have h := dt_rows q
  unfold SeqAt.shaped
  rw [PyData.canLay0, cl_rows, Bool.true_and]
  apply decide_eq_true
  rw [PyData.depth]
  omega
theorem eqv_self {d : PyData} (h : SeqAt.shaped d = true) : PyData.eqv d d = true := SeqAt.eqv_refl _ (SeqAt.canLay_of_shaped h)
/-- x == y of the same data -/
theorem r_eqD1 {K : PySem.W.Frag} {H : Hp} {x y : V} {Q : VK} {d : PyData} (h1 : Dp K H x d) (h2 : Dp K H y d) (s : SeqAt.shaped d = true) (q : Q (.bl true) H) : rEqU K x y H Q := r_eqSame h1 h2 s (eqv_self s) q
theorem r_neD1 {K : PySem.W.Frag} {H : Hp} {x y : V} {Q : VK} {d : PyData} (h1 : Dp K H x d) (h2 : Dp K H y d) (s : SeqAt.shaped d = true) (q : Q (.bl false) H) : rNeU K x y H Q := r_neSame h1 h2 s (eqv_self s) q
/-- a list of one thing a number of a range -/
theorem r_lcM {σ : L2.St} {H : Hp} {te : TE} {tt : TT} {g : TG} {Q : VK} {L : List SA} {vs : List Nat} {lo : Int} {n : Nat} (f : Nat → V) (hh : Hd L H) (hz : n < 100000)
    (step : ∀ (D : Addr) (acc : List V) (i : Nat) H (N : V → Hp → Prop) (M : Hp → Prop), i < n → Hd (pto D (.lst acc) :: L) H → N (f i) H →
      g (.int (lo + (i : Nat))) (wipe σ vs) H fun σ2 H2 => wipe σ2 vs = wipe σ vs ∧ tt σ2 H2 fun b H3 => if b = true then te σ2 H3 N else M H3)
    (hd : ∀ D H, Hd (pto D (.lst ((List.range n).map f)) :: L) H → Q (.ref D) H) : LcK g tt te vs σ Q (Itr lo n) H :=
  r_lcN (p := fun _ => true) f hh hz (fun D acc i H N M hi hs a _ => step D acc i H N M hi hs (a rfl)) fun D H h => hd D H (by
    have e : (List.range n).filter (fun _ => true) = List.range n := List.filter_eq_self.mpr fun _ _ => rfl
    rw [e] at h
    exact h)
/-- a list that stays empty -/
theorem r_lcO {σ : L2.St} {H : Hp} {te : TE} {tt : TT} {g : TG} {Q : VK} {L : List SA} {vs : List Nat} {lo : Int} {n : Nat} (hh : Hd L H) (hz : n < 100000)
    (step : ∀ (D : Addr) (acc : List V) (i : Nat) H (N : V → Hp → Prop) (M : Hp → Prop), i < n → Hd (pto D (.lst acc) :: L) H → M H →
      g (.int (lo + (i : Nat))) (wipe σ vs) H fun σ2 H2 => wipe σ2 vs = wipe σ vs ∧ tt σ2 H2 fun b H3 => if b = true then te σ2 H3 N else M H3)
    (hd : ∀ D H, Hd (pto D (.lst []) :: L) H → Q (.ref D) H) : LcK g tt te vs σ Q (Itr lo n) H :=
  r_lcN (p := fun _ => false) (fun _ => .non) hh hz (fun D acc i H N M hi hs _ b => step D acc i H N M hi hs (b rfl)) fun D H h => hd D H (by
    have e : (List.range n).filter (fun _ => false) = [] := List.filter_eq_nil_iff.mpr fun _ _ => Bool.false_ne_true
    rw [e] at h
    exact h)
theorem rep_one (k : Nat) (v : V) : (List.replicate k [v]).flatten = List.replicate k v := by
  induction k with
  | zero => rfl
  | succ k ih => rw [List.replicate_succ, List.flatten_cons, ih, List.replicate_succ]; rfl
end Sl

set_option maxRecDepth 100000
set_option maxHeartbeats 1000000
namespace Sl
open PySem L2
/-! ### turns of the numbers 1 .. many, all of which stay -/
def nums (many : Nat) : List Int := (List.range many).map fun (i : Nat) => (i : Int) + 1
theorem mem_nums {many : Nat} {m : Int} : m ∈ nums many ↔ 1 ≤ m ∧ m ≤ many := by
  unfold nums
  rw [List.mem_map]
  constructor
  · rintro ⟨i, hi, rfl⟩
    rw [List.mem_range] at hi
    omega
  · rintro ⟨h1, h2⟩
    exact ⟨(m - 1).toNat, List.mem_range.mpr (by omega), by omega⟩
theorem nums_succ (many : Nat) : nums (many + 1) = nums many ++ [(many : Int) + 1] := by
  unfold nums
  rw [List.range_succ, List.map_append]
  rfl
theorem nd_nums (many : Nat) : (nums many).Nodup := by
  induction many with
  | zero => exact List.nodup_nil
  | succ k ih =>
    rw [nums_succ]
    refine List.nodup_append.mpr ⟨ih, by simp, fun a ha b hb => ?_⟩
    have := (mem_nums.mp ha).2
    rw [List.mem_singleton.mp hb]
    omega
theorem len_nums (many : Nat) : (nums many).length = many := by simp [nums]
structure W33 (u : TU) (ws : List Int) (many : Nat) : Prop where
  ok : u.Ok
  pm : (u.q.flatten ++ ws).Perm (nums many)
  lv : ∀ m ∈ nums many, ∃ l : Nat, l < 4 ∧ getI u.dep m = some (l : Int)
  dp : u.dep.length ≤ many
def howN (s : Str) (u : TU) (n : Int) : TU := if s = "went" then u.wentN n else if s = "passes" then u.passN n else u.waitN n
def howW (s : Str) (ws : List Int) (n : Int) : List Int := if s = "waits" then ws ++ [n] else ws
section
variable {u : TU} {ws : List Int} {many : Nat} {n : Int}
theorem W33.len (w : W33 u ws many) : u.q.flatten.length + ws.length = many := by
  have := w.pm.length_eq
  rw [List.length_append, len_nums] at this
  exact this
theorem W33.next (w : W33 u ws many) : W33 u.next ws many := by
  obtain ⟨e1, e2, e3⟩ := next_same u
  exact ⟨w.ok.next, by rw [e1]; exact w.pm, by rw [e2]; exact w.lv, by rw [e2]; exact w.dp⟩
theorem W33.add (w : W33 u [] many) : W33 (u.stand ((many : Int) + 1) 0) [] (many + 1) := by
  have no : (many : Int) + 1 ∉ u.q.flatten := fun m => by
    have := (mem_nums.mp (w.pm.subset (List.mem_append_left _ m))).2
    omega
  have pm := pm_stand (u := u) (n := (many : Int) + 1) (l := 0) (by rw [w.ok.four]; decide)
  have pw := w.pm
  rw [List.append_nil] at pw
  refine ⟨w.ok.stand (by decide) no, ?_, fun m hm => ?_, ?_⟩
  · rw [List.append_nil, nums_succ]
    exact pm.trans ((List.Perm.cons _ pw).trans (List.perm_append_singleton _ _).symm)
  · show ∃ l : Nat, l < 4 ∧ getI (putI u.dep _ _) m = _
    rw [getI_put]
    split
    · exact ⟨0, by decide, rfl⟩
    · rw [nums_succ] at hm
      rcases List.mem_append.mp hm with hm | hm
      · exact w.lv m hm
      · rename_i e
        exact (e (List.mem_singleton.mp hm)).elim
  · have := w.dp
    exact Nat.le_trans (len_putI u.dep _ ((0 : Nat) : Int)) (by omega)
theorem W33.wake (w : W33 u ws many) {ws' : List Int} {l : Nat} (hp : (n :: ws').Perm ws) (hg : getI u.dep n = some (l : Int)) : W33 (u.stand n l) ws' many := by
  have hl := w.ok.lv n _ hg
  have nd : (u.q.flatten ++ ws).Nodup := (List.Perm.nodup_iff w.pm).mpr (nd_nums many)
  have hn : n ∈ ws := hp.subset List.mem_cons_self
  have no : n ∉ u.q.flatten := fun m => (List.nodup_append.mp nd).2.2 n m n hn rfl
  have pm := pm_stand (u := u) (n := n) (l := l) (by rw [w.ok.four]; omega)
  refine ⟨w.ok.stand (by omega) no, ?_, fun m hm => ?_, ?_⟩
  · exact ((List.Perm.append_right _ pm).trans ((List.perm_middle.symm).trans (List.Perm.append_left _ hp))).trans w.pm
  · show ∃ l : Nat, l < 4 ∧ getI (putI u.dep _ _) m = _
    rw [getI_put]
    split
    · exact ⟨l, by omega, rfl⟩
    · exact w.lv m hm
  · show (putI u.dep n _).length ≤ _
    rw [getI_old hg]
    exact w.dp
theorem W33.counted (w : W33 u ws many) : W33 u.counted ws many := by
  refine ⟨w.ok.counted, by rw [fl_counted]; exact w.pm, fun m hm => ?_, Nat.le_trans (dp_counted _) w.dp⟩
  obtain ⟨l, _, e⟩ := w.lv m hm
  obtain ⟨l', e'⟩ := gt_counted e
  have := w.ok.counted.lv m l' e'
  exact ⟨l'.toNat, by omega, by rw [e']; congr 1; omega⟩
theorem W33.how (w : W33 u ws many) (hr : u.runs = some n) (s : Str) : W33 (howN s u n) (if s = "went" then ws else if s = "passes" then ws else ws ++ [n]) many := by
  have keep : ∀ {v : TU}, v.Ok → (∀ x l, getI u.dep x = some l → ∃ l', getI v.dep x = some l') → ∀ m ∈ nums many, ∃ l : Nat, l < 4 ∧ getI v.dep m = some (l : Int) := by
    intro v o f m hm
    obtain ⟨l, _, e⟩ := w.lv m hm
    obtain ⟨l', e'⟩ := f m _ e
    have := o.lv m l' e'
    exact ⟨l'.toNat, by omega, by rw [e']; congr 1; omega⟩
  unfold howN
  split
  · obtain ⟨a, b, c, d⟩ := went_fl w.ok hr
    exact ⟨a, (List.Perm.append_right _ b).trans w.pm, keep a d, by rw [c]; exact w.dp⟩
  · split
    · obtain ⟨a, b, c, d⟩ := pass_fl w.ok hr
      exact ⟨a, (List.Perm.append_right _ b).trans w.pm, keep a d, by rw [c]; exact w.dp⟩
    · obtain ⟨a, b, c, d⟩ := wait_fl w.ok hr
      refine ⟨a, ?_, by rw [d]; exact w.lv, by rw [d]; exact w.dp⟩
      rw [← List.append_assoc]
      exact ((List.perm_append_singleton n ((u.waitN n).q.flatten ++ ws)).trans (List.Perm.append_right ws b)).trans w.pm
theorem how_steps (s : Str) (u : TU) (n : Int) : (howN s u n).steps = u.steps := by
  unfold howN
  split
  · exact went_steps u n
  · split <;> rfl
theorem how_other (s : Str) (u : TU) {n x : Int} (h : x ≠ n) : getI (howN s u n).dep x = getI u.dep x := by
  unfold howN
  split
  · unfold TU.wentN
    split
    · show getI (putI u.dep n _) x = _
      rw [getI_put, if_neg h]
    · rfl
  · split
    · show getI (putI u.dep n _) x = _
      rw [getI_put, if_neg h]
    · rfl
def levs (u : TU) (many : Nat) : List Int := (List.range many).map fun (i : Nat) => (getI u.dep ((i : Int) + 1)).getD 0
theorem lift_no (h : 0 < (u.steps + 1) % 64) : u.counted = { u with steps := u.steps + 1 } := if_pos h
theorem lift_yes (h : ¬ 0 < (u.steps + 1) % 64) : u.counted = u.lift := if_neg h
theorem levs_lift (w : W33 u ws many) : levs u.lift many = List.replicate many 0 := by
  unfold levs
  apply List.ext_getElem (by simp)
  intro i h1 h2
  have hi : i < many := by simpa using h1
  obtain ⟨l, _, e⟩ := w.lv ((i : Int) + 1) (mem_nums.mpr (by omega))
  rw [List.getElem_map, List.getElem_range, List.getElem_replicate]
  show (getI (zI u.dep) _).getD 0 = 0
  rw [getI_z, e]
  rfl
end
/-- where one stands in the rows: the only place -/
theorem only_row {u : TU} (o : u.Ok) {l : Nat} {r : List Int} {n : Int} (h : u.q[l]? = some r) (m : n ∈ r) {k : Nat} {r2 : List Int} (h2 : u.q[k]? = some r2) (m2 : n ∈ r2) : k = l := by
  have a := o.at_ l r n h m
  have b := o.at_ k r2 n h2 m2
  rw [a] at b
  have := Option.some.inj b
  omega
theorem rows_which {u : TU} (o : u.Ok) {l : Nat} {r : List Int} {n : Int} (h : u.q[l]? = some r) (m : n ∈ r) : ((List.range u.q.length).filter fun k => decide (n ∈ u.row k)) = [l] := by
  have hl := (List.getElem?_eq_some_iff.mp h).1
  have e : ∀ k, k < u.q.length → decide (n ∈ u.row k) = decide (k = l) := fun k hk => by
    have hk2 : u.q[k]? = some u.q[k] := by simp [hk]
    rw [row_at hk2]
    by_cases z : k = l
    · subst z
      rw [h] at hk2
      rw [← Option.some.inj hk2, decide_eq_true m, decide_eq_true rfl]
    · rw [decide_eq_false z, decide_eq_false fun m2 => z (only_row o h m hk2 m2)]
  have e2 : (List.range u.q.length).filter (fun k => decide (n ∈ u.row k)) = (List.range u.q.length).filter fun k => decide (k = l) := List.filter_congr fun k hk => e k (List.mem_range.mp hk)
  rw [e2]
  clear e e2
  generalize u.q.length = c at hl
  induction c with
  | zero => omega
  | succ c ih =>
    rw [List.range_succ, List.filter_append]
    by_cases z : l < c
    · rw [ih z, List.filter_cons, if_neg (by simp; omega)]
      rfl
    · have hc : c = l := by omega
      subst hc
      rw [List.filter_cons, if_pos (by simp)]
      have : (List.range c).filter (fun k => decide (k = c)) = [] := by
        rw [List.filter_eq_nil_iff]
        intro k hk
        have := List.mem_range.mp hk
        simp
        omega
      rw [this]
      rfl
theorem perm_eraseN : ∀ {R : List Int} {k : Nat} {x : Int}, R[k]? = some x → (x :: R.eraseIdx k).Perm R
  | [], _, _, h => nomatch h
  | a :: R, 0, x, h => by
    cases h
    exact .refl _
  | a :: R, k + 1, x, h => (List.Perm.swap a x _).trans ((perm_eraseN (R := R) (k := k) h).cons a)
theorem map_eraseN : ∀ (R : List Int) (k : Nat), (R.map V.int).eraseIdx k = (R.eraseIdx k).map V.int
  | [], _ => rfl
  | _ :: _, 0 => rfl
  | a :: R, k + 1 => by rw [List.map_cons, List.eraseIdx_cons_succ, List.eraseIdx_cons_succ, List.map_cons, map_eraseN R k]
end Sl

set_option maxRecDepth 100000
set_option maxHeartbeats 1000000
namespace Sl
open PySem L2
/-! ### data whose repr is short -/
structure Nice (d : PyData) (k w : Nat) : Prop where
  cl : d.canLay0 = true
  dp : d.depth ≤ k
  wt : d.weight ≤ w
  is : d.intsShort 13 = true
  sh : d.showable = true
structure NiceAll (xs : List PyData) (k w : Nat) : Prop where
  cl : PyData.canLayAll0 xs = true
  dp : PyData.depthAll xs ≤ k
  wt : PyData.weightAll xs ≤ w
  is : PyData.intsShortAll 13 xs = true
  sh : PyData.showableAll xs = true
theorem log_le {n k : Nat} (h : n < 2 ^ (k + 1)) : n.log2 ≤ k := by
  by_cases z : n = 0
  · subst z
    exact Nat.zero_le _
  · have := (Nat.log2_lt z).mpr h
    omega
theorem nice_int {i : Int} (h : i.natAbs < 10 ^ 12) : Nice (.int i) 0 40 := by
  have l : i.natAbs.log2 ≤ 39 := log_le (Nat.lt_of_lt_of_le h (by decide))
  refine ⟨by rw [PyData.canLay0], by rw [PyData.depth]; exact Nat.le_refl _, ?_, ?_, ?_⟩
  · rw [PyData.weight]
    split <;> omega
  · rw [PyData.intsShort]
    exact decide_eq_true (PyData.shown_int_le h)
  · rw [PyData.showable]
    exact decide_eq_true (by omega)
theorem nice_none : Nice .none 0 0 := ⟨by rw [PyData.canLay0], by rw [PyData.depth]; exact Nat.le_refl _, by rw [PyData.weight]; exact Nat.le_refl _, by rw [PyData.intsShort], by rw [PyData.showable]⟩
theorem nice_bool (b : Bool) : Nice (.bool b) 0 0 := ⟨by rw [PyData.canLay0], by rw [PyData.depth]; exact Nat.le_refl _, by rw [PyData.weight]; exact Nat.le_refl _, by rw [PyData.intsShort], by rw [PyData.showable]⟩
theorem nice_nil (k : Nat) : NiceAll [] k 0 := ⟨by rw [PyData.canLayAll0], by rw [PyData.depthAll]; exact Nat.zero_le _, by rw [PyData.weightAll]; exact Nat.le_refl _, by rw [PyData.intsShortAll], by rw [PyData.showableAll]⟩
theorem nice_cons {x : PyData} {xs : List PyData} {k w v : Nat} (a : Nice x k w) (b : NiceAll xs k v) : NiceAll (x :: xs) k (w + 1 + v) := by
  refine ⟨by rw [PyData.canLayAll0, a.cl, b.cl]; rfl, ?_, ?_, by rw [PyData.intsShortAll, a.is, b.is]; rfl, by rw [PyData.showableAll, a.sh, b.sh]; rfl⟩
  · rw [PyData.depthAll]
    exact Nat.max_le.mpr ⟨a.dp, b.dp⟩
  · rw [PyData.weightAll]
    have := a.wt
    have := b.wt
    omega
theorem nice_list {xs : List PyData} {k w : Nat} (a : NiceAll xs k w) : Nice (.list xs) (k + 1) w := by
  refine ⟨by rw [PyData.canLay0]; exact a.cl, ?_, by rw [PyData.weight]; exact a.wt, by rw [PyData.intsShort]; exact a.is, by rw [PyData.showable]; exact a.sh⟩
  rw [PyData.depth]
  exact Nat.succ_le_succ a.dp
theorem nice_tup {xs : List PyData} {k w : Nat} (a : NiceAll xs k w) : Nice (.tuple xs) (k + 1) w := by
  refine ⟨by rw [PyData.canLay0]; exact a.cl, ?_, by rw [PyData.weight]; exact a.wt, by rw [PyData.intsShort]; exact a.is, by rw [PyData.showable]; exact a.sh⟩
  rw [PyData.depth]
  exact Nat.succ_le_succ a.dp
theorem Nice.mono {d : PyData} {k w k' w' : Nat} (a : Nice d k w) (h : k ≤ k') (h2 : w ≤ w') : Nice d k' w' := ⟨a.cl, Nat.le_trans a.dp h, Nat.le_trans a.wt h2, a.is, a.sh⟩
theorem nice_ints : ∀ {ns : List Int}, (∀ n ∈ ns, n.natAbs < 10 ^ 12) → NiceAll (ns.map PyData.int) 0 (41 * ns.length)
  | [], _ => nice_nil 0
  | n :: ns, h => by
    have z := nice_cons (nice_int (h n List.mem_cons_self)) (nice_ints (ns := ns) fun m hm => h m (List.mem_cons_of_mem _ hm))
    rw [List.length_cons, show 41 * (ns.length + 1) = 40 + 1 + 41 * ns.length by omega]
    exact z
theorem nice_row {r : List Int} (h : ∀ n ∈ r, n.natAbs < 10 ^ 12) : Nice (rowD r) 1 (41 * r.length) := nice_list (nice_ints h)
theorem nice_rows : ∀ {q : List (List Int)}, (∀ n ∈ q.flatten, n.natAbs < 10 ^ 12) → NiceAll (q.map rowD) 1 (41 * q.flatten.length + q.length)
  | [], _ => nice_nil 1
  | r :: q, h => by
    have z := nice_cons (nice_row (r := r) fun n hn => h n (by rw [List.flatten_cons]; exact List.mem_append_left _ hn)) (nice_rows (q := q) fun m hm => h m (by rw [List.flatten_cons]; exact List.mem_append_right _ hm))
    rw [List.flatten_cons, List.length_append, List.length_cons, show 41 * (r.length + q.flatten.length) + (q.length + 1) = 41 * r.length + 1 + (41 * q.flatten.length + q.length) by omega]
    exact z
theorem Nice.shaped {d : PyData} {k w : Nat} (a : Nice d k w) (h : k ≤ 64) : SeqAt.shaped d = true := by
  unfold SeqAt.shaped
  rw [a.cl, Bool.true_and]
  exact decide_eq_true (Nat.le_trans a.dp h)
theorem Nice.fits {d : PyData} {k w : Nat} (a : Nice d k w) (h2 : w ≤ 2 ^ 20) : d.shown.length ≤ sizeLine :=
  PyData.shown_fits (B := 13) (by decide) (by decide) (PyData.leavesShort_of_canLay0 13 d a.cl a.is) (Nat.le_trans a.wt h2)
section
variable {K : PySem.W.Frag} {H : Hp} {Q : VK} {a : Addr} {i : Int} {d : PyData} {k w : Nat}
theorem r_reprI (h : i.natAbs < 10 ^ 12) (q : Q (.str (toString i)) H) : rRepr K [.int i] H Q := .inl ⟨i, rfl, Nat.lt_of_le_of_lt (log_le (k := 39) (Nat.lt_of_lt_of_le h (by decide))) (by decide), q⟩
theorem r_reprN (q : Q (.str "None") H) : rRepr K [.non] H Q := .inr (.inl ⟨rfl, q⟩)
theorem r_reprD (hd : Dp K H (.ref a) d) (n : Nice d k w) (hk : k ≤ 64) (hw : w ≤ 2 ^ 20) (q : Q (.str d.shown) H) : rRepr K [.ref a] H Q := .inr (.inr ⟨a, d, rfl, hd, n.shaped hk, n.sh, n.fits hw, q⟩)
end
theorem reps_of {A : Around} {k : Nat} (hr : Room k A) : A.units + 66 < cLine := by
  have := hr.un
  omega
end Sl

set_option maxRecDepth 100000
set_option maxHeartbeats 1000000
namespace Sl
open PySem L2
/-! ### keys of a dict of numbers -/
def keysI (d : List (Int × Int)) : List Int := d.map fun e => e.1
theorem mem_keys {d : List (Int × Int)} {n : Int} : n ∈ keysI d ↔ ∃ l, getI d n = some l := by
  induction d with
  | nil => simp [keysI, getI]
  | cons e r ih =>
    rw [getI_cons]
    show n ∈ e.1 :: keysI r ↔ _
    by_cases h : e.1 = n
    · rw [if_pos h]
      simp [h]
    · rw [if_neg h, ← ih, List.mem_cons]
      exact ⟨fun z => z.resolve_left fun q => h q.symm, .inr⟩
theorem any_keys (d : List (Int × Int)) (n : Int) : (d.any fun e => decide (e.1 = n)) = decide (n ∈ keysI d) := by
  induction d with
  | nil => rfl
  | cons e r ih =>
    rw [List.any_cons, ih]
    show _ = decide (n ∈ e.1 :: keysI r)
    by_cases h : e.1 = n
    · simp [h]
    · have h2 : ¬ n = e.1 := fun z => h z.symm
      simp [h, h2]
theorem keys_old {d : List (Int × Int)} {n l : Int} (h : n ∈ keysI d) : keysI (putI d n l) = keysI d := by
  unfold putI
  rw [if_pos (by rw [any_keys]; exact decide_eq_true h)]
  unfold keysI
  rw [List.map_map]
  apply List.map_congr_left
  intro e _
  show (if e.1 = n then (e.1, l) else e).1 = e.1
  split <;> rfl
theorem keys_new {d : List (Int × Int)} {n l : Int} (h : n ∉ keysI d) : keysI (putI d n l) = keysI d ++ [n] := by
  unfold putI
  rw [if_neg (by rw [any_keys]; simpa using h)]
  unfold keysI
  rw [List.map_append]
  rfl
theorem keys_drop (d : List (Int × Int)) (n : Int) : keysI (dropI d n) = (keysI d).filter fun x => !decide (x = n) := by
  unfold keysI dropI
  rw [List.filter_map]
  congr 1
  apply List.filter_congr
  intro e _
  by_cases h : e.1 = n
  · simp [h]
  · simp [h]
theorem keys_mI : ∀ (b a : List (Int × Int)), (keysI a ++ keysI b).Nodup → keysI (mI a b) = keysI a ++ keysI b
  | [], a, _ => by simp [mI, keysI]
  | e :: b, a, h => by
    have h2 := List.nodup_append.mp h
    have no : e.1 ∉ keysI a := fun m => h2.2.2 _ m e.1 (List.mem_cons_self) rfl
    have e1 := keys_new (l := e.2) no
    show keysI (mI (putI a e.1 e.2) b) = _
    rw [keys_mI b, e1, List.append_assoc]
    · rfl
    · rw [e1, List.append_assoc]
      exact h
theorem keys_z {d : List (Int × Int)} (h : (keysI d).Nodup) : keysI (zI d) = keysI d := by
  have e : keysI (d.map fun e => (e.1, (0 : Int))) = keysI d := by
    unfold keysI
    rw [List.map_map]
    rfl
  unfold zI
  rw [keys_mI _ _ (by rw [e]; exact h), e]
  rfl
theorem nd_filter {n : Int} {r : List Int} (h : r.Nodup) (m : n ∈ r) : (n :: r.filter fun x => !decide (x = n)).Perm r := by
  rw [← erase_filter h]
  exact (List.perm_cons_erase m).symm
/-! ### one leaves -/
def TU.leaveN (u : TU) (n : Int) : TU :=
  { q := if n ∈ u.row (u.lev n) then u.q.set (u.lev n) ((u.row (u.lev n)).erase n) else u.q, dep := dropI u.dep n, runs := if u.runs = some n then none else u.runs, rest := if u.runs = some n then 0 else u.rest, steps := u.steps }
def howE (s : Str) (u : TU) (n : Int) : TU := if s = "went" then u.wentN n else if s = "passes" then u.passN n else if s = "waits" then u.waitN n else u.endN n
structure W31 (u : TU) (ws : List Int) (last : Int) : Prop where
  ok : u.Ok
  nd : (u.q.flatten ++ ws).Nodup
  kp : (keysI u.dep).Perm (u.q.flatten ++ ws)
  rg : ∀ x ∈ u.q.flatten ++ ws, 1 ≤ x ∧ x ≤ last
  few : ((u.q.flatten.length + ws.length : Nat) : Int) ≤ last
  z : u.runs = none → u.rest = 0
  rb : 0 ≤ u.rest ∧ u.rest ≤ 16
theorem z16 : (0 : Int) ≤ 0 ∧ (0 : Int) ≤ 16 := by decide
section
variable {u : TU} {ws : List Int} {last n : Int}
theorem W31.dl (w : W31 u ws last) : u.dep.length = u.q.flatten.length + ws.length := by
  have := w.kp.length_eq
  rw [List.length_append, keysI, List.length_map] at this
  exact this
theorem W31.dp (w : W31 u ws last) : (u.dep.length : Int) ≤ last := by rw [w.dl]; exact w.few
theorem W31.kn (w : W31 u ws last) : (keysI u.dep).Nodup := (List.Perm.nodup_iff w.kp).mpr w.nd
theorem W31.at_ (w : W31 u ws last) {x : Int} (h : x ∈ u.q.flatten ++ ws) : ∃ l : Nat, l < 4 ∧ getI u.dep x = some (l : Int) := by
  obtain ⟨l, e⟩ := mem_keys.mp (w.kp.symm.subset h)
  have := w.ok.lv x l e
  exact ⟨l.toNat, by omega, by rw [e]; congr 1; omega⟩
theorem W31.new : W31 TU.new [] 0 :=
  ⟨W34.new.ok, by decide, List.Perm.refl [], fun x hx => (nomatch hx), by decide, fun _ => rfl, by decide⟩
theorem sl_le (l : Nat) : sliceOf l ≤ 16 := by
  unfold sliceOf
  match l with
  | 0 | 1 | 2 | 3 => decide
  | l + 4 => exact (by decide : (0 : Int) ≤ 16)
theorem W31.next (w : W31 u ws last) : W31 u.next ws last := by
  obtain ⟨e1, e2, e3⟩ := next_same u
  refine ⟨w.ok.next, by rw [e1]; exact w.nd, by rw [e1, e2]; exact w.kp, by rw [e1]; exact w.rg, by rw [e1]; exact w.few, ?_, ?_⟩
  · unfold TU.next
    split
    · exact w.z
    · split
      · exact fun _ => rfl
      · exact fun z => nomatch z
  · unfold TU.next
    split
    · exact w.rb
    · split
      · exact z16
      · rename_i n hn
        obtain ⟨l, r, hg, _, _, hl⟩ := lev_of w.ok (List.mem_of_mem_head? hn)
        rw [lev_at hg]
        have := sl_pos hl
        exact ⟨by show 0 ≤ sliceOf l; omega, sl_le l⟩
theorem W31.add (w : W31 u ws last) : W31 (u.stand (last + 1) 0) ws (last + 1) := by
  have no : ∀ x ∈ u.q.flatten ++ ws, x ≠ last + 1 := fun x hx e => by have := (w.rg x hx).2; omega
  have no1 : last + 1 ∉ u.q.flatten := fun m => no _ (List.mem_append_left _ m) rfl
  have nk : last + 1 ∉ keysI u.dep := fun m => no _ (w.kp.subset m) rfl
  have pm := pm_stand (u := u) (n := last + 1) (l := 0) (by rw [w.ok.four]; decide)
  have pm2 : ((u.stand (last + 1) 0).q.flatten ++ ws).Perm ((last + 1) :: (u.q.flatten ++ ws)) := List.Perm.append_right ws pm
  have lf := w.few
  refine ⟨w.ok.stand (by decide) no1, (List.Perm.nodup_iff pm2).mpr (List.nodup_cons.mpr ⟨fun m => no _ m rfl, w.nd⟩), ?_, fun x hx => ?_, ?_, w.z, w.rb⟩
  · show (keysI (putI u.dep _ _)).Perm _
    rw [keys_new nk]
    exact (List.perm_append_singleton _ _).trans ((List.Perm.cons _ w.kp).trans pm2.symm)
  · rcases List.mem_cons.mp (pm2.subset hx) with e | e
    · have : 0 ≤ last := by omega
      omega
    · have := w.rg x e
      omega
  · have := pm.length_eq
    rw [List.length_cons] at this
    omega
theorem W31.wake (w : W31 u ws last) {l : Nat} (hn : n ∈ ws) (hg : getI u.dep n = some (l : Int)) : W31 (u.stand n l) (ws.filter fun x => !decide (x = n)) last := by
  have hl := w.ok.lv n _ hg
  have nd := List.nodup_append.mp w.nd
  have no : n ∉ u.q.flatten := fun m => nd.2.2 n m n hn rfl
  have pm := pm_stand (u := u) (n := n) (l := l) (by rw [w.ok.four]; omega)
  have pk := nd_filter nd.2.1 hn
  have pm2 : ((u.stand n l).q.flatten ++ ws.filter fun x => !decide (x = n)).Perm (u.q.flatten ++ ws) := (List.Perm.append_right _ pm).trans ((List.perm_middle.symm).trans (List.Perm.append_left _ pk))
  refine ⟨w.ok.stand (by omega) no, (List.Perm.nodup_iff pm2).mpr w.nd, ?_, fun x hx => w.rg x (pm2.subset hx), ?_, w.z, w.rb⟩
  · show (keysI (putI u.dep _ _)).Perm _
    rw [keys_old (mem_keys.mpr ⟨_, hg⟩)]
    exact w.kp.trans pm2.symm
  · have := pm2.length_eq
    rw [List.length_append, List.length_append] at this
    have := w.few
    omega
theorem W31.counted (w : W31 u ws last) : W31 u.counted ws last := by
  have fl := fl_counted u
  refine ⟨w.ok.counted, by rw [fl]; exact w.nd, ?_, by rw [fl]; exact w.rg, by rw [fl]; exact w.few, ?_, ?_⟩
  · rw [fl]
    unfold TU.counted
    split
    · exact w.kp
    · show (keysI (zI u.dep)).Perm _
      rw [keys_z w.kn]
      exact w.kp
  · unfold TU.counted
    split
    · exact w.z
    · exact fun _ => rfl
  · unfold TU.counted
    split
    · exact w.rb
    · exact z16
theorem W31.how (w : W31 u ws last) (hr : u.runs = some n) (s : Str) (hs : s = "went" ∨ s = "passes" ∨ s = "waits" ∨ s = "ends") : W31 (howE s u n) (howW s ws n) last := by
  obtain ⟨l, r, hg, hrow, hm, hl⟩ := lev_of w.ok (w.ok.run n hr).1
  have rn := (w.ok.run n hr).2
  have nk : n ∈ keysI u.dep := mem_keys.mpr ⟨_, hg⟩
  have pm0 := pm_over (u := u) hrow hm
  rcases hs with rfl | rfl | rfl | rfl
  · rw [show howW "went" ws n = ws from if_neg (by decide +kernel), show howE "went" u n = u.wentN n from if_pos rfl]
    obtain ⟨a, b, c, d⟩ := went_fl w.ok hr
    have b2 := List.Perm.append_right ws b
    refine ⟨a, (List.Perm.nodup_iff b2).mpr w.nd, ?_, fun x hx => w.rg x (b2.subset hx), by rw [b.length_eq]; exact w.few, ?_, ?_⟩
    · refine List.Perm.trans ?_ b2.symm
      unfold TU.wentN
      split
      · show (keysI (putI u.dep _ _)).Perm _
        rw [keys_old nk]
        exact w.kp
      · exact w.kp
    · unfold TU.wentN
      split
      · exact fun _ => rfl
      · exact fun z => by rw [show u.runs = none from z] at hr; cases hr
    · unfold TU.wentN
      split
      · exact z16
      · have := w.rb
        exact ⟨by show 0 ≤ u.rest - 1; omega, by show u.rest - 1 ≤ 16; omega⟩
  · rw [show howW "passes" ws n = ws from if_neg (by decide +kernel), show howE "passes" u n = u.passN n from (if_neg (by decide +kernel)).trans (if_pos rfl)]
    obtain ⟨a, b, c, d⟩ := pass_fl w.ok hr
    have b2 := List.Perm.append_right ws b
    refine ⟨a, (List.Perm.nodup_iff b2).mpr w.nd, ?_, fun x hx => w.rg x (b2.subset hx), by rw [b.length_eq]; exact w.few, fun _ => rfl, z16⟩
    refine List.Perm.trans ?_ b2.symm
    show (keysI (putI u.dep _ _)).Perm _
    rw [keys_old nk]
    exact w.kp
  · rw [show howW "waits" ws n = ws ++ [n] from if_pos rfl, show howE "waits" u n = u.waitN n from (if_neg (by decide +kernel)).trans ((if_neg (by decide +kernel)).trans (if_pos rfl))]
    obtain ⟨a, b, c, d⟩ := wait_fl w.ok hr
    have b2 : ((u.waitN n).q.flatten ++ (ws ++ [n])).Perm (u.q.flatten ++ ws) := by
      rw [← List.append_assoc]
      exact (List.perm_append_singleton n ((u.waitN n).q.flatten ++ ws)).trans (List.Perm.append_right ws b)
    refine ⟨a, (List.Perm.nodup_iff b2).mpr w.nd, by rw [d]; exact w.kp.trans b2.symm, fun x hx => w.rg x (b2.subset hx), ?_, fun _ => rfl, z16⟩
    have := b2.length_eq
    rw [List.length_append] at this
    have h3 := w.few
    rw [this, List.length_append]
    exact h3
  · rw [show howW "ends" ws n = ws from if_neg (by decide +kernel), show howE "ends" u n = u.endN n from (if_neg (by decide +kernel)).trans ((if_neg (by decide +kernel)).trans (if_neg (by decide +kernel)))]
    have e : u.endN n = { u.over n l with dep := dropI u.dep n } := by unfold TU.endN; rw [lev_at hg]
    have no := out_over w.ok hrow hm
    rw [e]
    have b2 : (n :: ((u.over n l).q.flatten ++ ws)).Perm (u.q.flatten ++ ws) := List.Perm.append_right ws pm0
    have nd2 := List.nodup_cons.mp ((List.Perm.nodup_iff b2).mpr w.nd)
    refine ⟨(w.ok.over hrow hm).drop no, nd2.2, ?_, fun x hx => w.rg x (b2.subset (List.mem_cons_of_mem _ hx)), ?_, fun _ => rfl, z16⟩
    · show (keysI (dropI u.dep n)).Perm _
      rw [keys_drop]
      have h1 := w.kp.trans b2.symm
      have h2 := (nd_filter w.kn nk).trans h1
      exact h2.cons_inv
    · have := b2.length_eq
      rw [List.length_cons, List.length_append, List.length_append] at this
      have := w.few
      show (((u.over n l).q.flatten.length + ws.length : Nat) : Int) ≤ last
      omega
theorem out_row (w : W31 u ws last) {l : Nat} {r : List Int} (hg : getI u.dep n = some (l : Int)) (hrow : u.q[l]? = some r) : n ∈ r ↔ n ∉ ws := by
  have nd := List.nodup_append.mp w.nd
  constructor
  · intro m mw
    exact nd.2.2 n (mem_fl hrow m) n mw rfl
  · intro h
    have m := w.kp.subset (mem_keys.mpr ⟨_, hg⟩)
    rcases List.mem_append.mp m with m | m
    · obtain ⟨k, r2, e, m⟩ := of_fl m
      have := w.ok.at_ k r2 n e m
      rw [hg] at this
      have e2 : k = l := by have := Option.some.inj this; omega
      subst e2
      rw [hrow] at e
      rw [Option.some.inj e]
      exact m
    · exact (h m).elim
theorem W31.leave (w : W31 u ws last) {l : Nat} {r : List Int} (hg : getI u.dep n = some (l : Int)) (hrow : u.q[l]? = some r) : W31 (u.leaveN n) (ws.filter fun x => !decide (x = n)) last := by
  have hl := w.ok.lv n _ hg
  have nd := List.nodup_append.mp w.nd
  have nk : n ∈ keysI u.dep := mem_keys.mpr ⟨_, hg⟩
  have iff := out_row w hg hrow
  have kd := keys_drop u.dep n
  have h0 := (nd_filter w.kn nk).trans w.kp
  by_cases m : n ∈ r
  · have nw := iff.mp m
    have e : u.leaveN n = { q := (u.over n l).q, dep := dropI u.dep n, runs := if u.runs = some n then none else u.runs, rest := if u.runs = some n then 0 else u.rest, steps := u.steps } := by
      unfold TU.leaveN TU.over
      rw [lev_at hg, row_at hrow, if_pos m]
    rw [e, filter_out nw]
    have no := out_over w.ok hrow m
    have pm0 := pm_over (u := u) hrow m
    have b2 : (n :: ((u.over n l).q.flatten ++ ws)).Perm (u.q.flatten ++ ws) := List.Perm.append_right ws pm0
    have nd2 := List.nodup_cons.mp ((List.Perm.nodup_iff b2).mpr w.nd)
    have od := (w.ok.over hrow m).drop no
    refine ⟨⟨od.four, od.at_, od.lv, fun x hx => ?_, od.nd⟩, nd2.2, ?_, fun x hx => w.rg x (b2.subset (List.mem_cons_of_mem _ hx)), ?_, ?_, ?_⟩
    · dsimp only at hx ⊢
      split at hx
      · cases hx
      · rename_i hne
        rw [if_neg hne]
        refine ⟨?_, (w.ok.run x hx).2⟩
        have mx := pm0.symm.subset (w.ok.run x hx).1
        rcases List.mem_cons.mp mx with e2 | e2
        · exact (hne (by rw [hx, e2])).elim
        · exact e2
    · show (keysI (dropI u.dep n)).Perm _
      rw [kd]
      exact (h0.trans b2.symm).cons_inv
    · have := b2.length_eq
      rw [List.length_cons, List.length_append, List.length_append] at this
      have := w.few
      show (((u.over n l).q.flatten.length + ws.length : Nat) : Int) ≤ last
      omega
    · dsimp only
      split
      · exact fun _ => rfl
      · exact w.z
    · dsimp only
      split
      · exact z16
      · exact w.rb
  · have mw : n ∈ ws := Classical.byContradiction fun h => m (iff.mpr h)
    have nf : n ∉ u.q.flatten := fun h => nd.2.2 n h n mw rfl
    have hne : ¬ u.runs = some n := fun h => nf (w.ok.run n h).1
    have e : u.leaveN n = { u with dep := dropI u.dep n } := by
      unfold TU.leaveN
      rw [lev_at hg, row_at hrow, if_neg m, if_neg hne, if_neg hne]
    rw [e]
    have pk := nd_filter nd.2.1 mw
    have b2 : (n :: (u.q.flatten ++ ws.filter fun x => !decide (x = n))).Perm (u.q.flatten ++ ws) := (List.perm_middle.symm).trans (List.Perm.append_left _ pk)
    have nd2 := List.nodup_cons.mp ((List.Perm.nodup_iff b2).mpr w.nd)
    refine ⟨w.ok.drop nf, nd2.2, ?_, fun x hx => w.rg x (b2.subset (List.mem_cons_of_mem _ hx)), ?_, w.z, w.rb⟩
    · show (keysI (dropI u.dep n)).Perm _
      rw [kd]
      exact (h0.trans b2.symm).cons_inv
    · have := b2.length_eq
      rw [List.length_cons, List.length_append, List.length_append] at this
      have := w.few
      show ((u.q.flatten.length + _ : Nat) : Int) ≤ last
      omega
end
end Sl

set_option maxRecDepth 100000
set_option maxHeartbeats 1000000
namespace Sl
open PySem L2 PySem.Spec PyProof.Rows
/-! ### sorted of a dict whose keys are numbers -/
def rSortedDI : List V → Hp → VK → Prop := fun xs H Q => ∃ (a : Addr) (kvs : List (Key × V)) (ks : List Int), xs = [.ref a] ∧ Rd H a (.dK kvs) ∧ kvs.map (·.1) = ks.map Sum.inl ∧ ks.length ≤ 100000 ∧
  ∀ (ns : List Int) (p : Addr), ns.Perm ks → ns.Pairwise (· ≤ ·) → H p = none → Q (.ref p) (upd H p (.lst (ns.map V.int)))
theorem ints_of_keys : ∀ {us : List Value} {ks : List Int}, us.length = ks.length → (∀ (j : Nat) (v : Value), us[j]? = some v → ∃ (k : Int) (t : Tok), ks[j]? = some k ∧ v = .int k t) → IntsAre us ks
  | [], [], _, _ => .nil
  | [], _ :: _, h, _ => nomatch h
  | _ :: _, [], h, _ => nomatch h
  | u :: us, k :: ks, h, f => by
    obtain ⟨x, t, e1, e2⟩ := f 0 u rfl
    cases e1
    subst e2
    exact .cons _ t (ints_of_keys (Nat.succ.inj h) fun j v e => f (j + 1) v e)
theorem call_sortedDI {X : Cx} (hcalm : X.calm = true) : CallR X (.builtin "sorted") rSortedDI := by
  intro pn z τ G xs ws R J rv hq
  obtain ⟨a, kvs, ks, rfl, rd, ek, few, q⟩ := hq
  obtain ⟨u, rfl, rx⟩ := vals1 rv
  obtain rfl : u = Value.ref a := rx
  obtain ⟨za, lo, ps, rel, dd⟩ := dk_rd J.hok rd
  obtain ⟨ep, at_⟩ := dd.dictAt
  have kk : ps.map (·.1) = ks.map Sum.inl := rel.keys.symm.trans ek
  have ll : ps.length = ks.length := by
    have e := congrArg List.length kk
    simpa using e
  have sl : ps.length ≤ sizeLine := by rw [ll]; exact sz few
  refine Calls.call_function_entry PyProof.Rows.kind_sorted PyProof.Rows.plain_sorted PyProof.Rows.entry_sorted (PyProof.Rows.args_sorted1 _) ?_
  unfold Builtin.«sorted»
  refine wpAny_bind (m := checkCount "sorted" 1 1 _) (wpAny_pure ?_)
  refine wpAny_bind (PySem.W.kdu_collect (A := X.A.in1) (PySem.W.kdl_dict (knd := mixKind X.prog X.w) (kvs := ps) (ep := ep) lo) (J.ok.hd hcalm) at_ sl ?_)
  intro hh tk acc keep got
  have al : acc.toList.length = ks.length := by rw [Array.length_toList, got.1, ll]
  have ia : IntsAre acc.toList ks := ints_of_keys al (by
    intro j v e
    obtain ⟨k, x, e1, e2⟩ := got.2 j v (by rw [← Array.getElem?_toList]; exact e)
    have e3 : (ps.map (·.1))[j]? = some k := by rw [List.getElem?_map, e1]; rfl
    rw [kk, List.getElem?_map] at e3
    cases e4 : ks[j]? with
    | none => rw [e4] at e3; cases e3
    | some y =>
      rw [e4] at e3
      cases (Option.some.inj e3 : Sum.inl y = k)
      obtain ⟨t, ev⟩ := keyIs_rel (k := .inl y) e2
      exact ⟨y, t, rfl, ev⟩)
  have J1 : L2.Inv X pn τ G { z with heap := hh, toks := tk } := J.kept keep
  refine wpAny_bind (wpAny_newList ?_ (by rw [al]; exact sz few))
  have new : (hh.push (seqObj "list" acc.toList.toArray 0)).get? hh.objs.size = some (seqObj "list" acc.toList.toArray 0) := Heap.get?_push_size _ rfl
  show wpAny _ _ _ _ _ { z with heap := hh.push (seqObj "list" acc.toList.toArray 0), toks := tk }
  refine wpAny_bind (wpAny_holding (wpAny_call_entry PyProof.Rows.slot_list_sort ⟨_, new, rfl⟩ PyProof.Rows.entry_list_sort
    (SrtO.list_sort_ord (s := { z with heap := hh.push (seqObj "list" acc.toList.toArray 0), toks := tk }) SrtO.swo_int new (by rw [al]; exact sz few) (fun two => SrtO.ints_sortable ia two) fun out s1 s2 => ⟨_, rfl, ?_⟩) (PyProof.Rows.args_list_sort _)))
  obtain ⟨k1, k2, k3⟩ := SrtO.ints_out ia s1 s2
  obtain ⟨e', he'⟩ := PyProof.Rows.sortedHeap_at (vs := acc.toList) (out := out.toArray) new
  have ol : ((out.map SrtO.iv).map V.int).length ≤ sizeLine := by
    rw [List.length_map, k2.length_eq]
    exact sz few
  refine wpAny_pure ⟨_, rfl, .ref hh.objs.size, upd G hh.objs.size (.lst ((out.map SrtO.iv).map V.int)), J1.laid (t' := tk) ?_ (Nat.le_refl _) ⟨ol, out, e', vals_of_ints k1, he'⟩, rfl, q _ _ k2 k3 (J1.hok.fresh (Nat.le_refl _))⟩
  intro b o e
  have lt : b < hh.objs.size := Heap.lt_size e
  rw [PyProof.Rows.sortedHeap_old (Nat.ne_of_lt lt) (by rw [size_push']; exact Nat.lt_succ_of_lt lt)]
  exact Heap.get?_push_of_some _ e
/-! #### rules -/
section
variable {K : PySem.W.Frag} {H : Hp} {Q : VK} {L L' : List SA} {a : Addr}
theorem r_sortedI {ns : List Int} (hs : Hd L H) (h : SqL K H a (ns.map V.int)) (q : ∀ (ms : List Int) p H', ms.Perm ns → ms.Pairwise (· ≤ ·) → Hd (pto p (.lst (ms.map V.int)) :: L) H' → Q (.ref p) H') : rSortedI K [.ref a] H Q :=
  ⟨a, ns, rfl, h, fun ms p h1 h2 n => q ms p _ h1 h2 (hs.new n)⟩
theorem r_sortedD {kvs : List (Key × V)} {ks : List Int} (hs : Hd L H) (h : H a = some (.dK kvs)) (e : kvs.map (·.1) = ks.map Sum.inl) (few : ks.length ≤ 100000) (q : ∀ (ms : List Int) p H', ms.Perm ks → ms.Pairwise (· ≤ ·) → Hd (pto p (.lst (ms.map V.int)) :: L) H' → Q (.ref p) H') : rSortedDI [.ref a] H Q :=
  ⟨a, kvs, ks, rfl, .inl h, e, few, fun ms p h1 h2 n => q ms p _ h1 h2 (hs.new n)⟩
end
/-- two rising lists of the same numbers -/
theorem sorted_eq : ∀ {a b : List Int}, a.Perm b → a.Pairwise (· ≤ ·) → b.Pairwise (· ≤ ·) → a = b
  | [], b, h, _, _ => (List.nil_perm.mp h).symm
  | x :: a, [], h, _, _ => nomatch h.length_eq
  | x :: a, y :: b, h, ha, hb => by
    have ha2 := List.pairwise_cons.mp ha
    have hb2 := List.pairwise_cons.mp hb
    have e : x = y := by
      have h1 : x ∈ y :: b := h.subset List.mem_cons_self
      have h2 : y ∈ x :: a := h.symm.subset List.mem_cons_self
      rcases List.mem_cons.mp h1 with e | m
      · exact e
      rcases List.mem_cons.mp h2 with e | m2
      · exact e.symm
      have := hb2.1 x m
      have := ha2.1 y m2
      omega
    subst e
    rw [sorted_eq (h.cons_inv) ha2.2 hb2.2]
def LenSetK (K : PySem.W.Frag) (Q : VK) (x : V) (H : Hp) : Prop := ∃ (l : Addr) (ns : List Int), x = .ref l ∧ SqL K H l (ns.map V.int) ∧ ns.Nodup ∧ ns.length ≤ 4000 ∧ Q (.int (ns.length : Nat)) H
theorem r_lenSet {K : PySem.W.Frag} {H : Hp} {Q : VK} {ta : TE} {σ : L2.St} (q : ta σ H (LenSetK K Q)) : RZ.tLenSetI K ta σ H Q := q
theorem r_lenSetK {K : PySem.W.Frag} {H : Hp} {Q : VK} {a : Addr} {ns : List Int} (h : SqL K H a (ns.map V.int)) (nd : ns.Nodup) (few : ns.length ≤ 4000) (q : Q (.int (ns.length : Nat)) H) : LenSetK K Q (.ref a) H := ⟨a, ns, rfl, h, nd, few, q⟩
end Sl

namespace My
open PySem L2 Sl
def top (i : Nat) : Stmt := PySem.Challenge.pw_keelroom_k36_whole_just_once.main.body.getD i (.Pass ⟨0, 0, 0, 0⟩)
abbrev s_Turns_init : Stmt := inClass (top 4) 0
abbrev s_Turns_stand : Stmt := inClass (top 4) 1
abbrev s_Turns_step_out : Stmt := inClass (top 4) 2
abbrev s_Turns_add : Stmt := inClass (top 4) 3
abbrev s_Turns_first_ready : Stmt := inClass (top 4) 4
abbrev s_Turns_next : Stmt := inClass (top 4) 5
abbrev s_Turns_slice_over : Stmt := inClass (top 4) 6
abbrev s_Turns_counted : Stmt := inClass (top 4) 7
abbrev s_Turns_went : Stmt := inClass (top 4) 8
abbrev s_Turns_passes : Stmt := inClass (top 4) 9
abbrev s_Turns_waits : Stmt := inClass (top 4) 10
abbrev s_Turns_ends : Stmt := inClass (top 4) 11
abbrev s_Turns_wakes : Stmt := inClass (top 4) 12
abbrev s_Turns_leaves : Stmt := inClass (top 4) 13
abbrev s_Turns_told : Stmt := inClass (top 4) 14
abbrev s_Turns_left : Stmt := inClass (top 4) 15
abbrev s_Turns_level : Stmt := inClass (top 4) 16
abbrev s_law_mixed : Stmt := top 6
abbrev s_law_hand : Stmt := top 7
abbrev s_law_from : Stmt := top 8
abbrev s_law_new_turns : Stmt := top 9
abbrev s_law_stood : Stmt := top 10
abbrev s_law_out : Stmt := top 11
abbrev s_law_next : Stmt := top 12
abbrev s_law_stepped : Stmt := top 13
abbrev s_law_woken : Stmt := top 14
abbrev s_law_left : Stmt := top 15
abbrev s_law_step_done : Stmt := top 16
abbrev s_law_deed : Stmt := top 17
abbrev s_law_without : Stmt := top 18
abbrev s_law_orderly : Stmt := top 19
abbrev s_law_once : Stmt := top 20
abbrev s_law : Stmt := top 21
theorem sc_Turns_init : FnScope ["self", "level"] ["self"] (defScope s_Turns_init) := ⟨rfl, rfl, rfl, by decide +kernel, rfl, by decide +kernel, by decide +kernel⟩
theorem sc_Turns_stand : FnScope ["self", "number", "level"] ["self", "number", "level"] (defScope s_Turns_stand) := ⟨rfl, rfl, rfl, by decide +kernel, rfl, by decide +kernel, by decide +kernel⟩
theorem sc_Turns_step_out : FnScope ["self", "number"] ["self", "number"] (defScope s_Turns_step_out) := ⟨rfl, rfl, rfl, by decide +kernel, rfl, by decide +kernel, by decide +kernel⟩
theorem sc_Turns_add : FnScope ["self", "number"] ["self", "number"] (defScope s_Turns_add) := ⟨rfl, rfl, rfl, by decide +kernel, rfl, by decide +kernel, by decide +kernel⟩
theorem sc_Turns_first_ready : FnScope ["self", "row"] ["self"] (defScope s_Turns_first_ready) := ⟨rfl, rfl, rfl, by decide +kernel, rfl, by decide +kernel, by decide +kernel⟩
theorem sc_Turns_next : FnScope ["self"] ["self"] (defScope s_Turns_next) := ⟨rfl, rfl, rfl, by decide +kernel, rfl, by decide +kernel, by decide +kernel⟩
theorem sc_Turns_slice_over : FnScope ["self", "number"] ["self"] (defScope s_Turns_slice_over) := ⟨rfl, rfl, rfl, by decide +kernel, rfl, by decide +kernel, by decide +kernel⟩
theorem sc_Turns_counted : FnScope ["self", "some", "row", "level", "number"] ["self"] (defScope s_Turns_counted) := ⟨rfl, rfl, rfl, by decide +kernel, rfl, by decide +kernel, by decide +kernel⟩
theorem sc_Turns_went : FnScope ["self", "number"] ["self"] (defScope s_Turns_went) := ⟨rfl, rfl, rfl, by decide +kernel, rfl, by decide +kernel, by decide +kernel⟩
theorem sc_Turns_passes : FnScope ["self", "number"] ["self"] (defScope s_Turns_passes) := ⟨rfl, rfl, rfl, by decide +kernel, rfl, by decide +kernel, by decide +kernel⟩
theorem sc_Turns_waits : FnScope ["self"] ["self"] (defScope s_Turns_waits) := ⟨rfl, rfl, rfl, by decide +kernel, rfl, by decide +kernel, by decide +kernel⟩
theorem sc_Turns_ends : FnScope ["self"] ["self"] (defScope s_Turns_ends) := ⟨rfl, rfl, rfl, by decide +kernel, rfl, by decide +kernel, by decide +kernel⟩
theorem sc_Turns_wakes : FnScope ["self", "number"] ["self", "number"] (defScope s_Turns_wakes) := ⟨rfl, rfl, rfl, by decide +kernel, rfl, by decide +kernel, by decide +kernel⟩
theorem sc_Turns_leaves : FnScope ["self", "number"] ["self", "number"] (defScope s_Turns_leaves) := ⟨rfl, rfl, rfl, by decide +kernel, rfl, by decide +kernel, by decide +kernel⟩
theorem sc_Turns_told : FnScope ["self", "row"] ["self"] (defScope s_Turns_told) := ⟨rfl, rfl, rfl, by decide +kernel, rfl, by decide +kernel, by decide +kernel⟩
theorem sc_Turns_left : FnScope ["self"] ["self"] (defScope s_Turns_left) := ⟨rfl, rfl, rfl, by decide +kernel, rfl, by decide +kernel, by decide +kernel⟩
theorem sc_Turns_level : FnScope ["self", "number"] ["self", "number"] (defScope s_Turns_level) := ⟨rfl, rfl, rfl, by decide +kernel, rfl, by decide +kernel, by decide +kernel⟩
theorem sc_law_mixed : FnScope ["_law_cell", "_law_k"] ["_law_cell", "_law_k"] (defScope s_law_mixed) := ⟨rfl, rfl, rfl, by decide +kernel, rfl, by decide +kernel, by decide +kernel⟩
theorem sc_law_hand : FnScope ["_law_script", "_law_k", "_law_cell"] ["_law_script", "_law_k"] (defScope s_law_hand) := ⟨rfl, rfl, rfl, by decide +kernel, rfl, by decide +kernel, by decide +kernel⟩
theorem sc_law_from : FnScope ["_law_hand_here", "_law_many", "_law_found"] ["_law_hand_here", "_law_many"] (defScope s_law_from) := ⟨rfl, rfl, rfl, by decide +kernel, rfl, by decide +kernel, by decide +kernel⟩
theorem sc_law_new_turns : FnScope [] [] (defScope s_law_new_turns) := ⟨rfl, rfl, rfl, by decide +kernel, rfl, by decide +kernel, by decide +kernel⟩
theorem sc_law_stood : FnScope ["_law_own", "_law_number", "_law_level"] ["_law_own", "_law_number", "_law_level"] (defScope s_law_stood) := ⟨rfl, rfl, rfl, by decide +kernel, rfl, by decide +kernel, by decide +kernel⟩
theorem sc_law_out : FnScope ["_law_own", "_law_number", "_law_level", "_law_one"] ["_law_own", "_law_number"] (defScope s_law_out) := ⟨rfl, rfl, rfl, by decide +kernel, rfl, by decide +kernel, by decide +kernel⟩
theorem sc_law_next : FnScope ["_law_own", "_law_some"] ["_law_own"] (defScope s_law_next) := ⟨rfl, rfl, rfl, by decide +kernel, rfl, by decide +kernel, by decide +kernel⟩
theorem sc_law_stepped : FnScope ["_law_own", "_law_how", "_law_number", "_law_one"] ["_law_own", "_law_how"] (defScope s_law_stepped) := ⟨rfl, rfl, rfl, by decide +kernel, rfl, by decide +kernel, by decide +kernel⟩
theorem sc_law_woken : FnScope ["_law_own", "_law_number", "_law_one"] ["_law_own", "_law_number"] (defScope s_law_woken) := ⟨rfl, rfl, rfl, by decide +kernel, rfl, by decide +kernel, by decide +kernel⟩
theorem sc_law_left : FnScope ["_law_own", "_law_number", "_law_one"] ["_law_own", "_law_number"] (defScope s_law_left) := ⟨rfl, rfl, rfl, by decide +kernel, rfl, by decide +kernel, by decide +kernel⟩
theorem sc_law_step_done : FnScope ["_law_turns", "_law_how"] ["_law_turns", "_law_how"] (defScope s_law_step_done) := ⟨rfl, rfl, rfl, by decide +kernel, rfl, by decide +kernel, by decide +kernel⟩
theorem sc_law_deed : FnScope ["_law_turns", "_law_own", "_law_hand_here", "_law_way", "_law_number", "_law_some"] ["_law_turns", "_law_own", "_law_hand_here"] (defScope s_law_deed) := ⟨rfl, rfl, rfl, by decide +kernel, rfl, by decide +kernel, by decide +kernel⟩
theorem sc_law_without : FnScope ["_law_turns", "_law_number", "_law_found", "_law_row", "_law_one"] ["_law_turns", "_law_number"] (defScope s_law_without) := ⟨rfl, rfl, rfl, by decide +kernel, rfl, by decide +kernel, by decide +kernel⟩
theorem sc_law_orderly : FnScope ["_law_turns", "_law_own", "_law_hand_here", "_law_step", "_law_number", "_law_before", "_law_how"] ["_law_turns", "_law_own", "_law_hand_here"] (defScope s_law_orderly) := ⟨rfl, rfl, rfl, by decide +kernel, rfl, by decide +kernel, by decide +kernel⟩
theorem sc_law_once : FnScope ["_law_turns", "_law_own", "_law_rows", "_law_every", "_law_level", "_law_one"] ["_law_turns", "_law_own"] (defScope s_law_once) := ⟨rfl, rfl, rfl, by decide +kernel, rfl, by decide +kernel, by decide +kernel⟩
theorem sc_law : FnScope ["_law_script", "_law_pair", "_law_owns", "_law_own", "_law_k", "_law_hand_here", "_law_at", "_law_kept"] ["_law_script"] (defScope s_law) := ⟨rfl, rfl, rfl, by decide +kernel, rfl, by decide +kernel, by decide +kernel⟩
def fs_Turns (x0 : V) (x1 : V) (x2 : V) (x3 : V) (x4 : V) : List (Str × V) := [(("queues" : Str), x0), (("depths" : Str), x1), (("runs" : Str), x2), (("rest" : Str), x3), (("steps" : Str), x4)]
theorem lk_Turns_queues {x0 : V} {x1 : V} {x2 : V} {x3 : V} {x4 : V} : (fs_Turns x0 x1 x2 x3 x4).lookup ("queues" : Str) = some x0 := by kernel_rfl
theorem pf_Turns_queues {x0 : V} {x1 : V} {x2 : V} {x3 : V} {x4 : V} {y : V} : putF "queues" y (fs_Turns x0 x1 x2 x3 x4) = fs_Turns y x1 x2 x3 x4 := by kernel_rfl
theorem pi_Turns_queues {x0 : V} : putF "queues" x0 ([] : List (Str × V)) = [(("queues" : Str), x0)] := by kernel_rfl
theorem lk_Turns_depths {x0 : V} {x1 : V} {x2 : V} {x3 : V} {x4 : V} : (fs_Turns x0 x1 x2 x3 x4).lookup ("depths" : Str) = some x1 := by kernel_rfl
theorem pf_Turns_depths {x0 : V} {x1 : V} {x2 : V} {x3 : V} {x4 : V} {y : V} : putF "depths" y (fs_Turns x0 x1 x2 x3 x4) = fs_Turns x0 y x2 x3 x4 := by kernel_rfl
theorem pi_Turns_depths {x0 : V} {x1 : V} : putF "depths" x1 ([(("queues" : Str), x0)] : List (Str × V)) = [(("queues" : Str), x0), (("depths" : Str), x1)] := by kernel_rfl
theorem lk_Turns_runs {x0 : V} {x1 : V} {x2 : V} {x3 : V} {x4 : V} : (fs_Turns x0 x1 x2 x3 x4).lookup ("runs" : Str) = some x2 := by kernel_rfl
theorem pf_Turns_runs {x0 : V} {x1 : V} {x2 : V} {x3 : V} {x4 : V} {y : V} : putF "runs" y (fs_Turns x0 x1 x2 x3 x4) = fs_Turns x0 x1 y x3 x4 := by kernel_rfl
theorem pi_Turns_runs {x0 : V} {x1 : V} {x2 : V} : putF "runs" x2 ([(("queues" : Str), x0), (("depths" : Str), x1)] : List (Str × V)) = [(("queues" : Str), x0), (("depths" : Str), x1), (("runs" : Str), x2)] := by kernel_rfl
theorem lk_Turns_rest {x0 : V} {x1 : V} {x2 : V} {x3 : V} {x4 : V} : (fs_Turns x0 x1 x2 x3 x4).lookup ("rest" : Str) = some x3 := by kernel_rfl
theorem pf_Turns_rest {x0 : V} {x1 : V} {x2 : V} {x3 : V} {x4 : V} {y : V} : putF "rest" y (fs_Turns x0 x1 x2 x3 x4) = fs_Turns x0 x1 x2 y x4 := by kernel_rfl
theorem pi_Turns_rest {x0 : V} {x1 : V} {x2 : V} {x3 : V} : putF "rest" x3 ([(("queues" : Str), x0), (("depths" : Str), x1), (("runs" : Str), x2)] : List (Str × V)) = [(("queues" : Str), x0), (("depths" : Str), x1), (("runs" : Str), x2), (("rest" : Str), x3)] := by kernel_rfl
theorem lk_Turns_steps {x0 : V} {x1 : V} {x2 : V} {x3 : V} {x4 : V} : (fs_Turns x0 x1 x2 x3 x4).lookup ("steps" : Str) = some x4 := by kernel_rfl
theorem pf_Turns_steps {x0 : V} {x1 : V} {x2 : V} {x3 : V} {x4 : V} {y : V} : putF "steps" y (fs_Turns x0 x1 x2 x3 x4) = fs_Turns x0 x1 x2 x3 y := by kernel_rfl
theorem pi_Turns_steps {x0 : V} {x1 : V} {x2 : V} {x3 : V} {x4 : V} : putF "steps" x4 ([(("queues" : Str), x0), (("depths" : Str), x1), (("runs" : Str), x2), (("rest" : Str), x3)] : List (Str × V)) = fs_Turns x0 x1 x2 x3 x4 := by kernel_rfl
theorem ln_Turns {x0 : V} {x1 : V} {x2 : V} {x3 : V} {x4 : V} : (fs_Turns x0 x1 x2 x3 x4).length < 1000 := by show 5 < 1000; decide
theorem lm_Turns_stand {x0 : V} {x1 : V} {x2 : V} {x3 : V} {x4 : V} : (fs_Turns x0 x1 x2 x3 x4).lookup ("stand" : Str) = none := by kernel_rfl
theorem lm_Turns_step_out {x0 : V} {x1 : V} {x2 : V} {x3 : V} {x4 : V} : (fs_Turns x0 x1 x2 x3 x4).lookup ("step_out" : Str) = none := by kernel_rfl
theorem lm_Turns_add {x0 : V} {x1 : V} {x2 : V} {x3 : V} {x4 : V} : (fs_Turns x0 x1 x2 x3 x4).lookup ("add" : Str) = none := by kernel_rfl
theorem lm_Turns_first_ready {x0 : V} {x1 : V} {x2 : V} {x3 : V} {x4 : V} : (fs_Turns x0 x1 x2 x3 x4).lookup ("first_ready" : Str) = none := by kernel_rfl
theorem lm_Turns_next {x0 : V} {x1 : V} {x2 : V} {x3 : V} {x4 : V} : (fs_Turns x0 x1 x2 x3 x4).lookup ("next" : Str) = none := by kernel_rfl
theorem lm_Turns_slice_over {x0 : V} {x1 : V} {x2 : V} {x3 : V} {x4 : V} : (fs_Turns x0 x1 x2 x3 x4).lookup ("slice_over" : Str) = none := by kernel_rfl
theorem lm_Turns_counted {x0 : V} {x1 : V} {x2 : V} {x3 : V} {x4 : V} : (fs_Turns x0 x1 x2 x3 x4).lookup ("counted" : Str) = none := by kernel_rfl
theorem lm_Turns_went {x0 : V} {x1 : V} {x2 : V} {x3 : V} {x4 : V} : (fs_Turns x0 x1 x2 x3 x4).lookup ("went" : Str) = none := by kernel_rfl
theorem lm_Turns_passes {x0 : V} {x1 : V} {x2 : V} {x3 : V} {x4 : V} : (fs_Turns x0 x1 x2 x3 x4).lookup ("passes" : Str) = none := by kernel_rfl
theorem lm_Turns_waits {x0 : V} {x1 : V} {x2 : V} {x3 : V} {x4 : V} : (fs_Turns x0 x1 x2 x3 x4).lookup ("waits" : Str) = none := by kernel_rfl
theorem lm_Turns_ends {x0 : V} {x1 : V} {x2 : V} {x3 : V} {x4 : V} : (fs_Turns x0 x1 x2 x3 x4).lookup ("ends" : Str) = none := by kernel_rfl
theorem lm_Turns_wakes {x0 : V} {x1 : V} {x2 : V} {x3 : V} {x4 : V} : (fs_Turns x0 x1 x2 x3 x4).lookup ("wakes" : Str) = none := by kernel_rfl
theorem lm_Turns_leaves {x0 : V} {x1 : V} {x2 : V} {x3 : V} {x4 : V} : (fs_Turns x0 x1 x2 x3 x4).lookup ("leaves" : Str) = none := by kernel_rfl
theorem lm_Turns_told {x0 : V} {x1 : V} {x2 : V} {x3 : V} {x4 : V} : (fs_Turns x0 x1 x2 x3 x4).lookup ("told" : Str) = none := by kernel_rfl
theorem lm_Turns_left {x0 : V} {x1 : V} {x2 : V} {x3 : V} {x4 : V} : (fs_Turns x0 x1 x2 x3 x4).lookup ("left" : Str) = none := by kernel_rfl
theorem lm_Turns_level {x0 : V} {x1 : V} {x2 : V} {x3 : V} {x4 : V} : (fs_Turns x0 x1 x2 x3 x4).lookup ("level" : Str) = none := by kernel_rfl
def haK (x0 : V) (x1 : V) (x2 : V) (x3 : V) (x4 : V) : List (Key × V) := [(Sum.inr ("cell" : Str), x0), (Sum.inr ("rest" : Str), x1), (Sum.inr ("place" : Str), x2), (Sum.inr ("many" : Str), x3), (Sum.inr ("own" : Str), x4)]
theorem haK_len {x0 : V} {x1 : V} {x2 : V} {x3 : V} {x4 : V} : (haK x0 x1 x2 x3 x4).length < sizeLine := szlt (by show 5 < 100000; decide)
theorem haK_disp {x0 : V} {x1 : V} {x2 : V} {x3 : V} {x4 : V} : mergeK [] ([(Sum.inr ("cell" : Str), x0), (Sum.inr ("rest" : Str), x1), (Sum.inr ("place" : Str), x2), (Sum.inr ("many" : Str), x3), (Sum.inr ("own" : Str), x4)] : List (Key × V)) = haK x0 x1 x2 x3 x4 := by kernel_rfl
theorem haK_g_cell {x0 : V} {x1 : V} {x2 : V} {x3 : V} {x4 : V} : valV (haK x0 x1 x2 x3 x4) (.inr "cell") = some x0 := by kernel_rfl
theorem haK_p_cell {x0 : V} {x1 : V} {x2 : V} {x3 : V} {x4 : V} {y : V} : putK (haK x0 x1 x2 x3 x4) (.inr "cell") y = haK y x1 x2 x3 x4 := by kernel_rfl
theorem haK_g_rest {x0 : V} {x1 : V} {x2 : V} {x3 : V} {x4 : V} : valV (haK x0 x1 x2 x3 x4) (.inr "rest") = some x1 := by kernel_rfl
theorem haK_p_rest {x0 : V} {x1 : V} {x2 : V} {x3 : V} {x4 : V} {y : V} : putK (haK x0 x1 x2 x3 x4) (.inr "rest") y = haK x0 y x2 x3 x4 := by kernel_rfl
theorem haK_g_place {x0 : V} {x1 : V} {x2 : V} {x3 : V} {x4 : V} : valV (haK x0 x1 x2 x3 x4) (.inr "place") = some x2 := by kernel_rfl
theorem haK_p_place {x0 : V} {x1 : V} {x2 : V} {x3 : V} {x4 : V} {y : V} : putK (haK x0 x1 x2 x3 x4) (.inr "place") y = haK x0 x1 y x3 x4 := by kernel_rfl
theorem haK_g_many {x0 : V} {x1 : V} {x2 : V} {x3 : V} {x4 : V} : valV (haK x0 x1 x2 x3 x4) (.inr "many") = some x3 := by kernel_rfl
theorem haK_p_many {x0 : V} {x1 : V} {x2 : V} {x3 : V} {x4 : V} {y : V} : putK (haK x0 x1 x2 x3 x4) (.inr "many") y = haK x0 x1 x2 y x4 := by kernel_rfl
theorem haK_g_own {x0 : V} {x1 : V} {x2 : V} {x3 : V} {x4 : V} : valV (haK x0 x1 x2 x3 x4) (.inr "own") = some x4 := by kernel_rfl
theorem haK_p_own {x0 : V} {x1 : V} {x2 : V} {x3 : V} {x4 : V} {y : V} : putK (haK x0 x1 x2 x3 x4) (.inr "own") y = haK x0 x1 x2 x3 y := by kernel_rfl
def ow0 (x0 : V) (x1 : V) (x2 : V) (x3 : V) (x4 : V) (x5 : V) : List (Key × V) := [(Sum.inr ("rows" : Str), x0), (Sum.inr ("depth" : Str), x1), (Sum.inr ("waiting" : Str), x2), (Sum.inr ("runs" : Str), x3), (Sum.inr ("left" : Str), x4), (Sum.inr ("steps" : Str), x5)]
theorem ow0_len {x0 : V} {x1 : V} {x2 : V} {x3 : V} {x4 : V} {x5 : V} : (ow0 x0 x1 x2 x3 x4 x5).length < sizeLine := szlt (by show 6 < 100000; decide)
theorem ow0_disp {x0 : V} {x1 : V} {x2 : V} {x3 : V} {x4 : V} {x5 : V} : mergeK [] ([(Sum.inr ("rows" : Str), x0), (Sum.inr ("depth" : Str), x1), (Sum.inr ("waiting" : Str), x2), (Sum.inr ("runs" : Str), x3), (Sum.inr ("left" : Str), x4), (Sum.inr ("steps" : Str), x5)] : List (Key × V)) = ow0 x0 x1 x2 x3 x4 x5 := by kernel_rfl
theorem ow0_g_rows {x0 : V} {x1 : V} {x2 : V} {x3 : V} {x4 : V} {x5 : V} : valV (ow0 x0 x1 x2 x3 x4 x5) (.inr "rows") = some x0 := by kernel_rfl
theorem ow0_p_rows {x0 : V} {x1 : V} {x2 : V} {x3 : V} {x4 : V} {x5 : V} {y : V} : putK (ow0 x0 x1 x2 x3 x4 x5) (.inr "rows") y = ow0 y x1 x2 x3 x4 x5 := by kernel_rfl
theorem ow0_g_depth {x0 : V} {x1 : V} {x2 : V} {x3 : V} {x4 : V} {x5 : V} : valV (ow0 x0 x1 x2 x3 x4 x5) (.inr "depth") = some x1 := by kernel_rfl
theorem ow0_p_depth {x0 : V} {x1 : V} {x2 : V} {x3 : V} {x4 : V} {x5 : V} {y : V} : putK (ow0 x0 x1 x2 x3 x4 x5) (.inr "depth") y = ow0 x0 y x2 x3 x4 x5 := by kernel_rfl
theorem ow0_g_waiting {x0 : V} {x1 : V} {x2 : V} {x3 : V} {x4 : V} {x5 : V} : valV (ow0 x0 x1 x2 x3 x4 x5) (.inr "waiting") = some x2 := by kernel_rfl
theorem ow0_p_waiting {x0 : V} {x1 : V} {x2 : V} {x3 : V} {x4 : V} {x5 : V} {y : V} : putK (ow0 x0 x1 x2 x3 x4 x5) (.inr "waiting") y = ow0 x0 x1 y x3 x4 x5 := by kernel_rfl
theorem ow0_g_runs {x0 : V} {x1 : V} {x2 : V} {x3 : V} {x4 : V} {x5 : V} : valV (ow0 x0 x1 x2 x3 x4 x5) (.inr "runs") = some x3 := by kernel_rfl
theorem ow0_p_runs {x0 : V} {x1 : V} {x2 : V} {x3 : V} {x4 : V} {x5 : V} {y : V} : putK (ow0 x0 x1 x2 x3 x4 x5) (.inr "runs") y = ow0 x0 x1 x2 y x4 x5 := by kernel_rfl
theorem ow0_g_left {x0 : V} {x1 : V} {x2 : V} {x3 : V} {x4 : V} {x5 : V} : valV (ow0 x0 x1 x2 x3 x4 x5) (.inr "left") = some x4 := by kernel_rfl
theorem ow0_p_left {x0 : V} {x1 : V} {x2 : V} {x3 : V} {x4 : V} {x5 : V} {y : V} : putK (ow0 x0 x1 x2 x3 x4 x5) (.inr "left") y = ow0 x0 x1 x2 x3 y x5 := by kernel_rfl
theorem ow0_g_steps {x0 : V} {x1 : V} {x2 : V} {x3 : V} {x4 : V} {x5 : V} : valV (ow0 x0 x1 x2 x3 x4 x5) (.inr "steps") = some x5 := by kernel_rfl
theorem ow0_p_steps {x0 : V} {x1 : V} {x2 : V} {x3 : V} {x4 : V} {x5 : V} {y : V} : putK (ow0 x0 x1 x2 x3 x4 x5) (.inr "steps") y = ow0 x0 x1 x2 x3 x4 y := by kernel_rfl
def owK (x0 : V) (x1 : V) (x2 : V) (x3 : V) (x4 : V) (x5 : V) (x6 : V) : List (Key × V) := [(Sum.inr ("rows" : Str), x0), (Sum.inr ("depth" : Str), x1), (Sum.inr ("waiting" : Str), x2), (Sum.inr ("runs" : Str), x3), (Sum.inr ("left" : Str), x4), (Sum.inr ("steps" : Str), x5), (Sum.inr ("last" : Str), x6)]
theorem owK_len {x0 : V} {x1 : V} {x2 : V} {x3 : V} {x4 : V} {x5 : V} {x6 : V} : (owK x0 x1 x2 x3 x4 x5 x6).length < sizeLine := szlt (by show 7 < 100000; decide)
theorem owK_disp {x0 : V} {x1 : V} {x2 : V} {x3 : V} {x4 : V} {x5 : V} {x6 : V} : mergeK [] ([(Sum.inr ("rows" : Str), x0), (Sum.inr ("depth" : Str), x1), (Sum.inr ("waiting" : Str), x2), (Sum.inr ("runs" : Str), x3), (Sum.inr ("left" : Str), x4), (Sum.inr ("steps" : Str), x5), (Sum.inr ("last" : Str), x6)] : List (Key × V)) = owK x0 x1 x2 x3 x4 x5 x6 := by kernel_rfl
theorem owK_g_rows {x0 : V} {x1 : V} {x2 : V} {x3 : V} {x4 : V} {x5 : V} {x6 : V} : valV (owK x0 x1 x2 x3 x4 x5 x6) (.inr "rows") = some x0 := by kernel_rfl
theorem owK_p_rows {x0 : V} {x1 : V} {x2 : V} {x3 : V} {x4 : V} {x5 : V} {x6 : V} {y : V} : putK (owK x0 x1 x2 x3 x4 x5 x6) (.inr "rows") y = owK y x1 x2 x3 x4 x5 x6 := by kernel_rfl
theorem owK_g_depth {x0 : V} {x1 : V} {x2 : V} {x3 : V} {x4 : V} {x5 : V} {x6 : V} : valV (owK x0 x1 x2 x3 x4 x5 x6) (.inr "depth") = some x1 := by kernel_rfl
theorem owK_p_depth {x0 : V} {x1 : V} {x2 : V} {x3 : V} {x4 : V} {x5 : V} {x6 : V} {y : V} : putK (owK x0 x1 x2 x3 x4 x5 x6) (.inr "depth") y = owK x0 y x2 x3 x4 x5 x6 := by kernel_rfl
theorem owK_g_waiting {x0 : V} {x1 : V} {x2 : V} {x3 : V} {x4 : V} {x5 : V} {x6 : V} : valV (owK x0 x1 x2 x3 x4 x5 x6) (.inr "waiting") = some x2 := by kernel_rfl
theorem owK_p_waiting {x0 : V} {x1 : V} {x2 : V} {x3 : V} {x4 : V} {x5 : V} {x6 : V} {y : V} : putK (owK x0 x1 x2 x3 x4 x5 x6) (.inr "waiting") y = owK x0 x1 y x3 x4 x5 x6 := by kernel_rfl
theorem owK_g_runs {x0 : V} {x1 : V} {x2 : V} {x3 : V} {x4 : V} {x5 : V} {x6 : V} : valV (owK x0 x1 x2 x3 x4 x5 x6) (.inr "runs") = some x3 := by kernel_rfl
theorem owK_p_runs {x0 : V} {x1 : V} {x2 : V} {x3 : V} {x4 : V} {x5 : V} {x6 : V} {y : V} : putK (owK x0 x1 x2 x3 x4 x5 x6) (.inr "runs") y = owK x0 x1 x2 y x4 x5 x6 := by kernel_rfl
theorem owK_g_left {x0 : V} {x1 : V} {x2 : V} {x3 : V} {x4 : V} {x5 : V} {x6 : V} : valV (owK x0 x1 x2 x3 x4 x5 x6) (.inr "left") = some x4 := by kernel_rfl
theorem owK_p_left {x0 : V} {x1 : V} {x2 : V} {x3 : V} {x4 : V} {x5 : V} {x6 : V} {y : V} : putK (owK x0 x1 x2 x3 x4 x5 x6) (.inr "left") y = owK x0 x1 x2 x3 y x5 x6 := by kernel_rfl
theorem owK_g_steps {x0 : V} {x1 : V} {x2 : V} {x3 : V} {x4 : V} {x5 : V} {x6 : V} : valV (owK x0 x1 x2 x3 x4 x5 x6) (.inr "steps") = some x5 := by kernel_rfl
theorem owK_p_steps {x0 : V} {x1 : V} {x2 : V} {x3 : V} {x4 : V} {x5 : V} {x6 : V} {y : V} : putK (owK x0 x1 x2 x3 x4 x5 x6) (.inr "steps") y = owK x0 x1 x2 x3 x4 y x6 := by kernel_rfl
theorem owK_g_last {x0 : V} {x1 : V} {x2 : V} {x3 : V} {x4 : V} {x5 : V} {x6 : V} : valV (owK x0 x1 x2 x3 x4 x5 x6) (.inr "last") = some x6 := by kernel_rfl
theorem owK_p_last {x0 : V} {x1 : V} {x2 : V} {x3 : V} {x4 : V} {x5 : V} {x6 : V} {y : V} : putK (owK x0 x1 x2 x3 x4 x5 x6) (.inr "last") y = owK x0 x1 x2 x3 x4 x5 y := by kernel_rfl
structure Txt (K : PySem.W.Frag) (mg : Str → Option Value) where
  C_Turns : Addr
  cl_Turns : Cls K C_Turns
  g_Turns : mg "Turns" = some (.ref C_Turns)
  n_Turns_queues : NoAttr K C_Turns "queues"
  n_Turns_depths : NoAttr K C_Turns "depths"
  n_Turns_runs : NoAttr K C_Turns "runs"
  n_Turns_rest : NoAttr K C_Turns "rest"
  n_Turns_steps : NoAttr K C_Turns "steps"
  a_Turns_init : Addr
  d_Turns_init : FuncData
  f_Turns_init : Fun K "__init__" "Turns.__init__" s_Turns_init a_Turns_init d_Turns_init
  b_Turns_init : Binds K d_Turns_init ["self"] []
  mk_Turns : Mk K C_Turns a_Turns_init
  a_Turns_stand : Addr
  d_Turns_stand : FuncData
  f_Turns_stand : Fun K "stand" "Turns.stand" s_Turns_stand a_Turns_stand d_Turns_stand
  b_Turns_stand : Binds K d_Turns_stand ["self", "number", "level"] []
  m_Turns_stand : Meth K C_Turns "stand" a_Turns_stand
  a_Turns_step_out : Addr
  d_Turns_step_out : FuncData
  f_Turns_step_out : Fun K "step_out" "Turns.step_out" s_Turns_step_out a_Turns_step_out d_Turns_step_out
  b_Turns_step_out : Binds K d_Turns_step_out ["self", "number"] []
  m_Turns_step_out : Meth K C_Turns "step_out" a_Turns_step_out
  a_Turns_add : Addr
  d_Turns_add : FuncData
  f_Turns_add : Fun K "add" "Turns.add" s_Turns_add a_Turns_add d_Turns_add
  b_Turns_add : Binds K d_Turns_add ["self", "number"] []
  m_Turns_add : Meth K C_Turns "add" a_Turns_add
  a_Turns_first_ready : Addr
  d_Turns_first_ready : FuncData
  f_Turns_first_ready : Fun K "first_ready" "Turns.first_ready" s_Turns_first_ready a_Turns_first_ready d_Turns_first_ready
  b_Turns_first_ready : Binds K d_Turns_first_ready ["self"] []
  m_Turns_first_ready : Meth K C_Turns "first_ready" a_Turns_first_ready
  a_Turns_next : Addr
  d_Turns_next : FuncData
  f_Turns_next : Fun K "next" "Turns.next" s_Turns_next a_Turns_next d_Turns_next
  b_Turns_next : Binds K d_Turns_next ["self"] []
  m_Turns_next : Meth K C_Turns "next" a_Turns_next
  a_Turns_slice_over : Addr
  d_Turns_slice_over : FuncData
  f_Turns_slice_over : Fun K "slice_over" "Turns.slice_over" s_Turns_slice_over a_Turns_slice_over d_Turns_slice_over
  b_Turns_slice_over : Binds K d_Turns_slice_over ["self"] []
  m_Turns_slice_over : Meth K C_Turns "slice_over" a_Turns_slice_over
  a_Turns_counted : Addr
  d_Turns_counted : FuncData
  f_Turns_counted : Fun K "counted" "Turns.counted" s_Turns_counted a_Turns_counted d_Turns_counted
  b_Turns_counted : Binds K d_Turns_counted ["self"] []
  m_Turns_counted : Meth K C_Turns "counted" a_Turns_counted
  a_Turns_went : Addr
  d_Turns_went : FuncData
  f_Turns_went : Fun K "went" "Turns.went" s_Turns_went a_Turns_went d_Turns_went
  b_Turns_went : Binds K d_Turns_went ["self"] []
  m_Turns_went : Meth K C_Turns "went" a_Turns_went
  a_Turns_passes : Addr
  d_Turns_passes : FuncData
  f_Turns_passes : Fun K "passes" "Turns.passes" s_Turns_passes a_Turns_passes d_Turns_passes
  b_Turns_passes : Binds K d_Turns_passes ["self"] []
  m_Turns_passes : Meth K C_Turns "passes" a_Turns_passes
  a_Turns_waits : Addr
  d_Turns_waits : FuncData
  f_Turns_waits : Fun K "waits" "Turns.waits" s_Turns_waits a_Turns_waits d_Turns_waits
  b_Turns_waits : Binds K d_Turns_waits ["self"] []
  m_Turns_waits : Meth K C_Turns "waits" a_Turns_waits
  a_Turns_ends : Addr
  d_Turns_ends : FuncData
  f_Turns_ends : Fun K "ends" "Turns.ends" s_Turns_ends a_Turns_ends d_Turns_ends
  b_Turns_ends : Binds K d_Turns_ends ["self"] []
  m_Turns_ends : Meth K C_Turns "ends" a_Turns_ends
  a_Turns_wakes : Addr
  d_Turns_wakes : FuncData
  f_Turns_wakes : Fun K "wakes" "Turns.wakes" s_Turns_wakes a_Turns_wakes d_Turns_wakes
  b_Turns_wakes : Binds K d_Turns_wakes ["self", "number"] []
  m_Turns_wakes : Meth K C_Turns "wakes" a_Turns_wakes
  a_Turns_leaves : Addr
  d_Turns_leaves : FuncData
  f_Turns_leaves : Fun K "leaves" "Turns.leaves" s_Turns_leaves a_Turns_leaves d_Turns_leaves
  b_Turns_leaves : Binds K d_Turns_leaves ["self", "number"] []
  m_Turns_leaves : Meth K C_Turns "leaves" a_Turns_leaves
  a_Turns_told : Addr
  d_Turns_told : FuncData
  f_Turns_told : Fun K "told" "Turns.told" s_Turns_told a_Turns_told d_Turns_told
  b_Turns_told : Binds K d_Turns_told ["self"] []
  m_Turns_told : Meth K C_Turns "told" a_Turns_told
  a_Turns_left : Addr
  d_Turns_left : FuncData
  f_Turns_left : Fun K "left" "Turns.left" s_Turns_left a_Turns_left d_Turns_left
  b_Turns_left : Binds K d_Turns_left ["self"] []
  m_Turns_left : Meth K C_Turns "left" a_Turns_left
  a_Turns_level : Addr
  d_Turns_level : FuncData
  f_Turns_level : Fun K "level" "Turns.level" s_Turns_level a_Turns_level d_Turns_level
  b_Turns_level : Binds K d_Turns_level ["self", "number"] []
  m_Turns_level : Meth K C_Turns "level" a_Turns_level
  a_law_mixed : Addr
  d_law_mixed : FuncData
  f_law_mixed : Fun K "_law_mixed" "_law_mixed" s_law_mixed a_law_mixed d_law_mixed
  b_law_mixed : Binds K d_law_mixed ["_law_cell", "_law_k"] []
  g_law_mixed : mg "_law_mixed" = some (.ref a_law_mixed)
  a_law_hand : Addr
  d_law_hand : FuncData
  f_law_hand : Fun K "_law_hand" "_law_hand" s_law_hand a_law_hand d_law_hand
  b_law_hand : Binds K d_law_hand ["_law_script", "_law_k"] []
  g_law_hand : mg "_law_hand" = some (.ref a_law_hand)
  a_law_from : Addr
  d_law_from : FuncData
  f_law_from : Fun K "_law_from" "_law_from" s_law_from a_law_from d_law_from
  b_law_from : Binds K d_law_from ["_law_hand_here", "_law_many"] []
  g_law_from : mg "_law_from" = some (.ref a_law_from)
  a_law_new_turns : Addr
  d_law_new_turns : FuncData
  f_law_new_turns : Fun K "_law_new_turns" "_law_new_turns" s_law_new_turns a_law_new_turns d_law_new_turns
  b_law_new_turns : Binds K d_law_new_turns [] []
  g_law_new_turns : mg "_law_new_turns" = some (.ref a_law_new_turns)
  a_law_stood : Addr
  d_law_stood : FuncData
  f_law_stood : Fun K "_law_stood" "_law_stood" s_law_stood a_law_stood d_law_stood
  b_law_stood : Binds K d_law_stood ["_law_own", "_law_number", "_law_level"] []
  g_law_stood : mg "_law_stood" = some (.ref a_law_stood)
  a_law_out : Addr
  d_law_out : FuncData
  f_law_out : Fun K "_law_out" "_law_out" s_law_out a_law_out d_law_out
  b_law_out : Binds K d_law_out ["_law_own", "_law_number"] []
  g_law_out : mg "_law_out" = some (.ref a_law_out)
  a_law_next : Addr
  d_law_next : FuncData
  f_law_next : Fun K "_law_next" "_law_next" s_law_next a_law_next d_law_next
  b_law_next : Binds K d_law_next ["_law_own"] []
  g_law_next : mg "_law_next" = some (.ref a_law_next)
  a_law_stepped : Addr
  d_law_stepped : FuncData
  f_law_stepped : Fun K "_law_stepped" "_law_stepped" s_law_stepped a_law_stepped d_law_stepped
  b_law_stepped : Binds K d_law_stepped ["_law_own", "_law_how"] []
  g_law_stepped : mg "_law_stepped" = some (.ref a_law_stepped)
  a_law_woken : Addr
  d_law_woken : FuncData
  f_law_woken : Fun K "_law_woken" "_law_woken" s_law_woken a_law_woken d_law_woken
  b_law_woken : Binds K d_law_woken ["_law_own", "_law_number"] []
  g_law_woken : mg "_law_woken" = some (.ref a_law_woken)
  a_law_left : Addr
  d_law_left : FuncData
  f_law_left : Fun K "_law_left" "_law_left" s_law_left a_law_left d_law_left
  b_law_left : Binds K d_law_left ["_law_own", "_law_number"] []
  g_law_left : mg "_law_left" = some (.ref a_law_left)
  a_law_step_done : Addr
  d_law_step_done : FuncData
  f_law_step_done : Fun K "_law_step_done" "_law_step_done" s_law_step_done a_law_step_done d_law_step_done
  b_law_step_done : Binds K d_law_step_done ["_law_turns", "_law_how"] []
  g_law_step_done : mg "_law_step_done" = some (.ref a_law_step_done)
  a_law_deed : Addr
  d_law_deed : FuncData
  f_law_deed : Fun K "_law_deed" "_law_deed" s_law_deed a_law_deed d_law_deed
  b_law_deed : Binds K d_law_deed ["_law_turns", "_law_own", "_law_hand_here"] []
  g_law_deed : mg "_law_deed" = some (.ref a_law_deed)
  a_law_without : Addr
  d_law_without : FuncData
  f_law_without : Fun K "_law_without" "_law_without" s_law_without a_law_without d_law_without
  b_law_without : Binds K d_law_without ["_law_turns", "_law_number"] []
  g_law_without : mg "_law_without" = some (.ref a_law_without)
  a_law_orderly : Addr
  d_law_orderly : FuncData
  f_law_orderly : Fun K "_law_orderly" "_law_orderly" s_law_orderly a_law_orderly d_law_orderly
  b_law_orderly : Binds K d_law_orderly ["_law_turns", "_law_own", "_law_hand_here"] []
  g_law_orderly : mg "_law_orderly" = some (.ref a_law_orderly)
  a_law_once : Addr
  d_law_once : FuncData
  f_law_once : Fun K "_law_once" "_law_once" s_law_once a_law_once d_law_once
  b_law_once : Binds K d_law_once ["_law_turns", "_law_own"] []
  g_law_once : mg "_law_once" = some (.ref a_law_once)
  a_law : Addr
  d_law : FuncData
  f_law : Fun K "law" "law" s_law a_law d_law
  b_law : Binds K d_law ["_law_script"] []
  g_law : mg "law" = some (.ref a_law)
  g_LEVELS : ∃ t, mg "LEVELS" = some (.int 4 t)
  g_LIFT : ∃ t, mg "LIFT" = some (.int 64 t)
  a_SLICES : Addr
  g_SLICES : mg "SLICES" = some (.ref a_SLICES)
  t_SLICES : ∀ H : Hp, SqT K H a_SLICES [.int 2, .int 4, .int 8, .int 16]
  n_dict : mg "dict" = none
  n_int : mg "int" = none
  n_len : mg "len" = none
  n_list : mg "list" = none
  n_max : mg "max" = none
  n_min : mg "min" = none
  n_range : mg "range" = none
  n_repr : mg "repr" = none
  n_set : mg "set" = none
  n_sorted : mg "sorted" = none
  n_sum : mg "sum" = none
  n_tuple : mg "tuple" = none
set_option hygiene false in
local macro_rules | `(tactic| walk_at "pull") => `(tactic| first | with_reducible exact Sl.Pull.here | (with_reducible apply Sl.Pull.there; walk_at "pull"))
set_option hygiene false in
local macro_rules | `(tactic| walk_at "put") => `(tactic| first | with_reducible exact Sl.Put.here | (with_reducible apply Sl.Put.there; walk_at "put"))
set_option hygiene false in
local macro_rules | `(tactic| walk_at "mt") => `(tactic| first | with_reducible exact Sl.Mt.refl | with_reducible exact Sl.Mt.nil | ((with_reducible show Sl.Mt (_ :: _) _); with_reducible apply Sl.Mt.cons; (focus walk_at "pull"); walk_at "mt") | ((fail_if_success (with_reducible show Sl.Mt (_ :: _) _)); with_reducible apply Sl.Mt.drop; walk_at "mt"))
set_option hygiene false in
local macro_rules | `(tactic| walk_at "get") => `(tactic| first | with_reducible assumption | exact Sl.Hd.get hs (by walk_at "pull"))
set_option hygiene false in
local macro_rules | `(tactic| walk_at "sq") => `(tactic| first | with_reducible assumption | exact Sl.Hd.sq hs (by walk_at "pull") | exact Sl.Hd.sql hs (by walk_at "pull"))
set_option hygiene false in
local macro_rules | `(tactic| walk_at "sqt") => `(tactic| first | with_reducible assumption | exact Sl.Hd.st hs (by walk_at "pull"))
set_option hygiene false in
local macro_rules | `(tactic| walk_at "cls") => `(tactic| first | with_reducible exact T.cl_Turns)
set_option hygiene false in
local macro_rules | `(tactic| walk_at "noattr") => `(tactic| first | with_reducible exact T.n_Turns_queues | with_reducible exact T.n_Turns_depths | with_reducible exact T.n_Turns_runs | with_reducible exact T.n_Turns_rest | with_reducible exact T.n_Turns_steps)
set_option hygiene false in
local macro_rules | `(tactic| walk_at "look") => `(tactic| first | with_reducible exact lk_Turns_queues | with_reducible exact lk_Turns_depths | with_reducible exact lk_Turns_runs | with_reducible exact lk_Turns_rest | with_reducible exact lk_Turns_steps | with_reducible exact lm_Turns_stand | with_reducible exact lm_Turns_step_out | with_reducible exact lm_Turns_add | with_reducible exact lm_Turns_first_ready | with_reducible exact lm_Turns_next | with_reducible exact lm_Turns_slice_over | with_reducible exact lm_Turns_counted | with_reducible exact lm_Turns_went | with_reducible exact lm_Turns_passes | with_reducible exact lm_Turns_waits | with_reducible exact lm_Turns_ends | with_reducible exact lm_Turns_wakes | with_reducible exact lm_Turns_leaves | with_reducible exact lm_Turns_told | with_reducible exact lm_Turns_left | with_reducible exact lm_Turns_level)
set_option hygiene false in
local macro_rules | `(tactic| walk_at "putf") => `(tactic| first | with_reducible exact pf_Turns_queues | with_reducible exact pi_Turns_queues | with_reducible exact pf_Turns_depths | with_reducible exact pi_Turns_depths | with_reducible exact pf_Turns_runs | with_reducible exact pi_Turns_runs | with_reducible exact pf_Turns_rest | with_reducible exact pi_Turns_rest | with_reducible exact pf_Turns_steps | with_reducible exact pi_Turns_steps)
set_option hygiene false in
local macro_rules | `(tactic| walk_at "flen") => `(tactic| first | (first | with_reducible exact ln_Turns) | (simp; done))
set_option hygiene false in
local macro_rules | `(tactic| walk_at "len") => `(tactic| first | with_reducible assumption | exact Sl.sz (by first | decide | omega | (simp only [List.length_cons, List.length_nil, List.length_append, List.length_map, List.length_set, List.length_replicate, List.length_range] <;> omega)))
set_option hygiene false in
local macro_rules | `(tactic| walk_at "lenlt") => `(tactic| first | with_reducible assumption | exact Sl.szlt (by first | decide | omega | (simp only [List.length_cons, List.length_nil, List.length_append, List.length_map, List.length_set, List.length_replicate, List.length_range] <;> omega)))
set_option hygiene false in
local macro_rules | `(tactic| walk_at "dlook") => `(tactic| first | with_reducible assumption | (first | with_reducible exact haK_g_cell | with_reducible exact haK_g_rest | with_reducible exact haK_g_place | with_reducible exact haK_g_many | with_reducible exact haK_g_own | with_reducible exact ow0_g_rows | with_reducible exact ow0_g_depth | with_reducible exact ow0_g_waiting | with_reducible exact ow0_g_runs | with_reducible exact ow0_g_left | with_reducible exact ow0_g_steps | with_reducible exact owK_g_rows | with_reducible exact owK_g_depth | with_reducible exact owK_g_waiting | with_reducible exact owK_g_runs | with_reducible exact owK_g_left | with_reducible exact owK_g_steps | with_reducible exact owK_g_last))
set_option hygiene false in
local macro_rules | `(tactic| walk_at "dput") => `(tactic| first | with_reducible exact haK_p_cell | with_reducible exact haK_p_rest | with_reducible exact haK_p_place | with_reducible exact haK_p_many | with_reducible exact haK_p_own | with_reducible exact ow0_p_rows | with_reducible exact ow0_p_depth | with_reducible exact ow0_p_waiting | with_reducible exact ow0_p_runs | with_reducible exact ow0_p_left | with_reducible exact ow0_p_steps | with_reducible exact owK_p_rows | with_reducible exact owK_p_depth | with_reducible exact owK_p_waiting | with_reducible exact owK_p_runs | with_reducible exact owK_p_left | with_reducible exact owK_p_steps | with_reducible exact owK_p_last)
set_option hygiene false in
local macro_rules | `(tactic| walk_at "dlen") => `(tactic| first | (first | with_reducible exact haK_len | with_reducible exact ow0_len | with_reducible exact owK_len) | walk_at "lenlt")
set_option hygiene false in
local macro_rules | `(tactic| walk_at "flat") => `(tactic| first | with_reducible exact Sl.flat_ints _ | rfl | with_reducible assumption)
set_option hygiene false in
local macro_rules | `(tactic| walk_at "disp") => `(tactic| first | fail | (refine Sl.r_dispE hs (by walk_at "put") (kvs := [(.inr "cell", _), (.inr "rest", _), (.inr "place", _), (.inr "many", _), (.inr "own", _)]) rfl (Nat.le_of_ble_eq_true rfl) haK_disp ?_; (try clear hs); intro H hs) | (refine Sl.r_dispE hs (by walk_at "put") (kvs := [(.inr "rows", _), (.inr "depth", _), (.inr "waiting", _), (.inr "runs", _), (.inr "left", _), (.inr "steps", _)]) rfl (Nat.le_of_ble_eq_true rfl) ow0_disp ?_; (try clear hs); intro H hs) | (refine Sl.r_dispE hs (by walk_at "put") (kvs := [(.inr "rows", _), (.inr "depth", _), (.inr "waiting", _), (.inr "runs", _), (.inr "left", _), (.inr "steps", _), (.inr "last", _)]) rfl (Nat.le_of_ble_eq_true rfl) owK_disp ?_; (try clear hs); intro H hs))
set_option hygiene false in
local macro_rules | `(tactic| walk_at "num") => `(tactic| first | decide | omega | assumption)
set_option hygiene false in
local macro_rules | `(tactic| walk_at "rng") => `(tactic| first | omega | (simp only [List.length_map]; omega) | (simp only [List.length_map]; (repeat' split) <;> omega))
set_option hygiene false in
local macro_rules | `(tactic| walk_at "kb") => `(tactic| first | with_reducible exact Sl.kb_int_int | with_reducible exact Sl.kb_int_bool | with_reducible exact Sl.kb_int_str | with_reducible exact Sl.kb_int_list | with_reducible exact Sl.kb_int_tuple | with_reducible exact Sl.kb_int_dict | with_reducible exact Sl.kb_bool_int | with_reducible exact Sl.kb_bool_bool | with_reducible exact Sl.kb_bool_str | with_reducible exact Sl.kb_bool_list | with_reducible exact Sl.kb_bool_tuple | with_reducible exact Sl.kb_bool_dict | with_reducible exact Sl.kb_str_int | with_reducible exact Sl.kb_str_bool | with_reducible exact Sl.kb_str_str | with_reducible exact Sl.kb_str_list | with_reducible exact Sl.kb_str_tuple | with_reducible exact Sl.kb_str_dict | with_reducible exact Sl.kb_list_int | with_reducible exact Sl.kb_list_bool | with_reducible exact Sl.kb_list_str | with_reducible exact Sl.kb_list_list | with_reducible exact Sl.kb_list_tuple | with_reducible exact Sl.kb_list_dict | with_reducible exact Sl.kb_tuple_int | with_reducible exact Sl.kb_tuple_bool | with_reducible exact Sl.kb_tuple_str | with_reducible exact Sl.kb_tuple_list | with_reducible exact Sl.kb_tuple_tuple | with_reducible exact Sl.kb_tuple_dict | with_reducible exact Sl.kb_dict_int | with_reducible exact Sl.kb_dict_bool | with_reducible exact Sl.kb_dict_str | with_reducible exact Sl.kb_dict_list | with_reducible exact Sl.kb_dict_tuple | with_reducible exact Sl.kb_dict_dict | with_reducible exact Sl.kb_NoneType_int | with_reducible exact Sl.kb_NoneType_bool | with_reducible exact Sl.kb_NoneType_str | with_reducible exact Sl.kb_NoneType_list | with_reducible exact Sl.kb_NoneType_tuple | with_reducible exact Sl.kb_NoneType_dict)
set_option hygiene false in
local macro_rules | `(tactic| walk_at "ty") => `(tactic| first | exact .base (.int _) | exact .base .non | exact .base (.bl _) | exact .base (.str _) | exact .base (.lst (by walk_at "get")) | exact .base (.tup (by walk_at "get")) | exact .base (.dK (by walk_at "get")))
set_option hygiene false in
local macro_rules | `(tactic| walk_at "st") => `(tactic| first
  | with_reducible refine Sl.r_seq ?_
  | with_reducible refine Sl.r_asg ?_
  | with_reducible refine Sl.r_gName ?_
  | with_reducible refine Sl.r_cons ?_
  | with_reducible refine Sl.r_nil ?_
  | ((with_reducible show tVar _ _ _ _); refine Sl.r_var rfl ?_)
  | with_reducible refine Sl.r_c ?_
  | with_reducible refine Sl.r_op ?_
  | with_reducible refine Sl.r_ret ?_
  | with_reducible refine Sl.r_drop ?_
  | with_reducible refine Sl.r_ifS ?_
  | with_reducible refine Sl.r_test ?_
  | with_reducible refine Sl.r_tB ?_
  | with_reducible refine Sl.r_isb ?_
  | with_reducible refine Sl.r_call ?_
  | with_reducible refine Sl.r_fld ?_
  | with_reducible refine Sl.r_sFld ?_
  | with_reducible refine Sl.r_meth ?_
  | with_reducible refine Sl.r_make ?_
  | with_reducible refine Sl.r_cB ?_
  | with_reducible refine Sl.r_tup ?_
  | with_reducible refine Sl.r_lst ?_
  | with_reducible refine Sl.r_bm ?_
  | with_reducible refine Sl.r_bm0 ?_
  | with_reducible refine Sl.r_sl ?_
  | with_reducible refine Sl.r_noPart ?_
  | with_reducible refine Sl.r_part ?_
  | with_reducible refine Sl.r_partK ?_
  | with_reducible refine Sl.r_gSub ?_
  | with_reducible refine Sl.r_tAnd ?_
  | with_reducible refine Sl.r_tOr ?_
  | with_reducible refine Sl.r_tNot ?_
  | with_reducible refine Sl.r_tIf ?_
  | with_reducible refine Sl.r_un ?_
  | with_reducible refine Sl.r_rU ?_
  | with_reducible refine Sl.r_andV ?_
  | with_reducible refine Sl.r_andK ?_
  | with_reducible refine Sl.r_orV ?_
  | with_reducible refine Sl.r_orK ?_
  | with_reducible refine Sl.r_notV ?_
  | with_reducible refine Sl.r_notK ?_
  | with_reducible refine Sl.r_iteNT ?_
  | with_reducible refine Sl.r_iteNF ?_
  | ((with_reducible show Sl.rIsiU _ [_, .ty _] _ _); refine Sl.r_isi (.ty _) (by walk_at "ty") (by walk_at "kb") ?_)
  | with_reducible refine Sl.r_iteY ?_
  | with_reducible refine Sl.r_iteZ ?_
  | with_reducible refine Sl.r_next ?_
  | with_reducible refine Sl.r_retN ?_
  | with_reducible refine Sl.r_break ?_
  | with_reducible refine Sl.r_cont ?_
  | with_reducible refine Sl.r_I0 ?_
  | with_reducible refine Sl.r_addI ?_
  | ((with_reducible show Sl.rMulU _ (.int _) (.int _) _ _); refine Sl.r_mulI (by walk_at "mul") ?_)
  | ((with_reducible show Sl.rDivU (.int _) (.int _) _ _); first | refine Sl.r_divI (by first | decide | omega) ?_ | refine Sl.r_divW (by first | decide | omega) ?_)
  | ((with_reducible show rI (fun _ j => 0 < j) _ (.int _) (.int _) _ _); refine Sl.r_modI (by walk_at "num") ?_)
  | ((with_reducible show rI CPow _ (.int _) (.int _) _ _); refine Sl.r_I (by walk_at "pow") ?_)
  | with_reducible refine Sl.r_eqI ?_
  | with_reducible refine Sl.r_neI ?_
  | with_reducible refine Sl.r_eqS ?_
  | with_reducible refine Sl.r_neS ?_
  | with_reducible refine Sl.r_eqB ?_
  | with_reducible refine Sl.r_neB ?_
  | with_reducible refine Sl.r_isN ?_
  | with_reducible refine Sl.r_notN ?_
  | ((with_reducible show Sl.AllocT _ _ _); refine Sl.r_newT hs (by walk_at "len") ?_; (try clear hs); intro q_ H hs)
  | ((with_reducible show Sl.AllocL _ _ _); refine Sl.r_newL hs (by walk_at "len") ?_; (try clear hs); intro q_ H hs)
  | ((with_reducible show Sl.FldK _ _ _ _ _); refine Sl.r_fldK (by walk_at "get") (by walk_at "cls") (by walk_at "noattr") (by walk_at "look") ?_)
  | ((with_reducible show Sl.SFldK _ _ _ _ _ _); refine Sl.r_sFldK hs (by walk_at "put") (by walk_at "putf") (by walk_at "cls") (by walk_at "noattr") (by walk_at "flen") ?_; (try clear hs); intro H hs)
  | ((with_reducible show Sl.MethK _ _ _ _ _); first | refine Sl.r_methK (by walk_at "get") (by walk_at "look") ?_ | walk_at "meth" | (walk_at "ins"; refine Sl.r_methK (by walk_at "get") (by walk_at "look") ?_))
  | ((with_reducible show Sl.MakeK _ _ _ _ _ _ _); refine Sl.r_makeK hs ?_; (try clear hs); intro q_ dx_ H hs)
  | ((with_reducible show tyV _ "list" _ _ ∧ _); refine Sl.r_tyL (by walk_at "sq") ?_)
  | ((with_reducible show tyV _ "dict" _ _ ∧ _); refine Sl.r_tyD (by walk_at "get") ?_)
  | ((with_reducible show rAppend _ _ _ _); refine Sl.r_append hs (by walk_at "put") (by walk_at "lenlt") ?_; (try clear hs); intro H hs)
  | ((with_reducible show rExtend _ _ _ _); refine Sl.r_extend hs (by walk_at "put") (by walk_at "get") (by walk_at "len") ?_; (try clear hs); intro H hs)
  | ((with_reducible show rClear _ _ _ _); refine Sl.r_clear hs (by walk_at "put") ?_; (try clear hs); intro H hs)
  | ((with_reducible show rSlL _ _ _ _ _ _); refine Sl.r_slL hs (by walk_at "sq") ?_; (try clear hs); intro q_ H hs)
  | ((with_reducible show Sl.rAddU _ (.ref _) (.ref _) _ _); refine Sl.r_addL hs (by walk_at "get") (by walk_at "get") (by walk_at "len") ?_; (try clear hs); intro q_ H hs)
  | ((with_reducible show Sl.rMulU _ (.ref _) (.int _) _ _); first | (refine Sl.r_mulL hs (by walk_at "get") (by omega) (by walk_at "len") ?_; (try clear hs); intro q_ H hs) | (refine Sl.r_mulT hs (by walk_at "sqt") (by exact List.cons_ne_nil _ _) (by omega) (by exact Nat.le_of_ble_eq_true rfl) ?_; (try clear hs); intro q_ H hs))
  | ((with_reducible show tDNewK _ _ _); refine Sl.r_dnew hs ?_; (try clear hs); intro q_ H hs)
  | ((with_reducible show tDisp _ _ _ _); refine Sl.r_disp hs ?_; (try clear hs); intro q_ H hs)
  | ((with_reducible show Sl.rIxU _ (.ref _) (.str _) _ _); refine Sl.r_ixDs (by walk_at "get") (by walk_at "dlook") ?_)
  | ((with_reducible show Sl.rIxU _ (.ref _) (.int _) _ _); first | refine Sl.r_ixL (by walk_at "sq") (by rfl) ?_ | refine Sl.r_ixT (by walk_at "sqt") (by rfl) ?_ | refine Sl.r_ixDi (by walk_at "get") (by with_reducible assumption) ?_)
  | ((with_reducible show Sl.rSetU (.ref _) (.str _) _ _ _); refine Sl.r_setDs hs (by walk_at "put") (by walk_at "dput") (by walk_at "dlen") ?_; (try clear hs); intro H hs)
  | ((with_reducible show Sl.rInU _ false _ (.ref _) _ _); first | refine Sl.r_inL (by walk_at "sq") rfl (by walk_at "flat") ?_ | refine Sl.r_inT (by walk_at "sqt") rfl (by walk_at "flat") ?_ | refine Sl.r_inDi (by walk_at "get") ?_ | refine Sl.r_inDs (by walk_at "get") ?_)
  | ((with_reducible show Sl.rInU _ true _ (.ref _) _ _); first | refine Sl.r_niL (by walk_at "sq") rfl (by walk_at "flat") ?_ | refine Sl.r_niT (by walk_at "sqt") rfl (by walk_at "flat") ?_ | refine Sl.r_niDi (by walk_at "get") ?_ | refine Sl.r_niDs (by walk_at "get") ?_)
  | ((with_reducible show Sl.GetE1 _ _ (.int _) _); refine Sl.r_get1i (by walk_at "get") ?_)
  | ((with_reducible show Sl.GetE2 _ (.int _) _ _ _); refine Sl.r_get2i (by walk_at "get") ?_)
  | ((with_reducible show Sl.DispE _ _ _ _); walk_at "disp")
  | with_reducible refine Sl.r_for ?_
  | with_reducible refine Sl.r_lc ?_
  | with_reducible refine Sl.r_rng1 ?_
  | with_reducible refine Sl.r_rng2 ?_
  | with_reducible refine Sl.r_iList ?_
  | with_reducible refine Sl.r_iTup ?_
  | with_reducible refine Sl.r_iEnum ?_
  | with_reducible refine Sl.r_iZip ?_
  | ((with_reducible show Sl.Rng1K _ _ _); refine Sl.r_rng1K (by walk_at "rng") ?_)
  | ((with_reducible show Sl.Rng2K _ _ _); refine Sl.r_rng2K (by walk_at "rng") ?_)
  | ((with_reducible show Sl.ListK _ _ _ _); refine Sl.r_listK (by walk_at "sq") ?_)
  | ((with_reducible show Sl.TupK _ _ _ _); refine Sl.r_tupK (by walk_at "sqt") ?_)
  | ((with_reducible show Sl.EnumK _ _ _ _); refine Sl.r_enumK (by walk_at "sq") ?_)
  | ((with_reducible show Sl.ZipK _ _ _ _); refine Sl.r_zipK (by walk_at "sq") (by walk_at "sq") ?_)
  | ((with_reducible show gTup _ _ _ (.ref _) _ (upd _ _ _) _); refine Sl.r_gTupNew hs (by with_reducible assumption) rfl ?_; (try clear hs); intro H hs)
  | ((with_reducible show gTup _ _ _ (.ref _) _ _ _); refine Sl.r_gTup (by walk_at "sqt") rfl ?_)
  | with_reducible refine Sl.r_gCons ?_
  | with_reducible refine Sl.r_gNil ?_
  | with_reducible refine Sl.r_yes ?_
  | ((with_reducible show wipe _ _ = wipe _ _ ∧ _); refine ⟨rfl, ?_⟩)
  | ((with_reducible show Sl.AppK _ _ _ _); refine Sl.r_appK hs (by walk_at "put") (by walk_at "lenlt") ?_; (try clear hs); intro H hs)
  | ((with_reducible show Sl.rEqU _ _ _ _ _); refine Sl.r_eqV (by rfl) ?_)
  | ((with_reducible show Sl.rNeU _ _ _ _ _); refine Sl.r_neV (by rfl) ?_)
  | with_reducible refine Sl.r_pairsN ?_
  | with_reducible refine Sl.r_pairsC ?_
  | with_reducible refine Sl.r_dget1 ?_
  | with_reducible refine Sl.r_dget2 ?_
  | ((with_reducible show Sl.IsDK _ _ _); refine Sl.r_isD (by walk_at "get") ?_)
  | ((with_reducible show Sl.rLenU _ _ _ _); first | refine Sl.r_lenL (by walk_at "sq") ?_ | refine Sl.r_lenT (by walk_at "sqt") ?_ | refine Sl.r_lenD (by walk_at "get") ?_)
  | ((with_reducible show Sl.rRepr _ [.int _] _ _); refine Sl.r_reprI (by walk_at "small") ?_)
  | with_reducible refine Sl.r_reprN ?_
  | with_reducible refine Sl.r_lenSet ?_
  | with_reducible refine Sl.r_par2 ?_
  | with_reducible refine Sl.r_parK ?_
  | with_reducible refine Sl.r_chain ?_
  | with_reducible refine Sl.r_chK ?_
  | with_reducible refine Sl.r_augS ?_
  | with_reducible refine Sl.r_ipI ?_
  | with_reducible refine Sl.r_fldaug ?_
  | ((with_reducible show Sl.AugK _ _ _ _ _ _ _ _); refine Sl.r_augK (by walk_at "get") (by walk_at "cls") (by walk_at "noattr") (by walk_at "look") ?_)
  | ((with_reducible show Sl.AugF _ _ _ _ _ _); refine Sl.r_augF hs (by walk_at "put") (by walk_at "putf") (by walk_at "flen") ?_; (try clear hs); intro H hs)
  | with_reducible refine Sl.r_aAdd ?_
  | with_reducible refine Sl.r_aSub ?_
  | with_reducible refine Sl.r_keys ?_
  | ((with_reducible show Sl.KeysK _ _ _); refine Sl.r_keysK (by walk_at "get") ?_)
  | with_reducible refine Sl.r_dpop1 ?_
  | ((with_reducible show Sl.UnlK _ _ _ _ _ _); refine Sl.r_unl hs (by walk_at "put") ?_; (try clear hs); intro H hs)
  | with_reducible refine Sl.r_abs ?_
  | with_reducible refine Sl.r_max2 ?_
  | with_reducible refine Sl.r_min2 ?_
  | with_reducible refine Sl.r_int1b ?_
  | with_reducible refine Sl.r_int1 ?_
  | ((with_reducible show Sl.rListOf _ _ _ _); first | refine Sl.r_listL hs (by walk_at "sq") fun q_ H hs => ?_ | refine Sl.r_listT hs (by walk_at "sqt") fun q_ H hs => ?_)
  | ((with_reducible show Sl.rTupleOf _ _ _ _); first | refine Sl.r_tupleL hs (by walk_at "sq") fun q_ H hs => ?_ | refine Sl.r_tupleT (by walk_at "sqt") ?_))
set_option hygiene false in
local macro_rules | `(tactic| walk_at "mul") => `(tactic| first | (left; constructor <;> omega) | (right; constructor <;> omega))
set_option hygiene false in
local macro_rules | `(tactic| walk_at "pow") => `(tactic| exact ⟨by decide, by decide, by decide⟩)
set_option hygiene false in
local macro_rules | `(tactic| walk_at "run") => `(tactic| repeat walk_at "st")
set_option hygiene false in
local macro_rules | `(tactic| walk_at "call") => `(tactic| first | refine ⟨_, rfl, ?_, Hd.mt (by walk_at "mt") hs, ?_⟩ | refine ⟨_, _, rfl, ?_, Hd.mt (by walk_at "mt") hs, ?_⟩ | refine ⟨_, _, _, rfl, ?_, Hd.mt (by walk_at "mt") hs, ?_⟩ | refine ⟨_, _, _, _, rfl, ?_, Hd.mt (by walk_at "mt") hs, ?_⟩ | refine ⟨_, _, _, _, _, rfl, ?_, Hd.mt (by walk_at "mt") hs, ?_⟩ | refine ⟨_, _, _, _, _, _, rfl, ?_, Hd.mt (by walk_at "mt") hs, ?_⟩ | refine ⟨_, _, _, _, _, _, _, rfl, ?_, Hd.mt (by walk_at "mt") hs, ?_⟩ | refine ⟨_, _, _, _, _, _, _, _, rfl, ?_, Hd.mt (by walk_at "mt") hs, ?_⟩ | refine ⟨_, _, _, _, _, _, _, _, _, rfl, ?_, Hd.mt (by walk_at "mt") hs, ?_⟩ | refine ⟨_, _, _, _, _, _, _, _, _, _, rfl, ?_, Hd.mt (by walk_at "mt") hs, ?_⟩ | refine ⟨_, _, _, _, _, _, _, _, _, _, _, rfl, ?_, Hd.mt (by walk_at "mt") hs, ?_⟩)
set_option hygiene false in
local macro_rules | `(tactic| walk_at "callN") => `(tactic| first | refine ⟨_, rfl, Hd.mt (by walk_at "mt") hs, ?_⟩ | refine ⟨_, _, rfl, Hd.mt (by walk_at "mt") hs, ?_⟩ | refine ⟨_, _, _, rfl, Hd.mt (by walk_at "mt") hs, ?_⟩ | refine ⟨_, _, _, _, rfl, Hd.mt (by walk_at "mt") hs, ?_⟩ | refine ⟨_, _, _, _, _, rfl, Hd.mt (by walk_at "mt") hs, ?_⟩ | refine ⟨_, _, _, _, _, _, rfl, Hd.mt (by walk_at "mt") hs, ?_⟩ | refine ⟨_, _, _, _, _, _, _, rfl, Hd.mt (by walk_at "mt") hs, ?_⟩ | refine ⟨_, _, _, _, _, _, _, _, rfl, Hd.mt (by walk_at "mt") hs, ?_⟩ | refine ⟨_, _, _, _, _, _, _, _, _, rfl, Hd.mt (by walk_at "mt") hs, ?_⟩)
set_option hygiene false in
local macro_rules | `(tactic| walk_at "side") => `(tactic| first | assumption | omega | (and_intros <;> first | assumption | omega | decide | rfl))
set_option hygiene false in
local macro_rules | `(tactic| walk_at "go") => `(tactic| (walk_at "call"; (focus walk_at "side"); (try clear hs); intro H hs; walk_at "run"))
set_option hygiene false in
local macro_rules | `(tactic| walk_at "goN") => `(tactic| (walk_at "callN"; (try clear hs); intro H hs; walk_at "run"))
set_option hygiene false in
local macro_rules | `(tactic| walk_at "small") => `(tactic| first | with_reducible assumption | omega)

section
variable {P : Program} {w : World} {K : PySem.W.Frag} {mg : Str → Option Value} {base : Heap}

def turnsA (C p : Addr) (u : TU) : SA := fun H => ∃ (dx Q : Addr) (ls : List Addr) (D : Addr), Hd [pto p (.ins C dx (fs_Turns (.ref Q) (.ref D) (runV u.runs) (.int u.rest) (.int u.steps))), pto Q (.lst (ls.map V.ref)), rowsA ls (rowsV u.q), pto D (.dK (dI u.dep))] H
theorem tu_open {C p : Addr} {u : TU} {L : List SA} {H : Hp} (h : Hd (turnsA C p u :: L) H) : ∃ (dx Q : Addr) (ls : List Addr) (D : Addr), Hd (pto p (.ins C dx (fs_Turns (.ref Q) (.ref D) (runV u.runs) (.int u.rest) (.int u.steps))) :: pto Q (.lst (ls.map V.ref)) :: rowsA ls (rowsV u.q) :: pto D (.dK (dI u.dep)) :: L) H := by
  obtain ⟨H1, H2, c, s1, s2, ⟨dx, Q, ls, D, p⟩, q⟩ := h
  exact ⟨dx, Q, ls, D, Hd.open (M := [_, _, _, _]) ⟨H1, H2, c, s1, s2, p, q⟩⟩
theorem tu_close {C p dx Q D : Addr} {ls : List Addr} {u : TU} {L : List SA} {H : Hp} (h : Hd (pto p (.ins C dx (fs_Turns (.ref Q) (.ref D) (runV u.runs) (.int u.rest) (.int u.steps))) :: pto Q (.lst (ls.map V.ref)) :: rowsA ls (rowsV u.q) :: pto D (.dK (dI u.dep)) :: L) H) : Hd (turnsA C p u :: L) H :=
  (Hd.close (M := [_, _, _, _]) h).imp fun _ z => ⟨dx, Q, ls, D, z⟩
theorem tu_ins {C p : Addr} {u : TU} {L L' : List SA} {H : Hp} (h : Hd L H) (pl : Pull (turnsA C p u) L L') : ∃ dx x y z v w, H p = some (.ins C dx (fs_Turns x y z v w)) := by
  obtain ⟨dx, Q, ls, D, z⟩ := tu_open (h.pull pl)
  exact ⟨dx, _, _, _, _, _, z.get .here⟩
theorem r_methTu {C p : Addr} {u : TU} {L L' : List SA} {H : Hp} {m : Str} {R : V → Hp → Prop} (h : Hd L H) (pl : Pull (turnsA C p u) L L') (l : ∀ x y z v w, (fs_Turns x y z v w).lookup m = none) (q : R (.ref p) H) : MethK C m R (.ref p) H := by
  obtain ⟨dx, x, y, z, v, w, e⟩ := tu_ins h pl
  exact r_methK e (l _ _ _ _ _) q
/-- the same, the dict's address told -/
def turnsD (C p D : Addr) (u : TU) : SA := fun H => ∃ (dx Q : Addr) (ls : List Addr), Hd [pto p (.ins C dx (fs_Turns (.ref Q) (.ref D) (runV u.runs) (.int u.rest) (.int u.steps))), pto Q (.lst (ls.map V.ref)), rowsA ls (rowsV u.q), pto D (.dK (dI u.dep))] H
theorem td_of {C p : Addr} {u : TU} {L : List SA} {H : Hp} (h : Hd (turnsA C p u :: L) H) : ∃ D, Hd (turnsD C p D u :: L) H := by
  obtain ⟨dx, Q, ls, D, h⟩ := tu_open h
  exact ⟨D, (Hd.close (M := [_, _, _, _]) h).imp fun _ z => ⟨dx, Q, ls, z⟩⟩
theorem td_open {C p D : Addr} {u : TU} {L : List SA} {H : Hp} (h : Hd (turnsD C p D u :: L) H) : ∃ (dx Q : Addr) (ls : List Addr), Hd (pto p (.ins C dx (fs_Turns (.ref Q) (.ref D) (runV u.runs) (.int u.rest) (.int u.steps))) :: pto Q (.lst (ls.map V.ref)) :: rowsA ls (rowsV u.q) :: pto D (.dK (dI u.dep)) :: L) H := by
  obtain ⟨H1, H2, c, s1, s2, ⟨dx, Q, ls, p⟩, q⟩ := h
  exact ⟨dx, Q, ls, Hd.open (M := [_, _, _, _]) ⟨H1, H2, c, s1, s2, p, q⟩⟩
theorem td_close {C p dx Q D : Addr} {ls : List Addr} {u : TU} {L : List SA} {H : Hp} (h : Hd (pto p (.ins C dx (fs_Turns (.ref Q) (.ref D) (runV u.runs) (.int u.rest) (.int u.steps))) :: pto Q (.lst (ls.map V.ref)) :: rowsA ls (rowsV u.q) :: pto D (.dK (dI u.dep)) :: L) H) : Hd (turnsD C p D u :: L) H :=
  (Hd.close (M := [_, _, _, _]) h).imp fun _ z => ⟨dx, Q, ls, z⟩
theorem td_up {C p D : Addr} {u : TU} {L : List SA} {H : Hp} (h : Hd (turnsD C p D u :: L) H) : Hd (turnsA C p u :: L) H := by
  obtain ⟨dx, Q, ls, h⟩ := td_open h
  exact tu_close h
theorem td_ins {C p D : Addr} {u : TU} {L L' : List SA} {H : Hp} (h : Hd L H) (pl : Pull (turnsD C p D u) L L') : ∃ dx x y z v w, H p = some (.ins C dx (fs_Turns x y z v w)) := by
  obtain ⟨dx, Q, ls, z⟩ := td_open (h.pull pl)
  exact ⟨dx, _, _, _, _, _, z.get .here⟩

end
set_option hygiene false in
local macro_rules | `(tactic| walk_at "meth") => `(tactic| refine r_methTu hs (by walk_at "pull") (fun _ _ _ _ _ => by walk_at "look") ?_)
set_option hygiene false in
local macro_rules | `(tactic| walk_at "ins") => `(tactic| first | (have hi := tu_ins hs (by walk_at "pull"); obtain ⟨_, _, _, _, _, _, hi⟩ := hi) | (have hi := td_ins hs (by walk_at "pull"); obtain ⟨_, _, _, _, _, _, hi⟩ := hi))

section
variable {P : Program} {w : World} {K : PySem.W.Frag} {mg : Str → Option Value} {base : Heap}
def sp_Turns_init (T : Txt K mg) : Sp := fun vs H Q _ => ∃ p dx L, vs = [.ref p] ∧ Hd (pto p (.ins T.C_Turns dx []) :: L) H ∧ ∀ H', Hd (turnsA T.C_Turns p TU.new :: L) H' → Q .non H'
theorem ok_Turns_init (T : Txt K mg) : FnOk P w K mg base CX0 1 T.a_Turns_init T.d_Turns_init ["self"] (sp_Turns_init T) := by
  refine T.f_Turns_init.ok sc_Turns_init (fun vs H Q E h => ?_) (fun cdv A outer s H vs Q E hr h => ?_)
  · obtain ⟨p, dx, L, rfl, _⟩ := h
    rfl
  · obtain ⟨p, dx, L, rfl, h⟩ := h
    refine ⟨_, (pss_cons (ps_fld (pv 0) (pe_lc (own := [("level", 1)]) rfl sc_Turns_init.nd (pi_range1 (by rfl) T.n_range (pa_cons (pe_glob (v := .int 4) (by rfl) T.g_LEVELS.choose_spec ⟨_, rfl⟩) pa_nil)) (blkOk_by (N := ["self", "level"]) (sc := defScope s_Turns_init) (by decide +kernel)) (fun _ _ _ _ _ => (pg_name (i := 1) sc_Turns_init.nd rfl (by first | exact Or.inl rfl | exact Or.inr rfl))) (fun _ _ _ _ _ => pts_nil) (fun _ _ _ _ _ => (pe_lst pa_nil))) rfl)
       (pss_cons (ps_fld (pv 0) pe_dnewK rfl)
       (pss_cons (ps_fld (pv 0) pe_non rfl)
       (pss_cons (ps_fld (pv 0) pe_int rfl)
       (pss_one (ps_fld (pv 0) pe_int rfl)))))), ?_⟩
    try dsimp only [cxOf]
    obtain ⟨hs, q⟩ := h
    walk_at "run"
    refine Sl.r_lcR (fun D i H => ∃ ls : List Addr, Hd (pto D (.lst (ls.map V.ref)) :: rowsA ls (List.replicate i []) :: pto p (.ins T.C_Turns dx []) :: L) H) hs ?_ ?_ ?_
    · intro D H hs
      exact ⟨[], (rows_nil hs).swap⟩
    · rintro D i H hi ⟨ls, hs⟩
      have hi : i < 4 := hi
      have hll := rows_len hs (by walk_at "pull")
      rw [List.length_replicate] at hll
      walk_at "run"
      refine ⟨ls ++ [q_], ?_⟩
      simp only [List.map_append, List.map_cons, List.map_nil]
      have hs2 := rows_snoc (Hd.mt (by walk_at "mt") hs : Hd (pto q_ (.lst []) :: rowsA ls (List.replicate i []) :: _) _)
      rw [← List.replicate_succ'] at hs2
      exact Hd.mt (by walk_at "mt") hs2
    · rintro D H ⟨ls, hs⟩
      have hs : Hd (pto D (.lst (ls.map V.ref)) :: rowsA ls (rowsV TU.new.q) :: pto p (.ins T.C_Turns dx []) :: L) H := hs
      walk_at "run"
      exact q _ (tu_close (u := TU.new) (dx := dx) (Q := D) (ls := ls) (D := q_) (Hd.mt (by walk_at "mt") hs : Hd (pto p (.ins T.C_Turns dx (fs_Turns (.ref D) (.ref q_) .non (.int 0) (.int 0))) :: pto D (.lst (ls.map V.ref)) :: rowsA ls (rowsV TU.new.q) :: pto q_ (.dK []) :: L) _))
def sp_Turns_stand (T : Txt K mg) : Sp := fun vs H Q _ => ∃ (p : Addr) (n : Int) (l : Nat) (u : TU) (L : List SA), vs = [.ref p, .int n, .int (l : Int)] ∧ (u.q.length = 4 ∧ l < 4 ∧ u.q.flatten.length ≤ 1000 ∧ u.dep.length ≤ 1000) ∧ Hd (turnsA T.C_Turns p u :: L) H ∧ ∀ H', Hd (turnsA T.C_Turns p (u.stand n l) :: L) H' → Q .non H'
theorem ok_Turns_stand (T : Txt K mg) : FnOk P w K mg base CX0 1 T.a_Turns_stand T.d_Turns_stand ["self", "number", "level"] (sp_Turns_stand T) := by
  refine T.f_Turns_stand.ok sc_Turns_stand (fun vs H Q E h => ?_) (fun cdv A outer s H vs Q E hr h => ?_)
  · obtain ⟨p, n, l, u, L, rfl, _⟩ := h
    rfl
  · obtain ⟨p, n, l, u, L, rfl, h⟩ := h
    refine ⟨_, (pss_cons (ps_asg (pv 2) (pg_sub (k_fld (K := K) rfl (pv 0) rfl) (pv 1) (u_set (hu_of hr))))
       (pss_one (ps_expr (k_bm (K := K) rfl (pe_bm PySem.F.plainAttrs_list PySem.F.slot_list_append PySem.F.type_list_append mt_append (pe_ix (k_ix (K := K) rfl (hu_of hr)) (k_fld (K := K) rfl (pv 0) rfl) (pv 2) (fun _ _ => rfl)) (pa_cons (pv 1) pa_nil)))))), ?_⟩
    try dsimp only [cxOf]
    obtain ⟨⟨h4, hl, hf, hd⟩, hs, q⟩ := h
    obtain ⟨dx, Q, ls, D, hs⟩ := tu_open hs
    obtain ⟨r, hr⟩ : ∃ r, u.q[l]? = some r := ⟨u.q[l]'(by omega), by simp [h4, hl]⟩
    have hrl := len_row hr
    walk_at "run"
    refine Sl.r_setDi hs (by walk_at "put") (putK_dI _ _ _) (szlt (by rw [len_dI]; omega)) fun H hs => ?_
    walk_at "run"
    obtain ⟨a, ha, hA⟩ := rows_in hs (by walk_at "pull") hr
    have hS : SqL K H a _ := SqL.of hA
    refine Sl.r_ixL (by walk_at "sq") (atI_ref ha) ?_
    walk_at "run"
    refine Sl.r_appendX hA (szlt (by rw [List.length_map]; omega)) ?_
    have hs2 := rows_put (hs.pull (by walk_at "pull")) ha (r ++ [n])
    rw [List.map_append] at hs2
    walk_at "run"
    refine q _ (tu_close (u := u.stand n l) (ls := ls) (dx := dx) (Q := Q) (D := D) ?_)
    unfold TU.stand
    rw [row_at hr]
    exact Hd.mt (by walk_at "mt") hs2
def sp_Turns_step_out (T : Txt K mg) : Sp := fun vs H Q _ => ∃ (p D : Addr) (n : Int) (l : Nat) (r : List Int) (u : TU) (L : List SA), vs = [.ref p, .int n] ∧ (getI u.dep n = some (l : Int) ∧ u.q[l]? = some r ∧ n ∈ r) ∧ Hd (turnsD T.C_Turns p D u :: L) H ∧ ∀ H', Hd (turnsD T.C_Turns p D { u with q := u.q.set l (r.erase n) } :: L) H' → Q .non H'
theorem ok_Turns_step_out (T : Txt K mg) : FnOk P w K mg base CX0 1 T.a_Turns_step_out T.d_Turns_step_out ["self", "number"] (sp_Turns_step_out T) := by
  refine T.f_Turns_step_out.ok sc_Turns_step_out (fun vs H Q E h => ?_) (fun cdv A outer s H vs Q E hr h => ?_)
  · obtain ⟨p, D, n, l, r, u, L, rfl, _⟩ := h
    rfl
  · obtain ⟨p, D, n, l, r, u, L, rfl, h⟩ := h
    refine ⟨_, (pss_one (ps_expr (k_bm (K := K) rfl (pe_bm PySem.F.plainAttrs_list PySem.F.slot_list_remove PySem.F.type_list_remove mt_remove (pe_ix (k_ix (K := K) rfl (hu_of hr)) (k_fld (K := K) rfl (pv 0) rfl) (pe_ix (k_ix (K := K) rfl (hu_of hr)) (k_fld (K := K) rfl (pv 0) rfl) (pv 1) (fun _ _ => rfl)) (fun _ _ => rfl)) (pa_cons (pv 1) pa_nil))))), ?_⟩
    try dsimp only [cxOf]
    obtain ⟨⟨hg, hr, hm⟩, hs, q⟩ := h
    obtain ⟨dx, Q, ls, hs⟩ := td_open hs
    walk_at "run"
    refine Sl.r_ixDi (by walk_at "get") (by rw [valV_dI, hg]; rfl) ?_
    walk_at "run"
    obtain ⟨a, ha, hA⟩ := rows_in hs (by walk_at "pull") hr
    have hS : SqL K H a _ := SqL.of hA
    refine Sl.r_ixL (by walk_at "sq") (atI_ref ha) ?_
    walk_at "run"
    refine Sl.r_removeX hA hm ?_
    have hs2 := rows_put (hs.pull (by walk_at "pull")) ha (r.erase n)
    walk_at "run"
    exact q _ (td_close (u := { u with q := u.q.set l (r.erase n) }) (ls := ls) (dx := dx) (Q := Q) (D := D) (Hd.mt (by walk_at "mt") hs2))
def sp_Turns_add (T : Txt K mg) : Sp := fun vs H Q _ => ∃ (p : Addr) (n : Int) (u : TU) (L : List SA), vs = [.ref p, .int n] ∧ (u.q.length = 4 ∧ u.q.flatten.length ≤ 1000 ∧ u.dep.length ≤ 1000) ∧ Hd (turnsA T.C_Turns p u :: L) H ∧ ∀ H', Hd (turnsA T.C_Turns p (u.stand n 0) :: L) H' → Q .non H'
theorem ok_Turns_add (T : Txt K mg) : FnOk P w K mg base CX0 2 T.a_Turns_add T.d_Turns_add ["self", "number"] (sp_Turns_add T) := by
  refine T.f_Turns_add.ok sc_Turns_add (fun vs H Q E h => ?_) (fun cdv A outer s H vs Q E hr h => ?_)
  · obtain ⟨p, n, u, L, rfl, _⟩ := h
    rfl
  · obtain ⟨p, n, u, L, rfl, h⟩ := h
    refine ⟨_, (pss_one (ps_expr (pe_meth (pv 0) T.cl_Turns T.m_Turns_stand (ok_Turns_stand T) hr T.b_Turns_stand .nil pass0 (pa_cons (pv 1) (pa_cons pe_int pa_nil))))), ?_⟩
    try dsimp only [cxOf]
    obtain ⟨⟨h4, hf, hd⟩, hs, q⟩ := h
    walk_at "run"
    refine ⟨p, n, 0, u, L, rfl, ⟨h4, by omega, hf, hd⟩, hs, fun H hs => ?_⟩
    walk_at "run"
    exact q _ hs
end
section
variable {P : Program} {w : World} {K : PySem.W.Frag} {mg : Str → Option Value} {base : Heap}
def sp_Turns_first_ready (T : Txt K mg) : Sp := fun vs H Q _ => ∃ (p : Addr) (u : TU) (L : List SA), vs = [.ref p] ∧ Hd (turnsA T.C_Turns p u :: L) H ∧ ∀ H', Hd (turnsA T.C_Turns p u :: L) H' → Q (runV u.q.flatten.head?) H'
theorem ok_Turns_first_ready (T : Txt K mg) : FnOk P w K mg base CX0 1 T.a_Turns_first_ready T.d_Turns_first_ready ["self"] (sp_Turns_first_ready T) := by
  refine T.f_Turns_first_ready.ok sc_Turns_first_ready (fun vs H Q E h => ?_) (fun cdv A outer s H vs Q E hr h => ?_)
  · obtain ⟨p, u, L, rfl, _⟩ := h
    rfl
  · obtain ⟨p, u, L, rfl, h⟩ := h
    refine ⟨_, (pss_cons (ps_for PassesOwn.never rfl (pi_list (k_fld (K := K) rfl (pv 0) rfl)) (pg_name (i := 1) sc_Turns_first_ready.nd rfl (by first | exact Or.inl rfl | exact Or.inr rfl))
        (pss_one (ps_if (pt_cmpR (k_ne (K := K) rfl hr.units) (pv 1) (pe_lst pa_nil) (nomark _))
        (pss_one (ps_ret (pe_ix (k_ix (K := K) rfl (hu_of hr)) (pv 1) pe_int (fun _ _ => rfl))))
        pss_nil)))
       (pss_one (ps_ret pe_non))), ?_⟩
    try dsimp only [cxOf]
    obtain ⟨hs, q⟩ := h
    obtain ⟨dx, Q, ls, D, hs⟩ := tu_open hs
    walk_at "run"
    have hlq := rows_count hs (by walk_at "pull")
    refine Sl.r_forL (ls.map V.ref) (fun i σ H => ∃ v1 : Option V, σ = [some (.ref p), v1] ∧ (∀ j : Nat, j < i → u.q[j]? = some []) ∧ Hd (pto p (.ins T.C_Turns dx (fs_Turns (.ref Q) (.ref D) (runV u.runs) (.int u.rest) (.int u.steps))) :: pto Q (.lst (ls.map V.ref)) :: rowsA ls (rowsV u.q) :: pto D (.dK (dI u.dep)) :: L) H) ?_ ?_ ?_ ?_
    · exact ⟨none, rfl, fun j hj => (by omega), hs⟩
    · rintro i σ H hi ⟨v1, rfl, hz, hs⟩
      walk_at "sq"
    · rintro i x σ H hx ⟨v1, rfl, hz, hs⟩
      rw [List.getElem?_map] at hx
      obtain ⟨a, ha, rfl⟩ := Option.map_eq_some_iff.mp hx
      have hi : i < u.q.length := by
        rw [← hlq]
        exact (List.getElem?_eq_some_iff.mp ha).1
      obtain ⟨r, hr⟩ : ∃ r, u.q[i]? = some r := ⟨u.q[i], by simp [hi]⟩
      walk_at "run"
      obtain ⟨a2, ha2, hA⟩ := rows_in hs (by walk_at "pull") hr
      rw [ha] at ha2
      cases ha2
      have hS : SqL K H a _ := SqL.of hA
      refine Sl.r_neNil hS (hs.sq (by walk_at "pull")) ?_
      walk_at "run"
      cases r with
      | nil =>
        walk_at "run"
        refine ⟨_, rfl, fun j hj => ?_, Hd.mt (by walk_at "mt") hs⟩
        by_cases e : j = i
        · rw [e]
          exact hr
        · exact hz j (by omega)
      | cons n t =>
        have e := head_fl hz hr
        dsimp only [List.isEmpty_cons]
        walk_at "run"
        refine Sl.r_ixL hS (atI_nat (v := V.int n) (j := 0) (by rfl)) ?_
        walk_at "run"
        rw [e] at q
        exact q _ (tu_close (Hd.mt (by walk_at "mt") hs))
    · rintro σ H ⟨v1, rfl, hz, hs⟩
      have e := none_fl (q := u.q) fun j hj => hz j (by rw [List.length_map, hlq]; exact hj)
      walk_at "run"
      rw [e] at q
      exact q _ (tu_close (Hd.mt (by walk_at "mt") hs))
def sp_Turns_next (T : Txt K mg) : Sp := fun vs H Q _ => ∃ (p : Addr) (u : TU) (L : List SA), vs = [.ref p] ∧ u.Ok ∧ Hd (turnsA T.C_Turns p u :: L) H ∧ ∀ H', Hd (turnsA T.C_Turns p u.next :: L) H' → Q (runV u.next.runs) H'
theorem ok_Turns_next (T : Txt K mg) : FnOk P w K mg base CX0 2 T.a_Turns_next T.d_Turns_next ["self"] (sp_Turns_next T) := by
  refine T.f_Turns_next.ok sc_Turns_next (fun vs H Q E h => ?_) (fun cdv A outer s H vs Q E hr h => ?_)
  · obtain ⟨p, u, L, rfl, _⟩ := h
    rfl
  · obtain ⟨p, u, L, rfl, h⟩ := h
    refine ⟨_, (pss_cons (ps_if (pt_cmpR u_isN (k_fld (K := K) rfl (pv 0) rfl) pe_non (nomark _))
        (pss_cons (ps_fld (pv 0) (pe_meth0 (pv 0) T.cl_Turns T.m_Turns_first_ready (ok_Turns_first_ready T) hr T.b_Turns_first_ready .nil pass0) rfl)
       (pss_one (ps_fld (pv 0) (pe_ifExp (pt_cmpR u_isN (k_fld (K := K) rfl (pv 0) rfl) pe_non (nomark _)) pe_int (pe_ix (k_ix (K := K) rfl (hu_of hr)) (pe_glob (v := .ref T.a_SLICES) (by rfl) T.g_SLICES rfl) (pe_ix (k_ix (K := K) rfl (hu_of hr)) (k_fld (K := K) rfl (pv 0) rfl) (k_fld (K := K) rfl (pv 0) rfl) (fun _ _ => rfl)) (fun _ _ => rfl))) rfl)))
        pss_nil)
       (pss_one (ps_ret (k_fld (K := K) rfl (pv 0) rfl)))), ?_⟩
    try dsimp only [cxOf]
    obtain ⟨ok, hs, q⟩ := h
    obtain ⟨dx, Q, ls, D, hs⟩ := tu_open hs
    cases hru : u.runs with
    | some n =>
      have e : u.next = u := by unfold TU.next; rw [hru]
      rw [e, hru] at q
      rw [hru] at hs
      dsimp only [runV] at hs
      walk_at "run"
      refine Sl.r_iteD (fun z => nomatch z) (fun _ => ?_)
      walk_at "run"
      exact q _ (tu_close (by rw [hru]; exact hs))
    | none =>
      rw [hru] at hs
      dsimp only [runV] at hs
      walk_at "run"
      refine Sl.r_iteD (fun _ => ?_) (fun z => (z rfl).elim)
      walk_at "run"
      refine ⟨p, u, L, rfl, tu_close (by rw [hru]; exact hs), fun H hs => ?_⟩
      obtain ⟨dx, Q, ls, D, hs⟩ := tu_open hs
      walk_at "run"
      cases hh : u.q.flatten.head? with
      | none =>
        have e : u.next = { u with rest := 0 } := by unfold TU.next; rw [hru]; dsimp only; rw [hh]
        rw [e] at q
        rw [hh] at hs
        dsimp only [runV] at hs
        walk_at "run"
        refine Sl.r_iteD (fun _ => ?_) (fun z => (z rfl).elim)
        walk_at "run"
        have q2 := q H (tu_close (u := { u with rest := 0 }) (dx := dx) (Q := Q) (ls := ls) (D := D) (by dsimp only; rw [hru]; exact hs))
        dsimp only at q2
        rw [hru] at q2
        exact q2
      | some n =>
        have e : u.next = { u with runs := some n, rest := sliceOf (u.lev n) } := by unfold TU.next; rw [hru]; dsimp only; rw [hh]
        rw [e] at q
        rw [hh] at hs
        dsimp only [runV] at hs
        obtain ⟨l, r, hr, hm⟩ := of_fl (List.mem_of_mem_head? hh)
        have hg := ok.at_ l r n hr hm
        have hl := ok.lv n _ hg
        walk_at "run"
        refine Sl.r_iteD (fun z => nomatch z) (fun _ => ?_)
        walk_at "run"
        refine Sl.r_ixDi (by walk_at "get") (by rw [valV_dI, hg]; rfl) ?_
        walk_at "run"
        refine Sl.r_ixT (T.t_SLICES _) (sl_at (l := l) (by omega)) ?_
        walk_at "run"
        rw [lev_at hg] at q
        exact q _ (tu_close (u := { u with runs := some n, rest := sliceOf l }) hs)
def sp_Turns_slice_over (T : Txt K mg) : Sp := fun vs H Q _ => ∃ (p D : Addr) (n : Int) (l : Nat) (r : List Int) (u : TU) (L : List SA), vs = [.ref p] ∧ (u.runs = some n ∧ getI u.dep n = some (l : Int) ∧ u.q[l]? = some r ∧ n ∈ r) ∧ Hd (turnsD T.C_Turns p D u :: L) H ∧ ∀ H', Hd (turnsD T.C_Turns p D (u.over n l) :: L) H' → Q (.int n) H'
theorem ok_Turns_slice_over (T : Txt K mg) : FnOk P w K mg base CX0 2 T.a_Turns_slice_over T.d_Turns_slice_over ["self"] (sp_Turns_slice_over T) := by
  refine T.f_Turns_slice_over.ok sc_Turns_slice_over (fun vs H Q E h => ?_) (fun cdv A outer s H vs Q E hr h => ?_)
  · obtain ⟨p, D, n, l, r, u, L, rfl, _⟩ := h
    rfl
  · obtain ⟨p, D, n, l, r, u, L, rfl, h⟩ := h
    refine ⟨_, (pss_cons (ps_set (i := 1) sc_Turns_slice_over.nd rfl (by first | exact Or.inl rfl | exact Or.inr rfl) (k_fld (K := K) rfl (pv 0) rfl))
       (pss_cons (ps_expr (pe_meth (pv 0) T.cl_Turns T.m_Turns_step_out (ok_Turns_step_out T) hr T.b_Turns_step_out .nil pass0 (pa_cons (pv 1) pa_nil)))
       (pss_cons (ps_fld (pv 0) pe_non rfl)
       (pss_cons (ps_fld (pv 0) pe_int rfl)
       (pss_one (ps_ret (pv 1))))))), ?_⟩
    try dsimp only [cxOf]
    obtain ⟨⟨hru, hg, hr, hm⟩, hs, q⟩ := h
    obtain ⟨dx, Q, ls, hs⟩ := td_open hs
    rw [hru] at hs
    dsimp only [runV] at hs
    walk_at "run"
    refine ⟨p, D, n, l, r, u, L, rfl, ⟨hg, hr, hm⟩, td_close (by rw [hru]; exact hs), fun H hs => ?_⟩
    obtain ⟨dx, Q, ls, hs⟩ := td_open hs
    walk_at "run"
    refine q _ (td_close (u := u.over n l) (ls := ls) (dx := dx) (Q := Q) (D := D) ?_)
    unfold TU.over
    rw [row_at hr]
    exact hs
end
section
variable {P : Program} {w : World} {K : PySem.W.Frag} {mg : Str → Option Value} {base : Heap}
def sp_Turns_counted (T : Txt K mg) : Sp := fun vs H Q _ => ∃ (p : Addr)  (u : TU) (L : List SA), vs = [.ref p] ∧ (u.q.flatten.length ≤ 1000 ∧ u.dep.length ≤ 1000) ∧ Hd (turnsA T.C_Turns p u :: L) H ∧ ∀ H', Hd (turnsA T.C_Turns p u.counted :: L) H' → Q .non H'
theorem ok_Turns_counted (T : Txt K mg) : FnOk P w K mg base CX0 1 T.a_Turns_counted T.d_Turns_counted ["self"] (sp_Turns_counted T) := by
  refine T.f_Turns_counted.ok sc_Turns_counted (fun vs H Q E h => ?_) (fun cdv A outer s H vs Q E hr h => ?_)
  · obtain ⟨p, u, L, rfl, _⟩ := h
    rfl
  · obtain ⟨p, u, L, rfl, h⟩ := h
    refine ⟨_, (pss_cons (ps_fldaug (pv 0) pe_int in_add)
       (pss_cons (ps_if (pt_cmpR op_gt (pe_op (k_mod (K := K) rfl) (k_fld (K := K) rfl (pv 0) rfl) (pe_glob (v := .int 64) (by rfl) T.g_LIFT.choose_spec ⟨_, rfl⟩)) pe_int (nomark _))
        (pss_one ps_retN)
        pss_nil)
       (pss_cons (ps_set (i := 1) sc_Turns_counted.nd rfl (by first | exact Or.inl rfl | exact Or.inr rfl) (pe_lst pa_nil))
       (pss_cons (ps_for PassesOwn.never rfl (pi_list (k_fld (K := K) rfl (pv 0) rfl)) (pg_name (i := 2) sc_Turns_counted.nd rfl (by first | exact Or.inl rfl | exact Or.inr rfl))
        (pss_one (ps_expr (k_bm (K := K) rfl (pe_bm PySem.F.plainAttrs_list PySem.F.slot_list_extend PySem.F.type_list_extend mt_extend (pv 1) (pa_cons (pv 2) pa_nil))))))
       (pss_cons (ps_fld (pv 0) (pe_op (k_add (K := K) rfl) (pe_lst (pa_cons (pv 1) pa_nil)) (pe_lc (own := [("level", 3)]) rfl sc_Turns_counted.nd (pi_range2 (by rfl) T.n_range (pa_cons pe_int (pa_cons (pe_glob (v := .int 4) (by rfl) T.g_LEVELS.choose_spec ⟨_, rfl⟩) pa_nil))) (blkOk_by (N := ["self", "some", "row", "level", "number"]) (sc := defScope s_Turns_counted) (by decide +kernel)) (fun _ _ _ _ _ => (pg_name (i := 3) sc_Turns_counted.nd rfl (by first | exact Or.inl rfl | exact Or.inr rfl))) (fun _ _ _ _ _ => pts_nil) (fun _ _ _ _ _ => (pe_lst pa_nil)))) rfl)
       (pss_cons (ps_fld (pv 0) (pe_callTy (k_dictP (K := K) rfl rfl) (by rfl) T.n_dict (by decide +kernel) (pa_cons (pe_lock (pe_lc (own := [("number", 4)]) rfl sc_Turns_counted.nd (pi_keys (k_fld (K := K) rfl (pv 0) rfl)) (blkOk_by (N := ["self", "some", "row", "level", "number"]) (sc := defScope s_Turns_counted) (by decide +kernel)) (fun _ _ _ _ _ => (pg_name (i := 4) sc_Turns_counted.nd rfl (by first | exact Or.inl rfl | exact Or.inr rfl))) (fun _ _ _ _ _ => pts_nil) (fun _ _ _ _ _ => (pe_tup (pa_cons (pv 4) (pa_cons pe_int pa_nil)))))) pa_nil)) rfl)
       (pss_cons (ps_fld (pv 0) pe_non rfl)
       (pss_one (ps_fld (pv 0) pe_int rfl))))))))), ?_⟩
    try dsimp only [cxOf]
    obtain ⟨⟨hf, hd⟩, hs, q⟩ := h
    obtain ⟨dx, Q, ls, D, hs⟩ := tu_open hs
    walk_at "run"
    refine Sl.r_iteD (fun z => ?_) (fun z => ?_)
    · walk_at "run"
      have e : u.counted = { u with steps := u.steps + 1 } := if_pos z
      rw [e] at q
      exact q _ (tu_close (u := { u with steps := u.steps + 1 }) hs)
    have e : u.counted = u.lift := if_neg z
    rw [e] at q
    walk_at "run"
    obtain ⟨so, rfl⟩ : ∃ so, so = q_ := ⟨_, rfl⟩
    have hlq := rows_count hs (by walk_at "pull")
    refine Sl.r_forL (ls.map V.ref) (fun i σ H => ∃ v1 : Option V, σ = [some (.ref p), some (.ref so), v1, none, none] ∧ Hd (pto so (.lst ((u.q.take i).flatten.map V.int)) :: pto p (.ins T.C_Turns dx (fs_Turns (.ref Q) (.ref D) (runV u.runs) (.int u.rest) (.int (u.steps + 1)))) :: pto Q (.lst (ls.map V.ref)) :: rowsA ls (rowsV u.q) :: pto D (.dK (dI u.dep)) :: L) H) ?_ ?_ ?_ ?_
    · exact ⟨none, rfl, hs⟩
    · rintro i σ H hi ⟨v1, rfl, hs⟩
      walk_at "sq"
    · rintro i x σ H hx ⟨v1, rfl, hs⟩
      rw [List.getElem?_map] at hx
      obtain ⟨a, ha, rfl⟩ := Option.map_eq_some_iff.mp hx
      have hi : i < u.q.length := by
        rw [← hlq]
        exact (List.getElem?_eq_some_iff.mp ha).1
      obtain ⟨r, hr⟩ : ∃ r, u.q[i]? = some r := ⟨u.q[i], by simp [hi]⟩
      have hl1 := len_take_fl u.q i
      have hl2 := len_row hr
      walk_at "st"
      obtain ⟨a2, ha2, hA⟩ := rows_in hs (by walk_at "pull") hr
      rw [ha] at ha2
      cases ha2
      walk_at "run"
      refine ⟨_, rfl, ?_⟩
      rw [← List.map_append, take_fl hr] at hs
      exact hs
    · rintro σ H ⟨v1, rfl, hs⟩
      have e4 : (u.q.take (ls.map V.ref).length).flatten = u.q.flatten := by
        rw [List.length_map, hlq, List.take_length]
      rw [e4] at hs
      walk_at "run"
      obtain ⟨b1, rfl⟩ : ∃ b1, b1 = q_ := ⟨_, rfl⟩
      refine Sl.r_lcR (fun E i H => ∃ ks : List Addr, ks.length = i ∧ Hd (pto E (.lst (ks.map V.ref)) :: rowsA ks (List.replicate i []) :: pto b1 (.lst [.ref so]) :: pto so (.lst (u.q.flatten.map V.int)) :: pto p (.ins T.C_Turns dx (fs_Turns (.ref Q) (.ref D) (runV u.runs) (.int u.rest) (.int (u.steps + 1)))) :: pto D (.dK (dI u.dep)) :: L) H) hs ?_ ?_ ?_
      · intro E H hs
        refine ⟨[], rfl, ?_⟩
        show Hd (pto E (.lst []) :: rowsA [] [] :: _) _
        exact Hd.mt (by walk_at "mt") (rows_nil hs)
      · rintro E i H hi ⟨ks, hk, hs⟩
        have hi : i < 3 := hi
        walk_at "run"
        refine ⟨ks ++ [q_], by rw [List.length_append, hk]; rfl, ?_⟩
        simp only [List.map_append, List.map_cons, List.map_nil]
        have hs2 := rows_snoc (Hd.mt (by walk_at "mt") hs : Hd (pto q_ (.lst []) :: rowsA ks (List.replicate i []) :: _) _)
        rw [← List.replicate_succ'] at hs2
        exact Hd.mt (by walk_at "mt") hs2
      · rintro E H ⟨ks, hk, hs⟩
        rw [show ((4 : Int) - 1).toNat = 3 from rfl] at hs hk
        walk_at "run"
        obtain ⟨b2, rfl⟩ : ∃ b2, b2 = q_ := ⟨_, rfl⟩
        refine Sl.r_lock (hs.pull (by walk_at "pull")) fun od H hs => ?_
        walk_at "run"
        refine Sl.r_lcK (fun E i H => ∃ ps : List Addr, ps.length = i ∧ Hd (pto E (.lst (ps.map V.ref)) :: pairsA ps (dI ((u.dep.map fun e => (e.1, (0 : Int))).take i)) :: pto D (.frz od (.dK (dI u.dep))) :: pto p (.ins T.C_Turns dx (fs_Turns (.ref b2) (.ref D) (runV u.runs) (.int u.rest) (.int (u.steps + 1)))) :: pto b2 (.lst (([.ref so] : List V) ++ ks.map V.ref)) :: rowsA ks (List.replicate 3 []) :: pto so (.lst (u.q.flatten.map V.int)) :: L) H) hs ?_ ?_ ?_ ?_
        · intro E H hs
          refine ⟨[], rfl, ?_⟩
          show Hd (pto E (.lst []) :: pairsA [] [] :: _) _
          exact Hd.mt (by walk_at "mt") (pairs_nil hs)
        · rintro E i H hi ⟨ps, hp, hs⟩
          walk_at "get"
        · rintro E i k v H hx ⟨ps, hp, hs⟩
          rw [dI, List.getElem?_map] at hx
          obtain ⟨e, he, hx⟩ := Option.map_eq_some_iff.mp hx
          cases hx
          have hi := (List.getElem?_eq_some_iff.mp he).1
          dsimp only [kV]
          walk_at "run"
          refine ⟨ps ++ [q_], by rw [List.length_append, hp]; rfl, ?_⟩
          have hs2 := pairs_snoc (k := .inl e.1) (v := .int 0) (Hd.mt (by walk_at "mt") hs : Hd (pto q_ (.tup [.int e.1, .int 0]) :: pairsA ps (dI ((u.dep.map fun e => (e.1, (0 : Int))).take i)) :: _) _)
          have e2 : dI ((u.dep.map fun e => (e.1, (0 : Int))).take i) ++ [(Sum.inl e.1, V.int 0)] = dI ((u.dep.map fun e => (e.1, (0 : Int))).take (i + 1)) := by
            rw [List.take_add_one, List.getElem?_map, he]
            simp [dI]
          rw [e2] at hs2
          simp only [List.map_append, List.map_cons, List.map_nil]
          exact Hd.mt (by walk_at "mt") hs2
        · rintro E H ⟨ps, hp, hs⟩
          have e5 : (u.dep.map fun e => (e.1, (0 : Int))).take (dI u.dep).length = u.dep.map fun e => (e.1, (0 : Int)) := by
            rw [len_dI]
            exact List.take_of_length_le (by rw [List.length_map]; exact Nat.le_refl _)
          rw [e5] at hs
          walk_at "run"
          refine Sl.r_dictP hs (hs.sq (by walk_at "pull")) (by walk_at "pull") fun nd H hs => ?_
          walk_at "run"
          have e6 : mergeK [] (dI (u.dep.map fun e => (e.1, (0 : Int)))) = dI (zI u.dep) := mergeK_dI _ []
          rw [e6] at hs
          have hs2 := rows_cons (Hd.mt (by walk_at "mt") hs : Hd (pto so (.lst (u.q.flatten.map V.int)) :: rowsA ks (List.replicate 3 []) :: _) _)
          exact q _ (tu_close (u := u.lift) (ls := so :: ks) (dx := dx) (Q := b2) (D := nd) (Hd.mt (by walk_at "mt") hs2 : Hd (pto p (.ins T.C_Turns dx (fs_Turns (.ref b2) (.ref nd) .non (.int 0) (.int (u.steps + 1)))) :: pto b2 (.lst (([.ref so] : List V) ++ ks.map V.ref)) :: rowsA (so :: ks) (u.q.flatten.map V.int :: List.replicate 3 []) :: pto nd (.dK (dI (zI u.dep))) :: L) _))
end
section
variable {P : Program} {w : World} {K : PySem.W.Frag} {mg : Str → Option Value} {base : Heap}
def sp_Turns_went (T : Txt K mg) : Sp := fun vs H Q _ => ∃ (p : Addr) (n : Int) (l : Nat) (r : List Int) (u : TU) (L : List SA), vs = [.ref p] ∧ (u.runs = some n ∧ getI u.dep n = some (l : Int) ∧ u.q[l]? = some r ∧ n ∈ r ∧ l < 4 ∧ u.q.length = 4 ∧ u.q.flatten.length ≤ 500 ∧ u.dep.length ≤ 500) ∧ Hd (turnsA T.C_Turns p u :: L) H ∧ ∀ H', Hd (turnsA T.C_Turns p (u.wentN n).counted :: L) H' → Q .non H'
theorem ok_Turns_went (T : Txt K mg) : FnOk P w K mg base CX0 3 T.a_Turns_went T.d_Turns_went ["self"] (sp_Turns_went T) := by
  refine T.f_Turns_went.ok sc_Turns_went (fun vs H Q E h => ?_) (fun cdv A outer s H vs Q E hr h => ?_)
  · obtain ⟨p, n, l, r, u, L, rfl, _⟩ := h
    rfl
  · obtain ⟨p, n, l, r, u, L, rfl, h⟩ := h
    refine ⟨_, (pss_cons (ps_fldaug (pv 0) pe_int in_sub)
       (pss_cons (ps_if (pt_cmpR (k_eq (K := K) rfl hr.units) (k_fld (K := K) rfl (pv 0) rfl) pe_int (nomark _))
        (pss_cons (ps_set (i := 1) sc_Turns_went.nd rfl (by first | exact Or.inl rfl | exact Or.inr rfl) (pe_meth0 (pv 0) T.cl_Turns T.m_Turns_slice_over (ok_Turns_slice_over T) hr T.b_Turns_slice_over .nil pass0))
       (pss_one (ps_expr (pe_meth (pv 0) T.cl_Turns T.m_Turns_stand (ok_Turns_stand T) (hr.mono (by decide)) T.b_Turns_stand .nil pass0 (pa_cons (pv 1) (pa_cons (pe_callB (u_min2 rfl) (by rfl) T.n_min (by decide +kernel) (pa_cons (pe_op (k_sub (K := K) rfl) (pe_glob (v := .int 4) (by rfl) T.g_LEVELS.choose_spec ⟨_, rfl⟩) pe_int) (pa_cons (pe_op (k_add (K := K) rfl) (pe_ix (k_ix (K := K) rfl (hu_of hr)) (k_fld (K := K) rfl (pv 0) rfl) (pv 1) (fun _ _ => rfl)) pe_int) pa_nil))) pa_nil))))))
        pss_nil)
       (pss_one (ps_expr (pe_meth0 (pv 0) T.cl_Turns T.m_Turns_counted (ok_Turns_counted T) (hr.mono (by decide)) T.b_Turns_counted .nil pass0))))), ?_⟩
    try dsimp only [cxOf]
    obtain ⟨⟨hru, hg, hr, hm, hl, h4, hf, hd⟩, hs, q⟩ := h
    obtain ⟨dx, Q, ls, D, hs⟩ := tu_open hs
    walk_at "run"
    refine Sl.r_iteD (fun z => ?_) (fun z => ?_)
    · have e : u.wentN n = (u.over n l).stand n (min 3 (l + 1)) := by
        unfold TU.wentN
        rw [if_pos z, lev_at hg]
      rw [e] at q
      walk_at "run"
      refine ⟨p, D, n, l, r, { u with rest := u.rest - 1 }, L, rfl, ⟨hru, hg, hr, hm⟩, td_close (u := { u with rest := u.rest - 1 }) hs, fun H hs => ?_⟩
      have hs : Hd (turnsD T.C_Turns p D (u.over n l) :: L) H := hs
      have h5 := len_over hr hm
      have h6 := len_stand (u := u.over n l) (n := n) (l := min 3 (l + 1)) (by rw [four_over]; omega)
      have h7 : ((u.over n l).stand n (min 3 (l + 1))).dep.length ≤ u.dep.length + 1 := len_putI _ _ _
      obtain ⟨dx, Q, ls, hs⟩ := td_open hs
      walk_at "run"
      refine Sl.r_ixDi (by walk_at "get") (by rw [valV_dI]; exact congrArg (Option.map V.int) hg) ?_
      walk_at "run"
      refine ⟨p, n, min 3 (l + 1), u.over n l, L, congrArg (fun z : Int => [V.ref p, V.int n, V.int z]) (by split <;> omega), ⟨by rw [four_over]; exact h4, by omega, by omega, Nat.le_trans hd (by decide)⟩, tu_close hs, fun H hs => ?_⟩
      walk_at "run"
      refine ⟨p, _, L, rfl, ⟨by omega, by omega⟩, hs, fun H hs => ?_⟩
      walk_at "run"
      exact q _ hs
    · have e : u.wentN n = { u with rest := u.rest - 1 } := if_neg z
      rw [e] at q
      walk_at "run"
      refine ⟨p, { u with rest := u.rest - 1 }, L, rfl, ⟨Nat.le_trans hf (by decide), Nat.le_trans hd (by decide)⟩, tu_close (u := { u with rest := u.rest - 1 }) hs, fun H hs => ?_⟩
      walk_at "run"
      exact q _ hs
def sp_Turns_passes (T : Txt K mg) : Sp := fun vs H Q _ => ∃ (p : Addr) (n : Int) (l : Nat) (r : List Int) (u : TU) (L : List SA), vs = [.ref p] ∧ (u.runs = some n ∧ getI u.dep n = some (l : Int) ∧ u.q[l]? = some r ∧ n ∈ r ∧ l < 4 ∧ u.q.length = 4 ∧ u.q.flatten.length ≤ 500 ∧ u.dep.length ≤ 500) ∧ Hd (turnsA T.C_Turns p u :: L) H ∧ ∀ H', Hd (turnsA T.C_Turns p (u.passN n).counted :: L) H' → Q .non H'
theorem ok_Turns_passes (T : Txt K mg) : FnOk P w K mg base CX0 3 T.a_Turns_passes T.d_Turns_passes ["self"] (sp_Turns_passes T) := by
  refine T.f_Turns_passes.ok sc_Turns_passes (fun vs H Q E h => ?_) (fun cdv A outer s H vs Q E hr h => ?_)
  · obtain ⟨p, n, l, r, u, L, rfl, _⟩ := h
    rfl
  · obtain ⟨p, n, l, r, u, L, rfl, h⟩ := h
    refine ⟨_, (pss_cons (ps_set (i := 1) sc_Turns_passes.nd rfl (by first | exact Or.inl rfl | exact Or.inr rfl) (pe_meth0 (pv 0) T.cl_Turns T.m_Turns_slice_over (ok_Turns_slice_over T) hr T.b_Turns_slice_over .nil pass0))
       (pss_cons (ps_expr (pe_meth (pv 0) T.cl_Turns T.m_Turns_stand (ok_Turns_stand T) (hr.mono (by decide)) T.b_Turns_stand .nil pass0 (pa_cons (pv 1) (pa_cons (pe_ix (k_ix (K := K) rfl (hu_of hr)) (k_fld (K := K) rfl (pv 0) rfl) (pv 1) (fun _ _ => rfl)) pa_nil))))
       (pss_one (ps_expr (pe_meth0 (pv 0) T.cl_Turns T.m_Turns_counted (ok_Turns_counted T) (hr.mono (by decide)) T.b_Turns_counted .nil pass0))))), ?_⟩
    try dsimp only [cxOf]
    obtain ⟨⟨hru, hg, hr, hm, hl, h4, hf, hd⟩, hs, q⟩ := h
    have e : u.passN n = (u.over n l).stand n l := by
      unfold TU.passN
      rw [lev_at hg]
    rw [e] at q
    have h5 := len_over hr hm
    have h6 := len_stand (u := u.over n l) (n := n) (l := l) (by rw [four_over]; omega)
    have h7 : ((u.over n l).stand n l).dep.length ≤ u.dep.length + 1 := len_putI _ _ _
    obtain ⟨D, hs⟩ := td_of hs
    walk_at "run"
    refine ⟨p, D, n, l, r, u, L, rfl, ⟨hru, hg, hr, hm⟩, hs, fun H hs => ?_⟩
    obtain ⟨dx, Q, ls, hs⟩ := td_open hs
    walk_at "run"
    refine Sl.r_ixDi (by walk_at "get") (by rw [valV_dI]; exact congrArg (Option.map V.int) hg) ?_
    walk_at "run"
    refine ⟨p, n, l, u.over n l, L, rfl, ⟨by rw [four_over]; exact h4, by omega, by omega, Nat.le_trans hd (by decide)⟩, tu_close hs, fun H hs => ?_⟩
    walk_at "run"
    refine ⟨p, _, L, rfl, ⟨by omega, by omega⟩, hs, fun H hs => ?_⟩
    walk_at "run"
    exact q _ hs
def sp_Turns_waits (T : Txt K mg) : Sp := fun vs H Q _ => ∃ (p : Addr) (n : Int) (l : Nat) (r : List Int) (u : TU) (L : List SA), vs = [.ref p] ∧ (u.runs = some n ∧ getI u.dep n = some (l : Int) ∧ u.q[l]? = some r ∧ n ∈ r ∧ l < 4 ∧ u.q.length = 4 ∧ u.q.flatten.length ≤ 500 ∧ u.dep.length ≤ 500) ∧ Hd (turnsA T.C_Turns p u :: L) H ∧ ∀ H', Hd (turnsA T.C_Turns p (u.waitN n).counted :: L) H' → Q .non H'
theorem ok_Turns_waits (T : Txt K mg) : FnOk P w K mg base CX0 3 T.a_Turns_waits T.d_Turns_waits ["self"] (sp_Turns_waits T) := by
  refine T.f_Turns_waits.ok sc_Turns_waits (fun vs H Q E h => ?_) (fun cdv A outer s H vs Q E hr h => ?_)
  · obtain ⟨p, n, l, r, u, L, rfl, _⟩ := h
    rfl
  · obtain ⟨p, n, l, r, u, L, rfl, h⟩ := h
    refine ⟨_, (pss_cons (ps_expr (pe_meth0 (pv 0) T.cl_Turns T.m_Turns_slice_over (ok_Turns_slice_over T) hr T.b_Turns_slice_over .nil pass0))
       (pss_one (ps_expr (pe_meth0 (pv 0) T.cl_Turns T.m_Turns_counted (ok_Turns_counted T) (hr.mono (by decide)) T.b_Turns_counted .nil pass0)))), ?_⟩
    try dsimp only [cxOf]
    obtain ⟨⟨hru, hg, hr, hm, hl, h4, hf, hd⟩, hs, q⟩ := h
    have e : u.waitN n = u.over n l := by
      unfold TU.waitN
      rw [lev_at hg]
    rw [e] at q
    have h5 := len_over hr hm
    obtain ⟨D, hs⟩ := td_of hs
    walk_at "run"
    refine ⟨p, D, n, l, r, u, L, rfl, ⟨hru, hg, hr, hm⟩, hs, fun H hs => ?_⟩
    walk_at "run"
    refine ⟨p, u.over n l, L, rfl, ⟨by omega, Nat.le_trans hd (by decide)⟩, td_up hs, fun H hs => ?_⟩
    walk_at "run"
    exact q _ hs
def sp_Turns_ends (T : Txt K mg) : Sp := fun vs H Q _ => ∃ (p : Addr) (n : Int) (l : Nat) (r : List Int) (u : TU) (L : List SA), vs = [.ref p] ∧ (u.runs = some n ∧ getI u.dep n = some (l : Int) ∧ u.q[l]? = some r ∧ n ∈ r ∧ l < 4 ∧ u.q.length = 4 ∧ u.q.flatten.length ≤ 500 ∧ u.dep.length ≤ 500) ∧ Hd (turnsA T.C_Turns p u :: L) H ∧ ∀ H', Hd (turnsA T.C_Turns p (u.endN n).counted :: L) H' → Q .non H'
theorem ok_Turns_ends (T : Txt K mg) : FnOk P w K mg base CX0 3 T.a_Turns_ends T.d_Turns_ends ["self"] (sp_Turns_ends T) := by
  refine T.f_Turns_ends.ok sc_Turns_ends (fun vs H Q E h => ?_) (fun cdv A outer s H vs Q E hr h => ?_)
  · obtain ⟨p, n, l, r, u, L, rfl, _⟩ := h
    rfl
  · obtain ⟨p, n, l, r, u, L, rfl, h⟩ := h
    refine ⟨_, (pss_cons (ps_expr (pe_dpop1 (k_fld (K := K) rfl (pv 0) rfl) (pe_meth0 (pv 0) T.cl_Turns T.m_Turns_slice_over (ok_Turns_slice_over T) hr T.b_Turns_slice_over .nil pass0) ⟨by rfl, by rfl, by rfl, by rfl⟩))
       (pss_one (ps_expr (pe_meth0 (pv 0) T.cl_Turns T.m_Turns_counted (ok_Turns_counted T) (hr.mono (by decide)) T.b_Turns_counted .nil pass0)))), ?_⟩
    try dsimp only [cxOf]
    obtain ⟨⟨hru, hg, hr, hm, hl, h4, hf, hd⟩, hs, q⟩ := h
    have e : u.endN n = { u.over n l with dep := dropI u.dep n } := by
      unfold TU.endN
      rw [lev_at hg]
    rw [e] at q
    have h5 := len_over hr hm
    have h6 := len_dropI u.dep n
    obtain ⟨dx, Q, ls, D, hs⟩ := tu_open hs
    walk_at "run"
    refine ⟨p, D, n, l, r, u, L, rfl, ⟨hru, hg, hr, hm⟩, td_close hs, fun H hs => ?_⟩
    obtain ⟨dx, Q, ls, hs⟩ := td_open hs
    have hg2 : getI (u.over n l).dep n = some (l : Int) := hg
    refine Sl.r_dpopK hs (by walk_at "put") (by rw [valV_dI, hg2]; rfl) fun H hs => ?_
    rw [dropK_dI] at hs
    walk_at "run"
    refine ⟨p, { u.over n l with dep := dropI u.dep n }, L, rfl, ⟨Nat.le_trans (Nat.le_of_succ_le (Nat.le_of_eq h5)) (by omega), Nat.le_trans h6 (by omega)⟩, tu_close (u := { u.over n l with dep := dropI u.dep n }) hs, fun H hs => ?_⟩
    walk_at "run"
    exact q _ hs
def sp_Turns_wakes (T : Txt K mg) : Sp := fun vs H Q _ => ∃ (p : Addr) (n : Int) (l : Nat) (u : TU) (L : List SA), vs = [.ref p, .int n] ∧ (getI u.dep n = some (l : Int) ∧ l < 4 ∧ u.q.length = 4 ∧ u.q.flatten.length ≤ 500 ∧ u.dep.length ≤ 500) ∧ Hd (turnsA T.C_Turns p u :: L) H ∧ ∀ H', Hd (turnsA T.C_Turns p (u.stand n l) :: L) H' → Q .non H'
theorem ok_Turns_wakes (T : Txt K mg) : FnOk P w K mg base CX0 2 T.a_Turns_wakes T.d_Turns_wakes ["self", "number"] (sp_Turns_wakes T) := by
  refine T.f_Turns_wakes.ok sc_Turns_wakes (fun vs H Q E h => ?_) (fun cdv A outer s H vs Q E hr h => ?_)
  · obtain ⟨p, n, l, u, L, rfl, _⟩ := h
    rfl
  · obtain ⟨p, n, l, u, L, rfl, h⟩ := h
    refine ⟨_, (pss_one (ps_expr (pe_meth (pv 0) T.cl_Turns T.m_Turns_stand (ok_Turns_stand T) hr T.b_Turns_stand .nil pass0 (pa_cons (pv 1) (pa_cons (pe_ix (k_ix (K := K) rfl (hu_of hr)) (k_fld (K := K) rfl (pv 0) rfl) (pv 1) (fun _ _ => rfl)) pa_nil))))), ?_⟩
    try dsimp only [cxOf]
    obtain ⟨⟨hg, hl, h4, hf, hd⟩, hs, q⟩ := h
    obtain ⟨dx, Q, ls, D, hs⟩ := tu_open hs
    walk_at "run"
    refine Sl.r_ixDi (by walk_at "get") (by rw [valV_dI]; exact congrArg (Option.map V.int) hg) ?_
    walk_at "run"
    refine ⟨p, n, l, u, L, rfl, ⟨h4, hl, by omega, by omega⟩, tu_close hs, fun H hs => ?_⟩
    walk_at "run"
    exact q _ hs
end
section
variable {P : Program} {w : World} {K : PySem.W.Frag} {mg : Str → Option Value} {base : Heap}
def sp_Turns_told (T : Txt K mg) : Sp := fun vs H Q _ => ∃ (p : Addr)  (u : TU) (L : List SA), vs = [.ref p] ∧ (u.q.length ≤ 1000) ∧ Hd (turnsA T.C_Turns p u :: L) H ∧ ∀ t ls2 H', Hd (pto t (.tup (ls2.map V.ref)) :: rowsA ls2 (rowsV u.q) :: turnsA T.C_Turns p u :: L) H' → Q (.ref t) H'
theorem ok_Turns_told (T : Txt K mg) : FnOk P w K mg base CX0 1 T.a_Turns_told T.d_Turns_told ["self"] (sp_Turns_told T) := by
  refine T.f_Turns_told.ok sc_Turns_told (fun vs H Q E h => ?_) (fun cdv A outer s H vs Q E hr h => ?_)
  · obtain ⟨p, u, L, rfl, _⟩ := h
    rfl
  · obtain ⟨p, u, L, rfl, h⟩ := h
    refine ⟨_, (pss_one (ps_ret (pe_callTy (k_tuple (K := K) rfl) (by rfl) T.n_tuple (by decide +kernel) (pa_cons (pe_lc (own := [("row", 1)]) rfl sc_Turns_told.nd (pi_list (k_fld (K := K) rfl (pv 0) rfl)) (blkOk_by (N := ["self", "row"]) (sc := defScope s_Turns_told) (by decide +kernel)) (fun _ _ _ _ _ => (pg_name (i := 1) sc_Turns_told.nd rfl (by first | exact Or.inl rfl | exact Or.inr rfl))) (fun _ _ _ _ _ => pts_nil) (fun _ _ _ _ _ => (pe_callTy (k_list (K := K) rfl) (by rfl) T.n_list (by decide +kernel) (pa_cons (pv 1) pa_nil)))) pa_nil)))), ?_⟩
    try dsimp only [cxOf]
    obtain ⟨h4, hs, q⟩ := h
    obtain ⟨dx, Q, ls, D, hs⟩ := tu_open hs
    have hlq := rows_count hs (by walk_at "pull")
    walk_at "run"
    refine Sl.r_lcL (ls.map V.ref) (fun E i H => ∃ ks : List Addr, ks.length = i ∧ Hd (pto E (.lst (ks.map V.ref)) :: rowsA ks (rowsV (u.q.take i)) :: pto p (.ins T.C_Turns dx (fs_Turns (.ref Q) (.ref D) (runV u.runs) (.int u.rest) (.int u.steps))) :: pto Q (.lst (ls.map V.ref)) :: rowsA ls (rowsV u.q) :: pto D (.dK (dI u.dep)) :: L) H) hs ?_ ?_ ?_ ?_
    · intro E H hs
      refine ⟨[], rfl, ?_⟩
      show Hd (pto E (.lst []) :: rowsA [] [] :: _) _
      exact Hd.mt (by walk_at "mt") (rows_nil hs)
    · rintro E i H hi ⟨ks, hk, hs⟩
      exact hs.sq (a := Q) (by walk_at "pull")
    · rintro E i x H hx ⟨ks, hk, hs⟩
      rw [List.getElem?_map] at hx
      obtain ⟨a, ha, rfl⟩ := Option.map_eq_some_iff.mp hx
      have hi : i < u.q.length := by
        rw [← hlq]
        exact (List.getElem?_eq_some_iff.mp ha).1
      obtain ⟨r, hr⟩ : ∃ r, u.q[i]? = some r := ⟨u.q[i], by simp [hi]⟩
      walk_at "st"
      obtain ⟨a2, ha2, hA⟩ := rows_in (ls := ls) hs (by walk_at "pull") hr
      rw [ha] at ha2
      cases ha2
      have hS : SqL K H a _ := SqL.of hA
      walk_at "run"
      refine ⟨ks ++ [q_], by rw [List.length_append, hk]; rfl, ?_⟩
      simp only [List.map_append, List.map_cons, List.map_nil]
      have hs2 := rows_snoc (Hd.mt (by walk_at "mt") hs : Hd (pto q_ (.lst (r.map V.int)) :: rowsA ks (rowsV (u.q.take i)) :: _) _)
      have e2 : rowsV (u.q.take i) ++ [r.map V.int] = rowsV (u.q.take (i + 1)) := by
        rw [List.take_add_one, hr]
        simp [rowsV]
      rw [e2] at hs2
      exact Hd.mt (by walk_at "mt") hs2
    · rintro E H ⟨ks, hk, hs⟩
      have e5 : u.q.take (ls.map V.ref).length = u.q := by rw [List.length_map, hlq, List.take_length]
      rw [e5] at hs
      walk_at "run"
      have hs2 : Hd (turnsA T.C_Turns p u :: pto q_ (.tup (ks.map V.ref)) :: rowsA ks (rowsV u.q) :: L) H := tu_close (Hd.mt (by walk_at "mt") hs)
      exact q _ ks _ (Hd.mt (by walk_at "mt") hs2)
def sp_Turns_left (T : Txt K mg) : Sp := fun vs H Q _ => ∃ (p : Addr)  (u : TU) (L : List SA), vs = [.ref p] ∧ (True) ∧ Hd (turnsA T.C_Turns p u :: L) H ∧ Q (.int u.rest) H
theorem ok_Turns_left (T : Txt K mg) : FnOk P w K mg base CX0 1 T.a_Turns_left T.d_Turns_left ["self"] (sp_Turns_left T) := by
  refine T.f_Turns_left.ok sc_Turns_left (fun vs H Q E h => ?_) (fun cdv A outer s H vs Q E hr h => ?_)
  · obtain ⟨p, u, L, rfl, _⟩ := h
    rfl
  · obtain ⟨p, u, L, rfl, h⟩ := h
    refine ⟨_, (pss_one (ps_ret (k_fld (K := K) rfl (pv 0) rfl))), ?_⟩
    try dsimp only [cxOf]
    obtain ⟨-, hs, q⟩ := h
    obtain ⟨dx, Q, ls, D, hs⟩ := tu_open hs
    walk_at "run"
    exact q
def sp_Turns_level (T : Txt K mg) : Sp := fun vs H Q _ => ∃ (p : Addr) (n l : Int) (u : TU) (L : List SA), vs = [.ref p, .int n] ∧ (getI u.dep n = some l) ∧ Hd (turnsA T.C_Turns p u :: L) H ∧ Q (.int l) H
theorem ok_Turns_level (T : Txt K mg) : FnOk P w K mg base CX0 1 T.a_Turns_level T.d_Turns_level ["self", "number"] (sp_Turns_level T) := by
  refine T.f_Turns_level.ok sc_Turns_level (fun vs H Q E h => ?_) (fun cdv A outer s H vs Q E hr h => ?_)
  · obtain ⟨p, n, l, u, L, rfl, _⟩ := h
    rfl
  · obtain ⟨p, n, l, u, L, rfl, h⟩ := h
    refine ⟨_, (pss_one (ps_ret (pe_ix (k_ix (K := K) rfl (hu_of hr)) (k_fld (K := K) rfl (pv 0) rfl) (pv 1) (fun _ _ => rfl)))), ?_⟩
    try dsimp only [cxOf]
    obtain ⟨hg, hs, q⟩ := h
    obtain ⟨dx, Q, ls, D, hs⟩ := tu_open hs
    walk_at "run"
    refine Sl.r_ixDi (by walk_at "get") (by rw [valV_dI, hg]; rfl) ?_
    exact q
end
section
variable {P : Program} {w : World} {K : PySem.W.Frag} {mg : Str → Option Value} {base : Heap}
def sp_Turns_leaves (T : Txt K mg) : Sp := fun vs H Q _ => ∃ (p : Addr) (n : Int) (l : Nat) (r : List Int) (u : TU) (L : List SA), vs = [.ref p, .int n] ∧ (getI u.dep n = some (l : Int) ∧ u.q[l]? = some r) ∧ Hd (turnsA T.C_Turns p u :: L) H ∧ ∀ H', Hd (turnsA T.C_Turns p (u.leaveN n) :: L) H' → Q .non H'
theorem ok_Turns_leaves (T : Txt K mg) : FnOk P w K mg base CX0 2 T.a_Turns_leaves T.d_Turns_leaves ["self", "number"] (sp_Turns_leaves T) := by
  refine T.f_Turns_leaves.ok sc_Turns_leaves (fun vs H Q E h => ?_) (fun cdv A outer s H vs Q E hr h => ?_)
  · obtain ⟨p, n, l, r, u, L, rfl, _⟩ := h
    rfl
  · obtain ⟨p, n, l, r, u, L, rfl, h⟩ := h
    refine ⟨_, (pss_cons (ps_if (pt_cmpR (k_in (K := K) rfl (hu_of hr)) (pv 1) (pe_ix (k_ix (K := K) rfl (hu_of hr)) (k_fld (K := K) rfl (pv 0) rfl) (pe_ix (k_ix (K := K) rfl (hu_of hr)) (k_fld (K := K) rfl (pv 0) rfl) (pv 1) (fun _ _ => rfl)) (fun _ _ => rfl)) (by rfl))
        (pss_one (ps_expr (pe_meth (pv 0) T.cl_Turns T.m_Turns_step_out (ok_Turns_step_out T) hr T.b_Turns_step_out .nil pass0 (pa_cons (pv 1) pa_nil))))
        pss_nil)
       (pss_cons (ps_if (pt_cmpR (k_eq (K := K) rfl hr.units) (pv 1) (k_fld (K := K) rfl (pv 0) rfl) (nomark _))
        (pss_cons (ps_fld (pv 0) pe_non rfl)
       (pss_one (ps_fld (pv 0) pe_int rfl)))
        pss_nil)
       (pss_one (ps_expr (pe_dpop1 (k_fld (K := K) rfl (pv 0) rfl) (pv 1) ⟨by rfl, by rfl, by rfl, by rfl⟩))))), ?_⟩
    try dsimp only [cxOf]
    obtain ⟨⟨hg, hr⟩, hs, q⟩ := h
    have el : u.leaveN n = { q := if n ∈ r then u.q.set l (r.erase n) else u.q, dep := dropI u.dep n, runs := if u.runs = some n then none else u.runs, rest := if u.runs = some n then 0 else u.rest, steps := u.steps } := by
      unfold TU.leaveN
      rw [lev_at hg, row_at hr]
    rw [el] at q
    obtain ⟨D, hs⟩ := td_of hs
    obtain ⟨dx, Qa, ls, hs⟩ := td_open hs
    walk_at "run"
    refine Sl.r_ixDi (by walk_at "get") (by rw [valV_dI, hg]; rfl) ?_
    walk_at "run"
    obtain ⟨a, ha, hA⟩ := rows_in hs (by walk_at "pull") hr
    have hS : SqL K H a _ := SqL.of hA
    refine Sl.r_ixL (by walk_at "sq") (atI_ref ha) ?_
    walk_at "run"
    rw [inV_ints]
    apply Sl.r_join (P := fun H => Hd (turnsD T.C_Turns p D { u with q := if n ∈ r then u.q.set l (r.erase n) else u.q } :: L) H)
    · intro mid
      refine Sl.r_iteD (fun hm => ?_) (fun hm => ?_)
      · walk_at "run"
        refine ⟨p, D, n, l, r, u, L, rfl, ⟨hg, hr, hm⟩, td_close hs, fun H hs => ?_⟩
        walk_at "st"
        exact mid _ (by rw [if_pos hm]; exact hs)
      · walk_at "st"
        exact mid _ (by rw [if_neg hm]; exact td_close hs)
    · intro H hs
      obtain ⟨dx, Qa, ls, hs⟩ := td_open hs
      dsimp only at hs
      walk_at "run"
      apply Sl.r_join (P := fun H => Hd (turnsD T.C_Turns p D { q := if n ∈ r then u.q.set l (r.erase n) else u.q, dep := u.dep, runs := if u.runs = some n then none else u.runs, rest := if u.runs = some n then 0 else u.rest, steps := u.steps } :: L) H)
      · intro mid
        cases hru : u.runs with
        | none =>
          dsimp only [runV]
          refine Sl.r_eqV (by rfl) ?_
          walk_at "run"
          refine Sl.r_iteD (fun z => nomatch z) (fun _ => ?_)
          walk_at "st"
          rw [hru] at hs
          have h1 : ¬ (none : Option Int) = some n := fun z => nomatch z
          exact mid _ (by rw [hru, if_neg h1, if_neg h1]; exact td_close (u := { q := if n ∈ r then u.q.set l (r.erase n) else u.q, dep := u.dep, runs := none, rest := u.rest, steps := u.steps }) hs)
        | some x =>
          dsimp only [runV]
          rw [hru] at hs
          refine Sl.r_eqV (by rfl) ?_
          walk_at "run"
          refine Sl.r_iteD (fun z => ?_) (fun z => ?_)
          · have e : n = x := V.int.inj z
            subst e
            dsimp only [runV] at hs
            iterate 9 walk_at "st"
            exact mid _ (by rw [hru, if_pos rfl, if_pos rfl]; exact td_close (u := { q := if n ∈ r then u.q.set l (r.erase n) else u.q, dep := u.dep, runs := none, rest := 0, steps := u.steps }) hs)
          · have ne : ¬ some x = some n := fun e => z (by rw [Option.some.inj e])
            walk_at "st"
            exact mid _ (by rw [hru, if_neg ne, if_neg ne]; exact td_close (u := { q := if n ∈ r then u.q.set l (r.erase n) else u.q, dep := u.dep, runs := some x, rest := u.rest, steps := u.steps }) hs)
      · intro H hs
        obtain ⟨dx, Qa, ls, hs⟩ := td_open hs
        dsimp only at hs
        walk_at "run"
        refine Sl.r_dpopK hs (by walk_at "put") (by rw [valV_dI, hg]; rfl) fun H hs => ?_
        rw [dropK_dI] at hs
        walk_at "run"
        exact q _ (tu_close (u := { q := if n ∈ r then u.q.set l (r.erase n) else u.q, dep := dropI u.dep n, runs := if u.runs = some n then none else u.runs, rest := if u.runs = some n then 0 else u.rest, steps := u.steps }) (dx := dx) (Q := Qa) (ls := ls) (D := D) hs)
end
section
variable {P : Program} {w : World} {K : PySem.W.Frag} {mg : Str → Option Value} {base : Heap}

/-- what draws are taken from; n: how many were drawn at the most -/
def handA (d : Addr) (n : Nat) : SA := fun H => ∃ c r pl mn ow, (0 ≤ pl ∧ pl ≤ 100000 ∧ 0 ≤ mn ∧ mn ≤ (n : Int)) ∧ Hd [pto d (.dK (haK (.int c) (.int r) (.int pl) (.int mn) (.bl ow)))] H
theorem ha_open {d : Addr} {n : Nat} {L : List SA} {H : Hp} (h : Hd (handA d n :: L) H) : ∃ c r pl mn ow, (0 ≤ pl ∧ pl ≤ 100000 ∧ 0 ≤ mn ∧ mn ≤ (n : Int)) ∧ Hd (pto d (.dK (haK (.int c) (.int r) (.int pl) (.int mn) (.bl ow))) :: L) H := by
  obtain ⟨H1, H2, c, s1, s2, ⟨f, l, s, a, o, b, p⟩, q⟩ := h
  exact ⟨f, l, s, a, o, b, Hd.open (M := [_]) ⟨H1, H2, c, s1, s2, p, q⟩⟩
theorem ha_close {d : Addr} {n : Nat} {L : List SA} {H : Hp} {c r pl mn : Int} {ow : Bool} (b : 0 ≤ pl ∧ pl ≤ 100000 ∧ 0 ≤ mn ∧ mn ≤ (n : Int)) (h : Hd (pto d (.dK (haK (.int c) (.int r) (.int pl) (.int mn) (.bl ow))) :: L) H) : Hd (handA d n :: L) H :=
  (Hd.close (M := [_]) h).imp fun _ z => ⟨c, r, pl, mn, ow, b, z⟩
theorem ha_more {d : Addr} {n m : Nat} (hm : n ≤ m) {L : List SA} {H : Hp} (h : Hd (handA d n :: L) H) : Hd (handA d m :: L) H :=
  h.imp fun _ ⟨c, r, pl, mn, ow, b, z⟩ => ⟨c, r, pl, mn, ow, ⟨b.1, b.2.1, b.2.2.1, by omega⟩, z⟩

def sp_law_mixed (T : Txt K mg) : Sp := fun vs H Q _ => ∃ (c k : Int), vs = [.int c, .int k] ∧ (0 ≤ k ∧ k ≤ 1000000) ∧ ∀ r, 0 ≤ r → Q (.int r) H
theorem ok_law_mixed (T : Txt K mg) : FnOk P w K mg base CX0 1 T.a_law_mixed T.d_law_mixed ["_law_cell", "_law_k"] (sp_law_mixed T) := by
  refine T.f_law_mixed.ok sc_law_mixed (fun vs H Q E h => ?_) (fun cdv A outer s H vs Q E hr h => ?_)
  · obtain ⟨c, k, rfl, _⟩ := h
    rfl
  · obtain ⟨c, k, rfl, h⟩ := h
    refine ⟨_, (pss_one (ps_ret (pe_op (k_mod (K := K) rfl) (pe_op (k_mul (K := K) rfl) (pe_op (k_mod (K := K) rfl) (pe_op (k_add (K := K) rfl) (pe_op (k_add (K := K) rfl) (pe_op (k_mul (K := K) rfl) (pv 0) (pe_op (k_add (K := K) rfl) pe_int (pe_op (k_mul (K := K) rfl) (pe_op (k_mul (K := K) rfl) pe_int (pv 1)) (pv 1)))) (pe_op (k_mul (K := K) rfl) pe_int (pv 1))) pe_int) pe_int) pe_int) pe_int))), ?_⟩
    try dsimp only [cxOf]
    obtain ⟨hk, q⟩ := h
    have hkk : 0 ≤ k * k ∧ k * k ≤ 1000000000000 := ⟨Int.mul_nonneg hk.1 hk.1, Int.le_trans (Int.mul_le_mul hk.2 hk.2 hk.1 (by decide)) (by decide)⟩
    have hk2 : 0 ≤ 2 * k * k ∧ 2 * k * k ≤ 2000000000000 := by rw [Int.mul_assoc]; omega
    walk_at "run"
    exact q _ (Int.emod_nonneg _ (by decide))
def sp_law_hand (T : Txt K mg) : Sp := fun vs H Q _ => ∃ (a : Addr) (ns : List Int) (k : Nat) (L : List SA), vs = [.ref a, .int (k : Int)] ∧ k ≤ 1000 ∧ Hd (sql K a (ns.map V.int) :: L) H ∧ ∀ d H', Hd (handA d 0 :: sql K a (ns.map V.int) :: L) H' → Q (.ref d) H'
theorem ok_law_hand (T : Txt K mg) : FnOk P w K mg base CX0 1 T.a_law_hand T.d_law_hand ["_law_script", "_law_k"] (sp_law_hand T) := by
  refine T.f_law_hand.ok sc_law_hand (fun vs H Q E h => ?_) (fun cdv A outer s H vs Q E hr h => ?_)
  · obtain ⟨a, ns, k, L, rfl, _⟩ := h
    rfl
  · obtain ⟨a, ns, k, L, rfl, h⟩ := h
    refine ⟨_, (pss_cons (ps_set (i := 2) sc_law_hand.nd rfl (by first | exact Or.inl rfl | exact Or.inr rfl) (pe_ifExp (pt_cmpR op_lt (pv 1) (pe_callB (k_len (K := K) rfl) (by rfl) T.n_len (by decide +kernel) (pa_cons (pv 0) pa_nil)) (nomark _)) (pe_ix (k_ix (K := K) rfl (hu_of hr)) (pv 0) (pv 1) (fun _ _ => rfl)) pe_int))
       (pss_one (ps_ret (pe_disp (pps_cons pe_str (pv 2) (pps_cons pe_str (pv 2) (pps_cons pe_str (pe_op (k_mul (K := K) rfl) pe_int (pv 1)) (pps_cons pe_str pe_int (pps_cons pe_str (pe_cmpR op_ge (pv 2) (pe_op (k_pow (K := K) rfl) pe_int pe_int) (nomark _)) pps_nil))))) (by rfl) (by rfl) (fun z => by cases z) (by decide))))), ?_⟩
    try dsimp only [cxOf]
    obtain ⟨hk, hs, q⟩ := h
    walk_at "run"
    refine Sl.r_iteD (fun h => ?_) (fun h => ?_)
    · walk_at "run"
      have hk : k < ns.length := by simpa using h
      refine Sl.r_ixL (by walk_at "sq") (atI_nat (v := .int ns[k]) (by simp [hk])) ?_
      walk_at "run"
      exact q _ _ (ha_close ⟨by omega, by omega, Int.le_refl 0, Int.le_refl 0⟩ hs)
    · walk_at "run"
      exact q _ _ (ha_close ⟨by omega, by omega, Int.le_refl 0, Int.le_refl 0⟩ hs)
def sp_law_from (T : Txt K mg) : Sp := fun vs H Q _ => ∃ (d : Addr) (m : Int) (n : Nat) (L : List SA), vs = [.ref d, .int m] ∧ (0 < m ∧ m ≤ 65536 ∧ n ≤ 100000) ∧ Hd (handA d n :: L) H ∧ ∀ r H', 0 ≤ r → r < m → Hd (handA d (n + 1) :: L) H' → Q (.int r) H'
theorem ok_law_from (T : Txt K mg) : FnOk P w K mg base CX0 2 T.a_law_from T.d_law_from ["_law_hand_here", "_law_many"] (sp_law_from T) := by
  refine T.f_law_from.ok sc_law_from (fun vs H Q E h => ?_) (fun cdv A outer s H vs Q E hr h => ?_)
  · obtain ⟨d, m, n, L, rfl, _⟩ := h
    rfl
  · obtain ⟨d, m, n, L, rfl, h⟩ := h
    refine ⟨_, (pss_cons (ps_asg (pe_op (k_add (K := K) rfl) (pe_ix (k_ix (K := K) rfl (hu_of hr)) (pv 0) pe_str (fun _ _ => rfl)) pe_int) (pg_sub (pv 0) pe_str (u_set (hu_of hr))))
       (pss_cons (ps_if (PW.pt (pw_and (pt_val (pe_ix (k_ix (K := K) rfl (hu_of hr)) (pv 0) pe_str (fun _ _ => rfl))) (pw_and (pt_cmpR op_lt (pe_ix (k_ix (K := K) rfl (hu_of hr)) (pv 0) pe_str (fun _ _ => rfl)) pe_int (nomark _)) (pw_and1 (pt_cmpR (k_notIn (K := K) rfl (hu_of hr)) (pe_ix (k_ix (K := K) rfl (hu_of hr)) (pv 0) pe_str (fun _ _ => rfl)) (pe_tup (pa_cons pe_int (pa_cons (pe_un un_neg pe_int) pa_nil))) (by rfl))))))
        (pss_cons (ps_set (i := 2) sc_law_from.nd rfl (by first | exact Or.inl rfl | exact Or.inr rfl) (pe_op (k_mod (K := K) rfl) (pe_ix (k_ix (K := K) rfl (hu_of hr)) (pv 0) pe_str (fun _ _ => rfl)) (pv 1)))
       (pss_cons (ps_asg (pe_op (k_div (K := K) rfl) (pe_ix (k_ix (K := K) rfl (hu_of hr)) (pv 0) pe_str (fun _ _ => rfl)) (pv 1)) (pg_sub (pv 0) pe_str (u_set (hu_of hr))))
       (pss_one (ps_ret (pv 2)))))
        pss_nil)
       (pss_one (ps_ret (pe_op (k_mod (K := K) rfl) (pe_op (k_div (K := K) rfl) (pe_call (ok_law_mixed T) hr (by rfl) T.g_law_mixed T.f_law_mixed.kp T.b_law_mixed .nil pass0 (pa_cons (pe_ix (k_ix (K := K) rfl (hu_of hr)) (pv 0) pe_str (fun _ _ => rfl)) (pa_cons (pe_op (k_add (K := K) rfl) (pe_ix (k_ix (K := K) rfl (hu_of hr)) (pv 0) pe_str (fun _ _ => rfl)) (pe_ix (k_ix (K := K) rfl (hu_of hr)) (pv 0) pe_str (fun _ _ => rfl))) pa_nil))) pe_int) (pv 1)))))), ?_⟩
    try dsimp only [cxOf]
    obtain ⟨⟨hm, hm2, hn⟩, hs, q⟩ := h
    obtain ⟨c, rs, pl, mn, ow, b, hs⟩ := ha_open hs
    walk_at "run"
    apply Sl.r_late hs
    · intro tail
      refine Sl.r_ite (fun hf => ?_) (fun hf => ?_)
      · walk_at "run"
        refine Sl.r_iteD (fun h0 => ?_) (fun h0 => ?_)
        · walk_at "run"
          refine Sl.r_ite (fun hz => ?_) (fun hz => ?_)
          · walk_at "run"
            exact q _ _ (Int.emod_nonneg _ (by omega)) (Int.emod_lt_of_pos _ hm) (ha_close (n := n + 1) (c := c) (r := rs / m) (pl := pl) (mn := mn + 1) (ow := ow) ⟨b.1, b.2.1, by omega, by omega⟩ (Hd.mt (by walk_at "mt") hs))
          · exact tail _ (Hd.mt (by walk_at "mt") hs)
        · walk_at "st"
          exact tail _ hs
      · walk_at "st"
        exact tail _ hs
    · clear hs
      intro H hs
      walk_at "run"
      refine ⟨c, _, rfl, ⟨by omega, by omega⟩, fun s1 h1 => ?_⟩
      walk_at "run"
      exact q _ _ (Int.emod_nonneg _ (by omega)) (Int.emod_lt_of_pos _ hm) (ha_close (n := n + 1) ⟨b.1, b.2.1, by omega, by omega⟩ hs)
end
section
variable {P : Program} {w : World} {K : PySem.W.Frag} {mg : Str → Option Value} {base : Heap}

/-- the law's own turns -/
def ownA (m : Addr) (u : TU) (ws : List Int) (last : Int) : SA := fun H => ∃ (R D W : Addr) (ls : List Addr), Hd [pto m (.dK (owK (.ref R) (.ref D) (.ref W) (runV u.runs) (.int u.rest) (.int u.steps) (.int last))), pto R (.lst (ls.map V.ref)), rowsA ls (rowsV u.q), pto D (.dK (dI u.dep)), pto W (.lst (ws.map V.int))] H
theorem ow_open {m : Addr} {u : TU} {ws : List Int} {last : Int} {L : List SA} {H : Hp} (h : Hd (ownA m u ws last :: L) H) : ∃ (R D W : Addr) (ls : List Addr), Hd (pto m (.dK (owK (.ref R) (.ref D) (.ref W) (runV u.runs) (.int u.rest) (.int u.steps) (.int last))) :: pto R (.lst (ls.map V.ref)) :: rowsA ls (rowsV u.q) :: pto D (.dK (dI u.dep)) :: pto W (.lst (ws.map V.int)) :: L) H := by
  obtain ⟨H1, H2, c, s1, s2, ⟨R, D, W, ls, p⟩, q⟩ := h
  exact ⟨R, D, W, ls, Hd.open (M := [_, _, _, _, _]) ⟨H1, H2, c, s1, s2, p, q⟩⟩
theorem ow_close {m R D W : Addr} {ls : List Addr} {u : TU} {ws : List Int} {last : Int} {L : List SA} {H : Hp} (h : Hd (pto m (.dK (owK (.ref R) (.ref D) (.ref W) (runV u.runs) (.int u.rest) (.int u.steps) (.int last))) :: pto R (.lst (ls.map V.ref)) :: rowsA ls (rowsV u.q) :: pto D (.dK (dI u.dep)) :: pto W (.lst (ws.map V.int)) :: L) H) : Hd (ownA m u ws last :: L) H :=
  (Hd.close (M := [_, _, _, _, _]) h).imp fun _ z => ⟨R, D, W, ls, z⟩
theorem ow_last {x0 x1 x2 x3 x4 x5 y : V} : putK (ow0 x0 x1 x2 x3 x4 x5) (.inr "last") y = owK x0 x1 x2 x3 x4 x5 y := by kernel_rfl
theorem rows4 {a b c d : Addr} {L : List SA} {H : Hp} (h : Hd (pto a (.lst []) :: pto b (.lst []) :: pto c (.lst []) :: pto d (.lst []) :: L) H) : Hd (rowsA [a, b, c, d] (rowsV TU.new.q) :: L) H := by
  have h : Hd (pto d (.lst []) :: pto c (.lst []) :: pto b (.lst []) :: pto a (.lst []) :: L) H := Hd.mt (.cons (.there (.there (.there .here))) (.cons (.there (.there .here)) (.cons (.there .here) (.cons .here .refl)))) h
  have h1 : Hd (rowsA [d] [[]] :: pto c (.lst []) :: pto b (.lst []) :: pto a (.lst []) :: L) H := rows_cons (h.mono fun _ z => rows_nil z)
  have h2 : Hd (rowsA [c, d] [[], []] :: pto b (.lst []) :: pto a (.lst []) :: L) H := rows_cons h1.swap
  have h3 : Hd (rowsA [b, c, d] [[], [], []] :: pto a (.lst []) :: L) H := rows_cons h2.swap
  exact rows_cons h3.swap

def sp_law_new_turns (T : Txt K mg) : Sp := fun vs H Q _ => ∃ (L : List SA), vs = [] ∧ Hd L H ∧ ∀ m R D W ls H', Hd (pto m (.dK (ow0 (.ref R) (.ref D) (.ref W) .non (.int 0) (.int 0))) :: pto R (.lst (ls.map V.ref)) :: rowsA ls (rowsV TU.new.q) :: pto D (.dK []) :: pto W (.lst []) :: L) H' → Q (.ref m) H'
theorem ok_law_new_turns (T : Txt K mg) : FnOk P w K mg base CX0 1 T.a_law_new_turns T.d_law_new_turns [] (sp_law_new_turns T) := by
  refine T.f_law_new_turns.ok sc_law_new_turns (fun vs H Q E h => ?_) (fun cdv A outer s H vs Q E hr h => ?_)
  · obtain ⟨L, rfl, _⟩ := h
    rfl
  · obtain ⟨L, rfl, h⟩ := h
    refine ⟨_, (pss_one (ps_ret (pe_disp (pps_cons pe_str (pe_lst (pa_cons (pe_lst pa_nil) (pa_cons (pe_lst pa_nil) (pa_cons (pe_lst pa_nil) (pa_cons (pe_lst pa_nil) pa_nil))))) (pps_cons pe_str pe_dnewK (pps_cons pe_str (pe_lst pa_nil) (pps_cons pe_str pe_non (pps_cons pe_str pe_int (pps_cons pe_str pe_int pps_nil)))))) (by rfl) (by rfl) (fun z => by cases z) (by decide)))), ?_⟩
    try dsimp only [cxOf]
    obtain ⟨hs, q⟩ := h
    walk_at "run"
    rename_i m _ a _ b _ c _ d _ R _ D _ _
    have hs := rows4 (Hd.mt (by walk_at "mt") hs : Hd (pto a (.lst []) :: pto b (.lst []) :: pto c (.lst []) :: pto d (.lst []) :: pto m (.dK (ow0 (.ref R) (.ref D) (.ref q_) .non (.int 0) (.int 0))) :: pto R (.lst [.ref a, .ref b, .ref c, .ref d]) :: pto D (.dK []) :: pto q_ (.lst []) :: L) H)
    exact q m R D q_ [a, b, c, d] _ (Hd.mt (by walk_at "mt") hs : Hd (pto m (.dK (ow0 (.ref R) (.ref D) (.ref q_) .non (.int 0) (.int 0))) :: pto R (.lst [.ref a, .ref b, .ref c, .ref d]) :: rowsA [a, b, c, d] (rowsV TU.new.q) :: pto D (.dK []) :: pto q_ (.lst []) :: L) H)
end
section
variable {P : Program} {w : World} {K : PySem.W.Frag} {mg : Str → Option Value} {base : Heap}

theorem rows_new {ls : List Addr} {qq : List (List Int)} {L : List SA} {H : Hp} {p : Addr} {r : List Int} {l : Nat} (h : Hd (pto p (.lst (r.map V.int)) :: rowsA ls (rowsV qq) :: L) H) : Hd (rowsA (ls.set l p) (rowsV (qq.set l r)) :: L) H := by
  have z := rows_repl (i := l) h
  have e : (rowsV qq).set l (r.map V.int) = rowsV (qq.set l r) := by simp [rowsV, List.map_set]
  rw [e] at z
  exact z

def sp_law_stood (T : Txt K mg) : Sp := fun vs H Q _ => ∃ (m : Addr) (n : Int) (l : Nat) (u : TU) (ws : List Int) (last : Int) (L : List SA), vs = [.ref m, .int n, .int (l : Int)] ∧ (l < 4 ∧ u.q.length = 4 ∧ u.q.flatten.length ≤ 1000 ∧ u.dep.length ≤ 1000) ∧ Hd (ownA m u ws last :: L) H ∧ ∀ H', Hd (ownA m (u.stand n l) ws last :: L) H' → Q .non H'
theorem ok_law_stood (T : Txt K mg) : FnOk P w K mg base CX0 1 T.a_law_stood T.d_law_stood ["_law_own", "_law_number", "_law_level"] (sp_law_stood T) := by
  refine T.f_law_stood.ok sc_law_stood (fun vs H Q E h => ?_) (fun cdv A outer s H vs Q E hr h => ?_)
  · obtain ⟨m, n, l, u, ws, last, L, rfl, _⟩ := h
    rfl
  · obtain ⟨m, n, l, u, ws, last, L, rfl, h⟩ := h
    refine ⟨_, (pss_cons (ps_asg (pv 2) (pg_sub (pe_ix (k_ix (K := K) rfl (hu_of hr)) (pv 0) pe_str (fun _ _ => rfl)) (pv 1) (u_set (hu_of hr))))
       (pss_one (ps_asg (pe_op (k_add (K := K) rfl) (pe_ix (k_ix (K := K) rfl (hu_of hr)) (pe_ix (k_ix (K := K) rfl (hu_of hr)) (pv 0) pe_str (fun _ _ => rfl)) (pv 2) (fun _ _ => rfl)) (pe_lst (pa_cons (pv 1) pa_nil))) (pg_sub (pe_ix (k_ix (K := K) rfl (hu_of hr)) (pv 0) pe_str (fun _ _ => rfl)) (pv 2) (u_set (hu_of hr)))))), ?_⟩
    try dsimp only [cxOf]
    obtain ⟨⟨hl, h4, hf, hd⟩, hs, q⟩ := h
    obtain ⟨R, D, W, ls, hs⟩ := ow_open hs
    obtain ⟨r, hr⟩ : ∃ r, u.q[l]? = some r := ⟨u.q[l]'(by omega), by simp [h4, hl]⟩
    have hrl := len_row hr
    have hlq := rows_count hs (by walk_at "pull")
    walk_at "run"
    refine Sl.r_setDi hs (by walk_at "put") (putK_dI _ _ _) (szlt (by rw [len_dI]; omega)) fun H hs => ?_
    walk_at "run"
    obtain ⟨a, ha, -⟩ := rows_in hs (by walk_at "pull") hr
    refine Sl.r_ixL (by walk_at "sq") (atI_ref ha) ?_
    walk_at "run"
    obtain ⟨a2, ha2, hA⟩ := rows_in hs (by walk_at "pull") hr
    rw [ha] at ha2
    cases ha2
    refine Sl.r_addL hs hA (by walk_at "get") (sz (by simp only [List.length_map, List.length_cons, List.length_nil]; omega)) fun p2 H hs => ?_
    rw [mI_snoc] at hs
    walk_at "run"
    refine Sl.r_setL (n := l) hs (by walk_at "put") (by rw [List.length_map]; omega) fun H hs => ?_
    rw [← List.map_set] at hs
    have hs := rows_new (l := l) (Hd.mt (by walk_at "mt") hs : Hd (pto p2 (.lst ((r ++ [n]).map V.int)) :: rowsA ls (rowsV u.q) :: _) _)
    walk_at "run"
    refine q _ (ow_close (R := R) (D := D) (W := W) (ls := ls.set l p2) (u := u.stand n l) ?_)
    unfold TU.stand
    rw [row_at hr]
    exact Hd.mt (by walk_at "mt") hs
def sp_law_out (T : Txt K mg) : Sp := fun vs H Q _ => ∃ (m : Addr) (n : Int) (l : Nat) (r : List Int) (u : TU) (ws : List Int) (last : Int) (L : List SA), vs = [.ref m, .int n] ∧ (getI u.dep n = some (l : Int) ∧ u.q[l]? = some r ∧ r.Nodup ∧ u.q.length = 4 ∧ u.q.flatten.length ≤ 1000 ∧ u.dep.length ≤ 1000) ∧ Hd (ownA m u ws last :: L) H ∧ ∀ H', Hd (ownA m { u with q := u.q.set l (r.erase n) } ws last :: L) H' → Q .non H'
theorem ok_law_out (T : Txt K mg) : FnOk P w K mg base CX0 1 T.a_law_out T.d_law_out ["_law_own", "_law_number"] (sp_law_out T) := by
  refine T.f_law_out.ok sc_law_out (fun vs H Q E h => ?_) (fun cdv A outer s H vs Q E hr h => ?_)
  · obtain ⟨m, n, l, r, u, ws, last, L, rfl, _⟩ := h
    rfl
  · obtain ⟨m, n, l, r, u, ws, last, L, rfl, h⟩ := h
    refine ⟨_, (pss_cons (ps_set (i := 2) sc_law_out.nd rfl (by first | exact Or.inl rfl | exact Or.inr rfl) (pe_ix (k_ix (K := K) rfl (hu_of hr)) (pe_ix (k_ix (K := K) rfl (hu_of hr)) (pv 0) pe_str (fun _ _ => rfl)) (pv 1) (fun _ _ => rfl)))
       (pss_one (ps_asg (pe_lc (own := [("_law_one", 3)]) rfl sc_law_out.nd (pi_list (pe_ix (k_ix (K := K) rfl (hu_of hr)) (pe_ix (k_ix (K := K) rfl (hu_of hr)) (pv 0) pe_str (fun _ _ => rfl)) (pv 2) (fun _ _ => rfl))) (blkOk_by (N := ["_law_own", "_law_number", "_law_level", "_law_one"]) (sc := defScope s_law_out) (by decide +kernel)) (fun _ _ _ _ _ => (pg_name (i := 3) sc_law_out.nd rfl (by first | exact Or.inl rfl | exact Or.inr rfl))) (fun _ _ _ _ _ => (pts_one (pt_cmpR (k_ne (K := K) rfl hr.units) (pv 3) (pv 1) (nomark _)))) (fun _ _ _ _ _ => (pv 3))) (pg_sub (pe_ix (k_ix (K := K) rfl (hu_of hr)) (pv 0) pe_str (fun _ _ => rfl)) (pv 2) (u_set (hu_of hr)))))), ?_⟩
    try dsimp only [cxOf]
    obtain ⟨⟨hg, hr, hn, h4, hf, hd⟩, hs, q⟩ := h
    obtain ⟨R, D, W, ls, hs⟩ := ow_open hs
    have hrl := len_row hr
    have hlq := rows_count hs (by walk_at "pull")
    have hl4 : l < 4 := by rw [← h4]; exact (List.getElem?_eq_some_iff.mp hr).1
    walk_at "run"
    refine Sl.r_ixDi (by walk_at "get") (by rw [valV_dI, hg]; rfl) ?_
    walk_at "run"
    obtain ⟨a, ha, hA⟩ := rows_in hs (by walk_at "pull") hr
    refine Sl.r_ixL (by walk_at "sq") (atI_ref ha) ?_
    refine Sl.r_listK (SqL.of hA) ?_
    refine Sl.r_lcI r (fun x => !decide (x = n)) V.int hs (by omega) (fun H hs => SqL.of (rows_get hs (by walk_at "pull") ha (by simp [rowsV, hr]))) (fun E acc x H N M hx hs hN hM => ?_) (fun E H hs => ?_)
    · walk_at "run"
      refine Sl.r_ite (fun e => ?_) hM
      walk_at "run"
      exact hN e
    rw [← erase_filter hn] at hs
    walk_at "run"
    refine Sl.r_setL (n := l) hs (by walk_at "put") (by rw [List.length_map]; omega) fun H hs => ?_
    rw [← List.map_set] at hs
    have hs := rows_new (l := l) (Hd.mt (by walk_at "mt") hs : Hd (pto E (.lst ((r.erase n).map V.int)) :: rowsA ls (rowsV u.q) :: _) _)
    walk_at "run"
    exact q _ (ow_close (R := R) (D := D) (W := W) (ls := ls.set l E) (u := { u with q := u.q.set l (r.erase n) }) (Hd.mt (by walk_at "mt") hs))
end
section
variable {P : Program} {w : World} {K : PySem.W.Frag} {mg : Str → Option Value} {base : Heap}
def sp_law_next (T : Txt K mg) : Sp := fun vs H Q _ => ∃ (m : Addr)  (u : TU) (ws : List Int) (last : Int) (L : List SA), vs = [.ref m] ∧ (u.Ok ∧ (u.runs = none → u.rest = 0) ∧ u.q.flatten.length ≤ 1000) ∧ Hd (ownA m u ws last :: L) H ∧ ∀ H', Hd (ownA m u.next ws last :: L) H' → Q (runV u.next.runs) H'
theorem ok_law_next (T : Txt K mg) : FnOk P w K mg base CX0 1 T.a_law_next T.d_law_next ["_law_own"] (sp_law_next T) := by
  refine T.f_law_next.ok sc_law_next (fun vs H Q E h => ?_) (fun cdv A outer s H vs Q E hr h => ?_)
  · obtain ⟨m, u, ws, last, L, rfl, _⟩ := h
    rfl
  · obtain ⟨m, u, ws, last, L, rfl, h⟩ := h
    refine ⟨_, (pss_cons (ps_set (i := 1) sc_law_next.nd rfl (by first | exact Or.inl rfl | exact Or.inr rfl) (pe_callB (k_sumL (K := K) rfl rfl) (by rfl) T.n_sum (by decide +kernel) (pa_cons (pe_ix (k_ix (K := K) rfl (hu_of hr)) (pv 0) pe_str (fun _ _ => rfl)) (pa_cons (pe_lst pa_nil) pa_nil))))
       (pss_cons (ps_if (PW.pt (pw_and (pt_cmpR u_isN (pe_ix (k_ix (K := K) rfl (hu_of hr)) (pv 0) pe_str (fun _ _ => rfl)) pe_non (nomark _)) (pw_and1 (pt_cmpR (k_ne (K := K) rfl hr.units) (pv 1) (pe_lst pa_nil) (nomark _)))))
        (pss_cons (ps_asg (pe_ix (k_ix (K := K) rfl (hu_of hr)) (pv 1) pe_int (fun _ _ => rfl)) (pg_sub (pv 0) pe_str (u_set (hu_of hr))))
       (pss_one (ps_asg (pe_ix (k_ix (K := K) rfl (hu_of hr)) (pe_lst (pa_cons pe_int (pa_cons pe_int (pa_cons pe_int (pa_cons pe_int pa_nil))))) (pe_ix (k_ix (K := K) rfl (hu_of hr)) (pe_ix (k_ix (K := K) rfl (hu_of hr)) (pv 0) pe_str (fun _ _ => rfl)) (pe_ix (k_ix (K := K) rfl (hu_of hr)) (pv 1) pe_int (fun _ _ => rfl)) (fun _ _ => rfl)) (fun _ _ => rfl)) (pg_sub (pv 0) pe_str (u_set (hu_of hr))))))
        pss_nil)
       (pss_one (ps_ret (pe_ix (k_ix (K := K) rfl (hu_of hr)) (pv 0) pe_str (fun _ _ => rfl)))))), ?_⟩
    try dsimp only [cxOf]
    obtain ⟨⟨ok, hz, hf⟩, hs, q⟩ := h
    obtain ⟨R, D, W, ls, hs⟩ := ow_open hs
    walk_at "run"
    refine Sl.r_sumL hs (.inl (hs.sq (by walk_at "pull"))) (by walk_at "pull") (by walk_at "pull") (fun e => by have h4 := ok.four; rw [e] at h4; cases h4) (by omega) fun so H hs => ?_
    walk_at "run"
    cases hru : u.runs with
    | some n =>
      have e : u.next = u := by unfold TU.next; rw [hru]
      rw [e] at q
      refine Sl.r_iteD (fun z => nomatch z) (fun _ => ?_)
      walk_at "run"
      exact q H (ow_close (R := R) (D := D) (W := W) (ls := ls) (Hd.mt (by walk_at "mt") hs))
    | none =>
      refine Sl.r_iteD (fun _ => ?_) (fun z => (z rfl).elim)
      walk_at "run"
      refine Sl.r_neNil (hs.sq (by walk_at "pull")) (hs.sq (by walk_at "pull")) ?_
      walk_at "run"
      cases hfl : u.q.flatten with
      | nil =>
        have e : u.next = u := by
          unfold TU.next
          rw [hru]
          dsimp only
          rw [hfl]
          show ({ q := u.q, dep := u.dep, runs := none, rest := 0, steps := u.steps } : TU) = u
          rw [← hz hru, ← hru]
        rw [e] at q
        dsimp only [List.isEmpty_nil]
        walk_at "run"
        exact q _ (ow_close (R := R) (D := D) (W := W) (ls := ls) (Hd.mt (by walk_at "mt") hs))
      | cons n t =>
        have e : u.next = { u with runs := some n, rest := sliceOf (u.lev n) } := by
          unfold TU.next
          rw [hru]
          dsimp only
          rw [hfl]
          rfl
        rw [e] at q
        dsimp only [List.isEmpty_cons]
        obtain ⟨l, r, hg, hrow, hm, hl4⟩ := lev_of ok (show n ∈ u.q.flatten by rw [hfl]; exact List.mem_cons_self)
        rw [lev_at hg] at q
        rw [hfl, hru] at hs
        walk_at "run"
        refine Sl.r_ixL (by walk_at "sq") (atI_nat (v := V.int n) (j := 0) (by rfl)) ?_
        walk_at "run"
        refine Sl.r_ixL (by walk_at "sq") (atI_nat (v := V.int n) (j := 0) (by rfl)) ?_
        refine Sl.r_ixDi (by walk_at "get") (by rw [valV_dI, hg]; rfl) ?_
        refine Sl.r_ixL (by walk_at "sq") (sl_at hl4) ?_
        walk_at "run"
        exact q _ (ow_close (R := R) (D := D) (W := W) (ls := ls) (u := { u with runs := some n, rest := sliceOf l }) (by dsimp only [runV]; exact Hd.mt (by walk_at "mt") hs))
end
section
variable {P : Program} {w : World} {K : PySem.W.Frag} {mg : Str → Option Value} {base : Heap}

theorem w_p : ¬ (("went" : Str) = "passes") := by decide +kernel
theorem w_w : ¬ (("went" : Str) = "waits") := by decide +kernel
theorem w_e : ¬ (("went" : Str) = "ends") := by decide +kernel
theorem p_w : ¬ (("passes" : Str) = "went") := by decide +kernel
theorem p_a : ¬ (("passes" : Str) = "waits") := by decide +kernel
theorem p_e : ¬ (("passes" : Str) = "ends") := by decide +kernel
theorem a_w : ¬ (("waits" : Str) = "went") := by decide +kernel
theorem a_p : ¬ (("waits" : Str) = "passes") := by decide +kernel
theorem e_w : ¬ (("ends" : Str) = "went") := by decide +kernel
theorem e_p : ¬ (("ends" : Str) = "passes") := by decide +kernel
theorem e_a : ¬ (("ends" : Str) = "waits") := by decide +kernel
theorem hE_went (u : TU) (n : Int) : howE "went" u n = u.wentN n := if_pos rfl
theorem hE_pass (u : TU) (n : Int) : howE "passes" u n = u.passN n := (if_neg p_w).trans (if_pos rfl)
theorem hE_wait (u : TU) (n : Int) : howE "waits" u n = u.waitN n := (if_neg a_w).trans ((if_neg a_p).trans (if_pos rfl))
theorem hE_ends (u : TU) (n : Int) : howE "ends" u n = u.endN n := (if_neg e_w).trans ((if_neg e_p).trans (if_neg e_a))
theorem hW_went (ws : List Int) (n : Int) : howW "went" ws n = ws := if_neg w_w
theorem hW_pass (ws : List Int) (n : Int) : howW "passes" ws n = ws := if_neg p_a
theorem hW_wait (ws : List Int) (n : Int) : howW "waits" ws n = ws ++ [n] := if_pos rfl
theorem hW_ends (ws : List Int) (n : Int) : howW "ends" ws n = ws := if_neg e_a
def HowOk (s : Str) : Prop := s = "went" ∨ s = "passes" ∨ s = "waits" ∨ s = "ends"

def sp_law_stepped (T : Txt K mg) : Sp := fun vs H Q _ => ∃ (m : Addr) (n : Int) (s : Str) (u : TU) (ws : List Int) (last : Int) (L : List SA), vs = [.ref m, .str s] ∧ (u.Ok ∧ u.runs = some n ∧ HowOk s ∧ ws.length ≤ 500 ∧ u.q.flatten.length ≤ 500 ∧ u.dep.length ≤ 500 ∧ (howE s u n).q.length = 4 ∧ (howE s u n).q.flatten.length ≤ 1000 ∧ (howE s u n).dep.length ≤ 1000) ∧ Hd (ownA m u ws last :: L) H ∧ ∀ H', Hd (ownA m (howE s u n).counted (howW s ws n) last :: L) H' → Q .non H'
theorem ok_law_stepped (T : Txt K mg) : FnOk P w K mg base CX0 2 T.a_law_stepped T.d_law_stepped ["_law_own", "_law_how"] (sp_law_stepped T) := by
  refine T.f_law_stepped.ok sc_law_stepped (fun vs H Q E h => ?_) (fun cdv A outer s H vs Q E hr h => ?_)
  · obtain ⟨m, n, s, u, ws, last, L, rfl, _⟩ := h
    rfl
  · obtain ⟨m, n, s, u, ws, last, L, rfl, h⟩ := h
    refine ⟨_, (pss_cons (ps_set (i := 2) sc_law_stepped.nd rfl (by first | exact Or.inl rfl | exact Or.inr rfl) (pe_ix (k_ix (K := K) rfl (hu_of hr)) (pv 0) pe_str (fun _ _ => rfl)))
       (pss_cons (ps_asg (pe_op (k_sub (K := K) rfl) (pe_ix (k_ix (K := K) rfl (hu_of hr)) (pv 0) pe_str (fun _ _ => rfl)) pe_int) (pg_sub (pv 0) pe_str (u_set (hu_of hr))))
       (pss_cons (ps_if (PW.pt (pw_or (pt_cmpR (k_ne (K := K) rfl hr.units) (pv 1) pe_str (nomark _)) (pw_or1 (pt_cmpR (k_eq (K := K) rfl hr.units) (pe_ix (k_ix (K := K) rfl (hu_of hr)) (pv 0) pe_str (fun _ _ => rfl)) pe_int (nomark _)))))
        (pss_cons (ps_expr (pe_call (ok_law_out T) hr (by rfl) T.g_law_out T.f_law_out.kp T.b_law_out .nil pass0 (pa_cons (pv 0) (pa_cons (pv 2) pa_nil))))
       (pss_cons (ps_asg (pe_tup (pa_cons pe_non (pa_cons pe_int pa_nil))) (k_gTup (K := K) (n := 2) rfl (pg_tup (n := 2) (by rfl) (pgs_cons (pg_sub (pv 0) pe_str (u_set (hu_of hr))) (pgs_cons (pg_sub (pv 0) pe_str (u_set (hu_of hr))) pgs_nil)))))
       (pss_one (ps_if (pt_cmpR (k_eq (K := K) rfl hr.units) (pv 1) pe_str (nomark _))
        (pss_one (ps_expr (k_bm (K := K) rfl (pe_bm PySem.F.plainAttrs_list PySem.F.slot_list_append PySem.F.type_list_append mt_append (pe_ix (k_ix (K := K) rfl (hu_of hr)) (pv 0) pe_str (fun _ _ => rfl)) (pa_cons (pv 2) pa_nil)))))
        (pss_one (ps_if (pt_cmpR (k_eq (K := K) rfl hr.units) (pv 1) pe_str (nomark _))
        (pss_one (ps_expr (pe_dpop1 (pe_ix (k_ix (K := K) rfl (hu_of hr)) (pv 0) pe_str (fun _ _ => rfl)) (pv 2) ⟨by rfl, by rfl, by rfl, by rfl⟩)))
        (pss_one (ps_expr (pe_call (ok_law_stood T) hr (by rfl) T.g_law_stood T.f_law_stood.kp T.b_law_stood .nil pass0 (pa_cons (pv 0) (pa_cons (pv 2) (pa_cons (pe_callB (u_min2 rfl) (by rfl) T.n_min (by decide +kernel) (pa_cons pe_int (pa_cons (pe_op (k_add (K := K) rfl) (pe_ix (k_ix (K := K) rfl (hu_of hr)) (pe_ix (k_ix (K := K) rfl (hu_of hr)) (pv 0) pe_str (fun _ _ => rfl)) (pv 2) (fun _ _ => rfl)) (pe_callTy u_int1 (by rfl) T.n_int (by decide +kernel) (pa_cons (pe_cmpR (k_eq (K := K) rfl hr.units) (pv 1) pe_str (nomark _)) pa_nil))) pa_nil))) pa_nil))))))))))))
        pss_nil)
       (pss_cons (ps_asg (pe_op (k_add (K := K) rfl) (pe_ix (k_ix (K := K) rfl (hu_of hr)) (pv 0) pe_str (fun _ _ => rfl)) pe_int) (pg_sub (pv 0) pe_str (u_set (hu_of hr))))
       (pss_one (ps_if (pt_cmpR (k_eq (K := K) rfl hr.units) (pe_op (k_mod (K := K) rfl) (pe_ix (k_ix (K := K) rfl (hu_of hr)) (pv 0) pe_str (fun _ _ => rfl)) pe_int) pe_int (nomark _))
        (pss_cons (ps_asg (pe_lst (pa_cons (pe_callB (k_sumL (K := K) rfl rfl) (by rfl) T.n_sum (by decide +kernel) (pa_cons (pe_ix (k_ix (K := K) rfl (hu_of hr)) (pv 0) pe_str (fun _ _ => rfl)) (pa_cons (pe_lst pa_nil) pa_nil))) (pa_cons (pe_lst pa_nil) (pa_cons (pe_lst pa_nil) (pa_cons (pe_lst pa_nil) pa_nil))))) (pg_sub (pv 0) pe_str (u_set (hu_of hr))))
       (pss_cons (ps_asg (pe_callTy (k_dictP (K := K) rfl rfl) (by rfl) T.n_dict (by decide +kernel) (pa_cons (pe_lock (pe_lc (own := [("_law_one", 3)]) rfl sc_law_stepped.nd (pi_keys (pe_ix (k_ix (K := K) rfl (hu_of hr)) (pv 0) pe_str (fun _ _ => rfl))) (blkOk_by (N := ["_law_own", "_law_how", "_law_number", "_law_one"]) (sc := defScope s_law_stepped) (by decide +kernel)) (fun _ _ _ _ _ => (pg_name (i := 3) sc_law_stepped.nd rfl (by first | exact Or.inl rfl | exact Or.inr rfl))) (fun _ _ _ _ _ => pts_nil) (fun _ _ _ _ _ => (pe_tup (pa_cons (pv 3) (pa_cons pe_int pa_nil)))))) pa_nil)) (pg_sub (pv 0) pe_str (u_set (hu_of hr))))
       (pss_one (ps_asg (pe_tup (pa_cons pe_non (pa_cons pe_int pa_nil))) (k_gTup (K := K) (n := 2) rfl (pg_tup (n := 2) (by rfl) (pgs_cons (pg_sub (pv 0) pe_str (u_set (hu_of hr))) (pgs_cons (pg_sub (pv 0) pe_str (u_set (hu_of hr))) pgs_nil))))))))
        pss_nil)))))), ?_⟩
    try dsimp only [cxOf]
    obtain ⟨⟨ok, hru, hss, hwl, hf, hd, h4v, hfv, hdv⟩, hs, q⟩ := h
    obtain ⟨l, r, hg, hrow, hm, hl4⟩ := lev_of ok (ok.run n hru).1
    have lo := len_over hrow hm
    have four2 : (u.over n l).q.length = 4 := four_over.trans ok.four
    have eo : u.q.set l (r.erase n) = (u.over n l).q := by
      show _ = u.q.set l ((u.row l).erase n)
      rw [row_at hrow]
    obtain ⟨R, D, W, ls, hs⟩ := ow_open hs
    rw [hru] at hs
    dsimp only [runV] at hs
    walk_at "run"
    apply Sl.r_join (P := fun H => Hd (ownA m (howE s u n) (howW s ws n) last :: L) H)
    · intro mid
      rcases hss with es | es | es | es
      · have eE : howE s u n = u.wentN n := by rw [es, hE_went]
        have eW : howW s ws n = ws := by rw [es, hW_went]
        unfold TU.wentN at eE
        rw [lev_at hg] at eE
        rw [eE, eW] at mid
        refine Sl.r_iteN (fun z => (z es).elim) (fun _ => ?_)
        walk_at "run"
        refine Sl.r_iteD (fun z => ?_) (fun z => ?_)
        · rw [if_pos z] at mid
          walk_at "run"
          refine ⟨m, n, l, r, { u with rest := u.rest - 1 }, ws, last, _, rfl, ⟨hg, hrow, row_nd ok hrow, ok.four, by dsimp only; omega, by dsimp only; omega⟩, Hd.mt (by walk_at "mt") (ow_close (R := R) (D := D) (W := W) (ls := ls) (u := { u with rest := u.rest - 1 }) (by rw [hru]; dsimp only [runV]; exact Hd.mt (by walk_at "mt") hs)), fun H hs => ?_⟩
          dsimp only at hs
          rw [eo] at hs
          obtain ⟨R, D, W, ls, hs⟩ := ow_open hs
          dsimp only at hs
          walk_at "run"
          refine Sl.r_iteD (fun z => (w_w (es.symm.trans z)).elim) (fun _ => ?_)
          walk_at "run"
          refine Sl.r_iteD (fun z => (w_e (es.symm.trans z)).elim) (fun _ => ?_)
          walk_at "run"
          refine Sl.r_ixDi (by walk_at "get") (by rw [valV_dI, hg]; rfl) ?_
          walk_at "run"
          refine ⟨m, n, min 3 (l + 1), u.over n l, ws, last, _, congrArg (fun z : Int => [V.ref m, V.int n, V.int z]) ?_, ⟨by omega, four2, by omega, by show u.dep.length ≤ _; omega⟩, Hd.mt (by walk_at "mt") (ow_close (R := R) (D := D) (W := W) (ls := ls) (u := u.over n l) (Hd.mt (by walk_at "mt") hs : Hd (pto m (.dK (owK (.ref R) (.ref D) (.ref W) .non (.int 0) (.int u.steps) (.int last))) :: pto R (.lst (ls.map V.ref)) :: rowsA ls (rowsV (u.over n l).q) :: pto D (.dK (dI u.dep)) :: pto W (.lst (ws.map V.int)) :: L) _)), fun H hs => ?_⟩
          · rw [if_pos (decide_eq_true es)]
            split <;> omega
          walk_at "st"
          exact mid _ (Hd.mt (by walk_at "mt") hs)
        · rw [if_neg z] at mid
          walk_at "st"
          exact mid _ (ow_close (R := R) (D := D) (W := W) (ls := ls) (u := { u with rest := u.rest - 1 }) (by rw [hru]; dsimp only [runV]; exact Hd.mt (by walk_at "mt") hs))
      · have eE : howE s u n = u.passN n := by rw [es, hE_pass]
        have eW : howW s ws n = ws := by rw [es, hW_pass]
        unfold TU.passN at eE
        rw [lev_at hg] at eE
        rw [eE, eW] at mid
        refine Sl.r_iteN (fun _ => ?_) (fun z => (p_w (es.symm.trans z)).elim)
        walk_at "run"
        refine ⟨m, n, l, r, { u with rest := u.rest - 1 }, ws, last, _, rfl, ⟨hg, hrow, row_nd ok hrow, ok.four, by dsimp only; omega, by dsimp only; omega⟩, Hd.mt (by walk_at "mt") (ow_close (R := R) (D := D) (W := W) (ls := ls) (u := { u with rest := u.rest - 1 }) (by rw [hru]; dsimp only [runV]; exact Hd.mt (by walk_at "mt") hs)), fun H hs => ?_⟩
        dsimp only at hs
        rw [eo] at hs
        obtain ⟨R, D, W, ls, hs⟩ := ow_open hs
        dsimp only at hs
        walk_at "run"
        refine Sl.r_iteD (fun z => (p_a (es.symm.trans z)).elim) (fun _ => ?_)
        walk_at "run"
        refine Sl.r_iteD (fun z => (p_e (es.symm.trans z)).elim) (fun _ => ?_)
        walk_at "run"
        refine Sl.r_ixDi (by walk_at "get") (by rw [valV_dI, hg]; rfl) ?_
        walk_at "run"
        refine ⟨m, n, l, u.over n l, ws, last, _, congrArg (fun z : Int => [V.ref m, V.int n, V.int z]) ?_, ⟨hl4, four2, by omega, by show u.dep.length ≤ _; omega⟩, Hd.mt (by walk_at "mt") (ow_close (R := R) (D := D) (W := W) (ls := ls) (u := u.over n l) (Hd.mt (by walk_at "mt") hs : Hd (pto m (.dK (owK (.ref R) (.ref D) (.ref W) .non (.int 0) (.int u.steps) (.int last))) :: pto R (.lst (ls.map V.ref)) :: rowsA ls (rowsV (u.over n l).q) :: pto D (.dK (dI u.dep)) :: pto W (.lst (ws.map V.int)) :: L) _)), fun H hs => ?_⟩
        · rw [if_neg (fun z => p_w (es.symm.trans (of_decide_eq_true z)))]
          split <;> omega
        walk_at "st"
        exact mid _ (Hd.mt (by walk_at "mt") hs)
      · have eE : howE s u n = u.waitN n := by rw [es, hE_wait]
        have eW : howW s ws n = ws ++ [n] := by rw [es, hW_wait]
        unfold TU.waitN at eE
        rw [lev_at hg] at eE
        rw [eE, eW] at mid
        refine Sl.r_iteN (fun _ => ?_) (fun z => (a_w (es.symm.trans z)).elim)
        walk_at "run"
        refine ⟨m, n, l, r, { u with rest := u.rest - 1 }, ws, last, _, rfl, ⟨hg, hrow, row_nd ok hrow, ok.four, by dsimp only; omega, by dsimp only; omega⟩, Hd.mt (by walk_at "mt") (ow_close (R := R) (D := D) (W := W) (ls := ls) (u := { u with rest := u.rest - 1 }) (by rw [hru]; dsimp only [runV]; exact Hd.mt (by walk_at "mt") hs)), fun H hs => ?_⟩
        dsimp only at hs
        rw [eo] at hs
        obtain ⟨R, D, W, ls, hs⟩ := ow_open hs
        dsimp only at hs
        walk_at "run"
        refine Sl.r_iteD (fun _ => ?_) (fun z => (z es).elim)
        iterate 11 walk_at "st"
        rw [mI_snoc] at hs
        exact mid _ (ow_close (R := R) (D := D) (W := W) (ls := ls) (u := u.over n l) (Hd.mt (by walk_at "mt") hs : Hd (pto m (.dK (owK (.ref R) (.ref D) (.ref W) .non (.int 0) (.int u.steps) (.int last))) :: pto R (.lst (ls.map V.ref)) :: rowsA ls (rowsV (u.over n l).q) :: pto D (.dK (dI u.dep)) :: pto W (.lst ((ws ++ [n]).map V.int)) :: L) _))
      · have eE : howE s u n = u.endN n := by rw [es, hE_ends]
        have eW : howW s ws n = ws := by rw [es, hW_ends]
        unfold TU.endN at eE
        rw [lev_at hg] at eE
        rw [eE, eW] at mid
        refine Sl.r_iteN (fun _ => ?_) (fun z => (e_w (es.symm.trans z)).elim)
        walk_at "run"
        refine ⟨m, n, l, r, { u with rest := u.rest - 1 }, ws, last, _, rfl, ⟨hg, hrow, row_nd ok hrow, ok.four, by dsimp only; omega, by dsimp only; omega⟩, Hd.mt (by walk_at "mt") (ow_close (R := R) (D := D) (W := W) (ls := ls) (u := { u with rest := u.rest - 1 }) (by rw [hru]; dsimp only [runV]; exact Hd.mt (by walk_at "mt") hs)), fun H hs => ?_⟩
        dsimp only at hs
        rw [eo] at hs
        obtain ⟨R, D, W, ls, hs⟩ := ow_open hs
        dsimp only at hs
        walk_at "run"
        refine Sl.r_iteD (fun z => (e_a (es.symm.trans z)).elim) (fun _ => ?_)
        walk_at "run"
        refine Sl.r_iteD (fun _ => ?_) (fun z => (z es).elim)
        walk_at "run"
        refine Sl.r_dpopK hs (by walk_at "put") (by rw [valV_dI, hg]; rfl) fun H hs => ?_
        rw [dropK_dI] at hs
        walk_at "st"
        exact mid _ (ow_close (R := R) (D := D) (W := W) (ls := ls) (u := { u.over n l with dep := dropI u.dep n }) (Hd.mt (by walk_at "mt") hs : Hd (pto m (.dK (owK (.ref R) (.ref D) (.ref W) .non (.int 0) (.int u.steps) (.int last))) :: pto R (.lst (ls.map V.ref)) :: rowsA ls (rowsV (u.over n l).q) :: pto D (.dK (dI (dropI u.dep n))) :: pto W (.lst (ws.map V.int)) :: L) _))
    · clear hs
      intro H hs
      have sv : (howE s u n).steps = (howE s u n).steps := rfl
      generalize howE s u n = v at hs q h4v hfv hdv
      generalize howW s ws n = ws2 at hs q
      obtain ⟨R, D, W, ls, hs⟩ := ow_open hs
      walk_at "run"
      refine Sl.r_iteD (fun z => ?_) (fun z => ?_)
      · have ec : v.counted = v.lift := if_neg (by omega)
        rw [ec] at q
        walk_at "run"
        refine Sl.r_sumL hs (.inl (hs.sq (by walk_at "pull"))) (by walk_at "pull") (by walk_at "pull") (fun e => by rw [e] at h4v; cases h4v) (by omega) fun so H hs => ?_
        walk_at "run"
        rename_i c1 _ c2 _ c3 _ _
        obtain ⟨b2, rfl⟩ : ∃ b2, b2 = q_ := ⟨_, rfl⟩
        refine Sl.r_lock (d := D) (hs.pull (by walk_at "pull")) fun od H hs => ?_
        walk_at "run"
        refine Sl.r_lcK (fun E i H => ∃ ps : List Addr, ps.length = i ∧ Hd (pto E (.lst (ps.map V.ref)) :: pairsA ps (dI ((v.dep.map fun e => (e.1, (0 : Int))).take i)) :: pto D (.frz od (.dK (dI v.dep))) :: pto m (.dK (owK (.ref b2) (.ref D) (.ref W) (runV v.runs) (.int v.rest) (.int (v.steps + 1)) (.int last))) :: pto b2 (.lst [.ref so, .ref c1, .ref c2, .ref c3]) :: pto so (.lst (v.q.flatten.map V.int)) :: pto c1 (.lst []) :: pto c2 (.lst []) :: pto c3 (.lst []) :: pto W (.lst (ws2.map V.int)) :: L) H) hs ?_ ?_ ?_ ?_
        · intro E H hs
          refine ⟨[], rfl, ?_⟩
          show Hd (pto E (.lst []) :: pairsA [] [] :: _) _
          exact Hd.mt (by walk_at "mt") (pairs_nil hs)
        · rintro E i H hi ⟨ps, hp, hs⟩
          exact hs.get (by walk_at "pull")
        · rintro E i k x H hx ⟨ps, hp, hs⟩
          unfold dI at hx
          rw [List.getElem?_map] at hx
          obtain ⟨e, he, ee⟩ := Option.map_eq_some_iff.mp hx
          cases ee
          have hi : i < v.dep.length := (List.getElem?_eq_some_iff.mp he).1
          dsimp only [kV]
          walk_at "run"
          refine ⟨ps ++ [q_], by rw [List.length_append, hp]; rfl, ?_⟩
          simp only [List.map_append, List.map_cons, List.map_nil]
          have hs2 := pairs_snoc (k := .inl e.1) (v := .int 0) (Hd.mt (by walk_at "mt") hs : Hd (pto q_ (.tup [.int e.1, .int 0]) :: pairsA ps (dI ((v.dep.map fun e => (e.1, (0 : Int))).take i)) :: _) _)
          have e7 : dI ((v.dep.map fun e => (e.1, (0 : Int))).take i) ++ [(Sum.inl e.1, V.int 0)] = dI ((v.dep.map fun e => (e.1, (0 : Int))).take (i + 1)) := by
            rw [List.take_add_one, List.getElem?_map, he]
            simp [dI]
          rw [e7] at hs2
          exact Hd.mt (by walk_at "mt") hs2
        · rintro E H ⟨ps, hp, hs⟩
          have e5 : (v.dep.map fun e => (e.1, (0 : Int))).take (dI v.dep).length = v.dep.map fun e => (e.1, (0 : Int)) := by
            rw [len_dI]
            exact List.take_of_length_le (by rw [List.length_map]; exact Nat.le_refl _)
          rw [e5] at hs
          walk_at "run"
          refine Sl.r_dictP hs (hs.sq (by walk_at "pull")) (by walk_at "pull") fun nd H hs => ?_
          walk_at "run"
          have e6 : mergeK [] (dI (v.dep.map fun e => (e.1, (0 : Int)))) = dI (zI v.dep) := mergeK_dI _ []
          rw [e6] at hs
          have hs2 : Hd (pto c3 (.lst []) :: pto c2 (.lst []) :: pto c1 (.lst []) :: pto so (.lst (v.q.flatten.map V.int)) :: pto m (.dK (owK (.ref b2) (.ref nd) (.ref W) .non (.int 0) (.int (v.steps + 1)) (.int last))) :: pto b2 (.lst [.ref so, .ref c1, .ref c2, .ref c3]) :: pto nd (.dK (dI (zI v.dep))) :: pto W (.lst (ws2.map V.int)) :: L) H := Hd.mt (by walk_at "mt") hs
          have h1 := rows_cons (hs2.mono fun _ z => rows_nil z)
          have h2 := rows_cons h1.swap
          have h3 := rows_cons h2.swap
          have h4 := rows_cons h3.swap
          exact q _ (ow_close (u := v.lift) (ls := [so, c1, c2, c3]) (R := b2) (D := nd) (W := W) (Hd.mt (by walk_at "mt") h4 : Hd (pto m (.dK (owK (.ref b2) (.ref nd) (.ref W) .non (.int 0) (.int (v.steps + 1)) (.int last))) :: pto b2 (.lst [.ref so, .ref c1, .ref c2, .ref c3]) :: rowsA [so, c1, c2, c3] [v.q.flatten.map V.int, [], [], []] :: pto nd (.dK (dI (zI v.dep))) :: pto W (.lst (ws2.map V.int)) :: L) H))
      · have ec : v.counted = { v with steps := v.steps + 1 } := if_pos (by omega)
        rw [ec] at q
        walk_at "run"
        exact q _ (ow_close (R := R) (D := D) (W := W) (ls := ls) (u := { v with steps := v.steps + 1 }) (Hd.mt (by walk_at "mt") hs))
end
section
variable {P : Program} {w : World} {K : PySem.W.Frag} {mg : Str → Option Value} {base : Heap}
def sp_law_woken (T : Txt K mg) : Sp := fun vs H Q _ => ∃ (m : Addr) (n : Int) (l : Nat) (u : TU) (ws : List Int) (last : Int) (L : List SA), vs = [.ref m, .int n] ∧ (getI u.dep n = some (l : Int) ∧ l < 4 ∧ u.q.length = 4 ∧ u.q.flatten.length ≤ 500 ∧ u.dep.length ≤ 500 ∧ ws.length ≤ 500) ∧ Hd (ownA m u ws last :: L) H ∧ ∀ H', Hd (ownA m (u.stand n l) (ws.filter fun x => !decide (x = n)) last :: L) H' → Q .non H'
theorem ok_law_woken (T : Txt K mg) : FnOk P w K mg base CX0 2 T.a_law_woken T.d_law_woken ["_law_own", "_law_number"] (sp_law_woken T) := by
  refine T.f_law_woken.ok sc_law_woken (fun vs H Q E h => ?_) (fun cdv A outer s H vs Q E hr h => ?_)
  · obtain ⟨m, n, l, u, ws, last, L, rfl, _⟩ := h
    rfl
  · obtain ⟨m, n, l, u, ws, last, L, rfl, h⟩ := h
    refine ⟨_, (pss_cons (ps_asg (pe_lc (own := [("_law_one", 2)]) rfl sc_law_woken.nd (pi_list (pe_ix (k_ix (K := K) rfl (hu_of hr)) (pv 0) pe_str (fun _ _ => rfl))) (blkOk_by (N := ["_law_own", "_law_number", "_law_one"]) (sc := defScope s_law_woken) (by decide +kernel)) (fun _ _ _ _ _ => (pg_name (i := 2) sc_law_woken.nd rfl (by first | exact Or.inl rfl | exact Or.inr rfl))) (fun _ _ _ _ _ => (pts_one (pt_cmpR (k_ne (K := K) rfl hr.units) (pv 2) (pv 1) (nomark _)))) (fun _ _ _ _ _ => (pv 2))) (pg_sub (pv 0) pe_str (u_set (hu_of hr))))
       (pss_one (ps_expr (pe_call (ok_law_stood T) hr (by rfl) T.g_law_stood T.f_law_stood.kp T.b_law_stood .nil pass0 (pa_cons (pv 0) (pa_cons (pv 1) (pa_cons (pe_ix (k_ix (K := K) rfl (hu_of hr)) (pe_ix (k_ix (K := K) rfl (hu_of hr)) (pv 0) pe_str (fun _ _ => rfl)) (pv 1) (fun _ _ => rfl)) pa_nil))))))), ?_⟩
    try dsimp only [cxOf]
    obtain ⟨⟨hg, hl4, h4, hf, hd, hw⟩, hs, q⟩ := h
    obtain ⟨R, D, W, ls, hs⟩ := ow_open hs
    walk_at "run"
    refine Sl.r_lcI ws (fun x => !decide (x = n)) V.int hs (by omega) (fun H hs => by walk_at "sq") (fun E acc x H N M hx hs hN hM => ?_) (fun E H hs => ?_)
    · walk_at "run"
      refine Sl.r_ite (fun e => ?_) hM
      walk_at "run"
      exact hN e
    walk_at "run"
    refine Sl.r_ixDi (by walk_at "get") (by rw [valV_dI, hg]; rfl) ?_
    walk_at "run"
    refine ⟨m, n, l, u, (ws.filter fun x => !decide (x = n)), last, _, rfl, ⟨hl4, h4, by omega, by omega⟩, Hd.mt (by walk_at "mt") (ow_close (R := R) (D := D) (W := E) (ls := ls) (u := u) (Hd.mt (by walk_at "mt") hs : Hd (pto m (.dK (owK (.ref R) (.ref D) (.ref E) (runV u.runs) (.int u.rest) (.int u.steps) (.int last))) :: pto R (.lst (ls.map V.ref)) :: rowsA ls (rowsV u.q) :: pto D (.dK (dI u.dep)) :: pto E (.lst ((ws.filter fun x => !decide (x = n)).map V.int)) :: L) _)), fun H hs => ?_⟩
    walk_at "run"
    exact q _ (Hd.mt (by walk_at "mt") hs)
def sp_law_left (T : Txt K mg) : Sp := fun vs H Q _ => ∃ (m : Addr) (n : Int) (l : Nat) (r : List Int) (u : TU) (ws : List Int) (last : Int) (L : List SA), vs = [.ref m, .int n] ∧ (getI u.dep n = some (l : Int) ∧ u.q[l]? = some r ∧ r.Nodup ∧ (n ∈ r ↔ n ∉ ws) ∧ u.q.length = 4 ∧ u.q.flatten.length ≤ 500 ∧ u.dep.length ≤ 500 ∧ ws.length ≤ 500) ∧ Hd (ownA m u ws last :: L) H ∧ ∀ H', Hd (ownA m (u.leaveN n) (ws.filter fun x => !decide (x = n)) last :: L) H' → Q .non H'
theorem ok_law_left (T : Txt K mg) : FnOk P w K mg base CX0 2 T.a_law_left T.d_law_left ["_law_own", "_law_number"] (sp_law_left T) := by
  refine T.f_law_left.ok sc_law_left (fun vs H Q E h => ?_) (fun cdv A outer s H vs Q E hr h => ?_)
  · obtain ⟨m, n, l, r, u, ws, last, L, rfl, _⟩ := h
    rfl
  · obtain ⟨m, n, l, r, u, ws, last, L, rfl, h⟩ := h
    refine ⟨_, (pss_cons (ps_if (pt_cmpR (k_notIn (K := K) rfl (hu_of hr)) (pv 1) (pe_ix (k_ix (K := K) rfl (hu_of hr)) (pv 0) pe_str (fun _ _ => rfl)) (by rfl))
        (pss_one (ps_expr (pe_call (ok_law_out T) hr (by rfl) T.g_law_out T.f_law_out.kp T.b_law_out .nil pass0 (pa_cons (pv 0) (pa_cons (pv 1) pa_nil)))))
        pss_nil)
       (pss_cons (ps_if (pt_cmpR (k_eq (K := K) rfl hr.units) (pv 1) (pe_ix (k_ix (K := K) rfl (hu_of hr)) (pv 0) pe_str (fun _ _ => rfl)) (nomark _))
        (pss_one (ps_asg (pe_tup (pa_cons pe_non (pa_cons pe_int pa_nil))) (k_gTup (K := K) (n := 2) rfl (pg_tup (n := 2) (by rfl) (pgs_cons (pg_sub (pv 0) pe_str (u_set (hu_of hr))) (pgs_cons (pg_sub (pv 0) pe_str (u_set (hu_of hr))) pgs_nil))))))
        pss_nil)
       (pss_cons (ps_asg (pe_lc (own := [("_law_one", 2)]) rfl sc_law_left.nd (pi_list (pe_ix (k_ix (K := K) rfl (hu_of hr)) (pv 0) pe_str (fun _ _ => rfl))) (blkOk_by (N := ["_law_own", "_law_number", "_law_one"]) (sc := defScope s_law_left) (by decide +kernel)) (fun _ _ _ _ _ => (pg_name (i := 2) sc_law_left.nd rfl (by first | exact Or.inl rfl | exact Or.inr rfl))) (fun _ _ _ _ _ => (pts_one (pt_cmpR (k_ne (K := K) rfl hr.units) (pv 2) (pv 1) (nomark _)))) (fun _ _ _ _ _ => (pv 2))) (pg_sub (pv 0) pe_str (u_set (hu_of hr))))
       (pss_one (ps_expr (pe_dpop1 (pe_ix (k_ix (K := K) rfl (hu_of hr)) (pv 0) pe_str (fun _ _ => rfl)) (pv 1) ⟨by rfl, by rfl, by rfl, by rfl⟩)))))), ?_⟩
    try dsimp only [cxOf]
    obtain ⟨⟨hg, hr, hnd, hiff, h4, hf, hd, hw⟩, hs, q⟩ := h
    have el : u.leaveN n = { q := if n ∈ r then u.q.set l (r.erase n) else u.q, dep := dropI u.dep n, runs := if u.runs = some n then none else u.runs, rest := if u.runs = some n then 0 else u.rest, steps := u.steps } := by
      unfold TU.leaveN
      rw [lev_at hg, row_at hr]
    rw [el] at q
    obtain ⟨R, D, W, ls, hs⟩ := ow_open hs
    walk_at "run"
    rw [inV_ints]
    apply Sl.r_join (P := fun H => Hd (ownA m { u with q := if n ∈ r then u.q.set l (r.erase n) else u.q } ws last :: L) H)
    · intro mid
      refine Sl.r_iteN (fun hm => ?_) (fun hm => ?_)
      · walk_at "run"
        refine ⟨m, n, l, r, u, ws, last, _, rfl, ⟨hg, hr, hnd, h4, by omega, by omega⟩, Hd.mt (by walk_at "mt") (ow_close (R := R) (D := D) (W := W) (ls := ls) (u := u) hs), fun H hs => ?_⟩
        walk_at "st"
        exact mid _ (by rw [if_pos (hiff.mpr hm)]; exact Hd.mt (by walk_at "mt") hs)
      · walk_at "st"
        exact mid _ (by rw [if_neg (fun z => hiff.mp z hm)]; exact ow_close (R := R) (D := D) (W := W) (ls := ls) (u := u) hs)
    · clear hs
      intro H hs
      obtain ⟨R, D, W, ls, hs⟩ := ow_open hs
      dsimp only at hs
      walk_at "run"
      apply Sl.r_join (P := fun H => Hd (ownA m { q := if n ∈ r then u.q.set l (r.erase n) else u.q, dep := u.dep, runs := if u.runs = some n then none else u.runs, rest := if u.runs = some n then 0 else u.rest, steps := u.steps } ws last :: L) H)
      · intro mid
        cases hru : u.runs with
        | none =>
          dsimp only [runV]
          refine Sl.r_eqV (by rfl) ?_
          walk_at "run"
          refine Sl.r_iteD (fun z => nomatch z) (fun _ => ?_)
          walk_at "st"
          rw [hru] at hs
          have h1 : ¬ (none : Option Int) = some n := fun z => nomatch z
          exact mid _ (by rw [hru, if_neg h1, if_neg h1]; exact ow_close (R := R) (D := D) (W := W) (ls := ls) (u := { q := if n ∈ r then u.q.set l (r.erase n) else u.q, dep := u.dep, runs := none, rest := u.rest, steps := u.steps }) hs)
        | some x =>
          dsimp only [runV]
          rw [hru] at hs
          refine Sl.r_eqV (by rfl) ?_
          walk_at "run"
          refine Sl.r_iteD (fun z => ?_) (fun z => ?_)
          · have e : n = x := V.int.inj z
            subst e
            dsimp only [runV] at hs
            iterate 20 walk_at "st"
            exact mid _ (by rw [hru, if_pos rfl, if_pos rfl]; exact ow_close (R := R) (D := D) (W := W) (ls := ls) (u := { q := if n ∈ r then u.q.set l (r.erase n) else u.q, dep := u.dep, runs := none, rest := 0, steps := u.steps }) (by dsimp only [runV]; exact Hd.mt (by walk_at "mt") hs))
          · have ne : ¬ some x = some n := fun e => z (by rw [Option.some.inj e])
            walk_at "st"
            exact mid _ (by rw [hru, if_neg ne, if_neg ne]; exact ow_close (R := R) (D := D) (W := W) (ls := ls) (u := { q := if n ∈ r then u.q.set l (r.erase n) else u.q, dep := u.dep, runs := some x, rest := u.rest, steps := u.steps }) hs)
      · clear hs
        intro H hs
        obtain ⟨R, D, W, ls, hs⟩ := ow_open hs
        dsimp only at hs
        walk_at "run"
        refine Sl.r_lcI ws (fun x => !decide (x = n)) V.int hs (by omega) (fun H hs => by walk_at "sq") (fun E acc x H N M hx hs hN hM => ?_) (fun E H hs => ?_)
        · walk_at "run"
          refine Sl.r_ite (fun e => ?_) hM
          walk_at "run"
          exact hN e
        walk_at "run"
        refine Sl.r_dpopK hs (by walk_at "put") (by rw [valV_dI, hg]; rfl) fun H hs => ?_
        rw [dropK_dI] at hs
        walk_at "run"
        exact q _ (ow_close (R := R) (D := D) (W := E) (ls := ls) (u := { q := if n ∈ r then u.q.set l (r.erase n) else u.q, dep := dropI u.dep n, runs := if u.runs = some n then none else u.runs, rest := if u.runs = some n then 0 else u.rest, steps := u.steps }) (Hd.mt (by walk_at "mt") hs))
end
section
variable {P : Program} {w : World} {K : PySem.W.Frag} {mg : Str → Option Value} {base : Heap}

def reprRun : Option Int → Str
  | none => "None"
  | some n => Str.ofString (toString n)
theorem r_reprRun {K : PySem.W.Frag} {H : Hp} {Q : VK} {r : Option Int} (h : ∀ n, r = some n → n.natAbs < 10 ^ 12) (q : Q (.str (reprRun r)) H) : rRepr K [runV r] H Q := by
  cases r with
  | none => exact r_reprN q
  | some n => exact r_reprI (h n rfl) q
theorem getI_at : ∀ {d : List (Int × Int)} {i : Nat} {e : Int × Int}, (keysI d).Nodup → d[i]? = some e → getI d e.1 = some e.2
  | [], _, _, _, h => nomatch h
  | a :: d, 0, e, _, h => by
    cases h
    rw [getI_cons, if_pos rfl]
  | a :: d, i + 1, e, nd, h => by
    have nd2 := List.nodup_cons.mp (show (a.1 :: keysI d).Nodup from nd)
    rw [getI_cons, if_neg (fun z => nd2.1 (by rw [z]; exact List.mem_map_of_mem (List.mem_of_getElem? (show d[i]? = some e from h))))]
    exact getI_at nd2.2 h
theorem r_ixDf {K : PySem.W.Frag} {i : Int} {a : Addr} {H : Hp} {Q : VK} {v : V} {o : Obj} {kvs : List (Key × V)} (h : H a = some (.frz o (.dK kvs))) (hi : valV kvs (.inl i) = some v) (q : Q v H) : rIxU K (.ref a) (.int i) H Q := .inr ⟨a, v, rfl, .inl ⟨kvs, .inl i, .inr ⟨o, h⟩, rfl, hi.symm⟩, q⟩

def sp_law_step_done (T : Txt K mg) : Sp := fun vs H Q _ => ∃ (p : Addr) (n : Int) (s : Str) (u : TU) (L : List SA), vs = [.ref p, .str s] ∧ (u.Ok ∧ u.runs = some n ∧ HowOk s ∧ u.q.flatten.length ≤ 500 ∧ u.dep.length ≤ 500) ∧ Hd (turnsA T.C_Turns p u :: L) H ∧ ∀ H', Hd (turnsA T.C_Turns p (howE s u n).counted :: L) H' → Q .non H'
theorem ok_law_step_done (T : Txt K mg) : FnOk P w K mg base CX0 4 T.a_law_step_done T.d_law_step_done ["_law_turns", "_law_how"] (sp_law_step_done T) := by
  refine T.f_law_step_done.ok sc_law_step_done (fun vs H Q E h => ?_) (fun cdv A outer s H vs Q E hr h => ?_)
  · obtain ⟨p, n, s, u, L, rfl, _⟩ := h
    rfl
  · obtain ⟨p, n, s, u, L, rfl, h⟩ := h
    refine ⟨_, (pss_cons (ps_if (pt_cmpR (k_eq (K := K) rfl hr.units) (pv 1) pe_str (nomark _))
        (pss_one (ps_ret (pe_meth0 (pv 0) T.cl_Turns T.m_Turns_went (ok_Turns_went T) hr T.b_Turns_went .nil pass0)))
        pss_nil)
       (pss_cons (ps_if (pt_cmpR (k_eq (K := K) rfl hr.units) (pv 1) pe_str (nomark _))
        (pss_one (ps_ret (pe_meth0 (pv 0) T.cl_Turns T.m_Turns_passes (ok_Turns_passes T) hr T.b_Turns_passes .nil pass0)))
        pss_nil)
       (pss_one (ps_ret (pe_ifExp (pt_cmpR (k_eq (K := K) rfl hr.units) (pv 1) pe_str (nomark _)) (pe_meth0 (pv 0) T.cl_Turns T.m_Turns_waits (ok_Turns_waits T) hr T.b_Turns_waits .nil pass0) (pe_meth0 (pv 0) T.cl_Turns T.m_Turns_ends (ok_Turns_ends T) hr T.b_Turns_ends .nil pass0)))))), ?_⟩
    try dsimp only [cxOf]
    obtain ⟨⟨ok, hru, hss, hf, hd⟩, hs, q⟩ := h
    obtain ⟨l, r, hg, hrow, hm, hl4⟩ := lev_of ok (ok.run n hru).1
    have args : u.runs = some n ∧ getI u.dep n = some (l : Int) ∧ u.q[l]? = some r ∧ n ∈ r ∧ l < 4 ∧ u.q.length = 4 ∧ u.q.flatten.length ≤ 500 ∧ u.dep.length ≤ 500 := ⟨hru, hg, hrow, hm, hl4, ok.four, hf, hd⟩
    walk_at "run"
    rcases hss with rfl | rfl | rfl | rfl
    · refine Sl.r_iteD (fun _ => ?_) (fun z => (z rfl).elim)
      walk_at "run"
      refine ⟨p, n, l, r, u, _, rfl, args, Hd.mt (by walk_at "mt") hs, fun H hs => ?_⟩
      walk_at "run"
      rw [hE_went] at q
      exact q _ hs
    · refine Sl.r_iteD (fun z => (p_w z).elim) (fun _ => ?_)
      walk_at "run"
      refine Sl.r_iteD (fun _ => ?_) (fun z => (z rfl).elim)
      walk_at "run"
      refine ⟨p, n, l, r, u, _, rfl, args, Hd.mt (by walk_at "mt") hs, fun H hs => ?_⟩
      walk_at "run"
      rw [hE_pass] at q
      exact q _ hs
    · refine Sl.r_iteD (fun z => (a_w z).elim) (fun _ => ?_)
      walk_at "run"
      refine Sl.r_iteD (fun z => (a_p z).elim) (fun _ => ?_)
      walk_at "run"
      refine Sl.r_iteD (fun _ => ?_) (fun z => (z rfl).elim)
      walk_at "run"
      refine ⟨p, n, l, r, u, _, rfl, args, Hd.mt (by walk_at "mt") hs, fun H hs => ?_⟩
      walk_at "run"
      rw [hE_wait] at q
      exact q _ hs
    · refine Sl.r_iteD (fun z => (e_w z).elim) (fun _ => ?_)
      walk_at "run"
      refine Sl.r_iteD (fun z => (e_p z).elim) (fun _ => ?_)
      walk_at "run"
      refine Sl.r_iteD (fun z => (e_a z).elim) (fun _ => ?_)
      walk_at "run"
      refine ⟨p, n, l, r, u, _, rfl, args, Hd.mt (by walk_at "mt") hs, fun H hs => ?_⟩
      walk_at "run"
      rw [hE_ends] at q
      exact q _ hs
end
section
variable {P : Program} {w : World} {K : PySem.W.Frag} {mg : Str → Option Value} {base : Heap}
def sp_law_deed (T : Txt K mg) : Sp := fun vs H Q _ => ∃ (p m d : Addr) (u : TU) (ws : List Int) (last : Int) (c : Nat) (L : List SA), vs = [.ref p, .ref m, .ref d] ∧ (W31 u ws last ∧ last ≤ 200 ∧ c ≤ 1000) ∧ Hd (turnsA T.C_Turns p u :: ownA m u ws last :: handA d c :: L) H ∧ ∀ u' ws' last' H', W31 u' ws' last' → last' ≤ last + 1 → Hd (turnsA T.C_Turns p u' :: ownA m u' ws' last' :: handA d (c + 2) :: L) H' → Q (.bl true) H'
theorem ok_law_deed (T : Txt K mg) : FnOk P w K mg base CX0 3 T.a_law_deed T.d_law_deed ["_law_turns", "_law_own", "_law_hand_here"] (sp_law_deed T) := by
  refine T.f_law_deed.ok sc_law_deed (fun vs H Q E h => ?_) (fun cdv A outer s H vs Q E hr h => ?_)
  · obtain ⟨p, m, d, u, ws, last, c, L, rfl, _⟩ := h
    rfl
  · obtain ⟨p, m, d, u, ws, last, c, L, rfl, h⟩ := h
    refine ⟨_, (pss_cons (ps_set (i := 3) sc_law_deed.nd rfl (by first | exact Or.inl rfl | exact Or.inr rfl) (pe_call (ok_law_from T) hr (by rfl) T.g_law_from T.f_law_from.kp T.b_law_from .nil pass0 (pa_cons (pv 2) (pa_cons pe_int pa_nil))))
       (pss_cons (ps_if (PW.pt (pw_and (pt_cmpR op_lt (pv 3) pe_int (nomark _)) (pw_and1 (pt_cmpR op_lt (pe_callB (k_len (K := K) rfl) (by rfl) T.n_len (by decide +kernel) (pa_cons (pe_ix (k_ix (K := K) rfl (hu_of hr)) (pv 1) pe_str (fun _ _ => rfl)) pa_nil)) pe_int (nomark _)))))
        (pss_cons (ps_set (i := 4) sc_law_deed.nd rfl (by first | exact Or.inl rfl | exact Or.inr rfl) (pe_op (k_add (K := K) rfl) (pe_ix (k_ix (K := K) rfl (hu_of hr)) (pv 1) pe_str (fun _ _ => rfl)) pe_int))
       (pss_cons (ps_asg (pv 4) (pg_sub (pv 1) pe_str (u_set (hu_of hr))))
       (pss_cons (ps_expr (pe_call (ok_law_stood T) (hr.mono (by decide)) (by rfl) T.g_law_stood T.f_law_stood.kp T.b_law_stood .nil pass0 (pa_cons (pv 1) (pa_cons (pv 4) (pa_cons pe_int pa_nil)))))
       (pss_one (ps_ret (pe_cmpR u_isN (pe_meth (pv 0) T.cl_Turns T.m_Turns_add (ok_Turns_add T) hr T.b_Turns_add .nil pass0 (pa_cons (pv 4) pa_nil)) pe_non (nomark _)))))))
        pss_nil)
       (pss_cons (ps_if (PW.pt (pw_and (pt_cmpR op_lt (pv 3) pe_int (nomark _)) (pw_and1 (pt_cmpR (k_ne (K := K) rfl hr.units) (pe_ix (k_ix (K := K) rfl (hu_of hr)) (pv 1) pe_str (fun _ _ => rfl)) (pe_lst pa_nil) (nomark _)))))
        (pss_cons (ps_set (i := 4) sc_law_deed.nd rfl (by first | exact Or.inl rfl | exact Or.inr rfl) (pe_ix (k_ix (K := K) rfl (hu_of hr)) (pe_ix (k_ix (K := K) rfl (hu_of hr)) (pv 1) pe_str (fun _ _ => rfl)) (pe_call (ok_law_from T) hr (by rfl) T.g_law_from T.f_law_from.kp T.b_law_from .nil pass0 (pa_cons (pv 2) (pa_cons (pe_callB (k_len (K := K) rfl) (by rfl) T.n_len (by decide +kernel) (pa_cons (pe_ix (k_ix (K := K) rfl (hu_of hr)) (pv 1) pe_str (fun _ _ => rfl)) pa_nil)) pa_nil))) (fun _ _ => rfl)))
       (pss_cons (ps_expr (pe_call (ok_law_woken T) hr (by rfl) T.g_law_woken T.f_law_woken.kp T.b_law_woken .nil pass0 (pa_cons (pv 1) (pa_cons (pv 4) pa_nil))))
       (pss_one (ps_ret (pe_cmpR u_isN (pe_meth (pv 0) T.cl_Turns T.m_Turns_wakes (ok_Turns_wakes T) hr T.b_Turns_wakes .nil pass0 (pa_cons (pv 4) pa_nil)) pe_non (nomark _))))))
        pss_nil)
       (pss_cons (ps_set (i := 5) sc_law_deed.nd rfl (by first | exact Or.inl rfl | exact Or.inr rfl) (pe_callTy (L2.call_list_dK rfl) (by rfl) T.n_list (by decide +kernel) (pa_cons (pe_ix (k_ix (K := K) rfl (hu_of hr)) (pv 1) pe_str (fun _ _ => rfl)) pa_nil)))
       (pss_cons (ps_if (PW.pt (pw_and (pt_cmpR (k_eq (K := K) rfl hr.units) (pv 3) pe_int (nomark _)) (pw_and1 (pt_cmpR (k_ne (K := K) rfl hr.units) (pv 5) (pe_lst pa_nil) (nomark _)))))
        (pss_cons (ps_set (i := 4) sc_law_deed.nd rfl (by first | exact Or.inl rfl | exact Or.inr rfl) (pe_ix (k_ix (K := K) rfl (hu_of hr)) (pv 5) (pe_call (ok_law_from T) hr (by rfl) T.g_law_from T.f_law_from.kp T.b_law_from .nil pass0 (pa_cons (pv 2) (pa_cons (pe_callB (k_len (K := K) rfl) (by rfl) T.n_len (by decide +kernel) (pa_cons (pv 5) pa_nil)) pa_nil))) (fun _ _ => rfl)))
       (pss_cons (ps_expr (pe_call (ok_law_left T) hr (by rfl) T.g_law_left T.f_law_left.kp T.b_law_left .nil pass0 (pa_cons (pv 1) (pa_cons (pv 4) pa_nil))))
       (pss_one (ps_ret (pe_cmpR u_isN (pe_meth (pv 0) T.cl_Turns T.m_Turns_leaves (ok_Turns_leaves T) hr T.b_Turns_leaves .nil pass0 (pa_cons (pv 4) pa_nil)) pe_non (nomark _))))))
        pss_nil)
       (pss_one (ps_ret pe_bl))))))), ?_⟩
    try dsimp only [cxOf]
    obtain ⟨⟨W, hlast, hc⟩, hs, q⟩ := h
    have few := W.few
    have dp := W.dp
    have four := W.ok.four
    walk_at "run"
    refine ⟨d, 8, c, _, rfl, ⟨by decide, by decide, by omega⟩, Hd.mt (by walk_at "mt") hs, fun way H x1 x2 hs => ?_⟩
    walk_at "run"
    have hs : Hd (turnsA T.C_Turns p u :: ownA m u ws last :: handA d (c + 1) :: L) H := Hd.mt (by walk_at "mt") hs
    apply Sl.r_join (P := fun H => Hd (turnsA T.C_Turns p u :: ownA m u ws last :: handA d (c + 1) :: L) H)
    · intro two
      refine Sl.r_iteD (fun h3 => ?_) (fun h3 => ?_)
      · obtain ⟨R, D, W0, ls, hs⟩ := ow_open (hs.pull (by walk_at "pull"))
        walk_at "run"
        refine Sl.r_iteD (fun h16 => ?_) (fun h16 => ?_)
        · walk_at "run"
          refine ⟨m, last + 1, 0, u, ws, last + 1, _, rfl, ⟨by decide, four, by omega, by omega⟩, Hd.mt (by walk_at "mt") (ow_close (R := R) (D := D) (W := W0) (ls := ls) (u := u) (last := last + 1) hs), fun H hs => ?_⟩
          walk_at "run"
          refine ⟨p, last + 1, u, _, rfl, ⟨four, by omega, by omega⟩, Hd.mt (by walk_at "mt") hs, fun H hs => ?_⟩
          walk_at "run"
          refine q _ _ _ _ W.add (by omega) ?_
          have hs : Hd (turnsA T.C_Turns p (u.stand (last + 1) 0) :: ownA m (u.stand (last + 1) 0) ws (last + 1) :: handA d (c + 1) :: L) H := Hd.mt (by walk_at "mt") hs
          exact hs.mono fun _ z => z.mono fun _ z => ha_more (by omega) z
        · have hs : Hd (ownA m u ws last :: turnsA T.C_Turns p u :: handA d (c + 1) :: L) H := ow_close (R := R) (D := D) (W := W0) (ls := ls) (u := u) hs
          walk_at "st"
          exact two _ (Hd.mt (by walk_at "mt") hs)
      · walk_at "st"
        exact two _ hs
    clear hs
    intro H hs
    obtain ⟨R, D, W0, ls, hs⟩ := ow_open (hs.pull (by walk_at "pull"))
    walk_at "run"
    apply Sl.r_join (P := fun H => Hd (ownA m u ws last :: turnsA T.C_Turns p u :: handA d (c + 1) :: L) H)
    · intro three
      refine Sl.r_iteD (fun h3 => ?_) (fun h3 => ?_)
      · walk_at "run"
        refine Sl.r_neNil (hs.sq (a := W0) (by walk_at "pull")) (hs.sq (by walk_at "pull")) ?_
        walk_at "run"
        refine Sl.r_iteB (fun hne => ?_) (fun hne => ?_)
        · have hwl : 0 < ws.length := by
            cases ws with
            | nil => cases hne
            | cons _ _ => exact Nat.succ_pos _
          walk_at "run"
          rw [List.length_map]
          refine ⟨d, (ws.length : Int), c + 1, _, rfl, ⟨by omega, by omega, by omega⟩, Hd.mt (by walk_at "mt") hs, fun y H y1 y2 hs => ?_⟩
          obtain ⟨k, rfl⟩ : ∃ k : Nat, y = (k : Int) := ⟨y.toNat, by omega⟩
          have hk : k < ws.length := by omega
          have mk : ws[k] ∈ ws := List.getElem_mem hk
          obtain ⟨l, hl4, hg⟩ := W.at_ (List.mem_append_right u.q.flatten mk)
          refine Sl.r_ixL (hs.sq (a := W0) (by walk_at "pull")) (atI_nat (v := .int ws[k]) (by simp [hk])) ?_
          walk_at "run"
          have W2 := W.wake mk hg
          generalize ws[k] = n at hg W2 mk ⊢
          have hs := ow_close (R := R) (D := D) (W := W0) (ls := ls) (u := u) (ws := ws) (last := last) (Hd.mt (by walk_at "mt") hs)
          refine ⟨m, n, l, u, ws, last, _, rfl, ⟨hg, hl4, four, by omega, by omega, by omega⟩, hs, fun H hs => ?_⟩
          walk_at "run"
          refine ⟨p, n, l, u, _, rfl, ⟨hg, hl4, four, by omega, by omega⟩, Hd.mt (by walk_at "mt") hs, fun H hs => ?_⟩
          walk_at "run"
          exact q _ _ _ _ W2 (by omega) (Hd.mt (by walk_at "mt") hs)
        · walk_at "st"
          exact three _ (ow_close (R := R) (D := D) (W := W0) (ls := ls) (u := u) (Hd.mt (by walk_at "mt") hs))
      · walk_at "st"
        exact three _ (ow_close (R := R) (D := D) (W := W0) (ls := ls) (u := u) (Hd.mt (by walk_at "mt") hs))
    clear hs
    intro H hs
    obtain ⟨R, D, W0, ls, hs⟩ := ow_open hs
    walk_at "run"
    refine ⟨D, dI u.dep, rfl, hs.get (by walk_at "pull"), fun so nso => ?_⟩
    have hs := hs.new (a := so) (o := .lst ((keysI u.dep).map V.int)) nso
    rw [show (dI u.dep).map (fun kv => kV kv.1) = (keysI u.dep).map V.int by rw [dI, keysI, List.map_map, List.map_map]; rfl]
    have lk : (keysI u.dep).length = u.dep.length := List.length_map _
    generalize upd H so (.lst ((keysI u.dep).map V.int)) = H at hs ⊢
    have close : ∀ H, Hd (pto so (.lst ((keysI u.dep).map V.int)) :: pto m (.dK (owK (.ref R) (.ref D) (.ref W0) (runV u.runs) (.int u.rest) (.int u.steps) (.int last))) :: pto R (.lst (ls.map V.ref)) :: rowsA ls (rowsV u.q) :: pto D (.dK (dI u.dep)) :: pto W0 (.lst (ws.map V.int)) :: turnsA T.C_Turns p u :: handA d (c + 1) :: L) H → Hd (ownA m u ws last :: turnsA T.C_Turns p u :: handA d (c + 1) :: L) H := fun H hs => ow_close (R := R) (D := D) (W := W0) (ls := ls) (u := u) hs.tl
    walk_at "run"
    refine Sl.r_iteD (fun h7 => ?_) (fun h7 => ?_)
    · walk_at "run"
      refine Sl.r_neNil (hs.sq (a := so) (by walk_at "pull")) (hs.sq (by walk_at "pull")) ?_
      walk_at "run"
      refine Sl.r_iteB (fun hne => ?_) (fun hne => ?_)
      · have hwl : 0 < (keysI u.dep).length := by
          cases hk : keysI u.dep with
          | nil => rw [hk] at hne; cases hne
          | cons _ _ => exact Nat.succ_pos _
        walk_at "run"
        rw [List.length_map]
        refine ⟨d, ((keysI u.dep).length : Int), c + 1, _, rfl, ⟨by omega, by omega, by omega⟩, Hd.mt (by walk_at "mt") hs, fun y H y1 y2 hs => ?_⟩
        obtain ⟨k, rfl⟩ : ∃ k : Nat, y = (k : Int) := ⟨y.toNat, by omega⟩
        have hk : k < (keysI u.dep).length := by omega
        have mk : (keysI u.dep)[k] ∈ keysI u.dep := List.getElem_mem hk
        refine Sl.r_ixL (hs.sq (a := so) (by walk_at "pull")) (atI_nat (v := .int (keysI u.dep)[k]) (by simp [hk])) ?_
        walk_at "run"
        generalize (keysI u.dep)[k] = n at mk ⊢
        obtain ⟨l, hl4, hg⟩ := W.at_ (W.kp.subset mk)
        obtain ⟨r, hrow⟩ : ∃ r, u.q[l]? = some r := ⟨u.q[l]'(by omega), by simp [four, hl4]⟩
        have hs := ow_close (R := R) (D := D) (W := W0) (ls := ls) (u := u) (ws := ws) (last := last) (Hd.mt (by walk_at "mt") hs)
        refine ⟨m, n, l, r, u, ws, last, _, rfl, ⟨hg, hrow, row_nd W.ok hrow, out_row W hg hrow, four, by omega, by omega, by omega⟩, hs, fun H hs => ?_⟩
        walk_at "run"
        refine ⟨p, n, l, r, u, _, rfl, ⟨hg, hrow⟩, Hd.mt (by walk_at "mt") hs, fun H hs => ?_⟩
        walk_at "run"
        exact q _ _ _ _ (W.leave hg hrow) (by omega) (Hd.mt (by walk_at "mt") hs)
      · walk_at "run"
        have hs := close _ (Hd.mt (by walk_at "mt") hs)
        refine q _ _ _ _ W (by omega) ?_
        have hs : Hd (turnsA T.C_Turns p u :: ownA m u ws last :: handA d (c + 1) :: L) _ := Hd.mt (by walk_at "mt") hs
        exact hs.mono fun _ z => z.mono fun _ z => ha_more (by omega) z
    · walk_at "run"
      have hs := close _ (Hd.mt (by walk_at "mt") hs)
      refine q _ _ _ _ W (by omega) ?_
      have hs : Hd (turnsA T.C_Turns p u :: ownA m u ws last :: handA d (c + 1) :: L) _ := Hd.mt (by walk_at "mt") hs
      exact hs.mono fun _ z => z.mono fun _ z => ha_more (by omega) z
end
section
variable {P : Program} {w : World} {K : PySem.W.Frag} {mg : Str → Option Value} {base : Heap}

def fil (n : Int) (q : List (List Int)) : List (List Int) := q.map fun r => r.filter fun x => !decide (x = n)
theorem fil_set {q : List (List Int)} {l : Nat} {r r2 : List Int} {n : Int} (h : q[l]? = some r) (e : (r2.filter fun x => !decide (x = n)) = r.filter fun x => !decide (x = n)) : fil n (q.set l r2) = fil n q := by
  unfold fil
  rw [List.map_set, e]
  apply List.ext_getElem?
  intro k
  by_cases z : k = l
  · subst z
    rw [List.getElem?_set_self (by rw [List.length_map]; exact (List.getElem?_eq_some_iff.mp h).1), List.getElem?_map, h]
    rfl
  · rw [List.getElem?_set_ne (Ne.symm z)]
theorem fil_erase (r : List Int) (n : Int) (h : r.Nodup) : ((r.erase n).filter fun x => !decide (x = n)) = r.filter fun x => !decide (x = n) := by
  rw [erase_filter h, List.filter_filter]
  congr 1
  funext x
  simp
theorem fil_over {u : TU} {l : Nat} {r : List Int} {n : Int} (o : u.Ok) (h : u.q[l]? = some r) : fil n (u.over n l).q = fil n u.q := by
  show fil n (u.q.set l ((u.row l).erase n)) = _
  rw [row_at h]
  exact fil_set h (fil_erase r n (row_nd o h))
theorem fil_stand {u : TU} {l : Nat} {n : Int} (hl : l < u.q.length) : fil n (u.stand n l).q = fil n u.q := by
  have h : u.q[l]? = some u.q[l] := by simp [hl]
  show fil n (u.q.set l (u.row l ++ [n])) = _
  rw [row_at h]
  refine fil_set h ?_
  rw [List.filter_append]
  simp
theorem fil_how {u : TU} {n : Int} (o : u.Ok) (hr : u.runs = some n) {s : Str} (hs : HowOk s) : fil n (howE s u n).q = fil n u.q := by
  obtain ⟨l, r, hg, hrow, hm, hl⟩ := lev_of o (o.run n hr).1
  have ov := fil_over (n := n) o hrow
  have four : (u.over n l).q.length = 4 := four_over.trans o.four
  rcases hs with rfl | rfl | rfl | rfl
  · rw [hE_went]
    unfold TU.wentN
    rw [lev_at hg]
    split
    · rw [fil_stand (by rw [four]; omega), ov]
    · rfl
  · rw [hE_pass]
    unfold TU.passN
    rw [lev_at hg, fil_stand (by rw [four]; omega), ov]
  · rw [hE_wait]
    unfold TU.waitN
    rw [lev_at hg, ov]
  · rw [hE_ends]
    unfold TU.endN
    rw [lev_at hg]
    exact ov
theorem fil_flat (n : Int) (q : List (List Int)) : (fil n q).flatten = q.flatten.filter fun x => !decide (x = n) := by
  unfold fil
  rw [List.filter_flatten]

def sp_law_without (T : Txt K mg) : Sp := fun vs H Q _ => ∃ (p : Addr) (n : Int) (u : TU) (L : List SA), vs = [.ref p, .int n] ∧ (u.q.length = 4 ∧ u.q.flatten.length ≤ 1000) ∧ Hd (turnsA T.C_Turns p u :: L) H ∧ ∀ f ks H', Hd (pto f (.lst (ks.map V.ref)) :: rowsA ks (rowsV (fil n u.q)) :: turnsA T.C_Turns p u :: L) H' → Q (.ref f) H'
theorem ok_law_without (T : Txt K mg) : FnOk P w K mg base CX0 2 T.a_law_without T.d_law_without ["_law_turns", "_law_number"] (sp_law_without T) := by
  refine T.f_law_without.ok sc_law_without (fun vs H Q E h => ?_) (fun cdv A outer s H vs Q E hr h => ?_)
  · obtain ⟨p, n, u, L, rfl, _⟩ := h
    rfl
  · obtain ⟨p, n, u, L, rfl, h⟩ := h
    refine ⟨_, (pss_cons (ps_set (i := 2) sc_law_without.nd rfl (by first | exact Or.inl rfl | exact Or.inr rfl) (pe_lst pa_nil))
       (pss_cons (ps_for PassesOwn.never rfl (pi_tup (pe_meth0 (pv 0) T.cl_Turns T.m_Turns_told (ok_Turns_told T) hr T.b_Turns_told .nil pass0)) (pg_name (i := 3) sc_law_without.nd rfl (by first | exact Or.inl rfl | exact Or.inr rfl))
        (pss_one (ps_expr (k_bm (K := K) rfl (pe_bm PySem.F.plainAttrs_list PySem.F.slot_list_append PySem.F.type_list_append mt_append (pv 2) (pa_cons (pe_lc (own := [("_law_one", 4)]) rfl sc_law_without.nd (pi_list (pv 3)) (blkOk_by (N := ["_law_turns", "_law_number", "_law_found", "_law_row", "_law_one"]) (sc := defScope s_law_without) (by decide +kernel)) (fun _ _ _ _ _ => (pg_name (i := 4) sc_law_without.nd rfl (by first | exact Or.inl rfl | exact Or.inr rfl))) (fun _ _ _ _ _ => (pts_one (pt_cmpR (k_ne (K := K) rfl hr.units) (pv 4) (pv 1) (nomark _)))) (fun _ _ _ _ _ => (pv 4))) pa_nil))))))
       (pss_one (ps_ret (pv 2))))), ?_⟩
    try dsimp only [cxOf]
    obtain ⟨⟨four, hf⟩, hs, q⟩ := h
    walk_at "run"
    obtain ⟨f, rfl⟩ : ∃ f, f = q_ := ⟨_, rfl⟩
    refine ⟨p, u, _, rfl, by omega, Hd.mt (by walk_at "mt") hs, fun t ls H hs => ?_⟩
    have ll := rows_count (ls := ls) hs (by walk_at "pull")
    walk_at "run"
    refine Sl.r_forT (ls.map V.ref) (fun i σ H => ∃ (v3 : Option V) (ks : List Addr), σ = [some (.ref p), some (.int n), some (.ref f), v3, none] ∧ ks.length = i ∧ Hd (pto f (.lst (ks.map V.ref)) :: rowsA ks (rowsV (fil n (u.q.take i))) :: pto t (.tup (ls.map V.ref)) :: rowsA ls (rowsV u.q) :: turnsA T.C_Turns p u :: L) H) ?_ ?_ ?_ ?_
    · refine ⟨none, [], rfl, rfl, ?_⟩
      show Hd (pto f (.lst []) :: rowsA [] [] :: _) _
      exact Hd.mt (by walk_at "mt") (rows_nil hs)
    · rintro i σ H hi ⟨v3, ks, rfl, hk, hs⟩
      exact hs.st (a := t) (by walk_at "pull")
    · rintro i x σ H hx ⟨v3, ks, rfl, hk, hs⟩
      rw [List.getElem?_map] at hx
      obtain ⟨a, ha, rfl⟩ := Option.map_eq_some_iff.mp hx
      have hi : i < u.q.length := by
        rw [← ll]
        exact (List.getElem?_eq_some_iff.mp ha).1
      obtain ⟨r, hr⟩ : ∃ r, u.q[i]? = some r := ⟨u.q[i], by simp [hi]⟩
      have hrl := len_row hr
      have gt : ∀ {H : Hp} {L0 L1 : List SA}, Hd L0 H → Pull (rowsA ls (rowsV u.q)) L0 L1 → SqL K H a (r.map V.int) := fun h p => SqL.of (rows_get h p ha (by simp [rowsV, hr]))
      walk_at "run"
      refine Sl.r_listK (gt hs (by walk_at "pull")) ?_
      refine Sl.r_lcI r (fun x => !decide (x = n)) V.int hs (by omega) (fun H hs => gt hs (by walk_at "pull")) (fun E acc x H N M hx hs hN hM => ?_) (fun E H hs => ?_)
      · walk_at "run"
        refine Sl.r_ite (fun e => ?_) hM
        walk_at "run"
        exact hN e
      walk_at "run"
      refine ⟨_, ks ++ [E], rfl, by rw [List.length_append, hk]; rfl, ?_⟩
      simp only [List.map_append, List.map_cons, List.map_nil]
      have hs2 := rows_snoc (Hd.mt (by walk_at "mt") hs : Hd (pto E (.lst ((r.filter fun x => !decide (x = n)).map V.int)) :: rowsA ks (rowsV (fil n (u.q.take i))) :: _) _)
      have e2 : rowsV (fil n (u.q.take i)) ++ [(r.filter fun x => !decide (x = n)).map V.int] = rowsV (fil n (u.q.take (i + 1))) := by
        rw [List.take_add_one, hr]
        simp [rowsV, fil]
      rw [e2] at hs2
      exact Hd.mt (by walk_at "mt") hs2
    · rintro σ H ⟨v3, ks, rfl, hk, hs⟩
      have e5 : u.q.take (ls.map V.ref).length = u.q := by rw [List.length_map, ll, List.take_length]
      rw [e5] at hs
      walk_at "run"
      exact q _ ks _ (Hd.mt (by walk_at "mt") hs)
end
section
variable {P : Program} {w : World} {K : PySem.W.Frag} {mg : Str → Option Value} {base : Heap}
def sp_law_once (T : Txt K mg) : Sp := fun vs H Q _ => ∃ (p m : Addr) (u : TU) (ws : List Int) (last : Int) (L : List SA), vs = [.ref p, .ref m] ∧ (W31 u ws last ∧ last ≤ 1000) ∧ Hd (turnsA T.C_Turns p u :: ownA m u ws last :: L) H ∧ ∀ H', Hd (turnsA T.C_Turns p u :: ownA m u ws last :: L) H' → Q (.bl true) H'
theorem ok_law_once (T : Txt K mg) : FnOk P w K mg base CX0 2 T.a_law_once T.d_law_once ["_law_turns", "_law_own"] (sp_law_once T) := by
  refine T.f_law_once.ok sc_law_once (fun vs H Q E h => ?_) (fun cdv A outer s H vs Q E hr h => ?_)
  · obtain ⟨p, m, u, ws, last, L, rfl, _⟩ := h
    rfl
  · obtain ⟨p, m, u, ws, last, L, rfl, h⟩ := h
    refine ⟨_, (pss_cons (ps_set (i := 2) sc_law_once.nd rfl (by first | exact Or.inl rfl | exact Or.inr rfl) (pe_meth0 (pv 0) T.cl_Turns T.m_Turns_told (ok_Turns_told T) hr T.b_Turns_told .nil pass0))
       (pss_cons (ps_set (i := 3) sc_law_once.nd rfl (by first | exact Or.inl rfl | exact Or.inr rfl) (pe_callB (k_sumL (K := K) rfl rfl) (by rfl) T.n_sum (by decide +kernel) (pa_cons (pv 2) (pa_cons (pe_lst pa_nil) pa_nil))))
       (pss_cons (ps_if (PW.pt (pw_or (pt_cmpR (k_ne (K := K) rfl hr.units) (pe_callB (k_sorted (K := K) rfl) (by rfl) T.n_sorted (by decide +kernel) (pa_cons (pe_op (k_add (K := K) rfl) (pv 3) (pe_ix (k_ix (K := K) rfl (hu_of hr)) (pv 1) pe_str (fun _ _ => rfl))) pa_nil)) (pe_callB (Sl.call_sortedDI rfl) (by rfl) T.n_sorted (by decide +kernel) (pa_cons (pe_ix (k_ix (K := K) rfl (hu_of hr)) (pv 1) pe_str (fun _ _ => rfl)) pa_nil)) (nomark _)) (pw_or1 (pt_cmpR (k_ne (K := K) rfl hr.units) (RZ.pe_lenSetI (by rfl) T.n_len (by rfl) T.n_set (pv 3)) (pe_callB (k_len (K := K) rfl) (by rfl) T.n_len (by decide +kernel) (pa_cons (pv 3) pa_nil)) (nomark _)))))
        (pss_one (ps_ret pe_bl))
        pss_nil)
       (pss_cons (ps_for PassesOwn.never rfl (pi_range1 (by rfl) T.n_range (pa_cons pe_int pa_nil)) (pg_name (i := 4) sc_law_once.nd rfl (by first | exact Or.inl rfl | exact Or.inr rfl))
        (pss_one (ps_if (pt_cmpR (k_ne (K := K) rfl hr.units) (pe_lc (own := [("_law_one", 5)]) rfl sc_law_once.nd (pi_list (pe_ix (k_ix (K := K) rfl (hu_of hr)) (pv 2) (pv 4) (fun _ _ => rfl))) (blkOk_by (N := ["_law_turns", "_law_own", "_law_rows", "_law_every", "_law_level", "_law_one"]) (sc := defScope s_law_once) (by decide +kernel)) (fun _ _ _ _ _ => (pg_name (i := 5) sc_law_once.nd rfl (by first | exact Or.inl rfl | exact Or.inr rfl))) (fun _ _ _ _ _ => (pts_one (pt_cmpR (k_ne (K := K) rfl hr.units) (pe_meth (pv 0) T.cl_Turns T.m_Turns_level (ok_Turns_level T) hr T.b_Turns_level .nil pass0 (pa_cons (pv 5) pa_nil)) (pv 4) (nomark _)))) (fun _ _ _ _ _ => (pv 5))) (pe_lst pa_nil) (nomark _))
        (pss_one (ps_ret pe_bl))
        pss_nil)))
       (pss_one (ps_ret (pe_cmpR (k_eq (K := K) rfl hr.units) (pe_lc (own := [("_law_one", 5)]) rfl sc_law_once.nd (pi_list (pe_ix (k_ix (K := K) rfl (hu_of hr)) (pv 1) pe_str (fun _ _ => rfl))) (blkOk_by (N := ["_law_turns", "_law_own", "_law_rows", "_law_every", "_law_level", "_law_one"]) (sc := defScope s_law_once) (by decide +kernel)) (fun _ _ _ _ _ => (pg_name (i := 5) sc_law_once.nd rfl (by first | exact Or.inl rfl | exact Or.inr rfl))) (fun _ _ _ _ _ => (pts_one (pt_cmpR (k_in (K := K) rfl (hu_of hr)) (pv 5) (pv 3) (by rfl)))) (fun _ _ _ _ _ => (pv 5))) (pe_lst pa_nil) (nomark _)))))))), ?_⟩
    try dsimp only [cxOf]
    obtain ⟨⟨W, hlast⟩, hs, q⟩ := h
    have few := W.few
    have dp := W.dp
    have four := W.ok.four
    have nd := List.nodup_append.mp W.nd
    obtain ⟨R, D, W0, ls, hs⟩ := ow_open (hs.pull (by walk_at "pull"))
    walk_at "run"
    refine ⟨p, u, _, rfl, by omega, Hd.mt (by walk_at "mt") hs, fun t ls2 H hs => ?_⟩
    walk_at "run"
    refine Sl.r_sumL hs (.inr (hs.st (by walk_at "pull"))) (by walk_at "pull") (by walk_at "pull") (fun e => by rw [e] at four; cases four) (by omega) fun ev H hs => ?_
    walk_at "run"
    rw [← List.map_append] at hs
    refine Sl.r_sortedI hs (hs.sq (by walk_at "pull")) fun ms1 s1 H hp1 hw1 hs => ?_
    walk_at "run"
    refine Sl.r_sortedD (ks := keysI u.dep) hs (hs.get (by walk_at "pull")) (by rw [dI, keysI, List.map_map, List.map_map]; rfl) (by rw [keysI, List.length_map]; omega) fun ms2 s2 H hp2 hw2 hs => ?_
    have em : ms1 = ms2 := sorted_eq (hp1.trans (W.kp.symm.trans hp2.symm)) hw1 hw2
    subst em
    walk_at "run"
    refine Sl.r_neD1 (dp_rowD (hs.sq (a := s1) (by walk_at "pull"))) (dp_rowD (hs.sq (a := s2) (by walk_at "pull"))) (sh_listI _) ?_
    walk_at "run"
    refine Sl.r_lenSetK (hs.sq (a := ev) (by walk_at "pull")) nd.1 (by omega) ?_
    walk_at "run"
    rw [List.length_map]
    refine Sl.r_iteN (fun z => (z rfl).elim) (fun _ => ?_)
    walk_at "run"
    refine Sl.r_forR (fun i σ H => ∃ (v4 : Option V), σ = [some (.ref p), some (.ref m), some (.ref t), some (.ref ev), v4, none] ∧ Hd (pto t (.tup (ls2.map V.ref)) :: rowsA ls2 (rowsV u.q) :: pto ev (.lst (u.q.flatten.map V.int)) :: pto m (.dK (owK (.ref R) (.ref D) (.ref W0) (runV u.runs) (.int u.rest) (.int u.steps) (.int last))) :: pto R (.lst (ls.map V.ref)) :: rowsA ls (rowsV u.q) :: pto D (.dK (dI u.dep)) :: pto W0 (.lst (ws.map V.int)) :: turnsA T.C_Turns p u :: L) H) ?_ ?_ ?_
    · exact ⟨none, rfl, Hd.mt (by walk_at "mt") hs⟩
    · rintro i σ H hi ⟨v4, rfl, hs⟩
      have hi : i < 4 := hi
      obtain ⟨r, hr⟩ : ∃ r, u.q[i]? = some r := ⟨u.q[i]'(by omega), by simp [four, hi]⟩
      have hrl := len_row hr
      obtain ⟨a, ha, -⟩ := rows_in (ls := ls2) hs (by walk_at "pull") hr
      have gt : ∀ {H : Hp} {L0 L1 : List SA}, Hd L0 H → Pull (rowsA ls2 (rowsV u.q)) L0 L1 → SqL K H a (r.map V.int) := fun h p => SqL.of (rows_get h p ha (by simp [rowsV, hr]))
      walk_at "run"
      refine Sl.r_ixT (hs.st (by walk_at "pull")) (by rw [show (0 : Int) + (i : Nat) = ((i : Nat) : Int) by omega]; exact atI_ref ha) ?_
      refine Sl.r_listK (gt hs (by walk_at "pull")) ?_
      refine Sl.r_lcI r (fun _ => false) V.int hs (by omega) (fun H hs => gt hs (by walk_at "pull")) (fun E acc x H N M hx hs hN hM => ?_) (fun E H hs => ?_)
      · have hg := W.ok.at_ i r x hr hx
        walk_at "run"
        refine ⟨p, x, (i : Int), u, _, rfl, hg, Hd.mt (by walk_at "mt") hs, ?_⟩
        walk_at "run"
        refine Sl.r_iteN (fun z => (z (by omega)).elim) (fun _ => ?_)
        exact hM rfl
      have e0 : (r.filter fun _ => false) = [] := List.filter_eq_nil_iff.mpr fun _ _ => Bool.false_ne_true
      rw [e0] at hs
      walk_at "run"
      refine Sl.r_neNil (ns := []) (hs.sq (a := E) (by walk_at "pull")) (hs.sq (by walk_at "pull")) ?_
      walk_at "run"
      refine Sl.r_iteB (fun z => nomatch z) (fun _ => ?_)
      walk_at "run"
      exact ⟨_, rfl, Hd.mt (by walk_at "mt") hs⟩
    rintro σ H ⟨v4, rfl, hs⟩
    walk_at "run"
    refine Sl.r_lcI ws (fun _ => false) V.int hs (by omega) (fun H hs => by walk_at "sq") (fun E acc x H N M hx hs hN hM => ?_) (fun E H hs => ?_)
    · walk_at "run"
      rw [inV_ints]
      refine Sl.r_iteD (fun z => (nd.2.2 x z x hx rfl).elim) (fun _ => ?_)
      exact hM rfl
    have e0 : (ws.filter fun _ => false) = [] := List.filter_eq_nil_iff.mpr fun _ _ => Bool.false_ne_true
    rw [e0] at hs
    walk_at "run"
    refine Sl.r_eqNil (ns := []) (hs.sq (a := E) (by walk_at "pull")) (hs.sq (by walk_at "pull")) ?_
    walk_at "run"
    exact q _ (Hd.mt (by walk_at "mt") (ow_close (R := R) (D := D) (W := W0) (ls := ls) (u := u) (ws := ws) (last := last) (Hd.mt (by walk_at "mt") hs : Hd (pto m (.dK (owK (.ref R) (.ref D) (.ref W0) (runV u.runs) (.int u.rest) (.int u.steps) (.int last))) :: pto R (.lst (ls.map V.ref)) :: rowsA ls (rowsV u.q) :: pto D (.dK (dI u.dep)) :: pto W0 (.lst (ws.map V.int)) :: turnsA T.C_Turns p u :: L) _)))
end
section
variable {P : Program} {w : World} {K : PySem.W.Frag} {mg : Str → Option Value} {base : Heap}

theorem pick_how8 {i : Int} (h0 : 0 ≤ i) (h : i < 8) : ∃ s : Str, HowOk s ∧ atI [V.str "went", V.str "went", V.str "went", V.str "went", V.str "passes", V.str "waits", V.str "went", V.str "ends"] i = some (.str s) := by
  have e : i = 0 ∨ i = 1 ∨ i = 2 ∨ i = 3 ∨ i = 4 ∨ i = 5 ∨ i = 6 ∨ i = 7 := by omega
  rcases e with rfl | rfl | rfl | rfl | rfl | rfl | rfl | rfl
  · exact ⟨_, .inl rfl, rfl⟩
  · exact ⟨_, .inl rfl, rfl⟩
  · exact ⟨_, .inl rfl, rfl⟩
  · exact ⟨_, .inl rfl, rfl⟩
  · exact ⟨_, .inr (.inl rfl), rfl⟩
  · exact ⟨_, .inr (.inr (.inl rfl)), rfl⟩
  · exact ⟨_, .inl rfl, rfl⟩
  · exact ⟨_, .inr (.inr (.inr rfl)), rfl⟩
theorem pick_t {i : Int} (h0 : 0 ≤ i) (h : i < 4) : ∃ t : Int, (0 ≤ t ∧ t ≤ 20) ∧ atI [V.int 1, V.int 2, V.int 5, V.int 20] i = some (.int t) := by
  have e : i = 0 ∨ i = 1 ∨ i = 2 ∨ i = 3 := by omega
  rcases e with rfl | rfl | rfl | rfl
  · exact ⟨1, by decide, rfl⟩
  · exact ⟨2, by decide, rfl⟩
  · exact ⟨5, by decide, rfl⟩
  · exact ⟨20, by decide, rfl⟩
def kkO (b : Bool) (R D W : Addr) : List (Key × V) := if b then owK (.ref R) (.ref D) (.ref W) .non (.int 0) (.int 0) (.int 0) else ow0 (.ref R) (.ref D) (.ref W) .non (.int 0) (.int 0)
theorem sh_fil (q : List (List Int)) : SeqAt.shaped (.list (q.map rowD)) = true := sh_listR q

def sp_law_orderly (T : Txt K mg) : Sp := fun vs H Q _ => ∃ (p m d : Addr) (u : TU) (ws : List Int) (last : Int) (c : Nat) (L : List SA), vs = [.ref p, .ref m, .ref d] ∧ (W31 u ws last ∧ last ≤ 200 ∧ c ≤ 1000) ∧ Hd (turnsA T.C_Turns p u :: ownA m u ws last :: handA d c :: L) H ∧ ∀ u' ws' H', W31 u' ws' last → Hd (turnsA T.C_Turns p u' :: ownA m u' ws' last :: handA d (c + 21) :: L) H' → Q (.bl true) H'
theorem ok_law_orderly (T : Txt K mg) : FnOk P w K mg base CX0 5 T.a_law_orderly T.d_law_orderly ["_law_turns", "_law_own", "_law_hand_here"] (sp_law_orderly T) := by
  refine T.f_law_orderly.ok sc_law_orderly (fun vs H Q E h => ?_) (fun cdv A outer s H vs Q E hr h => ?_)
  · obtain ⟨p, m, d, u, ws, last, c, L, rfl, _⟩ := h
    rfl
  · obtain ⟨p, m, d, u, ws, last, c, L, rfl, h⟩ := h
    refine ⟨_, (pss_cons (ps_for PassesOwn.never rfl (pi_range1 (by rfl) T.n_range (pa_cons (pe_ix (k_ix (K := K) rfl (hu_of hr)) (pe_lst (pa_cons pe_int (pa_cons pe_int (pa_cons pe_int (pa_cons pe_int pa_nil))))) (pe_call (ok_law_from T) (hr.mono (by decide)) (by rfl) T.g_law_from T.f_law_from.kp T.b_law_from .nil pass0 (pa_cons (pv 2) (pa_cons pe_int pa_nil))) (fun _ _ => rfl)) pa_nil)) (pg_name (i := 3) sc_law_orderly.nd rfl (by first | exact Or.inl rfl | exact Or.inr rfl))
        (pss_cons (ps_set (i := 4) sc_law_orderly.nd rfl (by first | exact Or.inl rfl | exact Or.inr rfl) (pe_meth0 (pv 0) T.cl_Turns T.m_Turns_next (ok_Turns_next T) (hr.mono (by decide)) T.b_Turns_next .nil pass0))
       (pss_cons (ps_if (pt_cmpR u_isN (pv 4) pe_non (nomark _))
        (pss_one (ps_ret (pe_cmpR u_isN (pe_call (ok_law_next T) (hr.mono (by decide)) (by rfl) T.g_law_next T.f_law_next.kp T.b_law_next .nil pass0 (pa_cons (pv 1) pa_nil)) pe_non (nomark _))))
        pss_nil)
       (pss_cons (ps_if (pt_cmpR (k_ne (K := K) rfl hr.units) (pv 4) (pe_call (ok_law_next T) (hr.mono (by decide)) (by rfl) T.g_law_next T.f_law_next.kp T.b_law_next .nil pass0 (pa_cons (pv 1) pa_nil)) (nomark _))
        (pss_one (ps_ret pe_bl))
        pss_nil)
       (pss_cons (ps_set (i := 5) sc_law_orderly.nd rfl (by first | exact Or.inl rfl | exact Or.inr rfl) (pe_call (ok_law_without T) (hr.mono (by decide)) (by rfl) T.g_law_without T.f_law_without.kp T.b_law_without .nil pass0 (pa_cons (pv 0) (pa_cons (pv 4) pa_nil))))
       (pss_cons (ps_set (i := 6) sc_law_orderly.nd rfl (by first | exact Or.inl rfl | exact Or.inr rfl) (pe_ix (k_ix (K := K) rfl (hu_of hr)) (pe_lst (pa_cons pe_str (pa_cons pe_str (pa_cons pe_str (pa_cons pe_str (pa_cons pe_str (pa_cons pe_str (pa_cons pe_str (pa_cons pe_str pa_nil))))))))) (pe_call (ok_law_from T) (hr.mono (by decide)) (by rfl) T.g_law_from T.f_law_from.kp T.b_law_from .nil pass0 (pa_cons (pv 2) (pa_cons pe_int pa_nil))) (fun _ _ => rfl)))
       (pss_cons (ps_expr (pe_call (ok_law_step_done T) hr (by rfl) T.g_law_step_done T.f_law_step_done.kp T.b_law_step_done .nil pass0 (pa_cons (pv 0) (pa_cons (pv 6) pa_nil))))
       (pss_cons (ps_expr (pe_call (ok_law_stepped T) (hr.mono (by decide)) (by rfl) T.g_law_stepped T.f_law_stepped.kp T.b_law_stepped .nil pass0 (pa_cons (pv 1) (pa_cons (pv 6) pa_nil))))
       (pss_cons (ps_if (pt_cmpR (k_eq (K := K) rfl hr.units) (pe_op (k_mod (K := K) rfl) (pe_ix (k_ix (K := K) rfl (hu_of hr)) (pv 1) pe_str (fun _ _ => rfl)) pe_int) pe_int (nomark _))
        (pss_one (ps_set (i := 5) sc_law_orderly.nd rfl (by first | exact Or.inl rfl | exact Or.inr rfl) (pe_lst (pa_cons (pe_callB (k_sumL (K := K) rfl rfl) (by rfl) T.n_sum (by decide +kernel) (pa_cons (pv 5) (pa_cons (pe_lst pa_nil) pa_nil))) (pa_cons (pe_lst pa_nil) (pa_cons (pe_lst pa_nil) (pa_cons (pe_lst pa_nil) pa_nil)))))))
        pss_nil)
       (pss_one (ps_if (pt_cmpR (k_ne (K := K) rfl hr.units) (pe_call (ok_law_without T) (hr.mono (by decide)) (by rfl) T.g_law_without T.f_law_without.kp T.b_law_without .nil pass0 (pa_cons (pv 0) (pa_cons (pv 4) pa_nil))) (pv 5) (nomark _))
        (pss_one (ps_ret pe_bl))
        pss_nil)))))))))))
       (pss_one (ps_ret pe_bl))), ?_⟩
    try dsimp only [cxOf]
    obtain ⟨⟨W, hlast, hc⟩, hs, q⟩ := h
    walk_at "run"
    refine ⟨d, 4, c, _, rfl, ⟨by decide, by decide, by omega⟩, Hd.mt (by walk_at "mt") hs, fun x H x1 x2 hs => ?_⟩
    obtain ⟨tm, htm, hat⟩ := pick_t x1 x2
    refine Sl.r_ixL (by walk_at "sq") hat ?_
    walk_at "run"
    refine Sl.r_forR (fun i σ H => ∃ (v3 v4 v5 v6 : Option V) (u : TU) (ws : List Int) (c' : Nat), σ = [some (.ref p), some (.ref m), some (.ref d), v3, v4, v5, v6] ∧ (W31 u ws last ∧ c' ≤ c + 1 + i) ∧ Hd (turnsA T.C_Turns p u :: ownA m u ws last :: handA d c' :: L) H) ?_ ?_ ?_
    · exact ⟨none, none, none, none, u, ws, c + 1, rfl, ⟨W, by omega⟩, Hd.mt (by walk_at "mt") hs⟩
    · rintro i σ H hi ⟨v3, v4, v5, v6, u, ws, c', rfl, ⟨W, hc'⟩, hs⟩
      have hi : i < 20 := by omega
      have few := W.few
      have dp := W.dp
      have four := W.ok.four
      walk_at "run"
      have ok0 := W.ok
      refine ⟨p, u, _, rfl, ok0, Hd.mt (by walk_at "mt") hs, fun H hs => ?_⟩
      have z0 := W.z
      have W := W.next
      obtain ⟨e1, e2, e3⟩ := next_same u
      walk_at "run"
      refine Sl.r_iteD (fun hn => ?_) (fun hn => ?_)
      · walk_at "run"
        refine ⟨m, u, ws, last, _, rfl, ⟨ok0, z0, by omega⟩, Hd.mt (by walk_at "mt") hs, fun H hs => ?_⟩
        walk_at "run"
        rw [decide_eq_true hn]
        refine q _ _ _ W ?_
        have hs : Hd (turnsA T.C_Turns p u.next :: ownA m u.next ws last :: handA d c' :: L) H := Hd.mt (by walk_at "mt") hs
        exact hs.mono fun _ z => z.mono fun _ z => ha_more (by omega) z
      · obtain ⟨n, hru⟩ : ∃ n, u.next.runs = some n := by
          cases hru : u.next.runs with
          | none => rw [hru] at hn; exact (hn rfl).elim
          | some n => exact ⟨n, rfl⟩
        walk_at "run"
        refine ⟨m, u, ws, last, _, rfl, ⟨ok0, z0, by omega⟩, Hd.mt (by walk_at "mt") hs, fun H hs => ?_⟩
        rw [hru]
        dsimp only [runV]
        walk_at "run"
        refine Sl.r_iteN (fun z => (z rfl).elim) (fun _ => ?_)
        walk_at "run"
        rw [← e1] at few four
        rw [← e2] at dp
        generalize u.next = v at W hru few four dp hs
        refine ⟨p, n, v, _, rfl, ⟨four, by omega⟩, Hd.mt (by walk_at "mt") hs, fun f ks H hs => ?_⟩
        walk_at "run"
        refine ⟨d, 8, c', _, rfl, ⟨by decide, by decide, by omega⟩, Hd.mt (by walk_at "mt") hs, fun y H y1 y2 hs => ?_⟩
        obtain ⟨s, hss, hat⟩ := pick_how8 y1 y2
        refine Sl.r_ixL (by walk_at "sq") hat ?_
        walk_at "run"
        refine ⟨p, n, s, v, _, rfl, ⟨W.ok, hru, hss, by omega, by omega⟩, Hd.mt (by walk_at "mt") hs, fun H hs => ?_⟩
        walk_at "run"
        have W2 := W.how hru s hss
        have few2 := W2.few
        have dp2 := W2.dp
        have W3 := W2.counted
        have few3 := W3.few
        refine ⟨m, n, s, v, ws, last, _, rfl, ⟨W.ok, hru, hss, by omega, by omega, by omega, W2.ok.four, by omega, by omega⟩, Hd.mt (by walk_at "mt") hs, fun H hs => ?_⟩
        have ef := fil_how W.ok hru hss
        walk_at "run"
        obtain ⟨R, D, W0, ls, hs⟩ := ow_open (hs.pull (by walk_at "pull"))
        walk_at "run"
        have st1 : (howE s v n).counted.steps = (howE s v n).steps + 1 := by
          unfold TU.counted
          split <;> rfl
        refine Sl.r_iteD (fun z => ?_) (fun z => ?_)
        · have ec : (howE s v n).counted = (howE s v n).lift := lift_yes (by omega)
          have eq4 : fil n (howE s v n).counted.q = [(fil n v.q).flatten, [], [], []] := by
            rw [ec, ← ef, fil_flat]
            rfl
          walk_at "run"
          have hfl : (fil n v.q).flatten.length ≤ v.q.flatten.length := by rw [fil_flat]; exact List.length_filter_le _ _
          refine Sl.r_sumL (ls := ks) (q := fil n v.q) hs (.inl (hs.sq (a := f) (by walk_at "pull"))) (by walk_at "pull") (by walk_at "pull") (fun e => by have e := congrArg List.length e; rw [fil, List.length_map, four] at e; cases e) (by omega) fun so H hs => ?_
          walk_at "run"
          rename_i c1 _ c2 _ c3 _
          obtain ⟨b2, rfl⟩ : ∃ b2, b2 = q_ := ⟨_, rfl⟩
          refine ⟨p, n, (howE s v n).counted, _, rfl, ⟨W3.ok.four, by omega⟩, Hd.mt (by walk_at "mt") hs, fun f2 ks2 H hs => ?_⟩
          rw [eq4] at hs
          have e3 : ∀ x, H x = some (.lst []) → Dp K H (.ref x) (rowD []) := fun x e => dp_rowD (ws := []) (SqL.of e)
          walk_at "run"
          refine Sl.r_neD1 (d := .list ([(fil n v.q).flatten, [], [], []].map rowD)) (.lst (hs.sq (a := f2) (by walk_at "pull")) (dp_rows (ls := ks2) hs (by walk_at "pull"))) (.lst (hs.sq (a := b2) (by walk_at "pull")) (.cons (dp_rowD (hs.sq (by walk_at "pull"))) (.cons (e3 _ (hs.get (a := c1) (by walk_at "pull"))) (.cons (e3 _ (hs.get (a := c2) (by walk_at "pull"))) (.cons (e3 _ (hs.get (a := c3) (by walk_at "pull"))) .nil))))) (sh_listR _) ?_
          walk_at "run"
          exact ⟨_, _, _, _, _, _, c' + 1, rfl, ⟨W3, by omega⟩, Hd.mt (by walk_at "mt") (ow_close (R := R) (D := D) (W := W0) (ls := ls) (u := (howE s v n).counted) (ws := howW s ws n) (last := last) (Hd.mt (by walk_at "mt") hs : Hd (pto m (.dK (owK (.ref R) (.ref D) (.ref W0) (runV (howE s v n).counted.runs) (.int (howE s v n).counted.rest) (.int (howE s v n).counted.steps) (.int last))) :: pto R (.lst (ls.map V.ref)) :: rowsA ls (rowsV (howE s v n).counted.q) :: pto D (.dK (dI (howE s v n).counted.dep)) :: pto W0 (.lst ((howW s ws n).map V.int)) :: turnsA T.C_Turns p (howE s v n).counted :: handA d (c' + 1) :: L) _))⟩
        · have ec : (howE s v n).counted = { howE s v n with steps := (howE s v n).steps + 1 } := lift_no (by omega)
          have eq4 : fil n (howE s v n).counted.q = fil n v.q := by rw [ec]; exact ef
          walk_at "run"
          refine ⟨p, n, (howE s v n).counted, _, rfl, ⟨W3.ok.four, by omega⟩, Hd.mt (by walk_at "mt") hs, fun f2 ks2 H hs => ?_⟩
          rw [eq4] at hs
          walk_at "run"
          refine Sl.r_neD1 (.lst (hs.sq (a := f2) (by walk_at "pull")) (dp_rows (ls := ks2) hs (by walk_at "pull"))) (.lst (hs.sq (a := f) (by walk_at "pull")) (dp_rows (ls := ks) hs (by walk_at "pull"))) (sh_listR _) ?_
          walk_at "run"
          exact ⟨_, _, _, _, _, _, c' + 1, rfl, ⟨W3, by omega⟩, Hd.mt (by walk_at "mt") (ow_close (R := R) (D := D) (W := W0) (ls := ls) (u := (howE s v n).counted) (ws := howW s ws n) (last := last) (Hd.mt (by walk_at "mt") hs : Hd (pto m (.dK (owK (.ref R) (.ref D) (.ref W0) (runV (howE s v n).counted.runs) (.int (howE s v n).counted.rest) (.int (howE s v n).counted.steps) (.int last))) :: pto R (.lst (ls.map V.ref)) :: rowsA ls (rowsV (howE s v n).counted.q) :: pto D (.dK (dI (howE s v n).counted.dep)) :: pto W0 (.lst ((howW s ws n).map V.int)) :: turnsA T.C_Turns p (howE s v n).counted :: handA d (c' + 1) :: L) _))⟩
    · rintro σ H ⟨v3, v4, v5, v6, u, ws, c', rfl, ⟨W, hc'⟩, hs⟩
      walk_at "run"
      refine q _ _ _ W ?_
      exact hs.mono fun _ z => z.mono fun _ z => ha_more (by omega) z
end
section
variable {P : Program} {w : World} {K : PySem.W.Frag} {mg : Str → Option Value} {base : Heap}
def sp_law (K : PySem.W.Frag) : Sp := fun vs H Q _ => ∃ (a : Addr) (ns : List Int), vs = [.ref a] ∧ ns.length ≤ 63 ∧ Hd [sql K a (ns.map V.int)] H ∧ ∀ H', Q (.bl true) H'
theorem ok_law (T : Txt K mg) : FnG P w K mg base CX0 6 T.a_law T.d_law ["_law_script"] (sp_law K) := by
  refine okG T.f_law sc_law (fun vs H Q E h => ?_) (fun cdv A outer s H vs Q E gd hr h => ?_)
  · obtain ⟨a, ns, rfl, _⟩ := h
    rfl
  · obtain ⟨a, ns, rfl, h⟩ := h
    refine ⟨_, (pss_cons (ps_set (i := 1) sc_law.nd rfl (by first | exact Or.inl rfl | exact Or.inr rfl) (pe_lst (pa_cons (pe_make0 T.mk_Turns (ok_Turns_init T) (hr.mono (by decide)) (by rfl) T.g_Turns T.b_Turns_init .nil pass0) (pa_cons (pe_make0 T.mk_Turns (ok_Turns_init T) (hr.mono (by decide)) (by rfl) T.g_Turns T.b_Turns_init .nil pass0) pa_nil))))
       (pss_cons (ps_set (i := 2) sc_law.nd rfl (by first | exact Or.inl rfl | exact Or.inr rfl) (pe_lst (pa_cons (pe_call0 (ok_law_new_turns T) (hr.mono (by decide)) (by rfl) T.g_law_new_turns T.f_law_new_turns.kp T.b_law_new_turns .nil pass0) (pa_cons (pe_call0 (ok_law_new_turns T) (hr.mono (by decide)) (by rfl) T.g_law_new_turns T.f_law_new_turns.kp T.b_law_new_turns .nil pass0) pa_nil))))
       (pss_cons (ps_for PassesOwn.never rfl (pi_list (pv 2)) (pg_name (i := 3) sc_law.nd rfl (by first | exact Or.inl rfl | exact Or.inr rfl))
        (pss_one (ps_asg pe_int (pg_sub (pv 3) pe_str (u_set (hu_of hr))))))
       (pss_cons (ps_for PassesOwn.never rfl (pi_range1 (by rfl) T.n_range (pa_cons (pe_callB (u_max2 rfl) (by rfl) T.n_max (by decide +kernel) (pa_cons pe_int (pa_cons (pe_callB (u_min2 rfl) (by rfl) T.n_min (by decide +kernel) (pa_cons pe_int (pa_cons (pe_callB (k_len (K := K) rfl) (by rfl) T.n_len (by decide +kernel) (pa_cons (pv 0) pa_nil)) pa_nil))) pa_nil))) pa_nil)) (pg_name (i := 4) sc_law.nd rfl (by first | exact Or.inl rfl | exact Or.inr rfl))
        (pss_cons (ps_set (i := 5) sc_law.nd rfl (by first | exact Or.inl rfl | exact Or.inr rfl) (pe_call (ok_law_hand T) (hr.mono (by decide)) (by rfl) T.g_law_hand T.f_law_hand.kp T.b_law_hand .nil pass0 (pa_cons (pv 0) (pa_cons (pv 4) pa_nil))))
       (pss_cons (ps_set (i := 6) sc_law.nd rfl (by first | exact Or.inl rfl | exact Or.inr rfl) (pe_call (ok_law_from T) (hr.mono (by decide)) (by rfl) T.g_law_from T.f_law_from.kp T.b_law_from .nil pass0 (pa_cons (pv 5) (pa_cons pe_int pa_nil))))
       (pss_cons (ps_set (i := 7) sc_law.nd rfl (by first | exact Or.inl rfl | exact Or.inr rfl) (pe_callB (k_repr (K := K) rfl gd (reps_of hr)) (by rfl) T.n_repr (by decide +kernel) (pa_cons (pe_lst (pa_cons (pe_meth0 (pe_ix (k_ix (K := K) rfl (hu_of hr)) (pv 1) (pe_op (k_sub (K := K) rfl) pe_int (pv 6)) (fun _ _ => rfl)) T.cl_Turns T.m_Turns_told (ok_Turns_told T) (hr.mono (by decide)) T.b_Turns_told .nil pass0) (pa_cons (pe_meth0 (pe_ix (k_ix (K := K) rfl (hu_of hr)) (pv 1) (pe_op (k_sub (K := K) rfl) pe_int (pv 6)) (fun _ _ => rfl)) T.cl_Turns T.m_Turns_left (ok_Turns_left T) (hr.mono (by decide)) T.b_Turns_left .nil pass0) pa_nil))) pa_nil)))
       (pss_cons (ps_if (PW.pt (pw_or (pt_not (pt_val (pe_call (ok_law_deed T) (hr.mono (by decide)) (by rfl) T.g_law_deed T.f_law_deed.kp T.b_law_deed .nil pass0 (pa_cons (pe_ix (k_ix (K := K) rfl (hu_of hr)) (pv 1) (pv 6) (fun _ _ => rfl)) (pa_cons (pe_ix (k_ix (K := K) rfl (hu_of hr)) (pv 2) (pv 6) (fun _ _ => rfl)) (pa_cons (pv 5) pa_nil)))))) (pw_or1 (pt_not (pt_val (pe_call (ok_law_once T) (hr.mono (by decide)) (by rfl) T.g_law_once T.f_law_once.kp T.b_law_once .nil pass0 (pa_cons (pe_ix (k_ix (K := K) rfl (hu_of hr)) (pv 1) (pv 6) (fun _ _ => rfl)) (pa_cons (pe_ix (k_ix (K := K) rfl (hu_of hr)) (pv 2) (pv 6) (fun _ _ => rfl)) pa_nil))))))))
        (pss_one (ps_ret pe_bl))
        pss_nil)
       (pss_cons (ps_if (PW.pt (pw_or (pt_not (pt_val (pe_call (ok_law_orderly T) hr (by rfl) T.g_law_orderly T.f_law_orderly.kp T.b_law_orderly .nil pass0 (pa_cons (pe_ix (k_ix (K := K) rfl (hu_of hr)) (pv 1) (pv 6) (fun _ _ => rfl)) (pa_cons (pe_ix (k_ix (K := K) rfl (hu_of hr)) (pv 2) (pv 6) (fun _ _ => rfl)) (pa_cons (pv 5) pa_nil)))))) (pw_or1 (pt_not (pt_val (pe_call (ok_law_once T) (hr.mono (by decide)) (by rfl) T.g_law_once T.f_law_once.kp T.b_law_once .nil pass0 (pa_cons (pe_ix (k_ix (K := K) rfl (hu_of hr)) (pv 1) (pv 6) (fun _ _ => rfl)) (pa_cons (pe_ix (k_ix (K := K) rfl (hu_of hr)) (pv 2) (pv 6) (fun _ _ => rfl)) pa_nil))))))))
        (pss_one (ps_ret pe_bl))
        pss_nil)
       (pss_one (ps_if (pt_cmpR (k_ne (K := K) rfl hr.units) (pe_callB (k_repr (K := K) rfl gd (reps_of hr)) (by rfl) T.n_repr (by decide +kernel) (pa_cons (pe_lst (pa_cons (pe_meth0 (pe_ix (k_ix (K := K) rfl (hu_of hr)) (pv 1) (pe_op (k_sub (K := K) rfl) pe_int (pv 6)) (fun _ _ => rfl)) T.cl_Turns T.m_Turns_told (ok_Turns_told T) (hr.mono (by decide)) T.b_Turns_told .nil pass0) (pa_cons (pe_meth0 (pe_ix (k_ix (K := K) rfl (hu_of hr)) (pv 1) (pe_op (k_sub (K := K) rfl) pe_int (pv 6)) (fun _ _ => rfl)) T.cl_Turns T.m_Turns_left (ok_Turns_left T) (hr.mono (by decide)) T.b_Turns_left .nil pass0) pa_nil))) pa_nil)) (pv 7) (nomark _))
        (pss_one (ps_ret pe_bl))
        pss_nil))))))))
       (pss_one (ps_ret (pe_and (pe_call (ok_law_once T) (hr.mono (by decide)) (by rfl) T.g_law_once T.f_law_once.kp T.b_law_once .nil pass0 (pa_cons (pe_ix (k_ix (K := K) rfl (hu_of hr)) (pv 1) pe_int (fun _ _ => rfl)) (pa_cons (pe_ix (k_ix (K := K) rfl (hu_of hr)) (pv 2) pe_int (fun _ _ => rfl)) pa_nil))) (pe_one (pe_call (ok_law_once T) (hr.mono (by decide)) (by rfl) T.g_law_once T.f_law_once.kp T.b_law_once .nil pass0 (pa_cons (pe_ix (k_ix (K := K) rfl (hu_of hr)) (pv 1) pe_int (fun _ _ => rfl)) (pa_cons (pe_ix (k_ix (K := K) rfl (hu_of hr)) (pv 2) pe_int (fun _ _ => rfl)) pa_nil))))))))))), ?_⟩
    try dsimp only [cxOf]
    obtain ⟨hl, hs, q⟩ := h
    walk_at "run"
    obtain ⟨p0, rfl⟩ : ∃ p, p = q_ := ⟨_, rfl⟩
    refine ⟨p0, _, _, rfl, Hd.mt (by walk_at "mt") hs, fun H hs => ⟨rfl, ?_⟩⟩
    walk_at "run"
    obtain ⟨p1, rfl⟩ : ∃ p, p = q_ := ⟨_, rfl⟩
    refine ⟨p1, _, _, rfl, Hd.mt (by walk_at "mt") hs, fun H hs => ⟨rfl, ?_⟩⟩
    walk_at "run"
    obtain ⟨P, rfl⟩ : ∃ p, p = q_ := ⟨_, rfl⟩
    refine ⟨_, rfl, hs, fun m0 R0 D0 W00 ls0 H hs => ?_⟩
    walk_at "run"
    refine ⟨_, rfl, hs, fun m1 R1 D1 W10 ls1 H hs => ?_⟩
    walk_at "run"
    obtain ⟨O, rfl⟩ : ∃ p, p = q_ := ⟨_, rfl⟩
    refine Sl.r_forL [.ref m0, .ref m1] (fun i σ H => ∃ v3 : Option V, σ = [some (.ref a), some (.ref P), some (.ref O), v3, none, none, none, none] ∧ Hd (pto m0 (.dK (kkO (decide (0 < i)) R0 D0 W00)) :: pto m1 (.dK (kkO (decide (1 < i)) R1 D1 W10)) :: pto R0 (.lst (ls0.map V.ref)) :: rowsA ls0 (rowsV TU.new.q) :: pto D0 (.dK []) :: pto W00 (.lst []) :: pto R1 (.lst (ls1.map V.ref)) :: rowsA ls1 (rowsV TU.new.q) :: pto D1 (.dK []) :: pto W10 (.lst []) :: turnsA T.C_Turns p0 TU.new :: turnsA T.C_Turns p1 TU.new :: pto P (.lst [.ref p0, .ref p1]) :: pto O (.lst [.ref m0, .ref m1]) :: [sql K a (ns.map V.int)]) H) ?_ ?_ ?_ ?_
    · exact ⟨none, rfl, (Hd.mt (by walk_at "mt") hs : Hd (pto m0 (.dK (ow0 (.ref R0) (.ref D0) (.ref W00) .non (.int 0) (.int 0))) :: pto m1 (.dK (ow0 (.ref R1) (.ref D1) (.ref W10) .non (.int 0) (.int 0))) :: pto R0 (.lst (ls0.map V.ref)) :: rowsA ls0 (rowsV TU.new.q) :: pto D0 (.dK []) :: pto W00 (.lst []) :: pto R1 (.lst (ls1.map V.ref)) :: rowsA ls1 (rowsV TU.new.q) :: pto D1 (.dK []) :: pto W10 (.lst []) :: turnsA T.C_Turns p0 TU.new :: turnsA T.C_Turns p1 TU.new :: pto P (.lst [.ref p0, .ref p1]) :: pto O (.lst [.ref m0, .ref m1]) :: [sql K a (ns.map V.int)]) H)⟩
    · rintro i σ H hi ⟨v3, rfl, hs⟩
      walk_at "sq"
    · rintro i x σ H hx ⟨v3, rfl, hs⟩
      have hi : i < 2 := (List.getElem?_eq_some_iff.mp hx).1
      have ei : i = 0 ∨ i = 1 := by omega
      rcases ei with rfl | rfl
      · cases hx
        have hs : Hd (pto m0 (.dK (ow0 (.ref R0) (.ref D0) (.ref W00) .non (.int 0) (.int 0))) :: pto m1 (.dK (ow0 (.ref R1) (.ref D1) (.ref W10) .non (.int 0) (.int 0))) :: pto R0 (.lst (ls0.map V.ref)) :: rowsA ls0 (rowsV TU.new.q) :: pto D0 (.dK []) :: pto W00 (.lst []) :: pto R1 (.lst (ls1.map V.ref)) :: rowsA ls1 (rowsV TU.new.q) :: pto D1 (.dK []) :: pto W10 (.lst []) :: turnsA T.C_Turns p0 TU.new :: turnsA T.C_Turns p1 TU.new :: pto P (.lst [.ref p0, .ref p1]) :: pto O (.lst [.ref m0, .ref m1]) :: [sql K a (ns.map V.int)]) H := hs
        walk_at "run"
        refine Sl.r_setDs hs (by walk_at "put") ow_last (szlt (by show 6 < 100000; decide)) fun H hs => ?_
        exact ⟨_, rfl, (Hd.mt (by walk_at "mt") hs : Hd (pto m0 (.dK (owK (.ref R0) (.ref D0) (.ref W00) .non (.int 0) (.int 0) (.int 0))) :: pto m1 (.dK (ow0 (.ref R1) (.ref D1) (.ref W10) .non (.int 0) (.int 0))) :: pto R0 (.lst (ls0.map V.ref)) :: rowsA ls0 (rowsV TU.new.q) :: pto D0 (.dK []) :: pto W00 (.lst []) :: pto R1 (.lst (ls1.map V.ref)) :: rowsA ls1 (rowsV TU.new.q) :: pto D1 (.dK []) :: pto W10 (.lst []) :: turnsA T.C_Turns p0 TU.new :: turnsA T.C_Turns p1 TU.new :: pto P (.lst [.ref p0, .ref p1]) :: pto O (.lst [.ref m0, .ref m1]) :: [sql K a (ns.map V.int)]) _)⟩
      · cases hx
        have hs : Hd (pto m0 (.dK (owK (.ref R0) (.ref D0) (.ref W00) .non (.int 0) (.int 0) (.int 0))) :: pto m1 (.dK (ow0 (.ref R1) (.ref D1) (.ref W10) .non (.int 0) (.int 0))) :: pto R0 (.lst (ls0.map V.ref)) :: rowsA ls0 (rowsV TU.new.q) :: pto D0 (.dK []) :: pto W00 (.lst []) :: pto R1 (.lst (ls1.map V.ref)) :: rowsA ls1 (rowsV TU.new.q) :: pto D1 (.dK []) :: pto W10 (.lst []) :: turnsA T.C_Turns p0 TU.new :: turnsA T.C_Turns p1 TU.new :: pto P (.lst [.ref p0, .ref p1]) :: pto O (.lst [.ref m0, .ref m1]) :: [sql K a (ns.map V.int)]) H := hs
        walk_at "run"
        refine Sl.r_setDs hs (by walk_at "put") ow_last (szlt (by show 6 < 100000; decide)) fun H hs => ?_
        exact ⟨_, rfl, (Hd.mt (by walk_at "mt") hs : Hd (pto m0 (.dK (owK (.ref R0) (.ref D0) (.ref W00) .non (.int 0) (.int 0) (.int 0))) :: pto m1 (.dK (owK (.ref R1) (.ref D1) (.ref W10) .non (.int 0) (.int 0) (.int 0))) :: pto R0 (.lst (ls0.map V.ref)) :: rowsA ls0 (rowsV TU.new.q) :: pto D0 (.dK []) :: pto W00 (.lst []) :: pto R1 (.lst (ls1.map V.ref)) :: rowsA ls1 (rowsV TU.new.q) :: pto D1 (.dK []) :: pto W10 (.lst []) :: turnsA T.C_Turns p0 TU.new :: turnsA T.C_Turns p1 TU.new :: pto P (.lst [.ref p0, .ref p1]) :: pto O (.lst [.ref m0, .ref m1]) :: [sql K a (ns.map V.int)]) _)⟩
    rintro σ H ⟨v3, rfl, hs⟩
    have hs : Hd (pto m0 (.dK (owK (.ref R0) (.ref D0) (.ref W00) .non (.int 0) (.int 0) (.int 0))) :: pto m1 (.dK (owK (.ref R1) (.ref D1) (.ref W10) .non (.int 0) (.int 0) (.int 0))) :: pto R0 (.lst (ls0.map V.ref)) :: rowsA ls0 (rowsV TU.new.q) :: pto D0 (.dK []) :: pto W00 (.lst []) :: pto R1 (.lst (ls1.map V.ref)) :: rowsA ls1 (rowsV TU.new.q) :: pto D1 (.dK []) :: pto W10 (.lst []) :: turnsA T.C_Turns p0 TU.new :: turnsA T.C_Turns p1 TU.new :: pto P (.lst [.ref p0, .ref p1]) :: pto O (.lst [.ref m0, .ref m1]) :: [sql K a (ns.map V.int)]) H := hs
    have hs := ow_close (R := R0) (D := D0) (W := W00) (ls := ls0) (u := TU.new) (ws := []) (last := 0) (Hd.mt (by walk_at "mt") hs : Hd (pto m0 (.dK (owK (.ref R0) (.ref D0) (.ref W00) .non (.int 0) (.int 0) (.int 0))) :: pto R0 (.lst (ls0.map V.ref)) :: rowsA ls0 (rowsV TU.new.q) :: pto D0 (.dK []) :: pto W00 (.lst []) :: pto m1 (.dK (owK (.ref R1) (.ref D1) (.ref W10) .non (.int 0) (.int 0) (.int 0))) :: pto R1 (.lst (ls1.map V.ref)) :: rowsA ls1 (rowsV TU.new.q) :: pto D1 (.dK []) :: pto W10 (.lst []) :: turnsA T.C_Turns p0 TU.new :: turnsA T.C_Turns p1 TU.new :: pto P (.lst [.ref p0, .ref p1]) :: pto O (.lst [.ref m0, .ref m1]) :: [sql K a (ns.map V.int)]) H)
    have hs := ow_close (R := R1) (D := D1) (W := W10) (ls := ls1) (u := TU.new) (ws := []) (last := 0) (Hd.mt (by walk_at "mt") hs : Hd (pto m1 (.dK (owK (.ref R1) (.ref D1) (.ref W10) .non (.int 0) (.int 0) (.int 0))) :: pto R1 (.lst (ls1.map V.ref)) :: rowsA ls1 (rowsV TU.new.q) :: pto D1 (.dK []) :: pto W10 (.lst []) :: ownA m0 TU.new [] 0 :: turnsA T.C_Turns p0 TU.new :: turnsA T.C_Turns p1 TU.new :: pto P (.lst [.ref p0, .ref p1]) :: pto O (.lst [.ref m0, .ref m1]) :: [sql K a (ns.map V.int)]) H)
    walk_at "run"
    refine Sl.r_forR (fun i σ H => ∃ (v3 v4 v5 v6 v7 : Option V) (u0 u1 : TU) (ws0 ws1 : List Int) (last0 last1 : Int), σ = [some (.ref a), some (.ref P), some (.ref O), v3, v4, v5, v6, v7] ∧ (W31 u0 ws0 last0 ∧ W31 u1 ws1 last1 ∧ last0 ≤ i ∧ last1 ≤ i) ∧ Hd (turnsA T.C_Turns p0 u0 :: ownA m0 u0 ws0 last0 :: turnsA T.C_Turns p1 u1 :: ownA m1 u1 ws1 last1 :: pto P (.lst [.ref p0, .ref p1]) :: pto O (.lst [.ref m0, .ref m1]) :: [sql K a (ns.map V.int)]) H) ?_ ?_ ?_
    · exact ⟨v3, none, none, none, none, TU.new, TU.new, [], [], 0, 0, rfl, ⟨W31.new, W31.new, by decide, by decide⟩, Hd.mt (by walk_at "mt") hs⟩
    · rintro i σ H hi ⟨v3, v4, v5, v6, v7, u0, u1, ws0, ws1, last0, last1, rfl, ⟨W0, W1, hl0, hl1⟩, hs⟩
      have hi : i < 63 := by
        simp only [List.length_map] at hi
        split at hi <;> split at hi <;> omega
      walk_at "run"
      refine ⟨a, ns, i, _, congrArg (fun z : Int => [V.ref a, V.int z]) (by omega), by omega, Hd.mt (by walk_at "mt") hs, fun d H hs => ?_⟩
      walk_at "run"
      refine ⟨d, 2, 0, _, rfl, ⟨by decide, by decide, by omega⟩, Hd.mt (by walk_at "mt") hs, fun x H x1 x2 hs => ?_⟩
      have ex : x = 0 ∨ x = 1 := by omega
      rcases ex with rfl | rfl
      · walk_at "run"
        have niceT := nice_tup (nice_rows (q := u1.q) fun n hn => by have := W1.rg n (List.mem_append_left _ hn); omega)
        have niceR : Nice (.int u1.rest) 0 40 := nice_int (by have := W1.rb; omega)
        have niceL := nice_list (nice_cons niceT (nice_cons (niceR.mono (Nat.zero_le 2) (Nat.le_refl _)) (nice_nil 2)))
        have few1 := W1.few
        have four1 := W1.ok.four
        refine ⟨p1, u1, _, rfl, by omega, Hd.mt (by walk_at "mt") hs, fun tA lA H hs => ?_⟩
        walk_at "run"
        refine ⟨p1, u1, _, rfl, trivial, Hd.mt (by walk_at "mt") hs, ?_⟩
        walk_at "run"
        refine Sl.r_reprD (d := .list [.tuple (u1.q.map rowD), .int u1.rest]) (.lst (hs.sq (by walk_at "pull")) (.cons (.tup (hs.st (a := tA) (by walk_at "pull")) (dp_rows (ls := lA) hs (by walk_at "pull"))) (.cons (.int _) .nil))) niceL (by omega) (by omega) ?_
        walk_at "run"
        refine ⟨p0, m0, d, u0, ws0, last0, 1, _, rfl, ⟨W0, by omega, by omega⟩, Hd.mt (by walk_at "mt") hs, fun u0 ws0 lastN H W0 hl2 hs => ?_⟩
        walk_at "run"
        refine ⟨p0, m0, u0, ws0, lastN, _, rfl, ⟨W0, by omega⟩, Hd.mt (by walk_at "mt") hs, fun H hs => ?_⟩
        walk_at "run"
        refine ⟨p0, m0, d, u0, ws0, lastN, 3, _, rfl, ⟨W0, by omega, by omega⟩, Hd.mt (by walk_at "mt") hs, fun u0 ws0 H W0 hs => ?_⟩
        walk_at "run"
        refine ⟨p0, m0, u0, ws0, lastN, _, rfl, ⟨W0, by omega⟩, Hd.mt (by walk_at "mt") hs, fun H hs => ?_⟩
        walk_at "run"
        refine ⟨p1, u1, _, rfl, by omega, Hd.mt (by walk_at "mt") hs, fun tB lB H hs => ?_⟩
        walk_at "run"
        refine ⟨p1, u1, _, rfl, trivial, Hd.mt (by walk_at "mt") hs, ?_⟩
        walk_at "run"
        refine Sl.r_reprD (d := .list [.tuple (u1.q.map rowD), .int u1.rest]) (.lst (hs.sq (by walk_at "pull")) (.cons (.tup (hs.st (a := tB) (by walk_at "pull")) (dp_rows (ls := lB) hs (by walk_at "pull"))) (.cons (.int _) .nil))) niceL (by omega) (by omega) ?_
        walk_at "run"
        refine Sl.r_iteN (fun z => (z rfl).elim) (fun _ => ?_)
        walk_at "run"
        exact ⟨_, _, _, _, _, u0, u1, ws0, ws1, lastN, last1, rfl, ⟨W0, W1, by omega, by omega⟩, Hd.mt (by walk_at "mt") hs⟩
      · walk_at "run"
        have niceT := nice_tup (nice_rows (q := u0.q) fun n hn => by have := W0.rg n (List.mem_append_left _ hn); omega)
        have niceR : Nice (.int u0.rest) 0 40 := nice_int (by have := W0.rb; omega)
        have niceL := nice_list (nice_cons niceT (nice_cons (niceR.mono (Nat.zero_le 2) (Nat.le_refl _)) (nice_nil 2)))
        have few0 := W0.few
        have four0 := W0.ok.four
        refine ⟨p0, u0, _, rfl, by omega, Hd.mt (by walk_at "mt") hs, fun tA lA H hs => ?_⟩
        walk_at "run"
        refine ⟨p0, u0, _, rfl, trivial, Hd.mt (by walk_at "mt") hs, ?_⟩
        walk_at "run"
        refine Sl.r_reprD (d := .list [.tuple (u0.q.map rowD), .int u0.rest]) (.lst (hs.sq (by walk_at "pull")) (.cons (.tup (hs.st (a := tA) (by walk_at "pull")) (dp_rows (ls := lA) hs (by walk_at "pull"))) (.cons (.int _) .nil))) niceL (by omega) (by omega) ?_
        walk_at "run"
        refine ⟨p1, m1, d, u1, ws1, last1, 1, _, rfl, ⟨W1, by omega, by omega⟩, Hd.mt (by walk_at "mt") hs, fun u1 ws1 lastN H W1 hl2 hs => ?_⟩
        walk_at "run"
        refine ⟨p1, m1, u1, ws1, lastN, _, rfl, ⟨W1, by omega⟩, Hd.mt (by walk_at "mt") hs, fun H hs => ?_⟩
        walk_at "run"
        refine ⟨p1, m1, d, u1, ws1, lastN, 3, _, rfl, ⟨W1, by omega, by omega⟩, Hd.mt (by walk_at "mt") hs, fun u1 ws1 H W1 hs => ?_⟩
        walk_at "run"
        refine ⟨p1, m1, u1, ws1, lastN, _, rfl, ⟨W1, by omega⟩, Hd.mt (by walk_at "mt") hs, fun H hs => ?_⟩
        walk_at "run"
        refine ⟨p0, u0, _, rfl, by omega, Hd.mt (by walk_at "mt") hs, fun tB lB H hs => ?_⟩
        walk_at "run"
        refine ⟨p0, u0, _, rfl, trivial, Hd.mt (by walk_at "mt") hs, ?_⟩
        walk_at "run"
        refine Sl.r_reprD (d := .list [.tuple (u0.q.map rowD), .int u0.rest]) (.lst (hs.sq (by walk_at "pull")) (.cons (.tup (hs.st (a := tB) (by walk_at "pull")) (dp_rows (ls := lB) hs (by walk_at "pull"))) (.cons (.int _) .nil))) niceL (by omega) (by omega) ?_
        walk_at "run"
        refine Sl.r_iteN (fun z => (z rfl).elim) (fun _ => ?_)
        walk_at "run"
        exact ⟨_, _, _, _, _, u0, u1, ws0, ws1, last0, lastN, rfl, ⟨W0, W1, by omega, by omega⟩, Hd.mt (by walk_at "mt") hs⟩
    · rintro σ H ⟨v3, v4, v5, v6, v7, u0, u1, ws0, ws1, last0, last1, rfl, ⟨W0, W1, hl0, hl1⟩, hs⟩
      have h0 : last0 ≤ 200 := by
        refine Int.le_trans hl0 ?_
        simp only [List.length_map]
        split <;> split <;> omega
      have h1 : last1 ≤ 200 := by
        refine Int.le_trans hl1 ?_
        simp only [List.length_map]
        split <;> split <;> omega
      walk_at "run"
      refine ⟨p0, m0, u0, ws0, last0, _, rfl, ⟨W0, by omega⟩, Hd.mt (by walk_at "mt") hs, fun H hs => ?_⟩
      walk_at "run"
      refine ⟨p1, m1, u1, ws1, last1, _, rfl, ⟨W1, by omega⟩, Hd.mt (by walk_at "mt") hs, fun H hs => ?_⟩
      walk_at "run"
      exact q _
end
theorem all_mk {l : PySem.W.OpenLaw} {w : World} {K : PySem.W.Frag} {h : Heap} {mg : Str → Option Value} {fa : Addr} (X : K.In h) (G : h.Ns mainGlobals mg) (hfa : mg "law" = some (.ref fa))
    {C_Turns : Addr} {a_Turns_init : Addr} {od_Turns_init an_Turns_init : Option Addr} {sl_Turns_init : Array (Option Value)} {oc_Turns_init kV_Turns_init dc_Turns_init pm_Turns_init cd_Turns_init ct_Turns_init : Value} {a_Turns_stand : Addr} {od_Turns_stand an_Turns_stand : Option Addr} {sl_Turns_stand : Array (Option Value)} {oc_Turns_stand kV_Turns_stand dc_Turns_stand pm_Turns_stand cd_Turns_stand ct_Turns_stand : Value} {a_Turns_step_out : Addr} {od_Turns_step_out an_Turns_step_out : Option Addr} {sl_Turns_step_out : Array (Option Value)} {oc_Turns_step_out kV_Turns_step_out dc_Turns_step_out pm_Turns_step_out cd_Turns_step_out ct_Turns_step_out : Value} {a_Turns_add : Addr} {od_Turns_add an_Turns_add : Option Addr} {sl_Turns_add : Array (Option Value)} {oc_Turns_add kV_Turns_add dc_Turns_add pm_Turns_add cd_Turns_add ct_Turns_add : Value} {a_Turns_first_ready : Addr} {od_Turns_first_ready an_Turns_first_ready : Option Addr} {sl_Turns_first_ready : Array (Option Value)} {oc_Turns_first_ready kV_Turns_first_ready dc_Turns_first_ready pm_Turns_first_ready cd_Turns_first_ready ct_Turns_first_ready : Value} {a_Turns_next : Addr} {od_Turns_next an_Turns_next : Option Addr} {sl_Turns_next : Array (Option Value)} {oc_Turns_next kV_Turns_next dc_Turns_next pm_Turns_next cd_Turns_next ct_Turns_next : Value} {a_Turns_slice_over : Addr} {od_Turns_slice_over an_Turns_slice_over : Option Addr} {sl_Turns_slice_over : Array (Option Value)} {oc_Turns_slice_over kV_Turns_slice_over dc_Turns_slice_over pm_Turns_slice_over cd_Turns_slice_over ct_Turns_slice_over : Value} {a_Turns_counted : Addr} {od_Turns_counted an_Turns_counted : Option Addr} {sl_Turns_counted : Array (Option Value)} {oc_Turns_counted kV_Turns_counted dc_Turns_counted pm_Turns_counted cd_Turns_counted ct_Turns_counted : Value} {a_Turns_went : Addr} {od_Turns_went an_Turns_went : Option Addr} {sl_Turns_went : Array (Option Value)} {oc_Turns_went kV_Turns_went dc_Turns_went pm_Turns_went cd_Turns_went ct_Turns_went : Value} {a_Turns_passes : Addr} {od_Turns_passes an_Turns_passes : Option Addr} {sl_Turns_passes : Array (Option Value)} {oc_Turns_passes kV_Turns_passes dc_Turns_passes pm_Turns_passes cd_Turns_passes ct_Turns_passes : Value} {a_Turns_waits : Addr} {od_Turns_waits an_Turns_waits : Option Addr} {sl_Turns_waits : Array (Option Value)} {oc_Turns_waits kV_Turns_waits dc_Turns_waits pm_Turns_waits cd_Turns_waits ct_Turns_waits : Value} {a_Turns_ends : Addr} {od_Turns_ends an_Turns_ends : Option Addr} {sl_Turns_ends : Array (Option Value)} {oc_Turns_ends kV_Turns_ends dc_Turns_ends pm_Turns_ends cd_Turns_ends ct_Turns_ends : Value} {a_Turns_wakes : Addr} {od_Turns_wakes an_Turns_wakes : Option Addr} {sl_Turns_wakes : Array (Option Value)} {oc_Turns_wakes kV_Turns_wakes dc_Turns_wakes pm_Turns_wakes cd_Turns_wakes ct_Turns_wakes : Value} {a_Turns_leaves : Addr} {od_Turns_leaves an_Turns_leaves : Option Addr} {sl_Turns_leaves : Array (Option Value)} {oc_Turns_leaves kV_Turns_leaves dc_Turns_leaves pm_Turns_leaves cd_Turns_leaves ct_Turns_leaves : Value} {a_Turns_told : Addr} {od_Turns_told an_Turns_told : Option Addr} {sl_Turns_told : Array (Option Value)} {oc_Turns_told kV_Turns_told dc_Turns_told pm_Turns_told cd_Turns_told ct_Turns_told : Value} {a_Turns_left : Addr} {od_Turns_left an_Turns_left : Option Addr} {sl_Turns_left : Array (Option Value)} {oc_Turns_left kV_Turns_left dc_Turns_left pm_Turns_left cd_Turns_left ct_Turns_left : Value} {a_Turns_level : Addr} {od_Turns_level an_Turns_level : Option Addr} {sl_Turns_level : Array (Option Value)} {oc_Turns_level kV_Turns_level dc_Turns_level pm_Turns_level cd_Turns_level ct_Turns_level : Value} {a_law_mixed : Addr} {od_law_mixed an_law_mixed : Option Addr} {sl_law_mixed : Array (Option Value)} {oc_law_mixed kV_law_mixed dc_law_mixed pm_law_mixed cd_law_mixed ct_law_mixed : Value} {a_law_hand : Addr} {od_law_hand an_law_hand : Option Addr} {sl_law_hand : Array (Option Value)} {oc_law_hand kV_law_hand dc_law_hand pm_law_hand cd_law_hand ct_law_hand : Value} {a_law_from : Addr} {od_law_from an_law_from : Option Addr} {sl_law_from : Array (Option Value)} {oc_law_from kV_law_from dc_law_from pm_law_from cd_law_from ct_law_from : Value} {a_law_new_turns : Addr} {od_law_new_turns an_law_new_turns : Option Addr} {sl_law_new_turns : Array (Option Value)} {oc_law_new_turns kV_law_new_turns dc_law_new_turns pm_law_new_turns cd_law_new_turns ct_law_new_turns : Value} {a_law_stood : Addr} {od_law_stood an_law_stood : Option Addr} {sl_law_stood : Array (Option Value)} {oc_law_stood kV_law_stood dc_law_stood pm_law_stood cd_law_stood ct_law_stood : Value} {a_law_out : Addr} {od_law_out an_law_out : Option Addr} {sl_law_out : Array (Option Value)} {oc_law_out kV_law_out dc_law_out pm_law_out cd_law_out ct_law_out : Value} {a_law_next : Addr} {od_law_next an_law_next : Option Addr} {sl_law_next : Array (Option Value)} {oc_law_next kV_law_next dc_law_next pm_law_next cd_law_next ct_law_next : Value} {a_law_stepped : Addr} {od_law_stepped an_law_stepped : Option Addr} {sl_law_stepped : Array (Option Value)} {oc_law_stepped kV_law_stepped dc_law_stepped pm_law_stepped cd_law_stepped ct_law_stepped : Value} {a_law_woken : Addr} {od_law_woken an_law_woken : Option Addr} {sl_law_woken : Array (Option Value)} {oc_law_woken kV_law_woken dc_law_woken pm_law_woken cd_law_woken ct_law_woken : Value} {a_law_left : Addr} {od_law_left an_law_left : Option Addr} {sl_law_left : Array (Option Value)} {oc_law_left kV_law_left dc_law_left pm_law_left cd_law_left ct_law_left : Value} {a_law_step_done : Addr} {od_law_step_done an_law_step_done : Option Addr} {sl_law_step_done : Array (Option Value)} {oc_law_step_done kV_law_step_done dc_law_step_done pm_law_step_done cd_law_step_done ct_law_step_done : Value} {a_law_deed : Addr} {od_law_deed an_law_deed : Option Addr} {sl_law_deed : Array (Option Value)} {oc_law_deed kV_law_deed dc_law_deed pm_law_deed cd_law_deed ct_law_deed : Value} {a_law_without : Addr} {od_law_without an_law_without : Option Addr} {sl_law_without : Array (Option Value)} {oc_law_without kV_law_without dc_law_without pm_law_without cd_law_without ct_law_without : Value} {a_law_orderly : Addr} {od_law_orderly an_law_orderly : Option Addr} {sl_law_orderly : Array (Option Value)} {oc_law_orderly kV_law_orderly dc_law_orderly pm_law_orderly cd_law_orderly ct_law_orderly : Value} {a_law_once : Addr} {od_law_once an_law_once : Option Addr} {sl_law_once : Array (Option Value)} {oc_law_once kV_law_once dc_law_once pm_law_once cd_law_once ct_law_once : Value} {a_law : Addr} {od_law an_law : Option Addr} {sl_law : Array (Option Value)} {oc_law kV_law dc_law pm_law cd_law ct_law : Value} {t_LEVELS : Tok} {t_LIFT : Tok} {a_SLICES : Addr} {n_SLICES : Nat} {t0_SLICES : Tok} {t1_SLICES : Tok} {t2_SLICES : Tok} {t3_SLICES : Tok}
    (h1_Turns : PySem.W.nsIn K mainGlobals "Turns" = some (some (.ref C_Turns)))
    (h2_Turns : PySem.W.plainGet K C_Turns Str.empty = true)
    (h3_Turns : PySem.W.hasDictIn K C_Turns = true)
    (h4_Turns : PySem.W.plainOver K C_Turns = true)
    (h5_Turns : PySem.W.findIn K (.ref C_Turns) "__setattr__" = some (some (.builtin "object.__setattr__")))
    (h6_Turns : PySem.W.makesIn K C_Turns = true)
    (h7_Turns : PySem.W.keepIn K (.ref C_Turns) = true)
    (n_Turns_queues : PySem.W.findIn K (.ref C_Turns) "queues" = some none)
    (n_Turns_depths : PySem.W.findIn K (.ref C_Turns) "depths" = some none)
    (n_Turns_runs : PySem.W.findIn K (.ref C_Turns) "runs" = some none)
    (n_Turns_rest : PySem.W.findIn K (.ref C_Turns) "rest" = some none)
    (n_Turns_steps : PySem.W.findIn K (.ref C_Turns) "steps" = some none)
    (g_Turns_init : PySem.W.findIn K (.ref C_Turns) "__init__" = some (some (.ref a_Turns_init)))
    (i_Turns_init : PySem.W.isFn K (.ref a_Turns_init) = true)
    (l_Turns_init : K.lookup a_Turns_init = some ⟨oc_Turns_init, od_Turns_init, .func (PySem.W.fnOf "__init__" "Turns.__init__" (defArgs s_Turns_init) (defBody s_Turns_init) (defScope s_Turns_init) .none kV_Turns_init dc_Turns_init pm_Turns_init an_Turns_init cd_Turns_init ct_Turns_init), sl_Turns_init⟩)
    (c_Turns_init : PySem.W.codeIn K cd_Turns_init "Turns.__init__" = true)
    (k_Turns_init : PySem.W.keepIn K (.ref a_Turns_init) = true)
    (g_Turns_stand : PySem.W.findIn K (.ref C_Turns) "stand" = some (some (.ref a_Turns_stand)))
    (i_Turns_stand : PySem.W.isFn K (.ref a_Turns_stand) = true)
    (l_Turns_stand : K.lookup a_Turns_stand = some ⟨oc_Turns_stand, od_Turns_stand, .func (PySem.W.fnOf "stand" "Turns.stand" (defArgs s_Turns_stand) (defBody s_Turns_stand) (defScope s_Turns_stand) .none kV_Turns_stand dc_Turns_stand pm_Turns_stand an_Turns_stand cd_Turns_stand ct_Turns_stand), sl_Turns_stand⟩)
    (c_Turns_stand : PySem.W.codeIn K cd_Turns_stand "Turns.stand" = true)
    (k_Turns_stand : PySem.W.keepIn K (.ref a_Turns_stand) = true)
    (g_Turns_step_out : PySem.W.findIn K (.ref C_Turns) "step_out" = some (some (.ref a_Turns_step_out)))
    (i_Turns_step_out : PySem.W.isFn K (.ref a_Turns_step_out) = true)
    (l_Turns_step_out : K.lookup a_Turns_step_out = some ⟨oc_Turns_step_out, od_Turns_step_out, .func (PySem.W.fnOf "step_out" "Turns.step_out" (defArgs s_Turns_step_out) (defBody s_Turns_step_out) (defScope s_Turns_step_out) .none kV_Turns_step_out dc_Turns_step_out pm_Turns_step_out an_Turns_step_out cd_Turns_step_out ct_Turns_step_out), sl_Turns_step_out⟩)
    (c_Turns_step_out : PySem.W.codeIn K cd_Turns_step_out "Turns.step_out" = true)
    (k_Turns_step_out : PySem.W.keepIn K (.ref a_Turns_step_out) = true)
    (g_Turns_add : PySem.W.findIn K (.ref C_Turns) "add" = some (some (.ref a_Turns_add)))
    (i_Turns_add : PySem.W.isFn K (.ref a_Turns_add) = true)
    (l_Turns_add : K.lookup a_Turns_add = some ⟨oc_Turns_add, od_Turns_add, .func (PySem.W.fnOf "add" "Turns.add" (defArgs s_Turns_add) (defBody s_Turns_add) (defScope s_Turns_add) .none kV_Turns_add dc_Turns_add pm_Turns_add an_Turns_add cd_Turns_add ct_Turns_add), sl_Turns_add⟩)
    (c_Turns_add : PySem.W.codeIn K cd_Turns_add "Turns.add" = true)
    (k_Turns_add : PySem.W.keepIn K (.ref a_Turns_add) = true)
    (g_Turns_first_ready : PySem.W.findIn K (.ref C_Turns) "first_ready" = some (some (.ref a_Turns_first_ready)))
    (i_Turns_first_ready : PySem.W.isFn K (.ref a_Turns_first_ready) = true)
    (l_Turns_first_ready : K.lookup a_Turns_first_ready = some ⟨oc_Turns_first_ready, od_Turns_first_ready, .func (PySem.W.fnOf "first_ready" "Turns.first_ready" (defArgs s_Turns_first_ready) (defBody s_Turns_first_ready) (defScope s_Turns_first_ready) .none kV_Turns_first_ready dc_Turns_first_ready pm_Turns_first_ready an_Turns_first_ready cd_Turns_first_ready ct_Turns_first_ready), sl_Turns_first_ready⟩)
    (c_Turns_first_ready : PySem.W.codeIn K cd_Turns_first_ready "Turns.first_ready" = true)
    (k_Turns_first_ready : PySem.W.keepIn K (.ref a_Turns_first_ready) = true)
    (g_Turns_next : PySem.W.findIn K (.ref C_Turns) "next" = some (some (.ref a_Turns_next)))
    (i_Turns_next : PySem.W.isFn K (.ref a_Turns_next) = true)
    (l_Turns_next : K.lookup a_Turns_next = some ⟨oc_Turns_next, od_Turns_next, .func (PySem.W.fnOf "next" "Turns.next" (defArgs s_Turns_next) (defBody s_Turns_next) (defScope s_Turns_next) .none kV_Turns_next dc_Turns_next pm_Turns_next an_Turns_next cd_Turns_next ct_Turns_next), sl_Turns_next⟩)
    (c_Turns_next : PySem.W.codeIn K cd_Turns_next "Turns.next" = true)
    (k_Turns_next : PySem.W.keepIn K (.ref a_Turns_next) = true)
    (g_Turns_slice_over : PySem.W.findIn K (.ref C_Turns) "slice_over" = some (some (.ref a_Turns_slice_over)))
    (i_Turns_slice_over : PySem.W.isFn K (.ref a_Turns_slice_over) = true)
    (l_Turns_slice_over : K.lookup a_Turns_slice_over = some ⟨oc_Turns_slice_over, od_Turns_slice_over, .func (PySem.W.fnOf "slice_over" "Turns.slice_over" (defArgs s_Turns_slice_over) (defBody s_Turns_slice_over) (defScope s_Turns_slice_over) .none kV_Turns_slice_over dc_Turns_slice_over pm_Turns_slice_over an_Turns_slice_over cd_Turns_slice_over ct_Turns_slice_over), sl_Turns_slice_over⟩)
    (c_Turns_slice_over : PySem.W.codeIn K cd_Turns_slice_over "Turns.slice_over" = true)
    (k_Turns_slice_over : PySem.W.keepIn K (.ref a_Turns_slice_over) = true)
    (g_Turns_counted : PySem.W.findIn K (.ref C_Turns) "counted" = some (some (.ref a_Turns_counted)))
    (i_Turns_counted : PySem.W.isFn K (.ref a_Turns_counted) = true)
    (l_Turns_counted : K.lookup a_Turns_counted = some ⟨oc_Turns_counted, od_Turns_counted, .func (PySem.W.fnOf "counted" "Turns.counted" (defArgs s_Turns_counted) (defBody s_Turns_counted) (defScope s_Turns_counted) .none kV_Turns_counted dc_Turns_counted pm_Turns_counted an_Turns_counted cd_Turns_counted ct_Turns_counted), sl_Turns_counted⟩)
    (c_Turns_counted : PySem.W.codeIn K cd_Turns_counted "Turns.counted" = true)
    (k_Turns_counted : PySem.W.keepIn K (.ref a_Turns_counted) = true)
    (g_Turns_went : PySem.W.findIn K (.ref C_Turns) "went" = some (some (.ref a_Turns_went)))
    (i_Turns_went : PySem.W.isFn K (.ref a_Turns_went) = true)
    (l_Turns_went : K.lookup a_Turns_went = some ⟨oc_Turns_went, od_Turns_went, .func (PySem.W.fnOf "went" "Turns.went" (defArgs s_Turns_went) (defBody s_Turns_went) (defScope s_Turns_went) .none kV_Turns_went dc_Turns_went pm_Turns_went an_Turns_went cd_Turns_went ct_Turns_went), sl_Turns_went⟩)
    (c_Turns_went : PySem.W.codeIn K cd_Turns_went "Turns.went" = true)
    (k_Turns_went : PySem.W.keepIn K (.ref a_Turns_went) = true)
    (g_Turns_passes : PySem.W.findIn K (.ref C_Turns) "passes" = some (some (.ref a_Turns_passes)))
    (i_Turns_passes : PySem.W.isFn K (.ref a_Turns_passes) = true)
    (l_Turns_passes : K.lookup a_Turns_passes = some ⟨oc_Turns_passes, od_Turns_passes, .func (PySem.W.fnOf "passes" "Turns.passes" (defArgs s_Turns_passes) (defBody s_Turns_passes) (defScope s_Turns_passes) .none kV_Turns_passes dc_Turns_passes pm_Turns_passes an_Turns_passes cd_Turns_passes ct_Turns_passes), sl_Turns_passes⟩)
    (c_Turns_passes : PySem.W.codeIn K cd_Turns_passes "Turns.passes" = true)
    (k_Turns_passes : PySem.W.keepIn K (.ref a_Turns_passes) = true)
    (g_Turns_waits : PySem.W.findIn K (.ref C_Turns) "waits" = some (some (.ref a_Turns_waits)))
    (i_Turns_waits : PySem.W.isFn K (.ref a_Turns_waits) = true)
    (l_Turns_waits : K.lookup a_Turns_waits = some ⟨oc_Turns_waits, od_Turns_waits, .func (PySem.W.fnOf "waits" "Turns.waits" (defArgs s_Turns_waits) (defBody s_Turns_waits) (defScope s_Turns_waits) .none kV_Turns_waits dc_Turns_waits pm_Turns_waits an_Turns_waits cd_Turns_waits ct_Turns_waits), sl_Turns_waits⟩)
    (c_Turns_waits : PySem.W.codeIn K cd_Turns_waits "Turns.waits" = true)
    (k_Turns_waits : PySem.W.keepIn K (.ref a_Turns_waits) = true)
    (g_Turns_ends : PySem.W.findIn K (.ref C_Turns) "ends" = some (some (.ref a_Turns_ends)))
    (i_Turns_ends : PySem.W.isFn K (.ref a_Turns_ends) = true)
    (l_Turns_ends : K.lookup a_Turns_ends = some ⟨oc_Turns_ends, od_Turns_ends, .func (PySem.W.fnOf "ends" "Turns.ends" (defArgs s_Turns_ends) (defBody s_Turns_ends) (defScope s_Turns_ends) .none kV_Turns_ends dc_Turns_ends pm_Turns_ends an_Turns_ends cd_Turns_ends ct_Turns_ends), sl_Turns_ends⟩)
    (c_Turns_ends : PySem.W.codeIn K cd_Turns_ends "Turns.ends" = true)
    (k_Turns_ends : PySem.W.keepIn K (.ref a_Turns_ends) = true)
    (g_Turns_wakes : PySem.W.findIn K (.ref C_Turns) "wakes" = some (some (.ref a_Turns_wakes)))
    (i_Turns_wakes : PySem.W.isFn K (.ref a_Turns_wakes) = true)
    (l_Turns_wakes : K.lookup a_Turns_wakes = some ⟨oc_Turns_wakes, od_Turns_wakes, .func (PySem.W.fnOf "wakes" "Turns.wakes" (defArgs s_Turns_wakes) (defBody s_Turns_wakes) (defScope s_Turns_wakes) .none kV_Turns_wakes dc_Turns_wakes pm_Turns_wakes an_Turns_wakes cd_Turns_wakes ct_Turns_wakes), sl_Turns_wakes⟩)
    (c_Turns_wakes : PySem.W.codeIn K cd_Turns_wakes "Turns.wakes" = true)
    (k_Turns_wakes : PySem.W.keepIn K (.ref a_Turns_wakes) = true)
    (g_Turns_leaves : PySem.W.findIn K (.ref C_Turns) "leaves" = some (some (.ref a_Turns_leaves)))
    (i_Turns_leaves : PySem.W.isFn K (.ref a_Turns_leaves) = true)
    (l_Turns_leaves : K.lookup a_Turns_leaves = some ⟨oc_Turns_leaves, od_Turns_leaves, .func (PySem.W.fnOf "leaves" "Turns.leaves" (defArgs s_Turns_leaves) (defBody s_Turns_leaves) (defScope s_Turns_leaves) .none kV_Turns_leaves dc_Turns_leaves pm_Turns_leaves an_Turns_leaves cd_Turns_leaves ct_Turns_leaves), sl_Turns_leaves⟩)
    (c_Turns_leaves : PySem.W.codeIn K cd_Turns_leaves "Turns.leaves" = true)
    (k_Turns_leaves : PySem.W.keepIn K (.ref a_Turns_leaves) = true)
    (g_Turns_told : PySem.W.findIn K (.ref C_Turns) "told" = some (some (.ref a_Turns_told)))
    (i_Turns_told : PySem.W.isFn K (.ref a_Turns_told) = true)
    (l_Turns_told : K.lookup a_Turns_told = some ⟨oc_Turns_told, od_Turns_told, .func (PySem.W.fnOf "told" "Turns.told" (defArgs s_Turns_told) (defBody s_Turns_told) (defScope s_Turns_told) .none kV_Turns_told dc_Turns_told pm_Turns_told an_Turns_told cd_Turns_told ct_Turns_told), sl_Turns_told⟩)
    (c_Turns_told : PySem.W.codeIn K cd_Turns_told "Turns.told" = true)
    (k_Turns_told : PySem.W.keepIn K (.ref a_Turns_told) = true)
    (g_Turns_left : PySem.W.findIn K (.ref C_Turns) "left" = some (some (.ref a_Turns_left)))
    (i_Turns_left : PySem.W.isFn K (.ref a_Turns_left) = true)
    (l_Turns_left : K.lookup a_Turns_left = some ⟨oc_Turns_left, od_Turns_left, .func (PySem.W.fnOf "left" "Turns.left" (defArgs s_Turns_left) (defBody s_Turns_left) (defScope s_Turns_left) .none kV_Turns_left dc_Turns_left pm_Turns_left an_Turns_left cd_Turns_left ct_Turns_left), sl_Turns_left⟩)
    (c_Turns_left : PySem.W.codeIn K cd_Turns_left "Turns.left" = true)
    (k_Turns_left : PySem.W.keepIn K (.ref a_Turns_left) = true)
    (g_Turns_level : PySem.W.findIn K (.ref C_Turns) "level" = some (some (.ref a_Turns_level)))
    (i_Turns_level : PySem.W.isFn K (.ref a_Turns_level) = true)
    (l_Turns_level : K.lookup a_Turns_level = some ⟨oc_Turns_level, od_Turns_level, .func (PySem.W.fnOf "level" "Turns.level" (defArgs s_Turns_level) (defBody s_Turns_level) (defScope s_Turns_level) .none kV_Turns_level dc_Turns_level pm_Turns_level an_Turns_level cd_Turns_level ct_Turns_level), sl_Turns_level⟩)
    (c_Turns_level : PySem.W.codeIn K cd_Turns_level "Turns.level" = true)
    (k_Turns_level : PySem.W.keepIn K (.ref a_Turns_level) = true)
    (g_law_mixed : PySem.W.nsIn K mainGlobals "_law_mixed" = some (some (.ref a_law_mixed)))
    (l_law_mixed : K.lookup a_law_mixed = some ⟨oc_law_mixed, od_law_mixed, .func (PySem.W.fnOf "_law_mixed" "_law_mixed" (defArgs s_law_mixed) (defBody s_law_mixed) (defScope s_law_mixed) .none kV_law_mixed dc_law_mixed pm_law_mixed an_law_mixed cd_law_mixed ct_law_mixed), sl_law_mixed⟩)
    (c_law_mixed : PySem.W.codeIn K cd_law_mixed "_law_mixed" = true)
    (k_law_mixed : PySem.W.keepIn K (.ref a_law_mixed) = true)
    (g_law_hand : PySem.W.nsIn K mainGlobals "_law_hand" = some (some (.ref a_law_hand)))
    (l_law_hand : K.lookup a_law_hand = some ⟨oc_law_hand, od_law_hand, .func (PySem.W.fnOf "_law_hand" "_law_hand" (defArgs s_law_hand) (defBody s_law_hand) (defScope s_law_hand) .none kV_law_hand dc_law_hand pm_law_hand an_law_hand cd_law_hand ct_law_hand), sl_law_hand⟩)
    (c_law_hand : PySem.W.codeIn K cd_law_hand "_law_hand" = true)
    (k_law_hand : PySem.W.keepIn K (.ref a_law_hand) = true)
    (g_law_from : PySem.W.nsIn K mainGlobals "_law_from" = some (some (.ref a_law_from)))
    (l_law_from : K.lookup a_law_from = some ⟨oc_law_from, od_law_from, .func (PySem.W.fnOf "_law_from" "_law_from" (defArgs s_law_from) (defBody s_law_from) (defScope s_law_from) .none kV_law_from dc_law_from pm_law_from an_law_from cd_law_from ct_law_from), sl_law_from⟩)
    (c_law_from : PySem.W.codeIn K cd_law_from "_law_from" = true)
    (k_law_from : PySem.W.keepIn K (.ref a_law_from) = true)
    (g_law_new_turns : PySem.W.nsIn K mainGlobals "_law_new_turns" = some (some (.ref a_law_new_turns)))
    (l_law_new_turns : K.lookup a_law_new_turns = some ⟨oc_law_new_turns, od_law_new_turns, .func (PySem.W.fnOf "_law_new_turns" "_law_new_turns" (defArgs s_law_new_turns) (defBody s_law_new_turns) (defScope s_law_new_turns) .none kV_law_new_turns dc_law_new_turns pm_law_new_turns an_law_new_turns cd_law_new_turns ct_law_new_turns), sl_law_new_turns⟩)
    (c_law_new_turns : PySem.W.codeIn K cd_law_new_turns "_law_new_turns" = true)
    (k_law_new_turns : PySem.W.keepIn K (.ref a_law_new_turns) = true)
    (g_law_stood : PySem.W.nsIn K mainGlobals "_law_stood" = some (some (.ref a_law_stood)))
    (l_law_stood : K.lookup a_law_stood = some ⟨oc_law_stood, od_law_stood, .func (PySem.W.fnOf "_law_stood" "_law_stood" (defArgs s_law_stood) (defBody s_law_stood) (defScope s_law_stood) .none kV_law_stood dc_law_stood pm_law_stood an_law_stood cd_law_stood ct_law_stood), sl_law_stood⟩)
    (c_law_stood : PySem.W.codeIn K cd_law_stood "_law_stood" = true)
    (k_law_stood : PySem.W.keepIn K (.ref a_law_stood) = true)
    (g_law_out : PySem.W.nsIn K mainGlobals "_law_out" = some (some (.ref a_law_out)))
    (l_law_out : K.lookup a_law_out = some ⟨oc_law_out, od_law_out, .func (PySem.W.fnOf "_law_out" "_law_out" (defArgs s_law_out) (defBody s_law_out) (defScope s_law_out) .none kV_law_out dc_law_out pm_law_out an_law_out cd_law_out ct_law_out), sl_law_out⟩)
    (c_law_out : PySem.W.codeIn K cd_law_out "_law_out" = true)
    (k_law_out : PySem.W.keepIn K (.ref a_law_out) = true)
    (g_law_next : PySem.W.nsIn K mainGlobals "_law_next" = some (some (.ref a_law_next)))
    (l_law_next : K.lookup a_law_next = some ⟨oc_law_next, od_law_next, .func (PySem.W.fnOf "_law_next" "_law_next" (defArgs s_law_next) (defBody s_law_next) (defScope s_law_next) .none kV_law_next dc_law_next pm_law_next an_law_next cd_law_next ct_law_next), sl_law_next⟩)
    (c_law_next : PySem.W.codeIn K cd_law_next "_law_next" = true)
    (k_law_next : PySem.W.keepIn K (.ref a_law_next) = true)
    (g_law_stepped : PySem.W.nsIn K mainGlobals "_law_stepped" = some (some (.ref a_law_stepped)))
    (l_law_stepped : K.lookup a_law_stepped = some ⟨oc_law_stepped, od_law_stepped, .func (PySem.W.fnOf "_law_stepped" "_law_stepped" (defArgs s_law_stepped) (defBody s_law_stepped) (defScope s_law_stepped) .none kV_law_stepped dc_law_stepped pm_law_stepped an_law_stepped cd_law_stepped ct_law_stepped), sl_law_stepped⟩)
    (c_law_stepped : PySem.W.codeIn K cd_law_stepped "_law_stepped" = true)
    (k_law_stepped : PySem.W.keepIn K (.ref a_law_stepped) = true)
    (g_law_woken : PySem.W.nsIn K mainGlobals "_law_woken" = some (some (.ref a_law_woken)))
    (l_law_woken : K.lookup a_law_woken = some ⟨oc_law_woken, od_law_woken, .func (PySem.W.fnOf "_law_woken" "_law_woken" (defArgs s_law_woken) (defBody s_law_woken) (defScope s_law_woken) .none kV_law_woken dc_law_woken pm_law_woken an_law_woken cd_law_woken ct_law_woken), sl_law_woken⟩)
    (c_law_woken : PySem.W.codeIn K cd_law_woken "_law_woken" = true)
    (k_law_woken : PySem.W.keepIn K (.ref a_law_woken) = true)
    (g_law_left : PySem.W.nsIn K mainGlobals "_law_left" = some (some (.ref a_law_left)))
    (l_law_left : K.lookup a_law_left = some ⟨oc_law_left, od_law_left, .func (PySem.W.fnOf "_law_left" "_law_left" (defArgs s_law_left) (defBody s_law_left) (defScope s_law_left) .none kV_law_left dc_law_left pm_law_left an_law_left cd_law_left ct_law_left), sl_law_left⟩)
    (c_law_left : PySem.W.codeIn K cd_law_left "_law_left" = true)
    (k_law_left : PySem.W.keepIn K (.ref a_law_left) = true)
    (g_law_step_done : PySem.W.nsIn K mainGlobals "_law_step_done" = some (some (.ref a_law_step_done)))
    (l_law_step_done : K.lookup a_law_step_done = some ⟨oc_law_step_done, od_law_step_done, .func (PySem.W.fnOf "_law_step_done" "_law_step_done" (defArgs s_law_step_done) (defBody s_law_step_done) (defScope s_law_step_done) .none kV_law_step_done dc_law_step_done pm_law_step_done an_law_step_done cd_law_step_done ct_law_step_done), sl_law_step_done⟩)
    (c_law_step_done : PySem.W.codeIn K cd_law_step_done "_law_step_done" = true)
    (k_law_step_done : PySem.W.keepIn K (.ref a_law_step_done) = true)
    (g_law_deed : PySem.W.nsIn K mainGlobals "_law_deed" = some (some (.ref a_law_deed)))
    (l_law_deed : K.lookup a_law_deed = some ⟨oc_law_deed, od_law_deed, .func (PySem.W.fnOf "_law_deed" "_law_deed" (defArgs s_law_deed) (defBody s_law_deed) (defScope s_law_deed) .none kV_law_deed dc_law_deed pm_law_deed an_law_deed cd_law_deed ct_law_deed), sl_law_deed⟩)
    (c_law_deed : PySem.W.codeIn K cd_law_deed "_law_deed" = true)
    (k_law_deed : PySem.W.keepIn K (.ref a_law_deed) = true)
    (g_law_without : PySem.W.nsIn K mainGlobals "_law_without" = some (some (.ref a_law_without)))
    (l_law_without : K.lookup a_law_without = some ⟨oc_law_without, od_law_without, .func (PySem.W.fnOf "_law_without" "_law_without" (defArgs s_law_without) (defBody s_law_without) (defScope s_law_without) .none kV_law_without dc_law_without pm_law_without an_law_without cd_law_without ct_law_without), sl_law_without⟩)
    (c_law_without : PySem.W.codeIn K cd_law_without "_law_without" = true)
    (k_law_without : PySem.W.keepIn K (.ref a_law_without) = true)
    (g_law_orderly : PySem.W.nsIn K mainGlobals "_law_orderly" = some (some (.ref a_law_orderly)))
    (l_law_orderly : K.lookup a_law_orderly = some ⟨oc_law_orderly, od_law_orderly, .func (PySem.W.fnOf "_law_orderly" "_law_orderly" (defArgs s_law_orderly) (defBody s_law_orderly) (defScope s_law_orderly) .none kV_law_orderly dc_law_orderly pm_law_orderly an_law_orderly cd_law_orderly ct_law_orderly), sl_law_orderly⟩)
    (c_law_orderly : PySem.W.codeIn K cd_law_orderly "_law_orderly" = true)
    (k_law_orderly : PySem.W.keepIn K (.ref a_law_orderly) = true)
    (g_law_once : PySem.W.nsIn K mainGlobals "_law_once" = some (some (.ref a_law_once)))
    (l_law_once : K.lookup a_law_once = some ⟨oc_law_once, od_law_once, .func (PySem.W.fnOf "_law_once" "_law_once" (defArgs s_law_once) (defBody s_law_once) (defScope s_law_once) .none kV_law_once dc_law_once pm_law_once an_law_once cd_law_once ct_law_once), sl_law_once⟩)
    (c_law_once : PySem.W.codeIn K cd_law_once "_law_once" = true)
    (k_law_once : PySem.W.keepIn K (.ref a_law_once) = true)
    (g_law : PySem.W.nsIn K mainGlobals "law" = some (some (.ref a_law)))
    (l_law : K.lookup a_law = some ⟨oc_law, od_law, .func (PySem.W.fnOf "law" "law" (defArgs s_law) (defBody s_law) (defScope s_law) .none kV_law dc_law pm_law an_law cd_law ct_law), sl_law⟩)
    (c_law : PySem.W.codeIn K cd_law "law" = true)
    (k_law : PySem.W.keepIn K (.ref a_law) = true)
    (g_LEVELS : PySem.W.nsIn K mainGlobals "LEVELS" = some (some (.int 4 t_LEVELS)))
    (g_LIFT : PySem.W.nsIn K mainGlobals "LIFT" = some (some (.int 64 t_LIFT)))
    (g_SLICES : PySem.W.nsIn K mainGlobals "SLICES" = some (some (.ref a_SLICES)))
    (l_SLICES : K.lookup a_SLICES = some ⟨.type "tuple", none, .seq #[.int 2 t0_SLICES, .int 4 t1_SLICES, .int 8 t2_SLICES, .int 16 t3_SLICES] n_SLICES, #[]⟩)
    (n_dict : PySem.W.nsIn K mainGlobals "dict" = some none)
    (n_int : PySem.W.nsIn K mainGlobals "int" = some none)
    (n_len : PySem.W.nsIn K mainGlobals "len" = some none)
    (n_list : PySem.W.nsIn K mainGlobals "list" = some none)
    (n_max : PySem.W.nsIn K mainGlobals "max" = some none)
    (n_min : PySem.W.nsIn K mainGlobals "min" = some none)
    (n_range : PySem.W.nsIn K mainGlobals "range" = some none)
    (n_repr : PySem.W.nsIn K mainGlobals "repr" = some none)
    (n_set : PySem.W.nsIn K mainGlobals "set" = some none)
    (n_sorted : PySem.W.nsIn K mainGlobals "sorted" = some none)
    (n_sum : PySem.W.nsIn K mainGlobals "sum" = some none)
    (n_tuple : PySem.W.nsIn K mainGlobals "tuple" = some none) :
    ∃ fd : FuncData, (∀ (s : Shared) (v : Value), BindsTo s fd ⟨[v], []⟩ [("_law_script", v)]) ∧ ∀ base : Heap, K.In base → base.Ns mainGlobals mg → FnG l.prog w K mg base CX0 6 fa fd ["_law_script"] (sp_law K) := by
  have e := hfa.symm.trans (PySem.W.mg_of X G g_law)
  cases e
  have T : ∃ T : Txt K mg, T.a_law = fa ∧ T.d_law = (PySem.W.fnOf "law" "law" (defArgs s_law) (defBody s_law) (defScope s_law) .none kV_law dc_law pm_law an_law cd_law ct_law) := ⟨{
    C_Turns := C_Turns,
    cl_Turns := ⟨h2_Turns, h3_Turns, h4_Turns, h5_Turns⟩,
    g_Turns := PySem.W.mg_of X G h1_Turns,
    n_Turns_queues := n_Turns_queues,
    n_Turns_depths := n_Turns_depths,
    n_Turns_runs := n_Turns_runs,
    n_Turns_rest := n_Turns_rest,
    n_Turns_steps := n_Turns_steps,
    a_Turns_init := a_Turns_init,
    d_Turns_init := (PySem.W.fnOf "__init__" "Turns.__init__" (defArgs s_Turns_init) (defBody s_Turns_init) (defScope s_Turns_init) .none kV_Turns_init dc_Turns_init pm_Turns_init an_Turns_init cd_Turns_init ct_Turns_init),
    f_Turns_init := fun_mk (st := s_Turns_init) l_Turns_init c_Turns_init k_Turns_init,
    b_Turns_init := (fun_mk (st := s_Turns_init) l_Turns_init c_Turns_init k_Turns_init).binds (ps := ["self"]) fun _ _ _ _ _ _ us hl => match us, hl with | [_], _ => rfl,
    mk_Turns := ⟨h6_Turns, g_Turns_init, i_Turns_init, h7_Turns⟩,
    a_Turns_stand := a_Turns_stand,
    d_Turns_stand := (PySem.W.fnOf "stand" "Turns.stand" (defArgs s_Turns_stand) (defBody s_Turns_stand) (defScope s_Turns_stand) .none kV_Turns_stand dc_Turns_stand pm_Turns_stand an_Turns_stand cd_Turns_stand ct_Turns_stand),
    f_Turns_stand := fun_mk (st := s_Turns_stand) l_Turns_stand c_Turns_stand k_Turns_stand,
    b_Turns_stand := (fun_mk (st := s_Turns_stand) l_Turns_stand c_Turns_stand k_Turns_stand).binds (ps := ["self", "number", "level"]) fun _ _ _ _ _ _ us hl => match us, hl with | [_, _, _], _ => rfl,
    m_Turns_stand := ⟨g_Turns_stand, i_Turns_stand, k_Turns_stand⟩,
    a_Turns_step_out := a_Turns_step_out,
    d_Turns_step_out := (PySem.W.fnOf "step_out" "Turns.step_out" (defArgs s_Turns_step_out) (defBody s_Turns_step_out) (defScope s_Turns_step_out) .none kV_Turns_step_out dc_Turns_step_out pm_Turns_step_out an_Turns_step_out cd_Turns_step_out ct_Turns_step_out),
    f_Turns_step_out := fun_mk (st := s_Turns_step_out) l_Turns_step_out c_Turns_step_out k_Turns_step_out,
    b_Turns_step_out := (fun_mk (st := s_Turns_step_out) l_Turns_step_out c_Turns_step_out k_Turns_step_out).binds (ps := ["self", "number"]) fun _ _ _ _ _ _ us hl => match us, hl with | [_, _], _ => rfl,
    m_Turns_step_out := ⟨g_Turns_step_out, i_Turns_step_out, k_Turns_step_out⟩,
    a_Turns_add := a_Turns_add,
    d_Turns_add := (PySem.W.fnOf "add" "Turns.add" (defArgs s_Turns_add) (defBody s_Turns_add) (defScope s_Turns_add) .none kV_Turns_add dc_Turns_add pm_Turns_add an_Turns_add cd_Turns_add ct_Turns_add),
    f_Turns_add := fun_mk (st := s_Turns_add) l_Turns_add c_Turns_add k_Turns_add,
    b_Turns_add := (fun_mk (st := s_Turns_add) l_Turns_add c_Turns_add k_Turns_add).binds (ps := ["self", "number"]) fun _ _ _ _ _ _ us hl => match us, hl with | [_, _], _ => rfl,
    m_Turns_add := ⟨g_Turns_add, i_Turns_add, k_Turns_add⟩,
    a_Turns_first_ready := a_Turns_first_ready,
    d_Turns_first_ready := (PySem.W.fnOf "first_ready" "Turns.first_ready" (defArgs s_Turns_first_ready) (defBody s_Turns_first_ready) (defScope s_Turns_first_ready) .none kV_Turns_first_ready dc_Turns_first_ready pm_Turns_first_ready an_Turns_first_ready cd_Turns_first_ready ct_Turns_first_ready),
    f_Turns_first_ready := fun_mk (st := s_Turns_first_ready) l_Turns_first_ready c_Turns_first_ready k_Turns_first_ready,
    b_Turns_first_ready := (fun_mk (st := s_Turns_first_ready) l_Turns_first_ready c_Turns_first_ready k_Turns_first_ready).binds (ps := ["self"]) fun _ _ _ _ _ _ us hl => match us, hl with | [_], _ => rfl,
    m_Turns_first_ready := ⟨g_Turns_first_ready, i_Turns_first_ready, k_Turns_first_ready⟩,
    a_Turns_next := a_Turns_next,
    d_Turns_next := (PySem.W.fnOf "next" "Turns.next" (defArgs s_Turns_next) (defBody s_Turns_next) (defScope s_Turns_next) .none kV_Turns_next dc_Turns_next pm_Turns_next an_Turns_next cd_Turns_next ct_Turns_next),
    f_Turns_next := fun_mk (st := s_Turns_next) l_Turns_next c_Turns_next k_Turns_next,
    b_Turns_next := (fun_mk (st := s_Turns_next) l_Turns_next c_Turns_next k_Turns_next).binds (ps := ["self"]) fun _ _ _ _ _ _ us hl => match us, hl with | [_], _ => rfl,
    m_Turns_next := ⟨g_Turns_next, i_Turns_next, k_Turns_next⟩,
    a_Turns_slice_over := a_Turns_slice_over,
    d_Turns_slice_over := (PySem.W.fnOf "slice_over" "Turns.slice_over" (defArgs s_Turns_slice_over) (defBody s_Turns_slice_over) (defScope s_Turns_slice_over) .none kV_Turns_slice_over dc_Turns_slice_over pm_Turns_slice_over an_Turns_slice_over cd_Turns_slice_over ct_Turns_slice_over),
    f_Turns_slice_over := fun_mk (st := s_Turns_slice_over) l_Turns_slice_over c_Turns_slice_over k_Turns_slice_over,
    b_Turns_slice_over := (fun_mk (st := s_Turns_slice_over) l_Turns_slice_over c_Turns_slice_over k_Turns_slice_over).binds (ps := ["self"]) fun _ _ _ _ _ _ us hl => match us, hl with | [_], _ => rfl,
    m_Turns_slice_over := ⟨g_Turns_slice_over, i_Turns_slice_over, k_Turns_slice_over⟩,
    a_Turns_counted := a_Turns_counted,
    d_Turns_counted := (PySem.W.fnOf "counted" "Turns.counted" (defArgs s_Turns_counted) (defBody s_Turns_counted) (defScope s_Turns_counted) .none kV_Turns_counted dc_Turns_counted pm_Turns_counted an_Turns_counted cd_Turns_counted ct_Turns_counted),
    f_Turns_counted := fun_mk (st := s_Turns_counted) l_Turns_counted c_Turns_counted k_Turns_counted,
    b_Turns_counted := (fun_mk (st := s_Turns_counted) l_Turns_counted c_Turns_counted k_Turns_counted).binds (ps := ["self"]) fun _ _ _ _ _ _ us hl => match us, hl with | [_], _ => rfl,
    m_Turns_counted := ⟨g_Turns_counted, i_Turns_counted, k_Turns_counted⟩,
    a_Turns_went := a_Turns_went,
    d_Turns_went := (PySem.W.fnOf "went" "Turns.went" (defArgs s_Turns_went) (defBody s_Turns_went) (defScope s_Turns_went) .none kV_Turns_went dc_Turns_went pm_Turns_went an_Turns_went cd_Turns_went ct_Turns_went),
    f_Turns_went := fun_mk (st := s_Turns_went) l_Turns_went c_Turns_went k_Turns_went,
    b_Turns_went := (fun_mk (st := s_Turns_went) l_Turns_went c_Turns_went k_Turns_went).binds (ps := ["self"]) fun _ _ _ _ _ _ us hl => match us, hl with | [_], _ => rfl,
    m_Turns_went := ⟨g_Turns_went, i_Turns_went, k_Turns_went⟩,
    a_Turns_passes := a_Turns_passes,
    d_Turns_passes := (PySem.W.fnOf "passes" "Turns.passes" (defArgs s_Turns_passes) (defBody s_Turns_passes) (defScope s_Turns_passes) .none kV_Turns_passes dc_Turns_passes pm_Turns_passes an_Turns_passes cd_Turns_passes ct_Turns_passes),
    f_Turns_passes := fun_mk (st := s_Turns_passes) l_Turns_passes c_Turns_passes k_Turns_passes,
    b_Turns_passes := (fun_mk (st := s_Turns_passes) l_Turns_passes c_Turns_passes k_Turns_passes).binds (ps := ["self"]) fun _ _ _ _ _ _ us hl => match us, hl with | [_], _ => rfl,
    m_Turns_passes := ⟨g_Turns_passes, i_Turns_passes, k_Turns_passes⟩,
    a_Turns_waits := a_Turns_waits,
    d_Turns_waits := (PySem.W.fnOf "waits" "Turns.waits" (defArgs s_Turns_waits) (defBody s_Turns_waits) (defScope s_Turns_waits) .none kV_Turns_waits dc_Turns_waits pm_Turns_waits an_Turns_waits cd_Turns_waits ct_Turns_waits),
    f_Turns_waits := fun_mk (st := s_Turns_waits) l_Turns_waits c_Turns_waits k_Turns_waits,
    b_Turns_waits := (fun_mk (st := s_Turns_waits) l_Turns_waits c_Turns_waits k_Turns_waits).binds (ps := ["self"]) fun _ _ _ _ _ _ us hl => match us, hl with | [_], _ => rfl,
    m_Turns_waits := ⟨g_Turns_waits, i_Turns_waits, k_Turns_waits⟩,
    a_Turns_ends := a_Turns_ends,
    d_Turns_ends := (PySem.W.fnOf "ends" "Turns.ends" (defArgs s_Turns_ends) (defBody s_Turns_ends) (defScope s_Turns_ends) .none kV_Turns_ends dc_Turns_ends pm_Turns_ends an_Turns_ends cd_Turns_ends ct_Turns_ends),
    f_Turns_ends := fun_mk (st := s_Turns_ends) l_Turns_ends c_Turns_ends k_Turns_ends,
    b_Turns_ends := (fun_mk (st := s_Turns_ends) l_Turns_ends c_Turns_ends k_Turns_ends).binds (ps := ["self"]) fun _ _ _ _ _ _ us hl => match us, hl with | [_], _ => rfl,
    m_Turns_ends := ⟨g_Turns_ends, i_Turns_ends, k_Turns_ends⟩,
    a_Turns_wakes := a_Turns_wakes,
    d_Turns_wakes := (PySem.W.fnOf "wakes" "Turns.wakes" (defArgs s_Turns_wakes) (defBody s_Turns_wakes) (defScope s_Turns_wakes) .none kV_Turns_wakes dc_Turns_wakes pm_Turns_wakes an_Turns_wakes cd_Turns_wakes ct_Turns_wakes),
    f_Turns_wakes := fun_mk (st := s_Turns_wakes) l_Turns_wakes c_Turns_wakes k_Turns_wakes,
    b_Turns_wakes := (fun_mk (st := s_Turns_wakes) l_Turns_wakes c_Turns_wakes k_Turns_wakes).binds (ps := ["self", "number"]) fun _ _ _ _ _ _ us hl => match us, hl with | [_, _], _ => rfl,
    m_Turns_wakes := ⟨g_Turns_wakes, i_Turns_wakes, k_Turns_wakes⟩,
    a_Turns_leaves := a_Turns_leaves,
    d_Turns_leaves := (PySem.W.fnOf "leaves" "Turns.leaves" (defArgs s_Turns_leaves) (defBody s_Turns_leaves) (defScope s_Turns_leaves) .none kV_Turns_leaves dc_Turns_leaves pm_Turns_leaves an_Turns_leaves cd_Turns_leaves ct_Turns_leaves),
    f_Turns_leaves := fun_mk (st := s_Turns_leaves) l_Turns_leaves c_Turns_leaves k_Turns_leaves,
    b_Turns_leaves := (fun_mk (st := s_Turns_leaves) l_Turns_leaves c_Turns_leaves k_Turns_leaves).binds (ps := ["self", "number"]) fun _ _ _ _ _ _ us hl => match us, hl with | [_, _], _ => rfl,
    m_Turns_leaves := ⟨g_Turns_leaves, i_Turns_leaves, k_Turns_leaves⟩,
    a_Turns_told := a_Turns_told,
    d_Turns_told := (PySem.W.fnOf "told" "Turns.told" (defArgs s_Turns_told) (defBody s_Turns_told) (defScope s_Turns_told) .none kV_Turns_told dc_Turns_told pm_Turns_told an_Turns_told cd_Turns_told ct_Turns_told),
    f_Turns_told := fun_mk (st := s_Turns_told) l_Turns_told c_Turns_told k_Turns_told,
    b_Turns_told := (fun_mk (st := s_Turns_told) l_Turns_told c_Turns_told k_Turns_told).binds (ps := ["self"]) fun _ _ _ _ _ _ us hl => match us, hl with | [_], _ => rfl,
    m_Turns_told := ⟨g_Turns_told, i_Turns_told, k_Turns_told⟩,
    a_Turns_left := a_Turns_left,
    d_Turns_left := (PySem.W.fnOf "left" "Turns.left" (defArgs s_Turns_left) (defBody s_Turns_left) (defScope s_Turns_left) .none kV_Turns_left dc_Turns_left pm_Turns_left an_Turns_left cd_Turns_left ct_Turns_left),
    f_Turns_left := fun_mk (st := s_Turns_left) l_Turns_left c_Turns_left k_Turns_left,
    b_Turns_left := (fun_mk (st := s_Turns_left) l_Turns_left c_Turns_left k_Turns_left).binds (ps := ["self"]) fun _ _ _ _ _ _ us hl => match us, hl with | [_], _ => rfl,
    m_Turns_left := ⟨g_Turns_left, i_Turns_left, k_Turns_left⟩,
    a_Turns_level := a_Turns_level,
    d_Turns_level := (PySem.W.fnOf "level" "Turns.level" (defArgs s_Turns_level) (defBody s_Turns_level) (defScope s_Turns_level) .none kV_Turns_level dc_Turns_level pm_Turns_level an_Turns_level cd_Turns_level ct_Turns_level),
    f_Turns_level := fun_mk (st := s_Turns_level) l_Turns_level c_Turns_level k_Turns_level,
    b_Turns_level := (fun_mk (st := s_Turns_level) l_Turns_level c_Turns_level k_Turns_level).binds (ps := ["self", "number"]) fun _ _ _ _ _ _ us hl => match us, hl with | [_, _], _ => rfl,
    m_Turns_level := ⟨g_Turns_level, i_Turns_level, k_Turns_level⟩,
    a_law_mixed := a_law_mixed,
    d_law_mixed := (PySem.W.fnOf "_law_mixed" "_law_mixed" (defArgs s_law_mixed) (defBody s_law_mixed) (defScope s_law_mixed) .none kV_law_mixed dc_law_mixed pm_law_mixed an_law_mixed cd_law_mixed ct_law_mixed),
    f_law_mixed := fun_mk (st := s_law_mixed) l_law_mixed c_law_mixed k_law_mixed,
    b_law_mixed := (fun_mk (st := s_law_mixed) l_law_mixed c_law_mixed k_law_mixed).binds (ps := ["_law_cell", "_law_k"]) fun _ _ _ _ _ _ us hl => match us, hl with | [_, _], _ => rfl,
    g_law_mixed := PySem.W.mg_of X G g_law_mixed,
    a_law_hand := a_law_hand,
    d_law_hand := (PySem.W.fnOf "_law_hand" "_law_hand" (defArgs s_law_hand) (defBody s_law_hand) (defScope s_law_hand) .none kV_law_hand dc_law_hand pm_law_hand an_law_hand cd_law_hand ct_law_hand),
    f_law_hand := fun_mk (st := s_law_hand) l_law_hand c_law_hand k_law_hand,
    b_law_hand := (fun_mk (st := s_law_hand) l_law_hand c_law_hand k_law_hand).binds (ps := ["_law_script", "_law_k"]) fun _ _ _ _ _ _ us hl => match us, hl with | [_, _], _ => rfl,
    g_law_hand := PySem.W.mg_of X G g_law_hand,
    a_law_from := a_law_from,
    d_law_from := (PySem.W.fnOf "_law_from" "_law_from" (defArgs s_law_from) (defBody s_law_from) (defScope s_law_from) .none kV_law_from dc_law_from pm_law_from an_law_from cd_law_from ct_law_from),
    f_law_from := fun_mk (st := s_law_from) l_law_from c_law_from k_law_from,
    b_law_from := (fun_mk (st := s_law_from) l_law_from c_law_from k_law_from).binds (ps := ["_law_hand_here", "_law_many"]) fun _ _ _ _ _ _ us hl => match us, hl with | [_, _], _ => rfl,
    g_law_from := PySem.W.mg_of X G g_law_from,
    a_law_new_turns := a_law_new_turns,
    d_law_new_turns := (PySem.W.fnOf "_law_new_turns" "_law_new_turns" (defArgs s_law_new_turns) (defBody s_law_new_turns) (defScope s_law_new_turns) .none kV_law_new_turns dc_law_new_turns pm_law_new_turns an_law_new_turns cd_law_new_turns ct_law_new_turns),
    f_law_new_turns := fun_mk (st := s_law_new_turns) l_law_new_turns c_law_new_turns k_law_new_turns,
    b_law_new_turns := (fun_mk (st := s_law_new_turns) l_law_new_turns c_law_new_turns k_law_new_turns).binds (ps := []) fun _ _ _ _ _ _ us hl => match us, hl with | [], _ => rfl,
    g_law_new_turns := PySem.W.mg_of X G g_law_new_turns,
    a_law_stood := a_law_stood,
    d_law_stood := (PySem.W.fnOf "_law_stood" "_law_stood" (defArgs s_law_stood) (defBody s_law_stood) (defScope s_law_stood) .none kV_law_stood dc_law_stood pm_law_stood an_law_stood cd_law_stood ct_law_stood),
    f_law_stood := fun_mk (st := s_law_stood) l_law_stood c_law_stood k_law_stood,
    b_law_stood := (fun_mk (st := s_law_stood) l_law_stood c_law_stood k_law_stood).binds (ps := ["_law_own", "_law_number", "_law_level"]) fun _ _ _ _ _ _ us hl => match us, hl with | [_, _, _], _ => rfl,
    g_law_stood := PySem.W.mg_of X G g_law_stood,
    a_law_out := a_law_out,
    d_law_out := (PySem.W.fnOf "_law_out" "_law_out" (defArgs s_law_out) (defBody s_law_out) (defScope s_law_out) .none kV_law_out dc_law_out pm_law_out an_law_out cd_law_out ct_law_out),
    f_law_out := fun_mk (st := s_law_out) l_law_out c_law_out k_law_out,
    b_law_out := (fun_mk (st := s_law_out) l_law_out c_law_out k_law_out).binds (ps := ["_law_own", "_law_number"]) fun _ _ _ _ _ _ us hl => match us, hl with | [_, _], _ => rfl,
    g_law_out := PySem.W.mg_of X G g_law_out,
    a_law_next := a_law_next,
    d_law_next := (PySem.W.fnOf "_law_next" "_law_next" (defArgs s_law_next) (defBody s_law_next) (defScope s_law_next) .none kV_law_next dc_law_next pm_law_next an_law_next cd_law_next ct_law_next),
    f_law_next := fun_mk (st := s_law_next) l_law_next c_law_next k_law_next,
    b_law_next := (fun_mk (st := s_law_next) l_law_next c_law_next k_law_next).binds (ps := ["_law_own"]) fun _ _ _ _ _ _ us hl => match us, hl with | [_], _ => rfl,
    g_law_next := PySem.W.mg_of X G g_law_next,
    a_law_stepped := a_law_stepped,
    d_law_stepped := (PySem.W.fnOf "_law_stepped" "_law_stepped" (defArgs s_law_stepped) (defBody s_law_stepped) (defScope s_law_stepped) .none kV_law_stepped dc_law_stepped pm_law_stepped an_law_stepped cd_law_stepped ct_law_stepped),
    f_law_stepped := fun_mk (st := s_law_stepped) l_law_stepped c_law_stepped k_law_stepped,
    b_law_stepped := (fun_mk (st := s_law_stepped) l_law_stepped c_law_stepped k_law_stepped).binds (ps := ["_law_own", "_law_how"]) fun _ _ _ _ _ _ us hl => match us, hl with | [_, _], _ => rfl,
    g_law_stepped := PySem.W.mg_of X G g_law_stepped,
    a_law_woken := a_law_woken,
    d_law_woken := (PySem.W.fnOf "_law_woken" "_law_woken" (defArgs s_law_woken) (defBody s_law_woken) (defScope s_law_woken) .none kV_law_woken dc_law_woken pm_law_woken an_law_woken cd_law_woken ct_law_woken),
    f_law_woken := fun_mk (st := s_law_woken) l_law_woken c_law_woken k_law_woken,
    b_law_woken := (fun_mk (st := s_law_woken) l_law_woken c_law_woken k_law_woken).binds (ps := ["_law_own", "_law_number"]) fun _ _ _ _ _ _ us hl => match us, hl with | [_, _], _ => rfl,
    g_law_woken := PySem.W.mg_of X G g_law_woken,
    a_law_left := a_law_left,
    d_law_left := (PySem.W.fnOf "_law_left" "_law_left" (defArgs s_law_left) (defBody s_law_left) (defScope s_law_left) .none kV_law_left dc_law_left pm_law_left an_law_left cd_law_left ct_law_left),
    f_law_left := fun_mk (st := s_law_left) l_law_left c_law_left k_law_left,
    b_law_left := (fun_mk (st := s_law_left) l_law_left c_law_left k_law_left).binds (ps := ["_law_own", "_law_number"]) fun _ _ _ _ _ _ us hl => match us, hl with | [_, _], _ => rfl,
    g_law_left := PySem.W.mg_of X G g_law_left,
    a_law_step_done := a_law_step_done,
    d_law_step_done := (PySem.W.fnOf "_law_step_done" "_law_step_done" (defArgs s_law_step_done) (defBody s_law_step_done) (defScope s_law_step_done) .none kV_law_step_done dc_law_step_done pm_law_step_done an_law_step_done cd_law_step_done ct_law_step_done),
    f_law_step_done := fun_mk (st := s_law_step_done) l_law_step_done c_law_step_done k_law_step_done,
    b_law_step_done := (fun_mk (st := s_law_step_done) l_law_step_done c_law_step_done k_law_step_done).binds (ps := ["_law_turns", "_law_how"]) fun _ _ _ _ _ _ us hl => match us, hl with | [_, _], _ => rfl,
    g_law_step_done := PySem.W.mg_of X G g_law_step_done,
    a_law_deed := a_law_deed,
    d_law_deed := (PySem.W.fnOf "_law_deed" "_law_deed" (defArgs s_law_deed) (defBody s_law_deed) (defScope s_law_deed) .none kV_law_deed dc_law_deed pm_law_deed an_law_deed cd_law_deed ct_law_deed),
    f_law_deed := fun_mk (st := s_law_deed) l_law_deed c_law_deed k_law_deed,
    b_law_deed := (fun_mk (st := s_law_deed) l_law_deed c_law_deed k_law_deed).binds (ps := ["_law_turns", "_law_own", "_law_hand_here"]) fun _ _ _ _ _ _ us hl => match us, hl with | [_, _, _], _ => rfl,
    g_law_deed := PySem.W.mg_of X G g_law_deed,
    a_law_without := a_law_without,
    d_law_without := (PySem.W.fnOf "_law_without" "_law_without" (defArgs s_law_without) (defBody s_law_without) (defScope s_law_without) .none kV_law_without dc_law_without pm_law_without an_law_without cd_law_without ct_law_without),
    f_law_without := fun_mk (st := s_law_without) l_law_without c_law_without k_law_without,
    b_law_without := (fun_mk (st := s_law_without) l_law_without c_law_without k_law_without).binds (ps := ["_law_turns", "_law_number"]) fun _ _ _ _ _ _ us hl => match us, hl with | [_, _], _ => rfl,
    g_law_without := PySem.W.mg_of X G g_law_without,
    a_law_orderly := a_law_orderly,
    d_law_orderly := (PySem.W.fnOf "_law_orderly" "_law_orderly" (defArgs s_law_orderly) (defBody s_law_orderly) (defScope s_law_orderly) .none kV_law_orderly dc_law_orderly pm_law_orderly an_law_orderly cd_law_orderly ct_law_orderly),
    f_law_orderly := fun_mk (st := s_law_orderly) l_law_orderly c_law_orderly k_law_orderly,
    b_law_orderly := (fun_mk (st := s_law_orderly) l_law_orderly c_law_orderly k_law_orderly).binds (ps := ["_law_turns", "_law_own", "_law_hand_here"]) fun _ _ _ _ _ _ us hl => match us, hl with | [_, _, _], _ => rfl,
    g_law_orderly := PySem.W.mg_of X G g_law_orderly,
    a_law_once := a_law_once,
    d_law_once := (PySem.W.fnOf "_law_once" "_law_once" (defArgs s_law_once) (defBody s_law_once) (defScope s_law_once) .none kV_law_once dc_law_once pm_law_once an_law_once cd_law_once ct_law_once),
    f_law_once := fun_mk (st := s_law_once) l_law_once c_law_once k_law_once,
    b_law_once := (fun_mk (st := s_law_once) l_law_once c_law_once k_law_once).binds (ps := ["_law_turns", "_law_own"]) fun _ _ _ _ _ _ us hl => match us, hl with | [_, _], _ => rfl,
    g_law_once := PySem.W.mg_of X G g_law_once,
    a_law := fa,
    d_law := (PySem.W.fnOf "law" "law" (defArgs s_law) (defBody s_law) (defScope s_law) .none kV_law dc_law pm_law an_law cd_law ct_law),
    f_law := fun_mk (st := s_law) l_law c_law k_law,
    b_law := (fun_mk (st := s_law) l_law c_law k_law).binds (ps := ["_law_script"]) fun _ _ _ _ _ _ us hl => match us, hl with | [_], _ => rfl,
    g_law := PySem.W.mg_of X G g_law,
    g_LEVELS := ⟨_, PySem.W.mg_of X G g_LEVELS⟩,
    g_LIFT := ⟨_, PySem.W.mg_of X G g_LIFT⟩,
    a_SLICES := a_SLICES,
    g_SLICES := PySem.W.mg_of X G g_SLICES,
    t_SLICES := fun H => sqT_K l_SLICES (by decide) (.cons ⟨_, rfl⟩ (.cons ⟨_, rfl⟩ (.cons ⟨_, rfl⟩ (.cons ⟨_, rfl⟩ .nil)))),
    n_dict := PySem.W.mg_none_of X G n_dict,
    n_int := PySem.W.mg_none_of X G n_int,
    n_len := PySem.W.mg_none_of X G n_len,
    n_list := PySem.W.mg_none_of X G n_list,
    n_max := PySem.W.mg_none_of X G n_max,
    n_min := PySem.W.mg_none_of X G n_min,
    n_range := PySem.W.mg_none_of X G n_range,
    n_repr := PySem.W.mg_none_of X G n_repr,
    n_set := PySem.W.mg_none_of X G n_set,
    n_sorted := PySem.W.mg_none_of X G n_sorted,
    n_sum := PySem.W.mg_none_of X G n_sum,
    n_tuple := PySem.W.mg_none_of X G n_tuple
    }, rfl, rfl⟩
  obtain ⟨T, e1, e2⟩ := T
  refine ⟨PySem.W.fnOf "law" "law" (defArgs s_law) (defBody s_law) (defScope s_law) .none kV_law dc_law pm_law an_law cd_law ct_law, fun s v => .of_eq rfl, fun base _ _ => ?_⟩
  have z := ok_law (P := l.prog) (w := w) (base := base) T
  rw [e1, e2] at z
  exact z
theorem walk {l : PySem.W.OpenLaw} {q : Program} {loose : List Str} {XP : (Str → Option Value) → Heap → Prop} {YP : World → Heap → Prop} {d : DefRec} {K : Params → PySem.W.Frag} (hn : l.most = some 63) (hdf : d.params.defaults = [])
    (hY : ∀ (w : World) (h : Heap), YP w h → (K w.params).In h)
    (F : ∀ (w : World) (mg : Str → Option Value) (fa : Addr) (h : Heap), (K w.params).In h → h.Ns mainGlobals mg → mg d.name = some (.ref fa) →
      ∃ fd : FuncData, (∀ (s : Shared) (u : Value), BindsTo s fd ⟨[u], []⟩ [("_law_script", u)]) ∧ ∀ base : Heap, (K w.params).In base → base.Ns mainGlobals mg → FnG l.prog w (K w.params) mg base CX0 6 fa fd ["_law_script"] (sp_law (K w.params))) :
    PySem.W.WalkO q loose XP YP l.row.toRowW d [] (fun f vs => PySem.call f vs) :=
  Sl.walkG (n := 63) (k := 6) (x := "_law_script") (sp := sp_law) hn (by decide) hdf ⟨rfl, by decide, by decide⟩ hY F (fun _ _ a ns hl _ hS => ⟨a, ns, rfl, hl, Hd.one hS, fun _ => rfl⟩)
end My
open PySem PySem.W PyProof.Rows in
set_option maxRecDepth 100000 in
set_option maxHeartbeats 0 in
theorem PySem.Challenge.cw_keelroom_k36_whole_just_once_holds : PySem.Challenge.rw_keelroom_k36_whole_just_once.Holds := by
  w_on; o_law; k_head; (case hw => w_witness2)
  k_fill
  refine My.walk (l := PySem.Challenge.rw_keelroom_k36_whole_just_once) rfl rfl (fun w h Y => PySem.W.kIn_of Y) ?F
  case F =>
    intro w mg fa h KX G hmg
    refine' My.all_mk KX G hmg ?h1_Turns ?h2_Turns ?h3_Turns ?h4_Turns ?h5_Turns ?h6_Turns ?h7_Turns ?n_Turns_queues ?n_Turns_depths ?n_Turns_runs ?n_Turns_rest ?n_Turns_steps ?g_Turns_init ?i_Turns_init ?l_Turns_init ?c_Turns_init ?k_Turns_init ?g_Turns_stand ?i_Turns_stand ?l_Turns_stand ?c_Turns_stand ?k_Turns_stand ?g_Turns_step_out ?i_Turns_step_out ?l_Turns_step_out ?c_Turns_step_out ?k_Turns_step_out ?g_Turns_add ?i_Turns_add ?l_Turns_add ?c_Turns_add ?k_Turns_add ?g_Turns_first_ready ?i_Turns_first_ready ?l_Turns_first_ready ?c_Turns_first_ready ?k_Turns_first_ready ?g_Turns_next ?i_Turns_next ?l_Turns_next ?c_Turns_next ?k_Turns_next ?g_Turns_slice_over ?i_Turns_slice_over ?l_Turns_slice_over ?c_Turns_slice_over ?k_Turns_slice_over ?g_Turns_counted ?i_Turns_counted ?l_Turns_counted ?c_Turns_counted ?k_Turns_counted ?g_Turns_went ?i_Turns_went ?l_Turns_went ?c_Turns_went ?k_Turns_went ?g_Turns_passes ?i_Turns_passes ?l_Turns_passes ?c_Turns_passes ?k_Turns_passes ?g_Turns_waits ?i_Turns_waits ?l_Turns_waits ?c_Turns_waits ?k_Turns_waits ?g_Turns_ends ?i_Turns_ends ?l_Turns_ends ?c_Turns_ends ?k_Turns_ends ?g_Turns_wakes ?i_Turns_wakes ?l_Turns_wakes ?c_Turns_wakes ?k_Turns_wakes ?g_Turns_leaves ?i_Turns_leaves ?l_Turns_leaves ?c_Turns_leaves ?k_Turns_leaves ?g_Turns_told ?i_Turns_told ?l_Turns_told ?c_Turns_told ?k_Turns_told ?g_Turns_left ?i_Turns_left ?l_Turns_left ?c_Turns_left ?k_Turns_left ?g_Turns_level ?i_Turns_level ?l_Turns_level ?c_Turns_level ?k_Turns_level ?g_law_mixed ?l_law_mixed ?c_law_mixed ?k_law_mixed ?g_law_hand ?l_law_hand ?c_law_hand ?k_law_hand ?g_law_from ?l_law_from ?c_law_from ?k_law_from ?g_law_new_turns ?l_law_new_turns ?c_law_new_turns ?k_law_new_turns ?g_law_stood ?l_law_stood ?c_law_stood ?k_law_stood ?g_law_out ?l_law_out ?c_law_out ?k_law_out ?g_law_next ?l_law_next ?c_law_next ?k_law_next ?g_law_stepped ?l_law_stepped ?c_law_stepped ?k_law_stepped ?g_law_woken ?l_law_woken ?c_law_woken ?k_law_woken ?g_law_left ?l_law_left ?c_law_left ?k_law_left ?g_law_step_done ?l_law_step_done ?c_law_step_done ?k_law_step_done ?g_law_deed ?l_law_deed ?c_law_deed ?k_law_deed ?g_law_without ?l_law_without ?c_law_without ?k_law_without ?g_law_orderly ?l_law_orderly ?c_law_orderly ?k_law_orderly ?g_law_once ?l_law_once ?c_law_once ?k_law_once ?g_law ?l_law ?c_law ?k_law ?g_LEVELS ?g_LIFT ?g_SLICES ?l_SLICES ?n_dict ?n_int ?n_len ?n_list ?n_max ?n_min ?n_range ?n_repr ?n_set ?n_sorted ?n_sum ?n_tuple
    (case h1_Turns => k_is)
    (case h2_Turns => k_is)
    (case h3_Turns => k_is)
    (case h4_Turns => k_is)
    (case h5_Turns => k_is)
    (case h6_Turns => k_is)
    (case h7_Turns => k_is)
    (case n_Turns_queues => k_is)
    (case n_Turns_depths => k_is)
    (case n_Turns_runs => k_is)
    (case n_Turns_rest => k_is)
    (case n_Turns_steps => k_is)
    (case g_Turns_init => k_is)
    (case i_Turns_init => k_is)
    (case l_Turns_init => k_is)
    (case c_Turns_init => k_is)
    (case k_Turns_init => k_is)
    (case g_Turns_stand => k_is)
    (case i_Turns_stand => k_is)
    (case l_Turns_stand => k_is)
    (case c_Turns_stand => k_is)
    (case k_Turns_stand => k_is)
    (case g_Turns_step_out => k_is)
    (case i_Turns_step_out => k_is)
    (case l_Turns_step_out => k_is)
    (case c_Turns_step_out => k_is)
    (case k_Turns_step_out => k_is)
    (case g_Turns_add => k_is)
    (case i_Turns_add => k_is)
    (case l_Turns_add => k_is)
    (case c_Turns_add => k_is)
    (case k_Turns_add => k_is)
    (case g_Turns_first_ready => k_is)
    (case i_Turns_first_ready => k_is)
    (case l_Turns_first_ready => k_is)
    (case c_Turns_first_ready => k_is)
    (case k_Turns_first_ready => k_is)
    (case g_Turns_next => k_is)
    (case i_Turns_next => k_is)
    (case l_Turns_next => k_is)
    (case c_Turns_next => k_is)
    (case k_Turns_next => k_is)
    (case g_Turns_slice_over => k_is)
    (case i_Turns_slice_over => k_is)
    (case l_Turns_slice_over => k_is)
    (case c_Turns_slice_over => k_is)
    (case k_Turns_slice_over => k_is)
    (case g_Turns_counted => k_is)
    (case i_Turns_counted => k_is)
    (case l_Turns_counted => k_is)
    (case c_Turns_counted => k_is)
    (case k_Turns_counted => k_is)
    (case g_Turns_went => k_is)
    (case i_Turns_went => k_is)
    (case l_Turns_went => k_is)
    (case c_Turns_went => k_is)
    (case k_Turns_went => k_is)
    (case g_Turns_passes => k_is)
    (case i_Turns_passes => k_is)
    (case l_Turns_passes => k_is)
    (case c_Turns_passes => k_is)
    (case k_Turns_passes => k_is)
    (case g_Turns_waits => k_is)
    (case i_Turns_waits => k_is)
    (case l_Turns_waits => k_is)
    (case c_Turns_waits => k_is)
    (case k_Turns_waits => k_is)
    (case g_Turns_ends => k_is)
    (case i_Turns_ends => k_is)
    (case l_Turns_ends => k_is)
    (case c_Turns_ends => k_is)
    (case k_Turns_ends => k_is)
    (case g_Turns_wakes => k_is)
    (case i_Turns_wakes => k_is)
    (case l_Turns_wakes => k_is)
    (case c_Turns_wakes => k_is)
    (case k_Turns_wakes => k_is)
    (case g_Turns_leaves => k_is)
    (case i_Turns_leaves => k_is)
    (case l_Turns_leaves => k_is)
    (case c_Turns_leaves => k_is)
    (case k_Turns_leaves => k_is)
    (case g_Turns_told => k_is)
    (case i_Turns_told => k_is)
    (case l_Turns_told => k_is)
    (case c_Turns_told => k_is)
    (case k_Turns_told => k_is)
    (case g_Turns_left => k_is)
    (case i_Turns_left => k_is)
    (case l_Turns_left => k_is)
    (case c_Turns_left => k_is)
    (case k_Turns_left => k_is)
    (case g_Turns_level => k_is)
    (case i_Turns_level => k_is)
    (case l_Turns_level => k_is)
    (case c_Turns_level => k_is)
    (case k_Turns_level => k_is)
    (case g_law_mixed => k_is)
    (case l_law_mixed => k_is)
    (case c_law_mixed => k_is)
    (case k_law_mixed => k_is)
    (case g_law_hand => k_is)
    (case l_law_hand => k_is)
    (case c_law_hand => k_is)
    (case k_law_hand => k_is)
    (case g_law_from => k_is)
    (case l_law_from => k_is)
    (case c_law_from => k_is)
    (case k_law_from => k_is)
    (case g_law_new_turns => k_is)
    (case l_law_new_turns => k_is)
    (case c_law_new_turns => k_is)
    (case k_law_new_turns => k_is)
    (case g_law_stood => k_is)
    (case l_law_stood => k_is)
    (case c_law_stood => k_is)
    (case k_law_stood => k_is)
    (case g_law_out => k_is)
    (case l_law_out => k_is)
    (case c_law_out => k_is)
    (case k_law_out => k_is)
    (case g_law_next => k_is)
    (case l_law_next => k_is)
    (case c_law_next => k_is)
    (case k_law_next => k_is)
    (case g_law_stepped => k_is)
    (case l_law_stepped => k_is)
    (case c_law_stepped => k_is)
    (case k_law_stepped => k_is)
    (case g_law_woken => k_is)
    (case l_law_woken => k_is)
    (case c_law_woken => k_is)
    (case k_law_woken => k_is)
    (case g_law_left => k_is)
    (case l_law_left => k_is)
    (case c_law_left => k_is)
    (case k_law_left => k_is)
    (case g_law_step_done => k_is)
    (case l_law_step_done => k_is)
    (case c_law_step_done => k_is)
    (case k_law_step_done => k_is)
    (case g_law_deed => k_is)
    (case l_law_deed => k_is)
    (case c_law_deed => k_is)
    (case k_law_deed => k_is)
    (case g_law_without => k_is)
    (case l_law_without => k_is)
    (case c_law_without => k_is)
    (case k_law_without => k_is)
    (case g_law_orderly => k_is)
    (case l_law_orderly => k_is)
    (case c_law_orderly => k_is)
    (case k_law_orderly => k_is)
    (case g_law_once => k_is)
    (case l_law_once => k_is)
    (case c_law_once => k_is)
    (case k_law_once => k_is)
    (case g_law => k_is)
    (case l_law => k_is)
    (case c_law => k_is)
    (case k_law => k_is)
    (case g_LEVELS => k_is)
    (case g_LIFT => k_is)
    (case g_SLICES => k_is)
    (case l_SLICES => k_is)
    (case n_dict => k_is)
    (case n_int => k_is)
    (case n_len => k_is)
    (case n_list => k_is)
    (case n_max => k_is)
    (case n_min => k_is)
    (case n_range => k_is)
    (case n_repr => k_is)
    (case n_set => k_is)
    (case n_sorted => k_is)
    (case n_sum => k_is)
    (case n_tuple => k_is)
#print axioms PySem.Challenge.cw_keelroom_k36_whole_just_once_holds
