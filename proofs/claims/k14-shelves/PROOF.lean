import PyProof.Rows.All
import Wide.All
import OpenK.AllK
import Wide.FinOn
import HandS.ForMost
import HandS.Walk
import HandS.Flow
import HandS.IsInst
import HandS.Conv
import HandS.Zip
import HandS.SetFor
import HandS.SortInts
import HandS.TupAny
import HandS.TupMul
import HandS.Wide
import HandS.More
import PySem.Challenge.RW_keelroom_k14_shelves
set_option Elab.async false
set_option maxRecDepth 100000
set_option maxHeartbeats 1000000
set_option linter.unusedVariables false
set_option maxRecDepth 100000
namespace Sl
open PySem L2

/-! ### heaps in pieces -/
abbrev SA := Hp → Prop
def Imm : HO → Prop
  | .tup _ => True
  | _ => False
def Cmp (H1 H2 : Hp) : Prop := ∀ a o1 o2, H1 a = some o1 → H2 a = some o2 → o1 = o2 ∧ Imm o1
def Sub (H1 H2 : Hp) : Prop := ∀ a o, H1 a = some o → H2 a = some o
theorem Sub.refl (H : Hp) : Sub H H := fun _ _ h => h
theorem Sub.trans {H1 H2 H3 : Hp} (a : Sub H1 H2) (b : Sub H2 H3) : Sub H1 H3 := fun x o h => b x o (a x o h)
theorem Cmp.symm {H1 H2 : Hp} (c : Cmp H1 H2) : Cmp H2 H1 := fun a o1 o2 h1 h2 => by
  obtain ⟨e, i⟩ := c a o2 o1 h2 h1
  subst e
  exact ⟨rfl, i⟩
theorem Cmp.sub {H1 H2 G1 G2 : Hp} (c : Cmp H1 H2) (a : Sub G1 H1) (b : Sub G2 H2) : Cmp G1 G2 := fun x o1 o2 h1 h2 => c x o1 o2 (a x o1 h1) (b x o2 h2)
def uni (H1 H2 : Hp) : Hp := fun a => match H1 a with
  | some o => some o
  | none => H2 a
theorem uni_l (H1 H2 : Hp) : Sub H1 (uni H1 H2) := fun a o h => by
  unfold uni
  rw [h]
theorem uni_r {H1 H2 : Hp} (c : Cmp H1 H2) : Sub H2 (uni H1 H2) := fun a o h => by
  unfold uni
  cases e : H1 a with
  | none => exact h
  | some o1 =>
    obtain ⟨e2, _⟩ := c a o1 o e h
    rw [e2]
theorem uni_or {H1 H2 : Hp} {a : Addr} {o : HO} (h : uni H1 H2 a = some o) : H1 a = some o ∨ H2 a = some o := by
  unfold uni at h
  cases e : H1 a with
  | none =>
    rw [e] at h
    exact .inr h
  | some o1 =>
    rw [e] at h
    exact .inl h
theorem uni_sub {H1 H2 H : Hp} (a : Sub H1 H) (b : Sub H2 H) : Sub (uni H1 H2) H := fun x o h => (uni_or h).elim (a x o) (b x o)
theorem uni_cmp {H1 H2 H : Hp} (a : Cmp H H1) (b : Cmp H H2) : Cmp H (uni H1 H2) := fun x o1 o2 h1 h2 => (uni_or h2).elim (a x o1 o2 h1) (b x o1 o2 h1)

/-- the heap bears these, each in a piece of its own (tuples may be shared), and more -/
def Hd : List SA → Hp → Prop
  | [], _ => True
  | A :: L, H => ∃ H1 H2, Cmp H1 H2 ∧ Sub H1 H ∧ Sub H2 H ∧ A H1 ∧ Hd L H2
theorem Hd.up {H H' : Hp} : ∀ {L : List SA}, Sub H H' → Hd L H → Hd L H'
  | [], _, _ => trivial
  | _ :: _, s, ⟨H1, H2, c, a, b, p, q⟩ => ⟨H1, H2, c, a.trans s, b.trans s, p, q⟩
theorem Hd.tl {A : SA} {L : List SA} {H : Hp} (h : Hd (A :: L) H) : Hd L H := by
  obtain ⟨H1, H2, _, _, b, _, q⟩ := h
  exact q.up b
theorem Hd.mono {A : SA} {L L' : List SA} {H : Hp} (h : Hd (A :: L) H) (f : ∀ H, Hd L H → Hd L' H) : Hd (A :: L') H := by
  obtain ⟨H1, H2, c, a, b, p, q⟩ := h
  exact ⟨H1, H2, c, a, b, p, f _ q⟩
theorem Hd.imp {A B : SA} {L : List SA} {H : Hp} (h : Hd (A :: L) H) (f : ∀ H, A H → B H) : Hd (B :: L) H := by
  obtain ⟨H1, H2, c, a, b, p, q⟩ := h
  exact ⟨H1, H2, c, a, b, f _ p, q⟩
theorem Hd.swap {A B : SA} {L : List SA} {H : Hp} (h : Hd (A :: B :: L) H) : Hd (B :: A :: L) H := by
  obtain ⟨H1, H2, c, a, b, p, H3, H4, c2, a2, b2, p2, q⟩ := h
  have c13 : Cmp H1 H3 := c.sub (Sub.refl _) a2
  have c14 : Cmp H1 H4 := c.sub (Sub.refl _) b2
  exact ⟨H3, uni H1 H4, uni_cmp c13.symm c2, a2.trans b, uni_sub a (b2.trans b), p2, H1, H4, c14, uni_l _ _, uni_r c14, p, q⟩
/-- A stands in L, the others are L' -/
inductive Pull : SA → List SA → List SA → Prop
  | here {A : SA} {L : List SA} : Pull A (A :: L) L
  | there {A B : SA} {L L' : List SA} : Pull A L L' → Pull A (B :: L) (B :: L')
theorem Hd.pull {A : SA} {L L' : List SA} (p : Pull A L L') : ∀ {H : Hp}, Hd L H → Hd (A :: L') H := by
  induction p with
  | here => exact fun h => h
  | there _ ih => exact fun h => (h.mono fun _ => ih).swap
theorem Hd.push {A : SA} {L L' : List SA} (p : Pull A L L') : ∀ {H : Hp}, Hd (A :: L') H → Hd L H := by
  induction p with
  | here => exact fun h => h
  | there _ ih => exact fun h => h.swap.mono fun _ => ih
/-- A in L is exchanged for B -/
inductive Put : SA → SA → List SA → List SA → Prop
  | here {A B : SA} {L : List SA} : Put A B (A :: L) (B :: L)
  | there {A B C : SA} {L L' : List SA} : Put A B L L' → Put A B (C :: L) (C :: L')
theorem Put.pulls {A B : SA} {L L' : List SA} (p : Put A B L L') : ∃ M, Pull A L M ∧ Pull B L' M := by
  induction p with
  | here => exact ⟨_, .here, .here⟩
  | there _ ih =>
    obtain ⟨M, a, b⟩ := ih
    exact ⟨_, .there a, .there b⟩
/-- L bears M (in any order; more in L is let fall) -/
inductive Mt : List SA → List SA → Prop
  | nil {L : List SA} : Mt [] L
  | refl {L : List SA} : Mt L L
  | cons {A : SA} {L L' M : List SA} : Pull A L L' → Mt M L' → Mt (A :: M) L
  | drop {A : SA} {L M : List SA} : Mt M L → Mt M (A :: L)
theorem Hd.mt {M L : List SA} (m : Mt M L) : ∀ {H : Hp}, Hd L H → Hd M H := by
  induction m with
  | nil => exact fun _ => trivial
  | refl => exact fun h => h
  | cons p _ ih => exact fun h => (h.pull p).mono fun _ => ih
  | drop _ ih => exact fun h => ih h.tl

/-! ### what stands at an address -/
def pto (a : Addr) (o : HO) : SA := fun H => H a = some o
theorem Hd.get {a : Addr} {o : HO} {L L' : List SA} {H : Hp} (h : Hd L H) (p : Pull (pto a o) L L') : H a = some o := by
  obtain ⟨H1, H2, _, s, _, e, _⟩ := h.pull p
  exact s a o e
def one (a : Addr) (o : HO) : Hp := fun b => if b = a then some o else none
theorem one_at {a : Addr} {o : HO} : one a o a = some o := if_pos rfl
theorem of_one {a b : Addr} {o u : HO} (h : one a o b = some u) : b = a ∧ u = o := by
  unfold one at h
  split at h
  · rename_i e
    exact ⟨e, (Option.some.inj h).symm⟩
  · cases h
theorem one_cmp {a : Addr} {o : HO} {H : Hp} (n : H a = none) : Cmp (one a o) H := fun b o1 o2 h1 h2 => by
  obtain ⟨rfl, rfl⟩ := of_one h1
  rw [n] at h2
  cases h2
theorem one_sub {a : Addr} {o : HO} {H : Hp} (n : H a = some o) : Sub (one a o) H := fun b u h => by
  obtain ⟨rfl, rfl⟩ := of_one h
  exact n
theorem Hd.new {a : Addr} {o : HO} {L : List SA} {H : Hp} (h : Hd L H) (n : H a = none) : Hd (pto a o :: L) (upd H a o) :=
  ⟨one a o, H, one_cmp n, one_sub upd_same, fun b u e => by
    rw [upd_ne (ne_of_none e n)]
    exact e, one_at, h⟩
theorem Hd.set {a : Addr} {o o' : HO} {L L' : List SA} {H : Hp} (h : Hd L H) (p : Put (pto a o) (pto a o') L L') (m : ¬ Imm o) : Hd L' (upd H a o') := by
  obtain ⟨M, pa, pb⟩ := p.pulls
  refine Hd.push pb ?_
  obtain ⟨H1, H2, c, s1, s2, e, q⟩ := h.pull pa
  have n : H2 a = none := by
    cases z : H2 a with
    | none => rfl
    | some u => exact (m (c a o u e z).2).elim
  exact ⟨one a o', H2, one_cmp n, one_sub upd_same, fun b u e => by
    rw [upd_ne (ne_of_none e n)]
    exact s2 _ _ e, one_at, q⟩
/-- a tuple is shared -/
theorem Hd.dup {a : Addr} {xs : List V} {L L' : List SA} {H : Hp} (h : Hd L H) (p : Pull (pto a (.tup xs)) L L') : Hd (pto a (.tup xs) :: L) H :=
  ⟨one a (.tup xs), H, fun b o1 o2 h1 h2 => by
    obtain ⟨rfl, rfl⟩ := of_one h1
    rw [h.get p] at h2
    cases h2
    exact ⟨rfl, trivial⟩, one_sub (h.get p), Sub.refl _, one_at, h⟩
/-- words over pieces -/
theorem Hd.ex {α : Type} {A : α → SA} {L : List SA} {H : Hp} (h : Hd ((fun H => ∃ x, A x H) :: L) H) : ∃ x, Hd (A x :: L) H := by
  obtain ⟨H1, H2, c, s1, s2, ⟨x, e⟩, q⟩ := h
  exact ⟨x, H1, H2, c, s1, s2, e, q⟩
theorem Hd.pure {p : Prop} {A : SA} {L : List SA} {H : Hp} (h : Hd ((fun H => p ∧ A H) :: L) H) : p ∧ Hd (A :: L) H := by
  obtain ⟨H1, H2, c, s1, s2, ⟨x, e⟩, q⟩ := h
  exact ⟨x, H1, H2, c, s1, s2, e, q⟩
theorem Hd.open {M : List SA} : ∀ {L : List SA} {H : Hp}, Hd (Hd M :: L) H → Hd (M ++ L) H := by
  induction M with
  | nil => exact fun h => h.tl
  | cons A M ih =>
    rintro L H ⟨H1, H2, c, s1, s2, ⟨H3, H4, c2, s3, s4, p, q⟩, r⟩
    have c32 := c.sub s3 (Sub.refl _)
    have c42 := c.sub s4 (Sub.refl _)
    exact ⟨H3, uni H4 H2, uni_cmp c2 c32, s3.trans s1, uni_sub (s4.trans s1) s2, p, ih ⟨H4, H2, c42, uni_l _ _, uni_r c42, q, r⟩⟩
theorem Hd.close {M : List SA} : ∀ {L : List SA} {H : Hp}, Hd (M ++ L) H → Hd (Hd M :: L) H := by
  induction M with
  | nil => exact fun {L H} h => ⟨fun _ => none, H, fun _ _ _ h => (nomatch h), fun _ _ h => (nomatch h), Sub.refl _, trivial, h⟩
  | cons A M ih =>
    rintro L H ⟨H1, H2, c, s1, s2, p, q⟩
    obtain ⟨H3, H4, c2, s3, s4, p2, q2⟩ := ih q
    have c13 := c.sub (Sub.refl _) s3
    have c14 := c.sub (Sub.refl _) s4
    exact ⟨uni H1 H3, H4, (uni_cmp c14.symm c2.symm).symm, uni_sub s1 (s3.trans s2), s4.trans s2, ⟨H1, H3, c13, uni_l _ _, uni_r c13, p, p2⟩, q2⟩
/-- a list that is read only -/
def sql (K : PySem.W.Frag) (a : Addr) (xs : List V) : SA := fun H => SqL K H a xs
theorem Hd.sql {K : PySem.W.Frag} {a : Addr} {xs : List V} {L L' : List SA} {H : Hp} (h : Hd L H) (p : Pull (sql K a xs) L L') : SqL K H a xs := by
  obtain ⟨H1, H2, _, s, _, e, _⟩ := h.pull p
  exact Same.seq s e
theorem Hd.sq {K : PySem.W.Frag} {a : Addr} {xs : List V} {L L' : List SA} {H : Hp} (h : Hd L H) (p : Pull (pto a (.lst xs)) L L') : SqL K H a xs := SqL.of (h.get p)
theorem Hd.st {K : PySem.W.Frag} {a : Addr} {xs : List V} {L L' : List SA} {H : Hp} (h : Hd L H) (p : Pull (pto a (.tup xs)) L L') : SqT K H a xs := SqT.of (h.get p)
end Sl

set_option maxRecDepth 100000
set_option maxHeartbeats 1000000
namespace Sl
open PySem L2

/-! ### operators of several kinds at once -/
def rDG : R2 := fun x y H Q => ∃ a v, x = .ref a ∧ DGet H a y (some v) ∧ Q v H
def rDIn (neg : Bool) : R2 := fun y x H Q => ∃ a o, x = .ref a ∧ DGet H a y o ∧ Q (.bl (if neg then !o.isSome else o.isSome)) H
def rAddS : R2 := fun x y H Q => ∃ i j, x = .str i ∧ y = .str j ∧ i.length + j.length ≤ sizeLine ∧ Q (.str (i ++ j)) H
def rAddU (K : PySem.W.Frag) : R2 := fun x y H Q => rI0 (fun i j => .int (i + j)) x y H Q ∨ rCat x y H Q ∨ rAddS x y H Q ∨ rCatA K x y H Q
def rMulU (K : PySem.W.Frag) : R2 := fun x y H Q => rI CMul (fun i j => .int (i * j)) x y H Q ∨ rRep x y H Q ∨ rRepT K x y H Q
def rDivU : R2 := fun x y H Q => rI CDiv (fun i j => .int (i / j)) x y H Q ∨ rI CDivW (fun i j => .int (i / j)) x y H Q
def rEqU (K : PySem.W.Frag) : R2 := fun x y H Q => rEq x y H Q ∨ rEqD K x y H Q
def rNeU (K : PySem.W.Frag) : R2 := fun x y H Q => rNe x y H Q ∨ rNeD K x y H Q
def rInU (K : PySem.W.Frag) (neg : Bool) : R2 := fun x y H Q => rIn K neg x y H Q ∨ rDIn neg x y H Q
def rIxU (K : PySem.W.Frag) : R2 := fun x y H Q => rIx K x y H Q ∨ rDG x y H Q
def rIsN' : R2 := fun x y H Q => y = .non ∧ Q (.bl (decide (x = .non))) H
def rNotN' : R2 := fun x y H Q => y = .non ∧ Q (.bl (!decide (x = .non))) H
section
variable {X : Cx}
theorem u_add : OpR X (binaryOp .Add) (rAddU X.K) := op_add.or (op_cat.or (op_add_str.or op_catA))
theorem u_sub : OpR X (binaryOp .Sub) (rI0 fun i j => .int (i - j)) := op_sub
theorem u_mul : OpR X (binaryOp .Mult) (rMulU X.K) := op_mul.or (op_rep.or op_repT)
theorem u_div : OpR X (binaryOp .FloorDiv) rDivU := op_fdiv.or op_fdivW
theorem u_mod : OpR X (binaryOp .Mod) (rI (fun _ j => 0 < j) fun i j => .int (i % j)) := op_mod
theorem u_pow : OpR X (binaryOp .Pow) (rI CPow fun i j => .int (i ^ j.toNat)) := op_pow
theorem u_eq (hu : X.A.units + 64 < cLine) : OpR X (compareOp .Eq) (rEqU X.K) := op_eq.or (op_eqD hu)
theorem u_ne (hu : X.A.units + 64 < cLine) : OpR X (compareOp .NotEq) (rNeU X.K) := op_ne.or (op_neD hu)
theorem op_dIn (hu : X.A.units + 1 < cLine) : OpR X (compareOp .In) (rDIn false) := by
  intro pins s σ H x y v u Q I rx ry h
  obtain ⟨a, o, rfl, g, q⟩ := h
  cases ry
  exact d_in hu I g rx fun s3 I3 => ⟨.bl o.isSome, H, I3, rfl, q⟩
theorem op_dNotIn (hu : X.A.units + 1 < cLine) : OpR X (compareOp .NotIn) (rDIn true) := by
  intro pins s σ H x y v u Q I rx ry h
  obtain ⟨a, o, rfl, g, q⟩ := h
  cases ry
  exact d_notIn hu I g rx fun s3 I3 => ⟨.bl (!o.isSome), H, I3, rfl, q⟩
theorem u_in (hu : X.A.units + 1 < cLine) : OpR X (compareOp .In) (rInU X.K false) := op_in_seq.or (op_dIn hu)
theorem u_notIn (hu : X.A.units + 1 < cLine) : OpR X (compareOp .NotIn) (rInU X.K true) := op_notIn_seq.or (op_dNotIn hu)
theorem u_isN : OpR X (compareOp .Is) rIsN' := op_isN
theorem u_notN : OpR X (compareOp .IsNot) rNotN' := op_notN
theorem ix_dict (hu : X.A.units + 1 < cLine) : IxR X rDG := by
  intro value slice pins s σ H x y v u Q I rx ry h hs
  obtain ⟨a, w, rfl, g, q⟩ := h
  cases rx
  exact PyProof.Rows.tail_any (dict_typeIs I g) PySem.F.slot_dict_getitem.lookup (d_getItem hu I g ry fun w' s3 I3 rw' => ⟨w, H, I3, rw', q⟩) hs
end
end Sl

set_option maxRecDepth 100000
set_option maxHeartbeats 1000000
namespace Sl
open PySem L2

/-! ### subscripts stored -/
def rSetD : TSet := fun o i v H Q => ∃ a H', o = .ref a ∧ DPut H a i v H' ∧ Q H'
def rSetU : TSet := fun o i v H Q => rSetL o i v H Q ∨ rSetD o i v H Q
section
variable {X : Cx}
theorem set_dict (hu : X.A.units + 1 < cLine) : PSet X rSetD := by
  intro pins s σ H o i v ov iv u Q I ro ri rv h
  obtain ⟨a, H', rfl, g, q⟩ := h
  cases ro
  exact d_setItem hu I g ri rv fun s' I' => ⟨H', I', q⟩
theorem u_set (hu : X.A.units + 1 < cLine) : PSet X rSetU := by
  intro pins s σ H o i v ov iv u Q I ro ri rv h
  rcases h with h | h
  · exact set_list pins s σ H o i v ov iv u Q I ro ri rv h
  · exact set_dict hu pins s σ H o i v ov iv u Q I ro ri rv h
end

/-! ### built-ins, their readings named -/
def rLenU (K : PySem.W.Frag) : List V → Hp → VK → Prop := fun xs H Q => (∃ x n, xs = [x] ∧ LenV K x H n ∧ Q (.int (n : Nat)) H) ∨ ∃ a kvs, xs = [V.ref a] ∧ H a = some (.dK kvs) ∧ Q (.int (kvs.length : Nat)) H
def rAbs : List V → Hp → VK → Prop := fun xs H Q => ∃ i, xs = [.int i] ∧ Q (.int (if i < 0 then -i else i)) H
def rMax2 : List V → Hp → VK → Prop := fun xs H Q => ∃ i j, xs = [.int i, .int j] ∧ Q (.int (if j > i then j else i)) H
def rMin2 : List V → Hp → VK → Prop := fun xs H Q => ∃ i j, xs = [.int i, .int j] ∧ Q (.int (if j < i then j else i)) H
def rInt1 : List V → Hp → VK → Prop := fun xs H Q => (∃ i, xs = [.int i] ∧ Q (.int i) H) ∨ ∃ k, xs = [.bl k] ∧ Q (.int (if k then 1 else 0)) H
def rListOf (K : PySem.W.Frag) : List V → Hp → VK → Prop := fun xs H Q => ∃ p ys, xs = [.ref p] ∧ (SqL K H p ys ∨ SqT K H p ys) ∧ ∀ l, H l = none → Q (.ref l) (upd H l (.lst ys))
def rTupleOf (K : PySem.W.Frag) : List V → Hp → VK → Prop := fun xs H Q => ∃ p ys, xs = [.ref p] ∧ ((SqL K H p ys ∧ ∀ l, H l = none → Q (.ref l) (upd H l (.tup ys))) ∨ (SqT K H p ys ∧ Q (.ref p) H))
def rIsiU (K : PySem.W.Frag) : List V → Hp → VK → Prop := fun xs H Q => rIsi K xs H Q ∨ rIsiT K xs H Q
section
variable {X : Cx}
theorem u_len : CallR X (.builtin "len") (rLenU X.K) := call_len.or call_lenD
theorem u_abs : CallR X (.builtin "abs") rAbs := call_abs
theorem u_max2 (hc : X.calm = true) : CallR X (.builtin "max") rMax2 := call_max2 hc
theorem u_min2 (hc : X.calm = true) : CallR X (.builtin "min") rMin2 := call_min2 hc
theorem u_int1 : CallR X (.type "int") rInt1 := call_int1
theorem u_list : CallR X (.type "list") (rListOf X.K) := call_list_of
theorem u_tuple : CallR X (.type "tuple") (rTupleOf X.K) := call_tuple_of
theorem u_isi : CallR X (.builtin "isinstance") (rIsiU X.K) := call_isi.or call_isiT
theorem u_ix (hu : X.A.units + 1 < cLine) : IxR X (rIxU X.K) := ix_seq.or (ix_dict hu)
end

/-! ### what stands at the leaves of a reading, named -/
def AllocT (Q : VK) (xs : List V) (H : Hp) : Prop := xs.length ≤ sizeLine ∧ ∀ p, H p = none → Q (.ref p) (upd H p (.tup xs))
def AllocL (Q : VK) (xs : List V) (H : Hp) : Prop := xs.length ≤ sizeLine ∧ ∀ p, H p = none → Q (.ref p) (upd H p (.lst xs))
def IsB (QT : Bool → Hp → Prop) (x : V) (H : Hp) : Prop := ∃ k, x = .bl k ∧ QT k H
def AndK (tb : TE) (σ : L2.St) (Q : VK) (x : V) (H : Hp) : Prop := ∃ c, x = .bl c ∧ if c = true then tb σ H Q else Q (.bl false) H
def OrK (tb : TE) (σ : L2.St) (Q : VK) (x : V) (H : Hp) : Prop := ∃ c, x = .bl c ∧ if c = true then Q (.bl true) H else tb σ H Q
def NotK (Q : VK) (x : V) (H : Hp) : Prop := ∃ c, x = .bl c ∧ Q (.bl (!c)) H
def FldK (K : PySem.W.Frag) (f : Str) (Q : VK) (x : V) (H : Hp) : Prop := ∃ a C dx fs v, x = .ref a ∧ H a = some (.ins C dx fs) ∧ Cls K C ∧ NoAttr K C f ∧ fs.lookup f = some v ∧ Q v H
def SFldK (K : PySem.W.Frag) (f : Str) (N : Hp → Prop) (y x : V) (H : Hp) : Prop := ∃ a C dx fs, x = .ref a ∧ H a = some (.ins C dx fs) ∧ Cls K C ∧ NoAttr K C f ∧ fs.length < 1000 ∧ N (upd H a (.ins C dx (putF f y fs)))
def MethK (C : Addr) (m : Str) (R : V → Hp → Prop) (x : V) (H : Hp) : Prop := ∃ a dx fs, x = .ref a ∧ H a = some (.ins C dx fs) ∧ fs.lookup m = none ∧ R x H
def MakeK (C : Addr) (sp : Sp) (dvs : List V) (E : XK) (Q : VK) (vs : List V) (H : Hp) : Prop := ∀ x dx, H x = none → H dx = none → dx ≠ x → sp (.ref x :: (vs ++ dvs)) (upd (upd H dx (.own x)) x (.ins C dx [])) (fun v H2 => v = .non ∧ Q (.ref x) H2) E
def PartK (QO : Option Int → Hp → Prop) (x : V) (H : Hp) : Prop := ∃ i, x = .int i ∧ QO (some i) H
def DispE (p : Addr) (Q : VK) (ps : List (V × V)) (H : Hp) : Prop := H p = some (.dK []) ∧ ∃ kvs : List (Key × V), ps = kvs.map (fun kv => (kV kv.1, kv.2)) ∧ kvs.length ≤ 15 ∧ Q (.ref p) (upd H p (.dK (mergeK [] kvs)))
def GetE1 (a : Addr) (Q : VK) (y : V) (H : Hp) : Prop := ∃ o, DGet H a y o ∧ Q (o.getD .non) H
def GetE2 (a : Addr) (y : V) (Q : VK) (z : V) (H : Hp) : Prop := ∃ o, DGet H a y o ∧ Q (o.getD z) H
def IsDK (R : Addr → Hp → Prop) (x : V) (H : Hp) : Prop := ∃ a, x = .ref a ∧ IsD H a ∧ R a H

/-! ### readings, one construct after the other -/
section
variable {K : PySem.W.Frag} {σ : L2.St} {H : Hp} {D : Ends} {t u tw : TS} {te ta tb tx : TE} {tr : TA} {tt tu : TT} {g : TG} {gs : TGs} {Q : VK} {QA : List V → Hp → Prop} {QT : Bool → Hp → Prop} {v x y : V} {i j k : Int} {b c : Bool} {n : Nat}
  {L L' : List SA} {a p : Addr} {xs ys zs : List V} {r : R2} {N : Hp → Prop}
theorem r_seq (q : t { D with nx := u D } σ H) : tSeq t u D σ H := q
theorem r_next (q : D.nx σ H) : tNext D σ H := q
theorem r_asg (q : te σ H fun x H1 => g x σ H1 D.nx) : tAsg te g D σ H := q
theorem r_gName {QS : L2.St → Hp → Prop} (q : QS (σ.set n (some v)) H) : gName n v σ H QS := q
theorem r_drop (q : te σ H fun _ H1 => D.nx σ H1) : tDrop te D σ H := q
theorem r_ret (q : te σ H D.rt) : tRet te D σ H := q
theorem r_retN (q : D.rt .non H) : tRetN D σ H := q
theorem r_break (q : D.bk σ H) : tBreak D σ H := q
theorem r_cont (q : D.ct σ H) : tCont D σ H := q
theorem r_ifS (q : tt σ H fun b H1 => if b = true then t D σ H1 else u D σ H1) : tIfS tt t u D σ H := q
theorem r_test (q : te σ H (IsB QT)) : tTest te σ H QT := q
theorem r_tB (q : te σ H (IsB QT)) : tB te σ H QT := q
theorem r_isb (q : QT b H) : IsB QT (.bl b) H := ⟨b, rfl, q⟩
theorem r_tAnd (q : tt σ H fun c H1 => if c = true then tu σ H1 QT else QT false H1) : tAnd tt tu σ H QT := q
theorem r_tOr (q : tt σ H fun c H1 => if c = true then QT true H1 else tu σ H1 QT) : tOr tt tu σ H QT := q
theorem r_tNot (q : tt σ H fun c H1 => QT (!c) H1) : tNot tt σ H QT := q
theorem r_var (h : σ[n]? = some (some v)) (q : Q v H) : tVar n σ H Q := ⟨v, h, q⟩
theorem r_c (q : Q v H) : tC v σ H Q := q
theorem r_op (q : ta σ H fun x H1 => tb σ H1 fun y H2 => r x y H2 Q) : tOp r ta tb σ H Q := q
theorem r_un {ru : V → Hp → VK → Prop} (q : ta σ H fun x H1 => ru x H1 Q) : tUn ru ta σ H Q := q
theorem r_rU {f : Int → V} (q : Q (f i) H) : rU f (.int i) H Q := ⟨i, rfl, q⟩
theorem r_andV (q : ta σ H (AndK tb σ Q)) : tAndV ta tb σ H Q := q
theorem r_andK (q : if b = true then tb σ H Q else Q (.bl false) H) : AndK tb σ Q (.bl b) H := ⟨b, rfl, q⟩
theorem r_orV (q : ta σ H (OrK tb σ Q)) : tOrV ta tb σ H Q := q
theorem r_orK (q : if b = true then Q (.bl true) H else tb σ H Q) : OrK tb σ Q (.bl b) H := ⟨b, rfl, q⟩
theorem r_notV (q : ta σ H (NotK Q)) : tNotV ta σ H Q := q
theorem r_notK (q : Q (.bl (!b)) H) : NotK Q (.bl b) H := ⟨b, rfl, q⟩
theorem r_tIf (q : tt σ H fun c H1 => if c = true then ta σ H1 Q else tb σ H1 Q) : tIf tt ta tb σ H Q := q
theorem r_ite {A B : Prop} (h1 : b = true → A) (h2 : b = false → B) : if b = true then A else B := by
  cases b with
  | true => exact h1 rfl
  | false => exact h2 rfl
theorem r_iteD {P A B : Prop} [Decidable P] (h1 : P → A) (h2 : ¬ P → B) : if decide P = true then A else B := ite2 (fun h => h1 (of_decide_eq_true h)) fun h => h2 fun z => h (decide_eq_true z)
theorem r_iteN {P A B : Prop} [Decidable P] (h1 : ¬ P → A) (h2 : P → B) : if (!decide P) = true then A else B := by
  by_cases h : P
  · rw [decide_eq_true h]
    exact iteF (h2 h)
  · rw [decide_eq_false h]
    exact iteT (h1 h)
theorem r_iteB {A B : Prop} (h1 : b = false → A) (h2 : b = true → B) : if (!b) = true then A else B := by
  cases b with
  | true => exact iteF (h2 rfl)
  | false => exact iteT (h1 rfl)
theorem r_iteY {A B : Prop} (h : A) : if true = true then A else B := iteT h
theorem r_iteZ {A B : Prop} (h : B) : if false = true then A else B := iteF h
theorem r_nil (q : QA [] H) : tNil σ H QA := q
theorem r_cons (q : ta σ H fun x H1 => tr σ H1 fun xs H2 => QA (x :: xs) H2) : tCons ta tr σ H QA := q
theorem r_call {sp : Sp} {dvs : List V} {E : XK} (q : tr σ H fun vs H1 => sp (vs ++ dvs) H1 Q E) : tCall sp dvs E tr σ H Q := q
theorem r_cB {rc : List V → Hp → VK → Prop} (q : tr σ H fun vs H1 => rc vs H1 Q) : tCB rc tr σ H Q := q
theorem r_tup (q : tr σ H (AllocT Q)) : tTup tr σ H Q := q
theorem r_lst (q : tr σ H (AllocL Q)) : tLst tr σ H Q := q
theorem r_newT (hs : Hd L H) (hl : xs.length ≤ sizeLine) (q : ∀ p H', Hd (pto p (.tup xs) :: L) H' → Q (.ref p) H') : AllocT Q xs H := ⟨hl, fun p n => q p _ (hs.new n)⟩
theorem r_newL (hs : Hd L H) (hl : xs.length ≤ sizeLine) (q : ∀ p H', Hd (pto p (.lst xs) :: L) H' → Q (.ref p) H') : AllocL Q xs H := ⟨hl, fun p n => q p _ (hs.new n)⟩
/-! #### operators -/
theorem r_I0 {f : Int → Int → V} (q : Q (f i j) H) : rI0 f (.int i) (.int j) H Q := ⟨i, j, rfl, rfl, q⟩
theorem r_I {C : Int → Int → Prop} {f : Int → Int → V} (h : C i j) (q : Q (f i j) H) : rI C f (.int i) (.int j) H Q := ⟨i, j, rfl, rfl, h, q⟩
theorem r_addI (q : Q (.int (i + j)) H) : rAddU K (.int i) (.int j) H Q := .inl ⟨i, j, rfl, rfl, q⟩
theorem r_addL {b : Addr} (hs : Hd L H) (h1 : H a = some (.lst xs)) (h2 : H b = some (.lst ys)) (hl : xs.length + ys.length ≤ sizeLine) (q : ∀ p H', Hd (pto p (.lst (xs ++ ys)) :: L) H' → Q (.ref p) H') : rAddU K (.ref a) (.ref b) H Q :=
  .inr (.inl ⟨a, b, xs, ys, rfl, rfl, h1, h2, hl, fun p n => q p _ (hs.new n)⟩)
theorem r_addS {z w : Str} (h : z.length + w.length ≤ sizeLine) (q : Q (.str (z ++ w)) H) : rAddU K (.str z) (.str w) H Q := .inr (.inr (.inl ⟨z, w, rfl, rfl, h, q⟩))
theorem r_mulI (h : CMul i j) (q : Q (.int (i * j)) H) : rMulU K (.int i) (.int j) H Q := .inl ⟨i, j, rfl, rfl, h, q⟩
theorem r_mulL (hs : Hd L H) (h1 : H a = some (.lst xs)) (h : -(2 ^ 63) ≤ k ∧ k < 2 ^ 63) (hl : xs.length * k.toNat ≤ sizeLine) (q : ∀ p H', Hd (pto p (.lst (List.replicate k.toNat xs).flatten) :: L) H' → Q (.ref p) H') : rMulU K (.ref a) (.int k) H Q :=
  .inr (.inl ⟨a, k, xs, rfl, rfl, h1, h.1, h.2, hl, fun p n => q p _ (hs.new n)⟩)
theorem r_divI (h : 0 < j ∧ j < 1073741824) (q : Q (.int (i / j)) H) : rDivU (.int i) (.int j) H Q := .inl ⟨i, j, rfl, rfl, h, q⟩
theorem r_divW (h : 0 < j ∧ j.natAbs.log2 < 9000) (q : Q (.int (i / j)) H) : rDivU (.int i) (.int j) H Q := .inr ⟨i, j, rfl, rfl, h, q⟩
theorem r_modI (h : 0 < j) (q : Q (.int (i % j)) H) : rI (fun _ j => 0 < j) (fun i j => .int (i % j)) (.int i) (.int j) H Q := ⟨i, j, rfl, rfl, h, q⟩
theorem r_eqI (q : Q (.bl (decide (i = j))) H) : rEqU K (.int i) (.int j) H Q := .inl ⟨rfl, by
  have e : decide (V.int i = V.int j) = decide (i = j) := by simp
  rw [e]
  exact q⟩
theorem r_neI (q : Q (.bl (!decide (i = j))) H) : rNeU K (.int i) (.int j) H Q := .inl ⟨rfl, by
  have e : decide (V.int i = V.int j) = decide (i = j) := by simp
  rw [e]
  exact q⟩
theorem r_eqS {z w : Str} (q : Q (.bl (decide (z = w))) H) : rEqU K (.str z) (.str w) H Q := .inl ⟨rfl, by
  have e : decide (V.str z = V.str w) = decide (z = w) := by simp
  rw [e]
  exact q⟩
theorem r_neS {z w : Str} (q : Q (.bl (!decide (z = w))) H) : rNeU K (.str z) (.str w) H Q := .inl ⟨rfl, by
  have e : decide (V.str z = V.str w) = decide (z = w) := by simp
  rw [e]
  exact q⟩
theorem r_eqB (q : Q (.bl (decide (b = c))) H) : rEqU K (.bl b) (.bl c) H Q := .inl ⟨rfl, by
  have e : decide (V.bl b = V.bl c) = decide (b = c) := by simp
  rw [e]
  exact q⟩
theorem r_neB (q : Q (.bl (!decide (b = c))) H) : rNeU K (.bl b) (.bl c) H Q := .inl ⟨rfl, by
  have e : decide (V.bl b = V.bl c) = decide (b = c) := by simp
  rw [e]
  exact q⟩
theorem r_eqV (h : scal x y = true) (q : Q (.bl (decide (x = y))) H) : rEqU K x y H Q := .inl ⟨h, q⟩
theorem r_neV (h : scal x y = true) (q : Q (.bl (!decide (x = y))) H) : rNeU K x y H Q := .inl ⟨h, q⟩
theorem r_eqD {d e : PyData} (h1 : Dp K H x d) (h2 : Dp K H y e) (s1 : SeqAt.shaped d = true) (s2 : SeqAt.shaped e = true) (q : Q (.bl (PyData.eqv d e)) H) : rEqU K x y H Q := .inr ⟨d, e, h1, h2, s1, s2, q⟩
theorem r_neD {d e : PyData} (h1 : Dp K H x d) (h2 : Dp K H y e) (s1 : SeqAt.shaped d = true) (s2 : SeqAt.shaped e = true) (q : Q (.bl (!PyData.eqv d e)) H) : rNeU K x y H Q := .inr ⟨d, e, h1, h2, s1, s2, q⟩
theorem r_isN (q : Q (.bl (decide (x = .non))) H) : rIsN' x .non H Q := ⟨rfl, q⟩
theorem r_notN (q : Q (.bl (!decide (x = .non))) H) : rNotN' x .non H Q := ⟨rfl, q⟩
theorem r_inL (h : SqL K H a xs) (h1 : flatV x = true) (h2 : xs.all flatV = true) (q : Q (.bl (inV x xs)) H) : rInU K false x (.ref a) H Q := .inl ⟨a, xs, rfl, .inl h, h1, h2, q⟩
theorem r_inT (h : SqT K H a xs) (h1 : flatV x = true) (h2 : xs.all flatV = true) (q : Q (.bl (inV x xs)) H) : rInU K false x (.ref a) H Q := .inl ⟨a, xs, rfl, .inr h, h1, h2, q⟩
theorem r_niL (h : SqL K H a xs) (h1 : flatV x = true) (h2 : xs.all flatV = true) (q : Q (.bl (!inV x xs)) H) : rInU K true x (.ref a) H Q := .inl ⟨a, xs, rfl, .inl h, h1, h2, q⟩
theorem r_niT (h : SqT K H a xs) (h1 : flatV x = true) (h2 : xs.all flatV = true) (q : Q (.bl (!inV x xs)) H) : rInU K true x (.ref a) H Q := .inl ⟨a, xs, rfl, .inr h, h1, h2, q⟩
theorem r_inDi {kvs : List (Key × V)} (h : H a = some (.dK kvs)) (q : Q (.bl (valV kvs (.inl i)).isSome) H) : rInU K false (.int i) (.ref a) H Q := .inr ⟨a, _, rfl, DGet.k (k := .inl i) h, q⟩
theorem r_niDi {kvs : List (Key × V)} (h : H a = some (.dK kvs)) (q : Q (.bl (!(valV kvs (.inl i)).isSome)) H) : rInU K true (.int i) (.ref a) H Q := .inr ⟨a, _, rfl, DGet.k (k := .inl i) h, q⟩
theorem r_inDs {z : Str} {kvs : List (Key × V)} (h : H a = some (.dK kvs)) (q : Q (.bl (valV kvs (.inr z)).isSome) H) : rInU K false (.str z) (.ref a) H Q := .inr ⟨a, _, rfl, DGet.k (k := .inr z) h, q⟩
theorem r_niDs {z : Str} {kvs : List (Key × V)} (h : H a = some (.dK kvs)) (q : Q (.bl (!(valV kvs (.inr z)).isSome)) H) : rInU K true (.str z) (.ref a) H Q := .inr ⟨a, _, rfl, DGet.k (k := .inr z) h, q⟩
theorem r_ixL (h : SqL K H a xs) (hi : atI xs i = some v) (q : Q v H) : rIxU K (.ref a) (.int i) H Q := .inl (.inl ⟨a, xs, i, v, rfl, rfl, h, hi, q⟩)
theorem r_ixT (h : SqT K H a xs) (hi : atI xs i = some v) (q : Q v H) : rIxU K (.ref a) (.int i) H Q := .inl (.inr (.inl ⟨a, xs, i, v, rfl, rfl, h, hi, q⟩))
theorem r_ixDi {kvs : List (Key × V)} (h : H a = some (.dK kvs)) (hi : valV kvs (.inl i) = some v) (q : Q v H) : rIxU K (.ref a) (.int i) H Q := .inr ⟨a, v, rfl, by
  have g := DGet.k (k := .inl i) h
  rw [hi] at g
  exact g, q⟩
theorem r_ixDs {z : Str} {kvs : List (Key × V)} (h : H a = some (.dK kvs)) (hi : valV kvs (.inr z) = some v) (q : Q v H) : rIxU K (.ref a) (.str z) H Q := .inr ⟨a, v, rfl, by
  have g := DGet.k (k := .inr z) h
  rw [hi] at g
  exact g, q⟩
/-! #### what is stored at a subscript -/
theorem r_gSub {QS : L2.St → Hp → Prop} {ts : TSet} (q : ta σ H fun o H1 => tb σ H1 fun i H2 => ts o i v H2 fun H3 => QS σ H3) : gSub ta tb ts v σ H QS := q
theorem r_setL {QH : Hp → Prop} (hs : Hd L H) (p : Put (pto a (.lst xs)) (pto a (.lst (xs.set n v))) L L') (hn : n < xs.length) (q : ∀ H', Hd L' H' → QH H') : rSetU (.ref a) (.int (n : Int)) v H QH := by
  obtain ⟨M, pa, _⟩ := p.pulls
  refine .inl ⟨a, xs, (n : Int), n, rfl, rfl, hs.get pa, ?_, q _ (hs.set p (fun z => z))⟩
  unfold ixN
  rw [if_pos (Int.natCast_nonneg n), if_pos (by omega), Int.toNat_natCast]
theorem r_setDi {QH : Hp → Prop} {kvs kvs' : List (Key × V)} (hs : Hd L H) (p : Put (pto a (.dK kvs)) (pto a (.dK kvs')) L L') (e : putK kvs (.inl i) v = kvs') (hl : kvs.length < sizeLine) (q : ∀ H', Hd L' H' → QH H') : rSetU (.ref a) (.int i) v H QH := by
  obtain ⟨M, pa, _⟩ := p.pulls
  subst e
  exact .inr ⟨a, _, rfl, DPut.k (k := .inl i) (hs.get pa) hl, q _ (hs.set p (fun z => z))⟩
theorem r_setDs {QH : Hp → Prop} {z : Str} {kvs kvs' : List (Key × V)} (hs : Hd L H) (p : Put (pto a (.dK kvs)) (pto a (.dK kvs')) L L') (e : putK kvs (.inr z) v = kvs') (hl : kvs.length < sizeLine) (q : ∀ H', Hd L' H' → QH H') : rSetU (.ref a) (.str z) v H QH := by
  obtain ⟨M, pa, _⟩ := p.pulls
  subst e
  exact .inr ⟨a, _, rfl, DPut.k (k := .inr z) (hs.get pa) hl, q _ (hs.set p (fun z => z))⟩
/-! #### fields -/
theorem r_fld {f : Str} (q : ta σ H (FldK K f Q)) : tFld K ta f σ H Q := q
theorem r_fldK {C dx : Addr} {fs : List (Str × V)} {f : Str} (h : H a = some (.ins C dx fs)) (c : Cls K C) (nf : NoAttr K C f) (l : fs.lookup f = some v) (q : Q v H) : FldK K f Q (.ref a) H := ⟨a, C, dx, fs, v, rfl, h, c, nf, l, q⟩
theorem r_sFld {f : Str} (q : te σ H fun y H1 => ta σ H1 (SFldK K f (D.nx σ) y)) : sFld K ta te f D σ H := q
theorem r_sFldK {C dx : Addr} {fs fs' : List (Str × V)} {f : Str} (hs : Hd L H) (p : Put (pto a (.ins C dx fs)) (pto a (.ins C dx fs')) L L') (e : putF f y fs = fs') (c : Cls K C) (nf : NoAttr K C f) (hl : fs.length < 1000) (q : ∀ H', Hd L' H' → N H') : SFldK K f N y (.ref a) H := by
  obtain ⟨M, pa, _⟩ := p.pulls
  subst e
  exact ⟨a, C, dx, fs, rfl, hs.get pa, c, nf, hl, q _ (hs.set p (fun z => z))⟩
/-! #### calls of methods -/
theorem r_meth {C : Addr} {m : Str} {sp : Sp} {dvs : List V} {E : XK} (q : ta σ H (MethK C m fun x H1 => tr σ H1 fun vs H2 => sp (x :: (vs ++ dvs)) H2 Q E)) : tMeth C m sp dvs E ta tr σ H Q := q
theorem r_methK {C dx : Addr} {fs : List (Str × V)} {m : Str} {R : V → Hp → Prop} (h : H a = some (.ins C dx fs)) (l : fs.lookup m = none) (q : R (.ref a) H) : MethK C m R (.ref a) H := ⟨a, dx, fs, rfl, h, l, q⟩
theorem r_make {C : Addr} {sp : Sp} {dvs : List V} {E : XK} (q : tr σ H (MakeK C sp dvs E Q)) : tMake C sp dvs E tr σ H Q := q
theorem r_makeK {C : Addr} {sp : Sp} {dvs vs : List V} {E : XK} (hs : Hd L H) (q : ∀ x dx H', Hd (pto x (.ins C dx []) :: L) H' → sp (.ref x :: (vs ++ dvs)) H' (fun v H2 => v = .non ∧ Q (.ref x) H2) E) : MakeK C sp dvs E Q vs H := fun x dx nx nd ne =>
  q x dx _ ((hs.new nd).tl.new (by rw [upd_ne ne.symm]; exact nx))
theorem r_bm {T : String} {rm : V → List V → Hp → VK → Prop} (q : ta σ H fun x H1 => tyV K T x H1 ∧ tr σ H1 fun xs H2 => rm x xs H2 Q) : tBM K T rm ta tr σ H Q := q
theorem r_bm0 {T : String} {rm : V → List V → Hp → VK → Prop} (q : ta σ H fun x H1 => tyV K T x H1 ∧ rm x [] H1 Q) : tBM0 K T rm ta σ H Q := q
theorem r_tyL {R : Prop} (h : SqL K H a xs) (q : R) : tyV K "list" (.ref a) H ∧ R := ⟨.inl ⟨rfl, _, h⟩, q⟩
theorem r_tyD {kvs : List (Key × V)} {R : Prop} (h : H a = some (.dK kvs)) (q : R) : tyV K "dict" (.ref a) H ∧ R := ⟨.inr (.inr (.inl ⟨rfl, .inl ⟨_, h⟩⟩)), q⟩
theorem r_tyS {z : Str} {R : Prop} (q : R) : tyV K "str" (.str z) H ∧ R := ⟨rfl, q⟩
theorem r_append (hs : Hd L H) (p : Put (pto a (.lst xs)) (pto a (.lst (xs ++ [y]))) L L') (hl : xs.length < sizeLine) (q : ∀ H', Hd L' H' → Q .non H') : rAppend (.ref a) [y] H Q := by
  obtain ⟨M, pa, _⟩ := p.pulls
  exact ⟨a, xs, y, rfl, rfl, hs.get pa, hl, q _ (hs.set p (fun z => z))⟩
theorem r_extend {c : Addr} (hs : Hd L H) (p : Put (pto a (.lst xs)) (pto a (.lst (xs ++ ys))) L L') (hb : H c = some (.lst ys)) (hl : xs.length + ys.length ≤ sizeLine) (q : ∀ H', Hd L' H' → Q .non H') : rExtend (.ref a) [.ref c] H Q := by
  obtain ⟨M, pa, _⟩ := p.pulls
  exact ⟨a, c, xs, ys, rfl, rfl, hs.get pa, hb, hl, q _ (hs.set p (fun z => z))⟩
theorem r_pop (hs : Hd L H) (p : Put (pto a (.lst xs)) (pto a (.lst xs.dropLast)) L L') (hy : xs[xs.length - 1]? = some y) (q : ∀ H', Hd L' H' → Q y H') : rPop (.ref a) [] H Q := by
  obtain ⟨M, pa, _⟩ := p.pulls
  exact ⟨a, xs, y, rfl, rfl, hs.get pa, hy, q _ (hs.set p (fun z => z))⟩
theorem r_popAt (hs : Hd L H) (p : Put (pto a (.lst xs)) (pto a (.lst (xs.eraseIdx n))) L L') (hz : xs.length ≤ sizeLine) (hy : xs[n]? = some y) (q : ∀ H', Hd L' H' → Q y H') : rPopAt (.ref a) [.int (n : Int)] H Q := by
  obtain ⟨M, pa, _⟩ := p.pulls
  have hn := (List.getElem?_eq_some_iff.mp hy).1
  have e := sizeLine_eq
  have g : seqIndex? (n : Int) xs.length = some n := by
    have := (ixN_seq (n := xs.length) (i := (n : Int)) (j := n) (by
      unfold ixN
      rw [if_pos (Int.natCast_nonneg n), if_pos (by omega), Int.toNat_natCast])).1
    exact this
  exact ⟨a, xs, (n : Int), n, y, rfl, rfl, hs.get pa, by omega, by omega, g, hy, q _ (hs.set p (fun z => z))⟩
theorem r_clear (hs : Hd L H) (p : Put (pto a (.lst xs)) (pto a (.lst [])) L L') (q : ∀ H', Hd L' H' → Q .non H') : rClear (.ref a) [] H Q := by
  obtain ⟨M, pa, _⟩ := p.pulls
  exact ⟨a, xs, rfl, rfl, hs.get pa, q _ (hs.set p (fun z => z))⟩
/-! #### slices -/
theorem r_sl {rs : V → Option Int → Option Int → Hp → VK → Prop} {tl th : TO} (q : te σ H fun x H1 => tl σ H1 fun l H2 => th σ H2 fun u H3 => rs x l u H3 Q) : tSl rs te tl th σ H Q := q
theorem r_noPart {QO : Option Int → Hp → Prop} (q : QO none H) : tNoPart σ H QO := q
theorem r_part {QO : Option Int → Hp → Prop} (q : te σ H (PartK QO)) : tPart te σ H QO := q
theorem r_partK {QO : Option Int → Hp → Prop} (q : QO (some i) H) : PartK QO (.int i) H := ⟨i, rfl, q⟩
theorem r_slL {lo hi : Option Int} (hs : Hd L H) (h : SqL K H a xs) (q : ∀ p H', Hd (pto p (.lst (cutV xs lo hi)) :: L) H' → Q (.ref p) H') : rSlL K (.ref a) lo hi H Q := ⟨a, xs, rfl, h, fun p n => q p _ (hs.new n)⟩
/-! #### dicts -/
theorem r_dnew (hs : Hd L H) (q : ∀ p H', Hd (pto p (.dK []) :: L) H' → Q (.ref p) H') : tDNewK σ H Q := fun p n => q p _ (hs.new n)
theorem r_disp {trs : List (TE × TE)} (hs : Hd L H) (q : ∀ p H', Hd (pto p (.dK []) :: L) H' → tPairs trs σ H' (DispE p Q)) : tDisp trs σ H Q := fun p n => q p _ (hs.new n)
theorem r_pairsN {QP : List (V × V) → Hp → Prop} (q : QP [] H) : tPairs [] σ H QP := q
theorem r_pairsC {QP : List (V × V) → Hp → Prop} {trs : List (TE × TE)} (q : ta σ H fun x H1 => tb σ H1 fun y H2 => tPairs trs σ H2 fun ps H3 => QP ((x, y) :: ps) H3) : tPairs ((ta, tb) :: trs) σ H QP := q
theorem r_dispE {ps : List (V × V)} {kvs kvs' : List (Key × V)} (hs : Hd L H) (p' : Put (pto p (.dK [])) (pto p (.dK kvs')) L L') (e : ps = kvs.map (fun kv => (kV kv.1, kv.2))) (hl : kvs.length ≤ 15) (e2 : mergeK [] kvs = kvs') (q : ∀ H', Hd L' H' → Q (.ref p) H') : DispE p Q ps H := by
  obtain ⟨M, pa, _⟩ := p'.pulls
  subst e2
  exact ⟨hs.get pa, kvs, e, hl, q _ (hs.set p' (fun z => z))⟩
theorem r_dget1 (q : ta σ H (IsDK fun a H1 => tb σ H1 (GetE1 a Q))) : tDGet1 ta tb σ H Q := q
theorem r_dget2 (q : ta σ H (IsDK fun a H1 => tb σ H1 fun y H2 => tx σ H2 (GetE2 a y Q))) : tDGet2 ta tb tx σ H Q := q
theorem r_isD {kvs : List (Key × V)} {R : Addr → Hp → Prop} (h : H a = some (.dK kvs)) (q : R a H) : IsDK R (.ref a) H := ⟨a, rfl, .inl ⟨_, .inl h⟩, q⟩
theorem r_get1i {kvs : List (Key × V)} (h : H a = some (.dK kvs)) (q : Q ((valV kvs (.inl i)).getD .non) H) : GetE1 a Q (.int i) H := ⟨_, DGet.k (k := .inl i) h, q⟩
theorem r_get1s {z : Str} {kvs : List (Key × V)} (h : H a = some (.dK kvs)) (q : Q ((valV kvs (.inr z)).getD .non) H) : GetE1 a Q (.str z) H := ⟨_, DGet.k (k := .inr z) h, q⟩
theorem r_get2i {kvs : List (Key × V)} (h : H a = some (.dK kvs)) (q : Q ((valV kvs (.inl i)).getD x) H) : GetE2 a (.int i) Q x H := ⟨_, DGet.k (k := .inl i) h, q⟩
theorem r_get2s {z : Str} {kvs : List (Key × V)} (h : H a = some (.dK kvs)) (q : Q ((valV kvs (.inr z)).getD x) H) : GetE2 a (.str z) Q x H := ⟨_, DGet.k (k := .inr z) h, q⟩
/-! #### calls of built-ins -/
theorem r_lenL (h : SqL K H a xs) (q : Q (.int xs.length) H) : rLenU K [.ref a] H Q := .inl ⟨_, _, rfl, .inl ⟨_, h, rfl⟩, q⟩
theorem r_lenT (h : SqT K H a xs) (q : Q (.int xs.length) H) : rLenU K [.ref a] H Q := .inl ⟨_, _, rfl, .inr ⟨_, h, rfl⟩, q⟩
theorem r_lenS {z : Str} (h : z.length ≤ sizeLine) (q : Q (.int z.length) H) : rLenU K [.str z] H Q := .inl ⟨_, _, rfl, ⟨h, rfl⟩, q⟩
theorem r_lenD {kvs : List (Key × V)} (h : H a = some (.dK kvs)) (q : Q (.int kvs.length) H) : rLenU K [.ref a] H Q := .inr ⟨_, _, rfl, h, q⟩
theorem r_abs (q : Q (.int (if i < 0 then -i else i)) H) : rAbs [.int i] H Q := ⟨_, rfl, q⟩
theorem r_max2 (q : Q (.int (if j > i then j else i)) H) : rMax2 [.int i, .int j] H Q := ⟨_, _, rfl, q⟩
theorem r_min2 (q : Q (.int (if j < i then j else i)) H) : rMin2 [.int i, .int j] H Q := ⟨_, _, rfl, q⟩
theorem r_int1b (q : Q (.int (if b then 1 else 0)) H) : rInt1 [.bl b] H Q := .inr ⟨_, rfl, q⟩
theorem r_int1 (q : Q (.int i) H) : rInt1 [.int i] H Q := .inl ⟨_, rfl, q⟩
theorem r_listL (hs : Hd L H) (h : SqL K H a xs) (q : ∀ p H', Hd (pto p (.lst xs) :: L) H' → Q (.ref p) H') : rListOf K [.ref a] H Q := ⟨a, xs, rfl, .inl h, fun p n => q p _ (hs.new n)⟩
theorem r_listT (hs : Hd L H) (h : SqT K H a xs) (q : ∀ p H', Hd (pto p (.lst xs) :: L) H' → Q (.ref p) H') : rListOf K [.ref a] H Q := ⟨a, xs, rfl, .inr h, fun p n => q p _ (hs.new n)⟩
theorem r_tupleL (hs : Hd L H) (h : SqL K H a xs) (q : ∀ p H', Hd (pto p (.tup xs) :: L) H' → Q (.ref p) H') : rTupleOf K [.ref a] H Q := ⟨a, xs, rfl, .inl ⟨h, fun p n => q p _ (hs.new n)⟩⟩
theorem r_tupleT (h : SqT K H a xs) (q : Q (.ref a) H) : rTupleOf K [.ref a] H Q := ⟨a, xs, rfl, .inr ⟨h, q⟩⟩
theorem r_sum {ns : List Int} (h : SqL K H a (ns.map V.int)) (q : Q (.int ns.sum) H) : rSum K [.ref a] H Q := ⟨a, ns, rfl, h, q⟩
theorem r_all {bs : List Bool} (h : SqL K H a (bs.map V.bl)) (q : Q (.bl (bs.all id)) H) : rAll K [.ref a] H Q := ⟨a, bs, rfl, h, q⟩
theorem r_isi {c : V} {t u : Value} (hc : ClsV c u) (ty : TyX K H x t) (e : PySem.W.kitOne K t u = some b) (q : Q (.bl b) H) : rIsiU K [x, c] H Q := .inl ⟨x, c, t, u, b, rfl, hc, ty, e, q⟩
end
end Sl
namespace Sl
open PySem L2
theorem sz {n : Nat} (h : n ≤ 100000) : n ≤ sizeLine := Nat.le_trans h (by decide)
theorem szlt {n : Nat} (h : n < 100000) : n < sizeLine := Nat.lt_of_lt_of_le h (by decide)
theorem sqT_K {K : PySem.W.Frag} {a : Addr} {xs : List V} {us : List Value} {n : Nat} {H : Hp} (h : K.lookup a = some ⟨.type "tuple", none, .seq us.toArray n, #[]⟩) (hl : xs.length ≤ sizeLine) (r : Vals xs us) : SqT K H a xs :=
  .inr ⟨_, us.toArray, n, h, rfl, rfl, by rw [List.size_toArray, ← r.length]; exact hl, by simpa using r⟩
end Sl
namespace Sl
open PySem L2
theorem Hd.one {A : SA} {H : Hp} (h : A H) : Hd [A] H := ⟨H, fun _ => none, fun _ _ _ _ h => (nomatch h), Sub.refl _, fun _ _ h => (nomatch h), h, trivial⟩
/-- an atom that is true of greater heaps, too -/
def Up (A : SA) : Prop := ∀ H H', Sub H H' → A H → A H'
theorem Hd.at {A : SA} {L L' : List SA} {H : Hp} (u : Up A) (h : Hd L H) (p : Pull A L L') : A H := by
  obtain ⟨H1, H2, _, s, _, e, _⟩ := h.pull p
  exact u _ _ s e
theorem up_pto (a : Addr) (o : HO) : Up (pto a o) := fun _ _ s h => s _ _ h
/-- two atoms made one -/
theorem Hd.join {A B C : SA} {L : List SA} {H : Hp} (ua : Up A) (ub : Up B) (h : Hd (A :: B :: L) H) (f : ∀ H, A H → B H → C H) : Hd (C :: L) H := by
  obtain ⟨H1, H2, c, s1, s2, p, H3, H4, c2, s3, s4, q, r⟩ := h
  have c13 := c.sub (Sub.refl _) s3
  have c14 := c.sub (Sub.refl _) s4
  exact ⟨uni H1 H3, H4, (uni_cmp c14.symm c2.symm).symm, uni_sub s1 (s3.trans s2), s4.trans s2, f _ (ua _ _ (uni_l _ _) p) (ub _ _ (uni_r c13) q), r⟩
/-- an object of an atom is changed -/
theorem Hd.chg {A B : SA} {L : List SA} {H : Hp} {d : Addr} {o' : HO} (h : Hd (A :: L) H) (m : ∀ H, A H → ∃ o, H d = some o ∧ ¬ Imm o) (f : ∀ H, A H → B (upd H d o')) : Hd (B :: L) (upd H d o') := by
  obtain ⟨H1, H2, c, s1, s2, p, q⟩ := h
  obtain ⟨o, ho, hm⟩ := m _ p
  have n : H2 d = none := by
    cases z : H2 d with
    | none => rfl
    | some u => exact (hm (c d o u ho z).2).elim
  refine ⟨upd H1 d o', H2, fun b o1 o2 h1 h2 => ?_, fun b u e => ?_, fun b u e => ?_, f _ p, q⟩
  · by_cases z : b = d
    · subst z
      rw [n] at h2
      cases h2
    · rw [upd_ne z] at h1
      exact c b o1 o2 h1 h2
  · by_cases z : b = d
    · subst z
      rw [upd_same] at e ⊢
      exact e
    · rw [upd_ne z] at e ⊢
      exact s1 b u e
  · have z : b ≠ d := fun z => by
      subst z
      rw [n] at e
      cases e
    rw [upd_ne z]
    exact s2 b u e
/-- what is true at all greater heaps of A's piece may be carried beside it -/
theorem Hd.also {A B : SA} {L : List SA} {H : Hp} (h : Hd (A :: L) H) (f : ∀ H, A H → B H) : Hd (B :: L) H := h.imp f
end Sl
namespace Sl
open PySem L2
theorem flat_ints (ns : List Int) : (ns.map V.int).all flatV = true := by
  rw [List.all_map, List.all_eq_true]
  exact fun _ _ => rfl
end Sl
namespace Sl
open PySem L2
/-- what stands behind several ways is shown once: tail at each of them, then its proof -/
theorem r_late {L : List SA} {H : Hp} {B : Prop} {R : Hp → Prop} (_ : Hd L H) (f : (∀ H, Hd L H → R H) → B) (a : ∀ H, Hd L H → R H) : B := f a
end Sl

set_option maxRecDepth 100000
set_option maxHeartbeats 1000000
namespace Sl
open PySem L2
/-! ### what is walked -/
def Rng1K (R : It → Hp → Prop) (vs : List V) (H : Hp) : Prop := ∃ j : Int, vs = [.int j] ∧ -(2 ^ 62) ≤ j ∧ j < 2 ^ 62 ∧ R (Itr 0 j.toNat) H
def Rng2K (R : It → Hp → Prop) (vs : List V) (H : Hp) : Prop := ∃ i j : Int, vs = [.int i, .int j] ∧ (-(2 ^ 62) ≤ i ∧ i < 2 ^ 62 ∧ -(2 ^ 62) ≤ j ∧ j < 2 ^ 62) ∧ R (Itr i (j - i).toNat) H
def ListK (K : PySem.W.Frag) (R : It → Hp → Prop) (x : V) (H : Hp) : Prop := ∃ a, x = .ref a ∧ (∃ xs, SqL K H a xs) ∧ R (Itl K a) H
def TupK (K : PySem.W.Frag) (R : It → Hp → Prop) (x : V) (H : Hp) : Prop := ∃ a, x = .ref a ∧ (∃ xs, SqT K H a xs) ∧ R (Itt K a) H
def EnumK (K : PySem.W.Frag) (R : It → Hp → Prop) (vs : List V) (H : Hp) : Prop := ∃ a xs, vs = [.ref a] ∧ SqL K H a xs ∧ R (Ite K a) H
def ZipK (K : PySem.W.Frag) (R : It → Hp → Prop) (vs : List V) (H : Hp) : Prop := ∃ a b xs ys, vs = [.ref a, .ref b] ∧ SqL K H a xs ∧ SqL K H b ys ∧ R (Itz K a b) H
/-- a loop's turns; a comprehension's -/
def ForK (g : TG) (tb : TS) (D : Ends) (σ : L2.St) (J : It) (H : Hp) : Prop := ∃ W : Nat → Nat → L2.St → Hp → Prop, (∃ m, W 0 m σ H) ∧ ∀ i m σ H, W i m σ H →
  (J.stop i H ∧ D.nx σ H) ∨ (J.go i H ∧ ∃ N : L2.St → Hp → Prop, (∀ σ' H', N σ' H' → ∃ m', m' < m ∧ W (i + 1) m' σ' H') ∧ ∀ x H', J.yld i H x H' → g x σ H' fun σ2 H2 => tb { D with nx := N, ct := N, bk := D.nx } σ2 H2)
def LcK (g : TG) (tt : TT) (te : TE) (vs : List Nat) (σ : L2.St) (Q : VK) (J : It) (H1 : Hp) : Prop := ∀ D, H1 D = none → ∃ W : Nat → Nat → Hp → Prop, (∃ m, W 0 m (upd H1 D (.lst []))) ∧ ∀ i m H, W i m H →
  (J.stop i H ∧ Q (.ref D) H) ∨ (J.go i H ∧ ∃ Nx : Hp → Prop, (∀ H', Nx H' → ∃ m', m' < m ∧ W (i + 1) m' H') ∧ ∀ x H', J.yld i H x H' → g x (wipe σ vs) H' fun σ2 H2 => wipe σ2 vs = wipe σ vs ∧ tt σ2 H2 fun b H3 =>
    if b = true then te σ2 H3 fun y H4 => ∃ acc, H4 D = some (.lst acc) ∧ acc.length < sizeLine ∧ Nx (upd H4 D (.lst (acc ++ [y]))) else Nx H3)
def AppK (D : Addr) (N : Hp → Prop) (y : V) (H : Hp) : Prop := ∃ acc, H D = some (.lst acc) ∧ acc.length < sizeLine ∧ N (upd H D (.lst (acc ++ [y])))
section
variable {K : PySem.W.Frag} {σ : L2.St} {H : Hp} {D : Ends} {t u tb : TS} {te : TE} {tr : TA} {tt : TT} {wi : TI} {g : TG} {gs : TGs} {Q : VK} {R : It → Hp → Prop} {v x y : V} {i j k : Int} {n : Nat}
  {L L' : List SA} {a b p T : Addr} {xs ys : List V} {vs : List Nat} {QS : L2.St → Hp → Prop}
theorem r_for (q : wi σ H (ForK g tb D σ)) : tFor wi g tb D σ H := q
theorem r_lc (q : wi σ H (LcK g tt te vs σ Q)) : tLc wi g tt te vs σ H Q := q
theorem r_rng1 (q : tr σ H (Rng1K R)) : iRng1 tr σ H R := q
theorem r_rng2 (q : tr σ H (Rng2K R)) : iRng2 tr σ H R := q
theorem r_iList (q : te σ H (ListK K R)) : iList K te σ H R := q
theorem r_iTup (q : te σ H (TupK K R)) : iTup K te σ H R := q
theorem r_iEnum (q : tr σ H (EnumK K R)) : iEnum K tr σ H R := q
theorem r_iZip (q : tr σ H (ZipK K R)) : iZip K tr σ H R := q
theorem r_rng1K (h : -4000000000000000000 ≤ j ∧ j ≤ 4000000000000000000) (q : R (Itr 0 j.toNat) H) : Rng1K R [.int j] H := ⟨j, rfl, by omega, by omega, q⟩
theorem r_rng2K (h : -4000000000000000000 ≤ i ∧ i ≤ 4000000000000000000 ∧ -4000000000000000000 ≤ j ∧ j ≤ 4000000000000000000) (q : R (Itr i (j - i).toNat) H) : Rng2K R [.int i, .int j] H := ⟨i, j, rfl, ⟨by omega, by omega, by omega, by omega⟩, q⟩
theorem r_listK (h : SqL K H a xs) (q : R (Itl K a) H) : ListK K R (.ref a) H := ⟨a, rfl, ⟨xs, h⟩, q⟩
theorem r_tupK (h : SqT K H a xs) (q : R (Itt K a) H) : TupK K R (.ref a) H := ⟨a, rfl, ⟨xs, h⟩, q⟩
theorem r_enumK (h : SqL K H a xs) (q : R (Ite K a) H) : EnumK K R [.ref a] H := ⟨a, xs, rfl, h, q⟩
theorem r_zipK (h : SqL K H a xs) (h2 : SqL K H b ys) (q : R (Itz K a b) H) : ZipK K R [.ref a, .ref b] H := ⟨a, b, xs, ys, rfl, h, h2, q⟩
theorem r_gTup {k : Nat} (h : SqT K H a xs) (hl : xs.length = k) (q : gs xs σ H QS) : gTup K k gs (.ref a) σ H QS := ⟨a, xs, rfl, h, hl, q⟩
theorem r_gTupNew {k : Nat} (hs : Hd L H) (hT : H T = none) (hl : xs.length = k) (q : ∀ H', Hd (pto T (.tup xs) :: L) H' → gs xs σ H' QS) : gTup K k gs (.ref T) σ (upd H T (.tup xs)) QS :=
  ⟨T, xs, rfl, SqT.of upd_same, hl, q _ (hs.new hT)⟩
theorem r_gCons {xs : List V} (q : g x σ H fun σ' H' => gs xs σ' H' QS) : gCons g gs (x :: xs) σ H QS := ⟨x, xs, rfl, q⟩
theorem r_gNil (q : QS σ H) : gNil [] σ H QS := ⟨rfl, q⟩
theorem r_yes {QT : Bool → Hp → Prop} (q : QT true H) : tYes σ H QT := q
theorem r_appK {acc : List V} {D : Addr} {N : Hp → Prop} (hs : Hd L H) (p : Put (pto D (.lst acc)) (pto D (.lst (acc ++ [y]))) L L') (hl : acc.length < sizeLine) (q : ∀ H', Hd L' H' → N H') : AppK D N y H := by
  obtain ⟨M, pa, _⟩ := p.pulls
  exact ⟨acc, hs.get pa, hl, q _ (hs.set p (fun z => z))⟩
theorem r_par {i j : Nat} (q : tr σ H fun vs H1 => ∃ v w, vs = [v, w] ∧ D.nx ((σ.set i (some v)).set j (some w)) H1) : tPar i j tr D σ H := q
theorem r_mulT (hs : Hd L H) (h : SqT K H a xs) (hx : xs ≠ []) (hk : 2 ≤ k ∧ k ≤ 1000) (hl : xs.length ≤ 1000) (q : ∀ p H', Hd (pto p (.tup (List.replicate k.toNat xs).flatten) :: L) H' → Q (.ref p) H') : rMulU K (.ref a) (.int k) H Q :=
  .inr (.inr ⟨a, k, xs, rfl, rfl, h, hx, hk.1, hk.2, hl, fun p n => q p _ (hs.new n)⟩)
/-! #### loops by an invariant -/
theorem r_forW {J : It} {G : Hp → Prop} {Y : Nat → Hp → V → Hp → Prop} (w : Walk J n G Y) (P : Nat → L2.St → Hp → Prop) (h0 : P 0 σ H) (hG : ∀ i σ H, i ≤ n → P i σ H → G H)
    (hs : ∀ i x σ H H', i < n → P i σ H → Y i H x H' → g x σ H' fun σ2 H2 => tb { D with nx := P (i + 1), ct := P (i + 1), bk := D.nx } σ2 H2) (hd : ∀ σ H, P n σ H → D.nx σ H) : ForK g tb D σ J H := for_it w P h0 hG hs hd
theorem r_forR {lo : Int} (P : Nat → L2.St → Hp → Prop) (h0 : P 0 σ H)
    (hs : ∀ i σ H, i < n → P i σ H → g (.int (lo + (i : Nat))) σ H fun σ2 H2 => tb { D with nx := P (i + 1), ct := P (i + 1), bk := D.nx } σ2 H2) (hd : ∀ σ H, P n σ H → D.nx σ H) : ForK g tb D σ (Itr lo n) H :=
  r_forW walk_range P h0 (fun _ _ _ _ _ => trivial) (fun i x σ H H' hi p y => by
    obtain ⟨e, y⟩ := y
    subst e y
    exact hs i σ _ hi p) hd
theorem r_forL (xs : List V) (P : Nat → L2.St → Hp → Prop) (h0 : P 0 σ H) (hl : ∀ i σ H, i ≤ xs.length → P i σ H → SqL K H a xs)
    (hs : ∀ i x σ H, xs[i]? = some x → P i σ H → g x σ H fun σ2 H2 => tb { D with nx := P (i + 1), ct := P (i + 1), bk := D.nx } σ2 H2) (hd : ∀ σ H, P xs.length σ H → D.nx σ H) : ForK g tb D σ (Itl K a) H :=
  r_forW walk_list P h0 hl (fun i x σ H H' hi p y => by
    obtain ⟨e, y⟩ := y
    subst e
    exact hs i x σ _ y p) hd
theorem r_forT (xs : List V) (P : Nat → L2.St → Hp → Prop) (h0 : P 0 σ H) (hl : ∀ i σ H, i ≤ xs.length → P i σ H → SqT K H a xs)
    (hs : ∀ i x σ H, xs[i]? = some x → P i σ H → g x σ H fun σ2 H2 => tb { D with nx := P (i + 1), ct := P (i + 1), bk := D.nx } σ2 H2) (hd : ∀ σ H, P xs.length σ H → D.nx σ H) : ForK g tb D σ (Itt K a) H :=
  r_forW walk_tup P h0 hl (fun i x σ H H' hi p y => by
    obtain ⟨e, y⟩ := y
    subst e
    exact hs i x σ _ y p) hd
theorem r_forE (xs : List V) (P : Nat → L2.St → Hp → Prop) (h0 : P 0 σ H) (hl : ∀ i σ H, i ≤ xs.length → P i σ H → SqL K H a xs)
    (hs : ∀ i x T σ H, xs[i]? = some x → P i σ H → H T = none → g (.ref T) σ (upd H T (.tup [.int (i : Nat), x])) fun σ2 H2 => tb { D with nx := P (i + 1), ct := P (i + 1), bk := D.nx } σ2 H2) (hd : ∀ σ H, P xs.length σ H → D.nx σ H) : ForK g tb D σ (Ite K a) H :=
  r_forW walk_enum P h0 hl (fun i x σ H H' hi p y => by
    obtain ⟨T, z, w, rfl, hT, rfl, e1, e2⟩ := y
    cases e1
    exact hs i w T σ _ e2 p hT) hd
theorem r_forZ (xs ys : List V) (hn : n = min xs.length ys.length) (P : Nat → L2.St → Hp → Prop) (h0 : P 0 σ H) (hl : ∀ i σ H, i ≤ n → P i σ H → SqL K H a xs ∧ SqL K H b ys)
    (hs : ∀ i x y T σ H, xs[i]? = some x → ys[i]? = some y → P i σ H → H T = none → g (.ref T) σ (upd H T (.tup [x, y])) fun σ2 H2 => tb { D with nx := P (i + 1), ct := P (i + 1), bk := D.nx } σ2 H2) (hd : ∀ σ H, P n σ H → D.nx σ H) : ForK g tb D σ (Itz K a b) H :=
  r_forW (walk_zip hn) P h0 hl (fun i x σ H H' hi p y => by
    obtain ⟨T, z, w, rfl, hT, rfl, e1, e2⟩ := y
    exact hs i z w T σ _ e1 e2 p hT) hd
/-! #### comprehensions: P D i: what holds behind i turns, the new list at D -/
theorem r_lcW {J : It} {G : Hp → Prop} {Y : Nat → Hp → V → Hp → Prop} (w : Walk J n G Y) (P : Addr → Nat → Hp → Prop) (hh : Hd L H) (h0 : ∀ D H', Hd (pto D (.lst []) :: L) H' → P D 0 H') (hG : ∀ D i H, i ≤ n → P D i H → G H)
    (hs : ∀ D i x H H', i < n → P D i H → Y i H x H' → g x (wipe σ vs) H' fun σ2 H2 => wipe σ2 vs = wipe σ vs ∧ tt σ2 H2 fun b H3 => if b = true then te σ2 H3 (AppK D (P D (i + 1))) else P D (i + 1) H3)
    (hd : ∀ D H, P D n H → Q (.ref D) H) : LcK g tt te vs σ Q J H := fun D hD =>
  lc_it w (P D) (h0 D _ (hh.new hD)) (hG D) (fun i x H H' hi p y => hs D i x H H' hi p y) (hd D)
theorem r_lcR {lo : Int} (P : Addr → Nat → Hp → Prop) (hh : Hd L H) (h0 : ∀ D H', Hd (pto D (.lst []) :: L) H' → P D 0 H')
    (hs : ∀ D i H, i < n → P D i H → g (.int (lo + (i : Nat))) (wipe σ vs) H fun σ2 H2 => wipe σ2 vs = wipe σ vs ∧ tt σ2 H2 fun b H3 => if b = true then te σ2 H3 (AppK D (P D (i + 1))) else P D (i + 1) H3)
    (hd : ∀ D H, P D n H → Q (.ref D) H) : LcK g tt te vs σ Q (Itr lo n) H :=
  r_lcW walk_range P hh h0 (fun _ _ _ _ _ => trivial) (fun D i x H H' hi p y => by
    obtain ⟨e, y⟩ := y
    subst e y
    exact hs D i _ hi p) hd
theorem r_lcL (xs : List V) (P : Addr → Nat → Hp → Prop) (hh : Hd L H) (h0 : ∀ D H', Hd (pto D (.lst []) :: L) H' → P D 0 H') (hl : ∀ D i H, i ≤ xs.length → P D i H → SqL K H a xs)
    (hs : ∀ D i x H, xs[i]? = some x → P D i H → g x (wipe σ vs) H fun σ2 H2 => wipe σ2 vs = wipe σ vs ∧ tt σ2 H2 fun b H3 => if b = true then te σ2 H3 (AppK D (P D (i + 1))) else P D (i + 1) H3)
    (hd : ∀ D H, P D xs.length H → Q (.ref D) H) : LcK g tt te vs σ Q (Itl K a) H :=
  r_lcW walk_list P hh h0 hl (fun D i x H H' hi p y => by
    obtain ⟨e, y⟩ := y
    subst e
    exact hs D i x _ y p) hd
theorem r_lcT (xs : List V) (P : Addr → Nat → Hp → Prop) (hh : Hd L H) (h0 : ∀ D H', Hd (pto D (.lst []) :: L) H' → P D 0 H') (hl : ∀ D i H, i ≤ xs.length → P D i H → SqT K H a xs)
    (hs : ∀ D i x H, xs[i]? = some x → P D i H → g x (wipe σ vs) H fun σ2 H2 => wipe σ2 vs = wipe σ vs ∧ tt σ2 H2 fun b H3 => if b = true then te σ2 H3 (AppK D (P D (i + 1))) else P D (i + 1) H3)
    (hd : ∀ D H, P D xs.length H → Q (.ref D) H) : LcK g tt te vs σ Q (Itt K a) H :=
  r_lcW walk_tup P hh h0 hl (fun D i x H H' hi p y => by
    obtain ⟨e, y⟩ := y
    subst e
    exact hs D i x _ y p) hd
theorem r_lcE (xs : List V) (P : Addr → Nat → Hp → Prop) (hh : Hd L H) (h0 : ∀ D H', Hd (pto D (.lst []) :: L) H' → P D 0 H') (hl : ∀ D i H, i ≤ xs.length → P D i H → SqL K H a xs)
    (hs : ∀ D i x T H, xs[i]? = some x → P D i H → H T = none → g (.ref T) (wipe σ vs) (upd H T (.tup [.int (i : Nat), x])) fun σ2 H2 => wipe σ2 vs = wipe σ vs ∧ tt σ2 H2 fun b H3 => if b = true then te σ2 H3 (AppK D (P D (i + 1))) else P D (i + 1) H3)
    (hd : ∀ D H, P D xs.length H → Q (.ref D) H) : LcK g tt te vs σ Q (Ite K a) H :=
  r_lcW walk_enum P hh h0 hl (fun D i x H H' hi p y => by
    obtain ⟨T, z, w, rfl, hT, rfl, e1, e2⟩ := y
    cases e1
    exact hs D i w T _ e2 p hT) hd
end
theorem Hd.tup {L : List SA} {H : Hp} {t : Addr} {xs : List V} (h : Hd L H) (e : H t = some (.tup xs)) : Hd (pto t (.tup xs) :: L) H :=
  ⟨Sl.one t (.tup xs), H, fun b o1 o2 h1 h2 => by
    obtain ⟨rfl, rfl⟩ := of_one h1
    rw [e] at h2
    cases h2
    exact ⟨rfl, trivial⟩, one_sub e, Sub.refl _, one_at, h⟩
theorem cl_ints : ∀ ns : List Int, PyData.canLayAll0 (ns.map PyData.int) = true
  | [] => rfl
  | n :: r => by rw [List.map_cons, PyData.canLayAll0, cl_ints r]; rfl
theorem dt_ints : ∀ ns : List Int, PyData.depthAll (ns.map PyData.int) ≤ 1
  | [] => by decide
  | n :: r => by
    have h := dt_ints r
    rw [List.map_cons, PyData.depthAll]
    simp only [PyData.depth]
    omega
theorem sh_listI (ns : List Int) : SeqAt.shaped (.list (ns.map PyData.int)) = true := by
  have h := dt_ints ns
  unfold SeqAt.shaped
  rw [PyData.canLay0, cl_ints, Bool.true_and]
  apply decide_eq_true
  rw [PyData.depth]
  omega
theorem sh_tupI (ns : List Int) : SeqAt.shaped (.tuple (ns.map PyData.int)) = true := by
  have h := dt_ints ns
  unfold SeqAt.shaped
  rw [PyData.canLay0, cl_ints, Bool.true_and]
  apply decide_eq_true
  rw [PyData.depth]
  omega
/-- a list, or a tuple -/
def seqO : Bool → List V → HO
  | true, xs => .tup xs
  | false, xs => .lst xs
theorem r_setDX {v : V} {i : Int} {a : Addr} {H : Hp} {N : Hp → Prop} {kvs : List (Key × V)} (h : H a = some (.dK kvs)) (hl : kvs.length < sizeLine) (q : N (upd H a (.dK (putK kvs (.inl i) v)))) : rSetU (.ref a) (.int i) v H N := .inr ⟨a, _, rfl, DPut.k (k := .inl i) h hl, q⟩
theorem dp_ints {K : PySem.W.Frag} {H : Hp} : ∀ ns : List Int, DpAll K H (ns.map V.int) (ns.map PyData.int)
  | [] => .nil
  | n :: r => .cons (.int n) (dp_ints r)
theorem r_eqSame {K : PySem.W.Frag} {H : Hp} {x y : V} {Q : VK} {d : PyData} (h1 : Dp K H x d) (h2 : Dp K H y d) (s1 : SeqAt.shaped d = true) (e : PyData.eqv d d = true) (q : Q (.bl true) H) : rEqU K x y H Q := r_eqD h1 h2 s1 s1 (by rw [e]; exact q)
theorem r_neSame {K : PySem.W.Frag} {H : Hp} {x y : V} {Q : VK} {d : PyData} (h1 : Dp K H x d) (h2 : Dp K H y d) (s1 : SeqAt.shaped d = true) (e : PyData.eqv d d = true) (q : Q (.bl false) H) : rNeU K x y H Q := r_neD h1 h2 s1 s1 (by rw [e]; exact q)
end Sl
namespace Sl
open PySem L2
/-! ### the same rules, the written part named by a letter (within a comprehension's block) -/
section
variable {X : Cx} {K : PySem.W.Frag}
theorem k_add (h : X.K = K) : OpR X (binaryOp .Add) (rAddU K) := h ▸ u_add
theorem k_sub (_ : X.K = K) : OpR X (binaryOp .Sub) (rI0 fun i j => .int (i - j)) := u_sub
theorem k_mul (h : X.K = K) : OpR X (binaryOp .Mult) (rMulU K) := h ▸ u_mul
theorem k_div (_ : X.K = K) : OpR X (binaryOp .FloorDiv) rDivU := u_div
theorem k_mod (_ : X.K = K) : OpR X (binaryOp .Mod) (rI (fun _ j => 0 < j) fun i j => .int (i % j)) := u_mod
theorem k_pow (_ : X.K = K) : OpR X (binaryOp .Pow) (rI CPow fun i j => .int (i ^ j.toNat)) := u_pow
theorem k_eq (h : X.K = K) (hu : X.A.units + 64 < cLine) : OpR X (compareOp .Eq) (rEqU K) := h ▸ u_eq hu
theorem k_ne (h : X.K = K) (hu : X.A.units + 64 < cLine) : OpR X (compareOp .NotEq) (rNeU K) := h ▸ u_ne hu
theorem k_in (h : X.K = K) (hu : X.A.units + 1 < cLine) : OpR X (compareOp .In) (rInU K false) := h ▸ u_in hu
theorem k_notIn (h : X.K = K) (hu : X.A.units + 1 < cLine) : OpR X (compareOp .NotIn) (rInU K true) := h ▸ u_notIn hu
theorem k_ix (h : X.K = K) (hu : X.A.units + 1 < cLine) : IxR X (rIxU K) := h ▸ u_ix hu
theorem k_len (h : X.K = K) : CallR X (.builtin "len") (rLenU K) := h ▸ u_len
theorem k_list (h : X.K = K) : CallR X (.type "list") (rListOf K) := h ▸ u_list
theorem k_tuple (h : X.K = K) : CallR X (.type "tuple") (rTupleOf K) := h ▸ u_tuple
theorem k_isi (h : X.K = K) : CallR X (.builtin "isinstance") (rIsiU K) := h ▸ u_isi
theorem k_sum (h : X.K = K) (hc : X.calm = true) : CallR X (.builtin "sum") (rSum K) := h ▸ cr_sum hc
theorem k_all (h : X.K = K) (hc : X.calm = true) : CallR X (.builtin "all") (rAll K) := h ▸ cr_all hc
theorem k_any (h : X.K = K) (hc : X.calm = true) : CallR X (.builtin "any") (rAny K) := h ▸ cr_any hc
theorem k_sorted (h : X.K = K) : CallR X (.builtin "sorted") (rSortedI K) := h ▸ cr_sortedI
theorem k_max (h : X.K = K) (hc : X.calm = true) : CallR X (.builtin "max") (rMax K) := h ▸ cr_max hc
theorem k_min (h : X.K = K) (hc : X.calm = true) : CallR X (.builtin "min") (rMin K) := h ▸ cr_min hc
theorem k_slL (h : X.K = K) : SlR X (rSlL K) := h ▸ sl_list
theorem k_slT (h : X.K = K) : SlR X (rSlT K) := h ▸ sl_tup
theorem k_mtIndex (h : X.K = K) : MtR X "list.index" (rIndex K) := h ▸ mt_index
theorem k_mtCount (h : X.K = K) : MtR X "list.count" (rCntI K) := h ▸ mt_lcount
theorem k_fld {e : Expr} {ta : TE} {f : Str} {pos : Pos} (h : X.K = K) (he : PE X e ta) (hb : attributeBase e f X.env (eval e X.env) = eval e X.env) : PE X (.Attribute e f pos) (tFld K ta f) := h ▸ pe_fld he hb
theorem k_bm0 {o : Expr} {to : TE} {name : Str} {apos cpos : Pos} {T : String} {r : V → List V → Hp → VK → Prop} (h : X.K = K) (p : PE X (.Call (.Attribute o name apos) [] [] cpos) (tBM0 X.K T r to)) : PE X (.Call (.Attribute o name apos) [] [] cpos) (tBM0 K T r to) := h ▸ p
theorem k_bm {o e : Expr} {es : List Expr} {to : TE} {t : TA} {name : Str} {apos cpos : Pos} {T : String} {r : V → List V → Hp → VK → Prop} (h : X.K = K) (p : PE X (.Call (.Attribute o name apos) (e :: es) [] cpos) (tBM X.K T r to t)) : PE X (.Call (.Attribute o name apos) (e :: es) [] cpos) (tBM K T r to t) := h ▸ p
theorem k_gTup {es : List Expr} {k : Nat} {t : TGs} {n : Nat} {pos : Pos} (h : X.K = K) (p : PG X (.Tuple es k pos) (gTup X.K n t)) : PG X (.Tuple es k pos) (gTup K n t) := h ▸ p
end
end Sl
namespace Sl
open PySem L2
theorem kb_int_int {K : PySem.W.Frag} : PySem.W.kitOne K (.type "int") (.type "int") = some true := kit_ty (by decide +kernel)
theorem kb_int_bool {K : PySem.W.Frag} : PySem.W.kitOne K (.type "int") (.type "bool") = some false := kit_ty (by decide +kernel)
theorem kb_int_str {K : PySem.W.Frag} : PySem.W.kitOne K (.type "int") (.type "str") = some false := kit_ty (by decide +kernel)
theorem kb_int_list {K : PySem.W.Frag} : PySem.W.kitOne K (.type "int") (.type "list") = some false := kit_ty (by decide +kernel)
theorem kb_int_tuple {K : PySem.W.Frag} : PySem.W.kitOne K (.type "int") (.type "tuple") = some false := kit_ty (by decide +kernel)
theorem kb_int_dict {K : PySem.W.Frag} : PySem.W.kitOne K (.type "int") (.type "dict") = some false := kit_ty (by decide +kernel)
theorem kb_bool_int {K : PySem.W.Frag} : PySem.W.kitOne K (.type "bool") (.type "int") = some true := kit_ty (by decide +kernel)
theorem kb_bool_bool {K : PySem.W.Frag} : PySem.W.kitOne K (.type "bool") (.type "bool") = some true := kit_ty (by decide +kernel)
theorem kb_bool_str {K : PySem.W.Frag} : PySem.W.kitOne K (.type "bool") (.type "str") = some false := kit_ty (by decide +kernel)
theorem kb_bool_list {K : PySem.W.Frag} : PySem.W.kitOne K (.type "bool") (.type "list") = some false := kit_ty (by decide +kernel)
theorem kb_bool_tuple {K : PySem.W.Frag} : PySem.W.kitOne K (.type "bool") (.type "tuple") = some false := kit_ty (by decide +kernel)
theorem kb_bool_dict {K : PySem.W.Frag} : PySem.W.kitOne K (.type "bool") (.type "dict") = some false := kit_ty (by decide +kernel)
theorem kb_str_int {K : PySem.W.Frag} : PySem.W.kitOne K (.type "str") (.type "int") = some false := kit_ty (by decide +kernel)
theorem kb_str_bool {K : PySem.W.Frag} : PySem.W.kitOne K (.type "str") (.type "bool") = some false := kit_ty (by decide +kernel)
theorem kb_str_str {K : PySem.W.Frag} : PySem.W.kitOne K (.type "str") (.type "str") = some true := kit_ty (by decide +kernel)
theorem kb_str_list {K : PySem.W.Frag} : PySem.W.kitOne K (.type "str") (.type "list") = some false := kit_ty (by decide +kernel)
theorem kb_str_tuple {K : PySem.W.Frag} : PySem.W.kitOne K (.type "str") (.type "tuple") = some false := kit_ty (by decide +kernel)
theorem kb_str_dict {K : PySem.W.Frag} : PySem.W.kitOne K (.type "str") (.type "dict") = some false := kit_ty (by decide +kernel)
theorem kb_list_int {K : PySem.W.Frag} : PySem.W.kitOne K (.type "list") (.type "int") = some false := kit_ty (by decide +kernel)
theorem kb_list_bool {K : PySem.W.Frag} : PySem.W.kitOne K (.type "list") (.type "bool") = some false := kit_ty (by decide +kernel)
theorem kb_list_str {K : PySem.W.Frag} : PySem.W.kitOne K (.type "list") (.type "str") = some false := kit_ty (by decide +kernel)
theorem kb_list_list {K : PySem.W.Frag} : PySem.W.kitOne K (.type "list") (.type "list") = some true := kit_ty (by decide +kernel)
theorem kb_list_tuple {K : PySem.W.Frag} : PySem.W.kitOne K (.type "list") (.type "tuple") = some false := kit_ty (by decide +kernel)
theorem kb_list_dict {K : PySem.W.Frag} : PySem.W.kitOne K (.type "list") (.type "dict") = some false := kit_ty (by decide +kernel)
theorem kb_tuple_int {K : PySem.W.Frag} : PySem.W.kitOne K (.type "tuple") (.type "int") = some false := kit_ty (by decide +kernel)
theorem kb_tuple_bool {K : PySem.W.Frag} : PySem.W.kitOne K (.type "tuple") (.type "bool") = some false := kit_ty (by decide +kernel)
theorem kb_tuple_str {K : PySem.W.Frag} : PySem.W.kitOne K (.type "tuple") (.type "str") = some false := kit_ty (by decide +kernel)
theorem kb_tuple_list {K : PySem.W.Frag} : PySem.W.kitOne K (.type "tuple") (.type "list") = some false := kit_ty (by decide +kernel)
theorem kb_tuple_tuple {K : PySem.W.Frag} : PySem.W.kitOne K (.type "tuple") (.type "tuple") = some true := kit_ty (by decide +kernel)
theorem kb_tuple_dict {K : PySem.W.Frag} : PySem.W.kitOne K (.type "tuple") (.type "dict") = some false := kit_ty (by decide +kernel)
theorem kb_dict_int {K : PySem.W.Frag} : PySem.W.kitOne K (.type "dict") (.type "int") = some false := kit_ty (by decide +kernel)
theorem kb_dict_bool {K : PySem.W.Frag} : PySem.W.kitOne K (.type "dict") (.type "bool") = some false := kit_ty (by decide +kernel)
theorem kb_dict_str {K : PySem.W.Frag} : PySem.W.kitOne K (.type "dict") (.type "str") = some false := kit_ty (by decide +kernel)
theorem kb_dict_list {K : PySem.W.Frag} : PySem.W.kitOne K (.type "dict") (.type "list") = some false := kit_ty (by decide +kernel)
theorem kb_dict_tuple {K : PySem.W.Frag} : PySem.W.kitOne K (.type "dict") (.type "tuple") = some false := kit_ty (by decide +kernel)
theorem kb_dict_dict {K : PySem.W.Frag} : PySem.W.kitOne K (.type "dict") (.type "dict") = some true := kit_ty (by decide +kernel)
theorem kb_NoneType_int {K : PySem.W.Frag} : PySem.W.kitOne K (.type "NoneType") (.type "int") = some false := kit_ty (by decide +kernel)
theorem kb_NoneType_bool {K : PySem.W.Frag} : PySem.W.kitOne K (.type "NoneType") (.type "bool") = some false := kit_ty (by decide +kernel)
theorem kb_NoneType_str {K : PySem.W.Frag} : PySem.W.kitOne K (.type "NoneType") (.type "str") = some false := kit_ty (by decide +kernel)
theorem kb_NoneType_list {K : PySem.W.Frag} : PySem.W.kitOne K (.type "NoneType") (.type "list") = some false := kit_ty (by decide +kernel)
theorem kb_NoneType_tuple {K : PySem.W.Frag} : PySem.W.kitOne K (.type "NoneType") (.type "tuple") = some false := kit_ty (by decide +kernel)
theorem kb_NoneType_dict {K : PySem.W.Frag} : PySem.W.kitOne K (.type "NoneType") (.type "dict") = some false := kit_ty (by decide +kernel)
theorem r_iteNT {A B : Prop} (h : B) : if (!true) = true then A else B := iteF h
theorem r_iteNF {A B : Prop} (h : A) : if (!false) = true then A else B := iteT h
end Sl

set_option maxRecDepth 100000
set_option maxHeartbeats 1000000
namespace Sl
open PySem L2
/-! ### many lists -/
/-- at the addresses ls stand the lists q -/
def rowsA (ls : List Addr) (q : List (List V)) : SA := fun H => ls.Nodup ∧ ls.length = q.length ∧ ∀ (i : Nat) a r, ls[i]? = some a → q[i]? = some r → H a = some (.lst r)
theorem up_rows (ls : List Addr) (q : List (List V)) : Up (rowsA ls q) := fun _ _ s h => ⟨h.1, h.2.1, fun i a r h1 h2 => s _ _ (h.2.2 i a r h1 h2)⟩
theorem rows_nil {L : List SA} {H : Hp} (h : Hd L H) : Hd (rowsA [] [] :: L) H :=
  ⟨fun _ => none, H, fun _ _ _ h => (nomatch h), fun _ _ h => (nomatch h), Sub.refl _, ⟨List.nodup_nil, rfl, fun _ _ _ h => by simp at h⟩, h⟩
theorem rows_get {ls : List Addr} {q : List (List V)} {L L' : List SA} {H : Hp} (h : Hd L H) (p : Pull (rowsA ls q) L L') {i : Nat} {a : Addr} {r : List V} (h1 : ls[i]? = some a) (h2 : q[i]? = some r) : H a = some (.lst r) :=
  (h.at (up_rows ls q) p).2.2 i a r h1 h2
theorem rows_len {ls : List Addr} {q : List (List V)} {L L' : List SA} {H : Hp} (h : Hd L H) (p : Pull (rowsA ls q) L L') : ls.length = q.length := (h.at (up_rows ls q) p).2.1
theorem rows_at {ls : List Addr} {q : List (List V)} {L L' : List SA} {H : Hp} (h : Hd L H) (p : Pull (rowsA ls q) L L') {i : Nat} (hi : i < q.length) : ∃ a, ls[i]? = some a ∧ H a = some (.lst q[i]) := by
  have e := rows_len h p
  have hi' : i < ls.length := by omega
  exact ⟨ls[i], by simp [hi'], rows_get h p (i := i) (by simp [hi']) (by simp [hi])⟩
theorem rows_set {ls : List Addr} {q : List (List V)} {L : List SA} {H : Hp} (h : Hd (rowsA ls q :: L) H) {i : Nat} {a : Addr} (h1 : ls[i]? = some a) (r : List V) : Hd (rowsA ls (q.set i r) :: L) (upd H a (.lst r)) := by
  refine h.chg (fun G z => ?_) fun G z => ?_
  · have hi : i < q.length := by
      rw [← z.2.1]
      exact (List.getElem?_eq_some_iff.mp h1).1
    exact ⟨_, z.2.2 i a q[i] h1 (by simp [hi]), fun z => z⟩
  · refine ⟨z.1, by rw [List.length_set]; exact z.2.1, fun j b s e1 e2 => ?_⟩
    by_cases e : j = i
    · subst e
      rw [h1] at e1
      cases e1
      have hj : j < q.length := by
        rw [← z.2.1]
        exact (List.getElem?_eq_some_iff.mp h1).1
      rw [List.getElem?_set_self hj] at e2
      cases e2
      exact upd_same
    · rw [List.getElem?_set_ne (Ne.symm e)] at e2
      have nb : b ≠ a := fun z2 => by
        subst z2
        exact e (nd_ix z.1 e1 h1)
      rw [upd_ne nb]
      exact z.2.2 j b s e1 e2
/-- a list of its own is no one of the rows -/
theorem rows_out {ls : List Addr} {q : List (List V)} {L : List SA} {H : Hp} {a : Addr} {r : List V} (h : Hd (pto a (.lst r) :: rowsA ls q :: L) H) : a ∉ ls := fun m => by
  obtain ⟨H1, H2, c, s1, s2, p, H3, H4, c2, s3, s4, p2, q2⟩ := h
  obtain ⟨i, hi, e⟩ := List.mem_iff_getElem.mp m
  have hq : i < q.length := by
    rw [← p2.2.1]
    exact hi
  have h3 := p2.2.2 i a q[i] (by rw [← e]; simp [hi]) (by simp [hq])
  exact (c a _ _ p (s3 _ _ h3)).2
theorem rows_snoc {ls : List Addr} {q : List (List V)} {L : List SA} {H : Hp} {a : Addr} {r : List V} (h : Hd (pto a (.lst r) :: rowsA ls q :: L) H) : Hd (rowsA (ls ++ [a]) (q ++ [r]) :: L) H := by
  have no := rows_out h
  refine Hd.join (up_pto _ _) (up_rows _ _) h fun G z1 z2 => ⟨?_, by simp [z2.2.1], fun i b s e1 e2 => ?_⟩
  · exact nd_snoc z2.1 no
  · by_cases hi : i < ls.length
    · rw [List.getElem?_append_left hi] at e1
      rw [List.getElem?_append_left (by rw [← z2.2.1]; exact hi)] at e2
      exact z2.2.2 i b s e1 e2
    · have hi2 : i < (ls ++ [a]).length := (List.getElem?_eq_some_iff.mp e1).1
      have hi3 : i = ls.length := by
        rw [List.length_append, List.length_singleton] at hi2
        omega
      subst hi3
      rw [List.getElem?_append_right (Nat.le_refl _), Nat.sub_self] at e1
      rw [z2.2.1, List.getElem?_append_right (Nat.le_refl _), Nat.sub_self] at e2
      cases e1
      cases e2
      exact z1
theorem nd_set : ∀ {ls : List Addr} {a : Addr} {i : Nat}, ls.Nodup → a ∉ ls → (ls.set i a).Nodup
  | [], _, _, h, _ => h
  | b :: r, a, 0, h, n => by
    rw [List.set_cons_zero]
    exact List.nodup_cons.mpr ⟨fun m => n (List.mem_cons_of_mem _ m), (List.nodup_cons.mp h).2⟩
  | b :: r, a, i + 1, h, n => by
    rw [List.set_cons_succ]
    refine List.nodup_cons.mpr ⟨fun m => ?_, nd_set (List.nodup_cons.mp h).2 fun m => n (List.mem_cons_of_mem _ m)⟩
    rcases List.mem_or_eq_of_mem_set m with m | m
    · exact (List.nodup_cons.mp h).1 m
    · exact n (by rw [m]; exact List.mem_cons_self)
/-- a row is exchanged for a list of its own -/
theorem rows_repl {ls : List Addr} {q : List (List V)} {L : List SA} {H : Hp} {a : Addr} {r : List V} {i : Nat} (h : Hd (pto a (.lst r) :: rowsA ls q :: L) H) : Hd (rowsA (ls.set i a) (q.set i r) :: L) H := by
  have no := rows_out h
  refine Hd.join (up_pto _ _) (up_rows _ _) h fun G z1 z2 => ⟨?_, by simp [z2.2.1], fun j b s e1 e2 => ?_⟩
  · exact nd_set z2.1 no
  · by_cases e : j = i
    · subst e
      have hj : j < ls.length := by
        have := (List.getElem?_eq_some_iff.mp e1).1
        rw [List.length_set] at this
        exact this
      rw [List.getElem?_set_self hj] at e1
      rw [List.getElem?_set_self (by rw [← z2.2.1]; exact hj)] at e2
      cases e1
      cases e2
      exact z1
    · rw [List.getElem?_set_ne (Ne.symm e)] at e1 e2
      exact z2.2.2 j b s e1 e2
/-! ### a dict of numbers by numbers -/
def dI (d : List (Int × Int)) : List (Key × V) := d.map fun e => (.inl e.1, .int e.2)
def getI (d : List (Int × Int)) (n : Int) : Option Int := (d.find? fun e => decide (e.1 = n)).map (·.2)
def putI (d : List (Int × Int)) (n l : Int) : List (Int × Int) := if d.any fun e => decide (e.1 = n) then d.map fun e => if e.1 = n then (e.1, l) else e else d ++ [(n, l)]
def dropI (d : List (Int × Int)) (n : Int) : List (Int × Int) := d.filter fun e => decide (e.1 ≠ n)
theorem dec_inl (a b : Int) : decide ((Sum.inl a : Key) = Sum.inl b) = decide (a = b) := by
  by_cases e : a = b
  · subst e
    simp
  · have h : ¬ (Sum.inl a : Key) = Sum.inl b := fun q => e (Sum.inl.inj q)
    rw [decide_eq_false h, decide_eq_false e]
theorem valV_dI (d : List (Int × Int)) (n : Int) : valV (dI d) (.inl n) = (getI d n).map V.int := by
  induction d with
  | nil => rfl
  | cons e r ih =>
    by_cases h : e.1 = n
    · rw [show dI (e :: r) = (.inl e.1, .int e.2) :: dI r from rfl, valV_pos (by rw [h])]
      simp [getI, List.find?_cons, h]
    · rw [show dI (e :: r) = (.inl e.1, .int e.2) :: dI r from rfl, valV_neg (fun q => h (Sum.inl.inj q)), ih]
      simp [getI, List.find?_cons, h]
theorem any_dI (d : List (Int × Int)) (n : Int) : ((dI d).any fun kv => decide (kv.1 = (Sum.inl n : Key))) = d.any fun e => decide (e.1 = n) := by
  unfold dI
  rw [List.any_map]
  congr 1
  funext e
  exact dec_inl _ _
theorem putK_dI (d : List (Int × Int)) (n l : Int) : putK (dI d) (.inl n) (.int l) = dI (putI d n l) := by
  unfold putK putI
  rw [any_dI]
  by_cases h : (d.any fun e => decide (e.1 = n)) = true
  · rw [if_pos h, if_pos h]
    unfold dI
    rw [List.map_map, List.map_map]
    congr 1
    funext e
    show (if (Sum.inl e.1 : Key) = Sum.inl n then _ else _) = _
    by_cases q : e.1 = n
    · rw [if_pos (by rw [q])]
      show _ = (Sum.inl (if e.1 = n then (e.1, l) else e).1, V.int (if e.1 = n then (e.1, l) else e).2)
      rw [if_pos q]
    · rw [if_neg (fun z => q (Sum.inl.inj z))]
      show _ = (Sum.inl (if e.1 = n then (e.1, l) else e).1, V.int (if e.1 = n then (e.1, l) else e).2)
      rw [if_neg q]
  · rw [if_neg h, if_neg h]
    unfold dI
    rw [List.map_append]
    rfl
theorem dropK_dI (d : List (Int × Int)) (n : Int) : dropK (dI d) (.inl n) = dI (dropI d n) := by
  unfold dropK dropI dI
  rw [List.filter_map]
  congr 1
  congr 1
  funext e
  by_cases q : e.1 = n
  · simp [q]
  · simp [q]
theorem getI_put (d : List (Int × Int)) (n m l : Int) : getI (putI d n l) m = if m = n then some l else getI d m := by
  have h := valV_put (dI d) (.inl n) (.inl m) (.int l)
  rw [putK_dI, valV_dI, valV_dI] at h
  by_cases e : m = n
  · subst e
    rw [if_pos rfl] at h ⊢
    cases q : getI (putI d m l) m with
    | none =>
      rw [q] at h
      cases h
    | some x =>
      rw [q] at h
      injection h with h
      injection h with h
      rw [h]
  · rw [if_neg (fun z => e (Sum.inl.inj z))] at h
    rw [if_neg e]
    cases q : getI (putI d n l) m <;> cases q2 : getI d m <;> rw [q, q2] at h <;> first | rfl | (cases h; done) | (injection h with h; injection h with h; rw [h])
theorem len_dI (d : List (Int × Int)) : (dI d).length = d.length := by
  unfold dI
  rw [List.length_map]
theorem len_putI (d : List (Int × Int)) (n l : Int) : (putI d n l).length ≤ d.length + 1 := by
  unfold putI
  split
  · rw [List.length_map]
    omega
  · simp
theorem len_dropI (d : List (Int × Int)) (n : Int) : (dropI d n).length ≤ d.length := List.length_filter_le _ _
theorem getI_drop (d : List (Int × Int)) (n m : Int) : getI (dropI d n) m = if m = n then none else getI d m := by
  induction d with
  | nil =>
    split <;> rfl
  | cons e r ih =>
    unfold dropI at ih ⊢
    by_cases h : e.1 = n
    · rw [List.filter_cons, if_neg (by simp [h]), ih]
      by_cases q : m = n
      · rw [if_pos q, if_pos q]
      · rw [if_neg q, if_neg q]
        simp only [getI, List.find?_cons]
        rw [decide_eq_false (fun z => q (z.symm.trans h))]
    · rw [List.filter_cons, if_pos (by simp [h])]
      by_cases q : e.1 = m
      · subst q
        rw [if_neg h]
        simp [getI, List.find?_cons]
      · have a1 : getI (e :: List.filter (fun e => decide (e.1 ≠ n)) r) m = getI (List.filter (fun e => decide (e.1 ≠ n)) r) m := by
          simp only [getI, List.find?_cons]
          rw [decide_eq_false q]
        have a2 : getI (e :: r) m = getI r m := by
          simp only [getI, List.find?_cons]
          rw [decide_eq_false q]
        rw [a1, a2, ih]
/-! ### more rules: objects within atoms -/
section
variable {K : PySem.W.Frag} {H : Hp} {Q : VK} {a c : Addr} {xs ys : List V} {y v : V} {i n : Int} {k : Nat} {N : Hp → Prop}
theorem r_appendX (h : H a = some (.lst xs)) (hl : xs.length < sizeLine) (q : Q .non (upd H a (.lst (xs ++ [y])))) : rAppend (.ref a) [y] H Q := ⟨a, xs, y, rfl, rfl, h, hl, q⟩
theorem r_extendX (h : H a = some (.lst xs)) (h2 : H c = some (.lst ys)) (hl : xs.length + ys.length ≤ sizeLine) (q : Q .non (upd H a (.lst (xs ++ ys)))) : rExtend (.ref a) [.ref c] H Q := ⟨a, c, xs, ys, rfl, rfl, h, h2, hl, q⟩
theorem r_setLX (h : H a = some (.lst xs)) (hk : k < xs.length) (q : N (upd H a (.lst (xs.set k v)))) : rSetU (.ref a) (.int (k : Int)) v H N := by
  refine .inl ⟨a, xs, (k : Int), k, rfl, rfl, h, ?_, q⟩
  unfold ixN
  rw [if_pos (Int.natCast_nonneg k), if_pos (by omega), Int.toNat_natCast]
theorem erase_at : ∀ {ns : List Int} {k : Int} {j : Nat}, ns[j]? = some k → (∀ m : Nat, m < j → ns[m]? ≠ some k) → ns.eraseIdx j = ns.erase k
  | [], _, _, h, _ => by simp at h
  | a :: r, k, 0, h, _ => by
    have e : a = k := Option.some.inj h
    subst e
    simp
  | a :: r, k, j + 1, h, hm => by
    have na : a ≠ k := fun e => hm 0 (Nat.succ_pos _) (by rw [e]; rfl)
    rw [List.eraseIdx_cons_succ, List.erase_cons_tail (by simpa using na), erase_at (ns := r) (k := k) (j := j) h fun m hl => hm (m + 1) (Nat.succ_lt_succ hl)]
theorem first_at : ∀ {ns : List Int} {k : Int}, k ∈ ns → ∃ j : Nat, ns[j]? = some k ∧ ∀ m : Nat, m < j → ns[m]? ≠ some k
  | a :: r, k, h => by
    by_cases e : a = k
    · exact ⟨0, by rw [e]; rfl, fun m hm => by omega⟩
    · obtain ⟨j, h1, h2⟩ := first_at (ns := r) ((List.mem_cons.mp h).resolve_left fun z => e z.symm)
      refine ⟨j + 1, h1, fun m hm => ?_⟩
      cases m with
      | zero => exact fun z => e (Option.some.inj z)
      | succ m => exact h2 m (by omega)
theorem r_removeX {ns : List Int} (h : H a = some (.lst (ns.map V.int))) (hm : n ∈ ns) (q : Q .non (upd H a (.lst ((ns.erase n).map V.int)))) : rRemI (.ref a) [.int n] H Q := by
  obtain ⟨j, h1, h2⟩ := first_at hm
  refine ⟨a, ns, n, j, rfl, rfl, h, h1, h2, ?_⟩
  rw [erase_at h1 h2]
  exact q
theorem r_popDX {kvs : List (Key × V)} (h : H a = some (.dK kvs)) (hv : valV kvs (.inl n) = some v) (q : Q v (upd H a (.dK (dropK kvs (.inl n))))) : ∃ kvs k v, H a = some (.dK kvs) ∧ V.int n = kV k ∧ valV kvs k = some v ∧ Q v (upd H a (.dK (dropK kvs k))) := ⟨kvs, .inl n, v, h, rfl, hv, q⟩
/-- a list of numbers against the empty one -/
theorem eqv_nil (ns : List Int) : PyData.eqv (.list (ns.map PyData.int)) (.list []) = ns.isEmpty := by
  cases ns with
  | nil => rfl
  | cons a r =>
    rw [PyData.eqv, List.map_cons]
    rfl
theorem r_neNil {ns : List Int} (h : SqL K H a (ns.map V.int)) (h2 : SqL K H c []) (q : Q (.bl (!ns.isEmpty)) H) : rNeU K (.ref a) (.ref c) H Q :=
  r_neD (.lst h (dp_ints ns)) (.lst h2 .nil) (sh_listI ns) (by decide) (by rw [eqv_nil]; exact q)
theorem r_eqNil {ns : List Int} (h : SqL K H a (ns.map V.int)) (h2 : SqL K H c []) (q : Q (.bl ns.isEmpty) H) : rEqU K (.ref a) (.ref c) H Q :=
  r_eqD (.lst h (dp_ints ns)) (.lst h2 .nil) (sh_listI ns) (by decide) (by rw [eqv_nil]; exact q)
end
/-! #### o.f += e -/
def AugF (a C : Addr) (f : Str) (N : Hp → Prop) (z : V) (H : Hp) : Prop := ∃ dx' fs', H a = some (.ins C dx' fs') ∧ fs'.length < 1000 ∧ N (upd H a (.ins C dx' (putF f z fs')))
def AugK (K : PySem.W.Frag) (tv : TE) (rd : V → V → Hp → VK → Prop) (f : Str) (σ : L2.St) (N : Hp → Prop) (x : V) (H : Hp) : Prop := ∃ a C dx fs v, x = .ref a ∧ H a = some (.ins C dx fs) ∧ Cls K C ∧ NoAttr K C f ∧ fs.lookup f = some v ∧
  tv σ H fun y H2 => rd v y H2 (AugF a C f N)
def KeysK (R : It → Hp → Prop) (x : V) (H : Hp) : Prop := ∃ d o, x = .ref d ∧ ((∃ kvs, H d = some (.frz o (.dK kvs)) ∧ R (Itk d o kvs) H) ∨ ∃ kvs, H d = some (.frz o (.dT kvs)) ∧ R (Itkt d o kvs) H)
def DPopK (a : Addr) (Q : VK) (y : V) (H : Hp) : Prop := ∃ kvs k v, H a = some (.dK kvs) ∧ y = kV k ∧ valV kvs k = some v ∧ Q v (upd H a (.dK (dropK kvs k)))
def UnlK (d : Addr) (o : Obj) (u : HO) (Q : VK) (v : V) (H : Hp) : Prop := H d = some (.frz o u) ∧ Q v (upd H d u)
section
variable {K : PySem.W.Frag} {σ : L2.St} {H : Hp} {D : Ends} {te ta tb tv : TE} {g : TG} {tt : TT} {Q : VK} {R : It → Hp → Prop} {v x y z : V} {i j n : Int} {L L' : List SA} {a d C dx : Addr} {o : Obj} {kvs : List (Key × V)} {vs : List Nat} {N : Hp → Prop}
theorem r_fldaug {rd : V → V → Hp → VK → Prop} {f : Str} (q : ta σ H (AugK K tv rd f σ (D.nx σ))) : sFldAug K ta tv rd f D σ H := q
theorem r_augK {rd : V → V → Hp → VK → Prop} {f : Str} {fs : List (Str × V)} (h : H a = some (.ins C dx fs)) (c : Cls K C) (nf : NoAttr K C f) (l : fs.lookup f = some v) (q : tv σ H fun y H2 => rd v y H2 (AugF a C f N)) : AugK K tv rd f σ N (.ref a) H := ⟨a, C, dx, fs, v, rfl, h, c, nf, l, q⟩
theorem r_augF {f : Str} {fs fs' : List (Str × V)} (hs : Hd L H) (p : Put (pto a (.ins C dx fs)) (pto a (.ins C dx fs')) L L') (e : putF f z fs = fs') (hl : fs.length < 1000) (q : ∀ H', Hd L' H' → N H') : AugF a C f N z H := by
  obtain ⟨M, pa, _⟩ := p.pulls
  subst e
  exact ⟨dx, fs, hs.get pa, hl, q _ (hs.set p (fun z => z))⟩
theorem r_aAdd (q : Q (.int (i + j)) H) : rAdd (.int i) (.int j) H Q := ⟨i, j, rfl, rfl, q⟩
theorem r_aSub (q : Q (.int (i - j)) H) : rSub (.int i) (.int j) H Q := ⟨i, j, rfl, rfl, q⟩
theorem r_keys (q : te σ H (KeysK R)) : iKeys te σ H R := q
theorem r_keysK (h : H d = some (.frz o (.dK kvs))) (q : R (Itk d o kvs) H) : KeysK R (.ref d) H := ⟨d, o, rfl, .inl ⟨kvs, h, q⟩⟩
theorem r_dpop1 (q : ta σ H (IsDK fun a H1 => tb σ H1 (DPopK a Q))) : tDPop1 ta tb σ H Q := q
theorem r_dpopK (hs : Hd L H) (p : Put (pto a (.dK kvs)) (pto a (.dK (dropK kvs (.inl n)))) L L') (hv : valV kvs (.inl n) = some v) (q : ∀ H', Hd L' H' → Q v H') : DPopK a Q (.int n) H := by
  obtain ⟨M, pa, _⟩ := p.pulls
  exact ⟨kvs, .inl n, v, hs.get pa, rfl, hv, q _ (hs.set p (fun z => z))⟩
theorem r_lock (hs : Hd (pto d (.dK kvs) :: L) H) (q : ∀ od H', Hd (pto d (.frz od (.dK kvs)) :: L) H' → te σ H' (UnlK d od (.dK kvs) Q)) : tLockE te σ H Q :=
  ⟨d, .dK kvs, hs.get .here, trivial, fun od => q od _ (hs.set .here fun z => z)⟩
theorem r_unl {u : HO} (hs : Hd L H) (p : Put (pto d (.frz o u)) (pto d u) L L') (q : ∀ H', Hd L' H' → Q v H') : UnlK d o u Q v H := by
  obtain ⟨M, pa, _⟩ := p.pulls
  exact ⟨hs.get pa, q _ (hs.set p fun z => z)⟩
theorem r_lcK (P : Addr → Nat → Hp → Prop) (hh : Hd L H) (h0 : ∀ D H', Hd (pto D (.lst []) :: L) H' → P D 0 H') (hl : ∀ D i H, i ≤ kvs.length → P D i H → H d = some (.frz o (.dK kvs)))
    (hs : ∀ D i k v H, kvs[i]? = some (k, v) → P D i H → g (kV k) (wipe σ vs) H fun σ2 H2 => wipe σ2 vs = wipe σ vs ∧ tt σ2 H2 fun b H3 => if b = true then te σ2 H3 (AppK D (P D (i + 1))) else P D (i + 1) H3)
    (hd : ∀ D H, P D kvs.length H → Q (.ref D) H) : LcK g tt te vs σ Q (Itk d o kvs) H :=
  r_lcW walk_keys P hh h0 hl (fun D i x H H' hi p y => by
    obtain ⟨e, k, v, y, ex⟩ := y
    subst e ex
    exact hs D i k v _ y p) hd
end
/-- dict(xs) of pairs -/
def rDictP (K : PySem.W.Frag) : List V → Hp → VK → Prop := fun xs H Q => ∃ (a : Addr) (ps : List Addr) (kvs : List (Key × V)), xs = [.ref a] ∧ SqL K H a (ps.map V.ref) ∧ Paired (fun p kv => SqT K H p [kV kv.1, kv.2]) ps kvs ∧
    ∀ p, H p = none → Q (.ref p) (upd H p (.dK (mergeK [] kvs)))
theorem k_dictP {X : Cx} {K : PySem.W.Frag} (h : X.K = K) (hc : X.calm = true) : CallR X (.type "dict") (rDictP K) := h ▸ call_dictP hc
/-- many pairs: a key and what stands for it, tuples at ps -/
def pairsA (ps : List Addr) (kvs : List (Key × V)) : SA := fun H => Paired (fun p kv => H p = some (.tup [kV kv.1, kv.2])) ps kvs
theorem pr_mono {α β : Type} {R S : α → β → Prop} (f : ∀ a b, R a b → S a b) {xs : List α} {ys : List β} (h : Paired R xs ys) : Paired S xs ys := by
  induction h with
  | nil => exact .nil
  | cons a _ ih => exact .cons (f _ _ a) ih
theorem pr_snoc {α β : Type} {R : α → β → Prop} {a : α} {b : β} {xs : List α} {ys : List β} (h : Paired R xs ys) (r : R a b) : Paired R (xs ++ [a]) (ys ++ [b]) := by
  induction h with
  | nil => exact .cons r .nil
  | cons a _ ih => exact .cons a ih
theorem up_pairs (ps : List Addr) (kvs : List (Key × V)) : Up (pairsA ps kvs) := fun _ _ s h => pr_mono (fun _ _ z => s _ _ z) h
theorem pairs_nil {L : List SA} {H : Hp} (h : Hd L H) : Hd (pairsA [] [] :: L) H := ⟨fun _ => none, H, fun _ _ _ h => (nomatch h), fun _ _ h => (nomatch h), Sub.refl _, .nil, h⟩
theorem pairs_snoc {L : List SA} {H : Hp} {t : Addr} {k : Key} {v : V} {ps : List Addr} {kvs : List (Key × V)} (h : Hd (pto t (.tup [kV k, v]) :: pairsA ps kvs :: L) H) : Hd (pairsA (ps ++ [t]) (kvs ++ [(k, v)]) :: L) H :=
  Hd.join (up_pto _ _) (up_pairs _ _) h fun _ z1 z2 => pr_snoc z2 z1
theorem r_dictP {K : PySem.W.Frag} {H : Hp} {Q : VK} {a : Addr} {ps : List Addr} {kvs : List (Key × V)} {L L' : List SA} (hs : Hd L H) (h : SqL K H a (ps.map V.ref)) (p : Pull (pairsA ps kvs) L L') (q : ∀ p H', Hd (pto p (.dK (mergeK [] kvs)) :: L) H' → Q (.ref p) H') : rDictP K [.ref a] H Q :=
  ⟨a, ps, kvs, rfl, h, pr_mono (fun _ _ z => SqT.of z) (hs.at (up_pairs ps kvs) p), fun p n => q p _ (hs.new n)⟩
end Sl

set_option maxRecDepth 100000
set_option maxHeartbeats 1000000
namespace Sl
open PySem L2 PyProof PyProof.Rows
/-! ### x[i] op= e -/
/-- an item of a list at a place from the front -/
def rGetL (K : PySem.W.Frag) : V → V → Hp → VK → Prop := fun x y H Q => ∃ p xs i z, x = V.ref p ∧ y = .int i ∧ 0 ≤ i ∧ SqL K H p xs ∧ atI xs i = some z ∧ Q z H
theorem get_list {X : Cx} : PGet X (rGetL X.K) := by
  intro pins s σ H x y v u Q I rx ry h
  obtain ⟨p, xs, i, z, rfl, rfl, h0, hq, he, q⟩ := h
  cases rx
  obtain ⟨t, rfl⟩ := ry
  obtain ⟨its, r, pl, hz⟩ := I.list hq
  obtain ⟨j, h1, h2, h3, h4, h5⟩ := atI_get he
  obtain ⟨w, ew, rw'⟩ := r.get h2
  have hl := r.length
  have hn := line63
  have fin : EP X pins σ Q w s := ⟨z, H, I, rw', q⟩
  have hj : i.toNat = j := by
    rw [seqIndex_of h0 h5] at h1
    exact Option.some.inj h1
  exact wpAny_getItem_list pl.isList h0 (by omega) (by rw [hj]; simpa using ew) fin
theorem k_getL {X : Cx} {K : PySem.W.Frag} (h : X.K = K) : PGet X (rGetL K) := h ▸ get_list
section
variable {K : PySem.W.Frag} {σ : L2.St} {H : Hp} {D : Ends} {to ti te : TE} {Q : VK} {i j : Int} {a : Addr} {xs : List V} {z : V}
theorem r_augS {tget : V → V → Hp → VK → Prop} {tip : TIp} {tset : TSet} (q : to σ H fun o H1 => ti σ H1 fun i H2 => tget o i H2 fun x H3 => te σ H3 fun y H4 => tip x y H4 fun z H5 => tset o i z H5 fun H6 => D.nx σ H6) : tAugS to ti te tget tip tset D σ H := q
theorem r_ipI {f : Int → Int → Int} (q : Q (.int (f i j)) H) : ipI f (.int i) (.int j) H Q := ⟨i, j, rfl, rfl, q⟩
theorem r_getL (h : SqL K H a xs) (h0 : 0 ≤ i) (hi : atI xs i = some z) (q : Q z H) : rGetL K (.ref a) (.int i) H Q := ⟨a, xs, i, z, rfl, rfl, h0, h, hi, q⟩
theorem r_setLH {L L' : List SA} {N : Hp → Prop} {n : Nat} {v : V} (hs : Hd L H) (p : Put (pto a (.lst xs)) (pto a (.lst (xs.set n v))) L L') (hn : n < xs.length) (q : ∀ H', Hd L' H' → N H') : rSetU (.ref a) (.int (n : Int)) v H N := r_setL hs p hn q
end
/-! ### chains -/
def ChK (tc : TE) (r' : R2) (y : V) (σ : L2.St) (Q : VK) (z : V) (H : Hp) : Prop := ∃ k, z = .bl k ∧ (if k = true then tc σ H fun w' H4 => r' y w' H4 Q else Q (.bl false) H)
section
variable {σ : L2.St} {H : Hp} {ta tb tc : TE} {r r' : R2} {Q : VK} {b : Bool} {y : V}
theorem r_chain (q : ta σ H fun x H1 => tb σ H1 fun y H2 => r x y H2 (ChK tc r' y σ Q)) : tChain r r' ta tb tc σ H Q := q
theorem r_chK (q : if b = true then tc σ H fun w' H4 => r' y w' H4 Q else Q (.bl false) H) : ChK tc r' y σ Q (.bl b) H := ⟨b, rfl, q⟩
end
/-! ### the first place of a number -/
theorem r_indexI {K : PySem.W.Frag} {H : Hp} {Q : VK} {a : Addr} {ns : List Int} {n : Int} (h : SqL K H a (ns.map V.int)) (hm : n ∈ ns) (q : ∀ j : Nat, ns[j]? = some n → (∀ m : Nat, m < j → ns[m]? ≠ some n) → Q (.int (j : Nat)) H) : rIndex K (.ref a) [.int n] H Q := by
  obtain ⟨j, h1, h2⟩ := first_at hm
  refine ⟨a, ns.map V.int, .int n, j, .int n, rfl, rfl, h, rfl, flat_ints ns, by simp [h1], by simp [eqV], fun m z hm2 hz => ?_, q j h1 h2⟩
  rw [List.getElem?_map] at hz
  obtain ⟨k, hk, rfl⟩ := Option.map_eq_some_iff.mp hz
  have ne : k ≠ n := fun e => h2 m hm2 (by rw [hk, e])
  simp [eqV, ne]
theorem inV_ints (n : Int) (ns : List Int) : inV (.int n) (ns.map V.int) = decide (n ∈ ns) := by
  unfold inV
  rw [List.any_map]
  by_cases m : n ∈ ns
  · rw [decide_eq_true m, List.any_eq_true]
    exact ⟨n, m, by simp [eqV]⟩
  · rw [decide_eq_false m, List.any_eq_false]
    intro k hk
    have ne : k ≠ n := fun e => m (e ▸ hk)
    simp [eqV, ne]
/-! ### lists at addresses, or none -/
def orA (xs : List V) (ws : List (Option (List Int))) : SA := fun H => xs.length = ws.length ∧ ∀ (i : Nat) w, ws[i]? = some w → match w with
  | none => xs[i]? = some .non
  | some r => ∃ a, xs[i]? = some (.ref a) ∧ H a = some (.lst (r.map V.int))
theorem up_or (xs : List V) (ws : List (Option (List Int))) : Up (orA xs ws) := fun _ _ s h => ⟨h.1, fun i w e => by
  have z := h.2 i w e
  cases w with
  | none => exact z
  | some r =>
    obtain ⟨a, z1, z2⟩ := z
    exact ⟨a, z1, s _ _ z2⟩⟩
theorem or_nones {L : List SA} {H : Hp} (h : Hd L H) (n : Nat) : Hd (orA (List.replicate n .non) (List.replicate n none) :: L) H := by
  refine ⟨fun _ => none, H, fun _ _ _ h => (nomatch h), fun _ _ h => (nomatch h), Sub.refl _, ⟨by simp, fun i w e => ?_⟩, h⟩
  rw [List.getElem?_replicate] at e ⊢
  split at e
  · cases e
    rename_i hi
    show (if i < n then some V.non else none) = some .non
    rw [if_pos hi]
  · cases e
theorem or_len {xs : List V} {ws : List (Option (List Int))} {L L' : List SA} {H : Hp} (h : Hd L H) (p : Pull (orA xs ws) L L') : xs.length = ws.length := (h.at (up_or xs ws) p).1
theorem or_at {xs : List V} {ws : List (Option (List Int))} {L L' : List SA} {H : Hp} (h : Hd L H) (p : Pull (orA xs ws) L L') {i : Nat} {r : List Int} (e : ws[i]? = some (some r)) : ∃ a, xs[i]? = some (.ref a) ∧ H a = some (.lst (r.map V.int)) := (h.at (up_or xs ws) p).2 i _ e
theorem or_set {xs : List V} {ws : List (Option (List Int))} {L : List SA} {H : Hp} {a : Addr} {r : List Int} {i : Nat} (h : Hd (pto a (.lst (r.map V.int)) :: orA xs ws :: L) H) (hi : i < ws.length) : Hd (orA (xs.set i (.ref a)) (ws.set i (some r)) :: L) H := by
  refine Hd.join (up_pto _ _) (up_or _ _) h fun G z1 z2 => ⟨by simp [z2.1], fun j w e => ?_⟩
  by_cases q : j = i
  · subst q
    rw [List.getElem?_set_self hi] at e
    cases e
    exact ⟨a, List.getElem?_set_self (by rw [z2.1]; exact hi), z1⟩
  · rw [List.getElem?_set_ne (Ne.symm q)] at e
    rw [List.getElem?_set_ne (Ne.symm q)]
    exact z2.2 j w e
theorem or_snoc {xs : List V} {ws : List (Option (List Int))} {L : List SA} {H : Hp} {a : Addr} {r : List Int} (h : Hd (pto a (.lst (r.map V.int)) :: orA xs ws :: L) H) : Hd (orA (xs ++ [.ref a]) (ws ++ [some r]) :: L) H := by
  refine Hd.join (up_pto _ _) (up_or _ _) h fun G z1 z2 => ⟨by simp [z2.1], fun j w e => ?_⟩
  by_cases q : j < ws.length
  · rw [List.getElem?_append_left q] at e
    rw [List.getElem?_append_left (by rw [z2.1]; exact q)]
    exact z2.2 j w e
  · have hj : j < (ws ++ [some r]).length := (List.getElem?_eq_some_iff.mp e).1
    have ej : j = ws.length := by
      rw [List.length_append, List.length_singleton] at hj
      omega
    subst ej
    rw [List.getElem?_append_right (Nat.le_refl _), Nat.sub_self] at e
    cases e
    exact ⟨a, by rw [List.getElem?_append_right (Nat.le_of_eq z2.1), z2.1, Nat.sub_self]; rfl, z1⟩
end Sl

namespace My
open PySem L2 Sl
def top (i : Nat) : Stmt := PySem.Challenge.pw_keelroom_k14_shelves.main.body.getD i (.Pass ⟨0, 0, 0, 0⟩)
abbrev s_is_among : Stmt := top 6
abbrev s_Shelf_init : Stmt := inClass (top 7) 0
abbrev s_Shelf_take : Stmt := inClass (top 7) 1
abbrev s_Shelf_hold : Stmt := inClass (top 7) 2
abbrev s_Shelf_drop : Stmt := inClass (top 7) 3
abbrev s_Shelf_held : Stmt := inClass (top 7) 4
abbrev s_Shelf_free : Stmt := inClass (top 7) 5
abbrev s_Shelf_words_at : Stmt := inClass (top 7) 6
abbrev s_Shelf_put_words : Stmt := inClass (top 7) 7
abbrev s_law_cell_at : Stmt := top 9
abbrev s_law_mixed : Stmt := top 10
abbrev s_law_state : Stmt := top 11
abbrev s_law_draw : Stmt := top 12
abbrev s_law_is_number : Stmt := top 13
abbrev s_law_taken : Stmt := top 14
abbrev s_law_words : Stmt := top 15
abbrev s_law_deed : Stmt := top 16
abbrev s_law_stands : Stmt := top 17
abbrev s_law : Stmt := top 18
theorem sc_is_among : FnScope ["thing", "least", "most"] ["thing", "least", "most"] (defScope s_is_among) := ⟨rfl, rfl, rfl, by decide +kernel, rfl, by decide +kernel, by decide +kernel⟩
theorem sc_Shelf_init : FnScope ["self", "many", "place"] ["self", "many"] (defScope s_Shelf_init) := ⟨rfl, rfl, rfl, by decide +kernel, rfl, by decide +kernel, by decide +kernel⟩
theorem sc_Shelf_take : FnScope ["self", "place"] ["self"] (defScope s_Shelf_take) := ⟨rfl, rfl, rfl, by decide +kernel, rfl, by decide +kernel, by decide +kernel⟩
theorem sc_Shelf_hold : FnScope ["self", "at"] ["self", "at"] (defScope s_Shelf_hold) := ⟨rfl, rfl, rfl, by decide +kernel, rfl, by decide +kernel, by decide +kernel⟩
theorem sc_Shelf_drop : FnScope ["self", "at"] ["self", "at"] (defScope s_Shelf_drop) := ⟨rfl, rfl, rfl, by decide +kernel, rfl, by decide +kernel, by decide +kernel⟩
theorem sc_Shelf_held : FnScope ["self", "at"] ["self", "at"] (defScope s_Shelf_held) := ⟨rfl, rfl, rfl, by decide +kernel, rfl, by decide +kernel, by decide +kernel⟩
theorem sc_Shelf_free : FnScope ["self"] ["self"] (defScope s_Shelf_free) := ⟨rfl, rfl, rfl, by decide +kernel, rfl, by decide +kernel, by decide +kernel⟩
theorem sc_Shelf_words_at : FnScope ["self", "at"] ["self", "at"] (defScope s_Shelf_words_at) := ⟨rfl, rfl, rfl, by decide +kernel, rfl, by decide +kernel, by decide +kernel⟩
theorem sc_Shelf_put_words : FnScope ["self", "at", "words"] ["self", "at", "words"] (defScope s_Shelf_put_words) := ⟨rfl, rfl, rfl, by decide +kernel, rfl, by decide +kernel, by decide +kernel⟩
theorem sc_law_cell_at : FnScope ["_law_script", "_law_k"] ["_law_script", "_law_k"] (defScope s_law_cell_at) := ⟨rfl, rfl, rfl, by decide +kernel, rfl, by decide +kernel, by decide +kernel⟩
theorem sc_law_mixed : FnScope ["_law_cell", "_law_k"] ["_law_cell", "_law_k"] (defScope s_law_mixed) := ⟨rfl, rfl, rfl, by decide +kernel, rfl, by decide +kernel, by decide +kernel⟩
theorem sc_law_state : FnScope ["_law_script", "_law_k", "_law_cell", "_law_is_free"] ["_law_script", "_law_k"] (defScope s_law_state) := ⟨rfl, rfl, rfl, by decide +kernel, rfl, by decide +kernel, by decide +kernel⟩
theorem sc_law_draw : FnScope ["_law_state_here", "_law_many", "_law_found", "_law_number"] ["_law_state_here", "_law_many"] (defScope s_law_draw) := ⟨rfl, rfl, rfl, by decide +kernel, rfl, by decide +kernel, by decide +kernel⟩
theorem sc_law_is_number : FnScope ["_law_thing", "_law_due"] ["_law_thing", "_law_due"] (defScope s_law_is_number) := ⟨rfl, rfl, rfl, by decide +kernel, rfl, by decide +kernel, by decide +kernel⟩
theorem sc_law_taken : FnScope ["_law_counts", "_law_at"] ["_law_counts"] (defScope s_law_taken) := ⟨rfl, rfl, rfl, by decide +kernel, rfl, by decide +kernel, by decide +kernel⟩
theorem sc_law_words : FnScope ["_law_state_here", "_law_k"] ["_law_state_here"] (defScope s_law_words) := ⟨rfl, rfl, rfl, by decide +kernel, rfl, by decide +kernel, by decide +kernel⟩
theorem sc_law_deed : FnScope ["_law_shelf", "_law_counts", "_law_rows", "_law_state_here", "_law_held", "_law_at", "_law_many", "_law_kind", "_law_due", "_law_found", "_law_words_here"] ["_law_shelf", "_law_counts", "_law_rows", "_law_state_here"] (defScope s_law_deed) := ⟨rfl, rfl, rfl, by decide +kernel, rfl, by decide +kernel, by decide +kernel⟩
theorem sc_law_stands : FnScope ["_law_shelf", "_law_counts", "_law_rows", "_law_at", "_law_many", "_law_found"] ["_law_shelf", "_law_counts", "_law_rows"] (defScope s_law_stands) := ⟨rfl, rfl, rfl, by decide +kernel, rfl, by decide +kernel, by decide +kernel⟩
theorem sc_law : FnScope ["_law_script", "_law_state_here", "_law_many", "_law_shelf", "_law_other", "_law_counts", "_law_rows", "_law_k", "_law_turn"] ["_law_script"] (defScope s_law) := ⟨rfl, rfl, rfl, by decide +kernel, rfl, by decide +kernel, by decide +kernel⟩
def fs_Shelf (x0 : V) (x1 : V) : List (Str × V) := [(("counts" : Str), x0), (("contents" : Str), x1)]
theorem lk_Shelf_counts {x0 : V} {x1 : V} : (fs_Shelf x0 x1).lookup ("counts" : Str) = some x0 := by kernel_rfl
theorem pf_Shelf_counts {x0 : V} {x1 : V} {y : V} : putF "counts" y (fs_Shelf x0 x1) = fs_Shelf y x1 := by kernel_rfl
theorem pi_Shelf_counts {x0 : V} : putF "counts" x0 ([] : List (Str × V)) = [(("counts" : Str), x0)] := by kernel_rfl
theorem lk_Shelf_contents {x0 : V} {x1 : V} : (fs_Shelf x0 x1).lookup ("contents" : Str) = some x1 := by kernel_rfl
theorem pf_Shelf_contents {x0 : V} {x1 : V} {y : V} : putF "contents" y (fs_Shelf x0 x1) = fs_Shelf x0 y := by kernel_rfl
theorem pi_Shelf_contents {x0 : V} {x1 : V} : putF "contents" x1 ([(("counts" : Str), x0)] : List (Str × V)) = fs_Shelf x0 x1 := by kernel_rfl
theorem ln_Shelf {x0 : V} {x1 : V} : (fs_Shelf x0 x1).length < 1000 := by show 2 < 1000; decide
theorem lm_Shelf_take {x0 : V} {x1 : V} : (fs_Shelf x0 x1).lookup ("take" : Str) = none := by kernel_rfl
theorem lm_Shelf_hold {x0 : V} {x1 : V} : (fs_Shelf x0 x1).lookup ("hold" : Str) = none := by kernel_rfl
theorem lm_Shelf_drop {x0 : V} {x1 : V} : (fs_Shelf x0 x1).lookup ("drop" : Str) = none := by kernel_rfl
theorem lm_Shelf_held {x0 : V} {x1 : V} : (fs_Shelf x0 x1).lookup ("held" : Str) = none := by kernel_rfl
theorem lm_Shelf_free {x0 : V} {x1 : V} : (fs_Shelf x0 x1).lookup ("free" : Str) = none := by kernel_rfl
theorem lm_Shelf_words_at {x0 : V} {x1 : V} : (fs_Shelf x0 x1).lookup ("words_at" : Str) = none := by kernel_rfl
theorem lm_Shelf_put_words {x0 : V} {x1 : V} : (fs_Shelf x0 x1).lookup ("put_words" : Str) = none := by kernel_rfl
def stK (x0 : V) (x1 : V) (x2 : V) (x3 : V) : List (Key × V) := [(Sum.inr ("free" : Str), x0), (Sum.inr ("left" : Str), x1), (Sum.inr ("seed" : Str), x2), (Sum.inr ("at" : Str), x3)]
theorem stK_len {x0 : V} {x1 : V} {x2 : V} {x3 : V} : (stK x0 x1 x2 x3).length < sizeLine := szlt (by show 4 < 100000; decide)
theorem stK_disp {x0 : V} {x1 : V} {x2 : V} {x3 : V} : mergeK [] ([(Sum.inr ("free" : Str), x0), (Sum.inr ("left" : Str), x1), (Sum.inr ("seed" : Str), x2), (Sum.inr ("at" : Str), x3)] : List (Key × V)) = stK x0 x1 x2 x3 := by kernel_rfl
theorem stK_g_free {x0 : V} {x1 : V} {x2 : V} {x3 : V} : valV (stK x0 x1 x2 x3) (.inr "free") = some x0 := by kernel_rfl
theorem stK_p_free {x0 : V} {x1 : V} {x2 : V} {x3 : V} {y : V} : putK (stK x0 x1 x2 x3) (.inr "free") y = stK y x1 x2 x3 := by kernel_rfl
theorem stK_g_left {x0 : V} {x1 : V} {x2 : V} {x3 : V} : valV (stK x0 x1 x2 x3) (.inr "left") = some x1 := by kernel_rfl
theorem stK_p_left {x0 : V} {x1 : V} {x2 : V} {x3 : V} {y : V} : putK (stK x0 x1 x2 x3) (.inr "left") y = stK x0 y x2 x3 := by kernel_rfl
theorem stK_g_seed {x0 : V} {x1 : V} {x2 : V} {x3 : V} : valV (stK x0 x1 x2 x3) (.inr "seed") = some x2 := by kernel_rfl
theorem stK_p_seed {x0 : V} {x1 : V} {x2 : V} {x3 : V} {y : V} : putK (stK x0 x1 x2 x3) (.inr "seed") y = stK x0 x1 y x3 := by kernel_rfl
theorem stK_g_at {x0 : V} {x1 : V} {x2 : V} {x3 : V} : valV (stK x0 x1 x2 x3) (.inr "at") = some x3 := by kernel_rfl
theorem stK_p_at {x0 : V} {x1 : V} {x2 : V} {x3 : V} {y : V} : putK (stK x0 x1 x2 x3) (.inr "at") y = stK x0 x1 x2 y := by kernel_rfl
structure Txt (K : PySem.W.Frag) (mg : Str → Option Value) where
  C_Shelf : Addr
  cl_Shelf : Cls K C_Shelf
  g_Shelf : mg "Shelf" = some (.ref C_Shelf)
  n_Shelf_counts : NoAttr K C_Shelf "counts"
  n_Shelf_contents : NoAttr K C_Shelf "contents"
  a_is_among : Addr
  d_is_among : FuncData
  f_is_among : Fun K "is_among" "is_among" s_is_among a_is_among d_is_among
  b_is_among : Binds K d_is_among ["thing", "least", "most"] []
  g_is_among : mg "is_among" = some (.ref a_is_among)
  a_Shelf_init : Addr
  d_Shelf_init : FuncData
  f_Shelf_init : Fun K "__init__" "Shelf.__init__" s_Shelf_init a_Shelf_init d_Shelf_init
  b_Shelf_init : Binds K d_Shelf_init ["self", "many"] []
  mk_Shelf : Mk K C_Shelf a_Shelf_init
  a_Shelf_take : Addr
  d_Shelf_take : FuncData
  f_Shelf_take : Fun K "take" "Shelf.take" s_Shelf_take a_Shelf_take d_Shelf_take
  b_Shelf_take : Binds K d_Shelf_take ["self"] []
  m_Shelf_take : Meth K C_Shelf "take" a_Shelf_take
  a_Shelf_hold : Addr
  d_Shelf_hold : FuncData
  f_Shelf_hold : Fun K "hold" "Shelf.hold" s_Shelf_hold a_Shelf_hold d_Shelf_hold
  b_Shelf_hold : Binds K d_Shelf_hold ["self", "at"] []
  m_Shelf_hold : Meth K C_Shelf "hold" a_Shelf_hold
  a_Shelf_drop : Addr
  d_Shelf_drop : FuncData
  f_Shelf_drop : Fun K "drop" "Shelf.drop" s_Shelf_drop a_Shelf_drop d_Shelf_drop
  b_Shelf_drop : Binds K d_Shelf_drop ["self", "at"] []
  m_Shelf_drop : Meth K C_Shelf "drop" a_Shelf_drop
  a_Shelf_held : Addr
  d_Shelf_held : FuncData
  f_Shelf_held : Fun K "held" "Shelf.held" s_Shelf_held a_Shelf_held d_Shelf_held
  b_Shelf_held : Binds K d_Shelf_held ["self", "at"] []
  m_Shelf_held : Meth K C_Shelf "held" a_Shelf_held
  a_Shelf_free : Addr
  d_Shelf_free : FuncData
  f_Shelf_free : Fun K "free" "Shelf.free" s_Shelf_free a_Shelf_free d_Shelf_free
  b_Shelf_free : Binds K d_Shelf_free ["self"] []
  m_Shelf_free : Meth K C_Shelf "free" a_Shelf_free
  a_Shelf_words_at : Addr
  d_Shelf_words_at : FuncData
  f_Shelf_words_at : Fun K "words_at" "Shelf.words_at" s_Shelf_words_at a_Shelf_words_at d_Shelf_words_at
  b_Shelf_words_at : Binds K d_Shelf_words_at ["self", "at"] []
  m_Shelf_words_at : Meth K C_Shelf "words_at" a_Shelf_words_at
  a_Shelf_put_words : Addr
  d_Shelf_put_words : FuncData
  f_Shelf_put_words : Fun K "put_words" "Shelf.put_words" s_Shelf_put_words a_Shelf_put_words d_Shelf_put_words
  b_Shelf_put_words : Binds K d_Shelf_put_words ["self", "at", "words"] []
  m_Shelf_put_words : Meth K C_Shelf "put_words" a_Shelf_put_words
  a_law_cell_at : Addr
  d_law_cell_at : FuncData
  f_law_cell_at : Fun K "_law_cell_at" "_law_cell_at" s_law_cell_at a_law_cell_at d_law_cell_at
  b_law_cell_at : Binds K d_law_cell_at ["_law_script", "_law_k"] []
  g_law_cell_at : mg "_law_cell_at" = some (.ref a_law_cell_at)
  a_law_mixed : Addr
  d_law_mixed : FuncData
  f_law_mixed : Fun K "_law_mixed" "_law_mixed" s_law_mixed a_law_mixed d_law_mixed
  b_law_mixed : Binds K d_law_mixed ["_law_cell", "_law_k"] []
  g_law_mixed : mg "_law_mixed" = some (.ref a_law_mixed)
  a_law_state : Addr
  d_law_state : FuncData
  f_law_state : Fun K "_law_state" "_law_state" s_law_state a_law_state d_law_state
  b_law_state : Binds K d_law_state ["_law_script", "_law_k"] []
  g_law_state : mg "_law_state" = some (.ref a_law_state)
  a_law_draw : Addr
  d_law_draw : FuncData
  f_law_draw : Fun K "_law_draw" "_law_draw" s_law_draw a_law_draw d_law_draw
  b_law_draw : Binds K d_law_draw ["_law_state_here", "_law_many"] []
  g_law_draw : mg "_law_draw" = some (.ref a_law_draw)
  a_law_is_number : Addr
  d_law_is_number : FuncData
  f_law_is_number : Fun K "_law_is_number" "_law_is_number" s_law_is_number a_law_is_number d_law_is_number
  b_law_is_number : Binds K d_law_is_number ["_law_thing", "_law_due"] []
  g_law_is_number : mg "_law_is_number" = some (.ref a_law_is_number)
  a_law_taken : Addr
  d_law_taken : FuncData
  f_law_taken : Fun K "_law_taken" "_law_taken" s_law_taken a_law_taken d_law_taken
  b_law_taken : Binds K d_law_taken ["_law_counts"] []
  g_law_taken : mg "_law_taken" = some (.ref a_law_taken)
  a_law_words : Addr
  d_law_words : FuncData
  f_law_words : Fun K "_law_words" "_law_words" s_law_words a_law_words d_law_words
  b_law_words : Binds K d_law_words ["_law_state_here"] []
  g_law_words : mg "_law_words" = some (.ref a_law_words)
  a_law_deed : Addr
  d_law_deed : FuncData
  f_law_deed : Fun K "_law_deed" "_law_deed" s_law_deed a_law_deed d_law_deed
  b_law_deed : Binds K d_law_deed ["_law_shelf", "_law_counts", "_law_rows", "_law_state_here"] []
  g_law_deed : mg "_law_deed" = some (.ref a_law_deed)
  a_law_stands : Addr
  d_law_stands : FuncData
  f_law_stands : Fun K "_law_stands" "_law_stands" s_law_stands a_law_stands d_law_stands
  b_law_stands : Binds K d_law_stands ["_law_shelf", "_law_counts", "_law_rows"] []
  g_law_stands : mg "_law_stands" = some (.ref a_law_stands)
  a_law : Addr
  d_law : FuncData
  f_law : Fun K "law" "law" s_law a_law d_law
  b_law : Binds K d_law ["_law_script"] []
  g_law : mg "law" = some (.ref a_law)
  g_MOST_PLACES : ∃ t, mg "MOST_PLACES" = some (.int 256 t)
  g_PAGE : ∃ t, mg "PAGE" = some (.int 16 t)
  n_abs : mg "abs" = none
  n_bool : mg "bool" = none
  n_enumerate : mg "enumerate" = none
  n_int : mg "int" = none
  n_isinstance : mg "isinstance" = none
  n_len : mg "len" = none
  n_list : mg "list" = none
  n_max : mg "max" = none
  n_min : mg "min" = none
  n_range : mg "range" = none
set_option hygiene false in
local macro_rules | `(tactic| walk_at "pull") => `(tactic| first | with_reducible exact Sl.Pull.here | (with_reducible apply Sl.Pull.there; walk_at "pull"))
set_option hygiene false in
local macro_rules | `(tactic| walk_at "put") => `(tactic| first | with_reducible exact Sl.Put.here | (with_reducible apply Sl.Put.there; walk_at "put"))
set_option hygiene false in
local macro_rules | `(tactic| walk_at "mt") => `(tactic| first | with_reducible exact Sl.Mt.refl | with_reducible exact Sl.Mt.nil | ((with_reducible show Sl.Mt (_ :: _) _); with_reducible apply Sl.Mt.cons; (focus walk_at "pull"); walk_at "mt") | ((fail_if_success (with_reducible show Sl.Mt (_ :: _) _)); with_reducible apply Sl.Mt.drop; walk_at "mt"))
set_option hygiene false in
local macro_rules | `(tactic| walk_at "get") => `(tactic| first | with_reducible assumption | exact Sl.Hd.get hs (by walk_at "pull"))
set_option hygiene false in
local macro_rules | `(tactic| walk_at "sq") => `(tactic| first | with_reducible assumption | exact Sl.Hd.sq hs (by walk_at "pull") | exact Sl.Hd.sql hs (by walk_at "pull"))
set_option hygiene false in
local macro_rules | `(tactic| walk_at "sqt") => `(tactic| first | with_reducible assumption | exact Sl.Hd.st hs (by walk_at "pull"))
set_option hygiene false in
local macro_rules | `(tactic| walk_at "cls") => `(tactic| first | with_reducible exact T.cl_Shelf)
set_option hygiene false in
local macro_rules | `(tactic| walk_at "noattr") => `(tactic| first | with_reducible exact T.n_Shelf_counts | with_reducible exact T.n_Shelf_contents)
set_option hygiene false in
local macro_rules | `(tactic| walk_at "look") => `(tactic| first | with_reducible exact lk_Shelf_counts | with_reducible exact lk_Shelf_contents | with_reducible exact lm_Shelf_take | with_reducible exact lm_Shelf_hold | with_reducible exact lm_Shelf_drop | with_reducible exact lm_Shelf_held | with_reducible exact lm_Shelf_free | with_reducible exact lm_Shelf_words_at | with_reducible exact lm_Shelf_put_words)
set_option hygiene false in
local macro_rules | `(tactic| walk_at "putf") => `(tactic| first | with_reducible exact pf_Shelf_counts | with_reducible exact pi_Shelf_counts | with_reducible exact pf_Shelf_contents | with_reducible exact pi_Shelf_contents)
set_option hygiene false in
local macro_rules | `(tactic| walk_at "flen") => `(tactic| first | (first | with_reducible exact ln_Shelf) | (simp; done))
set_option hygiene false in
local macro_rules | `(tactic| walk_at "len") => `(tactic| first | with_reducible assumption | exact Sl.sz (by first | decide | omega | (simp only [List.length_cons, List.length_nil, List.length_append, List.length_map, List.length_set, List.length_replicate, List.length_range] <;> omega)))
set_option hygiene false in
local macro_rules | `(tactic| walk_at "lenlt") => `(tactic| first | with_reducible assumption | exact Sl.szlt (by first | decide | omega | (simp only [List.length_cons, List.length_nil, List.length_append, List.length_map, List.length_set, List.length_replicate, List.length_range] <;> omega)))
set_option hygiene false in
local macro_rules | `(tactic| walk_at "dlook") => `(tactic| first | with_reducible assumption | (first | with_reducible exact stK_g_free | with_reducible exact stK_g_left | with_reducible exact stK_g_seed | with_reducible exact stK_g_at))
set_option hygiene false in
local macro_rules | `(tactic| walk_at "dput") => `(tactic| first | with_reducible exact stK_p_free | with_reducible exact stK_p_left | with_reducible exact stK_p_seed | with_reducible exact stK_p_at)
set_option hygiene false in
local macro_rules | `(tactic| walk_at "dlen") => `(tactic| first | (first | with_reducible exact stK_len) | walk_at "lenlt")
set_option hygiene false in
local macro_rules | `(tactic| walk_at "flat") => `(tactic| first | with_reducible exact Sl.flat_ints _ | rfl | with_reducible assumption)
set_option hygiene false in
local macro_rules | `(tactic| walk_at "disp") => `(tactic| first | fail | (refine Sl.r_dispE hs (by walk_at "put") (kvs := [(.inr "free", _), (.inr "left", _), (.inr "seed", _), (.inr "at", _)]) rfl (Nat.le_of_ble_eq_true rfl) stK_disp ?_; (try clear hs); intro H hs))
set_option hygiene false in
local macro_rules | `(tactic| walk_at "num") => `(tactic| first | decide | omega | assumption)
set_option hygiene false in
local macro_rules | `(tactic| walk_at "rng") => `(tactic| first | omega | (simp only [List.length_map]; omega) | (simp only [List.length_map]; (repeat' split) <;> omega))
set_option hygiene false in
local macro_rules | `(tactic| walk_at "kb") => `(tactic| first | with_reducible exact Sl.kb_int_int | with_reducible exact Sl.kb_int_bool | with_reducible exact Sl.kb_int_str | with_reducible exact Sl.kb_int_list | with_reducible exact Sl.kb_int_tuple | with_reducible exact Sl.kb_int_dict | with_reducible exact Sl.kb_bool_int | with_reducible exact Sl.kb_bool_bool | with_reducible exact Sl.kb_bool_str | with_reducible exact Sl.kb_bool_list | with_reducible exact Sl.kb_bool_tuple | with_reducible exact Sl.kb_bool_dict | with_reducible exact Sl.kb_str_int | with_reducible exact Sl.kb_str_bool | with_reducible exact Sl.kb_str_str | with_reducible exact Sl.kb_str_list | with_reducible exact Sl.kb_str_tuple | with_reducible exact Sl.kb_str_dict | with_reducible exact Sl.kb_list_int | with_reducible exact Sl.kb_list_bool | with_reducible exact Sl.kb_list_str | with_reducible exact Sl.kb_list_list | with_reducible exact Sl.kb_list_tuple | with_reducible exact Sl.kb_list_dict | with_reducible exact Sl.kb_tuple_int | with_reducible exact Sl.kb_tuple_bool | with_reducible exact Sl.kb_tuple_str | with_reducible exact Sl.kb_tuple_list | with_reducible exact Sl.kb_tuple_tuple | with_reducible exact Sl.kb_tuple_dict | with_reducible exact Sl.kb_dict_int | with_reducible exact Sl.kb_dict_bool | with_reducible exact Sl.kb_dict_str | with_reducible exact Sl.kb_dict_list | with_reducible exact Sl.kb_dict_tuple | with_reducible exact Sl.kb_dict_dict | with_reducible exact Sl.kb_NoneType_int | with_reducible exact Sl.kb_NoneType_bool | with_reducible exact Sl.kb_NoneType_str | with_reducible exact Sl.kb_NoneType_list | with_reducible exact Sl.kb_NoneType_tuple | with_reducible exact Sl.kb_NoneType_dict)
set_option hygiene false in
local macro_rules | `(tactic| walk_at "ty") => `(tactic| first | exact .base (.int _) | exact .base .non | exact .base (.bl _) | exact .base (.str _) | exact .base (.lst (by walk_at "get")) | exact .base (.tup (by walk_at "get")) | exact .base (.dK (by walk_at "get")))
set_option hygiene false in
local macro_rules | `(tactic| walk_at "st") => `(tactic| first
  | with_reducible refine Sl.r_seq ?_
  | with_reducible refine Sl.r_asg ?_
  | with_reducible refine Sl.r_gName ?_
  | with_reducible refine Sl.r_cons ?_
  | with_reducible refine Sl.r_nil ?_
  | ((with_reducible show tVar _ _ _ _); refine Sl.r_var rfl ?_)
  | with_reducible refine Sl.r_c ?_
  | with_reducible refine Sl.r_op ?_
  | with_reducible refine Sl.r_ret ?_
  | with_reducible refine Sl.r_drop ?_
  | with_reducible refine Sl.r_ifS ?_
  | with_reducible refine Sl.r_test ?_
  | with_reducible refine Sl.r_tB ?_
  | with_reducible refine Sl.r_isb ?_
  | with_reducible refine Sl.r_call ?_
  | with_reducible refine Sl.r_fld ?_
  | with_reducible refine Sl.r_sFld ?_
  | with_reducible refine Sl.r_meth ?_
  | with_reducible refine Sl.r_make ?_
  | with_reducible refine Sl.r_cB ?_
  | with_reducible refine Sl.r_tup ?_
  | with_reducible refine Sl.r_lst ?_
  | with_reducible refine Sl.r_bm ?_
  | with_reducible refine Sl.r_bm0 ?_
  | with_reducible refine Sl.r_sl ?_
  | with_reducible refine Sl.r_noPart ?_
  | with_reducible refine Sl.r_part ?_
  | with_reducible refine Sl.r_partK ?_
  | with_reducible refine Sl.r_gSub ?_
  | with_reducible refine Sl.r_tAnd ?_
  | with_reducible refine Sl.r_tOr ?_
  | with_reducible refine Sl.r_tNot ?_
  | with_reducible refine Sl.r_tIf ?_
  | with_reducible refine Sl.r_un ?_
  | with_reducible refine Sl.r_rU ?_
  | with_reducible refine Sl.r_andV ?_
  | with_reducible refine Sl.r_andK ?_
  | with_reducible refine Sl.r_orV ?_
  | with_reducible refine Sl.r_orK ?_
  | with_reducible refine Sl.r_notV ?_
  | with_reducible refine Sl.r_notK ?_
  | with_reducible refine Sl.r_iteNT ?_
  | with_reducible refine Sl.r_iteNF ?_
  | ((with_reducible show Sl.rIsiU _ [_, .ty _] _ _); refine Sl.r_isi (.ty _) (by walk_at "ty") (by walk_at "kb") ?_)
  | with_reducible refine Sl.r_iteY ?_
  | with_reducible refine Sl.r_iteZ ?_
  | with_reducible refine Sl.r_next ?_
  | with_reducible refine Sl.r_retN ?_
  | with_reducible refine Sl.r_break ?_
  | with_reducible refine Sl.r_cont ?_
  | with_reducible refine Sl.r_I0 ?_
  | with_reducible refine Sl.r_addI ?_
  | ((with_reducible show Sl.rMulU _ (.int _) (.int _) _ _); refine Sl.r_mulI (by walk_at "mul") ?_)
  | ((with_reducible show Sl.rDivU (.int _) (.int _) _ _); first | refine Sl.r_divI (by first | decide | omega) ?_ | refine Sl.r_divW (by first | decide | omega) ?_)
  | ((with_reducible show rI (fun _ j => 0 < j) _ (.int _) (.int _) _ _); refine Sl.r_modI (by walk_at "num") ?_)
  | ((with_reducible show rI CPow _ (.int _) (.int _) _ _); refine Sl.r_I (by walk_at "pow") ?_)
  | with_reducible refine Sl.r_eqI ?_
  | with_reducible refine Sl.r_neI ?_
  | with_reducible refine Sl.r_eqS ?_
  | with_reducible refine Sl.r_neS ?_
  | with_reducible refine Sl.r_eqB ?_
  | with_reducible refine Sl.r_neB ?_
  | with_reducible refine Sl.r_isN ?_
  | with_reducible refine Sl.r_notN ?_
  | ((with_reducible show Sl.AllocT _ _ _); refine Sl.r_newT hs (by walk_at "len") ?_; (try clear hs); intro q_ H hs)
  | ((with_reducible show Sl.AllocL _ _ _); refine Sl.r_newL hs (by walk_at "len") ?_; (try clear hs); intro q_ H hs)
  | ((with_reducible show Sl.FldK _ _ _ _ _); refine Sl.r_fldK (by walk_at "get") (by walk_at "cls") (by walk_at "noattr") (by walk_at "look") ?_)
  | ((with_reducible show Sl.SFldK _ _ _ _ _ _); refine Sl.r_sFldK hs (by walk_at "put") (by walk_at "putf") (by walk_at "cls") (by walk_at "noattr") (by walk_at "flen") ?_; (try clear hs); intro H hs)
  | ((with_reducible show Sl.MethK _ _ _ _ _); first | refine Sl.r_methK (by walk_at "get") (by walk_at "look") ?_ | (walk_at "ins"; refine Sl.r_methK (by walk_at "get") (by walk_at "look") ?_))
  | ((with_reducible show Sl.MakeK _ _ _ _ _ _ _); refine Sl.r_makeK hs ?_; (try clear hs); intro q_ dx_ H hs)
  | ((with_reducible show tyV _ "list" _ _ ∧ _); refine Sl.r_tyL (by walk_at "sq") ?_)
  | ((with_reducible show tyV _ "dict" _ _ ∧ _); refine Sl.r_tyD (by walk_at "get") ?_)
  | ((with_reducible show rAppend _ _ _ _); refine Sl.r_append hs (by walk_at "put") (by walk_at "lenlt") ?_; (try clear hs); intro H hs)
  | ((with_reducible show rExtend _ _ _ _); refine Sl.r_extend hs (by walk_at "put") (by walk_at "get") (by walk_at "len") ?_; (try clear hs); intro H hs)
  | ((with_reducible show rClear _ _ _ _); refine Sl.r_clear hs (by walk_at "put") ?_; (try clear hs); intro H hs)
  | ((with_reducible show rSlL _ _ _ _ _ _); refine Sl.r_slL hs (by walk_at "sq") ?_; (try clear hs); intro q_ H hs)
  | ((with_reducible show Sl.rAddU _ (.ref _) (.ref _) _ _); refine Sl.r_addL hs (by walk_at "get") (by walk_at "get") (by walk_at "len") ?_; (try clear hs); intro q_ H hs)
  | ((with_reducible show Sl.rMulU _ (.ref _) (.int _) _ _); first | (refine Sl.r_mulL hs (by walk_at "get") (by omega) (by walk_at "len") ?_; (try clear hs); intro q_ H hs) | (refine Sl.r_mulT hs (by walk_at "sqt") (by exact List.cons_ne_nil _ _) (by omega) (by exact Nat.le_of_ble_eq_true rfl) ?_; (try clear hs); intro q_ H hs))
  | ((with_reducible show tDNewK _ _ _); refine Sl.r_dnew hs ?_; (try clear hs); intro q_ H hs)
  | ((with_reducible show tDisp _ _ _ _); refine Sl.r_disp hs ?_; (try clear hs); intro q_ H hs)
  | ((with_reducible show Sl.rIxU _ (.ref _) (.str _) _ _); refine Sl.r_ixDs (by walk_at "get") (by walk_at "dlook") ?_)
  | ((with_reducible show Sl.rIxU _ (.ref _) (.int _) _ _); first | refine Sl.r_ixL (by walk_at "sq") (by rfl) ?_ | refine Sl.r_ixT (by walk_at "sqt") (by rfl) ?_ | refine Sl.r_ixDi (by walk_at "get") (by with_reducible assumption) ?_)
  | ((with_reducible show Sl.rSetU (.ref _) (.str _) _ _ _); refine Sl.r_setDs hs (by walk_at "put") (by walk_at "dput") (by walk_at "dlen") ?_; (try clear hs); intro H hs)
  | ((with_reducible show Sl.rInU _ false _ (.ref _) _ _); first | refine Sl.r_inL (by walk_at "sq") rfl (by walk_at "flat") ?_ | refine Sl.r_inT (by walk_at "sqt") rfl (by walk_at "flat") ?_ | refine Sl.r_inDi (by walk_at "get") ?_ | refine Sl.r_inDs (by walk_at "get") ?_)
  | ((with_reducible show Sl.rInU _ true _ (.ref _) _ _); first | refine Sl.r_niL (by walk_at "sq") rfl (by walk_at "flat") ?_ | refine Sl.r_niT (by walk_at "sqt") rfl (by walk_at "flat") ?_ | refine Sl.r_niDi (by walk_at "get") ?_ | refine Sl.r_niDs (by walk_at "get") ?_)
  | ((with_reducible show Sl.GetE1 _ _ (.int _) _); refine Sl.r_get1i (by walk_at "get") ?_)
  | ((with_reducible show Sl.GetE2 _ (.int _) _ _ _); refine Sl.r_get2i (by walk_at "get") ?_)
  | ((with_reducible show Sl.DispE _ _ _ _); walk_at "disp")
  | with_reducible refine Sl.r_for ?_
  | with_reducible refine Sl.r_lc ?_
  | with_reducible refine Sl.r_rng1 ?_
  | with_reducible refine Sl.r_rng2 ?_
  | with_reducible refine Sl.r_iList ?_
  | with_reducible refine Sl.r_iTup ?_
  | with_reducible refine Sl.r_iEnum ?_
  | with_reducible refine Sl.r_iZip ?_
  | ((with_reducible show Sl.Rng1K _ _ _); refine Sl.r_rng1K (by walk_at "rng") ?_)
  | ((with_reducible show Sl.Rng2K _ _ _); refine Sl.r_rng2K (by walk_at "rng") ?_)
  | ((with_reducible show Sl.ListK _ _ _ _); refine Sl.r_listK (by walk_at "sq") ?_)
  | ((with_reducible show Sl.TupK _ _ _ _); refine Sl.r_tupK (by walk_at "sqt") ?_)
  | ((with_reducible show Sl.EnumK _ _ _ _); refine Sl.r_enumK (by walk_at "sq") ?_)
  | ((with_reducible show Sl.ZipK _ _ _ _); refine Sl.r_zipK (by walk_at "sq") (by walk_at "sq") ?_)
  | ((with_reducible show gTup _ _ _ (.ref _) _ (upd _ _ _) _); refine Sl.r_gTupNew hs (by with_reducible assumption) rfl ?_; (try clear hs); intro H hs)
  | ((with_reducible show gTup _ _ _ (.ref _) _ _ _); refine Sl.r_gTup (by walk_at "sqt") rfl ?_)
  | with_reducible refine Sl.r_gCons ?_
  | with_reducible refine Sl.r_gNil ?_
  | with_reducible refine Sl.r_yes ?_
  | ((with_reducible show wipe _ _ = wipe _ _ ∧ _); refine ⟨rfl, ?_⟩)
  | ((with_reducible show Sl.AppK _ _ _ _); refine Sl.r_appK hs (by walk_at "put") (by walk_at "lenlt") ?_; (try clear hs); intro H hs)
  | ((with_reducible show Sl.rEqU _ _ _ _ _); refine Sl.r_eqV (by rfl) ?_)
  | ((with_reducible show Sl.rNeU _ _ _ _ _); refine Sl.r_neV (by rfl) ?_)
  | with_reducible refine Sl.r_pairsN ?_
  | with_reducible refine Sl.r_pairsC ?_
  | with_reducible refine Sl.r_dget1 ?_
  | with_reducible refine Sl.r_dget2 ?_
  | ((with_reducible show Sl.IsDK _ _ _); refine Sl.r_isD (by walk_at "get") ?_)
  | ((with_reducible show Sl.rLenU _ _ _ _); first | refine Sl.r_lenL (by walk_at "sq") ?_ | refine Sl.r_lenT (by walk_at "sqt") ?_ | refine Sl.r_lenD (by walk_at "get") ?_)
  | with_reducible refine Sl.r_chain ?_
  | with_reducible refine Sl.r_chK ?_
  | with_reducible refine Sl.r_augS ?_
  | with_reducible refine Sl.r_ipI ?_
  | with_reducible refine Sl.r_fldaug ?_
  | ((with_reducible show Sl.AugK _ _ _ _ _ _ _ _); refine Sl.r_augK (by walk_at "get") (by walk_at "cls") (by walk_at "noattr") (by walk_at "look") ?_)
  | ((with_reducible show Sl.AugF _ _ _ _ _ _); refine Sl.r_augF hs (by walk_at "put") (by walk_at "putf") (by walk_at "flen") ?_; (try clear hs); intro H hs)
  | with_reducible refine Sl.r_aAdd ?_
  | with_reducible refine Sl.r_aSub ?_
  | with_reducible refine Sl.r_keys ?_
  | ((with_reducible show Sl.KeysK _ _ _); refine Sl.r_keysK (by walk_at "get") ?_)
  | with_reducible refine Sl.r_dpop1 ?_
  | ((with_reducible show Sl.UnlK _ _ _ _ _ _); refine Sl.r_unl hs (by walk_at "put") ?_; (try clear hs); intro H hs)
  | with_reducible refine Sl.r_abs ?_
  | with_reducible refine Sl.r_max2 ?_
  | with_reducible refine Sl.r_min2 ?_
  | with_reducible refine Sl.r_int1b ?_
  | with_reducible refine Sl.r_int1 ?_
  | ((with_reducible show Sl.rListOf _ _ _ _); first | refine Sl.r_listL hs (by walk_at "sq") fun q_ H hs => ?_ | refine Sl.r_listT hs (by walk_at "sqt") fun q_ H hs => ?_)
  | ((with_reducible show Sl.rTupleOf _ _ _ _); first | refine Sl.r_tupleL hs (by walk_at "sq") fun q_ H hs => ?_ | refine Sl.r_tupleT (by walk_at "sqt") ?_))
set_option hygiene false in
local macro_rules | `(tactic| walk_at "mul") => `(tactic| first | (left; constructor <;> omega) | (right; constructor <;> omega))
set_option hygiene false in
local macro_rules | `(tactic| walk_at "pow") => `(tactic| exact ⟨by decide, by decide, by decide⟩)
set_option hygiene false in
local macro_rules | `(tactic| walk_at "run") => `(tactic| repeat walk_at "st")

section
variable {P : Program} {w : World} {K : PySem.W.Frag} {mg : Str → Option Value} {base : Heap}

/-- what draws are taken from; n: how many were drawn at the most -/
def stA (d : Addr) (n : Nat) : SA := fun H => ∃ f l s a, (0 ≤ s ∧ s < 2147483629 ∧ 0 ≤ a ∧ a ≤ (n : Int)) ∧ Hd [pto d (.dK (stK (.bl f) (.int l) (.int s) (.int a)))] H
theorem st_open {d : Addr} {n : Nat} {L : List SA} {H : Hp} (h : Hd (stA d n :: L) H) : ∃ f l s a, (0 ≤ s ∧ s < 2147483629 ∧ 0 ≤ a ∧ a ≤ (n : Int)) ∧ Hd (pto d (.dK (stK (.bl f) (.int l) (.int s) (.int a))) :: L) H := by
  obtain ⟨H1, H2, c, s1, s2, ⟨f, l, s, a, b, p⟩, q⟩ := h
  exact ⟨f, l, s, a, b, Hd.open (M := [_]) ⟨H1, H2, c, s1, s2, p, q⟩⟩
theorem st_close {d : Addr} {n : Nat} {L : List SA} {H : Hp} {f : Bool} {l s a : Int} (b : 0 ≤ s ∧ s < 2147483629 ∧ 0 ≤ a ∧ a ≤ (n : Int)) (h : Hd (pto d (.dK (stK (.bl f) (.int l) (.int s) (.int a))) :: L) H) : Hd (stA d n :: L) H :=
  (Hd.close (M := [_]) h).imp fun _ z => ⟨f, l, s, a, b, z⟩
theorem st_more {d : Addr} {n m : Nat} (hm : n ≤ m) {L : List SA} {H : Hp} (h : Hd (stA d n :: L) H) : Hd (stA d m :: L) H :=
  h.imp fun _ ⟨f, l, s, a, b, z⟩ => ⟨f, l, s, a, ⟨b.1, b.2.1, b.2.2.1, by omega⟩, z⟩

def sp_law_cell_at (T : Txt K mg) : Sp := fun vs H Q _ => ∃ (a : Addr) (ns : List Int) (k : Nat) (L : List SA), vs = [.ref a, .int (k : Int)] ∧ Hd (sql K a (ns.map V.int) :: L) H ∧ ∀ c, Q (.int c) H
theorem ok_law_cell_at (T : Txt K mg) : FnOk P w K mg base CX0 1 T.a_law_cell_at T.d_law_cell_at ["_law_script", "_law_k"] (sp_law_cell_at T) := by
  refine T.f_law_cell_at.ok sc_law_cell_at (fun vs H Q E h => ?_) (fun cdv A outer s H vs Q E hr h => ?_)
  · obtain ⟨a, ns, k, L, rfl, _⟩ := h
    rfl
  · obtain ⟨a, ns, k, L, rfl, h⟩ := h
    refine ⟨_, (pss_cons (ps_if (pt_cmpR op_lt (pv 1) (pe_callB (k_len (K := K) rfl) (by rfl) T.n_len (by decide +kernel) (pa_cons (pv 0) pa_nil)) (nomark _))
        (pss_one (ps_ret (pe_ix (k_ix (K := K) rfl (hu_of hr)) (pv 0) (pv 1) (fun _ _ => rfl))))
        pss_nil)
       (pss_one (ps_ret pe_int))), ?_⟩
    try dsimp only [cxOf]
    obtain ⟨hs, q⟩ := h
    walk_at "run"
    refine Sl.r_iteD (fun h => ?_) (fun h => ?_)
    · walk_at "run"
      have hk : k < ns.length := by simpa using h
      refine Sl.r_ixL (by walk_at "sq") (atI_nat (v := .int ns[k]) (by simp [hk])) ?_
      exact q _
    · walk_at "run"
      exact q _
def sp_law_mixed (T : Txt K mg) : Sp := fun vs H Q _ => ∃ (c k : Int), vs = [.int c, .int k] ∧ (0 ≤ k ∧ k ≤ 1000000) ∧ ∀ r, 0 ≤ r → r < 2147483629 → Q (.int r) H
theorem ok_law_mixed (T : Txt K mg) : FnOk P w K mg base CX0 1 T.a_law_mixed T.d_law_mixed ["_law_cell", "_law_k"] (sp_law_mixed T) := by
  refine T.f_law_mixed.ok sc_law_mixed (fun vs H Q E h => ?_) (fun cdv A outer s H vs Q E hr h => ?_)
  · obtain ⟨c, k, rfl, _⟩ := h
    rfl
  · obtain ⟨c, k, rfl, h⟩ := h
    refine ⟨_, (pss_one (ps_ret (pe_op (k_mod (K := K) rfl) (pe_op (k_mul (K := K) rfl) (pe_op (k_mod (K := K) rfl) (pe_op (k_add (K := K) rfl) (pe_op (k_add (K := K) rfl) (pe_op (k_mul (K := K) rfl) (pv 0) (pe_op (k_add (K := K) rfl) pe_int (pe_op (k_mul (K := K) rfl) (pe_op (k_mul (K := K) rfl) pe_int (pv 1)) (pv 1)))) (pe_op (k_mul (K := K) rfl) pe_int (pv 1))) pe_int) pe_int) pe_int) pe_int))), ?_⟩
    try dsimp only [cxOf]
    obtain ⟨hk, q⟩ := h
    have hkk : 0 ≤ k * k ∧ k * k ≤ 1000000000000 := ⟨Int.mul_nonneg hk.1 hk.1, Int.le_trans (Int.mul_le_mul hk.2 hk.2 hk.1 (by decide)) (by decide)⟩
    have hk2 : 0 ≤ 2 * k * k ∧ 2 * k * k ≤ 2000000000000 := by rw [Int.mul_assoc]; omega
    walk_at "run"
    exact q _ (Int.emod_nonneg _ (by decide)) (Int.emod_lt_of_pos _ (by decide))
end
section
variable {P : Program} {w : World} {K : PySem.W.Frag} {mg : Str → Option Value} {base : Heap}
def sp_law_state (T : Txt K mg) : Sp := fun vs H Q _ => ∃ (a : Addr) (ns : List Int) (k : Nat) (L : List SA), vs = [.ref a, .int (k : Int)] ∧ k ≤ 1000 ∧ Hd (sql K a (ns.map V.int) :: L) H ∧ ∀ d H', Hd (stA d 0 :: sql K a (ns.map V.int) :: L) H' → Q (.ref d) H'
theorem ok_law_state (T : Txt K mg) : FnOk P w K mg base CX0 2 T.a_law_state T.d_law_state ["_law_script", "_law_k"] (sp_law_state T) := by
  refine T.f_law_state.ok sc_law_state (fun vs H Q E h => ?_) (fun cdv A outer s H vs Q E hr h => ?_)
  · obtain ⟨a, ns, k, L, rfl, _⟩ := h
    rfl
  · obtain ⟨a, ns, k, L, rfl, h⟩ := h
    refine ⟨_, (pss_cons (ps_set (i := 2) sc_law_state.nd rfl (by first | exact Or.inl rfl | exact Or.inr rfl) (pe_call (ok_law_cell_at T) hr (by rfl) T.g_law_cell_at T.f_law_cell_at.kp T.b_law_cell_at .nil pass0 (pa_cons (pv 0) (pa_cons (pv 1) pa_nil))))
       (pss_cons (ps_set (i := 3) sc_law_state.nd rfl (by first | exact Or.inl rfl | exact Or.inr rfl) (pe_cmpR (k_eq (K := K) rfl hr.units) (pe_op (k_mod (K := K) rfl) (pe_call (ok_law_cell_at T) hr (by rfl) T.g_law_cell_at T.f_law_cell_at.kp T.b_law_cell_at .nil pass0 (pa_cons (pv 0) (pa_cons pe_int pa_nil))) pe_int) pe_int (nomark _)))
       (pss_one (ps_ret (pe_disp (pps_cons pe_str (pv 3) (pps_cons pe_str (pe_callB u_abs (by rfl) T.n_abs (by decide +kernel) (pa_cons (pv 2) pa_nil)) (pps_cons pe_str (pe_call (ok_law_mixed T) hr (by rfl) T.g_law_mixed T.f_law_mixed.kp T.b_law_mixed .nil pass0 (pa_cons (pv 2) (pa_cons (pv 1) pa_nil))) (pps_cons pe_str pe_int pps_nil)))) (by rfl) (by rfl) (fun z => by cases z) (by decide)))))), ?_⟩
    try dsimp only [cxOf]
    obtain ⟨hk, hs, q⟩ := h
    walk_at "run"
    refine ⟨a, ns, k, L, rfl, hs, fun c => ?_⟩
    walk_at "run"
    refine ⟨a, ns, 0, _, rfl, Hd.mt (by walk_at "mt") hs, fun c0 => ?_⟩
    walk_at "run"
    refine ⟨c, _, rfl, ⟨by omega, by omega⟩, fun s h1 h2 => ?_⟩
    walk_at "run"
    exact q _ _ (st_close ⟨h1, h2, by decide, by decide⟩ hs)
def sp_law_draw (T : Txt K mg) : Sp := fun vs H Q _ => ∃ (d : Addr) (m : Int) (n : Nat) (L : List SA), vs = [.ref d, .int m] ∧ (0 < m ∧ m ≤ 65536 ∧ n ≤ 900000) ∧ Hd (stA d n :: L) H ∧ ∀ r H', 0 ≤ r → r < m → Hd (stA d (n + 1) :: L) H' → Q (.int r) H'
theorem ok_law_draw (T : Txt K mg) : FnOk P w K mg base CX0 2 T.a_law_draw T.d_law_draw ["_law_state_here", "_law_many"] (sp_law_draw T) := by
  refine T.f_law_draw.ok sc_law_draw (fun vs H Q E h => ?_) (fun cdv A outer s H vs Q E hr h => ?_)
  · obtain ⟨d, m, n, L, rfl, _⟩ := h
    rfl
  · obtain ⟨d, m, n, L, rfl, h⟩ := h
    refine ⟨_, (pss_cons (ps_asg (pe_op (k_add (K := K) rfl) (pe_ix (k_ix (K := K) rfl (hu_of hr)) (pv 0) pe_str (fun _ _ => rfl)) pe_int) (pg_sub (pv 0) pe_str (u_set (hu_of hr))))
       (pss_cons (ps_if (PW.pt (pw_and (pt_val (pe_ix (k_ix (K := K) rfl (hu_of hr)) (pv 0) pe_str (fun _ _ => rfl))) (pw_and1 (pt_cmpR op_gt (pe_ix (k_ix (K := K) rfl (hu_of hr)) (pv 0) pe_str (fun _ _ => rfl)) pe_int (nomark _)))))
        (pss_cons (ps_set (i := 2) sc_law_draw.nd rfl (by first | exact Or.inl rfl | exact Or.inr rfl) (pe_op (k_mod (K := K) rfl) (pe_ix (k_ix (K := K) rfl (hu_of hr)) (pv 0) pe_str (fun _ _ => rfl)) (pv 1)))
       (pss_cons (ps_asg (pe_op (k_div (K := K) rfl) (pe_ix (k_ix (K := K) rfl (hu_of hr)) (pv 0) pe_str (fun _ _ => rfl)) (pv 1)) (pg_sub (pv 0) pe_str (u_set (hu_of hr))))
       (pss_one (ps_ret (pv 2)))))
        pss_nil)
       (pss_cons (ps_set (i := 3) sc_law_draw.nd rfl (by first | exact Or.inl rfl | exact Or.inr rfl) (pe_call (ok_law_mixed T) hr (by rfl) T.g_law_mixed T.f_law_mixed.kp T.b_law_mixed .nil pass0 (pa_cons (pe_call (ok_law_mixed T) hr (by rfl) T.g_law_mixed T.f_law_mixed.kp T.b_law_mixed .nil pass0 (pa_cons (pe_ix (k_ix (K := K) rfl (hu_of hr)) (pv 0) pe_str (fun _ _ => rfl)) (pa_cons (pe_ix (k_ix (K := K) rfl (hu_of hr)) (pv 0) pe_str (fun _ _ => rfl)) pa_nil))) (pa_cons (pe_op (k_add (K := K) rfl) pe_int (pe_ix (k_ix (K := K) rfl (hu_of hr)) (pv 0) pe_str (fun _ _ => rfl))) pa_nil))))
       (pss_one (ps_ret (pe_op (k_mod (K := K) rfl) (pe_op (k_div (K := K) rfl) (pe_op (k_add (K := K) rfl) (pe_op (k_mul (K := K) rfl) (pv 3) pe_int) (pe_call (ok_law_mixed T) hr (by rfl) T.g_law_mixed T.f_law_mixed.kp T.b_law_mixed .nil pass0 (pa_cons (pv 3) (pa_cons (pe_op (k_add (K := K) rfl) pe_int (pe_ix (k_ix (K := K) rfl (hu_of hr)) (pv 0) pe_str (fun _ _ => rfl))) pa_nil)))) pe_int) (pv 1))))))), ?_⟩
    try dsimp only [cxOf]
    obtain ⟨⟨hm, hm2, hn⟩, hs, q⟩ := h
    obtain ⟨f, l, s, a, b, hs⟩ := st_open hs
    walk_at "run"
    apply Sl.r_late hs
    · intro tail
      refine Sl.r_ite (fun hf => ?_) (fun hf => ?_)
      · walk_at "run"
        refine Sl.r_iteD (fun h0 => ?_) (fun h0 => ?_)
        · walk_at "run"
          exact q _ _ (Int.emod_nonneg _ (by omega)) (Int.emod_lt_of_pos _ hm) (st_close (n := n + 1) (s := s) (a := a + 1) ⟨b.1, b.2.1, by omega, by omega⟩ (Hd.mt (by walk_at "mt") hs))
        · exact tail _ (Hd.mt (by walk_at "mt") hs)
      · walk_at "st"
        exact tail _ hs
    · clear hs
      intro H hs
      walk_at "run"
      refine ⟨s, a + 1, rfl, ⟨by omega, by omega⟩, fun s1 h1 h2 => ?_⟩
      walk_at "run"
      refine ⟨s1, 40 + (a + 1), rfl, ⟨by omega, by omega⟩, fun s2 h3 h4 => ?_⟩
      walk_at "run"
      refine ⟨s2, 7 + (a + 1), rfl, ⟨by omega, by omega⟩, fun s3 h5 h6 => ?_⟩
      walk_at "run"
      exact q _ _ (Int.emod_nonneg _ (by omega)) (Int.emod_lt_of_pos _ hm) (st_close (n := n + 1) ⟨b.1, b.2.1, by omega, by omega⟩ hs)
def sp_is_among (T : Txt K mg) : Sp := fun vs H Q _ => ∃ (t l m : Int), vs = [.int t, .int l, .int m] ∧ (l ≤ t ∧ t ≤ m) ∧ Q (.bl true) H
theorem ok_is_among (T : Txt K mg) : FnOk P w K mg base CX0 1 T.a_is_among T.d_is_among ["thing", "least", "most"] (sp_is_among T) := by
  refine T.f_is_among.ok sc_is_among (fun vs H Q E h => ?_) (fun cdv A outer s H vs Q E hr h => ?_)
  · obtain ⟨t, l, m, rfl, _⟩ := h
    rfl
  · obtain ⟨t, l, m, rfl, h⟩ := h
    refine ⟨_, (pss_one (ps_ret (pe_and (pe_callB (k_isi (K := K) rfl) (by rfl) T.n_isinstance (by decide +kernel) (pa_cons (pv 0) (pa_cons (pe_bltn (v := .ty "int") (by rfl) T.n_int (by decide +kernel) rfl) pa_nil))) (pe_and (pe_not (pe_callB (k_isi (K := K) rfl) (by rfl) T.n_isinstance (by decide +kernel) (pa_cons (pv 0) (pa_cons (pe_bltn (v := .ty "bool") (by rfl) T.n_bool (by decide +kernel) rfl) pa_nil)))) (pe_one (pe_chain op_le op_le (pv 1) (pv 0) (pv 2))))))), ?_⟩
    try dsimp only [cxOf]
    obtain ⟨ht, q⟩ := h
    walk_at "run"
    rw [decide_eq_true ht.1]
    walk_at "run"
    rw [decide_eq_true ht.2]
    exact q
end
section
variable {P : Program} {w : World} {K : PySem.W.Frag} {mg : Str → Option Value} {base : Heap}

def z16 : List Int := List.replicate 16 0
/-- a shelf: how often each is held; the words -/
def shA (C p : Addr) (c : List Int) (W : List (List Int)) : SA := fun H => ∃ dx k x xs, Hd [pto p (.ins C dx (fs_Shelf (.ref k) (.ref x))), pto k (.lst (c.map V.int)), pto x (.lst xs), orA xs (W.map some)] H
theorem sh_open {C p : Addr} {c : List Int} {W : List (List Int)} {L : List SA} {H : Hp} (h : Hd (shA C p c W :: L) H) : ∃ dx k x xs, Hd (pto p (.ins C dx (fs_Shelf (.ref k) (.ref x))) :: pto k (.lst (c.map V.int)) :: pto x (.lst xs) :: orA xs (W.map some) :: L) H := by
  obtain ⟨H1, H2, c, s1, s2, ⟨dx, k, x, xs, p⟩, q⟩ := h
  exact ⟨dx, k, x, xs, Hd.open (M := [_, _, _, _]) ⟨H1, H2, c, s1, s2, p, q⟩⟩
theorem sh_close {C p dx k x : Addr} {xs : List V} {c : List Int} {W : List (List Int)} {L : List SA} {H : Hp} (h : Hd (pto p (.ins C dx (fs_Shelf (.ref k) (.ref x))) :: pto k (.lst (c.map V.int)) :: pto x (.lst xs) :: orA xs (W.map some) :: L) H) : Hd (shA C p c W :: L) H :=
  (Hd.close (M := [_, _, _, _]) h).imp fun _ z => ⟨dx, k, x, xs, z⟩
theorem sh_ins {C p : Addr} {c : List Int} {W : List (List Int)} {L L' : List SA} {H : Hp} (h : Hd L H) (pl : Pull (shA C p c W) L L') : ∃ dx x y, H p = some (.ins C dx (fs_Shelf x y)) := by
  obtain ⟨dx, k, x, xs, z⟩ := sh_open (h.pull pl)
  exact ⟨dx, _, _, z.get .here⟩
theorem rep_ints (n : Nat) (i : Int) : (List.replicate n [V.int i]).flatten = (List.replicate n i).map V.int := by
  induction n with
  | zero => rfl
  | succ n ih => rw [List.replicate_succ, List.flatten_cons, ih, List.replicate_succ]; rfl
theorem rep_nones (n : Nat) : (List.replicate n [V.non]).flatten = List.replicate n V.non := by
  induction n with
  | zero => rfl
  | succ n ih => rw [List.replicate_succ, List.flatten_cons, ih, List.replicate_succ]; rfl
theorem e16 : (List.replicate (16 : Int).toNat [V.int 0]).flatten = z16.map V.int := rfl
theorem set_ints (c : List Int) (j : Nat) (i : Int) : (c.map V.int).set j (.int i) = (c.set j i).map V.int := by rw [List.map_set]
theorem set_some (W : List (List Int)) (j : Nat) (r : List Int) : (W.map some).set j (some r) = (W.set j r).map some := by rw [List.map_set]
theorem some_at {W : List (List Int)} {i : Nat} {r : List Int} (e : W[i]? = some r) : (W.map some)[i]? = some (some r) := by rw [List.getElem?_map, e]; rfl

end
set_option hygiene false in
local macro_rules | `(tactic| walk_at "ins") => `(tactic| (have hi := sh_ins hs (by walk_at "pull"); obtain ⟨_, _, _, hi⟩ := hi))

section
variable {P : Program} {w : World} {K : PySem.W.Frag} {mg : Str → Option Value} {base : Heap}
def sp_Shelf_init (T : Txt K mg) : Sp := fun vs H Q _ => ∃ (p : Addr) (n : Nat) (dx : Addr) (L : List SA), vs = [.ref p, .int (n : Int)] ∧ n ≤ 256 ∧ Hd (pto p (.ins T.C_Shelf dx []) :: L) H ∧ ∀ H', Hd (shA T.C_Shelf p (List.replicate n 0) (List.replicate n z16) :: L) H' → Q .non H'
theorem ok_Shelf_init (T : Txt K mg) : FnOk P w K mg base CX0 2 T.a_Shelf_init T.d_Shelf_init ["self", "many"] (sp_Shelf_init T) := by
  refine T.f_Shelf_init.ok sc_Shelf_init (fun vs H Q E h => ?_) (fun cdv A outer s H vs Q E hr h => ?_)
  · obtain ⟨p, n, dx, L, rfl, _⟩ := h
    rfl
  · obtain ⟨p, n, dx, L, rfl, h⟩ := h
    refine ⟨_, (pss_cons (ps_if (pt_not (pt_val (pe_call (ok_is_among T) hr (by rfl) T.g_is_among T.f_is_among.kp T.b_is_among .nil pass0 (pa_cons (pv 1) (pa_cons pe_int (pa_cons (pe_glob (v := .int 256) (by rfl) T.g_MOST_PLACES.choose_spec ⟨_, rfl⟩) pa_nil))))))
        (pss_one ps_never)
        pss_nil)
       (pss_cons (ps_fld (pv 0) (pe_op (k_mul (K := K) rfl) (pe_lst (pa_cons pe_int pa_nil)) (pv 1)) rfl)
       (pss_one (ps_fld (pv 0) (pe_lc (own := [("place", 2)]) rfl sc_Shelf_init.nd (pi_range1 (by rfl) T.n_range (pa_cons (pv 1) pa_nil)) (blkOk_by (N := ["self", "many", "place"]) (sc := defScope s_Shelf_init) (by decide +kernel)) (fun _ _ _ _ _ => (pg_name (i := 2) sc_Shelf_init.nd rfl (by first | exact Or.inl rfl | exact Or.inr rfl))) (fun _ _ _ _ _ => pts_nil) (fun _ _ _ _ _ => (pe_op (k_mul (K := K) rfl) (pe_lst (pa_cons pe_int pa_nil)) (pe_glob (v := .int 16) (by rfl) T.g_PAGE.choose_spec ⟨_, rfl⟩)))) rfl)))), ?_⟩
    try dsimp only [cxOf]
    obtain ⟨hn, hs, q⟩ := h
    walk_at "run"
    refine ⟨(n : Int), 0, 256, rfl, ⟨by omega, by omega⟩, ?_⟩
    walk_at "run"
    obtain ⟨k, rfl⟩ : ∃ k, k = q_ := ⟨_, rfl⟩
    rw [rep_ints, Int.toNat_natCast] at hs
    refine Sl.r_lcR (fun D i H => ∃ xs : List V, Hd (pto D (.lst xs) :: orA xs ((List.replicate i z16).map some) :: pto k (.lst ((List.replicate n 0).map V.int)) :: pto p (.ins T.C_Shelf dx [("counts", .ref k)]) :: L) H) hs ?_ ?_ ?_
    · intro D H hs
      have hs : Hd (orA [] [] :: pto D (.lst []) :: _) H := or_nones hs 0
      refine ⟨[], ?_⟩
      show Hd (pto D (.lst []) :: orA [] [] :: _) _
      exact Hd.mt (by walk_at "mt") hs
    · rintro D i H hi ⟨xs, hs⟩
      have hi : i < n := by simpa using hi
      have hl := or_len hs (by walk_at "pull")
      rw [List.length_map, List.length_replicate] at hl
      walk_at "run"
      rw [e16] at hs
      refine ⟨xs ++ [.ref q_], ?_⟩
      have hs2 := or_snoc (Hd.mt (by walk_at "mt") hs : Hd (pto q_ (.lst (z16.map V.int)) :: orA xs ((List.replicate i z16).map some) :: _) _)
      have e : (List.replicate i z16).map some ++ [some z16] = (List.replicate (i + 1) z16).map some := by rw [List.replicate_succ', List.map_append]; rfl
      rw [e] at hs2
      exact Hd.mt (by walk_at "mt") hs2
    · rintro D H ⟨xs, hs⟩
      rw [Int.toNat_natCast] at hs
      walk_at "run"
      exact q _ (sh_close (Hd.mt (by walk_at "mt") hs))
def sp_Shelf_take (T : Txt K mg) : Sp := fun vs H Q _ => ∃ (p : Addr)  (c : List Int) (W : List (List Int)) (L : List SA), vs = [.ref p] ∧ (c.length = W.length ∧ c.length ≤ 1000) ∧ Hd (shA T.C_Shelf p c W :: L) H ∧ ((0 : Int) ∉ c → ∀ H', Hd (shA T.C_Shelf p c W :: L) H' → Q .non H') ∧ ∀ (j : Nat) H', c[j]? = some 0 → (∀ m : Nat, m < j → c[m]? ≠ some 0) → Hd (shA T.C_Shelf p (c.set j 1) (W.set j z16) :: L) H' → Q (.int (j : Int)) H'
theorem ok_Shelf_take (T : Txt K mg) : FnOk P w K mg base CX0 1 T.a_Shelf_take T.d_Shelf_take ["self"] (sp_Shelf_take T) := by
  refine T.f_Shelf_take.ok sc_Shelf_take (fun vs H Q E h => ?_) (fun cdv A outer s H vs Q E hr h => ?_)
  · obtain ⟨p, c, W, L, rfl, _⟩ := h
    rfl
  · obtain ⟨p, c, W, L, rfl, h⟩ := h
    refine ⟨_, (pss_cons (ps_if (pt_cmpR (k_notIn (K := K) rfl (hu_of hr)) pe_int (k_fld (K := K) rfl (pv 0) rfl) (by rfl))
        (pss_one (ps_ret pe_non))
        pss_nil)
       (pss_cons (ps_set (i := 1) sc_Shelf_take.nd rfl (by first | exact Or.inl rfl | exact Or.inr rfl) (k_bm (K := K) rfl (pe_bm PySem.F.plainAttrs_list PySem.F.slot_list_index PySem.F.type_list_index (k_mtIndex (K := K) rfl) (k_fld (K := K) rfl (pv 0) rfl) (pa_cons pe_int pa_nil))))
       (pss_cons (ps_asg pe_int (pg_sub (k_fld (K := K) rfl (pv 0) rfl) (pv 1) (u_set (hu_of hr))))
       (pss_cons (ps_asg (pe_op (k_mul (K := K) rfl) (pe_lst (pa_cons pe_int pa_nil)) (pe_glob (v := .int 16) (by rfl) T.g_PAGE.choose_spec ⟨_, rfl⟩)) (pg_sub (k_fld (K := K) rfl (pv 0) rfl) (pv 1) (u_set (hu_of hr))))
       (pss_one (ps_ret (pv 1))))))), ?_⟩
    try dsimp only [cxOf]
    obtain ⟨⟨hlen, h1000⟩, hs, q0, q1⟩ := h
    obtain ⟨dx, k, x, xs, hs⟩ := sh_open hs
    have hl := or_len hs (by walk_at "pull")
    rw [List.length_map] at hl
    walk_at "run"
    rw [inV_ints]
    refine Sl.r_iteN (fun z => ?_) (fun z => ?_)
    · walk_at "run"
      exact q0 z _ (sh_close hs)
    · walk_at "run"
      refine Sl.r_indexI (hs.sq (by walk_at "pull")) z fun j hj hf => ?_
      have hjl := (List.getElem?_eq_some_iff.mp hj).1
      walk_at "run"
      refine Sl.r_setL hs (by walk_at "put") (by rw [List.length_map]; exact hjl) fun H hs => ?_
      rw [set_ints] at hs
      walk_at "run"
      rw [e16] at hs
      refine Sl.r_setL hs (by walk_at "put") (by omega) fun H hs => ?_
      have hs2 := or_set (i := j) (Hd.mt (by walk_at "mt") hs : Hd (pto q_ (.lst (z16.map V.int)) :: orA xs (W.map some) :: _) _) (by rw [List.length_map]; omega)
      rw [set_some] at hs2
      walk_at "run"
      exact q1 j _ hj hf (sh_close (Hd.mt (by walk_at "mt") hs2))
def sp_Shelf_hold (T : Txt K mg) : Sp := fun vs H Q _ => ∃ (p : Addr) (j : Nat) (v : Int) (c : List Int) (W : List (List Int)) (L : List SA), vs = [.ref p, .int (j : Int)] ∧ (c[j]? = some v) ∧ Hd (shA T.C_Shelf p c W :: L) H ∧ ∀ H', Hd (shA T.C_Shelf p (c.set j (v + 1)) W :: L) H' → Q .non H'
theorem ok_Shelf_hold (T : Txt K mg) : FnOk P w K mg base CX0 1 T.a_Shelf_hold T.d_Shelf_hold ["self", "at"] (sp_Shelf_hold T) := by
  refine T.f_Shelf_hold.ok sc_Shelf_hold (fun vs H Q E h => ?_) (fun cdv A outer s H vs Q E hr h => ?_)
  · obtain ⟨p, j, v, c, W, L, rfl, _⟩ := h
    rfl
  · obtain ⟨p, j, v, c, W, L, rfl, h⟩ := h
    refine ⟨_, (pss_one (ps_augS (k_fld (K := K) rfl (pv 0) rfl) (pv 1) (k_getL (K := K) rfl) pe_int ip_add (u_set (hu_of hr)))), ?_⟩
    try dsimp only [cxOf]
    obtain ⟨hj, hs, q⟩ := h
    obtain ⟨dx, k, x, xs, hs⟩ := sh_open hs
    have hjl := (List.getElem?_eq_some_iff.mp hj).1
    walk_at "run"
    refine Sl.r_getL (hs.sq (by walk_at "pull")) (Int.natCast_nonneg j) (atI_nat (v := .int v) (by simp [hj])) ?_
    walk_at "run"
    refine Sl.r_setL hs (by walk_at "put") (by rw [List.length_map]; exact hjl) fun H hs => ?_
    rw [set_ints] at hs
    exact q _ (sh_close hs)
def sp_Shelf_drop (T : Txt K mg) : Sp := fun vs H Q _ => ∃ (p : Addr) (j : Nat) (v : Int) (c : List Int) (W : List (List Int)) (L : List SA), vs = [.ref p, .int (j : Int)] ∧ (c[j]? = some v) ∧ Hd (shA T.C_Shelf p c W :: L) H ∧ ∀ H', Hd (shA T.C_Shelf p (c.set j (v - 1)) W :: L) H' → Q .non H'
theorem ok_Shelf_drop (T : Txt K mg) : FnOk P w K mg base CX0 1 T.a_Shelf_drop T.d_Shelf_drop ["self", "at"] (sp_Shelf_drop T) := by
  refine T.f_Shelf_drop.ok sc_Shelf_drop (fun vs H Q E h => ?_) (fun cdv A outer s H vs Q E hr h => ?_)
  · obtain ⟨p, j, v, c, W, L, rfl, _⟩ := h
    rfl
  · obtain ⟨p, j, v, c, W, L, rfl, h⟩ := h
    refine ⟨_, (pss_one (ps_augS (k_fld (K := K) rfl (pv 0) rfl) (pv 1) (k_getL (K := K) rfl) pe_int ip_sub (u_set (hu_of hr)))), ?_⟩
    try dsimp only [cxOf]
    obtain ⟨hj, hs, q⟩ := h
    obtain ⟨dx, k, x, xs, hs⟩ := sh_open hs
    have hjl := (List.getElem?_eq_some_iff.mp hj).1
    walk_at "run"
    refine Sl.r_getL (hs.sq (by walk_at "pull")) (Int.natCast_nonneg j) (atI_nat (v := .int v) (by simp [hj])) ?_
    walk_at "run"
    refine Sl.r_setL hs (by walk_at "put") (by rw [List.length_map]; exact hjl) fun H hs => ?_
    rw [set_ints] at hs
    exact q _ (sh_close hs)
def sp_Shelf_held (T : Txt K mg) : Sp := fun vs H Q _ => ∃ (p : Addr) (j : Nat) (v : Int) (c : List Int) (W : List (List Int)) (L : List SA), vs = [.ref p, .int (j : Int)] ∧ (c[j]? = some v) ∧ Hd (shA T.C_Shelf p c W :: L) H ∧ Q (.int v) H
theorem ok_Shelf_held (T : Txt K mg) : FnOk P w K mg base CX0 1 T.a_Shelf_held T.d_Shelf_held ["self", "at"] (sp_Shelf_held T) := by
  refine T.f_Shelf_held.ok sc_Shelf_held (fun vs H Q E h => ?_) (fun cdv A outer s H vs Q E hr h => ?_)
  · obtain ⟨p, j, v, c, W, L, rfl, _⟩ := h
    rfl
  · obtain ⟨p, j, v, c, W, L, rfl, h⟩ := h
    refine ⟨_, (pss_one (ps_ret (pe_ix (k_ix (K := K) rfl (hu_of hr)) (k_fld (K := K) rfl (pv 0) rfl) (pv 1) (fun _ _ => rfl)))), ?_⟩
    try dsimp only [cxOf]
    obtain ⟨hj, hs, q⟩ := h
    obtain ⟨dx, k, x, xs, hs⟩ := sh_open hs
    walk_at "run"
    refine Sl.r_ixL (hs.sq (a := k) (by walk_at "pull")) (atI_nat (v := .int v) (by simp [hj])) ?_
    exact q
def sp_Shelf_free (T : Txt K mg) : Sp := fun vs H Q _ => ∃ (p : Addr)  (c : List Int) (W : List (List Int)) (L : List SA), vs = [.ref p] ∧ (c.length ≤ 1000) ∧ Hd (shA T.C_Shelf p c W :: L) H ∧ Q (.int (c.count 0 : Nat)) H
theorem ok_Shelf_free (T : Txt K mg) : FnOk P w K mg base CX0 1 T.a_Shelf_free T.d_Shelf_free ["self"] (sp_Shelf_free T) := by
  refine T.f_Shelf_free.ok sc_Shelf_free (fun vs H Q E h => ?_) (fun cdv A outer s H vs Q E hr h => ?_)
  · obtain ⟨p, c, W, L, rfl, _⟩ := h
    rfl
  · obtain ⟨p, c, W, L, rfl, h⟩ := h
    refine ⟨_, (pss_one (ps_ret (k_bm (K := K) rfl (pe_bm PySem.F.plainAttrs_list PySem.F.slot_list_count PySem.F.type_list_count (k_mtCount (K := K) rfl) (k_fld (K := K) rfl (pv 0) rfl) (pa_cons pe_int pa_nil))))), ?_⟩
    try dsimp only [cxOf]
    obtain ⟨hj, hs, q⟩ := h
    obtain ⟨dx, k, x, xs, hs⟩ := sh_open hs
    walk_at "run"
    exact ⟨k, c, 0, rfl, rfl, hs.sq (by walk_at "pull"), q⟩
def sp_Shelf_words_at (T : Txt K mg) : Sp := fun vs H Q _ => ∃ (p : Addr) (j : Nat) (r : List Int) (c : List Int) (W : List (List Int)) (L : List SA), vs = [.ref p, .int (j : Int)] ∧ (W[j]? = some r) ∧ Hd (shA T.C_Shelf p c W :: L) H ∧ ∀ a H', Hd (pto a (.lst (r.map V.int)) :: shA T.C_Shelf p c W :: L) H' → Q (.ref a) H'
theorem ok_Shelf_words_at (T : Txt K mg) : FnOk P w K mg base CX0 1 T.a_Shelf_words_at T.d_Shelf_words_at ["self", "at"] (sp_Shelf_words_at T) := by
  refine T.f_Shelf_words_at.ok sc_Shelf_words_at (fun vs H Q E h => ?_) (fun cdv A outer s H vs Q E hr h => ?_)
  · obtain ⟨p, j, r, c, W, L, rfl, _⟩ := h
    rfl
  · obtain ⟨p, j, r, c, W, L, rfl, h⟩ := h
    refine ⟨_, (pss_one (ps_ret (pe_callTy (k_list (K := K) rfl) (by rfl) T.n_list (by decide +kernel) (pa_cons (pe_ix (k_ix (K := K) rfl (hu_of hr)) (k_fld (K := K) rfl (pv 0) rfl) (pv 1) (fun _ _ => rfl)) pa_nil)))), ?_⟩
    try dsimp only [cxOf]
    obtain ⟨hj, hs, q⟩ := h
    obtain ⟨dx, k, x, xs, hs⟩ := sh_open hs
    obtain ⟨a, ha, hA⟩ := or_at hs (by walk_at "pull") (some_at hj)
    walk_at "run"
    refine Sl.r_ixL (hs.sq (a := x) (by walk_at "pull")) (atI_nat ha) ?_
    walk_at "run"
    refine Sl.r_listL hs (SqL.of hA) fun b H hs => ?_
    walk_at "run"
    exact q _ _ (hs.mono fun _ z => sh_close z)
def sp_Shelf_put_words (T : Txt K mg) : Sp := fun vs H Q _ => ∃ (p : Addr) (j : Nat) (a : Addr) (r : List Int) (c : List Int) (W : List (List Int)) (L : List SA), vs = [.ref p, .int (j : Int), .ref a] ∧ (j < W.length) ∧ Hd (shA T.C_Shelf p c W :: pto a (.lst (r.map V.int)) :: L) H ∧ ∀ H', Hd (shA T.C_Shelf p c (W.set j r) :: pto a (.lst (r.map V.int)) :: L) H' → Q .non H'
theorem ok_Shelf_put_words (T : Txt K mg) : FnOk P w K mg base CX0 1 T.a_Shelf_put_words T.d_Shelf_put_words ["self", "at", "words"] (sp_Shelf_put_words T) := by
  refine T.f_Shelf_put_words.ok sc_Shelf_put_words (fun vs H Q E h => ?_) (fun cdv A outer s H vs Q E hr h => ?_)
  · obtain ⟨p, j, a, r, c, W, L, rfl, _⟩ := h
    rfl
  · obtain ⟨p, j, a, r, c, W, L, rfl, h⟩ := h
    refine ⟨_, (pss_one (ps_asg (pe_callTy (k_list (K := K) rfl) (by rfl) T.n_list (by decide +kernel) (pa_cons (pv 2) pa_nil)) (pg_sub (k_fld (K := K) rfl (pv 0) rfl) (pv 1) (u_set (hu_of hr))))), ?_⟩
    try dsimp only [cxOf]
    obtain ⟨hj, hs, q⟩ := h
    obtain ⟨dx, k, x, xs, hs⟩ := sh_open hs
    have hl := or_len hs (by walk_at "pull")
    rw [List.length_map] at hl
    walk_at "run"
    obtain ⟨b, rfl⟩ : ∃ b, b = q_ := ⟨_, rfl⟩
    refine Sl.r_setL hs (by walk_at "put") (by omega) fun H hs => ?_
    have hs2 := or_set (i := j) (Hd.mt (by walk_at "mt") hs : Hd (pto b (.lst (r.map V.int)) :: orA xs (W.map some) :: _) _) (by rw [List.length_map]; exact hj)
    rw [set_some] at hs2
    walk_at "run"
    exact q _ (sh_close (Hd.mt (by walk_at "mt") hs2))
end
section
variable {P : Program} {w : World} {K : PySem.W.Frag} {mg : Str → Option Value} {base : Heap}
def sp_law_is_number (T : Txt K mg) : Sp := fun vs H Q _ => ∃ (t : Int), vs = [.int t, .int t] ∧ Q (.bl true) H
theorem ok_law_is_number (T : Txt K mg) : FnOk P w K mg base CX0 1 T.a_law_is_number T.d_law_is_number ["_law_thing", "_law_due"] (sp_law_is_number T) := by
  refine T.f_law_is_number.ok sc_law_is_number (fun vs H Q E h => ?_) (fun cdv A outer s H vs Q E hr h => ?_)
  · obtain ⟨t, rfl, _⟩ := h
    rfl
  · obtain ⟨t, rfl, h⟩ := h
    refine ⟨_, (pss_one (ps_ret (pe_and (pe_callB (k_isi (K := K) rfl) (by rfl) T.n_isinstance (by decide +kernel) (pa_cons (pv 0) (pa_cons (pe_bltn (v := .ty "int") (by rfl) T.n_int (by decide +kernel) rfl) pa_nil))) (pe_and (pe_not (pe_callB (k_isi (K := K) rfl) (by rfl) T.n_isinstance (by decide +kernel) (pa_cons (pv 0) (pa_cons (pe_bltn (v := .ty "bool") (by rfl) T.n_bool (by decide +kernel) rfl) pa_nil)))) (pe_one (pe_cmpR (k_eq (K := K) rfl hr.units) (pv 0) (pv 1) (nomark _))))))), ?_⟩
    try dsimp only [cxOf]
    walk_at "run"
    rw [decide_eq_true rfl]
    exact h
def sp_law_taken (T : Txt K mg) : Sp := fun vs H Q _ => ∃ (k : Addr) (c : List Int) (L : List SA), vs = [.ref k] ∧ c.length ≤ 1000 ∧ Hd (pto k (.lst (c.map V.int)) :: L) H ∧ ((0 : Int) ∉ c → ∀ H', Hd (pto k (.lst (c.map V.int)) :: L) H' → Q .non H') ∧ ∀ (j : Nat) H', c[j]? = some 0 → (∀ m : Nat, m < j → c[m]? ≠ some 0) → Hd (pto k (.lst ((c.set j 1).map V.int)) :: L) H' → Q (.int (j : Int)) H'
theorem ok_law_taken (T : Txt K mg) : FnOk P w K mg base CX0 1 T.a_law_taken T.d_law_taken ["_law_counts"] (sp_law_taken T) := by
  refine T.f_law_taken.ok sc_law_taken (fun vs H Q E h => ?_) (fun cdv A outer s H vs Q E hr h => ?_)
  · obtain ⟨k, c, L, rfl, _⟩ := h
    rfl
  · obtain ⟨k, c, L, rfl, h⟩ := h
    refine ⟨_, (pss_cons (ps_if (pt_cmpR (k_notIn (K := K) rfl (hu_of hr)) pe_int (pv 0) (by rfl))
        (pss_one (ps_ret pe_non))
        pss_nil)
       (pss_cons (ps_set (i := 1) sc_law_taken.nd rfl (by first | exact Or.inl rfl | exact Or.inr rfl) (k_bm (K := K) rfl (pe_bm PySem.F.plainAttrs_list PySem.F.slot_list_index PySem.F.type_list_index (k_mtIndex (K := K) rfl) (pv 0) (pa_cons pe_int pa_nil))))
       (pss_cons (ps_asg pe_int (pg_sub (pv 0) (pv 1) (u_set (hu_of hr))))
       (pss_one (ps_ret (pv 1)))))), ?_⟩
    try dsimp only [cxOf]
    obtain ⟨h1000, hs, q0, q1⟩ := h
    walk_at "run"
    rw [inV_ints]
    refine Sl.r_iteN (fun z => ?_) (fun z => ?_)
    · walk_at "run"
      exact q0 z _ hs
    · walk_at "run"
      refine Sl.r_indexI (hs.sq (by walk_at "pull")) z fun j hj hf => ?_
      have hjl := (List.getElem?_eq_some_iff.mp hj).1
      walk_at "run"
      refine Sl.r_setL hs (by walk_at "put") (by rw [List.length_map]; exact hjl) fun H hs => ?_
      rw [set_ints] at hs
      walk_at "run"
      exact q1 j _ hj hf hs

theorem pick3 {x y z : Int} {i : Int} (h0 : 0 ≤ i) (h : i < 3) : ∃ v, (v = x ∨ v = y ∨ v = z) ∧ atI [V.int x, V.int y, V.int z] i = some (.int v) := by
  have e : i = 0 ∨ i = 1 ∨ i = 2 := by omega
  rcases e with rfl | rfl | rfl
  · exact ⟨_, .inl rfl, rfl⟩
  · exact ⟨_, .inr (.inl rfl), rfl⟩
  · exact ⟨_, .inr (.inr rfl), rfl⟩
theorem mI_snoc (R : List Int) (x : Int) : R.map V.int ++ [V.int x] = (R ++ [x]).map V.int := by simp

def sp_law_words (T : Txt K mg) : Sp := fun vs H Q _ => ∃ (d : Addr) (n : Nat) (L : List SA), vs = [.ref d] ∧ n ≤ 1000 ∧ Hd (stA d n :: L) H ∧ ∀ (p : Addr) (ws : List Int) H', ws.length = 16 → Hd (pto p (.lst (ws.map V.int)) :: stA d (n + 32) :: L) H' → Q (.ref p) H'
theorem ok_law_words (T : Txt K mg) : FnOk P w K mg base CX0 3 T.a_law_words T.d_law_words ["_law_state_here"] (sp_law_words T) := by
  refine T.f_law_words.ok sc_law_words (fun vs H Q E h => ?_) (fun cdv A outer s H vs Q E hr h => ?_)
  · obtain ⟨d, n, L, rfl, _⟩ := h
    rfl
  · obtain ⟨d, n, L, rfl, h⟩ := h
    refine ⟨_, (pss_one (ps_ret (pe_lc (own := [("_law_k", 1)]) rfl sc_law_words.nd (pi_range1 (by rfl) T.n_range (pa_cons pe_int pa_nil)) (blkOk_by (N := ["_law_state_here", "_law_k"]) (sc := defScope s_law_words) (by decide +kernel)) (fun _ _ _ _ _ => (pg_name (i := 1) sc_law_words.nd rfl (by first | exact Or.inl rfl | exact Or.inr rfl))) (fun _ _ _ _ _ => pts_nil) (fun _ _ _ _ _ => (pe_ix (k_ix (K := K) rfl (hu_of hr)) (pe_lst (pa_cons pe_int (pa_cons pe_int (pa_cons (pe_call (ok_law_draw T) hr (by rfl) T.g_law_draw T.f_law_draw.kp T.b_law_draw .nil pass0 (pa_cons (pv 0) (pa_cons pe_int pa_nil))) pa_nil)))) (pe_call (ok_law_draw T) hr (by rfl) T.g_law_draw T.f_law_draw.kp T.b_law_draw .nil pass0 (pa_cons (pv 0) (pa_cons pe_int pa_nil))) (fun _ _ => rfl)))))), ?_⟩
    try dsimp only [cxOf]
    obtain ⟨hn, hs, q⟩ := h
    walk_at "run"
    refine Sl.r_lcR (fun D i H => ∃ (zs : List Int) (n' : Nat), zs.length = i ∧ n' ≤ n + 2 * i ∧ Hd (pto D (.lst (zs.map V.int)) :: stA d n' :: L) H) hs ?_ ?_ ?_
    · intro D H hs
      exact ⟨[], n, rfl, by omega, (Hd.mt (by walk_at "mt") hs : Hd (pto D (.lst []) :: stA d n :: L) H)⟩
    · rintro D i H hi ⟨zs, n', hz, hn', hs⟩
      have hi : i < 16 := hi
      walk_at "run"
      refine ⟨d, 65536, n', _, rfl, ⟨by decide, by decide, by omega⟩, Hd.mt (by walk_at "mt") hs, fun x H _ _ hs => ?_⟩
      walk_at "run"
      refine ⟨d, 3, n' + 1, _, rfl, ⟨by decide, by decide, by omega⟩, Hd.mt (by walk_at "mt") hs, fun y H y1 y2 hs => ?_⟩
      obtain ⟨v, -, hat⟩ := pick3 (x := 0) (y := 65535) (z := x) y1 y2
      refine Sl.r_ixL (by walk_at "sq") hat ?_
      walk_at "run"
      rw [mI_snoc] at hs
      exact ⟨zs ++ [v], n' + 1 + 1, by rw [List.length_append, hz]; rfl, by omega, Hd.mt (by walk_at "mt") hs⟩
    · rintro D H ⟨zs, n', hz, hn', hs⟩
      have hz : zs.length = 16 := hz
      have hn' : n' ≤ n + 32 := hn'
      walk_at "run"
      exact q _ _ _ hz (hs.mono fun _ z => st_more hn' z)
end
section
variable {P : Program} {w : World} {K : PySem.W.Frag} {mg : Str → Option Value} {base : Heap}

/-- the law's own: how often each is held, what was put -/
def lawB (k rw' : Addr) (c : List Int) (R : List (Option (List Int))) : SA := fun H => ∃ ys, Hd [pto k (.lst (c.map V.int)), pto rw' (.lst ys), orA ys R] H
theorem lb_open {k rw' : Addr} {c : List Int} {R : List (Option (List Int))} {L : List SA} {H : Hp} (h : Hd (lawB k rw' c R :: L) H) : ∃ ys, Hd (pto k (.lst (c.map V.int)) :: pto rw' (.lst ys) :: orA ys R :: L) H := by
  obtain ⟨H1, H2, c, s1, s2, ⟨ys, p⟩, q⟩ := h
  exact ⟨ys, Hd.open (M := [_, _, _]) ⟨H1, H2, c, s1, s2, p, q⟩⟩
theorem lb_close {k rw' : Addr} {ys : List V} {c : List Int} {R : List (Option (List Int))} {L : List SA} {H : Hp} (h : Hd (pto k (.lst (c.map V.int)) :: pto rw' (.lst ys) :: orA ys R :: L) H) : Hd (lawB k rw' c R :: L) H :=
  (Hd.close (M := [_, _, _]) h).imp fun _ z => ⟨ys, z⟩
/-- what is held: the words are those that were put -/
structure Rel (c : List Int) (W : List (List Int)) (R : List (Option (List Int))) : Prop where
  l1 : c.length = W.length
  l2 : c.length = R.length
  few : c.length ≤ 256
  sz : ∀ (i : Nat) r, W[i]? = some r → r.length = 16
  eq : ∀ (i : Nat) v, c[i]? = some v → 0 < v → ∃ r, W[i]? = some r ∧ R[i]? = some (some r)
theorem rel_put {c : List Int} {W : List (List Int)} {R : List (Option (List Int))} (h : Rel c W R) {j : Nat} (v : Int) (r : List Int) (hr : r.length = 16) : Rel (c.set j v) (W.set j r) (R.set j (some r)) := by
  refine ⟨by simp [h.l1], by simp [h.l2], by simp [h.few], fun i s e => ?_, fun i x e hx => ?_⟩
  · by_cases q : i = j
    · subst q
      have hi : i < W.length := by
        have := (List.getElem?_eq_some_iff.mp e).1
        rw [List.length_set] at this
        exact this
      rw [List.getElem?_set_self hi] at e
      cases e
      exact hr
    · rw [List.getElem?_set_ne (Ne.symm q)] at e
      exact h.sz i s e
  · by_cases q : i = j
    · subst q
      have hi : i < c.length := by
        have := (List.getElem?_eq_some_iff.mp e).1
        rw [List.length_set] at this
        exact this
      exact ⟨r, List.getElem?_set_self (by rw [← h.l1]; exact hi), List.getElem?_set_self (by rw [← h.l2]; exact hi)⟩
    · rw [List.getElem?_set_ne (Ne.symm q)] at e
      rw [List.getElem?_set_ne (Ne.symm q), List.getElem?_set_ne (Ne.symm q)]
      exact h.eq i x e hx
theorem set_same {α : Type} : ∀ {c : List α} {j : Nat} {v : α}, c[j]? = some v → c.set j v = c
  | [], _, _, h => by simp at h
  | a :: c, 0, v, h => by
    have e : a = v := Option.some.inj h
    rw [e]
    rfl
  | a :: c, j + 1, v, h => by rw [List.set_cons_succ, set_same (c := c) (j := j) h]
theorem rel_cnt {c : List Int} {W : List (List Int)} {R : List (Option (List Int))} (h : Rel c W R) {j : Nat} {u : Int} (v : Int) (hu : c[j]? = some u) (hp : 0 < u) : Rel (c.set j v) W R := by
  obtain ⟨r, e1, e2⟩ := h.eq j u hu hp
  have z := rel_put h (j := j) v r (h.sz j r e1)
  rw [set_same e1, set_same e2] at z
  exact z

def sp_law_deed (T : Txt K mg) : Sp := fun vs H Q _ => ∃ (p k y d : Addr) (n : Nat) (c : List Int) (W : List (List Int)) (R : List (Option (List Int))) (L : List SA), vs = [.ref p, .ref k, .ref y, .ref d] ∧ (Rel c W R ∧ n ≤ 900) ∧ Hd (shA T.C_Shelf p c W :: lawB k y c R :: stA d n :: L) H ∧ ∀ c' W' R' H', Rel c' W' R' → Hd (shA T.C_Shelf p c' W' :: lawB k y c' R' :: stA d (n + 40) :: L) H' → Q (.bl true) H'
theorem ok_law_deed (T : Txt K mg) : FnOk P w K mg base CX0 4 T.a_law_deed T.d_law_deed ["_law_shelf", "_law_counts", "_law_rows", "_law_state_here"] (sp_law_deed T) := by
  refine T.f_law_deed.ok sc_law_deed (fun vs H Q E h => ?_) (fun cdv A outer s H vs Q E hr h => ?_)
  · obtain ⟨p, k, y, d, n, c, W, R, L, rfl, _⟩ := h
    rfl
  · obtain ⟨p, k, y, d, n, c, W, R, L, rfl, h⟩ := h
    refine ⟨_, (pss_cons (ps_setLc (i := 4) (own := [("_law_at", 5), ("_law_many", 6)]) rfl sc_law_deed.nd rfl rfl (sw_true rfl rfl rfl (by decide +kernel)) (pi_enum (by rfl) T.n_enumerate (pa_cons (pv 1) pa_nil)) (blkOk_by (N := ["_law_shelf", "_law_counts", "_law_rows", "_law_state_here", "_law_held", "_law_at", "_law_many", "_law_kind", "_law_due", "_law_found", "_law_words_here"]) (sc := defScope s_law_deed) (by decide +kernel)) (fun _ _ _ _ _ => (k_gTup (K := K) (n := 2) rfl (pg_tup (n := 2) (by rfl) (pgs_cons (pg_name (i := 5) sc_law_deed.nd rfl (by first | exact Or.inl rfl | exact Or.inr rfl)) (pgs_cons (pg_name (i := 6) sc_law_deed.nd rfl (by first | exact Or.inl rfl | exact Or.inr rfl)) pgs_nil))))) (fun _ _ _ _ _ => (pts_one (pt_cmpR op_gt (pv 6) pe_int (nomark _)))) (fun _ _ _ _ _ => (pv 5)))
       (pss_cons (ps_set (i := 7) sc_law_deed.nd rfl (by first | exact Or.inl rfl | exact Or.inr rfl) (pe_call (ok_law_draw T) (hr.mono (by decide)) (by rfl) T.g_law_draw T.f_law_draw.kp T.b_law_draw .nil pass0 (pa_cons (pv 3) (pa_cons pe_int pa_nil))))
       (pss_cons (ps_if (PW.pt (pw_or (pt_cmpR op_lt (pv 7) pe_int (nomark _)) (pw_or1 (pt_cmpR (k_eq (K := K) rfl hr.units) (pv 4) (pe_lst pa_nil) (nomark _)))))
        (pss_cons (ps_set (i := 8) sc_law_deed.nd rfl (by first | exact Or.inl rfl | exact Or.inr rfl) (pe_call (ok_law_taken T) (hr.mono (by decide)) (by rfl) T.g_law_taken T.f_law_taken.kp T.b_law_taken .nil pass0 (pa_cons (pv 1) pa_nil)))
       (pss_cons (ps_set (i := 9) sc_law_deed.nd rfl (by first | exact Or.inl rfl | exact Or.inr rfl) (pe_meth0 (pv 0) T.cl_Shelf T.m_Shelf_take (ok_Shelf_take T) (hr.mono (by decide)) T.b_Shelf_take .nil pass0))
       (pss_cons (ps_if (pt_cmpR u_isN (pv 8) pe_non (nomark _))
        (pss_one (ps_ret (pe_cmpR u_isN (pv 9) pe_non (nomark _))))
        pss_nil)
       (pss_cons (ps_asg (pe_op (k_mul (K := K) rfl) (pe_lst (pa_cons pe_int pa_nil)) pe_int) (pg_sub (pv 2) (pv 8) (u_set (hu_of hr))))
       (pss_one (ps_ret (pe_call (ok_law_is_number T) (hr.mono (by decide)) (by rfl) T.g_law_is_number T.f_law_is_number.kp T.b_law_is_number .nil pass0 (pa_cons (pv 9) (pa_cons (pv 8) pa_nil)))))))))
        pss_nil)
       (pss_cons (ps_set (i := 5) sc_law_deed.nd rfl (by first | exact Or.inl rfl | exact Or.inr rfl) (pe_ix (k_ix (K := K) rfl (hu_of hr)) (pv 4) (pe_call (ok_law_draw T) (hr.mono (by decide)) (by rfl) T.g_law_draw T.f_law_draw.kp T.b_law_draw .nil pass0 (pa_cons (pv 3) (pa_cons (pe_callB (k_len (K := K) rfl) (by rfl) T.n_len (by decide +kernel) (pa_cons (pv 4) pa_nil)) pa_nil))) (fun _ _ => rfl)))
       (pss_cons (ps_if (pt_cmpR (k_eq (K := K) rfl hr.units) (pv 7) pe_int (nomark _))
        (pss_cons (ps_asg (pe_op (k_add (K := K) rfl) (pe_ix (k_ix (K := K) rfl (hu_of hr)) (pv 1) (pv 5) (fun _ _ => rfl)) pe_int) (pg_sub (pv 1) (pv 5) (u_set (hu_of hr))))
       (pss_one (ps_ret (pe_cmpR u_isN (pe_meth (pv 0) T.cl_Shelf T.m_Shelf_hold (ok_Shelf_hold T) (hr.mono (by decide)) T.b_Shelf_hold .nil pass0 (pa_cons (pv 5) pa_nil)) pe_non (nomark _)))))
        pss_nil)
       (pss_cons (ps_if (pt_cmpR (k_eq (K := K) rfl hr.units) (pv 7) pe_int (nomark _))
        (pss_cons (ps_asg (pe_op (k_sub (K := K) rfl) (pe_ix (k_ix (K := K) rfl (hu_of hr)) (pv 1) (pv 5) (fun _ _ => rfl)) pe_int) (pg_sub (pv 1) (pv 5) (u_set (hu_of hr))))
       (pss_one (ps_ret (pe_cmpR u_isN (pe_meth (pv 0) T.cl_Shelf T.m_Shelf_drop (ok_Shelf_drop T) (hr.mono (by decide)) T.b_Shelf_drop .nil pass0 (pa_cons (pv 5) pa_nil)) pe_non (nomark _)))))
        pss_nil)
       (pss_cons (ps_set (i := 10) sc_law_deed.nd rfl (by first | exact Or.inl rfl | exact Or.inr rfl) (pe_call (ok_law_words T) hr (by rfl) T.g_law_words T.f_law_words.kp T.b_law_words .nil pass0 (pa_cons (pv 3) pa_nil)))
       (pss_cons (ps_asg (pe_callTy (k_list (K := K) rfl) (by rfl) T.n_list (by decide +kernel) (pa_cons (pv 10) pa_nil)) (pg_sub (pv 2) (pv 5) (u_set (hu_of hr))))
       (pss_cons (ps_set (i := 9) sc_law_deed.nd rfl (by first | exact Or.inl rfl | exact Or.inr rfl) (pe_meth (pv 0) T.cl_Shelf T.m_Shelf_put_words (ok_Shelf_put_words T) (hr.mono (by decide)) T.b_Shelf_put_words .nil pass0 (pa_cons (pv 5) (pa_cons (pv 10) pa_nil))))
       (pss_cons (ps_asg pe_non (pg_sub (pv 10) pe_int (u_set (hu_of hr))))
       (pss_one (ps_ret (pe_cmpR u_isN (pv 9) pe_non (nomark _)))))))))))))), ?_⟩
    try dsimp only [cxOf]
    obtain ⟨⟨rel, hn⟩, hs, q⟩ := h
    obtain ⟨ys, hs⟩ := lb_open (hs.pull (by walk_at "pull"))
    have few := rel.few
    walk_at "run"
    refine Sl.r_lcE (c.map V.int) (fun D i H => ∃ hl : List Int, hl.length ≤ i ∧ (∀ x ∈ hl, ∃ (j : Nat) (v : Int), x = (j : Int) ∧ c[j]? = some v ∧ 0 < v) ∧ Hd (pto D (.lst (hl.map V.int)) :: pto k (.lst (c.map V.int)) :: pto y (.lst ys) :: orA ys R :: shA T.C_Shelf p c W :: stA d n :: L) H) hs ?_ ?_ ?_ ?_
    · intro D H hs
      exact ⟨[], Nat.le_refl 0, (fun _ h => nomatch h), hs⟩
    · rintro D i H hi ⟨hl, h1, h2, hs⟩
      exact hs.sq (a := k) (by walk_at "pull")
    · rintro D i x t H hx ⟨hl, h1, h2, hs⟩ ht
      rw [List.getElem?_map] at hx
      obtain ⟨v, hv, rfl⟩ := Option.map_eq_some_iff.mp hx
      have hi := (List.getElem?_eq_some_iff.mp hv).1
      walk_at "run"
      refine Sl.r_iteD (fun z => ?_) (fun z => ?_)
      · walk_at "run"
        rw [mI_snoc] at hs
        refine ⟨hl ++ [(i : Int)], by rw [List.length_append, List.length_singleton]; omega, fun x hx => ?_, Hd.mt (by walk_at "mt") hs⟩
        rcases List.mem_append.mp hx with hx | hx
        · exact h2 x hx
        · exact ⟨i, v, List.mem_singleton.mp hx, hv, z⟩
      · exact ⟨hl, by omega, h2, Hd.mt (by walk_at "mt") hs⟩
    · rintro D H ⟨hl, h1, h2, hs⟩
      rw [List.length_map] at h1
      have hyl := or_len hs (by walk_at "pull")
      walk_at "run"
      refine ⟨d, 6, n, _, rfl, ⟨by decide, by decide, by omega⟩, Hd.mt (by walk_at "mt") hs, fun kd H k1 k2 hs => ?_⟩
      have fin : ∀ (c' : List Int) (W' : List (List Int)) (R' : List (Option (List Int))) (ys' : List V) (n' : Nat) (H : Hp), Rel c' W' R' → n' ≤ n + 40 → Hd (shA T.C_Shelf p c' W' :: pto k (.lst (c'.map V.int)) :: pto y (.lst ys') :: orA ys' R' :: stA d n' :: L) H → Q (.bl true) H := fun c' W' R' ys' n' H rel' hn' hs => by
        refine q c' W' R' H rel' ?_
        exact hs.mono fun _ z => lb_close (z.mono fun _ z => z.mono fun _ z => z.mono fun _ z => st_more hn' z)
      walk_at "run"
      apply Sl.r_late hs
      · intro tailT
        refine Sl.r_iteD (fun z => ?_) (fun z => ?_)
        · walk_at "st"
          exact tailT _ hs
        · walk_at "run"
          refine Sl.r_eqNil (hs.sq (a := D) (by walk_at "pull")) (hs.sq (a := q_) (xs := []) (by walk_at "pull")) ?_
          walk_at "run"
          refine Sl.r_ite (fun z => ?_) (fun z => ?_)
          · exact tailT _ (Hd.mt (by walk_at "mt") hs)
          · have hpos : 0 < hl.length := by
              cases hl with
              | nil => cases z
              | cons _ _ => exact Nat.succ_pos _
            walk_at "run"
            refine ⟨d, ((hl.map V.int).length : Nat), n + 1, _, rfl, ⟨by rw [List.length_map]; omega, by rw [List.length_map]; omega, by omega⟩, Hd.mt (by walk_at "mt") hs, fun x H x1 x2 hs => ?_⟩
            rw [List.length_map] at x2
            obtain ⟨i, rfl⟩ : ∃ i : Nat, x = (i : Int) := ⟨x.toNat, by omega⟩
            have hi : i < hl.length := by omega
            obtain ⟨j, v, ej, hv, hp⟩ := h2 hl[i] (List.getElem_mem hi)
            have hjl := (List.getElem?_eq_some_iff.mp hv).1
            refine Sl.r_ixL (hs.sq (a := D) (by walk_at "pull")) (atI_nat (v := .int (j : Int)) (by simp [hi, ej])) ?_
            walk_at "run"
            refine Sl.r_iteD (fun z => ?_) (fun z => ?_)
            · walk_at "run"
              refine Sl.r_ixL (hs.sq (a := k) (by walk_at "pull")) (atI_nat (v := .int v) (by simp [hv])) ?_
              walk_at "run"
              refine Sl.r_setL hs (by walk_at "put") (by rw [List.length_map]; exact hjl) fun H hs => ?_
              rw [set_ints] at hs
              walk_at "run"
              refine ⟨p, j, v, c, W, _, rfl, hv, Hd.mt (by walk_at "mt") hs, fun H hs => ?_⟩
              walk_at "run"
              rw [decide_eq_true rfl]
              exact fin _ W R ys (n + 1 + 1) _ (rel_cnt rel (v + 1) hv hp) (by omega) (Hd.mt (by walk_at "mt") hs)
            walk_at "run"
            refine Sl.r_iteD (fun z => ?_) (fun z => ?_)
            · walk_at "run"
              refine Sl.r_ixL (hs.sq (a := k) (by walk_at "pull")) (atI_nat (v := .int v) (by simp [hv])) ?_
              walk_at "run"
              refine Sl.r_setL hs (by walk_at "put") (by rw [List.length_map]; exact hjl) fun H hs => ?_
              rw [set_ints] at hs
              walk_at "run"
              refine ⟨p, j, v, c, W, _, rfl, hv, Hd.mt (by walk_at "mt") hs, fun H hs => ?_⟩
              walk_at "run"
              rw [decide_eq_true rfl]
              exact fin _ W R ys (n + 1 + 1) _ (rel_cnt rel (v - 1) hv hp) (by omega) (Hd.mt (by walk_at "mt") hs)
            walk_at "run"
            refine ⟨d, n + 1 + 1, _, rfl, by omega, Hd.mt (by walk_at "mt") hs, fun a ws H hw hs => ?_⟩
            have l1 := rel.l1
            have l2 := rel.l2
            walk_at "run"
            obtain ⟨b, rfl⟩ : ∃ b, b = q_ := ⟨_, rfl⟩
            refine Sl.r_setL hs (by walk_at "put") (by omega) fun H hs => ?_
            walk_at "run"
            have hs := or_set (i := j) (Hd.mt (by walk_at "mt") hs : Hd (pto b (.lst (ws.map V.int)) :: orA ys R :: pto y (.lst (ys.set j (.ref b))) :: pto k (.lst (c.map V.int)) :: pto a (.lst (ws.map V.int)) :: shA T.C_Shelf p c W :: stA d (n + 1 + 1 + 32) :: L) _) (by omega)
            refine ⟨p, j, a, ws, c, W, _, rfl, by omega, Hd.mt (by walk_at "mt") hs, fun H hs => ?_⟩
            walk_at "run"
            refine Sl.r_setL (n := 0) hs (by walk_at "put") (by rw [List.length_map]; omega) fun H hs => ?_
            walk_at "run"
            rw [decide_eq_true rfl]
            have rp := rel_put rel (j := j) v ws hw
            rw [set_same hv] at rp
            exact fin c _ _ _ (n + 1 + 1 + 32) _ rp (by omega) (Hd.mt (by walk_at "mt") hs)
      · clear hs
        intro H hs
        have l1 := rel.l1
        have l2 := rel.l2
        walk_at "run"
        refine ⟨k, c, _, rfl, by omega, Hd.mt (by walk_at "mt") hs, fun no H hs => ?_, fun j H hj hf hs => ?_⟩
        · walk_at "run"
          refine ⟨p, c, W, _, rfl, ⟨l1, by omega⟩, Hd.mt (by walk_at "mt") hs, fun _ H hs => ?_, fun j H hj => (no (List.mem_of_getElem? hj)).elim⟩
          walk_at "run"
          rw [decide_eq_true rfl]
          walk_at "run"
          rw [decide_eq_true rfl]
          exact fin c W R ys (n + 1) _ rel (by omega) (Hd.mt (by walk_at "mt") hs)
        · walk_at "run"
          have hjl := (List.getElem?_eq_some_iff.mp hj).1
          refine ⟨p, c, W, _, rfl, ⟨l1, by omega⟩, Hd.mt (by walk_at "mt") hs, fun no => (no (List.mem_of_getElem? hj)).elim, fun j2 H hj2 hf2 hs => ?_⟩
          have ej : j2 = j := by
            rcases Nat.lt_trichotomy j2 j with z | z | z
            · exact (hf j2 z hj2).elim
            · exact z
            · exact (hf2 j z hj).elim
          subst ej
          walk_at "run"
          refine Sl.r_iteD (fun z => nomatch z) (fun _ => ?_)
          walk_at "run"
          rw [e16] at hs
          obtain ⟨b, rfl⟩ : ∃ b, b = q_ := ⟨_, rfl⟩
          refine Sl.r_setL hs (by walk_at "put") (by omega) fun H hs => ?_
          walk_at "run"
          have hs := or_set (i := j2) (Hd.mt (by walk_at "mt") hs : Hd (pto b (.lst (z16.map V.int)) :: orA ys R :: pto y (.lst (ys.set j2 (.ref b))) :: pto k (.lst ((c.set j2 1).map V.int)) :: shA T.C_Shelf p (c.set j2 1) (W.set j2 z16) :: stA d (n + 1) :: L) _) (by omega)
          refine ⟨(j2 : Int), rfl, ?_⟩
          exact fin _ _ _ _ (n + 1) _ (rel_put rel 1 z16 rfl) (by omega) (Hd.mt (by walk_at "mt") hs)
end
section
variable {P : Program} {w : World} {K : PySem.W.Frag} {mg : Str → Option Value} {base : Heap}
def sp_law_stands (T : Txt K mg) : Sp := fun vs H Q _ => ∃ (p k y : Addr) (c : List Int) (W : List (List Int)) (R : List (Option (List Int))) (L : List SA), vs = [.ref p, .ref k, .ref y] ∧ Rel c W R ∧ Hd (shA T.C_Shelf p c W :: lawB k y c R :: L) H ∧ ∀ H', Hd (shA T.C_Shelf p c W :: lawB k y c R :: L) H' → Q (.bl true) H'
theorem ok_law_stands (T : Txt K mg) : FnOk P w K mg base CX0 2 T.a_law_stands T.d_law_stands ["_law_shelf", "_law_counts", "_law_rows"] (sp_law_stands T) := by
  refine T.f_law_stands.ok sc_law_stands (fun vs H Q E h => ?_) (fun cdv A outer s H vs Q E hr h => ?_)
  · obtain ⟨p, k, y, c, W, R, L, rfl, _⟩ := h
    rfl
  · obtain ⟨p, k, y, c, W, R, L, rfl, h⟩ := h
    refine ⟨_, (pss_cons (ps_for PassesOwn.never rfl (pi_enum (by rfl) T.n_enumerate (pa_cons (pv 1) pa_nil)) (k_gTup (K := K) (n := 2) rfl (pg_tup (n := 2) (by rfl) (pgs_cons (pg_name (i := 3) sc_law_stands.nd rfl (by first | exact Or.inl rfl | exact Or.inr rfl)) (pgs_cons (pg_name (i := 4) sc_law_stands.nd rfl (by first | exact Or.inl rfl | exact Or.inr rfl)) pgs_nil))))
        (pss_cons (ps_if (pt_not (pt_val (pe_call (ok_law_is_number T) hr (by rfl) T.g_law_is_number T.f_law_is_number.kp T.b_law_is_number .nil pass0 (pa_cons (pe_meth (pv 0) T.cl_Shelf T.m_Shelf_held (ok_Shelf_held T) hr T.b_Shelf_held .nil pass0 (pa_cons (pv 3) pa_nil)) (pa_cons (pv 4) pa_nil)))))
        (pss_one (ps_ret pe_bl))
        pss_nil)
       (pss_one (ps_if (pt_cmpR op_gt (pv 4) pe_int (nomark _))
        (pss_cons (ps_set (i := 5) sc_law_stands.nd rfl (by first | exact Or.inl rfl | exact Or.inr rfl) (pe_meth (pv 0) T.cl_Shelf T.m_Shelf_words_at (ok_Shelf_words_at T) hr T.b_Shelf_words_at .nil pass0 (pa_cons (pv 3) pa_nil)))
       (pss_cons (ps_if (PW.pt (pw_or (pt_not (pt_val (pe_callB (k_isi (K := K) rfl) (by rfl) T.n_isinstance (by decide +kernel) (pa_cons (pv 5) (pa_cons (pe_bltn (v := .ty "list") (by rfl) T.n_list (by decide +kernel) rfl) pa_nil))))) (pw_or1 (pt_cmpR (k_ne (K := K) rfl hr.units) (pv 5) (pe_ix (k_ix (K := K) rfl (hu_of hr)) (pv 2) (pv 3) (fun _ _ => rfl)) (nomark _)))))
        (pss_one (ps_ret pe_bl))
        pss_nil)
       (pss_cons (ps_asg pe_str (pg_sub (pv 5) pe_int (u_set (hu_of hr))))
       (pss_one (ps_expr (k_bm (K := K) rfl (pe_bm PySem.F.plainAttrs_list PySem.F.slot_list_append PySem.F.type_list_append mt_append (pv 5) (pa_cons pe_int pa_nil))))))))
        pss_nil))))
       (pss_one (ps_ret (pe_call (ok_law_is_number T) hr (by rfl) T.g_law_is_number T.f_law_is_number.kp T.b_law_is_number .nil pass0 (pa_cons (pe_meth0 (pv 0) T.cl_Shelf T.m_Shelf_free (ok_Shelf_free T) hr T.b_Shelf_free .nil pass0) (pa_cons (k_bm (K := K) rfl (pe_bm PySem.F.plainAttrs_list PySem.F.slot_list_count PySem.F.type_list_count (k_mtCount (K := K) rfl) (pv 1) (pa_cons pe_int pa_nil))) pa_nil)))))), ?_⟩
    try dsimp only [cxOf]
    obtain ⟨rel, hs, q⟩ := h
    obtain ⟨ys, hs⟩ := lb_open (hs.pull (by walk_at "pull"))
    have few := rel.few
    walk_at "run"
    refine Sl.r_forE (c.map V.int) (fun i σ H => ∃ v3 v4 v5 : Option V, σ = [some (.ref p), some (.ref k), some (.ref y), v3, v4, v5] ∧ Hd (pto k (.lst (c.map V.int)) :: pto y (.lst ys) :: orA ys R :: shA T.C_Shelf p c W :: L) H) ?_ ?_ ?_ ?_
    · exact ⟨none, none, none, rfl, hs⟩
    · rintro i σ H hi ⟨v3, v4, v5, rfl, hs⟩
      exact hs.sq (a := k) (by walk_at "pull")
    · rintro i x t σ H hx ⟨v3, v4, v5, rfl, hs⟩ ht
      rw [List.getElem?_map] at hx
      obtain ⟨v, hv, rfl⟩ := Option.map_eq_some_iff.mp hx
      walk_at "run"
      refine ⟨p, i, v, c, W, _, rfl, hv, Hd.mt (by walk_at "mt") hs, ?_⟩
      walk_at "run"
      refine ⟨v, rfl, ?_⟩
      walk_at "run"
      refine Sl.r_iteD (fun z => ?_) (fun z => ?_)
      · obtain ⟨r, hW, hR⟩ := rel.eq i v hv z
        have h16 := rel.sz i r hW
        walk_at "run"
        refine ⟨p, i, r, c, W, _, rfl, hW, Hd.mt (by walk_at "mt") hs, fun a H hs => ?_⟩
        obtain ⟨b, hb, hB⟩ := or_at hs (by walk_at "pull") hR
        walk_at "run"
        refine Sl.r_ixL (hs.sq (a := y) (by walk_at "pull")) (atI_nat hb) ?_
        refine Sl.r_neSame (.lst (hs.sq (a := a) (by walk_at "pull")) (dp_ints r)) (.lst (SqL.of hB) (dp_ints r)) (sh_listI r) (SeqAt.eqv_refl _ (SeqAt.canLay_of_shaped (sh_listI r))) ?_
        walk_at "run"
        refine Sl.r_setL (n := 3) hs (by walk_at "put") (by rw [List.length_map]; omega) fun H hs => ?_
        walk_at "run"
        exact ⟨_, _, _, rfl, Hd.mt (by walk_at "mt") hs⟩
      · walk_at "run"
        exact ⟨_, _, _, rfl, Hd.mt (by walk_at "mt") hs⟩
    · rintro σ H ⟨v3, v4, v5, rfl, hs⟩
      walk_at "run"
      refine ⟨p, c, W, _, rfl, by omega, Hd.mt (by walk_at "mt") hs, ?_⟩
      walk_at "run"
      refine ⟨k, c, 0, rfl, rfl, hs.sq (a := k) (by walk_at "pull"), ?_⟩
      walk_at "run"
      refine ⟨_, rfl, ?_⟩
      exact q _ (Hd.mt (by walk_at "mt") (lb_close hs))
end
section
variable {P : Program} {w : World} {K : PySem.W.Frag} {mg : Str → Option Value} {base : Heap}

theorem rel_new (m : Nat) (hm : m ≤ 256) : Rel (List.replicate m 0) (List.replicate m z16) (List.replicate m none) := by
  refine ⟨by simp, by simp, by simpa using hm, fun i r e => ?_, fun i v e hv => ?_⟩
  · rw [List.getElem?_replicate] at e
    split at e
    · cases e
      rfl
    · cases e
  · rw [List.getElem?_replicate] at e
    split at e
    · cases e
      exact (Int.lt_irrefl _ hv).elim
    · cases e
theorem lb_new {k y : Addr} {m : Nat} {L : List SA} {H : Hp} (h : Hd (pto k (.lst ((List.replicate m 0).map V.int)) :: pto y (.lst (List.replicate m .non)) :: L) H) : Hd (lawB k y (List.replicate m 0) (List.replicate m none) :: L) H := by
  have z := or_nones h m
  exact lb_close (z.swap.mono fun _ z => z.swap)

def sp_law (K : PySem.W.Frag) : Sp := fun vs H Q _ => ∃ (a : Addr) (ns : List Int), vs = [.ref a] ∧ ns.length ≤ 63 ∧ Hd [sql K a (ns.map V.int)] H ∧ ∀ H', Q (.bl true) H'
theorem ok_law (T : Txt K mg) : FnOk P w K mg base CX0 5 T.a_law T.d_law ["_law_script"] (sp_law K) := by
  refine T.f_law.ok sc_law (fun vs H Q E h => ?_) (fun cdv A outer s H vs Q E hr h => ?_)
  · obtain ⟨a, ns, rfl, _⟩ := h
    rfl
  · obtain ⟨a, ns, rfl, h⟩ := h
    refine ⟨_, (pss_cons (ps_set (i := 1) sc_law.nd rfl (by first | exact Or.inl rfl | exact Or.inr rfl) (pe_call (ok_law_state T) (hr.mono (by decide)) (by rfl) T.g_law_state T.f_law_state.kp T.b_law_state .nil pass0 (pa_cons (pv 0) (pa_cons pe_int pa_nil))))
       (pss_cons (ps_set (i := 2) sc_law.nd rfl (by first | exact Or.inl rfl | exact Or.inr rfl) (pe_ix (k_ix (K := K) rfl (hu_of hr)) (pe_lst (pa_cons (pe_call (ok_law_draw T) (hr.mono (by decide)) (by rfl) T.g_law_draw T.f_law_draw.kp T.b_law_draw .nil pass0 (pa_cons (pv 1) (pa_cons pe_int pa_nil))) (pa_cons (pe_call (ok_law_draw T) (hr.mono (by decide)) (by rfl) T.g_law_draw T.f_law_draw.kp T.b_law_draw .nil pass0 (pa_cons (pv 1) (pa_cons pe_int pa_nil))) (pa_cons pe_int pa_nil)))) (pe_call (ok_law_draw T) (hr.mono (by decide)) (by rfl) T.g_law_draw T.f_law_draw.kp T.b_law_draw .nil pass0 (pa_cons (pv 1) (pa_cons pe_int pa_nil))) (fun _ _ => rfl)))
       (pss_cons (ps_set (i := 3) sc_law.nd rfl (by first | exact Or.inl rfl | exact Or.inr rfl) (pe_make T.mk_Shelf (ok_Shelf_init T) (hr.mono (by decide)) (by rfl) T.g_Shelf T.b_Shelf_init .nil pass0 (pa_cons (pv 2) pa_nil)))
       (pss_cons (ps_set (i := 4) sc_law.nd rfl (by first | exact Or.inl rfl | exact Or.inr rfl) (pe_make T.mk_Shelf (ok_Shelf_init T) (hr.mono (by decide)) (by rfl) T.g_Shelf T.b_Shelf_init .nil pass0 (pa_cons (pv 2) pa_nil)))
       (pss_cons (ps_set (i := 5) sc_law.nd rfl (by first | exact Or.inl rfl | exact Or.inr rfl) (pe_op (k_mul (K := K) rfl) (pe_lst (pa_cons pe_int pa_nil)) (pv 2)))
       (pss_cons (ps_set (i := 6) sc_law.nd rfl (by first | exact Or.inl rfl | exact Or.inr rfl) (pe_op (k_mul (K := K) rfl) (pe_lst (pa_cons pe_non pa_nil)) (pv 2)))
       (pss_cons (ps_for PassesOwn.never rfl (pi_range2 (by rfl) T.n_range (pa_cons pe_int (pa_cons (pe_callB (u_max2 rfl) (by rfl) T.n_max (by decide +kernel) (pa_cons pe_int (pa_cons (pe_callB (u_min2 rfl) (by rfl) T.n_min (by decide +kernel) (pa_cons pe_int (pa_cons (pe_callB (k_len (K := K) rfl) (by rfl) T.n_len (by decide +kernel) (pa_cons (pv 0) pa_nil)) pa_nil))) pa_nil))) pa_nil))) (pg_name (i := 7) sc_law.nd rfl (by first | exact Or.inl rfl | exact Or.inr rfl))
        (pss_cons (ps_set (i := 1) sc_law.nd rfl (by first | exact Or.inl rfl | exact Or.inr rfl) (pe_call (ok_law_state T) (hr.mono (by decide)) (by rfl) T.g_law_state T.f_law_state.kp T.b_law_state .nil pass0 (pa_cons (pv 0) (pa_cons (pv 7) pa_nil))))
       (pss_cons (ps_for PassesOwn.never rfl (pi_range1 (by rfl) T.n_range (pa_cons pe_int pa_nil)) (pg_name (i := 8) sc_law.nd rfl (by first | exact Or.inl rfl | exact Or.inr rfl))
        (pss_one (ps_if (pt_not (pt_val (pe_call (ok_law_deed T) hr (by rfl) T.g_law_deed T.f_law_deed.kp T.b_law_deed .nil pass0 (pa_cons (pv 3) (pa_cons (pv 5) (pa_cons (pv 6) (pa_cons (pv 1) pa_nil)))))))
        (pss_one (ps_ret pe_bl))
        pss_nil)))
       (pss_one (ps_if (PW.pt (pw_or (pt_not (pt_val (pe_call (ok_law_stands T) (hr.mono (by decide)) (by rfl) T.g_law_stands T.f_law_stands.kp T.b_law_stands .nil pass0 (pa_cons (pv 3) (pa_cons (pv 5) (pa_cons (pv 6) pa_nil)))))) (pw_or1 (pt_not (pt_val (pe_call (ok_law_stands T) (hr.mono (by decide)) (by rfl) T.g_law_stands T.f_law_stands.kp T.b_law_stands .nil pass0 (pa_cons (pv 3) (pa_cons (pv 5) (pa_cons (pv 6) pa_nil)))))))))
        (pss_one (ps_ret pe_bl))
        pss_nil)))))
       (pss_one (ps_ret (pe_call (ok_law_stands T) (hr.mono (by decide)) (by rfl) T.g_law_stands T.f_law_stands.kp T.b_law_stands .nil pass0 (pa_cons (pv 4) (pa_cons (pe_op (k_mul (K := K) rfl) (pe_lst (pa_cons pe_int pa_nil)) (pv 2)) (pa_cons (pe_op (k_mul (K := K) rfl) (pe_lst (pa_cons pe_non pa_nil)) (pv 2)) pa_nil))))))))))))), ?_⟩
    try dsimp only [cxOf]
    obtain ⟨hl, hs, q⟩ := h
    walk_at "run"
    refine ⟨a, ns, 1, _, rfl, by decide, Hd.mt (by walk_at "mt") hs, fun d H hs => ?_⟩
    walk_at "run"
    refine ⟨d, 6, 0, _, rfl, ⟨by decide, by decide, by decide⟩, Hd.mt (by walk_at "mt") hs, fun x H x1 x2 hs => ?_⟩
    walk_at "run"
    refine ⟨d, 40, 1, _, rfl, ⟨by decide, by decide, by decide⟩, Hd.mt (by walk_at "mt") hs, fun y H y1 y2 hs => ?_⟩
    walk_at "run"
    refine ⟨d, 3, 2, _, rfl, ⟨by decide, by decide, by decide⟩, Hd.mt (by walk_at "mt") hs, fun z H z1 z2 hs => ?_⟩
    obtain ⟨v, hv, hat⟩ := pick3 (x := x) (y := y) (z := 256) z1 z2
    obtain ⟨m, rfl⟩ : ∃ m : Nat, v = (m : Int) := ⟨v.toNat, by omega⟩
    have hm : m ≤ 256 := by omega
    refine Sl.r_ixL (by walk_at "sq") hat ?_
    walk_at "run"
    obtain ⟨p, rfl⟩ : ∃ p, p = q_ := ⟨_, rfl⟩
    refine ⟨p, m, _, _, rfl, hm, Hd.mt (by walk_at "mt") hs, fun H hs => ⟨rfl, ?_⟩⟩
    walk_at "run"
    obtain ⟨p2, rfl⟩ : ∃ p2, p2 = q_ := ⟨_, rfl⟩
    refine ⟨p2, m, _, _, rfl, hm, Hd.mt (by walk_at "mt") hs, fun H hs => ⟨rfl, ?_⟩⟩
    walk_at "run"
    rw [rep_ints, rep_nones, Int.toNat_natCast] at hs
    rename_i k Hb q4 Hc
    obtain ⟨y2, rfl⟩ : ∃ y2, y2 = q_ := ⟨_, rfl⟩
    have hs : Hd (lawB k y2 (List.replicate m 0) (List.replicate m none) :: shA T.C_Shelf p (List.replicate m 0) (List.replicate m z16) :: shA T.C_Shelf p2 (List.replicate m 0) (List.replicate m z16) :: [sql K a (ns.map V.int)]) H := lb_new (Hd.mt (by walk_at "mt") hs)
    refine Sl.r_forR (fun i σ H => ∃ (v7 v8 : Option V) (d : Addr) (c : List Int) (W : List (List Int)) (R : List (Option (List Int))), σ = [some (.ref a), some (.ref d), some (.int (m : Int)), some (.ref p), some (.ref p2), some (.ref k), some (.ref y2), v7, v8] ∧ Rel c W R ∧ Hd (shA T.C_Shelf p c W :: lawB k y2 c R :: shA T.C_Shelf p2 (List.replicate m 0) (List.replicate m z16) :: [sql K a (ns.map V.int)]) H) ?_ ?_ ?_
    · exact ⟨none, none, d, _, _, _, rfl, rel_new m hm, Hd.mt (by walk_at "mt") hs⟩
    · rintro i σ H hi ⟨v7, v8, d, c, W, R, rfl, rel, hs⟩
      have hi : i < 63 := by
        simp only [List.length_map] at hi
        split at hi <;> split at hi <;> omega
      walk_at "run"
      refine ⟨a, ns, i + 2, _, congrArg (fun z : Int => [V.ref a, V.int z]) (by omega), by omega, Hd.mt (by walk_at "mt") hs, fun d H hs => ?_⟩
      walk_at "run"
      refine Sl.r_forR (fun j σ H => ∃ (v8 : Option V) (c : List Int) (W : List (List Int)) (R : List (Option (List Int))) (n : Nat), σ = [some (.ref a), some (.ref d), some (.int (m : Int)), some (.ref p), some (.ref p2), some (.ref k), some (.ref y2), some (.int (2 + (i : Nat))), v8] ∧ Rel c W R ∧ n ≤ 40 * j ∧ Hd (shA T.C_Shelf p c W :: lawB k y2 c R :: stA d n :: shA T.C_Shelf p2 (List.replicate m 0) (List.replicate m z16) :: [sql K a (ns.map V.int)]) H) ?_ ?_ ?_
      · exact ⟨v8, c, W, R, 0, rfl, rel, Nat.le_refl 0, Hd.mt (by walk_at "mt") hs⟩
      · rintro j σ H hj ⟨v8, c, W, R, n, rfl, rel, hn, hs⟩
        have hj : j < 3 := hj
        walk_at "run"
        refine ⟨p, k, y2, d, n, c, W, R, _, rfl, ⟨rel, by omega⟩, Hd.mt (by walk_at "mt") hs, fun c W R H rel hs => ?_⟩
        walk_at "run"
        exact ⟨_, c, W, R, n + 40, rfl, rel, by omega, hs⟩
      · rintro σ H ⟨v8, c, W, R, n, rfl, rel, hn, hs⟩
        walk_at "run"
        refine ⟨p, k, y2, c, W, R, _, rfl, rel, Hd.mt (by walk_at "mt") hs, fun H hs => ?_⟩
        walk_at "run"
        refine ⟨p, k, y2, c, W, R, _, rfl, rel, Hd.mt (by walk_at "mt") hs, fun H hs => ?_⟩
        walk_at "run"
        exact ⟨_, _, d, c, W, R, rfl, rel, Hd.mt (by walk_at "mt") hs⟩
    · rintro σ H ⟨v7, v8, d, c, W, R, rfl, rel, hs⟩
      walk_at "run"
      rw [rep_ints, rep_nones, Int.toNat_natCast] at hs
      rename_i k3 Hb q4 Hc
      refine ⟨p2, k3, q_, List.replicate m 0, List.replicate m z16, List.replicate m none, [], rfl, rel_new m hm, ?_, fun H hs => q _⟩
      have hs : Hd (lawB k3 q_ (List.replicate m 0) (List.replicate m none) :: shA T.C_Shelf p2 (List.replicate m 0) (List.replicate m z16) :: []) H := lb_new (Hd.mt (by walk_at "mt") hs)
      exact hs.swap
end
theorem all_mk {l : PySem.W.OpenLaw} {w : World} {K : PySem.W.Frag} {h : Heap} {mg : Str → Option Value} {fa : Addr} (X : K.In h) (G : h.Ns mainGlobals mg) (hfa : mg "law" = some (.ref fa))
    {C_Shelf : Addr} {a_is_among : Addr} {od_is_among an_is_among : Option Addr} {sl_is_among : Array (Option Value)} {oc_is_among kV_is_among dc_is_among pm_is_among cd_is_among ct_is_among : Value} {a_Shelf_init : Addr} {od_Shelf_init an_Shelf_init : Option Addr} {sl_Shelf_init : Array (Option Value)} {oc_Shelf_init kV_Shelf_init dc_Shelf_init pm_Shelf_init cd_Shelf_init ct_Shelf_init : Value} {a_Shelf_take : Addr} {od_Shelf_take an_Shelf_take : Option Addr} {sl_Shelf_take : Array (Option Value)} {oc_Shelf_take kV_Shelf_take dc_Shelf_take pm_Shelf_take cd_Shelf_take ct_Shelf_take : Value} {a_Shelf_hold : Addr} {od_Shelf_hold an_Shelf_hold : Option Addr} {sl_Shelf_hold : Array (Option Value)} {oc_Shelf_hold kV_Shelf_hold dc_Shelf_hold pm_Shelf_hold cd_Shelf_hold ct_Shelf_hold : Value} {a_Shelf_drop : Addr} {od_Shelf_drop an_Shelf_drop : Option Addr} {sl_Shelf_drop : Array (Option Value)} {oc_Shelf_drop kV_Shelf_drop dc_Shelf_drop pm_Shelf_drop cd_Shelf_drop ct_Shelf_drop : Value} {a_Shelf_held : Addr} {od_Shelf_held an_Shelf_held : Option Addr} {sl_Shelf_held : Array (Option Value)} {oc_Shelf_held kV_Shelf_held dc_Shelf_held pm_Shelf_held cd_Shelf_held ct_Shelf_held : Value} {a_Shelf_free : Addr} {od_Shelf_free an_Shelf_free : Option Addr} {sl_Shelf_free : Array (Option Value)} {oc_Shelf_free kV_Shelf_free dc_Shelf_free pm_Shelf_free cd_Shelf_free ct_Shelf_free : Value} {a_Shelf_words_at : Addr} {od_Shelf_words_at an_Shelf_words_at : Option Addr} {sl_Shelf_words_at : Array (Option Value)} {oc_Shelf_words_at kV_Shelf_words_at dc_Shelf_words_at pm_Shelf_words_at cd_Shelf_words_at ct_Shelf_words_at : Value} {a_Shelf_put_words : Addr} {od_Shelf_put_words an_Shelf_put_words : Option Addr} {sl_Shelf_put_words : Array (Option Value)} {oc_Shelf_put_words kV_Shelf_put_words dc_Shelf_put_words pm_Shelf_put_words cd_Shelf_put_words ct_Shelf_put_words : Value} {a_law_cell_at : Addr} {od_law_cell_at an_law_cell_at : Option Addr} {sl_law_cell_at : Array (Option Value)} {oc_law_cell_at kV_law_cell_at dc_law_cell_at pm_law_cell_at cd_law_cell_at ct_law_cell_at : Value} {a_law_mixed : Addr} {od_law_mixed an_law_mixed : Option Addr} {sl_law_mixed : Array (Option Value)} {oc_law_mixed kV_law_mixed dc_law_mixed pm_law_mixed cd_law_mixed ct_law_mixed : Value} {a_law_state : Addr} {od_law_state an_law_state : Option Addr} {sl_law_state : Array (Option Value)} {oc_law_state kV_law_state dc_law_state pm_law_state cd_law_state ct_law_state : Value} {a_law_draw : Addr} {od_law_draw an_law_draw : Option Addr} {sl_law_draw : Array (Option Value)} {oc_law_draw kV_law_draw dc_law_draw pm_law_draw cd_law_draw ct_law_draw : Value} {a_law_is_number : Addr} {od_law_is_number an_law_is_number : Option Addr} {sl_law_is_number : Array (Option Value)} {oc_law_is_number kV_law_is_number dc_law_is_number pm_law_is_number cd_law_is_number ct_law_is_number : Value} {a_law_taken : Addr} {od_law_taken an_law_taken : Option Addr} {sl_law_taken : Array (Option Value)} {oc_law_taken kV_law_taken dc_law_taken pm_law_taken cd_law_taken ct_law_taken : Value} {a_law_words : Addr} {od_law_words an_law_words : Option Addr} {sl_law_words : Array (Option Value)} {oc_law_words kV_law_words dc_law_words pm_law_words cd_law_words ct_law_words : Value} {a_law_deed : Addr} {od_law_deed an_law_deed : Option Addr} {sl_law_deed : Array (Option Value)} {oc_law_deed kV_law_deed dc_law_deed pm_law_deed cd_law_deed ct_law_deed : Value} {a_law_stands : Addr} {od_law_stands an_law_stands : Option Addr} {sl_law_stands : Array (Option Value)} {oc_law_stands kV_law_stands dc_law_stands pm_law_stands cd_law_stands ct_law_stands : Value} {a_law : Addr} {od_law an_law : Option Addr} {sl_law : Array (Option Value)} {oc_law kV_law dc_law pm_law cd_law ct_law : Value} {t_MOST_PLACES : Tok} {t_PAGE : Tok}
    (h1_Shelf : PySem.W.nsIn K mainGlobals "Shelf" = some (some (.ref C_Shelf)))
    (h2_Shelf : PySem.W.plainGet K C_Shelf Str.empty = true)
    (h3_Shelf : PySem.W.hasDictIn K C_Shelf = true)
    (h4_Shelf : PySem.W.plainOver K C_Shelf = true)
    (h5_Shelf : PySem.W.findIn K (.ref C_Shelf) "__setattr__" = some (some (.builtin "object.__setattr__")))
    (h6_Shelf : PySem.W.makesIn K C_Shelf = true)
    (h7_Shelf : PySem.W.keepIn K (.ref C_Shelf) = true)
    (n_Shelf_counts : PySem.W.findIn K (.ref C_Shelf) "counts" = some none)
    (n_Shelf_contents : PySem.W.findIn K (.ref C_Shelf) "contents" = some none)
    (g_is_among : PySem.W.nsIn K mainGlobals "is_among" = some (some (.ref a_is_among)))
    (l_is_among : K.lookup a_is_among = some ⟨oc_is_among, od_is_among, .func (PySem.W.fnOf "is_among" "is_among" (defArgs s_is_among) (defBody s_is_among) (defScope s_is_among) .none kV_is_among dc_is_among pm_is_among an_is_among cd_is_among ct_is_among), sl_is_among⟩)
    (c_is_among : PySem.W.codeIn K cd_is_among "is_among" = true)
    (k_is_among : PySem.W.keepIn K (.ref a_is_among) = true)
    (g_Shelf_init : PySem.W.findIn K (.ref C_Shelf) "__init__" = some (some (.ref a_Shelf_init)))
    (i_Shelf_init : PySem.W.isFn K (.ref a_Shelf_init) = true)
    (l_Shelf_init : K.lookup a_Shelf_init = some ⟨oc_Shelf_init, od_Shelf_init, .func (PySem.W.fnOf "__init__" "Shelf.__init__" (defArgs s_Shelf_init) (defBody s_Shelf_init) (defScope s_Shelf_init) .none kV_Shelf_init dc_Shelf_init pm_Shelf_init an_Shelf_init cd_Shelf_init ct_Shelf_init), sl_Shelf_init⟩)
    (c_Shelf_init : PySem.W.codeIn K cd_Shelf_init "Shelf.__init__" = true)
    (k_Shelf_init : PySem.W.keepIn K (.ref a_Shelf_init) = true)
    (g_Shelf_take : PySem.W.findIn K (.ref C_Shelf) "take" = some (some (.ref a_Shelf_take)))
    (i_Shelf_take : PySem.W.isFn K (.ref a_Shelf_take) = true)
    (l_Shelf_take : K.lookup a_Shelf_take = some ⟨oc_Shelf_take, od_Shelf_take, .func (PySem.W.fnOf "take" "Shelf.take" (defArgs s_Shelf_take) (defBody s_Shelf_take) (defScope s_Shelf_take) .none kV_Shelf_take dc_Shelf_take pm_Shelf_take an_Shelf_take cd_Shelf_take ct_Shelf_take), sl_Shelf_take⟩)
    (c_Shelf_take : PySem.W.codeIn K cd_Shelf_take "Shelf.take" = true)
    (k_Shelf_take : PySem.W.keepIn K (.ref a_Shelf_take) = true)
    (g_Shelf_hold : PySem.W.findIn K (.ref C_Shelf) "hold" = some (some (.ref a_Shelf_hold)))
    (i_Shelf_hold : PySem.W.isFn K (.ref a_Shelf_hold) = true)
    (l_Shelf_hold : K.lookup a_Shelf_hold = some ⟨oc_Shelf_hold, od_Shelf_hold, .func (PySem.W.fnOf "hold" "Shelf.hold" (defArgs s_Shelf_hold) (defBody s_Shelf_hold) (defScope s_Shelf_hold) .none kV_Shelf_hold dc_Shelf_hold pm_Shelf_hold an_Shelf_hold cd_Shelf_hold ct_Shelf_hold), sl_Shelf_hold⟩)
    (c_Shelf_hold : PySem.W.codeIn K cd_Shelf_hold "Shelf.hold" = true)
    (k_Shelf_hold : PySem.W.keepIn K (.ref a_Shelf_hold) = true)
    (g_Shelf_drop : PySem.W.findIn K (.ref C_Shelf) "drop" = some (some (.ref a_Shelf_drop)))
    (i_Shelf_drop : PySem.W.isFn K (.ref a_Shelf_drop) = true)
    (l_Shelf_drop : K.lookup a_Shelf_drop = some ⟨oc_Shelf_drop, od_Shelf_drop, .func (PySem.W.fnOf "drop" "Shelf.drop" (defArgs s_Shelf_drop) (defBody s_Shelf_drop) (defScope s_Shelf_drop) .none kV_Shelf_drop dc_Shelf_drop pm_Shelf_drop an_Shelf_drop cd_Shelf_drop ct_Shelf_drop), sl_Shelf_drop⟩)
    (c_Shelf_drop : PySem.W.codeIn K cd_Shelf_drop "Shelf.drop" = true)
    (k_Shelf_drop : PySem.W.keepIn K (.ref a_Shelf_drop) = true)
    (g_Shelf_held : PySem.W.findIn K (.ref C_Shelf) "held" = some (some (.ref a_Shelf_held)))
    (i_Shelf_held : PySem.W.isFn K (.ref a_Shelf_held) = true)
    (l_Shelf_held : K.lookup a_Shelf_held = some ⟨oc_Shelf_held, od_Shelf_held, .func (PySem.W.fnOf "held" "Shelf.held" (defArgs s_Shelf_held) (defBody s_Shelf_held) (defScope s_Shelf_held) .none kV_Shelf_held dc_Shelf_held pm_Shelf_held an_Shelf_held cd_Shelf_held ct_Shelf_held), sl_Shelf_held⟩)
    (c_Shelf_held : PySem.W.codeIn K cd_Shelf_held "Shelf.held" = true)
    (k_Shelf_held : PySem.W.keepIn K (.ref a_Shelf_held) = true)
    (g_Shelf_free : PySem.W.findIn K (.ref C_Shelf) "free" = some (some (.ref a_Shelf_free)))
    (i_Shelf_free : PySem.W.isFn K (.ref a_Shelf_free) = true)
    (l_Shelf_free : K.lookup a_Shelf_free = some ⟨oc_Shelf_free, od_Shelf_free, .func (PySem.W.fnOf "free" "Shelf.free" (defArgs s_Shelf_free) (defBody s_Shelf_free) (defScope s_Shelf_free) .none kV_Shelf_free dc_Shelf_free pm_Shelf_free an_Shelf_free cd_Shelf_free ct_Shelf_free), sl_Shelf_free⟩)
    (c_Shelf_free : PySem.W.codeIn K cd_Shelf_free "Shelf.free" = true)
    (k_Shelf_free : PySem.W.keepIn K (.ref a_Shelf_free) = true)
    (g_Shelf_words_at : PySem.W.findIn K (.ref C_Shelf) "words_at" = some (some (.ref a_Shelf_words_at)))
    (i_Shelf_words_at : PySem.W.isFn K (.ref a_Shelf_words_at) = true)
    (l_Shelf_words_at : K.lookup a_Shelf_words_at = some ⟨oc_Shelf_words_at, od_Shelf_words_at, .func (PySem.W.fnOf "words_at" "Shelf.words_at" (defArgs s_Shelf_words_at) (defBody s_Shelf_words_at) (defScope s_Shelf_words_at) .none kV_Shelf_words_at dc_Shelf_words_at pm_Shelf_words_at an_Shelf_words_at cd_Shelf_words_at ct_Shelf_words_at), sl_Shelf_words_at⟩)
    (c_Shelf_words_at : PySem.W.codeIn K cd_Shelf_words_at "Shelf.words_at" = true)
    (k_Shelf_words_at : PySem.W.keepIn K (.ref a_Shelf_words_at) = true)
    (g_Shelf_put_words : PySem.W.findIn K (.ref C_Shelf) "put_words" = some (some (.ref a_Shelf_put_words)))
    (i_Shelf_put_words : PySem.W.isFn K (.ref a_Shelf_put_words) = true)
    (l_Shelf_put_words : K.lookup a_Shelf_put_words = some ⟨oc_Shelf_put_words, od_Shelf_put_words, .func (PySem.W.fnOf "put_words" "Shelf.put_words" (defArgs s_Shelf_put_words) (defBody s_Shelf_put_words) (defScope s_Shelf_put_words) .none kV_Shelf_put_words dc_Shelf_put_words pm_Shelf_put_words an_Shelf_put_words cd_Shelf_put_words ct_Shelf_put_words), sl_Shelf_put_words⟩)
    (c_Shelf_put_words : PySem.W.codeIn K cd_Shelf_put_words "Shelf.put_words" = true)
    (k_Shelf_put_words : PySem.W.keepIn K (.ref a_Shelf_put_words) = true)
    (g_law_cell_at : PySem.W.nsIn K mainGlobals "_law_cell_at" = some (some (.ref a_law_cell_at)))
    (l_law_cell_at : K.lookup a_law_cell_at = some ⟨oc_law_cell_at, od_law_cell_at, .func (PySem.W.fnOf "_law_cell_at" "_law_cell_at" (defArgs s_law_cell_at) (defBody s_law_cell_at) (defScope s_law_cell_at) .none kV_law_cell_at dc_law_cell_at pm_law_cell_at an_law_cell_at cd_law_cell_at ct_law_cell_at), sl_law_cell_at⟩)
    (c_law_cell_at : PySem.W.codeIn K cd_law_cell_at "_law_cell_at" = true)
    (k_law_cell_at : PySem.W.keepIn K (.ref a_law_cell_at) = true)
    (g_law_mixed : PySem.W.nsIn K mainGlobals "_law_mixed" = some (some (.ref a_law_mixed)))
    (l_law_mixed : K.lookup a_law_mixed = some ⟨oc_law_mixed, od_law_mixed, .func (PySem.W.fnOf "_law_mixed" "_law_mixed" (defArgs s_law_mixed) (defBody s_law_mixed) (defScope s_law_mixed) .none kV_law_mixed dc_law_mixed pm_law_mixed an_law_mixed cd_law_mixed ct_law_mixed), sl_law_mixed⟩)
    (c_law_mixed : PySem.W.codeIn K cd_law_mixed "_law_mixed" = true)
    (k_law_mixed : PySem.W.keepIn K (.ref a_law_mixed) = true)
    (g_law_state : PySem.W.nsIn K mainGlobals "_law_state" = some (some (.ref a_law_state)))
    (l_law_state : K.lookup a_law_state = some ⟨oc_law_state, od_law_state, .func (PySem.W.fnOf "_law_state" "_law_state" (defArgs s_law_state) (defBody s_law_state) (defScope s_law_state) .none kV_law_state dc_law_state pm_law_state an_law_state cd_law_state ct_law_state), sl_law_state⟩)
    (c_law_state : PySem.W.codeIn K cd_law_state "_law_state" = true)
    (k_law_state : PySem.W.keepIn K (.ref a_law_state) = true)
    (g_law_draw : PySem.W.nsIn K mainGlobals "_law_draw" = some (some (.ref a_law_draw)))
    (l_law_draw : K.lookup a_law_draw = some ⟨oc_law_draw, od_law_draw, .func (PySem.W.fnOf "_law_draw" "_law_draw" (defArgs s_law_draw) (defBody s_law_draw) (defScope s_law_draw) .none kV_law_draw dc_law_draw pm_law_draw an_law_draw cd_law_draw ct_law_draw), sl_law_draw⟩)
    (c_law_draw : PySem.W.codeIn K cd_law_draw "_law_draw" = true)
    (k_law_draw : PySem.W.keepIn K (.ref a_law_draw) = true)
    (g_law_is_number : PySem.W.nsIn K mainGlobals "_law_is_number" = some (some (.ref a_law_is_number)))
    (l_law_is_number : K.lookup a_law_is_number = some ⟨oc_law_is_number, od_law_is_number, .func (PySem.W.fnOf "_law_is_number" "_law_is_number" (defArgs s_law_is_number) (defBody s_law_is_number) (defScope s_law_is_number) .none kV_law_is_number dc_law_is_number pm_law_is_number an_law_is_number cd_law_is_number ct_law_is_number), sl_law_is_number⟩)
    (c_law_is_number : PySem.W.codeIn K cd_law_is_number "_law_is_number" = true)
    (k_law_is_number : PySem.W.keepIn K (.ref a_law_is_number) = true)
    (g_law_taken : PySem.W.nsIn K mainGlobals "_law_taken" = some (some (.ref a_law_taken)))
    (l_law_taken : K.lookup a_law_taken = some ⟨oc_law_taken, od_law_taken, .func (PySem.W.fnOf "_law_taken" "_law_taken" (defArgs s_law_taken) (defBody s_law_taken) (defScope s_law_taken) .none kV_law_taken dc_law_taken pm_law_taken an_law_taken cd_law_taken ct_law_taken), sl_law_taken⟩)
    (c_law_taken : PySem.W.codeIn K cd_law_taken "_law_taken" = true)
    (k_law_taken : PySem.W.keepIn K (.ref a_law_taken) = true)
    (g_law_words : PySem.W.nsIn K mainGlobals "_law_words" = some (some (.ref a_law_words)))
    (l_law_words : K.lookup a_law_words = some ⟨oc_law_words, od_law_words, .func (PySem.W.fnOf "_law_words" "_law_words" (defArgs s_law_words) (defBody s_law_words) (defScope s_law_words) .none kV_law_words dc_law_words pm_law_words an_law_words cd_law_words ct_law_words), sl_law_words⟩)
    (c_law_words : PySem.W.codeIn K cd_law_words "_law_words" = true)
    (k_law_words : PySem.W.keepIn K (.ref a_law_words) = true)
    (g_law_deed : PySem.W.nsIn K mainGlobals "_law_deed" = some (some (.ref a_law_deed)))
    (l_law_deed : K.lookup a_law_deed = some ⟨oc_law_deed, od_law_deed, .func (PySem.W.fnOf "_law_deed" "_law_deed" (defArgs s_law_deed) (defBody s_law_deed) (defScope s_law_deed) .none kV_law_deed dc_law_deed pm_law_deed an_law_deed cd_law_deed ct_law_deed), sl_law_deed⟩)
    (c_law_deed : PySem.W.codeIn K cd_law_deed "_law_deed" = true)
    (k_law_deed : PySem.W.keepIn K (.ref a_law_deed) = true)
    (g_law_stands : PySem.W.nsIn K mainGlobals "_law_stands" = some (some (.ref a_law_stands)))
    (l_law_stands : K.lookup a_law_stands = some ⟨oc_law_stands, od_law_stands, .func (PySem.W.fnOf "_law_stands" "_law_stands" (defArgs s_law_stands) (defBody s_law_stands) (defScope s_law_stands) .none kV_law_stands dc_law_stands pm_law_stands an_law_stands cd_law_stands ct_law_stands), sl_law_stands⟩)
    (c_law_stands : PySem.W.codeIn K cd_law_stands "_law_stands" = true)
    (k_law_stands : PySem.W.keepIn K (.ref a_law_stands) = true)
    (g_law : PySem.W.nsIn K mainGlobals "law" = some (some (.ref a_law)))
    (l_law : K.lookup a_law = some ⟨oc_law, od_law, .func (PySem.W.fnOf "law" "law" (defArgs s_law) (defBody s_law) (defScope s_law) .none kV_law dc_law pm_law an_law cd_law ct_law), sl_law⟩)
    (c_law : PySem.W.codeIn K cd_law "law" = true)
    (k_law : PySem.W.keepIn K (.ref a_law) = true)
    (g_MOST_PLACES : PySem.W.nsIn K mainGlobals "MOST_PLACES" = some (some (.int 256 t_MOST_PLACES)))
    (g_PAGE : PySem.W.nsIn K mainGlobals "PAGE" = some (some (.int 16 t_PAGE)))
    (n_abs : PySem.W.nsIn K mainGlobals "abs" = some none)
    (n_bool : PySem.W.nsIn K mainGlobals "bool" = some none)
    (n_enumerate : PySem.W.nsIn K mainGlobals "enumerate" = some none)
    (n_int : PySem.W.nsIn K mainGlobals "int" = some none)
    (n_isinstance : PySem.W.nsIn K mainGlobals "isinstance" = some none)
    (n_len : PySem.W.nsIn K mainGlobals "len" = some none)
    (n_list : PySem.W.nsIn K mainGlobals "list" = some none)
    (n_max : PySem.W.nsIn K mainGlobals "max" = some none)
    (n_min : PySem.W.nsIn K mainGlobals "min" = some none)
    (n_range : PySem.W.nsIn K mainGlobals "range" = some none) :
    ∃ fd : FuncData, (∀ (s : Shared) (v : Value), BindsTo s fd ⟨[v], []⟩ [("_law_script", v)]) ∧ ∀ base : Heap, K.In base → base.Ns mainGlobals mg → FnOk l.prog w K mg base CX0 5 fa fd ["_law_script"] (sp_law K) := by
  have e := hfa.symm.trans (PySem.W.mg_of X G g_law)
  cases e
  have T : ∃ T : Txt K mg, T.a_law = fa ∧ T.d_law = (PySem.W.fnOf "law" "law" (defArgs s_law) (defBody s_law) (defScope s_law) .none kV_law dc_law pm_law an_law cd_law ct_law) := ⟨{
    C_Shelf := C_Shelf,
    cl_Shelf := ⟨h2_Shelf, h3_Shelf, h4_Shelf, h5_Shelf⟩,
    g_Shelf := PySem.W.mg_of X G h1_Shelf,
    n_Shelf_counts := n_Shelf_counts,
    n_Shelf_contents := n_Shelf_contents,
    a_is_among := a_is_among,
    d_is_among := (PySem.W.fnOf "is_among" "is_among" (defArgs s_is_among) (defBody s_is_among) (defScope s_is_among) .none kV_is_among dc_is_among pm_is_among an_is_among cd_is_among ct_is_among),
    f_is_among := fun_mk (st := s_is_among) l_is_among c_is_among k_is_among,
    b_is_among := (fun_mk (st := s_is_among) l_is_among c_is_among k_is_among).binds (ps := ["thing", "least", "most"]) fun _ _ _ _ _ _ us hl => match us, hl with | [_, _, _], _ => rfl,
    g_is_among := PySem.W.mg_of X G g_is_among,
    a_Shelf_init := a_Shelf_init,
    d_Shelf_init := (PySem.W.fnOf "__init__" "Shelf.__init__" (defArgs s_Shelf_init) (defBody s_Shelf_init) (defScope s_Shelf_init) .none kV_Shelf_init dc_Shelf_init pm_Shelf_init an_Shelf_init cd_Shelf_init ct_Shelf_init),
    f_Shelf_init := fun_mk (st := s_Shelf_init) l_Shelf_init c_Shelf_init k_Shelf_init,
    b_Shelf_init := (fun_mk (st := s_Shelf_init) l_Shelf_init c_Shelf_init k_Shelf_init).binds (ps := ["self", "many"]) fun _ _ _ _ _ _ us hl => match us, hl with | [_, _], _ => rfl,
    mk_Shelf := ⟨h6_Shelf, g_Shelf_init, i_Shelf_init, h7_Shelf⟩,
    a_Shelf_take := a_Shelf_take,
    d_Shelf_take := (PySem.W.fnOf "take" "Shelf.take" (defArgs s_Shelf_take) (defBody s_Shelf_take) (defScope s_Shelf_take) .none kV_Shelf_take dc_Shelf_take pm_Shelf_take an_Shelf_take cd_Shelf_take ct_Shelf_take),
    f_Shelf_take := fun_mk (st := s_Shelf_take) l_Shelf_take c_Shelf_take k_Shelf_take,
    b_Shelf_take := (fun_mk (st := s_Shelf_take) l_Shelf_take c_Shelf_take k_Shelf_take).binds (ps := ["self"]) fun _ _ _ _ _ _ us hl => match us, hl with | [_], _ => rfl,
    m_Shelf_take := ⟨g_Shelf_take, i_Shelf_take, k_Shelf_take⟩,
    a_Shelf_hold := a_Shelf_hold,
    d_Shelf_hold := (PySem.W.fnOf "hold" "Shelf.hold" (defArgs s_Shelf_hold) (defBody s_Shelf_hold) (defScope s_Shelf_hold) .none kV_Shelf_hold dc_Shelf_hold pm_Shelf_hold an_Shelf_hold cd_Shelf_hold ct_Shelf_hold),
    f_Shelf_hold := fun_mk (st := s_Shelf_hold) l_Shelf_hold c_Shelf_hold k_Shelf_hold,
    b_Shelf_hold := (fun_mk (st := s_Shelf_hold) l_Shelf_hold c_Shelf_hold k_Shelf_hold).binds (ps := ["self", "at"]) fun _ _ _ _ _ _ us hl => match us, hl with | [_, _], _ => rfl,
    m_Shelf_hold := ⟨g_Shelf_hold, i_Shelf_hold, k_Shelf_hold⟩,
    a_Shelf_drop := a_Shelf_drop,
    d_Shelf_drop := (PySem.W.fnOf "drop" "Shelf.drop" (defArgs s_Shelf_drop) (defBody s_Shelf_drop) (defScope s_Shelf_drop) .none kV_Shelf_drop dc_Shelf_drop pm_Shelf_drop an_Shelf_drop cd_Shelf_drop ct_Shelf_drop),
    f_Shelf_drop := fun_mk (st := s_Shelf_drop) l_Shelf_drop c_Shelf_drop k_Shelf_drop,
    b_Shelf_drop := (fun_mk (st := s_Shelf_drop) l_Shelf_drop c_Shelf_drop k_Shelf_drop).binds (ps := ["self", "at"]) fun _ _ _ _ _ _ us hl => match us, hl with | [_, _], _ => rfl,
    m_Shelf_drop := ⟨g_Shelf_drop, i_Shelf_drop, k_Shelf_drop⟩,
    a_Shelf_held := a_Shelf_held,
    d_Shelf_held := (PySem.W.fnOf "held" "Shelf.held" (defArgs s_Shelf_held) (defBody s_Shelf_held) (defScope s_Shelf_held) .none kV_Shelf_held dc_Shelf_held pm_Shelf_held an_Shelf_held cd_Shelf_held ct_Shelf_held),
    f_Shelf_held := fun_mk (st := s_Shelf_held) l_Shelf_held c_Shelf_held k_Shelf_held,
    b_Shelf_held := (fun_mk (st := s_Shelf_held) l_Shelf_held c_Shelf_held k_Shelf_held).binds (ps := ["self", "at"]) fun _ _ _ _ _ _ us hl => match us, hl with | [_, _], _ => rfl,
    m_Shelf_held := ⟨g_Shelf_held, i_Shelf_held, k_Shelf_held⟩,
    a_Shelf_free := a_Shelf_free,
    d_Shelf_free := (PySem.W.fnOf "free" "Shelf.free" (defArgs s_Shelf_free) (defBody s_Shelf_free) (defScope s_Shelf_free) .none kV_Shelf_free dc_Shelf_free pm_Shelf_free an_Shelf_free cd_Shelf_free ct_Shelf_free),
    f_Shelf_free := fun_mk (st := s_Shelf_free) l_Shelf_free c_Shelf_free k_Shelf_free,
    b_Shelf_free := (fun_mk (st := s_Shelf_free) l_Shelf_free c_Shelf_free k_Shelf_free).binds (ps := ["self"]) fun _ _ _ _ _ _ us hl => match us, hl with | [_], _ => rfl,
    m_Shelf_free := ⟨g_Shelf_free, i_Shelf_free, k_Shelf_free⟩,
    a_Shelf_words_at := a_Shelf_words_at,
    d_Shelf_words_at := (PySem.W.fnOf "words_at" "Shelf.words_at" (defArgs s_Shelf_words_at) (defBody s_Shelf_words_at) (defScope s_Shelf_words_at) .none kV_Shelf_words_at dc_Shelf_words_at pm_Shelf_words_at an_Shelf_words_at cd_Shelf_words_at ct_Shelf_words_at),
    f_Shelf_words_at := fun_mk (st := s_Shelf_words_at) l_Shelf_words_at c_Shelf_words_at k_Shelf_words_at,
    b_Shelf_words_at := (fun_mk (st := s_Shelf_words_at) l_Shelf_words_at c_Shelf_words_at k_Shelf_words_at).binds (ps := ["self", "at"]) fun _ _ _ _ _ _ us hl => match us, hl with | [_, _], _ => rfl,
    m_Shelf_words_at := ⟨g_Shelf_words_at, i_Shelf_words_at, k_Shelf_words_at⟩,
    a_Shelf_put_words := a_Shelf_put_words,
    d_Shelf_put_words := (PySem.W.fnOf "put_words" "Shelf.put_words" (defArgs s_Shelf_put_words) (defBody s_Shelf_put_words) (defScope s_Shelf_put_words) .none kV_Shelf_put_words dc_Shelf_put_words pm_Shelf_put_words an_Shelf_put_words cd_Shelf_put_words ct_Shelf_put_words),
    f_Shelf_put_words := fun_mk (st := s_Shelf_put_words) l_Shelf_put_words c_Shelf_put_words k_Shelf_put_words,
    b_Shelf_put_words := (fun_mk (st := s_Shelf_put_words) l_Shelf_put_words c_Shelf_put_words k_Shelf_put_words).binds (ps := ["self", "at", "words"]) fun _ _ _ _ _ _ us hl => match us, hl with | [_, _, _], _ => rfl,
    m_Shelf_put_words := ⟨g_Shelf_put_words, i_Shelf_put_words, k_Shelf_put_words⟩,
    a_law_cell_at := a_law_cell_at,
    d_law_cell_at := (PySem.W.fnOf "_law_cell_at" "_law_cell_at" (defArgs s_law_cell_at) (defBody s_law_cell_at) (defScope s_law_cell_at) .none kV_law_cell_at dc_law_cell_at pm_law_cell_at an_law_cell_at cd_law_cell_at ct_law_cell_at),
    f_law_cell_at := fun_mk (st := s_law_cell_at) l_law_cell_at c_law_cell_at k_law_cell_at,
    b_law_cell_at := (fun_mk (st := s_law_cell_at) l_law_cell_at c_law_cell_at k_law_cell_at).binds (ps := ["_law_script", "_law_k"]) fun _ _ _ _ _ _ us hl => match us, hl with | [_, _], _ => rfl,
    g_law_cell_at := PySem.W.mg_of X G g_law_cell_at,
    a_law_mixed := a_law_mixed,
    d_law_mixed := (PySem.W.fnOf "_law_mixed" "_law_mixed" (defArgs s_law_mixed) (defBody s_law_mixed) (defScope s_law_mixed) .none kV_law_mixed dc_law_mixed pm_law_mixed an_law_mixed cd_law_mixed ct_law_mixed),
    f_law_mixed := fun_mk (st := s_law_mixed) l_law_mixed c_law_mixed k_law_mixed,
    b_law_mixed := (fun_mk (st := s_law_mixed) l_law_mixed c_law_mixed k_law_mixed).binds (ps := ["_law_cell", "_law_k"]) fun _ _ _ _ _ _ us hl => match us, hl with | [_, _], _ => rfl,
    g_law_mixed := PySem.W.mg_of X G g_law_mixed,
    a_law_state := a_law_state,
    d_law_state := (PySem.W.fnOf "_law_state" "_law_state" (defArgs s_law_state) (defBody s_law_state) (defScope s_law_state) .none kV_law_state dc_law_state pm_law_state an_law_state cd_law_state ct_law_state),
    f_law_state := fun_mk (st := s_law_state) l_law_state c_law_state k_law_state,
    b_law_state := (fun_mk (st := s_law_state) l_law_state c_law_state k_law_state).binds (ps := ["_law_script", "_law_k"]) fun _ _ _ _ _ _ us hl => match us, hl with | [_, _], _ => rfl,
    g_law_state := PySem.W.mg_of X G g_law_state,
    a_law_draw := a_law_draw,
    d_law_draw := (PySem.W.fnOf "_law_draw" "_law_draw" (defArgs s_law_draw) (defBody s_law_draw) (defScope s_law_draw) .none kV_law_draw dc_law_draw pm_law_draw an_law_draw cd_law_draw ct_law_draw),
    f_law_draw := fun_mk (st := s_law_draw) l_law_draw c_law_draw k_law_draw,
    b_law_draw := (fun_mk (st := s_law_draw) l_law_draw c_law_draw k_law_draw).binds (ps := ["_law_state_here", "_law_many"]) fun _ _ _ _ _ _ us hl => match us, hl with | [_, _], _ => rfl,
    g_law_draw := PySem.W.mg_of X G g_law_draw,
    a_law_is_number := a_law_is_number,
    d_law_is_number := (PySem.W.fnOf "_law_is_number" "_law_is_number" (defArgs s_law_is_number) (defBody s_law_is_number) (defScope s_law_is_number) .none kV_law_is_number dc_law_is_number pm_law_is_number an_law_is_number cd_law_is_number ct_law_is_number),
    f_law_is_number := fun_mk (st := s_law_is_number) l_law_is_number c_law_is_number k_law_is_number,
    b_law_is_number := (fun_mk (st := s_law_is_number) l_law_is_number c_law_is_number k_law_is_number).binds (ps := ["_law_thing", "_law_due"]) fun _ _ _ _ _ _ us hl => match us, hl with | [_, _], _ => rfl,
    g_law_is_number := PySem.W.mg_of X G g_law_is_number,
    a_law_taken := a_law_taken,
    d_law_taken := (PySem.W.fnOf "_law_taken" "_law_taken" (defArgs s_law_taken) (defBody s_law_taken) (defScope s_law_taken) .none kV_law_taken dc_law_taken pm_law_taken an_law_taken cd_law_taken ct_law_taken),
    f_law_taken := fun_mk (st := s_law_taken) l_law_taken c_law_taken k_law_taken,
    b_law_taken := (fun_mk (st := s_law_taken) l_law_taken c_law_taken k_law_taken).binds (ps := ["_law_counts"]) fun _ _ _ _ _ _ us hl => match us, hl with | [_], _ => rfl,
    g_law_taken := PySem.W.mg_of X G g_law_taken,
    a_law_words := a_law_words,
    d_law_words := (PySem.W.fnOf "_law_words" "_law_words" (defArgs s_law_words) (defBody s_law_words) (defScope s_law_words) .none kV_law_words dc_law_words pm_law_words an_law_words cd_law_words ct_law_words),
    f_law_words := fun_mk (st := s_law_words) l_law_words c_law_words k_law_words,
    b_law_words := (fun_mk (st := s_law_words) l_law_words c_law_words k_law_words).binds (ps := ["_law_state_here"]) fun _ _ _ _ _ _ us hl => match us, hl with | [_], _ => rfl,
    g_law_words := PySem.W.mg_of X G g_law_words,
    a_law_deed := a_law_deed,
    d_law_deed := (PySem.W.fnOf "_law_deed" "_law_deed" (defArgs s_law_deed) (defBody s_law_deed) (defScope s_law_deed) .none kV_law_deed dc_law_deed pm_law_deed an_law_deed cd_law_deed ct_law_deed),
    f_law_deed := fun_mk (st := s_law_deed) l_law_deed c_law_deed k_law_deed,
    b_law_deed := (fun_mk (st := s_law_deed) l_law_deed c_law_deed k_law_deed).binds (ps := ["_law_shelf", "_law_counts", "_law_rows", "_law_state_here"]) fun _ _ _ _ _ _ us hl => match us, hl with | [_, _, _, _], _ => rfl,
    g_law_deed := PySem.W.mg_of X G g_law_deed,
    a_law_stands := a_law_stands,
    d_law_stands := (PySem.W.fnOf "_law_stands" "_law_stands" (defArgs s_law_stands) (defBody s_law_stands) (defScope s_law_stands) .none kV_law_stands dc_law_stands pm_law_stands an_law_stands cd_law_stands ct_law_stands),
    f_law_stands := fun_mk (st := s_law_stands) l_law_stands c_law_stands k_law_stands,
    b_law_stands := (fun_mk (st := s_law_stands) l_law_stands c_law_stands k_law_stands).binds (ps := ["_law_shelf", "_law_counts", "_law_rows"]) fun _ _ _ _ _ _ us hl => match us, hl with | [_, _, _], _ => rfl,
    g_law_stands := PySem.W.mg_of X G g_law_stands,
    a_law := fa,
    d_law := (PySem.W.fnOf "law" "law" (defArgs s_law) (defBody s_law) (defScope s_law) .none kV_law dc_law pm_law an_law cd_law ct_law),
    f_law := fun_mk (st := s_law) l_law c_law k_law,
    b_law := (fun_mk (st := s_law) l_law c_law k_law).binds (ps := ["_law_script"]) fun _ _ _ _ _ _ us hl => match us, hl with | [_], _ => rfl,
    g_law := PySem.W.mg_of X G g_law,
    g_MOST_PLACES := ⟨_, PySem.W.mg_of X G g_MOST_PLACES⟩,
    g_PAGE := ⟨_, PySem.W.mg_of X G g_PAGE⟩,
    n_abs := PySem.W.mg_none_of X G n_abs,
    n_bool := PySem.W.mg_none_of X G n_bool,
    n_enumerate := PySem.W.mg_none_of X G n_enumerate,
    n_int := PySem.W.mg_none_of X G n_int,
    n_isinstance := PySem.W.mg_none_of X G n_isinstance,
    n_len := PySem.W.mg_none_of X G n_len,
    n_list := PySem.W.mg_none_of X G n_list,
    n_max := PySem.W.mg_none_of X G n_max,
    n_min := PySem.W.mg_none_of X G n_min,
    n_range := PySem.W.mg_none_of X G n_range
    }, rfl, rfl⟩
  obtain ⟨T, e1, e2⟩ := T
  refine ⟨PySem.W.fnOf "law" "law" (defArgs s_law) (defBody s_law) (defScope s_law) .none kV_law dc_law pm_law an_law cd_law ct_law, fun s v => .of_eq rfl, fun base _ _ => ?_⟩
  have z := ok_law (P := l.prog) (w := w) (base := base) T
  rw [e1, e2] at z
  exact z
theorem walk {l : PySem.W.OpenLaw} {q : Program} {loose : List Str} {XP : (Str → Option Value) → Heap → Prop} {YP : World → Heap → Prop} {d : DefRec} {K : Params → PySem.W.Frag} (hn : l.most = some 63) (hdf : d.params.defaults = [])
    (hY : ∀ (w : World) (h : Heap), YP w h → (K w.params).In h)
    (F : ∀ (w : World) (mg : Str → Option Value) (fa : Addr) (h : Heap), (K w.params).In h → h.Ns mainGlobals mg → mg d.name = some (.ref fa) →
      ∃ fd : FuncData, (∀ (s : Shared) (u : Value), BindsTo s fd ⟨[u], []⟩ [("_law_script", u)]) ∧ ∀ base : Heap, (K w.params).In base → base.Ns mainGlobals mg → FnOk l.prog w (K w.params) mg base CX0 5 fa fd ["_law_script"] (sp_law (K w.params))) :
    PySem.W.WalkO q loose XP YP l.row.toRowW d [] (fun f vs => PySem.call f vs) :=
  L2.walk_of (n := 63) (k := 5) (x := "_law_script") (CX := fun _ => CX0) (sp := fun w => sp_law (K w.params)) hn (by decide) hdf ⟨rfl, by decide, by decide⟩ hY F (fun _ _ a ns hl _ hS => ⟨a, ns, rfl, hl, Hd.one hS, fun _ => rfl⟩) fun _ _ _ _ _ z => z
end My
open PySem PySem.W PyProof.Rows in
set_option maxRecDepth 100000 in
set_option maxHeartbeats 0 in
theorem PySem.Challenge.cw_keelroom_k14_shelves_holds : PySem.Challenge.rw_keelroom_k14_shelves.Holds := by
  w_on; o_law; k_head; (case hw => w_witness2)
  k_fill
  refine My.walk (l := PySem.Challenge.rw_keelroom_k14_shelves) rfl rfl (fun w h Y => PySem.W.kIn_of Y) ?F
  case F =>
    intro w mg fa h KX G hmg
    refine' My.all_mk KX G hmg ?h1_Shelf ?h2_Shelf ?h3_Shelf ?h4_Shelf ?h5_Shelf ?h6_Shelf ?h7_Shelf ?n_Shelf_counts ?n_Shelf_contents ?g_is_among ?l_is_among ?c_is_among ?k_is_among ?g_Shelf_init ?i_Shelf_init ?l_Shelf_init ?c_Shelf_init ?k_Shelf_init ?g_Shelf_take ?i_Shelf_take ?l_Shelf_take ?c_Shelf_take ?k_Shelf_take ?g_Shelf_hold ?i_Shelf_hold ?l_Shelf_hold ?c_Shelf_hold ?k_Shelf_hold ?g_Shelf_drop ?i_Shelf_drop ?l_Shelf_drop ?c_Shelf_drop ?k_Shelf_drop ?g_Shelf_held ?i_Shelf_held ?l_Shelf_held ?c_Shelf_held ?k_Shelf_held ?g_Shelf_free ?i_Shelf_free ?l_Shelf_free ?c_Shelf_free ?k_Shelf_free ?g_Shelf_words_at ?i_Shelf_words_at ?l_Shelf_words_at ?c_Shelf_words_at ?k_Shelf_words_at ?g_Shelf_put_words ?i_Shelf_put_words ?l_Shelf_put_words ?c_Shelf_put_words ?k_Shelf_put_words ?g_law_cell_at ?l_law_cell_at ?c_law_cell_at ?k_law_cell_at ?g_law_mixed ?l_law_mixed ?c_law_mixed ?k_law_mixed ?g_law_state ?l_law_state ?c_law_state ?k_law_state ?g_law_draw ?l_law_draw ?c_law_draw ?k_law_draw ?g_law_is_number ?l_law_is_number ?c_law_is_number ?k_law_is_number ?g_law_taken ?l_law_taken ?c_law_taken ?k_law_taken ?g_law_words ?l_law_words ?c_law_words ?k_law_words ?g_law_deed ?l_law_deed ?c_law_deed ?k_law_deed ?g_law_stands ?l_law_stands ?c_law_stands ?k_law_stands ?g_law ?l_law ?c_law ?k_law ?g_MOST_PLACES ?g_PAGE ?n_abs ?n_bool ?n_enumerate ?n_int ?n_isinstance ?n_len ?n_list ?n_max ?n_min ?n_range
    (case h1_Shelf => k_is)
    (case h2_Shelf => k_is)
    (case h3_Shelf => k_is)
    (case h4_Shelf => k_is)
    (case h5_Shelf => k_is)
    (case h6_Shelf => k_is)
    (case h7_Shelf => k_is)
    (case n_Shelf_counts => k_is)
    (case n_Shelf_contents => k_is)
    (case g_is_among => k_is)
    (case l_is_among => k_is)
    (case c_is_among => k_is)
    (case k_is_among => k_is)
    (case g_Shelf_init => k_is)
    (case i_Shelf_init => k_is)
    (case l_Shelf_init => k_is)
    (case c_Shelf_init => k_is)
    (case k_Shelf_init => k_is)
    (case g_Shelf_take => k_is)
    (case i_Shelf_take => k_is)
    (case l_Shelf_take => k_is)
    (case c_Shelf_take => k_is)
    (case k_Shelf_take => k_is)
    (case g_Shelf_hold => k_is)
    (case i_Shelf_hold => k_is)
    (case l_Shelf_hold => k_is)
    (case c_Shelf_hold => k_is)
    (case k_Shelf_hold => k_is)
    (case g_Shelf_drop => k_is)
    (case i_Shelf_drop => k_is)
    (case l_Shelf_drop => k_is)
    (case c_Shelf_drop => k_is)
    (case k_Shelf_drop => k_is)
    (case g_Shelf_held => k_is)
    (case i_Shelf_held => k_is)
    (case l_Shelf_held => k_is)
    (case c_Shelf_held => k_is)
    (case k_Shelf_held => k_is)
    (case g_Shelf_free => k_is)
    (case i_Shelf_free => k_is)
    (case l_Shelf_free => k_is)
    (case c_Shelf_free => k_is)
    (case k_Shelf_free => k_is)
    (case g_Shelf_words_at => k_is)
    (case i_Shelf_words_at => k_is)
    (case l_Shelf_words_at => k_is)
    (case c_Shelf_words_at => k_is)
    (case k_Shelf_words_at => k_is)
    (case g_Shelf_put_words => k_is)
    (case i_Shelf_put_words => k_is)
    (case l_Shelf_put_words => k_is)
    (case c_Shelf_put_words => k_is)
    (case k_Shelf_put_words => k_is)
    (case g_law_cell_at => k_is)
    (case l_law_cell_at => k_is)
    (case c_law_cell_at => k_is)
    (case k_law_cell_at => k_is)
    (case g_law_mixed => k_is)
    (case l_law_mixed => k_is)
    (case c_law_mixed => k_is)
    (case k_law_mixed => k_is)
    (case g_law_state => k_is)
    (case l_law_state => k_is)
    (case c_law_state => k_is)
    (case k_law_state => k_is)
    (case g_law_draw => k_is)
    (case l_law_draw => k_is)
    (case c_law_draw => k_is)
    (case k_law_draw => k_is)
    (case g_law_is_number => k_is)
    (case l_law_is_number => k_is)
    (case c_law_is_number => k_is)
    (case k_law_is_number => k_is)
    (case g_law_taken => k_is)
    (case l_law_taken => k_is)
    (case c_law_taken => k_is)
    (case k_law_taken => k_is)
    (case g_law_words => k_is)
    (case l_law_words => k_is)
    (case c_law_words => k_is)
    (case k_law_words => k_is)
    (case g_law_deed => k_is)
    (case l_law_deed => k_is)
    (case c_law_deed => k_is)
    (case k_law_deed => k_is)
    (case g_law_stands => k_is)
    (case l_law_stands => k_is)
    (case c_law_stands => k_is)
    (case k_law_stands => k_is)
    (case g_law => k_is)
    (case l_law => k_is)
    (case c_law => k_is)
    (case k_law => k_is)
    (case g_MOST_PLACES => k_is)
    (case g_PAGE => k_is)
    (case n_abs => k_is)
    (case n_bool => k_is)
    (case n_enumerate => k_is)
    (case n_int => k_is)
    (case n_isinstance => k_is)
    (case n_len => k_is)
    (case n_list => k_is)
    (case n_max => k_is)
    (case n_min => k_is)
    (case n_range => k_is)
#print axioms PySem.Challenge.cw_keelroom_k14_shelves_holds
