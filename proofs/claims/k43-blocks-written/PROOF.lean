import PyProof.Rows.All
import Wide.All
import OpenK.AllK
import Wide.FinOn
import HandS.ForMost
import HandS.Walk
import HandS.Flow
import HandS.IsInst
import HandS.Conv
import HandS.Zip
import HandS.SetFor
import HandS.SortInts
import HandS.TupAny
import HandS.TupMul
import HandS.Wide
import HandS.More
import PySem.Challenge.RW_keelroom_k43_blocks_written
set_option Elab.async false
set_option maxRecDepth 100000
set_option maxHeartbeats 1000000
set_option linter.unusedVariables false
set_option maxRecDepth 100000
namespace Sl
open PySem L2

/-! ### heaps in pieces -/
abbrev SA := Hp → Prop
def Imm : HO → Prop
  | .tup _ => True
  | _ => False
def Cmp (H1 H2 : Hp) : Prop := ∀ a o1 o2, H1 a = some o1 → H2 a = some o2 → o1 = o2 ∧ Imm o1
def Sub (H1 H2 : Hp) : Prop := ∀ a o, H1 a = some o → H2 a = some o
theorem Sub.refl (H : Hp) : Sub H H := fun _ _ h => h
theorem Sub.trans {H1 H2 H3 : Hp} (a : Sub H1 H2) (b : Sub H2 H3) : Sub H1 H3 := fun x o h => b x o (a x o h)
theorem Cmp.symm {H1 H2 : Hp} (c : Cmp H1 H2) : Cmp H2 H1 := fun a o1 o2 h1 h2 => by
  obtain ⟨e, i⟩ := c a o2 o1 h2 h1
  subst e
  exact ⟨rfl, i⟩
theorem Cmp.sub {H1 H2 G1 G2 : Hp} (c : Cmp H1 H2) (a : Sub G1 H1) (b : Sub G2 H2) : Cmp G1 G2 := fun x o1 o2 h1 h2 => c x o1 o2 (a x o1 h1) (b x o2 h2)
def uni (H1 H2 : Hp) : Hp := fun a => match H1 a with
  | some o => some o
  | none => H2 a
theorem uni_l (H1 H2 : Hp) : Sub H1 (uni H1 H2) := fun a o h => by
  unfold uni
  rw [h]
theorem uni_r {H1 H2 : Hp} (c : Cmp H1 H2) : Sub H2 (uni H1 H2) := fun a o h => by
  unfold uni
  cases e : H1 a with
  | none => exact h
  | some o1 =>
    obtain ⟨e2, _⟩ := c a o1 o e h
    rw [e2]
theorem uni_or {H1 H2 : Hp} {a : Addr} {o : HO} (h : uni H1 H2 a = some o) : H1 a = some o ∨ H2 a = some o := by
  unfold uni at h
  cases e : H1 a with
  | none =>
    rw [e] at h
    exact .inr h
  | some o1 =>
    rw [e] at h
    exact .inl h
theorem uni_sub {H1 H2 H : Hp} (a : Sub H1 H) (b : Sub H2 H) : Sub (uni H1 H2) H := fun x o h => (uni_or h).elim (a x o) (b x o)
theorem uni_cmp {H1 H2 H : Hp} (a : Cmp H H1) (b : Cmp H H2) : Cmp H (uni H1 H2) := fun x o1 o2 h1 h2 => (uni_or h2).elim (a x o1 o2 h1) (b x o1 o2 h1)

/-- the heap bears these, each in a piece of its own (tuples may be shared), and more -/
def Hd : List SA → Hp → Prop
  | [], _ => True
  | A :: L, H => ∃ H1 H2, Cmp H1 H2 ∧ Sub H1 H ∧ Sub H2 H ∧ A H1 ∧ Hd L H2
theorem Hd.up {H H' : Hp} : ∀ {L : List SA}, Sub H H' → Hd L H → Hd L H'
  | [], _, _ => trivial
  | _ :: _, s, ⟨H1, H2, c, a, b, p, q⟩ => ⟨H1, H2, c, a.trans s, b.trans s, p, q⟩
theorem Hd.tl {A : SA} {L : List SA} {H : Hp} (h : Hd (A :: L) H) : Hd L H := by
  obtain ⟨H1, H2, _, _, b, _, q⟩ := h
  exact q.up b
theorem Hd.mono {A : SA} {L L' : List SA} {H : Hp} (h : Hd (A :: L) H) (f : ∀ H, Hd L H → Hd L' H) : Hd (A :: L') H := by
  obtain ⟨H1, H2, c, a, b, p, q⟩ := h
  exact ⟨H1, H2, c, a, b, p, f _ q⟩
theorem Hd.imp {A B : SA} {L : List SA} {H : Hp} (h : Hd (A :: L) H) (f : ∀ H, A H → B H) : Hd (B :: L) H := by
  obtain ⟨H1, H2, c, a, b, p, q⟩ := h
  exact ⟨H1, H2, c, a, b, f _ p, q⟩
theorem Hd.swap {A B : SA} {L : List SA} {H : Hp} (h : Hd (A :: B :: L) H) : Hd (B :: A :: L) H := by
  obtain ⟨H1, H2, c, a, b, p, H3, H4, c2, a2, b2, p2, q⟩ := h
  have c13 : Cmp H1 H3 := c.sub (Sub.refl _) a2
  have c14 : Cmp H1 H4 := c.sub (Sub.refl _) b2
  exact ⟨H3, uni H1 H4, uni_cmp c13.symm c2, a2.trans b, uni_sub a (b2.trans b), p2, H1, H4, c14, uni_l _ _, uni_r c14, p, q⟩
/-- A stands in L, the others are L' -/
inductive Pull : SA → List SA → List SA → Prop
  | here {A : SA} {L : List SA} : Pull A (A :: L) L
  | there {A B : SA} {L L' : List SA} : Pull A L L' → Pull A (B :: L) (B :: L')
theorem Hd.pull {A : SA} {L L' : List SA} (p : Pull A L L') : ∀ {H : Hp}, Hd L H → Hd (A :: L') H := by
  induction p with
  | here => exact fun h => h
  | there _ ih => exact fun h => (h.mono fun _ => ih).swap
theorem Hd.push {A : SA} {L L' : List SA} (p : Pull A L L') : ∀ {H : Hp}, Hd (A :: L') H → Hd L H := by
  induction p with
  | here => exact fun h => h
  | there _ ih => exact fun h => h.swap.mono fun _ => ih
/-- A in L is exchanged for B -/
inductive Put : SA → SA → List SA → List SA → Prop
  | here {A B : SA} {L : List SA} : Put A B (A :: L) (B :: L)
  | there {A B C : SA} {L L' : List SA} : Put A B L L' → Put A B (C :: L) (C :: L')
theorem Put.pulls {A B : SA} {L L' : List SA} (p : Put A B L L') : ∃ M, Pull A L M ∧ Pull B L' M := by
  induction p with
  | here => exact ⟨_, .here, .here⟩
  | there _ ih =>
    obtain ⟨M, a, b⟩ := ih
    exact ⟨_, .there a, .there b⟩
/-- L bears M (in any order; more in L is let fall) -/
inductive Mt : List SA → List SA → Prop
  | nil {L : List SA} : Mt [] L
  | refl {L : List SA} : Mt L L
  | cons {A : SA} {L L' M : List SA} : Pull A L L' → Mt M L' → Mt (A :: M) L
  | drop {A : SA} {L M : List SA} : Mt M L → Mt M (A :: L)
theorem Hd.mt {M L : List SA} (m : Mt M L) : ∀ {H : Hp}, Hd L H → Hd M H := by
  induction m with
  | nil => exact fun _ => trivial
  | refl => exact fun h => h
  | cons p _ ih => exact fun h => (h.pull p).mono fun _ => ih
  | drop _ ih => exact fun h => ih h.tl

/-! ### what stands at an address -/
def pto (a : Addr) (o : HO) : SA := fun H => H a = some o
theorem Hd.get {a : Addr} {o : HO} {L L' : List SA} {H : Hp} (h : Hd L H) (p : Pull (pto a o) L L') : H a = some o := by
  obtain ⟨H1, H2, _, s, _, e, _⟩ := h.pull p
  exact s a o e
def one (a : Addr) (o : HO) : Hp := fun b => if b = a then some o else none
theorem one_at {a : Addr} {o : HO} : one a o a = some o := if_pos rfl
theorem of_one {a b : Addr} {o u : HO} (h : one a o b = some u) : b = a ∧ u = o := by
  unfold one at h
  split at h
  · rename_i e
    exact ⟨e, (Option.some.inj h).symm⟩
  · cases h
theorem one_cmp {a : Addr} {o : HO} {H : Hp} (n : H a = none) : Cmp (one a o) H := fun b o1 o2 h1 h2 => by
  obtain ⟨rfl, rfl⟩ := of_one h1
  rw [n] at h2
  cases h2
theorem one_sub {a : Addr} {o : HO} {H : Hp} (n : H a = some o) : Sub (one a o) H := fun b u h => by
  obtain ⟨rfl, rfl⟩ := of_one h
  exact n
theorem Hd.new {a : Addr} {o : HO} {L : List SA} {H : Hp} (h : Hd L H) (n : H a = none) : Hd (pto a o :: L) (upd H a o) :=
  ⟨one a o, H, one_cmp n, one_sub upd_same, fun b u e => by
    rw [upd_ne (ne_of_none e n)]
    exact e, one_at, h⟩
theorem Hd.set {a : Addr} {o o' : HO} {L L' : List SA} {H : Hp} (h : Hd L H) (p : Put (pto a o) (pto a o') L L') (m : ¬ Imm o) : Hd L' (upd H a o') := by
  obtain ⟨M, pa, pb⟩ := p.pulls
  refine Hd.push pb ?_
  obtain ⟨H1, H2, c, s1, s2, e, q⟩ := h.pull pa
  have n : H2 a = none := by
    cases z : H2 a with
    | none => rfl
    | some u => exact (m (c a o u e z).2).elim
  exact ⟨one a o', H2, one_cmp n, one_sub upd_same, fun b u e => by
    rw [upd_ne (ne_of_none e n)]
    exact s2 _ _ e, one_at, q⟩
/-- a tuple is shared -/
theorem Hd.dup {a : Addr} {xs : List V} {L L' : List SA} {H : Hp} (h : Hd L H) (p : Pull (pto a (.tup xs)) L L') : Hd (pto a (.tup xs) :: L) H :=
  ⟨one a (.tup xs), H, fun b o1 o2 h1 h2 => by
    obtain ⟨rfl, rfl⟩ := of_one h1
    rw [h.get p] at h2
    cases h2
    exact ⟨rfl, trivial⟩, one_sub (h.get p), Sub.refl _, one_at, h⟩
/-- words over pieces -/
theorem Hd.ex {α : Type} {A : α → SA} {L : List SA} {H : Hp} (h : Hd ((fun H => ∃ x, A x H) :: L) H) : ∃ x, Hd (A x :: L) H := by
  obtain ⟨H1, H2, c, s1, s2, ⟨x, e⟩, q⟩ := h
  exact ⟨x, H1, H2, c, s1, s2, e, q⟩
theorem Hd.pure {p : Prop} {A : SA} {L : List SA} {H : Hp} (h : Hd ((fun H => p ∧ A H) :: L) H) : p ∧ Hd (A :: L) H := by
  obtain ⟨H1, H2, c, s1, s2, ⟨x, e⟩, q⟩ := h
  exact ⟨x, H1, H2, c, s1, s2, e, q⟩
theorem Hd.open {M : List SA} : ∀ {L : List SA} {H : Hp}, Hd (Hd M :: L) H → Hd (M ++ L) H := by
  induction M with
  | nil => exact fun h => h.tl
  | cons A M ih =>
    rintro L H ⟨H1, H2, c, s1, s2, ⟨H3, H4, c2, s3, s4, p, q⟩, r⟩
    have c32 := c.sub s3 (Sub.refl _)
    have c42 := c.sub s4 (Sub.refl _)
    exact ⟨H3, uni H4 H2, uni_cmp c2 c32, s3.trans s1, uni_sub (s4.trans s1) s2, p, ih ⟨H4, H2, c42, uni_l _ _, uni_r c42, q, r⟩⟩
theorem Hd.close {M : List SA} : ∀ {L : List SA} {H : Hp}, Hd (M ++ L) H → Hd (Hd M :: L) H := by
  induction M with
  | nil => exact fun {L H} h => ⟨fun _ => none, H, fun _ _ _ h => (nomatch h), fun _ _ h => (nomatch h), Sub.refl _, trivial, h⟩
  | cons A M ih =>
    rintro L H ⟨H1, H2, c, s1, s2, p, q⟩
    obtain ⟨H3, H4, c2, s3, s4, p2, q2⟩ := ih q
    have c13 := c.sub (Sub.refl _) s3
    have c14 := c.sub (Sub.refl _) s4
    exact ⟨uni H1 H3, H4, (uni_cmp c14.symm c2.symm).symm, uni_sub s1 (s3.trans s2), s4.trans s2, ⟨H1, H3, c13, uni_l _ _, uni_r c13, p, p2⟩, q2⟩
/-- a list that is read only -/
def sql (K : PySem.W.Frag) (a : Addr) (xs : List V) : SA := fun H => SqL K H a xs
theorem Hd.sql {K : PySem.W.Frag} {a : Addr} {xs : List V} {L L' : List SA} {H : Hp} (h : Hd L H) (p : Pull (sql K a xs) L L') : SqL K H a xs := by
  obtain ⟨H1, H2, _, s, _, e, _⟩ := h.pull p
  exact Same.seq s e
theorem Hd.sq {K : PySem.W.Frag} {a : Addr} {xs : List V} {L L' : List SA} {H : Hp} (h : Hd L H) (p : Pull (pto a (.lst xs)) L L') : SqL K H a xs := SqL.of (h.get p)
theorem Hd.st {K : PySem.W.Frag} {a : Addr} {xs : List V} {L L' : List SA} {H : Hp} (h : Hd L H) (p : Pull (pto a (.tup xs)) L L') : SqT K H a xs := SqT.of (h.get p)
end Sl

set_option maxRecDepth 100000
set_option maxHeartbeats 1000000
namespace Sl
open PySem L2

/-! ### operators of several kinds at once -/
def rDG : R2 := fun x y H Q => ∃ a v, x = .ref a ∧ DGet H a y (some v) ∧ Q v H
def rDIn (neg : Bool) : R2 := fun y x H Q => ∃ a o, x = .ref a ∧ DGet H a y o ∧ Q (.bl (if neg then !o.isSome else o.isSome)) H
def rAddS : R2 := fun x y H Q => ∃ i j, x = .str i ∧ y = .str j ∧ i.length + j.length ≤ sizeLine ∧ Q (.str (i ++ j)) H
def rAddU (K : PySem.W.Frag) : R2 := fun x y H Q => rI0 (fun i j => .int (i + j)) x y H Q ∨ rCat x y H Q ∨ rAddS x y H Q ∨ rCatA K x y H Q
def rMulU (K : PySem.W.Frag) : R2 := fun x y H Q => rI CMul (fun i j => .int (i * j)) x y H Q ∨ rRep x y H Q ∨ rRepT K x y H Q
def rDivU : R2 := fun x y H Q => rI CDiv (fun i j => .int (i / j)) x y H Q ∨ rI CDivW (fun i j => .int (i / j)) x y H Q
def rEqU (K : PySem.W.Frag) : R2 := fun x y H Q => rEq x y H Q ∨ rEqD K x y H Q
def rNeU (K : PySem.W.Frag) : R2 := fun x y H Q => rNe x y H Q ∨ rNeD K x y H Q
def rInU (K : PySem.W.Frag) (neg : Bool) : R2 := fun x y H Q => rIn K neg x y H Q ∨ rDIn neg x y H Q
def rIxU (K : PySem.W.Frag) : R2 := fun x y H Q => rIx K x y H Q ∨ rDG x y H Q
def rIsN' : R2 := fun x y H Q => y = .non ∧ Q (.bl (decide (x = .non))) H
def rNotN' : R2 := fun x y H Q => y = .non ∧ Q (.bl (!decide (x = .non))) H
section
variable {X : Cx}
theorem u_add : OpR X (binaryOp .Add) (rAddU X.K) := op_add.or (op_cat.or (op_add_str.or op_catA))
theorem u_sub : OpR X (binaryOp .Sub) (rI0 fun i j => .int (i - j)) := op_sub
theorem u_mul : OpR X (binaryOp .Mult) (rMulU X.K) := op_mul.or (op_rep.or op_repT)
theorem u_div : OpR X (binaryOp .FloorDiv) rDivU := op_fdiv.or op_fdivW
theorem u_mod : OpR X (binaryOp .Mod) (rI (fun _ j => 0 < j) fun i j => .int (i % j)) := op_mod
theorem u_pow : OpR X (binaryOp .Pow) (rI CPow fun i j => .int (i ^ j.toNat)) := op_pow
theorem u_eq (hu : X.A.units + 64 < cLine) : OpR X (compareOp .Eq) (rEqU X.K) := op_eq.or (op_eqD hu)
theorem u_ne (hu : X.A.units + 64 < cLine) : OpR X (compareOp .NotEq) (rNeU X.K) := op_ne.or (op_neD hu)
theorem op_dIn (hu : X.A.units + 1 < cLine) : OpR X (compareOp .In) (rDIn false) := by
  intro pins s σ H x y v u Q I rx ry h
  obtain ⟨a, o, rfl, g, q⟩ := h
  cases ry
  exact d_in hu I g rx fun s3 I3 => ⟨.bl o.isSome, H, I3, rfl, q⟩
theorem op_dNotIn (hu : X.A.units + 1 < cLine) : OpR X (compareOp .NotIn) (rDIn true) := by
  intro pins s σ H x y v u Q I rx ry h
  obtain ⟨a, o, rfl, g, q⟩ := h
  cases ry
  exact d_notIn hu I g rx fun s3 I3 => ⟨.bl (!o.isSome), H, I3, rfl, q⟩
theorem u_in (hu : X.A.units + 1 < cLine) : OpR X (compareOp .In) (rInU X.K false) := op_in_seq.or (op_dIn hu)
theorem u_notIn (hu : X.A.units + 1 < cLine) : OpR X (compareOp .NotIn) (rInU X.K true) := op_notIn_seq.or (op_dNotIn hu)
theorem u_isN : OpR X (compareOp .Is) rIsN' := op_isN
theorem u_notN : OpR X (compareOp .IsNot) rNotN' := op_notN
theorem ix_dict (hu : X.A.units + 1 < cLine) : IxR X rDG := by
  intro value slice pins s σ H x y v u Q I rx ry h hs
  obtain ⟨a, w, rfl, g, q⟩ := h
  cases rx
  exact PyProof.Rows.tail_any (dict_typeIs I g) PySem.F.slot_dict_getitem.lookup (d_getItem hu I g ry fun w' s3 I3 rw' => ⟨w, H, I3, rw', q⟩) hs
end
end Sl

set_option maxRecDepth 100000
set_option maxHeartbeats 1000000
namespace Sl
open PySem L2

/-! ### subscripts stored -/
def rSetD : TSet := fun o i v H Q => ∃ a H', o = .ref a ∧ DPut H a i v H' ∧ Q H'
def rSetU : TSet := fun o i v H Q => rSetL o i v H Q ∨ rSetD o i v H Q
section
variable {X : Cx}
theorem set_dict (hu : X.A.units + 1 < cLine) : PSet X rSetD := by
  intro pins s σ H o i v ov iv u Q I ro ri rv h
  obtain ⟨a, H', rfl, g, q⟩ := h
  cases ro
  exact d_setItem hu I g ri rv fun s' I' => ⟨H', I', q⟩
theorem u_set (hu : X.A.units + 1 < cLine) : PSet X rSetU := by
  intro pins s σ H o i v ov iv u Q I ro ri rv h
  rcases h with h | h
  · exact set_list pins s σ H o i v ov iv u Q I ro ri rv h
  · exact set_dict hu pins s σ H o i v ov iv u Q I ro ri rv h
end

/-! ### built-ins, their readings named -/
def rLenU (K : PySem.W.Frag) : List V → Hp → VK → Prop := fun xs H Q => (∃ x n, xs = [x] ∧ LenV K x H n ∧ Q (.int (n : Nat)) H) ∨ ∃ a kvs, xs = [V.ref a] ∧ H a = some (.dK kvs) ∧ Q (.int (kvs.length : Nat)) H
def rAbs : List V → Hp → VK → Prop := fun xs H Q => ∃ i, xs = [.int i] ∧ Q (.int (if i < 0 then -i else i)) H
def rMax2 : List V → Hp → VK → Prop := fun xs H Q => ∃ i j, xs = [.int i, .int j] ∧ Q (.int (if j > i then j else i)) H
def rMin2 : List V → Hp → VK → Prop := fun xs H Q => ∃ i j, xs = [.int i, .int j] ∧ Q (.int (if j < i then j else i)) H
def rInt1 : List V → Hp → VK → Prop := fun xs H Q => (∃ i, xs = [.int i] ∧ Q (.int i) H) ∨ ∃ k, xs = [.bl k] ∧ Q (.int (if k then 1 else 0)) H
def rListOf (K : PySem.W.Frag) : List V → Hp → VK → Prop := fun xs H Q => ∃ p ys, xs = [.ref p] ∧ (SqL K H p ys ∨ SqT K H p ys) ∧ ∀ l, H l = none → Q (.ref l) (upd H l (.lst ys))
def rTupleOf (K : PySem.W.Frag) : List V → Hp → VK → Prop := fun xs H Q => ∃ p ys, xs = [.ref p] ∧ ((SqL K H p ys ∧ ∀ l, H l = none → Q (.ref l) (upd H l (.tup ys))) ∨ (SqT K H p ys ∧ Q (.ref p) H))
def rIsiU (K : PySem.W.Frag) : List V → Hp → VK → Prop := fun xs H Q => rIsi K xs H Q ∨ rIsiT K xs H Q
section
variable {X : Cx}
theorem u_len : CallR X (.builtin "len") (rLenU X.K) := call_len.or call_lenD
theorem u_abs : CallR X (.builtin "abs") rAbs := call_abs
theorem u_max2 (hc : X.calm = true) : CallR X (.builtin "max") rMax2 := call_max2 hc
theorem u_min2 (hc : X.calm = true) : CallR X (.builtin "min") rMin2 := call_min2 hc
theorem u_int1 : CallR X (.type "int") rInt1 := call_int1
theorem u_list : CallR X (.type "list") (rListOf X.K) := call_list_of
theorem u_tuple : CallR X (.type "tuple") (rTupleOf X.K) := call_tuple_of
theorem u_isi : CallR X (.builtin "isinstance") (rIsiU X.K) := call_isi.or call_isiT
theorem u_ix (hu : X.A.units + 1 < cLine) : IxR X (rIxU X.K) := ix_seq.or (ix_dict hu)
end

/-! ### what stands at the leaves of a reading, named -/
def AllocT (Q : VK) (xs : List V) (H : Hp) : Prop := xs.length ≤ sizeLine ∧ ∀ p, H p = none → Q (.ref p) (upd H p (.tup xs))
def AllocL (Q : VK) (xs : List V) (H : Hp) : Prop := xs.length ≤ sizeLine ∧ ∀ p, H p = none → Q (.ref p) (upd H p (.lst xs))
def IsB (QT : Bool → Hp → Prop) (x : V) (H : Hp) : Prop := ∃ k, x = .bl k ∧ QT k H
def AndK (tb : TE) (σ : L2.St) (Q : VK) (x : V) (H : Hp) : Prop := ∃ c, x = .bl c ∧ if c = true then tb σ H Q else Q (.bl false) H
def OrK (tb : TE) (σ : L2.St) (Q : VK) (x : V) (H : Hp) : Prop := ∃ c, x = .bl c ∧ if c = true then Q (.bl true) H else tb σ H Q
def NotK (Q : VK) (x : V) (H : Hp) : Prop := ∃ c, x = .bl c ∧ Q (.bl (!c)) H
def FldK (K : PySem.W.Frag) (f : Str) (Q : VK) (x : V) (H : Hp) : Prop := ∃ a C dx fs v, x = .ref a ∧ H a = some (.ins C dx fs) ∧ Cls K C ∧ NoAttr K C f ∧ fs.lookup f = some v ∧ Q v H
def SFldK (K : PySem.W.Frag) (f : Str) (N : Hp → Prop) (y x : V) (H : Hp) : Prop := ∃ a C dx fs, x = .ref a ∧ H a = some (.ins C dx fs) ∧ Cls K C ∧ NoAttr K C f ∧ fs.length < 1000 ∧ N (upd H a (.ins C dx (putF f y fs)))
def MethK (C : Addr) (m : Str) (R : V → Hp → Prop) (x : V) (H : Hp) : Prop := ∃ a dx fs, x = .ref a ∧ H a = some (.ins C dx fs) ∧ fs.lookup m = none ∧ R x H
def MakeK (C : Addr) (sp : Sp) (dvs : List V) (E : XK) (Q : VK) (vs : List V) (H : Hp) : Prop := ∀ x dx, H x = none → H dx = none → dx ≠ x → sp (.ref x :: (vs ++ dvs)) (upd (upd H dx (.own x)) x (.ins C dx [])) (fun v H2 => v = .non ∧ Q (.ref x) H2) E
def PartK (QO : Option Int → Hp → Prop) (x : V) (H : Hp) : Prop := ∃ i, x = .int i ∧ QO (some i) H
def DispE (p : Addr) (Q : VK) (ps : List (V × V)) (H : Hp) : Prop := H p = some (.dK []) ∧ ∃ kvs : List (Key × V), ps = kvs.map (fun kv => (kV kv.1, kv.2)) ∧ kvs.length ≤ 15 ∧ Q (.ref p) (upd H p (.dK (mergeK [] kvs)))
def GetE1 (a : Addr) (Q : VK) (y : V) (H : Hp) : Prop := ∃ o, DGet H a y o ∧ Q (o.getD .non) H
def GetE2 (a : Addr) (y : V) (Q : VK) (z : V) (H : Hp) : Prop := ∃ o, DGet H a y o ∧ Q (o.getD z) H
def IsDK (R : Addr → Hp → Prop) (x : V) (H : Hp) : Prop := ∃ a, x = .ref a ∧ IsD H a ∧ R a H

/-! ### readings, one construct after the other -/
section
variable {K : PySem.W.Frag} {σ : L2.St} {H : Hp} {D : Ends} {t u tw : TS} {te ta tb tx : TE} {tr : TA} {tt tu : TT} {g : TG} {gs : TGs} {Q : VK} {QA : List V → Hp → Prop} {QT : Bool → Hp → Prop} {v x y : V} {i j k : Int} {b c : Bool} {n : Nat}
  {L L' : List SA} {a p : Addr} {xs ys zs : List V} {r : R2} {N : Hp → Prop}
theorem r_seq (q : t { D with nx := u D } σ H) : tSeq t u D σ H := q
theorem r_next (q : D.nx σ H) : tNext D σ H := q
theorem r_asg (q : te σ H fun x H1 => g x σ H1 D.nx) : tAsg te g D σ H := q
theorem r_gName {QS : L2.St → Hp → Prop} (q : QS (σ.set n (some v)) H) : gName n v σ H QS := q
theorem r_drop (q : te σ H fun _ H1 => D.nx σ H1) : tDrop te D σ H := q
theorem r_ret (q : te σ H D.rt) : tRet te D σ H := q
theorem r_retN (q : D.rt .non H) : tRetN D σ H := q
theorem r_break (q : D.bk σ H) : tBreak D σ H := q
theorem r_cont (q : D.ct σ H) : tCont D σ H := q
theorem r_ifS (q : tt σ H fun b H1 => if b = true then t D σ H1 else u D σ H1) : tIfS tt t u D σ H := q
theorem r_test (q : te σ H (IsB QT)) : tTest te σ H QT := q
theorem r_tB (q : te σ H (IsB QT)) : tB te σ H QT := q
theorem r_isb (q : QT b H) : IsB QT (.bl b) H := ⟨b, rfl, q⟩
theorem r_tAnd (q : tt σ H fun c H1 => if c = true then tu σ H1 QT else QT false H1) : tAnd tt tu σ H QT := q
theorem r_tOr (q : tt σ H fun c H1 => if c = true then QT true H1 else tu σ H1 QT) : tOr tt tu σ H QT := q
theorem r_tNot (q : tt σ H fun c H1 => QT (!c) H1) : tNot tt σ H QT := q
theorem r_var (h : σ[n]? = some (some v)) (q : Q v H) : tVar n σ H Q := ⟨v, h, q⟩
theorem r_c (q : Q v H) : tC v σ H Q := q
theorem r_op (q : ta σ H fun x H1 => tb σ H1 fun y H2 => r x y H2 Q) : tOp r ta tb σ H Q := q
theorem r_un {ru : V → Hp → VK → Prop} (q : ta σ H fun x H1 => ru x H1 Q) : tUn ru ta σ H Q := q
theorem r_rU {f : Int → V} (q : Q (f i) H) : rU f (.int i) H Q := ⟨i, rfl, q⟩
theorem r_andV (q : ta σ H (AndK tb σ Q)) : tAndV ta tb σ H Q := q
theorem r_andK (q : if b = true then tb σ H Q else Q (.bl false) H) : AndK tb σ Q (.bl b) H := ⟨b, rfl, q⟩
theorem r_orV (q : ta σ H (OrK tb σ Q)) : tOrV ta tb σ H Q := q
theorem r_orK (q : if b = true then Q (.bl true) H else tb σ H Q) : OrK tb σ Q (.bl b) H := ⟨b, rfl, q⟩
theorem r_notV (q : ta σ H (NotK Q)) : tNotV ta σ H Q := q
theorem r_notK (q : Q (.bl (!b)) H) : NotK Q (.bl b) H := ⟨b, rfl, q⟩
theorem r_tIf (q : tt σ H fun c H1 => if c = true then ta σ H1 Q else tb σ H1 Q) : tIf tt ta tb σ H Q := q
theorem r_ite {A B : Prop} (h1 : b = true → A) (h2 : b = false → B) : if b = true then A else B := by
  cases b with
  | true => exact h1 rfl
  | false => exact h2 rfl
theorem r_iteD {P A B : Prop} [Decidable P] (h1 : P → A) (h2 : ¬ P → B) : if decide P = true then A else B := ite2 (fun h => h1 (of_decide_eq_true h)) fun h => h2 fun z => h (decide_eq_true z)
theorem r_iteN {P A B : Prop} [Decidable P] (h1 : ¬ P → A) (h2 : P → B) : if (!decide P) = true then A else B := by
  by_cases h : P
  · rw [decide_eq_true h]
    exact iteF (h2 h)
  · rw [decide_eq_false h]
    exact iteT (h1 h)
theorem r_iteB {A B : Prop} (h1 : b = false → A) (h2 : b = true → B) : if (!b) = true then A else B := by
  cases b with
  | true => exact iteF (h2 rfl)
  | false => exact iteT (h1 rfl)
theorem r_iteY {A B : Prop} (h : A) : if true = true then A else B := iteT h
theorem r_iteZ {A B : Prop} (h : B) : if false = true then A else B := iteF h
theorem r_nil (q : QA [] H) : tNil σ H QA := q
theorem r_cons (q : ta σ H fun x H1 => tr σ H1 fun xs H2 => QA (x :: xs) H2) : tCons ta tr σ H QA := q
theorem r_call {sp : Sp} {dvs : List V} {E : XK} (q : tr σ H fun vs H1 => sp (vs ++ dvs) H1 Q E) : tCall sp dvs E tr σ H Q := q
theorem r_cB {rc : List V → Hp → VK → Prop} (q : tr σ H fun vs H1 => rc vs H1 Q) : tCB rc tr σ H Q := q
theorem r_tup (q : tr σ H (AllocT Q)) : tTup tr σ H Q := q
theorem r_lst (q : tr σ H (AllocL Q)) : tLst tr σ H Q := q
theorem r_newT (hs : Hd L H) (hl : xs.length ≤ sizeLine) (q : ∀ p H', Hd (pto p (.tup xs) :: L) H' → Q (.ref p) H') : AllocT Q xs H := ⟨hl, fun p n => q p _ (hs.new n)⟩
theorem r_newL (hs : Hd L H) (hl : xs.length ≤ sizeLine) (q : ∀ p H', Hd (pto p (.lst xs) :: L) H' → Q (.ref p) H') : AllocL Q xs H := ⟨hl, fun p n => q p _ (hs.new n)⟩
/-! #### operators -/
theorem r_I0 {f : Int → Int → V} (q : Q (f i j) H) : rI0 f (.int i) (.int j) H Q := ⟨i, j, rfl, rfl, q⟩
theorem r_I {C : Int → Int → Prop} {f : Int → Int → V} (h : C i j) (q : Q (f i j) H) : rI C f (.int i) (.int j) H Q := ⟨i, j, rfl, rfl, h, q⟩
theorem r_addI (q : Q (.int (i + j)) H) : rAddU K (.int i) (.int j) H Q := .inl ⟨i, j, rfl, rfl, q⟩
theorem r_addL {b : Addr} (hs : Hd L H) (h1 : H a = some (.lst xs)) (h2 : H b = some (.lst ys)) (hl : xs.length + ys.length ≤ sizeLine) (q : ∀ p H', Hd (pto p (.lst (xs ++ ys)) :: L) H' → Q (.ref p) H') : rAddU K (.ref a) (.ref b) H Q :=
  .inr (.inl ⟨a, b, xs, ys, rfl, rfl, h1, h2, hl, fun p n => q p _ (hs.new n)⟩)
theorem r_addS {z w : Str} (h : z.length + w.length ≤ sizeLine) (q : Q (.str (z ++ w)) H) : rAddU K (.str z) (.str w) H Q := .inr (.inr (.inl ⟨z, w, rfl, rfl, h, q⟩))
theorem r_mulI (h : CMul i j) (q : Q (.int (i * j)) H) : rMulU K (.int i) (.int j) H Q := .inl ⟨i, j, rfl, rfl, h, q⟩
theorem r_mulL (hs : Hd L H) (h1 : H a = some (.lst xs)) (h : -(2 ^ 63) ≤ k ∧ k < 2 ^ 63) (hl : xs.length * k.toNat ≤ sizeLine) (q : ∀ p H', Hd (pto p (.lst (List.replicate k.toNat xs).flatten) :: L) H' → Q (.ref p) H') : rMulU K (.ref a) (.int k) H Q :=
  .inr (.inl ⟨a, k, xs, rfl, rfl, h1, h.1, h.2, hl, fun p n => q p _ (hs.new n)⟩)
theorem r_divI (h : 0 < j ∧ j < 1073741824) (q : Q (.int (i / j)) H) : rDivU (.int i) (.int j) H Q := .inl ⟨i, j, rfl, rfl, h, q⟩
theorem r_divW (h : 0 < j ∧ j.natAbs.log2 < 9000) (q : Q (.int (i / j)) H) : rDivU (.int i) (.int j) H Q := .inr ⟨i, j, rfl, rfl, h, q⟩
theorem r_modI (h : 0 < j) (q : Q (.int (i % j)) H) : rI (fun _ j => 0 < j) (fun i j => .int (i % j)) (.int i) (.int j) H Q := ⟨i, j, rfl, rfl, h, q⟩
theorem r_eqI (q : Q (.bl (decide (i = j))) H) : rEqU K (.int i) (.int j) H Q := .inl ⟨rfl, by
  have e : decide (V.int i = V.int j) = decide (i = j) := by simp
  rw [e]
  exact q⟩
theorem r_neI (q : Q (.bl (!decide (i = j))) H) : rNeU K (.int i) (.int j) H Q := .inl ⟨rfl, by
  have e : decide (V.int i = V.int j) = decide (i = j) := by simp
  rw [e]
  exact q⟩
theorem r_eqS {z w : Str} (q : Q (.bl (decide (z = w))) H) : rEqU K (.str z) (.str w) H Q := .inl ⟨rfl, by
  have e : decide (V.str z = V.str w) = decide (z = w) := by simp
  rw [e]
  exact q⟩
theorem r_neS {z w : Str} (q : Q (.bl (!decide (z = w))) H) : rNeU K (.str z) (.str w) H Q := .inl ⟨rfl, by
  have e : decide (V.str z = V.str w) = decide (z = w) := by simp
  rw [e]
  exact q⟩
theorem r_eqB (q : Q (.bl (decide (b = c))) H) : rEqU K (.bl b) (.bl c) H Q := .inl ⟨rfl, by
  have e : decide (V.bl b = V.bl c) = decide (b = c) := by simp
  rw [e]
  exact q⟩
theorem r_neB (q : Q (.bl (!decide (b = c))) H) : rNeU K (.bl b) (.bl c) H Q := .inl ⟨rfl, by
  have e : decide (V.bl b = V.bl c) = decide (b = c) := by simp
  rw [e]
  exact q⟩
theorem r_eqV (h : scal x y = true) (q : Q (.bl (decide (x = y))) H) : rEqU K x y H Q := .inl ⟨h, q⟩
theorem r_neV (h : scal x y = true) (q : Q (.bl (!decide (x = y))) H) : rNeU K x y H Q := .inl ⟨h, q⟩
theorem r_eqD {d e : PyData} (h1 : Dp K H x d) (h2 : Dp K H y e) (s1 : SeqAt.shaped d = true) (s2 : SeqAt.shaped e = true) (q : Q (.bl (PyData.eqv d e)) H) : rEqU K x y H Q := .inr ⟨d, e, h1, h2, s1, s2, q⟩
theorem r_neD {d e : PyData} (h1 : Dp K H x d) (h2 : Dp K H y e) (s1 : SeqAt.shaped d = true) (s2 : SeqAt.shaped e = true) (q : Q (.bl (!PyData.eqv d e)) H) : rNeU K x y H Q := .inr ⟨d, e, h1, h2, s1, s2, q⟩
theorem r_isN (q : Q (.bl (decide (x = .non))) H) : rIsN' x .non H Q := ⟨rfl, q⟩
theorem r_notN (q : Q (.bl (!decide (x = .non))) H) : rNotN' x .non H Q := ⟨rfl, q⟩
theorem r_inL (h : SqL K H a xs) (h1 : flatV x = true) (h2 : xs.all flatV = true) (q : Q (.bl (inV x xs)) H) : rInU K false x (.ref a) H Q := .inl ⟨a, xs, rfl, .inl h, h1, h2, q⟩
theorem r_inT (h : SqT K H a xs) (h1 : flatV x = true) (h2 : xs.all flatV = true) (q : Q (.bl (inV x xs)) H) : rInU K false x (.ref a) H Q := .inl ⟨a, xs, rfl, .inr h, h1, h2, q⟩
theorem r_niL (h : SqL K H a xs) (h1 : flatV x = true) (h2 : xs.all flatV = true) (q : Q (.bl (!inV x xs)) H) : rInU K true x (.ref a) H Q := .inl ⟨a, xs, rfl, .inl h, h1, h2, q⟩
theorem r_niT (h : SqT K H a xs) (h1 : flatV x = true) (h2 : xs.all flatV = true) (q : Q (.bl (!inV x xs)) H) : rInU K true x (.ref a) H Q := .inl ⟨a, xs, rfl, .inr h, h1, h2, q⟩
theorem r_inDi {kvs : List (Key × V)} (h : H a = some (.dK kvs)) (q : Q (.bl (valV kvs (.inl i)).isSome) H) : rInU K false (.int i) (.ref a) H Q := .inr ⟨a, _, rfl, DGet.k (k := .inl i) h, q⟩
theorem r_niDi {kvs : List (Key × V)} (h : H a = some (.dK kvs)) (q : Q (.bl (!(valV kvs (.inl i)).isSome)) H) : rInU K true (.int i) (.ref a) H Q := .inr ⟨a, _, rfl, DGet.k (k := .inl i) h, q⟩
theorem r_inDs {z : Str} {kvs : List (Key × V)} (h : H a = some (.dK kvs)) (q : Q (.bl (valV kvs (.inr z)).isSome) H) : rInU K false (.str z) (.ref a) H Q := .inr ⟨a, _, rfl, DGet.k (k := .inr z) h, q⟩
theorem r_niDs {z : Str} {kvs : List (Key × V)} (h : H a = some (.dK kvs)) (q : Q (.bl (!(valV kvs (.inr z)).isSome)) H) : rInU K true (.str z) (.ref a) H Q := .inr ⟨a, _, rfl, DGet.k (k := .inr z) h, q⟩
theorem r_ixL (h : SqL K H a xs) (hi : atI xs i = some v) (q : Q v H) : rIxU K (.ref a) (.int i) H Q := .inl (.inl ⟨a, xs, i, v, rfl, rfl, h, hi, q⟩)
theorem r_ixT (h : SqT K H a xs) (hi : atI xs i = some v) (q : Q v H) : rIxU K (.ref a) (.int i) H Q := .inl (.inr (.inl ⟨a, xs, i, v, rfl, rfl, h, hi, q⟩))
theorem r_ixDi {kvs : List (Key × V)} (h : H a = some (.dK kvs)) (hi : valV kvs (.inl i) = some v) (q : Q v H) : rIxU K (.ref a) (.int i) H Q := .inr ⟨a, v, rfl, by
  have g := DGet.k (k := .inl i) h
  rw [hi] at g
  exact g, q⟩
theorem r_ixDs {z : Str} {kvs : List (Key × V)} (h : H a = some (.dK kvs)) (hi : valV kvs (.inr z) = some v) (q : Q v H) : rIxU K (.ref a) (.str z) H Q := .inr ⟨a, v, rfl, by
  have g := DGet.k (k := .inr z) h
  rw [hi] at g
  exact g, q⟩
/-! #### what is stored at a subscript -/
theorem r_gSub {QS : L2.St → Hp → Prop} {ts : TSet} (q : ta σ H fun o H1 => tb σ H1 fun i H2 => ts o i v H2 fun H3 => QS σ H3) : gSub ta tb ts v σ H QS := q
theorem r_setL {QH : Hp → Prop} (hs : Hd L H) (p : Put (pto a (.lst xs)) (pto a (.lst (xs.set n v))) L L') (hn : n < xs.length) (q : ∀ H', Hd L' H' → QH H') : rSetU (.ref a) (.int (n : Int)) v H QH := by
  obtain ⟨M, pa, _⟩ := p.pulls
  refine .inl ⟨a, xs, (n : Int), n, rfl, rfl, hs.get pa, ?_, q _ (hs.set p (fun z => z))⟩
  unfold ixN
  rw [if_pos (Int.natCast_nonneg n), if_pos (by omega), Int.toNat_natCast]
theorem r_setDi {QH : Hp → Prop} {kvs kvs' : List (Key × V)} (hs : Hd L H) (p : Put (pto a (.dK kvs)) (pto a (.dK kvs')) L L') (e : putK kvs (.inl i) v = kvs') (hl : kvs.length < sizeLine) (q : ∀ H', Hd L' H' → QH H') : rSetU (.ref a) (.int i) v H QH := by
  obtain ⟨M, pa, _⟩ := p.pulls
  subst e
  exact .inr ⟨a, _, rfl, DPut.k (k := .inl i) (hs.get pa) hl, q _ (hs.set p (fun z => z))⟩
theorem r_setDs {QH : Hp → Prop} {z : Str} {kvs kvs' : List (Key × V)} (hs : Hd L H) (p : Put (pto a (.dK kvs)) (pto a (.dK kvs')) L L') (e : putK kvs (.inr z) v = kvs') (hl : kvs.length < sizeLine) (q : ∀ H', Hd L' H' → QH H') : rSetU (.ref a) (.str z) v H QH := by
  obtain ⟨M, pa, _⟩ := p.pulls
  subst e
  exact .inr ⟨a, _, rfl, DPut.k (k := .inr z) (hs.get pa) hl, q _ (hs.set p (fun z => z))⟩
/-! #### fields -/
theorem r_fld {f : Str} (q : ta σ H (FldK K f Q)) : tFld K ta f σ H Q := q
theorem r_fldK {C dx : Addr} {fs : List (Str × V)} {f : Str} (h : H a = some (.ins C dx fs)) (c : Cls K C) (nf : NoAttr K C f) (l : fs.lookup f = some v) (q : Q v H) : FldK K f Q (.ref a) H := ⟨a, C, dx, fs, v, rfl, h, c, nf, l, q⟩
theorem r_sFld {f : Str} (q : te σ H fun y H1 => ta σ H1 (SFldK K f (D.nx σ) y)) : sFld K ta te f D σ H := q
theorem r_sFldK {C dx : Addr} {fs fs' : List (Str × V)} {f : Str} (hs : Hd L H) (p : Put (pto a (.ins C dx fs)) (pto a (.ins C dx fs')) L L') (e : putF f y fs = fs') (c : Cls K C) (nf : NoAttr K C f) (hl : fs.length < 1000) (q : ∀ H', Hd L' H' → N H') : SFldK K f N y (.ref a) H := by
  obtain ⟨M, pa, _⟩ := p.pulls
  subst e
  exact ⟨a, C, dx, fs, rfl, hs.get pa, c, nf, hl, q _ (hs.set p (fun z => z))⟩
/-! #### calls of methods -/
theorem r_meth {C : Addr} {m : Str} {sp : Sp} {dvs : List V} {E : XK} (q : ta σ H (MethK C m fun x H1 => tr σ H1 fun vs H2 => sp (x :: (vs ++ dvs)) H2 Q E)) : tMeth C m sp dvs E ta tr σ H Q := q
theorem r_methK {C dx : Addr} {fs : List (Str × V)} {m : Str} {R : V → Hp → Prop} (h : H a = some (.ins C dx fs)) (l : fs.lookup m = none) (q : R (.ref a) H) : MethK C m R (.ref a) H := ⟨a, dx, fs, rfl, h, l, q⟩
theorem r_make {C : Addr} {sp : Sp} {dvs : List V} {E : XK} (q : tr σ H (MakeK C sp dvs E Q)) : tMake C sp dvs E tr σ H Q := q
theorem r_makeK {C : Addr} {sp : Sp} {dvs vs : List V} {E : XK} (hs : Hd L H) (q : ∀ x dx H', Hd (pto x (.ins C dx []) :: L) H' → sp (.ref x :: (vs ++ dvs)) H' (fun v H2 => v = .non ∧ Q (.ref x) H2) E) : MakeK C sp dvs E Q vs H := fun x dx nx nd ne =>
  q x dx _ ((hs.new nd).tl.new (by rw [upd_ne ne.symm]; exact nx))
theorem r_bm {T : String} {rm : V → List V → Hp → VK → Prop} (q : ta σ H fun x H1 => tyV K T x H1 ∧ tr σ H1 fun xs H2 => rm x xs H2 Q) : tBM K T rm ta tr σ H Q := q
theorem r_bm0 {T : String} {rm : V → List V → Hp → VK → Prop} (q : ta σ H fun x H1 => tyV K T x H1 ∧ rm x [] H1 Q) : tBM0 K T rm ta σ H Q := q
theorem r_tyL {R : Prop} (h : SqL K H a xs) (q : R) : tyV K "list" (.ref a) H ∧ R := ⟨.inl ⟨rfl, _, h⟩, q⟩
theorem r_tyD {kvs : List (Key × V)} {R : Prop} (h : H a = some (.dK kvs)) (q : R) : tyV K "dict" (.ref a) H ∧ R := ⟨.inr (.inr (.inl ⟨rfl, .inl ⟨_, h⟩⟩)), q⟩
theorem r_tyS {z : Str} {R : Prop} (q : R) : tyV K "str" (.str z) H ∧ R := ⟨rfl, q⟩
theorem r_append (hs : Hd L H) (p : Put (pto a (.lst xs)) (pto a (.lst (xs ++ [y]))) L L') (hl : xs.length < sizeLine) (q : ∀ H', Hd L' H' → Q .non H') : rAppend (.ref a) [y] H Q := by
  obtain ⟨M, pa, _⟩ := p.pulls
  exact ⟨a, xs, y, rfl, rfl, hs.get pa, hl, q _ (hs.set p (fun z => z))⟩
theorem r_extend {c : Addr} (hs : Hd L H) (p : Put (pto a (.lst xs)) (pto a (.lst (xs ++ ys))) L L') (hb : H c = some (.lst ys)) (hl : xs.length + ys.length ≤ sizeLine) (q : ∀ H', Hd L' H' → Q .non H') : rExtend (.ref a) [.ref c] H Q := by
  obtain ⟨M, pa, _⟩ := p.pulls
  exact ⟨a, c, xs, ys, rfl, rfl, hs.get pa, hb, hl, q _ (hs.set p (fun z => z))⟩
theorem r_pop (hs : Hd L H) (p : Put (pto a (.lst xs)) (pto a (.lst xs.dropLast)) L L') (hy : xs[xs.length - 1]? = some y) (q : ∀ H', Hd L' H' → Q y H') : rPop (.ref a) [] H Q := by
  obtain ⟨M, pa, _⟩ := p.pulls
  exact ⟨a, xs, y, rfl, rfl, hs.get pa, hy, q _ (hs.set p (fun z => z))⟩
theorem r_popAt (hs : Hd L H) (p : Put (pto a (.lst xs)) (pto a (.lst (xs.eraseIdx n))) L L') (hz : xs.length ≤ sizeLine) (hy : xs[n]? = some y) (q : ∀ H', Hd L' H' → Q y H') : rPopAt (.ref a) [.int (n : Int)] H Q := by
  obtain ⟨M, pa, _⟩ := p.pulls
  have hn := (List.getElem?_eq_some_iff.mp hy).1
  have e := sizeLine_eq
  have g : seqIndex? (n : Int) xs.length = some n := by
    have := (ixN_seq (n := xs.length) (i := (n : Int)) (j := n) (by
      unfold ixN
      rw [if_pos (Int.natCast_nonneg n), if_pos (by omega), Int.toNat_natCast])).1
    exact this
  exact ⟨a, xs, (n : Int), n, y, rfl, rfl, hs.get pa, by omega, by omega, g, hy, q _ (hs.set p (fun z => z))⟩
theorem r_clear (hs : Hd L H) (p : Put (pto a (.lst xs)) (pto a (.lst [])) L L') (q : ∀ H', Hd L' H' → Q .non H') : rClear (.ref a) [] H Q := by
  obtain ⟨M, pa, _⟩ := p.pulls
  exact ⟨a, xs, rfl, rfl, hs.get pa, q _ (hs.set p (fun z => z))⟩
/-! #### slices -/
theorem r_sl {rs : V → Option Int → Option Int → Hp → VK → Prop} {tl th : TO} (q : te σ H fun x H1 => tl σ H1 fun l H2 => th σ H2 fun u H3 => rs x l u H3 Q) : tSl rs te tl th σ H Q := q
theorem r_noPart {QO : Option Int → Hp → Prop} (q : QO none H) : tNoPart σ H QO := q
theorem r_part {QO : Option Int → Hp → Prop} (q : te σ H (PartK QO)) : tPart te σ H QO := q
theorem r_partK {QO : Option Int → Hp → Prop} (q : QO (some i) H) : PartK QO (.int i) H := ⟨i, rfl, q⟩
theorem r_slL {lo hi : Option Int} (hs : Hd L H) (h : SqL K H a xs) (q : ∀ p H', Hd (pto p (.lst (cutV xs lo hi)) :: L) H' → Q (.ref p) H') : rSlL K (.ref a) lo hi H Q := ⟨a, xs, rfl, h, fun p n => q p _ (hs.new n)⟩
/-! #### dicts -/
theorem r_dnew (hs : Hd L H) (q : ∀ p H', Hd (pto p (.dK []) :: L) H' → Q (.ref p) H') : tDNewK σ H Q := fun p n => q p _ (hs.new n)
theorem r_disp {trs : List (TE × TE)} (hs : Hd L H) (q : ∀ p H', Hd (pto p (.dK []) :: L) H' → tPairs trs σ H' (DispE p Q)) : tDisp trs σ H Q := fun p n => q p _ (hs.new n)
theorem r_pairsN {QP : List (V × V) → Hp → Prop} (q : QP [] H) : tPairs [] σ H QP := q
theorem r_pairsC {QP : List (V × V) → Hp → Prop} {trs : List (TE × TE)} (q : ta σ H fun x H1 => tb σ H1 fun y H2 => tPairs trs σ H2 fun ps H3 => QP ((x, y) :: ps) H3) : tPairs ((ta, tb) :: trs) σ H QP := q
theorem r_dispE {ps : List (V × V)} {kvs kvs' : List (Key × V)} (hs : Hd L H) (p' : Put (pto p (.dK [])) (pto p (.dK kvs')) L L') (e : ps = kvs.map (fun kv => (kV kv.1, kv.2))) (hl : kvs.length ≤ 15) (e2 : mergeK [] kvs = kvs') (q : ∀ H', Hd L' H' → Q (.ref p) H') : DispE p Q ps H := by
  obtain ⟨M, pa, _⟩ := p'.pulls
  subst e2
  exact ⟨hs.get pa, kvs, e, hl, q _ (hs.set p' (fun z => z))⟩
theorem r_dget1 (q : ta σ H (IsDK fun a H1 => tb σ H1 (GetE1 a Q))) : tDGet1 ta tb σ H Q := q
theorem r_dget2 (q : ta σ H (IsDK fun a H1 => tb σ H1 fun y H2 => tx σ H2 (GetE2 a y Q))) : tDGet2 ta tb tx σ H Q := q
theorem r_isD {kvs : List (Key × V)} {R : Addr → Hp → Prop} (h : H a = some (.dK kvs)) (q : R a H) : IsDK R (.ref a) H := ⟨a, rfl, .inl ⟨_, .inl h⟩, q⟩
theorem r_get1i {kvs : List (Key × V)} (h : H a = some (.dK kvs)) (q : Q ((valV kvs (.inl i)).getD .non) H) : GetE1 a Q (.int i) H := ⟨_, DGet.k (k := .inl i) h, q⟩
theorem r_get1s {z : Str} {kvs : List (Key × V)} (h : H a = some (.dK kvs)) (q : Q ((valV kvs (.inr z)).getD .non) H) : GetE1 a Q (.str z) H := ⟨_, DGet.k (k := .inr z) h, q⟩
theorem r_get2i {kvs : List (Key × V)} (h : H a = some (.dK kvs)) (q : Q ((valV kvs (.inl i)).getD x) H) : GetE2 a (.int i) Q x H := ⟨_, DGet.k (k := .inl i) h, q⟩
theorem r_get2s {z : Str} {kvs : List (Key × V)} (h : H a = some (.dK kvs)) (q : Q ((valV kvs (.inr z)).getD x) H) : GetE2 a (.str z) Q x H := ⟨_, DGet.k (k := .inr z) h, q⟩
/-! #### calls of built-ins -/
theorem r_lenL (h : SqL K H a xs) (q : Q (.int xs.length) H) : rLenU K [.ref a] H Q := .inl ⟨_, _, rfl, .inl ⟨_, h, rfl⟩, q⟩
theorem r_lenT (h : SqT K H a xs) (q : Q (.int xs.length) H) : rLenU K [.ref a] H Q := .inl ⟨_, _, rfl, .inr ⟨_, h, rfl⟩, q⟩
theorem r_lenS {z : Str} (h : z.length ≤ sizeLine) (q : Q (.int z.length) H) : rLenU K [.str z] H Q := .inl ⟨_, _, rfl, ⟨h, rfl⟩, q⟩
theorem r_lenD {kvs : List (Key × V)} (h : H a = some (.dK kvs)) (q : Q (.int kvs.length) H) : rLenU K [.ref a] H Q := .inr ⟨_, _, rfl, h, q⟩
theorem r_abs (q : Q (.int (if i < 0 then -i else i)) H) : rAbs [.int i] H Q := ⟨_, rfl, q⟩
theorem r_max2 (q : Q (.int (if j > i then j else i)) H) : rMax2 [.int i, .int j] H Q := ⟨_, _, rfl, q⟩
theorem r_min2 (q : Q (.int (if j < i then j else i)) H) : rMin2 [.int i, .int j] H Q := ⟨_, _, rfl, q⟩
theorem r_int1b (q : Q (.int (if b then 1 else 0)) H) : rInt1 [.bl b] H Q := .inr ⟨_, rfl, q⟩
theorem r_int1 (q : Q (.int i) H) : rInt1 [.int i] H Q := .inl ⟨_, rfl, q⟩
theorem r_listL (hs : Hd L H) (h : SqL K H a xs) (q : ∀ p H', Hd (pto p (.lst xs) :: L) H' → Q (.ref p) H') : rListOf K [.ref a] H Q := ⟨a, xs, rfl, .inl h, fun p n => q p _ (hs.new n)⟩
theorem r_listT (hs : Hd L H) (h : SqT K H a xs) (q : ∀ p H', Hd (pto p (.lst xs) :: L) H' → Q (.ref p) H') : rListOf K [.ref a] H Q := ⟨a, xs, rfl, .inr h, fun p n => q p _ (hs.new n)⟩
theorem r_tupleL (hs : Hd L H) (h : SqL K H a xs) (q : ∀ p H', Hd (pto p (.tup xs) :: L) H' → Q (.ref p) H') : rTupleOf K [.ref a] H Q := ⟨a, xs, rfl, .inl ⟨h, fun p n => q p _ (hs.new n)⟩⟩
theorem r_tupleT (h : SqT K H a xs) (q : Q (.ref a) H) : rTupleOf K [.ref a] H Q := ⟨a, xs, rfl, .inr ⟨h, q⟩⟩
theorem r_sum {ns : List Int} (h : SqL K H a (ns.map V.int)) (q : Q (.int ns.sum) H) : rSum K [.ref a] H Q := ⟨a, ns, rfl, h, q⟩
theorem r_all {bs : List Bool} (h : SqL K H a (bs.map V.bl)) (q : Q (.bl (bs.all id)) H) : rAll K [.ref a] H Q := ⟨a, bs, rfl, h, q⟩
theorem r_isi {c : V} {t u : Value} (hc : ClsV c u) (ty : TyX K H x t) (e : PySem.W.kitOne K t u = some b) (q : Q (.bl b) H) : rIsiU K [x, c] H Q := .inl ⟨x, c, t, u, b, rfl, hc, ty, e, q⟩
end
end Sl
namespace Sl
open PySem L2
theorem sz {n : Nat} (h : n ≤ 100000) : n ≤ sizeLine := Nat.le_trans h (by decide)
theorem szlt {n : Nat} (h : n < 100000) : n < sizeLine := Nat.lt_of_lt_of_le h (by decide)
theorem sqT_K {K : PySem.W.Frag} {a : Addr} {xs : List V} {us : List Value} {n : Nat} {H : Hp} (h : K.lookup a = some ⟨.type "tuple", none, .seq us.toArray n, #[]⟩) (hl : xs.length ≤ sizeLine) (r : Vals xs us) : SqT K H a xs :=
  .inr ⟨_, us.toArray, n, h, rfl, rfl, by rw [List.size_toArray, ← r.length]; exact hl, by simpa using r⟩
end Sl
namespace Sl
open PySem L2
theorem Hd.one {A : SA} {H : Hp} (h : A H) : Hd [A] H := ⟨H, fun _ => none, fun _ _ _ _ h => (nomatch h), Sub.refl _, fun _ _ h => (nomatch h), h, trivial⟩
/-- an atom that is true of greater heaps, too -/
def Up (A : SA) : Prop := ∀ H H', Sub H H' → A H → A H'
theorem Hd.at {A : SA} {L L' : List SA} {H : Hp} (u : Up A) (h : Hd L H) (p : Pull A L L') : A H := by
  obtain ⟨H1, H2, _, s, _, e, _⟩ := h.pull p
  exact u _ _ s e
theorem up_pto (a : Addr) (o : HO) : Up (pto a o) := fun _ _ s h => s _ _ h
/-- two atoms made one -/
theorem Hd.join {A B C : SA} {L : List SA} {H : Hp} (ua : Up A) (ub : Up B) (h : Hd (A :: B :: L) H) (f : ∀ H, A H → B H → C H) : Hd (C :: L) H := by
  obtain ⟨H1, H2, c, s1, s2, p, H3, H4, c2, s3, s4, q, r⟩ := h
  have c13 := c.sub (Sub.refl _) s3
  have c14 := c.sub (Sub.refl _) s4
  exact ⟨uni H1 H3, H4, (uni_cmp c14.symm c2.symm).symm, uni_sub s1 (s3.trans s2), s4.trans s2, f _ (ua _ _ (uni_l _ _) p) (ub _ _ (uni_r c13) q), r⟩
/-- an object of an atom is changed -/
theorem Hd.chg {A B : SA} {L : List SA} {H : Hp} {d : Addr} {o' : HO} (h : Hd (A :: L) H) (m : ∀ H, A H → ∃ o, H d = some o ∧ ¬ Imm o) (f : ∀ H, A H → B (upd H d o')) : Hd (B :: L) (upd H d o') := by
  obtain ⟨H1, H2, c, s1, s2, p, q⟩ := h
  obtain ⟨o, ho, hm⟩ := m _ p
  have n : H2 d = none := by
    cases z : H2 d with
    | none => rfl
    | some u => exact (hm (c d o u ho z).2).elim
  refine ⟨upd H1 d o', H2, fun b o1 o2 h1 h2 => ?_, fun b u e => ?_, fun b u e => ?_, f _ p, q⟩
  · by_cases z : b = d
    · subst z
      rw [n] at h2
      cases h2
    · rw [upd_ne z] at h1
      exact c b o1 o2 h1 h2
  · by_cases z : b = d
    · subst z
      rw [upd_same] at e ⊢
      exact e
    · rw [upd_ne z] at e ⊢
      exact s1 b u e
  · have z : b ≠ d := fun z => by
      subst z
      rw [n] at e
      cases e
    rw [upd_ne z]
    exact s2 b u e
/-- what is true at all greater heaps of A's piece may be carried beside it -/
theorem Hd.also {A B : SA} {L : List SA} {H : Hp} (h : Hd (A :: L) H) (f : ∀ H, A H → B H) : Hd (B :: L) H := h.imp f
end Sl
namespace Sl
open PySem L2
theorem flat_ints (ns : List Int) : (ns.map V.int).all flatV = true := by
  rw [List.all_map, List.all_eq_true]
  exact fun _ _ => rfl
end Sl
namespace Sl
open PySem L2
/-- what stands behind several ways is shown once: tail at each of them, then its proof -/
theorem r_late {L : List SA} {H : Hp} {B : Prop} {R : Hp → Prop} (_ : Hd L H) (f : (∀ H, Hd L H → R H) → B) (a : ∀ H, Hd L H → R H) : B := f a
end Sl

set_option maxRecDepth 100000
set_option maxHeartbeats 1000000
namespace Sl
open PySem L2
/-! ### what is walked -/
def Rng1K (R : It → Hp → Prop) (vs : List V) (H : Hp) : Prop := ∃ j : Int, vs = [.int j] ∧ -(2 ^ 62) ≤ j ∧ j < 2 ^ 62 ∧ R (Itr 0 j.toNat) H
def Rng2K (R : It → Hp → Prop) (vs : List V) (H : Hp) : Prop := ∃ i j : Int, vs = [.int i, .int j] ∧ (-(2 ^ 62) ≤ i ∧ i < 2 ^ 62 ∧ -(2 ^ 62) ≤ j ∧ j < 2 ^ 62) ∧ R (Itr i (j - i).toNat) H
def ListK (K : PySem.W.Frag) (R : It → Hp → Prop) (x : V) (H : Hp) : Prop := ∃ a, x = .ref a ∧ (∃ xs, SqL K H a xs) ∧ R (Itl K a) H
def TupK (K : PySem.W.Frag) (R : It → Hp → Prop) (x : V) (H : Hp) : Prop := ∃ a, x = .ref a ∧ (∃ xs, SqT K H a xs) ∧ R (Itt K a) H
def EnumK (K : PySem.W.Frag) (R : It → Hp → Prop) (vs : List V) (H : Hp) : Prop := ∃ a xs, vs = [.ref a] ∧ SqL K H a xs ∧ R (Ite K a) H
def ZipK (K : PySem.W.Frag) (R : It → Hp → Prop) (vs : List V) (H : Hp) : Prop := ∃ a b xs ys, vs = [.ref a, .ref b] ∧ SqL K H a xs ∧ SqL K H b ys ∧ R (Itz K a b) H
/-- a loop's turns; a comprehension's -/
def ForK (g : TG) (tb : TS) (D : Ends) (σ : L2.St) (J : It) (H : Hp) : Prop := ∃ W : Nat → Nat → L2.St → Hp → Prop, (∃ m, W 0 m σ H) ∧ ∀ i m σ H, W i m σ H →
  (J.stop i H ∧ D.nx σ H) ∨ (J.go i H ∧ ∃ N : L2.St → Hp → Prop, (∀ σ' H', N σ' H' → ∃ m', m' < m ∧ W (i + 1) m' σ' H') ∧ ∀ x H', J.yld i H x H' → g x σ H' fun σ2 H2 => tb { D with nx := N, ct := N, bk := D.nx } σ2 H2)
def LcK (g : TG) (tt : TT) (te : TE) (vs : List Nat) (σ : L2.St) (Q : VK) (J : It) (H1 : Hp) : Prop := ∀ D, H1 D = none → ∃ W : Nat → Nat → Hp → Prop, (∃ m, W 0 m (upd H1 D (.lst []))) ∧ ∀ i m H, W i m H →
  (J.stop i H ∧ Q (.ref D) H) ∨ (J.go i H ∧ ∃ Nx : Hp → Prop, (∀ H', Nx H' → ∃ m', m' < m ∧ W (i + 1) m' H') ∧ ∀ x H', J.yld i H x H' → g x (wipe σ vs) H' fun σ2 H2 => wipe σ2 vs = wipe σ vs ∧ tt σ2 H2 fun b H3 =>
    if b = true then te σ2 H3 fun y H4 => ∃ acc, H4 D = some (.lst acc) ∧ acc.length < sizeLine ∧ Nx (upd H4 D (.lst (acc ++ [y]))) else Nx H3)
def AppK (D : Addr) (N : Hp → Prop) (y : V) (H : Hp) : Prop := ∃ acc, H D = some (.lst acc) ∧ acc.length < sizeLine ∧ N (upd H D (.lst (acc ++ [y])))
section
variable {K : PySem.W.Frag} {σ : L2.St} {H : Hp} {D : Ends} {t u tb : TS} {te : TE} {tr : TA} {tt : TT} {wi : TI} {g : TG} {gs : TGs} {Q : VK} {R : It → Hp → Prop} {v x y : V} {i j k : Int} {n : Nat}
  {L L' : List SA} {a b p T : Addr} {xs ys : List V} {vs : List Nat} {QS : L2.St → Hp → Prop}
theorem r_for (q : wi σ H (ForK g tb D σ)) : tFor wi g tb D σ H := q
theorem r_lc (q : wi σ H (LcK g tt te vs σ Q)) : tLc wi g tt te vs σ H Q := q
theorem r_rng1 (q : tr σ H (Rng1K R)) : iRng1 tr σ H R := q
theorem r_rng2 (q : tr σ H (Rng2K R)) : iRng2 tr σ H R := q
theorem r_iList (q : te σ H (ListK K R)) : iList K te σ H R := q
theorem r_iTup (q : te σ H (TupK K R)) : iTup K te σ H R := q
theorem r_iEnum (q : tr σ H (EnumK K R)) : iEnum K tr σ H R := q
theorem r_iZip (q : tr σ H (ZipK K R)) : iZip K tr σ H R := q
theorem r_rng1K (h : -4000000000000000000 ≤ j ∧ j ≤ 4000000000000000000) (q : R (Itr 0 j.toNat) H) : Rng1K R [.int j] H := ⟨j, rfl, by omega, by omega, q⟩
theorem r_rng2K (h : -4000000000000000000 ≤ i ∧ i ≤ 4000000000000000000 ∧ -4000000000000000000 ≤ j ∧ j ≤ 4000000000000000000) (q : R (Itr i (j - i).toNat) H) : Rng2K R [.int i, .int j] H := ⟨i, j, rfl, ⟨by omega, by omega, by omega, by omega⟩, q⟩
theorem r_listK (h : SqL K H a xs) (q : R (Itl K a) H) : ListK K R (.ref a) H := ⟨a, rfl, ⟨xs, h⟩, q⟩
theorem r_tupK (h : SqT K H a xs) (q : R (Itt K a) H) : TupK K R (.ref a) H := ⟨a, rfl, ⟨xs, h⟩, q⟩
theorem r_enumK (h : SqL K H a xs) (q : R (Ite K a) H) : EnumK K R [.ref a] H := ⟨a, xs, rfl, h, q⟩
theorem r_zipK (h : SqL K H a xs) (h2 : SqL K H b ys) (q : R (Itz K a b) H) : ZipK K R [.ref a, .ref b] H := ⟨a, b, xs, ys, rfl, h, h2, q⟩
theorem r_gTup {k : Nat} (h : SqT K H a xs) (hl : xs.length = k) (q : gs xs σ H QS) : gTup K k gs (.ref a) σ H QS := ⟨a, xs, rfl, h, hl, q⟩
theorem r_gTupNew {k : Nat} (hs : Hd L H) (hT : H T = none) (hl : xs.length = k) (q : ∀ H', Hd (pto T (.tup xs) :: L) H' → gs xs σ H' QS) : gTup K k gs (.ref T) σ (upd H T (.tup xs)) QS :=
  ⟨T, xs, rfl, SqT.of upd_same, hl, q _ (hs.new hT)⟩
theorem r_gCons {xs : List V} (q : g x σ H fun σ' H' => gs xs σ' H' QS) : gCons g gs (x :: xs) σ H QS := ⟨x, xs, rfl, q⟩
theorem r_gNil (q : QS σ H) : gNil [] σ H QS := ⟨rfl, q⟩
theorem r_yes {QT : Bool → Hp → Prop} (q : QT true H) : tYes σ H QT := q
theorem r_appK {acc : List V} {D : Addr} {N : Hp → Prop} (hs : Hd L H) (p : Put (pto D (.lst acc)) (pto D (.lst (acc ++ [y]))) L L') (hl : acc.length < sizeLine) (q : ∀ H', Hd L' H' → N H') : AppK D N y H := by
  obtain ⟨M, pa, _⟩ := p.pulls
  exact ⟨acc, hs.get pa, hl, q _ (hs.set p (fun z => z))⟩
theorem r_par {i j : Nat} (q : tr σ H fun vs H1 => ∃ v w, vs = [v, w] ∧ D.nx ((σ.set i (some v)).set j (some w)) H1) : tPar i j tr D σ H := q
theorem r_mulT (hs : Hd L H) (h : SqT K H a xs) (hx : xs ≠ []) (hk : 2 ≤ k ∧ k ≤ 1000) (hl : xs.length ≤ 1000) (q : ∀ p H', Hd (pto p (.tup (List.replicate k.toNat xs).flatten) :: L) H' → Q (.ref p) H') : rMulU K (.ref a) (.int k) H Q :=
  .inr (.inr ⟨a, k, xs, rfl, rfl, h, hx, hk.1, hk.2, hl, fun p n => q p _ (hs.new n)⟩)
/-! #### loops by an invariant -/
theorem r_forW {J : It} {G : Hp → Prop} {Y : Nat → Hp → V → Hp → Prop} (w : Walk J n G Y) (P : Nat → L2.St → Hp → Prop) (h0 : P 0 σ H) (hG : ∀ i σ H, i ≤ n → P i σ H → G H)
    (hs : ∀ i x σ H H', i < n → P i σ H → Y i H x H' → g x σ H' fun σ2 H2 => tb { D with nx := P (i + 1), ct := P (i + 1), bk := D.nx } σ2 H2) (hd : ∀ σ H, P n σ H → D.nx σ H) : ForK g tb D σ J H := for_it w P h0 hG hs hd
theorem r_forR {lo : Int} (P : Nat → L2.St → Hp → Prop) (h0 : P 0 σ H)
    (hs : ∀ i σ H, i < n → P i σ H → g (.int (lo + (i : Nat))) σ H fun σ2 H2 => tb { D with nx := P (i + 1), ct := P (i + 1), bk := D.nx } σ2 H2) (hd : ∀ σ H, P n σ H → D.nx σ H) : ForK g tb D σ (Itr lo n) H :=
  r_forW walk_range P h0 (fun _ _ _ _ _ => trivial) (fun i x σ H H' hi p y => by
    obtain ⟨e, y⟩ := y
    subst e y
    exact hs i σ _ hi p) hd
theorem r_forL (xs : List V) (P : Nat → L2.St → Hp → Prop) (h0 : P 0 σ H) (hl : ∀ i σ H, i ≤ xs.length → P i σ H → SqL K H a xs)
    (hs : ∀ i x σ H, xs[i]? = some x → P i σ H → g x σ H fun σ2 H2 => tb { D with nx := P (i + 1), ct := P (i + 1), bk := D.nx } σ2 H2) (hd : ∀ σ H, P xs.length σ H → D.nx σ H) : ForK g tb D σ (Itl K a) H :=
  r_forW walk_list P h0 hl (fun i x σ H H' hi p y => by
    obtain ⟨e, y⟩ := y
    subst e
    exact hs i x σ _ y p) hd
theorem r_forT (xs : List V) (P : Nat → L2.St → Hp → Prop) (h0 : P 0 σ H) (hl : ∀ i σ H, i ≤ xs.length → P i σ H → SqT K H a xs)
    (hs : ∀ i x σ H, xs[i]? = some x → P i σ H → g x σ H fun σ2 H2 => tb { D with nx := P (i + 1), ct := P (i + 1), bk := D.nx } σ2 H2) (hd : ∀ σ H, P xs.length σ H → D.nx σ H) : ForK g tb D σ (Itt K a) H :=
  r_forW walk_tup P h0 hl (fun i x σ H H' hi p y => by
    obtain ⟨e, y⟩ := y
    subst e
    exact hs i x σ _ y p) hd
theorem r_forE (xs : List V) (P : Nat → L2.St → Hp → Prop) (h0 : P 0 σ H) (hl : ∀ i σ H, i ≤ xs.length → P i σ H → SqL K H a xs)
    (hs : ∀ i x T σ H, xs[i]? = some x → P i σ H → H T = none → g (.ref T) σ (upd H T (.tup [.int (i : Nat), x])) fun σ2 H2 => tb { D with nx := P (i + 1), ct := P (i + 1), bk := D.nx } σ2 H2) (hd : ∀ σ H, P xs.length σ H → D.nx σ H) : ForK g tb D σ (Ite K a) H :=
  r_forW walk_enum P h0 hl (fun i x σ H H' hi p y => by
    obtain ⟨T, z, w, rfl, hT, rfl, e1, e2⟩ := y
    cases e1
    exact hs i w T σ _ e2 p hT) hd
theorem r_forZ (xs ys : List V) (hn : n = min xs.length ys.length) (P : Nat → L2.St → Hp → Prop) (h0 : P 0 σ H) (hl : ∀ i σ H, i ≤ n → P i σ H → SqL K H a xs ∧ SqL K H b ys)
    (hs : ∀ i x y T σ H, xs[i]? = some x → ys[i]? = some y → P i σ H → H T = none → g (.ref T) σ (upd H T (.tup [x, y])) fun σ2 H2 => tb { D with nx := P (i + 1), ct := P (i + 1), bk := D.nx } σ2 H2) (hd : ∀ σ H, P n σ H → D.nx σ H) : ForK g tb D σ (Itz K a b) H :=
  r_forW (walk_zip hn) P h0 hl (fun i x σ H H' hi p y => by
    obtain ⟨T, z, w, rfl, hT, rfl, e1, e2⟩ := y
    exact hs i z w T σ _ e1 e2 p hT) hd
/-! #### comprehensions: P D i: what holds behind i turns, the new list at D -/
theorem r_lcW {J : It} {G : Hp → Prop} {Y : Nat → Hp → V → Hp → Prop} (w : Walk J n G Y) (P : Addr → Nat → Hp → Prop) (hh : Hd L H) (h0 : ∀ D H', Hd (pto D (.lst []) :: L) H' → P D 0 H') (hG : ∀ D i H, i ≤ n → P D i H → G H)
    (hs : ∀ D i x H H', i < n → P D i H → Y i H x H' → g x (wipe σ vs) H' fun σ2 H2 => wipe σ2 vs = wipe σ vs ∧ tt σ2 H2 fun b H3 => if b = true then te σ2 H3 (AppK D (P D (i + 1))) else P D (i + 1) H3)
    (hd : ∀ D H, P D n H → Q (.ref D) H) : LcK g tt te vs σ Q J H := fun D hD =>
  lc_it w (P D) (h0 D _ (hh.new hD)) (hG D) (fun i x H H' hi p y => hs D i x H H' hi p y) (hd D)
theorem r_lcR {lo : Int} (P : Addr → Nat → Hp → Prop) (hh : Hd L H) (h0 : ∀ D H', Hd (pto D (.lst []) :: L) H' → P D 0 H')
    (hs : ∀ D i H, i < n → P D i H → g (.int (lo + (i : Nat))) (wipe σ vs) H fun σ2 H2 => wipe σ2 vs = wipe σ vs ∧ tt σ2 H2 fun b H3 => if b = true then te σ2 H3 (AppK D (P D (i + 1))) else P D (i + 1) H3)
    (hd : ∀ D H, P D n H → Q (.ref D) H) : LcK g tt te vs σ Q (Itr lo n) H :=
  r_lcW walk_range P hh h0 (fun _ _ _ _ _ => trivial) (fun D i x H H' hi p y => by
    obtain ⟨e, y⟩ := y
    subst e y
    exact hs D i _ hi p) hd
theorem r_lcL (xs : List V) (P : Addr → Nat → Hp → Prop) (hh : Hd L H) (h0 : ∀ D H', Hd (pto D (.lst []) :: L) H' → P D 0 H') (hl : ∀ D i H, i ≤ xs.length → P D i H → SqL K H a xs)
    (hs : ∀ D i x H, xs[i]? = some x → P D i H → g x (wipe σ vs) H fun σ2 H2 => wipe σ2 vs = wipe σ vs ∧ tt σ2 H2 fun b H3 => if b = true then te σ2 H3 (AppK D (P D (i + 1))) else P D (i + 1) H3)
    (hd : ∀ D H, P D xs.length H → Q (.ref D) H) : LcK g tt te vs σ Q (Itl K a) H :=
  r_lcW walk_list P hh h0 hl (fun D i x H H' hi p y => by
    obtain ⟨e, y⟩ := y
    subst e
    exact hs D i x _ y p) hd
theorem r_lcT (xs : List V) (P : Addr → Nat → Hp → Prop) (hh : Hd L H) (h0 : ∀ D H', Hd (pto D (.lst []) :: L) H' → P D 0 H') (hl : ∀ D i H, i ≤ xs.length → P D i H → SqT K H a xs)
    (hs : ∀ D i x H, xs[i]? = some x → P D i H → g x (wipe σ vs) H fun σ2 H2 => wipe σ2 vs = wipe σ vs ∧ tt σ2 H2 fun b H3 => if b = true then te σ2 H3 (AppK D (P D (i + 1))) else P D (i + 1) H3)
    (hd : ∀ D H, P D xs.length H → Q (.ref D) H) : LcK g tt te vs σ Q (Itt K a) H :=
  r_lcW walk_tup P hh h0 hl (fun D i x H H' hi p y => by
    obtain ⟨e, y⟩ := y
    subst e
    exact hs D i x _ y p) hd
theorem r_lcE (xs : List V) (P : Addr → Nat → Hp → Prop) (hh : Hd L H) (h0 : ∀ D H', Hd (pto D (.lst []) :: L) H' → P D 0 H') (hl : ∀ D i H, i ≤ xs.length → P D i H → SqL K H a xs)
    (hs : ∀ D i x T H, xs[i]? = some x → P D i H → H T = none → g (.ref T) (wipe σ vs) (upd H T (.tup [.int (i : Nat), x])) fun σ2 H2 => wipe σ2 vs = wipe σ vs ∧ tt σ2 H2 fun b H3 => if b = true then te σ2 H3 (AppK D (P D (i + 1))) else P D (i + 1) H3)
    (hd : ∀ D H, P D xs.length H → Q (.ref D) H) : LcK g tt te vs σ Q (Ite K a) H :=
  r_lcW walk_enum P hh h0 hl (fun D i x H H' hi p y => by
    obtain ⟨T, z, w, rfl, hT, rfl, e1, e2⟩ := y
    cases e1
    exact hs D i w T _ e2 p hT) hd
end
theorem Hd.tup {L : List SA} {H : Hp} {t : Addr} {xs : List V} (h : Hd L H) (e : H t = some (.tup xs)) : Hd (pto t (.tup xs) :: L) H :=
  ⟨Sl.one t (.tup xs), H, fun b o1 o2 h1 h2 => by
    obtain ⟨rfl, rfl⟩ := of_one h1
    rw [e] at h2
    cases h2
    exact ⟨rfl, trivial⟩, one_sub e, Sub.refl _, one_at, h⟩
theorem cl_ints : ∀ ns : List Int, PyData.canLayAll0 (ns.map PyData.int) = true
  | [] => rfl
  | n :: r => by rw [List.map_cons, PyData.canLayAll0, cl_ints r]; rfl
theorem dt_ints : ∀ ns : List Int, PyData.depthAll (ns.map PyData.int) ≤ 1
  | [] => by decide
  | n :: r => by
    have h := dt_ints r
    rw [List.map_cons, PyData.depthAll]
    simp only [PyData.depth]
    omega
theorem sh_listI (ns : List Int) : SeqAt.shaped (.list (ns.map PyData.int)) = true := by
  have h := dt_ints ns
  unfold SeqAt.shaped
  rw [PyData.canLay0, cl_ints, Bool.true_and]
  apply decide_eq_true
  rw [PyData.depth]
  omega
theorem sh_tupI (ns : List Int) : SeqAt.shaped (.tuple (ns.map PyData.int)) = true := by
  have h := dt_ints ns
  unfold SeqAt.shaped
  rw [PyData.canLay0, cl_ints, Bool.true_and]
  apply decide_eq_true
  rw [PyData.depth]
  omega
/-- a list, or a tuple -/
def seqO : Bool → List V → HO
  | true, xs => .tup xs
  | false, xs => .lst xs
theorem r_setDX {v : V} {i : Int} {a : Addr} {H : Hp} {N : Hp → Prop} {kvs : List (Key × V)} (h : H a = some (.dK kvs)) (hl : kvs.length < sizeLine) (q : N (upd H a (.dK (putK kvs (.inl i) v)))) : rSetU (.ref a) (.int i) v H N := .inr ⟨a, _, rfl, DPut.k (k := .inl i) h hl, q⟩
theorem dp_ints {K : PySem.W.Frag} {H : Hp} : ∀ ns : List Int, DpAll K H (ns.map V.int) (ns.map PyData.int)
  | [] => .nil
  | n :: r => .cons (.int n) (dp_ints r)
theorem r_eqSame {K : PySem.W.Frag} {H : Hp} {x y : V} {Q : VK} {d : PyData} (h1 : Dp K H x d) (h2 : Dp K H y d) (s1 : SeqAt.shaped d = true) (e : PyData.eqv d d = true) (q : Q (.bl true) H) : rEqU K x y H Q := r_eqD h1 h2 s1 s1 (by rw [e]; exact q)
theorem r_neSame {K : PySem.W.Frag} {H : Hp} {x y : V} {Q : VK} {d : PyData} (h1 : Dp K H x d) (h2 : Dp K H y d) (s1 : SeqAt.shaped d = true) (e : PyData.eqv d d = true) (q : Q (.bl false) H) : rNeU K x y H Q := r_neD h1 h2 s1 s1 (by rw [e]; exact q)
end Sl
namespace Sl
open PySem L2
/-! ### the same rules, the written part named by a letter (within a comprehension's block) -/
section
variable {X : Cx} {K : PySem.W.Frag}
theorem k_add (h : X.K = K) : OpR X (binaryOp .Add) (rAddU K) := h ▸ u_add
theorem k_sub (_ : X.K = K) : OpR X (binaryOp .Sub) (rI0 fun i j => .int (i - j)) := u_sub
theorem k_mul (h : X.K = K) : OpR X (binaryOp .Mult) (rMulU K) := h ▸ u_mul
theorem k_div (_ : X.K = K) : OpR X (binaryOp .FloorDiv) rDivU := u_div
theorem k_mod (_ : X.K = K) : OpR X (binaryOp .Mod) (rI (fun _ j => 0 < j) fun i j => .int (i % j)) := u_mod
theorem k_pow (_ : X.K = K) : OpR X (binaryOp .Pow) (rI CPow fun i j => .int (i ^ j.toNat)) := u_pow
theorem k_eq (h : X.K = K) (hu : X.A.units + 64 < cLine) : OpR X (compareOp .Eq) (rEqU K) := h ▸ u_eq hu
theorem k_ne (h : X.K = K) (hu : X.A.units + 64 < cLine) : OpR X (compareOp .NotEq) (rNeU K) := h ▸ u_ne hu
theorem k_in (h : X.K = K) (hu : X.A.units + 1 < cLine) : OpR X (compareOp .In) (rInU K false) := h ▸ u_in hu
theorem k_notIn (h : X.K = K) (hu : X.A.units + 1 < cLine) : OpR X (compareOp .NotIn) (rInU K true) := h ▸ u_notIn hu
theorem k_ix (h : X.K = K) (hu : X.A.units + 1 < cLine) : IxR X (rIxU K) := h ▸ u_ix hu
theorem k_len (h : X.K = K) : CallR X (.builtin "len") (rLenU K) := h ▸ u_len
theorem k_list (h : X.K = K) : CallR X (.type "list") (rListOf K) := h ▸ u_list
theorem k_tuple (h : X.K = K) : CallR X (.type "tuple") (rTupleOf K) := h ▸ u_tuple
theorem k_isi (h : X.K = K) : CallR X (.builtin "isinstance") (rIsiU K) := h ▸ u_isi
theorem k_sum (h : X.K = K) (hc : X.calm = true) : CallR X (.builtin "sum") (rSum K) := h ▸ cr_sum hc
theorem k_all (h : X.K = K) (hc : X.calm = true) : CallR X (.builtin "all") (rAll K) := h ▸ cr_all hc
theorem k_any (h : X.K = K) (hc : X.calm = true) : CallR X (.builtin "any") (rAny K) := h ▸ cr_any hc
theorem k_sorted (h : X.K = K) : CallR X (.builtin "sorted") (rSortedI K) := h ▸ cr_sortedI
theorem k_max (h : X.K = K) (hc : X.calm = true) : CallR X (.builtin "max") (rMax K) := h ▸ cr_max hc
theorem k_min (h : X.K = K) (hc : X.calm = true) : CallR X (.builtin "min") (rMin K) := h ▸ cr_min hc
theorem k_slL (h : X.K = K) : SlR X (rSlL K) := h ▸ sl_list
theorem k_slT (h : X.K = K) : SlR X (rSlT K) := h ▸ sl_tup
theorem k_mtIndex (h : X.K = K) : MtR X "list.index" (rIndex K) := h ▸ mt_index
theorem k_mtCount (h : X.K = K) : MtR X "list.count" (rCntI K) := h ▸ mt_lcount
theorem k_fld {e : Expr} {ta : TE} {f : Str} {pos : Pos} (h : X.K = K) (he : PE X e ta) (hb : attributeBase e f X.env (eval e X.env) = eval e X.env) : PE X (.Attribute e f pos) (tFld K ta f) := h ▸ pe_fld he hb
theorem k_bm0 {o : Expr} {to : TE} {name : Str} {apos cpos : Pos} {T : String} {r : V → List V → Hp → VK → Prop} (h : X.K = K) (p : PE X (.Call (.Attribute o name apos) [] [] cpos) (tBM0 X.K T r to)) : PE X (.Call (.Attribute o name apos) [] [] cpos) (tBM0 K T r to) := h ▸ p
theorem k_bm {o e : Expr} {es : List Expr} {to : TE} {t : TA} {name : Str} {apos cpos : Pos} {T : String} {r : V → List V → Hp → VK → Prop} (h : X.K = K) (p : PE X (.Call (.Attribute o name apos) (e :: es) [] cpos) (tBM X.K T r to t)) : PE X (.Call (.Attribute o name apos) (e :: es) [] cpos) (tBM K T r to t) := h ▸ p
theorem k_gTup {es : List Expr} {k : Nat} {t : TGs} {n : Nat} {pos : Pos} (h : X.K = K) (p : PG X (.Tuple es k pos) (gTup X.K n t)) : PG X (.Tuple es k pos) (gTup K n t) := h ▸ p
end
end Sl
namespace Sl
open PySem L2
theorem kb_int_int {K : PySem.W.Frag} : PySem.W.kitOne K (.type "int") (.type "int") = some true := kit_ty (by decide +kernel)
theorem kb_int_bool {K : PySem.W.Frag} : PySem.W.kitOne K (.type "int") (.type "bool") = some false := kit_ty (by decide +kernel)
theorem kb_int_str {K : PySem.W.Frag} : PySem.W.kitOne K (.type "int") (.type "str") = some false := kit_ty (by decide +kernel)
theorem kb_int_list {K : PySem.W.Frag} : PySem.W.kitOne K (.type "int") (.type "list") = some false := kit_ty (by decide +kernel)
theorem kb_int_tuple {K : PySem.W.Frag} : PySem.W.kitOne K (.type "int") (.type "tuple") = some false := kit_ty (by decide +kernel)
theorem kb_int_dict {K : PySem.W.Frag} : PySem.W.kitOne K (.type "int") (.type "dict") = some false := kit_ty (by decide +kernel)
theorem kb_bool_int {K : PySem.W.Frag} : PySem.W.kitOne K (.type "bool") (.type "int") = some true := kit_ty (by decide +kernel)
theorem kb_bool_bool {K : PySem.W.Frag} : PySem.W.kitOne K (.type "bool") (.type "bool") = some true := kit_ty (by decide +kernel)
theorem kb_bool_str {K : PySem.W.Frag} : PySem.W.kitOne K (.type "bool") (.type "str") = some false := kit_ty (by decide +kernel)
theorem kb_bool_list {K : PySem.W.Frag} : PySem.W.kitOne K (.type "bool") (.type "list") = some false := kit_ty (by decide +kernel)
theorem kb_bool_tuple {K : PySem.W.Frag} : PySem.W.kitOne K (.type "bool") (.type "tuple") = some false := kit_ty (by decide +kernel)
theorem kb_bool_dict {K : PySem.W.Frag} : PySem.W.kitOne K (.type "bool") (.type "dict") = some false := kit_ty (by decide +kernel)
theorem kb_str_int {K : PySem.W.Frag} : PySem.W.kitOne K (.type "str") (.type "int") = some false := kit_ty (by decide +kernel)
theorem kb_str_bool {K : PySem.W.Frag} : PySem.W.kitOne K (.type "str") (.type "bool") = some false := kit_ty (by decide +kernel)
theorem kb_str_str {K : PySem.W.Frag} : PySem.W.kitOne K (.type "str") (.type "str") = some true := kit_ty (by decide +kernel)
theorem kb_str_list {K : PySem.W.Frag} : PySem.W.kitOne K (.type "str") (.type "list") = some false := kit_ty (by decide +kernel)
theorem kb_str_tuple {K : PySem.W.Frag} : PySem.W.kitOne K (.type "str") (.type "tuple") = some false := kit_ty (by decide +kernel)
theorem kb_str_dict {K : PySem.W.Frag} : PySem.W.kitOne K (.type "str") (.type "dict") = some false := kit_ty (by decide +kernel)
theorem kb_list_int {K : PySem.W.Frag} : PySem.W.kitOne K (.type "list") (.type "int") = some false := kit_ty (by decide +kernel)
theorem kb_list_bool {K : PySem.W.Frag} : PySem.W.kitOne K (.type "list") (.type "bool") = some false := kit_ty (by decide +kernel)
theorem kb_list_str {K : PySem.W.Frag} : PySem.W.kitOne K (.type "list") (.type "str") = some false := kit_ty (by decide +kernel)
theorem kb_list_list {K : PySem.W.Frag} : PySem.W.kitOne K (.type "list") (.type "list") = some true := kit_ty (by decide +kernel)
theorem kb_list_tuple {K : PySem.W.Frag} : PySem.W.kitOne K (.type "list") (.type "tuple") = some false := kit_ty (by decide +kernel)
theorem kb_list_dict {K : PySem.W.Frag} : PySem.W.kitOne K (.type "list") (.type "dict") = some false := kit_ty (by decide +kernel)
theorem kb_tuple_int {K : PySem.W.Frag} : PySem.W.kitOne K (.type "tuple") (.type "int") = some false := kit_ty (by decide +kernel)
theorem kb_tuple_bool {K : PySem.W.Frag} : PySem.W.kitOne K (.type "tuple") (.type "bool") = some false := kit_ty (by decide +kernel)
theorem kb_tuple_str {K : PySem.W.Frag} : PySem.W.kitOne K (.type "tuple") (.type "str") = some false := kit_ty (by decide +kernel)
theorem kb_tuple_list {K : PySem.W.Frag} : PySem.W.kitOne K (.type "tuple") (.type "list") = some false := kit_ty (by decide +kernel)
theorem kb_tuple_tuple {K : PySem.W.Frag} : PySem.W.kitOne K (.type "tuple") (.type "tuple") = some true := kit_ty (by decide +kernel)
theorem kb_tuple_dict {K : PySem.W.Frag} : PySem.W.kitOne K (.type "tuple") (.type "dict") = some false := kit_ty (by decide +kernel)
theorem kb_dict_int {K : PySem.W.Frag} : PySem.W.kitOne K (.type "dict") (.type "int") = some false := kit_ty (by decide +kernel)
theorem kb_dict_bool {K : PySem.W.Frag} : PySem.W.kitOne K (.type "dict") (.type "bool") = some false := kit_ty (by decide +kernel)
theorem kb_dict_str {K : PySem.W.Frag} : PySem.W.kitOne K (.type "dict") (.type "str") = some false := kit_ty (by decide +kernel)
theorem kb_dict_list {K : PySem.W.Frag} : PySem.W.kitOne K (.type "dict") (.type "list") = some false := kit_ty (by decide +kernel)
theorem kb_dict_tuple {K : PySem.W.Frag} : PySem.W.kitOne K (.type "dict") (.type "tuple") = some false := kit_ty (by decide +kernel)
theorem kb_dict_dict {K : PySem.W.Frag} : PySem.W.kitOne K (.type "dict") (.type "dict") = some true := kit_ty (by decide +kernel)
theorem kb_NoneType_int {K : PySem.W.Frag} : PySem.W.kitOne K (.type "NoneType") (.type "int") = some false := kit_ty (by decide +kernel)
theorem kb_NoneType_bool {K : PySem.W.Frag} : PySem.W.kitOne K (.type "NoneType") (.type "bool") = some false := kit_ty (by decide +kernel)
theorem kb_NoneType_str {K : PySem.W.Frag} : PySem.W.kitOne K (.type "NoneType") (.type "str") = some false := kit_ty (by decide +kernel)
theorem kb_NoneType_list {K : PySem.W.Frag} : PySem.W.kitOne K (.type "NoneType") (.type "list") = some false := kit_ty (by decide +kernel)
theorem kb_NoneType_tuple {K : PySem.W.Frag} : PySem.W.kitOne K (.type "NoneType") (.type "tuple") = some false := kit_ty (by decide +kernel)
theorem kb_NoneType_dict {K : PySem.W.Frag} : PySem.W.kitOne K (.type "NoneType") (.type "dict") = some false := kit_ty (by decide +kernel)
theorem r_iteNT {A B : Prop} (h : B) : if (!true) = true then A else B := iteF h
theorem r_iteNF {A B : Prop} (h : A) : if (!false) = true then A else B := iteT h
end Sl

namespace My
open PySem L2 Sl
def top (i : Nat) : Stmt := PySem.Challenge.pw_keelroom_k43_blocks_written.main.body.getD i (.Pass ⟨0, 0, 0, 0⟩)
abbrev s_Disk_init : Stmt := inClass (top 2) 0
abbrev s_Disk_block : Stmt := inClass (top 2) 1
abbrev s_Disk_write : Stmt := inClass (top 2) 2
abbrev s_Disk_stop : Stmt := inClass (top 2) 3
abbrev s_Disk_go : Stmt := inClass (top 2) 4
abbrev s_Disk_writes : Stmt := inClass (top 2) 5
abbrev s_law_cell_at : Stmt := top 4
abbrev s_law_mixed : Stmt := top 5
abbrev s_law_row : Stmt := top 6
abbrev s_law_next : Stmt := top 7
abbrev s_law_deed : Stmt := top 8
abbrev s_law : Stmt := top 9
theorem sc_Disk_init : FnScope ["self"] ["self"] (defScope s_Disk_init) := ⟨rfl, rfl, rfl, by decide +kernel, rfl, by decide +kernel, by decide +kernel⟩
theorem sc_Disk_block : FnScope ["self", "number"] ["self", "number"] (defScope s_Disk_block) := ⟨rfl, rfl, rfl, by decide +kernel, rfl, by decide +kernel, by decide +kernel⟩
theorem sc_Disk_write : FnScope ["self", "number", "words"] ["self", "number", "words"] (defScope s_Disk_write) := ⟨rfl, rfl, rfl, by decide +kernel, rfl, by decide +kernel, by decide +kernel⟩
theorem sc_Disk_stop : FnScope ["self", "many"] ["self", "many"] (defScope s_Disk_stop) := ⟨rfl, rfl, rfl, by decide +kernel, rfl, by decide +kernel, by decide +kernel⟩
theorem sc_Disk_go : FnScope ["self"] ["self"] (defScope s_Disk_go) := ⟨rfl, rfl, rfl, by decide +kernel, rfl, by decide +kernel, by decide +kernel⟩
theorem sc_Disk_writes : FnScope ["self"] ["self"] (defScope s_Disk_writes) := ⟨rfl, rfl, rfl, by decide +kernel, rfl, by decide +kernel, by decide +kernel⟩
theorem sc_law_cell_at : FnScope ["_law_script", "_law_k"] ["_law_script", "_law_k"] (defScope s_law_cell_at) := ⟨rfl, rfl, rfl, by decide +kernel, rfl, by decide +kernel, by decide +kernel⟩
theorem sc_law_mixed : FnScope ["_law_cell", "_law_k", "_law_number"] ["_law_cell", "_law_k"] (defScope s_law_mixed) := ⟨rfl, rfl, rfl, by decide +kernel, rfl, by decide +kernel, by decide +kernel⟩
theorem sc_law_row : FnScope ["_law_script", "_law_k", "_law_cell"] ["_law_script", "_law_k"] (defScope s_law_row) := ⟨rfl, rfl, rfl, by decide +kernel, rfl, by decide +kernel, by decide +kernel⟩
theorem sc_law_next : FnScope ["_law_row_here", "_law_many", "_law_found"] ["_law_row_here", "_law_many"] (defScope s_law_next) := ⟨rfl, rfl, rfl, by decide +kernel, rfl, by decide +kernel, by decide +kernel⟩
theorem sc_law_deed : FnScope ["_law_disk", "_law_m", "_law_row_here", "_law_way", "_law_number", "_law_words", "_law_k", "_law_handed"] ["_law_disk", "_law_m", "_law_row_here"] (defScope s_law_deed) := ⟨rfl, rfl, rfl, by decide +kernel, rfl, by decide +kernel, by decide +kernel⟩
theorem sc_law : FnScope ["_law_script", "_law_disk", "_law_m", "_law_k", "_law_row_here", "_law_turn", "_law_number"] ["_law_script"] (defScope s_law) := ⟨rfl, rfl, rfl, by decide +kernel, rfl, by decide +kernel, by decide +kernel⟩
def fs_Disk (x0 : V) (x1 : V) (x2 : V) : List (Str × V) := [(("written" : Str), x0), (("tally" : Str), x1), (("spare" : Str), x2)]
theorem lk_Disk_written {x0 : V} {x1 : V} {x2 : V} : (fs_Disk x0 x1 x2).lookup ("written" : Str) = some x0 := by kernel_rfl
theorem pf_Disk_written {x0 : V} {x1 : V} {x2 : V} {y : V} : putF "written" y (fs_Disk x0 x1 x2) = fs_Disk y x1 x2 := by kernel_rfl
theorem pi_Disk_written {x0 : V} : putF "written" x0 ([] : List (Str × V)) = [(("written" : Str), x0)] := by kernel_rfl
theorem lk_Disk_tally {x0 : V} {x1 : V} {x2 : V} : (fs_Disk x0 x1 x2).lookup ("tally" : Str) = some x1 := by kernel_rfl
theorem pf_Disk_tally {x0 : V} {x1 : V} {x2 : V} {y : V} : putF "tally" y (fs_Disk x0 x1 x2) = fs_Disk x0 y x2 := by kernel_rfl
theorem pi_Disk_tally {x0 : V} {x1 : V} : putF "tally" x1 ([(("written" : Str), x0)] : List (Str × V)) = [(("written" : Str), x0), (("tally" : Str), x1)] := by kernel_rfl
theorem lk_Disk_spare {x0 : V} {x1 : V} {x2 : V} : (fs_Disk x0 x1 x2).lookup ("spare" : Str) = some x2 := by kernel_rfl
theorem pf_Disk_spare {x0 : V} {x1 : V} {x2 : V} {y : V} : putF "spare" y (fs_Disk x0 x1 x2) = fs_Disk x0 x1 y := by kernel_rfl
theorem pi_Disk_spare {x0 : V} {x1 : V} {x2 : V} : putF "spare" x2 ([(("written" : Str), x0), (("tally" : Str), x1)] : List (Str × V)) = fs_Disk x0 x1 x2 := by kernel_rfl
theorem ln_Disk {x0 : V} {x1 : V} {x2 : V} : (fs_Disk x0 x1 x2).length < 1000 := by show 3 < 1000; decide
theorem lm_Disk_block {x0 : V} {x1 : V} {x2 : V} : (fs_Disk x0 x1 x2).lookup ("block" : Str) = none := by kernel_rfl
theorem lm_Disk_write {x0 : V} {x1 : V} {x2 : V} : (fs_Disk x0 x1 x2).lookup ("write" : Str) = none := by kernel_rfl
theorem lm_Disk_stop {x0 : V} {x1 : V} {x2 : V} : (fs_Disk x0 x1 x2).lookup ("stop" : Str) = none := by kernel_rfl
theorem lm_Disk_go {x0 : V} {x1 : V} {x2 : V} : (fs_Disk x0 x1 x2).lookup ("go" : Str) = none := by kernel_rfl
theorem lm_Disk_writes {x0 : V} {x1 : V} {x2 : V} : (fs_Disk x0 x1 x2).lookup ("writes" : Str) = none := by kernel_rfl
def mK (x0 : V) (x1 : V) (x2 : V) : List (Key × V) := [(Sum.inr ("blocks" : Str), x0), (Sum.inr ("many" : Str), x1), (Sum.inr ("left" : Str), x2)]
theorem mK_len {x0 : V} {x1 : V} {x2 : V} : (mK x0 x1 x2).length < sizeLine := szlt (by show 3 < 100000; decide)
theorem mK_disp {x0 : V} {x1 : V} {x2 : V} : mergeK [] ([(Sum.inr ("blocks" : Str), x0), (Sum.inr ("many" : Str), x1), (Sum.inr ("left" : Str), x2)] : List (Key × V)) = mK x0 x1 x2 := by kernel_rfl
theorem mK_g_blocks {x0 : V} {x1 : V} {x2 : V} : valV (mK x0 x1 x2) (.inr "blocks") = some x0 := by kernel_rfl
theorem mK_p_blocks {x0 : V} {x1 : V} {x2 : V} {y : V} : putK (mK x0 x1 x2) (.inr "blocks") y = mK y x1 x2 := by kernel_rfl
theorem mK_g_many {x0 : V} {x1 : V} {x2 : V} : valV (mK x0 x1 x2) (.inr "many") = some x1 := by kernel_rfl
theorem mK_p_many {x0 : V} {x1 : V} {x2 : V} {y : V} : putK (mK x0 x1 x2) (.inr "many") y = mK x0 y x2 := by kernel_rfl
theorem mK_g_left {x0 : V} {x1 : V} {x2 : V} : valV (mK x0 x1 x2) (.inr "left") = some x2 := by kernel_rfl
theorem mK_p_left {x0 : V} {x1 : V} {x2 : V} {y : V} : putK (mK x0 x1 x2) (.inr "left") y = mK x0 x1 y := by kernel_rfl
def stK (x0 : V) (x1 : V) (x2 : V) (x3 : V) : List (Key × V) := [(Sum.inr ("free" : Str), x0), (Sum.inr ("left" : Str), x1), (Sum.inr ("seed" : Str), x2), (Sum.inr ("at" : Str), x3)]
theorem stK_len {x0 : V} {x1 : V} {x2 : V} {x3 : V} : (stK x0 x1 x2 x3).length < sizeLine := szlt (by show 4 < 100000; decide)
theorem stK_disp {x0 : V} {x1 : V} {x2 : V} {x3 : V} : mergeK [] ([(Sum.inr ("free" : Str), x0), (Sum.inr ("left" : Str), x1), (Sum.inr ("seed" : Str), x2), (Sum.inr ("at" : Str), x3)] : List (Key × V)) = stK x0 x1 x2 x3 := by kernel_rfl
theorem stK_g_free {x0 : V} {x1 : V} {x2 : V} {x3 : V} : valV (stK x0 x1 x2 x3) (.inr "free") = some x0 := by kernel_rfl
theorem stK_p_free {x0 : V} {x1 : V} {x2 : V} {x3 : V} {y : V} : putK (stK x0 x1 x2 x3) (.inr "free") y = stK y x1 x2 x3 := by kernel_rfl
theorem stK_g_left {x0 : V} {x1 : V} {x2 : V} {x3 : V} : valV (stK x0 x1 x2 x3) (.inr "left") = some x1 := by kernel_rfl
theorem stK_p_left {x0 : V} {x1 : V} {x2 : V} {x3 : V} {y : V} : putK (stK x0 x1 x2 x3) (.inr "left") y = stK x0 y x2 x3 := by kernel_rfl
theorem stK_g_seed {x0 : V} {x1 : V} {x2 : V} {x3 : V} : valV (stK x0 x1 x2 x3) (.inr "seed") = some x2 := by kernel_rfl
theorem stK_p_seed {x0 : V} {x1 : V} {x2 : V} {x3 : V} {y : V} : putK (stK x0 x1 x2 x3) (.inr "seed") y = stK x0 x1 y x3 := by kernel_rfl
theorem stK_g_at {x0 : V} {x1 : V} {x2 : V} {x3 : V} : valV (stK x0 x1 x2 x3) (.inr "at") = some x3 := by kernel_rfl
theorem stK_p_at {x0 : V} {x1 : V} {x2 : V} {x3 : V} {y : V} : putK (stK x0 x1 x2 x3) (.inr "at") y = stK x0 x1 x2 y := by kernel_rfl
structure Txt (K : PySem.W.Frag) (mg : Str → Option Value) where
  C_Disk : Addr
  cl_Disk : Cls K C_Disk
  g_Disk : mg "Disk" = some (.ref C_Disk)
  n_Disk_written : NoAttr K C_Disk "written"
  n_Disk_tally : NoAttr K C_Disk "tally"
  n_Disk_spare : NoAttr K C_Disk "spare"
  a_Disk_init : Addr
  d_Disk_init : FuncData
  f_Disk_init : Fun K "__init__" "Disk.__init__" s_Disk_init a_Disk_init d_Disk_init
  b_Disk_init : Binds K d_Disk_init ["self"] []
  mk_Disk : Mk K C_Disk a_Disk_init
  a_Disk_block : Addr
  d_Disk_block : FuncData
  f_Disk_block : Fun K "block" "Disk.block" s_Disk_block a_Disk_block d_Disk_block
  b_Disk_block : Binds K d_Disk_block ["self", "number"] []
  m_Disk_block : Meth K C_Disk "block" a_Disk_block
  a_Disk_write : Addr
  d_Disk_write : FuncData
  f_Disk_write : Fun K "write" "Disk.write" s_Disk_write a_Disk_write d_Disk_write
  b_Disk_write : Binds K d_Disk_write ["self", "number", "words"] []
  m_Disk_write : Meth K C_Disk "write" a_Disk_write
  a_Disk_stop : Addr
  d_Disk_stop : FuncData
  f_Disk_stop : Fun K "stop" "Disk.stop" s_Disk_stop a_Disk_stop d_Disk_stop
  b_Disk_stop : Binds K d_Disk_stop ["self", "many"] []
  m_Disk_stop : Meth K C_Disk "stop" a_Disk_stop
  a_Disk_go : Addr
  d_Disk_go : FuncData
  f_Disk_go : Fun K "go" "Disk.go" s_Disk_go a_Disk_go d_Disk_go
  b_Disk_go : Binds K d_Disk_go ["self"] []
  m_Disk_go : Meth K C_Disk "go" a_Disk_go
  a_Disk_writes : Addr
  d_Disk_writes : FuncData
  f_Disk_writes : Fun K "writes" "Disk.writes" s_Disk_writes a_Disk_writes d_Disk_writes
  b_Disk_writes : Binds K d_Disk_writes ["self"] []
  m_Disk_writes : Meth K C_Disk "writes" a_Disk_writes
  a_law_cell_at : Addr
  d_law_cell_at : FuncData
  f_law_cell_at : Fun K "_law_cell_at" "_law_cell_at" s_law_cell_at a_law_cell_at d_law_cell_at
  b_law_cell_at : Binds K d_law_cell_at ["_law_script", "_law_k"] []
  g_law_cell_at : mg "_law_cell_at" = some (.ref a_law_cell_at)
  a_law_mixed : Addr
  d_law_mixed : FuncData
  f_law_mixed : Fun K "_law_mixed" "_law_mixed" s_law_mixed a_law_mixed d_law_mixed
  b_law_mixed : Binds K d_law_mixed ["_law_cell", "_law_k"] []
  g_law_mixed : mg "_law_mixed" = some (.ref a_law_mixed)
  a_law_row : Addr
  d_law_row : FuncData
  f_law_row : Fun K "_law_row" "_law_row" s_law_row a_law_row d_law_row
  b_law_row : Binds K d_law_row ["_law_script", "_law_k"] []
  g_law_row : mg "_law_row" = some (.ref a_law_row)
  a_law_next : Addr
  d_law_next : FuncData
  f_law_next : Fun K "_law_next" "_law_next" s_law_next a_law_next d_law_next
  b_law_next : Binds K d_law_next ["_law_row_here", "_law_many"] []
  g_law_next : mg "_law_next" = some (.ref a_law_next)
  a_law_deed : Addr
  d_law_deed : FuncData
  f_law_deed : Fun K "_law_deed" "_law_deed" s_law_deed a_law_deed d_law_deed
  b_law_deed : Binds K d_law_deed ["_law_disk", "_law_m", "_law_row_here"] []
  g_law_deed : mg "_law_deed" = some (.ref a_law_deed)
  a_law : Addr
  d_law : FuncData
  f_law : Fun K "law" "law" s_law a_law d_law
  b_law : Binds K d_law ["_law_script"] []
  g_law : mg "law" = some (.ref a_law)
  g_BLOCK : ∃ t, mg "BLOCK" = some (.int 8 t)
  n_bool : mg "bool" = none
  n_isinstance : mg "isinstance" = none
  n_len : mg "len" = none
  n_list : mg "list" = none
  n_max : mg "max" = none
  n_range : mg "range" = none
  n_tuple : mg "tuple" = none
set_option hygiene false in
local macro_rules | `(tactic| walk_at "pull") => `(tactic| first | with_reducible exact Sl.Pull.here | (with_reducible apply Sl.Pull.there; walk_at "pull"))
set_option hygiene false in
local macro_rules | `(tactic| walk_at "put") => `(tactic| first | with_reducible exact Sl.Put.here | (with_reducible apply Sl.Put.there; walk_at "put"))
set_option hygiene false in
local macro_rules | `(tactic| walk_at "mt") => `(tactic| first | with_reducible exact Sl.Mt.refl | with_reducible exact Sl.Mt.nil | ((with_reducible show Sl.Mt (_ :: _) _); with_reducible apply Sl.Mt.cons; (focus walk_at "pull"); walk_at "mt") | ((fail_if_success (with_reducible show Sl.Mt (_ :: _) _)); with_reducible apply Sl.Mt.drop; walk_at "mt"))
set_option hygiene false in
local macro_rules | `(tactic| walk_at "get") => `(tactic| first | with_reducible assumption | exact Sl.Hd.get hs (by walk_at "pull"))
set_option hygiene false in
local macro_rules | `(tactic| walk_at "sq") => `(tactic| first | with_reducible assumption | exact Sl.Hd.sq hs (by walk_at "pull") | exact Sl.Hd.sql hs (by walk_at "pull"))
set_option hygiene false in
local macro_rules | `(tactic| walk_at "sqt") => `(tactic| first | with_reducible assumption | exact Sl.Hd.st hs (by walk_at "pull"))
set_option hygiene false in
local macro_rules | `(tactic| walk_at "cls") => `(tactic| first | with_reducible exact T.cl_Disk)
set_option hygiene false in
local macro_rules | `(tactic| walk_at "noattr") => `(tactic| first | with_reducible exact T.n_Disk_written | with_reducible exact T.n_Disk_tally | with_reducible exact T.n_Disk_spare)
set_option hygiene false in
local macro_rules | `(tactic| walk_at "look") => `(tactic| first | with_reducible exact lk_Disk_written | with_reducible exact lk_Disk_tally | with_reducible exact lk_Disk_spare | with_reducible exact lm_Disk_block | with_reducible exact lm_Disk_write | with_reducible exact lm_Disk_stop | with_reducible exact lm_Disk_go | with_reducible exact lm_Disk_writes)
set_option hygiene false in
local macro_rules | `(tactic| walk_at "putf") => `(tactic| first | with_reducible exact pf_Disk_written | with_reducible exact pi_Disk_written | with_reducible exact pf_Disk_tally | with_reducible exact pi_Disk_tally | with_reducible exact pf_Disk_spare | with_reducible exact pi_Disk_spare)
set_option hygiene false in
local macro_rules | `(tactic| walk_at "flen") => `(tactic| first | (first | with_reducible exact ln_Disk) | (simp; done))
set_option hygiene false in
local macro_rules | `(tactic| walk_at "len") => `(tactic| first | with_reducible assumption | exact Sl.sz (by first | decide | omega | (simp only [List.length_cons, List.length_nil, List.length_append, List.length_map, List.length_set, List.length_replicate, List.length_range] <;> omega)))
set_option hygiene false in
local macro_rules | `(tactic| walk_at "lenlt") => `(tactic| first | with_reducible assumption | exact Sl.szlt (by first | decide | omega | (simp only [List.length_cons, List.length_nil, List.length_append, List.length_map, List.length_set, List.length_replicate, List.length_range] <;> omega)))
set_option hygiene false in
local macro_rules | `(tactic| walk_at "dlook") => `(tactic| first | with_reducible assumption | (first | with_reducible exact mK_g_blocks | with_reducible exact mK_g_many | with_reducible exact mK_g_left | with_reducible exact stK_g_free | with_reducible exact stK_g_left | with_reducible exact stK_g_seed | with_reducible exact stK_g_at))
set_option hygiene false in
local macro_rules | `(tactic| walk_at "dput") => `(tactic| first | with_reducible exact mK_p_blocks | with_reducible exact mK_p_many | with_reducible exact mK_p_left | with_reducible exact stK_p_free | with_reducible exact stK_p_left | with_reducible exact stK_p_seed | with_reducible exact stK_p_at)
set_option hygiene false in
local macro_rules | `(tactic| walk_at "dlen") => `(tactic| first | (first | with_reducible exact mK_len | with_reducible exact stK_len) | walk_at "lenlt")
set_option hygiene false in
local macro_rules | `(tactic| walk_at "flat") => `(tactic| first | with_reducible exact Sl.flat_ints _ | rfl | with_reducible assumption)
set_option hygiene false in
local macro_rules | `(tactic| walk_at "disp") => `(tactic| first | fail | (refine Sl.r_dispE hs (by walk_at "put") (kvs := [(.inr "blocks", _), (.inr "many", _), (.inr "left", _)]) rfl (Nat.le_of_ble_eq_true rfl) mK_disp ?_; (try clear hs); intro H hs) | (refine Sl.r_dispE hs (by walk_at "put") (kvs := [(.inr "free", _), (.inr "left", _), (.inr "seed", _), (.inr "at", _)]) rfl (Nat.le_of_ble_eq_true rfl) stK_disp ?_; (try clear hs); intro H hs))
set_option hygiene false in
local macro_rules | `(tactic| walk_at "num") => `(tactic| first | decide | omega | assumption)
set_option hygiene false in
local macro_rules | `(tactic| walk_at "rng") => `(tactic| first | omega | (simp only [List.length_map]; omega) | (simp only [List.length_map]; (repeat' split) <;> omega))
set_option hygiene false in
local macro_rules | `(tactic| walk_at "kb") => `(tactic| first | with_reducible exact Sl.kb_int_int | with_reducible exact Sl.kb_int_bool | with_reducible exact Sl.kb_int_str | with_reducible exact Sl.kb_int_list | with_reducible exact Sl.kb_int_tuple | with_reducible exact Sl.kb_int_dict | with_reducible exact Sl.kb_bool_int | with_reducible exact Sl.kb_bool_bool | with_reducible exact Sl.kb_bool_str | with_reducible exact Sl.kb_bool_list | with_reducible exact Sl.kb_bool_tuple | with_reducible exact Sl.kb_bool_dict | with_reducible exact Sl.kb_str_int | with_reducible exact Sl.kb_str_bool | with_reducible exact Sl.kb_str_str | with_reducible exact Sl.kb_str_list | with_reducible exact Sl.kb_str_tuple | with_reducible exact Sl.kb_str_dict | with_reducible exact Sl.kb_list_int | with_reducible exact Sl.kb_list_bool | with_reducible exact Sl.kb_list_str | with_reducible exact Sl.kb_list_list | with_reducible exact Sl.kb_list_tuple | with_reducible exact Sl.kb_list_dict | with_reducible exact Sl.kb_tuple_int | with_reducible exact Sl.kb_tuple_bool | with_reducible exact Sl.kb_tuple_str | with_reducible exact Sl.kb_tuple_list | with_reducible exact Sl.kb_tuple_tuple | with_reducible exact Sl.kb_tuple_dict | with_reducible exact Sl.kb_dict_int | with_reducible exact Sl.kb_dict_bool | with_reducible exact Sl.kb_dict_str | with_reducible exact Sl.kb_dict_list | with_reducible exact Sl.kb_dict_tuple | with_reducible exact Sl.kb_dict_dict | with_reducible exact Sl.kb_NoneType_int | with_reducible exact Sl.kb_NoneType_bool | with_reducible exact Sl.kb_NoneType_str | with_reducible exact Sl.kb_NoneType_list | with_reducible exact Sl.kb_NoneType_tuple | with_reducible exact Sl.kb_NoneType_dict)
set_option hygiene false in
local macro_rules | `(tactic| walk_at "ty") => `(tactic| first | exact .base (.int _) | exact .base .non | exact .base (.bl _) | exact .base (.str _) | exact .base (.lst (by walk_at "get")) | exact .base (.tup (by walk_at "get")) | exact .base (.dK (by walk_at "get")))
set_option hygiene false in
local macro_rules | `(tactic| walk_at "st") => `(tactic| first
  | with_reducible refine Sl.r_seq ?_
  | with_reducible refine Sl.r_asg ?_
  | with_reducible refine Sl.r_gName ?_
  | with_reducible refine Sl.r_cons ?_
  | with_reducible refine Sl.r_nil ?_
  | ((with_reducible show tVar _ _ _ _); refine Sl.r_var rfl ?_)
  | with_reducible refine Sl.r_c ?_
  | with_reducible refine Sl.r_op ?_
  | with_reducible refine Sl.r_ret ?_
  | with_reducible refine Sl.r_drop ?_
  | with_reducible refine Sl.r_ifS ?_
  | with_reducible refine Sl.r_test ?_
  | with_reducible refine Sl.r_tB ?_
  | with_reducible refine Sl.r_isb ?_
  | with_reducible refine Sl.r_call ?_
  | with_reducible refine Sl.r_fld ?_
  | with_reducible refine Sl.r_sFld ?_
  | with_reducible refine Sl.r_meth ?_
  | with_reducible refine Sl.r_make ?_
  | with_reducible refine Sl.r_cB ?_
  | with_reducible refine Sl.r_tup ?_
  | with_reducible refine Sl.r_lst ?_
  | with_reducible refine Sl.r_bm ?_
  | with_reducible refine Sl.r_bm0 ?_
  | with_reducible refine Sl.r_sl ?_
  | with_reducible refine Sl.r_noPart ?_
  | with_reducible refine Sl.r_part ?_
  | with_reducible refine Sl.r_partK ?_
  | with_reducible refine Sl.r_gSub ?_
  | with_reducible refine Sl.r_tAnd ?_
  | with_reducible refine Sl.r_tOr ?_
  | with_reducible refine Sl.r_tNot ?_
  | with_reducible refine Sl.r_tIf ?_
  | with_reducible refine Sl.r_un ?_
  | with_reducible refine Sl.r_rU ?_
  | with_reducible refine Sl.r_andV ?_
  | with_reducible refine Sl.r_andK ?_
  | with_reducible refine Sl.r_orV ?_
  | with_reducible refine Sl.r_orK ?_
  | with_reducible refine Sl.r_notV ?_
  | with_reducible refine Sl.r_notK ?_
  | with_reducible refine Sl.r_iteNT ?_
  | with_reducible refine Sl.r_iteNF ?_
  | ((with_reducible show Sl.rIsiU _ [_, .ty _] _ _); refine Sl.r_isi (.ty _) (by walk_at "ty") (by walk_at "kb") ?_)
  | with_reducible refine Sl.r_iteY ?_
  | with_reducible refine Sl.r_iteZ ?_
  | with_reducible refine Sl.r_next ?_
  | with_reducible refine Sl.r_retN ?_
  | with_reducible refine Sl.r_break ?_
  | with_reducible refine Sl.r_cont ?_
  | with_reducible refine Sl.r_I0 ?_
  | with_reducible refine Sl.r_addI ?_
  | ((with_reducible show Sl.rMulU _ (.int _) (.int _) _ _); refine Sl.r_mulI (by walk_at "mul") ?_)
  | ((with_reducible show Sl.rDivU (.int _) (.int _) _ _); first | refine Sl.r_divI (by first | decide | omega) ?_ | refine Sl.r_divW (by first | decide | omega) ?_)
  | ((with_reducible show rI (fun _ j => 0 < j) _ (.int _) (.int _) _ _); refine Sl.r_modI (by walk_at "num") ?_)
  | ((with_reducible show rI CPow _ (.int _) (.int _) _ _); refine Sl.r_I (by walk_at "pow") ?_)
  | with_reducible refine Sl.r_eqI ?_
  | with_reducible refine Sl.r_neI ?_
  | with_reducible refine Sl.r_eqS ?_
  | with_reducible refine Sl.r_neS ?_
  | with_reducible refine Sl.r_eqB ?_
  | with_reducible refine Sl.r_neB ?_
  | with_reducible refine Sl.r_isN ?_
  | with_reducible refine Sl.r_notN ?_
  | ((with_reducible show Sl.AllocT _ _ _); refine Sl.r_newT hs (by walk_at "len") ?_; (try clear hs); intro q_ H hs)
  | ((with_reducible show Sl.AllocL _ _ _); refine Sl.r_newL hs (by walk_at "len") ?_; (try clear hs); intro q_ H hs)
  | ((with_reducible show Sl.FldK _ _ _ _ _); refine Sl.r_fldK (by walk_at "get") (by walk_at "cls") (by walk_at "noattr") (by walk_at "look") ?_)
  | ((with_reducible show Sl.SFldK _ _ _ _ _ _); refine Sl.r_sFldK hs (by walk_at "put") (by walk_at "putf") (by walk_at "cls") (by walk_at "noattr") (by walk_at "flen") ?_; (try clear hs); intro H hs)
  | ((with_reducible show Sl.MethK _ _ _ _ _); first | refine Sl.r_methK (by walk_at "get") (by walk_at "look") ?_ | (walk_at "ins"; refine Sl.r_methK (by walk_at "get") (by walk_at "look") ?_))
  | ((with_reducible show Sl.MakeK _ _ _ _ _ _ _); refine Sl.r_makeK hs ?_; (try clear hs); intro q_ dx_ H hs)
  | ((with_reducible show tyV _ "list" _ _ ∧ _); refine Sl.r_tyL (by walk_at "sq") ?_)
  | ((with_reducible show tyV _ "dict" _ _ ∧ _); refine Sl.r_tyD (by walk_at "get") ?_)
  | ((with_reducible show rAppend _ _ _ _); refine Sl.r_append hs (by walk_at "put") (by walk_at "lenlt") ?_; (try clear hs); intro H hs)
  | ((with_reducible show rExtend _ _ _ _); refine Sl.r_extend hs (by walk_at "put") (by walk_at "get") (by walk_at "len") ?_; (try clear hs); intro H hs)
  | ((with_reducible show rClear _ _ _ _); refine Sl.r_clear hs (by walk_at "put") ?_; (try clear hs); intro H hs)
  | ((with_reducible show rSlL _ _ _ _ _ _); refine Sl.r_slL hs (by walk_at "sq") ?_; (try clear hs); intro q_ H hs)
  | ((with_reducible show Sl.rAddU _ (.ref _) (.ref _) _ _); refine Sl.r_addL hs (by walk_at "get") (by walk_at "get") (by walk_at "len") ?_; (try clear hs); intro q_ H hs)
  | ((with_reducible show Sl.rMulU _ (.ref _) (.int _) _ _); first | (refine Sl.r_mulL hs (by walk_at "get") (by omega) (by walk_at "len") ?_; (try clear hs); intro q_ H hs) | (refine Sl.r_mulT hs (by walk_at "sqt") (by exact List.cons_ne_nil _ _) (by omega) (by exact Nat.le_of_ble_eq_true rfl) ?_; (try clear hs); intro q_ H hs))
  | ((with_reducible show tDNewK _ _ _); refine Sl.r_dnew hs ?_; (try clear hs); intro q_ H hs)
  | ((with_reducible show tDisp _ _ _ _); refine Sl.r_disp hs ?_; (try clear hs); intro q_ H hs)
  | ((with_reducible show Sl.rIxU _ (.ref _) (.str _) _ _); refine Sl.r_ixDs (by walk_at "get") (by walk_at "dlook") ?_)
  | ((with_reducible show Sl.rIxU _ (.ref _) (.int _) _ _); first | refine Sl.r_ixL (by walk_at "sq") (by rfl) ?_ | refine Sl.r_ixT (by walk_at "sqt") (by rfl) ?_ | refine Sl.r_ixDi (by walk_at "get") (by with_reducible assumption) ?_)
  | ((with_reducible show Sl.rSetU (.ref _) (.str _) _ _ _); refine Sl.r_setDs hs (by walk_at "put") (by walk_at "dput") (by walk_at "dlen") ?_; (try clear hs); intro H hs)
  | ((with_reducible show Sl.rInU _ false _ (.ref _) _ _); first | refine Sl.r_inL (by walk_at "sq") rfl (by walk_at "flat") ?_ | refine Sl.r_inT (by walk_at "sqt") rfl (by walk_at "flat") ?_ | refine Sl.r_inDi (by walk_at "get") ?_ | refine Sl.r_inDs (by walk_at "get") ?_)
  | ((with_reducible show Sl.rInU _ true _ (.ref _) _ _); first | refine Sl.r_niL (by walk_at "sq") rfl (by walk_at "flat") ?_ | refine Sl.r_niT (by walk_at "sqt") rfl (by walk_at "flat") ?_ | refine Sl.r_niDi (by walk_at "get") ?_ | refine Sl.r_niDs (by walk_at "get") ?_)
  | ((with_reducible show Sl.GetE1 _ _ (.int _) _); refine Sl.r_get1i (by walk_at "get") ?_)
  | ((with_reducible show Sl.GetE2 _ (.int _) _ _ _); refine Sl.r_get2i (by walk_at "get") ?_)
  | ((with_reducible show Sl.DispE _ _ _ _); walk_at "disp")
  | with_reducible refine Sl.r_for ?_
  | with_reducible refine Sl.r_lc ?_
  | with_reducible refine Sl.r_rng1 ?_
  | with_reducible refine Sl.r_rng2 ?_
  | with_reducible refine Sl.r_iList ?_
  | with_reducible refine Sl.r_iTup ?_
  | with_reducible refine Sl.r_iEnum ?_
  | with_reducible refine Sl.r_iZip ?_
  | ((with_reducible show Sl.Rng1K _ _ _); refine Sl.r_rng1K (by walk_at "rng") ?_)
  | ((with_reducible show Sl.Rng2K _ _ _); refine Sl.r_rng2K (by walk_at "rng") ?_)
  | ((with_reducible show Sl.ListK _ _ _ _); refine Sl.r_listK (by walk_at "sq") ?_)
  | ((with_reducible show Sl.TupK _ _ _ _); refine Sl.r_tupK (by walk_at "sqt") ?_)
  | ((with_reducible show Sl.EnumK _ _ _ _); refine Sl.r_enumK (by walk_at "sq") ?_)
  | ((with_reducible show Sl.ZipK _ _ _ _); refine Sl.r_zipK (by walk_at "sq") (by walk_at "sq") ?_)
  | ((with_reducible show gTup _ _ _ (.ref _) _ (upd _ _ _) _); refine Sl.r_gTupNew hs (by with_reducible assumption) rfl ?_; (try clear hs); intro H hs)
  | ((with_reducible show gTup _ _ _ (.ref _) _ _ _); refine Sl.r_gTup (by walk_at "sqt") rfl ?_)
  | with_reducible refine Sl.r_gCons ?_
  | with_reducible refine Sl.r_gNil ?_
  | with_reducible refine Sl.r_yes ?_
  | ((with_reducible show wipe _ _ = wipe _ _ ∧ _); refine ⟨rfl, ?_⟩)
  | ((with_reducible show Sl.AppK _ _ _ _); refine Sl.r_appK hs (by walk_at "put") (by walk_at "lenlt") ?_; (try clear hs); intro H hs)
  | ((with_reducible show Sl.rEqU _ _ _ _ _); refine Sl.r_eqV (by rfl) ?_)
  | ((with_reducible show Sl.rNeU _ _ _ _ _); refine Sl.r_neV (by rfl) ?_)
  | with_reducible refine Sl.r_pairsN ?_
  | with_reducible refine Sl.r_pairsC ?_
  | with_reducible refine Sl.r_dget1 ?_
  | with_reducible refine Sl.r_dget2 ?_
  | ((with_reducible show Sl.IsDK _ _ _); refine Sl.r_isD (by walk_at "get") ?_)
  | ((with_reducible show Sl.rLenU _ _ _ _); first | refine Sl.r_lenL (by walk_at "sq") ?_ | refine Sl.r_lenT (by walk_at "sqt") ?_ | refine Sl.r_lenD (by walk_at "get") ?_)
  | with_reducible refine Sl.r_abs ?_
  | with_reducible refine Sl.r_max2 ?_
  | with_reducible refine Sl.r_min2 ?_
  | with_reducible refine Sl.r_int1b ?_
  | with_reducible refine Sl.r_int1 ?_
  | ((with_reducible show Sl.rListOf _ _ _ _); first | refine Sl.r_listL hs (by walk_at "sq") fun q_ H hs => ?_ | refine Sl.r_listT hs (by walk_at "sqt") fun q_ H hs => ?_)
  | ((with_reducible show Sl.rTupleOf _ _ _ _); first | refine Sl.r_tupleL hs (by walk_at "sq") fun q_ H hs => ?_ | refine Sl.r_tupleT (by walk_at "sqt") ?_))
set_option hygiene false in
local macro_rules | `(tactic| walk_at "mul") => `(tactic| first | (left; constructor <;> omega) | (right; constructor <;> omega))
set_option hygiene false in
local macro_rules | `(tactic| walk_at "pow") => `(tactic| exact ⟨by decide, by decide, by decide⟩)
set_option hygiene false in
local macro_rules | `(tactic| walk_at "run") => `(tactic| repeat walk_at "st")

section
variable {P : Program} {w : World} {K : PySem.W.Frag} {mg : Str → Option Value} {base : Heap}

/-- what draws are taken from; n: how many were drawn at the most -/
def stA (d : Addr) (n : Nat) : SA := fun H => ∃ f l s a, (0 ≤ s ∧ s < 2147483629 ∧ 0 ≤ a ∧ a ≤ (n : Int)) ∧ Hd [pto d (.dK (stK (.bl f) (.int l) (.int s) (.int a)))] H
theorem st_open {d : Addr} {n : Nat} {L : List SA} {H : Hp} (h : Hd (stA d n :: L) H) : ∃ f l s a, (0 ≤ s ∧ s < 2147483629 ∧ 0 ≤ a ∧ a ≤ (n : Int)) ∧ Hd (pto d (.dK (stK (.bl f) (.int l) (.int s) (.int a))) :: L) H := by
  obtain ⟨H1, H2, c, s1, s2, ⟨f, l, s, a, b, p⟩, q⟩ := h
  exact ⟨f, l, s, a, b, Hd.open (M := [_]) ⟨H1, H2, c, s1, s2, p, q⟩⟩
theorem st_close {d : Addr} {n : Nat} {L : List SA} {H : Hp} {f : Bool} {l s a : Int} (b : 0 ≤ s ∧ s < 2147483629 ∧ 0 ≤ a ∧ a ≤ (n : Int)) (h : Hd (pto d (.dK (stK (.bl f) (.int l) (.int s) (.int a))) :: L) H) : Hd (stA d n :: L) H :=
  (Hd.close (M := [_]) h).imp fun _ z => ⟨f, l, s, a, b, z⟩
theorem st_more {d : Addr} {n m : Nat} (hm : n ≤ m) {L : List SA} {H : Hp} (h : Hd (stA d n :: L) H) : Hd (stA d m :: L) H :=
  h.imp fun _ ⟨f, l, s, a, b, z⟩ => ⟨f, l, s, a, ⟨b.1, b.2.1, b.2.2.1, by omega⟩, z⟩

def sp_law_cell_at (T : Txt K mg) : Sp := fun vs H Q _ => ∃ (a : Addr) (ns : List Int) (k : Nat) (L : List SA), vs = [.ref a, .int (k : Int)] ∧ Hd (sql K a (ns.map V.int) :: L) H ∧ ∀ c, Q (.int c) H
theorem ok_law_cell_at (T : Txt K mg) : FnOk P w K mg base CX0 1 T.a_law_cell_at T.d_law_cell_at ["_law_script", "_law_k"] (sp_law_cell_at T) := by
  refine T.f_law_cell_at.ok sc_law_cell_at (fun vs H Q E h => ?_) (fun cdv A outer s H vs Q E hr h => ?_)
  · obtain ⟨a, ns, k, L, rfl, _⟩ := h
    rfl
  · obtain ⟨a, ns, k, L, rfl, h⟩ := h
    refine ⟨_, (pss_cons (ps_if (pt_cmpR op_lt (pv 1) (pe_callB (k_len (K := K) rfl) (by rfl) T.n_len (by decide +kernel) (pa_cons (pv 0) pa_nil)) (nomark _))
        (pss_one (ps_ret (pe_ix (k_ix (K := K) rfl (hu_of hr)) (pv 0) (pv 1) (fun _ _ => rfl))))
        pss_nil)
       (pss_one (ps_ret pe_int))), ?_⟩
    try dsimp only [cxOf]
    obtain ⟨hs, q⟩ := h
    walk_at "run"
    refine Sl.r_iteD (fun h => ?_) (fun h => ?_)
    · walk_at "run"
      have hk : k < ns.length := by simpa using h
      refine Sl.r_ixL (by walk_at "sq") (atI_nat (v := .int ns[k]) (by simp [hk])) ?_
      exact q _
    · walk_at "run"
      exact q _
def sp_law_mixed (T : Txt K mg) : Sp := fun vs H Q _ => ∃ (c k : Int), vs = [.int c, .int k] ∧ (0 ≤ k ∧ k ≤ 1000000) ∧ ∀ r, 0 ≤ r → r < 2147483629 → Q (.int r) H
theorem ok_law_mixed (T : Txt K mg) : FnOk P w K mg base CX0 1 T.a_law_mixed T.d_law_mixed ["_law_cell", "_law_k"] (sp_law_mixed T) := by
  refine T.f_law_mixed.ok sc_law_mixed (fun vs H Q E h => ?_) (fun cdv A outer s H vs Q E hr h => ?_)
  · obtain ⟨c, k, rfl, _⟩ := h
    rfl
  · obtain ⟨c, k, rfl, h⟩ := h
    refine ⟨_, (pss_cons (ps_set (i := 2) sc_law_mixed.nd rfl (by first | exact Or.inl rfl | exact Or.inr rfl) (pe_op (k_mod (K := K) rfl) (pe_op (k_mul (K := K) rfl) (pe_op (k_add (K := K) rfl) (pe_op (k_mod (K := K) rfl) (pv 0) pe_int) pe_int) pe_int) pe_int))
       (pss_one (ps_ret (pe_op (k_mod (K := K) rfl) (pe_op (k_add (K := K) rfl) (pe_op (k_mul (K := K) rfl) (pv 2) (pe_op (k_add (K := K) rfl) (pe_op (k_mul (K := K) rfl) (pe_op (k_mul (K := K) rfl) pe_int (pv 1)) (pv 1)) pe_int)) (pe_op (k_mul (K := K) rfl) (pe_op (k_div (K := K) rfl) (pv 0) pe_int) pe_int)) pe_int)))), ?_⟩
    try dsimp only [cxOf]
    obtain ⟨hk, q⟩ := h
    have hkk : 0 ≤ k * k ∧ k * k ≤ 1000000000000 := ⟨Int.mul_nonneg hk.1 hk.1, Int.le_trans (Int.mul_le_mul hk.2 hk.2 hk.1 (by decide)) (by decide)⟩
    walk_at "run"
    exact q _ (Int.emod_nonneg _ (by decide)) (Int.emod_lt_of_pos _ (by decide))
end
section
variable {P : Program} {w : World} {K : PySem.W.Frag} {mg : Str → Option Value} {base : Heap}
def sp_law_row (T : Txt K mg) : Sp := fun vs H Q _ => ∃ (a : Addr) (ns : List Int) (k : Nat) (L : List SA), vs = [.ref a, .int (k : Int)] ∧ Hd (sql K a (ns.map V.int) :: L) H ∧ ∀ d H', Hd (stA d 0 :: sql K a (ns.map V.int) :: L) H' → Q (.ref d) H'
theorem ok_law_row (T : Txt K mg) : FnOk P w K mg base CX0 2 T.a_law_row T.d_law_row ["_law_script", "_law_k"] (sp_law_row T) := by
  refine T.f_law_row.ok sc_law_row (fun vs H Q E h => ?_) (fun cdv A outer s H vs Q E hr h => ?_)
  · obtain ⟨a, ns, k, L, rfl, _⟩ := h
    rfl
  · obtain ⟨a, ns, k, L, rfl, h⟩ := h
    refine ⟨_, (pss_cons (ps_set (i := 2) sc_law_row.nd rfl (by first | exact Or.inl rfl | exact Or.inr rfl) (pe_call (ok_law_cell_at T) hr (by rfl) T.g_law_cell_at T.f_law_cell_at.kp T.b_law_cell_at .nil pass0 (pa_cons (pv 0) (pa_cons (pv 1) pa_nil))))
       (pss_one (ps_ret (pe_disp (pps_cons pe_str (pe_cmpR (k_eq (K := K) rfl hr.units) (pe_op (k_mod (K := K) rfl) (pe_call (ok_law_cell_at T) hr (by rfl) T.g_law_cell_at T.f_law_cell_at.kp T.b_law_cell_at .nil pass0 (pa_cons (pv 0) (pa_cons pe_int pa_nil))) pe_int) pe_int (nomark _)) (pps_cons pe_str (pv 2) (pps_cons pe_str (pe_call (ok_law_mixed T) hr (by rfl) T.g_law_mixed T.f_law_mixed.kp T.b_law_mixed .nil pass0 (pa_cons (pv 2) (pa_cons (pe_op (k_mod (K := K) rfl) (pv 1) pe_int) pa_nil))) (pps_cons pe_str pe_int pps_nil)))) (by rfl) (by rfl) (fun z => by cases z) (by decide))))), ?_⟩
    try dsimp only [cxOf]
    obtain ⟨hs, q⟩ := h
    walk_at "run"
    refine ⟨a, ns, k, L, rfl, hs, fun c => ?_⟩
    walk_at "run"
    refine ⟨a, ns, 0, _, rfl, Hd.mt (by walk_at "mt") hs, fun c0 => ?_⟩
    walk_at "run"
    refine ⟨c, _, rfl, ⟨by omega, by omega⟩, fun s h1 h2 => ?_⟩
    walk_at "run"
    exact q _ _ (st_close ⟨h1, h2, by decide, by decide⟩ hs)
def sp_law_next (T : Txt K mg) : Sp := fun vs H Q _ => ∃ (d : Addr) (m : Int) (n : Nat) (L : List SA), vs = [.ref d, .int m] ∧ (0 < m ∧ m ≤ 65536 ∧ n ≤ 900000) ∧ Hd (stA d n :: L) H ∧ ∀ r H', 0 ≤ r → r < m → Hd (stA d (n + 1) :: L) H' → Q (.int r) H'
theorem ok_law_next (T : Txt K mg) : FnOk P w K mg base CX0 2 T.a_law_next T.d_law_next ["_law_row_here", "_law_many"] (sp_law_next T) := by
  refine T.f_law_next.ok sc_law_next (fun vs H Q E h => ?_) (fun cdv A outer s H vs Q E hr h => ?_)
  · obtain ⟨d, m, n, L, rfl, _⟩ := h
    rfl
  · obtain ⟨d, m, n, L, rfl, h⟩ := h
    refine ⟨_, (pss_cons (ps_asg (pe_op (k_add (K := K) rfl) (pe_ix (k_ix (K := K) rfl (hu_of hr)) (pv 0) pe_str (fun _ _ => rfl)) pe_int) (pg_sub (pv 0) pe_str (u_set (hu_of hr))))
       (pss_cons (ps_if (PW.pt (pw_and (pt_val (pe_ix (k_ix (K := K) rfl (hu_of hr)) (pv 0) pe_str (fun _ _ => rfl))) (pw_and1 (pt_cmpR (k_notIn (K := K) rfl (hu_of hr)) (pe_ix (k_ix (K := K) rfl (hu_of hr)) (pv 0) pe_str (fun _ _ => rfl)) (pe_tup (pa_cons pe_int (pa_cons (pe_un un_neg pe_int) pa_nil))) (by rfl)))))
        (pss_cons (ps_set (i := 2) sc_law_next.nd rfl (by first | exact Or.inl rfl | exact Or.inr rfl) (pe_op (k_mod (K := K) rfl) (pe_ix (k_ix (K := K) rfl (hu_of hr)) (pv 0) pe_str (fun _ _ => rfl)) (pv 1)))
       (pss_cons (ps_asg (pe_op (k_div (K := K) rfl) (pe_ix (k_ix (K := K) rfl (hu_of hr)) (pv 0) pe_str (fun _ _ => rfl)) (pv 1)) (pg_sub (pv 0) pe_str (u_set (hu_of hr))))
       (pss_one (ps_ret (pv 2)))))
        pss_nil)
       (pss_one (ps_ret (pe_op (k_mod (K := K) rfl) (pe_op (k_div (K := K) rfl) (pe_call (ok_law_mixed T) hr (by rfl) T.g_law_mixed T.f_law_mixed.kp T.b_law_mixed .nil pass0 (pa_cons (pe_call (ok_law_mixed T) hr (by rfl) T.g_law_mixed T.f_law_mixed.kp T.b_law_mixed .nil pass0 (pa_cons (pe_ix (k_ix (K := K) rfl (hu_of hr)) (pv 0) pe_str (fun _ _ => rfl)) (pa_cons (pe_ix (k_ix (K := K) rfl (hu_of hr)) (pv 0) pe_str (fun _ _ => rfl)) pa_nil))) (pa_cons pe_int pa_nil))) pe_int) (pv 1)))))), ?_⟩
    try dsimp only [cxOf]
    obtain ⟨⟨hm, hm2, hn⟩, hs, q⟩ := h
    obtain ⟨f, l, s, a, b, hs⟩ := st_open hs
    walk_at "run"
    apply Sl.r_late hs
    · intro tail
      refine Sl.r_ite (fun hf => ?_) (fun hf => ?_)
      · walk_at "run"
        refine Sl.r_ite (fun h0 => ?_) (fun h0 => ?_)
        · walk_at "run"
          exact q _ _ (Int.emod_nonneg _ (by omega)) (Int.emod_lt_of_pos _ hm) (st_close (n := n + 1) (s := s) (a := a + 1) ⟨b.1, b.2.1, by omega, by omega⟩ (Hd.mt (by walk_at "mt") hs))
        · exact tail _ (Hd.mt (by walk_at "mt") hs)
      · exact tail _ hs
    · clear hs
      intro H hs
      walk_at "run"
      refine ⟨s, a + 1, rfl, ⟨by omega, by omega⟩, fun s1 h1 h2 => ?_⟩
      walk_at "run"
      refine ⟨s1, 50, rfl, ⟨by omega, by omega⟩, fun s2 h3 h4 => ?_⟩
      walk_at "run"
      exact q _ _ (Int.emod_nonneg _ (by omega)) (Int.emod_lt_of_pos _ hm) (st_close (n := n + 1) ⟨b.1, b.2.1, by omega, by omega⟩ hs)
end
section
variable {P : Program} {w : World} {K : PySem.W.Frag} {mg : Str → Option Value} {base : Heap}

/-- eight words -/
def z8 : List Int := [0, 0, 0, 0, 0, 0, 0, 0]
abbrev Blk := Int → Option (List Int)
def blk (M : Blk) (n : Int) : List Int := (M n).getD z8
def putB (M : Blk) (n : Int) (ws : List Int) : Blk := fun m => if m = n then some ws else M m
/-- a dict of blocks at d: M, at most k of them -/
def tblA (d : Addr) (M : Blk) (k : Int) : SA := fun H => ∃ kvs : List (Key × V), H d = some (.dK kvs) ∧ (kvs.length : Int) ≤ k ∧
  ∀ n, (valV kvs (.inl n) = none ∧ M n = none) ∨ ∃ t ws, valV kvs (.inl n) = some (.ref t) ∧ H t = some (.tup (ws.map V.int)) ∧ M n = some ws ∧ ws.length = 8
theorem up_tbl (d : Addr) (M : Blk) (k : Int) : Up (tblA d M k) := fun H H' s ⟨kvs, h1, h2, h3⟩ => ⟨kvs, s _ _ h1, h2, fun n => (h3 n).elim .inl fun ⟨t, ws, a, b, c⟩ => .inr ⟨t, ws, a, s _ _ b, c⟩⟩
theorem tbl_new {d : Addr} {L : List SA} {H : Hp} (h : Hd (pto d (.dK []) :: L) H) : Hd (tblA d (fun _ => none) 0 :: L) H :=
  h.imp fun _ z => ⟨[], z, Int.le_refl 0, fun _ => .inl ⟨rfl, rfl⟩⟩
theorem tbl_put {d t : Addr} {M : Blk} {k n : Int} {ws : List Int} (hw : ws.length = 8) {kvs : List (Key × V)} {L : List SA} {H : Hp} (h : Hd (pto t (.tup (ws.map V.int)) :: tblA d M k :: L) H) (hk : H d = some (.dK kvs)) :
    Hd (tblA d (putB M n ws) (k + 1) :: L) (upd H d (.dK (putK kvs (.inl n) (.ref t)))) := by
  have j := Hd.join (C := fun H => H t = some (.tup (ws.map V.int)) ∧ tblA d M k H) (up_pto _ _) (up_tbl _ _ _) h fun _ a b => ⟨a, b⟩
  have sub : ∀ H1, Sub H1 H → (H1 t = some (.tup (ws.map V.int)) ∧ tblA d M k H1) → H1 d = some (.dK kvs) := fun H1 s z => by
    obtain ⟨_, kvs2, h1, _⟩ := z
    have := s _ _ h1
    rw [hk] at this
    cases this
    exact h1
  obtain ⟨H1, H2, c, s1, s2, p, q⟩ := j
  have hd := sub H1 s1 p
  have j2 : Hd ((fun G => G d = some (.dK kvs) ∧ G t = some (.tup (ws.map V.int)) ∧ tblA d M k G) :: L) H := ⟨H1, H2, c, s1, s2, ⟨hd, p⟩, q⟩
  refine j2.chg (fun G z => ⟨_, z.1, fun z => z⟩) fun G z => ?_
  obtain ⟨z1, z2, kvs2, z3, z4, z5⟩ := z
  rw [z1] at z3
  cases z3
  have ne : ∀ {b : Addr} {xs : List V}, G b = some (.tup xs) → b ≠ d := fun e => ne_of e z1 (fun q => nomatch q)
  refine ⟨_, upd_same, ?_, fun m => ?_⟩
  · have := length_putK kvs (.inl n) (.ref t)
    omega
  · rw [valV_put]
    by_cases e : m = n
    · subst e
      rw [if_pos rfl]
      exact .inr ⟨t, ws, rfl, by rw [upd_ne (ne z2)]; exact z2, by unfold putB; rw [if_pos rfl], hw⟩
    · rw [if_neg (fun q => e (Sum.inl.inj q))]
      unfold putB
      rw [if_neg e]
      exact (z5 m).elim .inl fun ⟨u, us, a, b, c⟩ => .inr ⟨u, us, a, by rw [upd_ne (ne b)]; exact b, c⟩
def spV : Option Int → V
  | none => .non
  | some i => .int i
/-- the disk: its blocks, how many writes were done, how many more are -/
def diskA (C p : Addr) (M : Blk) (k : Int) (sp : Option Int) : SA := fun H => ∃ dx d, Hd [pto p (.ins C dx (fs_Disk (.ref d) (.int k) (spV sp))), tblA d M k] H
theorem disk_open {C p : Addr} {M : Blk} {k : Int} {sp : Option Int} {L : List SA} {H : Hp} (h : Hd (diskA C p M k sp :: L) H) : ∃ dx d, Hd (pto p (.ins C dx (fs_Disk (.ref d) (.int k) (spV sp))) :: tblA d M k :: L) H := by
  obtain ⟨H1, H2, c, s1, s2, ⟨dx, d, p⟩, q⟩ := h
  exact ⟨dx, d, Hd.open (M := [_, _]) ⟨H1, H2, c, s1, s2, p, q⟩⟩
theorem disk_close {C p dx d : Addr} {M : Blk} {k : Int} {sp : Option Int} {L : List SA} {H : Hp} (h : Hd (pto p (.ins C dx (fs_Disk (.ref d) (.int k) (spV sp))) :: tblA d M k :: L) H) : Hd (diskA C p M k sp :: L) H :=
  (Hd.close (M := [_, _]) h).imp fun _ z => ⟨dx, d, z⟩

def sp_Disk_init (T : Txt K mg) : Sp := fun vs H Q _ => ∃ p dx L, vs = [.ref p] ∧ Hd (pto p (.ins T.C_Disk dx []) :: L) H ∧ ∀ H', Hd (diskA T.C_Disk p (fun _ => none) 0 none :: L) H' → Q .non H'
theorem ok_Disk_init (T : Txt K mg) : FnOk P w K mg base CX0 1 T.a_Disk_init T.d_Disk_init ["self"] (sp_Disk_init T) := by
  refine T.f_Disk_init.ok sc_Disk_init (fun vs H Q E h => ?_) (fun cdv A outer s H vs Q E hr h => ?_)
  · obtain ⟨p, dx, L, rfl, _⟩ := h
    rfl
  · obtain ⟨p, dx, L, rfl, h⟩ := h
    refine ⟨_, (pss_cons (ps_fld (pv 0) pe_dnewK rfl)
       (pss_cons (ps_fld (pv 0) pe_int rfl)
       (pss_one (ps_fld (pv 0) pe_non rfl)))), ?_⟩
    try dsimp only [cxOf]
    obtain ⟨hs, q⟩ := h
    walk_at "run"
    exact q _ (disk_close (sp := none) ((tbl_new hs).swap))

/-- the disk behind a write -/
def wrB (M : Blk) (sp : Option Int) (n : Int) (ws : List Int) : Blk := if sp = some 0 then M else putB M n ws
def wrK (k : Int) (sp : Option Int) : Int := if sp = some 0 then k else k + 1
def wrS (sp : Option Int) : Option Int := if sp = some 0 then sp else sp.map fun i => i - 1

def sp_Disk_block (T : Txt K mg) : Sp := fun vs H Q _ => ∃ (p : Addr) (n : Int) (M : Blk) (k : Int) (sp : Option Int) (L : List SA), vs = [.ref p, .int n] ∧ Hd (diskA T.C_Disk p M k sp :: L) H ∧ ∀ t H', Hd (pto t (.tup ((blk M n).map V.int)) :: diskA T.C_Disk p M k sp :: L) H' → Q (.ref t) H'
theorem ok_Disk_block (T : Txt K mg) : FnOk P w K mg base CX0 1 T.a_Disk_block T.d_Disk_block ["self", "number"] (sp_Disk_block T) := by
  refine T.f_Disk_block.ok sc_Disk_block (fun vs H Q E h => ?_) (fun cdv A outer s H vs Q E hr h => ?_)
  · obtain ⟨p, n, M, k, sp, L, rfl, _⟩ := h
    rfl
  · obtain ⟨p, n, M, k, sp, L, rfl, h⟩ := h
    refine ⟨_, (pss_one (ps_ret (pe_dget2 (hu_of hr) (k_fld (K := K) rfl (pv 0) rfl) (pv 1) (pe_op (k_mul (K := K) rfl) (pe_tup (pa_cons pe_int pa_nil)) (pe_glob (v := .int 8) (by rfl) T.g_BLOCK.choose_spec ⟨_, rfl⟩)) ⟨by rfl, by rfl, by rfl, by rfl⟩))), ?_⟩
    try dsimp only [cxOf]
    obtain ⟨hs, q⟩ := h
    obtain ⟨dx, d, hs⟩ := disk_open hs
    obtain ⟨kvs, hd, -, -⟩ := hs.at (up_tbl _ _ _) (by walk_at "pull")
    walk_at "run"
    obtain ⟨kvs, hd, -, hv⟩ := hs.at (up_tbl _ _ _) (by walk_at "pull")
    walk_at "run"
    rcases hv n with ⟨e1, e2⟩ | ⟨t, ws, e1, e2, e3, -⟩
    · rw [e1]
      have e : (List.replicate (8 : Int).toNat [V.int 0]).flatten = (blk M n).map V.int := by
        unfold blk
        rw [e2]
        rfl
      refine q _ _ ?_
      rw [← e]
      exact Hd.mono (Hd.mt (by walk_at "mt") hs) fun _ z => disk_close z
    · rw [e1]
      refine q _ _ ?_
      have e : blk M n = ws := by
        unfold blk
        rw [e3]
        rfl
      rw [e]
      exact Hd.tup (disk_close (Hd.mt (by walk_at "mt") hs)) e2
end
section
variable {P : Program} {w : World} {K : PySem.W.Frag} {mg : Str → Option Value} {base : Heap}
def sp_Disk_stop (T : Txt K mg) : Sp := fun vs H Q _ => ∃ (p : Addr) (i : Int) (M : Blk) (k : Int) (sp : Option Int) (L : List SA), vs = [.ref p, .int i] ∧ Hd (diskA T.C_Disk p M k sp :: L) H ∧ ∀ H', Hd (diskA T.C_Disk p M k (some i) :: L) H' → Q .non H'
theorem ok_Disk_stop (T : Txt K mg) : FnOk P w K mg base CX0 1 T.a_Disk_stop T.d_Disk_stop ["self", "many"] (sp_Disk_stop T) := by
  refine T.f_Disk_stop.ok sc_Disk_stop (fun vs H Q E h => ?_) (fun cdv A outer s H vs Q E hr h => ?_)
  · obtain ⟨p, i, M, k, sp, L, rfl, _⟩ := h
    rfl
  · obtain ⟨p, i, M, k, sp, L, rfl, h⟩ := h
    refine ⟨_, (pss_one (ps_fld (pv 0) (pv 1) rfl)), ?_⟩
    try dsimp only [cxOf]
    obtain ⟨hs, q⟩ := h
    obtain ⟨dx, d, hs⟩ := disk_open hs
    walk_at "run"
    exact q _ (disk_close (sp := some i) hs)
def sp_Disk_go (T : Txt K mg) : Sp := fun vs H Q _ => ∃ (p : Addr)  (M : Blk) (k : Int) (sp : Option Int) (L : List SA), vs = [.ref p] ∧ Hd (diskA T.C_Disk p M k sp :: L) H ∧ ∀ H', Hd (diskA T.C_Disk p M k none :: L) H' → Q .non H'
theorem ok_Disk_go (T : Txt K mg) : FnOk P w K mg base CX0 1 T.a_Disk_go T.d_Disk_go ["self"] (sp_Disk_go T) := by
  refine T.f_Disk_go.ok sc_Disk_go (fun vs H Q E h => ?_) (fun cdv A outer s H vs Q E hr h => ?_)
  · obtain ⟨p, M, k, sp, L, rfl, _⟩ := h
    rfl
  · obtain ⟨p, M, k, sp, L, rfl, h⟩ := h
    refine ⟨_, (pss_one (ps_fld (pv 0) pe_non rfl)), ?_⟩
    try dsimp only [cxOf]
    obtain ⟨hs, q⟩ := h
    obtain ⟨dx, d, hs⟩ := disk_open hs
    walk_at "run"
    exact q _ (disk_close (sp := none) hs)
def sp_Disk_writes (T : Txt K mg) : Sp := fun vs H Q _ => ∃ (p : Addr)  (M : Blk) (k : Int) (sp : Option Int) (L : List SA), vs = [.ref p] ∧ Hd (diskA T.C_Disk p M k sp :: L) H ∧ Q (.int k) H
theorem ok_Disk_writes (T : Txt K mg) : FnOk P w K mg base CX0 1 T.a_Disk_writes T.d_Disk_writes ["self"] (sp_Disk_writes T) := by
  refine T.f_Disk_writes.ok sc_Disk_writes (fun vs H Q E h => ?_) (fun cdv A outer s H vs Q E hr h => ?_)
  · obtain ⟨p, M, k, sp, L, rfl, _⟩ := h
    rfl
  · obtain ⟨p, M, k, sp, L, rfl, h⟩ := h
    refine ⟨_, (pss_one (ps_ret (k_fld (K := K) rfl (pv 0) rfl))), ?_⟩
    try dsimp only [cxOf]
    obtain ⟨hs, q⟩ := h
    obtain ⟨dx, d, hs⟩ := disk_open hs
    walk_at "run"
    exact q

/-- the table gets a block: the rest of a write -/
theorem put_rest {d t : Addr} {M : Blk} {k n : Int} {ws : List Int} (hw : ws.length = 8) (hk : k ≤ 90000) {L : List SA} {H : Hp} {N : Hp → Prop} (h : Hd (pto t (.tup (ws.map V.int)) :: tblA d M k :: L) H) (q : ∀ H', Hd (tblA d (putB M n ws) (k + 1) :: L) H' → N H') : rSetU (.ref d) (.int n) (.ref t) H N := by
  obtain ⟨kvs, h1, h2, -⟩ := h.at (up_tbl d M k) (.there .here)
  exact Sl.r_setDX h1 (szlt (by omega)) (q _ (tbl_put hw h h1))

def sp_Disk_write (T : Txt K mg) : Sp := fun vs H Q _ => ∃ (p : Addr) (n : Int) (a : Addr) (b : Bool) (ws : List Int) (M : Blk) (k : Int) (sp : Option Int) (L : List SA), vs = [.ref p, .int n, .ref a] ∧ (ws.length = 8 ∧ k ≤ 90000) ∧ Hd (diskA T.C_Disk p M k sp :: pto a (seqO b (ws.map V.int)) :: L) H ∧ ∀ H', Hd (diskA T.C_Disk p (wrB M sp n ws) (wrK k sp) (wrS sp) :: pto a (seqO b (ws.map V.int)) :: L) H' → Q .non H'
theorem ok_Disk_write (T : Txt K mg) : FnOk P w K mg base CX0 1 T.a_Disk_write T.d_Disk_write ["self", "number", "words"] (sp_Disk_write T) := by
  refine T.f_Disk_write.ok sc_Disk_write (fun vs H Q E h => ?_) (fun cdv A outer s H vs Q E hr h => ?_)
  · obtain ⟨p, n, a, b, ws, M, k, sp, L, rfl, _⟩ := h
    rfl
  · obtain ⟨p, n, a, b, ws, M, k, sp, L, rfl, h⟩ := h
    refine ⟨_, (pss_cons (ps_if (pt_cmpR (k_eq (K := K) rfl hr.units) (k_fld (K := K) rfl (pv 0) rfl) pe_int (nomark _))
        (pss_one ps_retN)
        pss_nil)
       (pss_cons (ps_if (pt_cmpR u_notN (k_fld (K := K) rfl (pv 0) rfl) pe_non (nomark _))
        (pss_one (ps_fld (pv 0) (pe_op (k_sub (K := K) rfl) (k_fld (K := K) rfl (pv 0) rfl) pe_int) rfl))
        pss_nil)
       (pss_cons (ps_fld (pv 0) (pe_op (k_add (K := K) rfl) (k_fld (K := K) rfl (pv 0) rfl) pe_int) rfl)
       (pss_one (ps_asg (pe_callTy (k_tuple (K := K) rfl) (by rfl) T.n_tuple (by decide +kernel) (pa_cons (pv 2) pa_nil)) (pg_sub (k_fld (K := K) rfl (pv 0) rfl) (pv 1) (u_set (hu_of hr)))))))), ?_⟩
    try dsimp only [cxOf]
    obtain ⟨⟨hw, hk⟩, hs, q⟩ := h
    obtain ⟨dx, d, hs⟩ := disk_open hs
    -- what stands behind the stop's look
    have fin : ∀ (sp' : Option Int) (H1 : Hp), ¬ sp = some 0 → sp' = wrS sp → Hd (tblA d (putB M n ws) (k + 1) :: pto p (.ins T.C_Disk dx (fs_Disk (.ref d) (.int (k + 1)) (spV sp'))) :: pto a (seqO b (ws.map V.int)) :: L) H1 → Q .non H1 := fun sp' H1 h0 e z => by
      have z2 := q H1
      unfold wrB wrK at z2
      rw [if_neg h0, if_neg h0, ← e] at z2
      exact z2 (disk_close z.swap)
    have rest : ∀ (sp' : Option Int) (H1 : Hp), ¬ sp = some 0 → sp' = wrS sp → Hd (pto p (.ins T.C_Disk dx (fs_Disk (.ref d) (.int k) (spV sp'))) :: tblA d M k :: pto a (seqO b (ws.map V.int)) :: L) H1 →
        (tSeq (sFld K (tVar 0) (tOp (rAddU K) (tFld K (tVar 0) "tally") (tC (.int 1))) "tally") (tAsg (tCB (rTupleOf K) (tCons (tVar 2) tNil)) (gSub (tFld K (tVar 0) "written") (tVar 1) rSetU))) { nx := fun _ H' => Q .non H', rt := Q } (L2.start ["self", "number", "words"] [.ref p, .int n, .ref a]) H1 := fun sp' H h0 e hs => by
      cases b with
      | false =>
        dsimp only [seqO] at hs fin
        walk_at "run"
        refine put_rest hw hk (Hd.mt (by walk_at "mt") hs) fun H hs => ?_
        exact fin sp' _ h0 e (Hd.mt (by walk_at "mt") hs)
      | true =>
        dsimp only [seqO] at hs fin
        walk_at "run"
        refine put_rest hw hk (Hd.tup (Hd.mt (by walk_at "mt") hs) (hs.get (by walk_at "pull"))) fun H hs => ?_
        exact fin sp' _ h0 e (Hd.mt (by walk_at "mt") hs)
    cases sp with
    | none =>
      dsimp only [spV] at hs
      walk_at "run"
      refine Sl.r_iteD (fun z => nomatch z) (fun _ => ?_)
      walk_at "run"
      refine Sl.r_iteN (fun z => (z rfl).elim) (fun _ => ?_)
      walk_at "st"
      exact rest none _ (fun z => nomatch z) rfl hs
    | some i =>
      dsimp only [spV] at hs
      walk_at "run"
      refine Sl.r_iteD (fun z => ?_) (fun z => ?_)
      · walk_at "run"
        subst z
        exact q _ (disk_close (sp := some 0) hs)
      · walk_at "run"
        refine Sl.r_iteN (fun _ => ?_) (fun z => nomatch z)
        walk_at "st"
        walk_at "st"
        walk_at "st"
        walk_at "st"
        walk_at "st"
        walk_at "st"
        walk_at "st"
        walk_at "st"
        walk_at "st"
        refine rest (some (i - 1)) _ (fun e => z (Option.some.inj e)) ?_ hs
        unfold wrS
        rw [if_neg (fun e => z (Option.some.inj e))]
        rfl

theorem disk_ins {C p : Addr} {M : Blk} {k : Int} {sp : Option Int} {L L' : List SA} {H : Hp} (h : Hd L H) (pl : Pull (diskA C p M k sp) L L') : ∃ dx x y z, H p = some (.ins C dx (fs_Disk x y z)) := by
  obtain ⟨dx, d, z⟩ := disk_open (h.pull pl)
  exact ⟨dx, _, _, _, z.get .here⟩

end
set_option hygiene false in
local macro_rules | `(tactic| walk_at "ins") => `(tactic| obtain ⟨_, _, _, _, hi⟩ := disk_ins hs (by walk_at "pull"))

section
variable {P : Program} {w : World} {K : PySem.W.Frag} {mg : Str → Option Value} {base : Heap}

def lawA (m : Addr) (M : Blk) (k : Int) (sp : Option Int) : SA := fun H => ∃ d, Hd [pto m (.dK (mK (.ref d) (.int k) (spV sp))), tblA d M k] H
theorem law_open {m : Addr} {M : Blk} {k : Int} {sp : Option Int} {L : List SA} {H : Hp} (h : Hd (lawA m M k sp :: L) H) : ∃ d, Hd (pto m (.dK (mK (.ref d) (.int k) (spV sp))) :: tblA d M k :: L) H := by
  obtain ⟨H1, H2, c, s1, s2, ⟨d, p⟩, q⟩ := h
  exact ⟨d, Hd.open (M := [_, _]) ⟨H1, H2, c, s1, s2, p, q⟩⟩
theorem law_close {m d : Addr} {M : Blk} {k : Int} {sp : Option Int} {L : List SA} {H : Hp} (h : Hd (pto m (.dK (mK (.ref d) (.int k) (spV sp))) :: tblA d M k :: L) H) : Hd (lawA m M k sp :: L) H :=
  (Hd.close (M := [_, _]) h).imp fun _ z => ⟨d, z⟩
theorem deed_fin {C p m r d : Addr} {M : Blk} {k : Int} {sp : Option Int} {v : V} {n n2 : Nat} {L : List SA} {H : Hp} (h : Hd (diskA C p M k sp :: pto m (.dK (mK (.ref d) (.int k) v)) :: tblA d M k :: stA r n :: L) H) (hv : v = spV sp) (hn : n ≤ n2) : Hd (diskA C p M k sp :: lawA m M k sp :: stA r n2 :: L) H := by
  subst hv
  exact h.mono fun _ z => law_close (z.mono fun _ z => z.mono fun _ z => st_more hn z)
def spOk (sp : Option Int) : Prop := ∀ i, sp = some i → 0 ≤ i
theorem pick4 {x y z w : V} {i : Int} (h0 : 0 ≤ i) (h : i < 4) : ∃ v, (v = x ∨ v = y ∨ v = z ∨ v = w) ∧ atI [x, y, z, w] i = some v := by
  have e : i = 0 ∨ i = 1 ∨ i = 2 ∨ i = 3 := by omega
  rcases e with rfl | rfl | rfl | rfl
  · exact ⟨_, .inl rfl, rfl⟩
  · exact ⟨_, .inr (.inl rfl), rfl⟩
  · exact ⟨_, .inr (.inr (.inl rfl)), rfl⟩
  · exact ⟨_, .inr (.inr (.inr rfl)), rfl⟩
theorem pick2 {x y : V} {i : Int} (h0 : 0 ≤ i) (h : i < 2) : (i = 0 ∧ atI [x, y] i = some x) ∨ (i = 1 ∧ atI [x, y] i = some y) := by
  have e : i = 0 ∨ i = 1 := by omega
  rcases e with rfl | rfl
  · exact .inl ⟨rfl, rfl⟩
  · exact .inr ⟨rfl, rfl⟩

def sp_law_deed (T : Txt K mg) : Sp := fun vs H Q _ => ∃ (p m r : Addr) (n : Nat) (M : Blk) (k : Int) (sp : Option Int) (L : List SA), vs = [.ref p, .ref m, .ref r] ∧ (n ≤ 800000 ∧ 0 ≤ k ∧ k ≤ 80000 ∧ spOk sp) ∧ Hd (diskA T.C_Disk p M k sp :: lawA m M k sp :: stA r n :: L) H ∧
  ∀ M' k' sp' H', 0 ≤ k' → k' ≤ k + 1 → spOk sp' → Hd (diskA T.C_Disk p M' k' sp' :: lawA m M' k' sp' :: stA r (n + 20) :: L) H' → Q (.bl true) H'
theorem ok_law_deed (T : Txt K mg) : FnOk P w K mg base CX0 3 T.a_law_deed T.d_law_deed ["_law_disk", "_law_m", "_law_row_here"] (sp_law_deed T) := by
  refine T.f_law_deed.ok sc_law_deed (fun vs H Q E h => ?_) (fun cdv A outer s H vs Q E hr h => ?_)
  · obtain ⟨p, m, r, n, M, k, sp, L, rfl, _⟩ := h
    rfl
  · obtain ⟨p, m, r, n, M, k, sp, L, rfl, h⟩ := h
    refine ⟨_, (pss_cons (ps_set (i := 3) sc_law_deed.nd rfl (by first | exact Or.inl rfl | exact Or.inr rfl) (pe_call (ok_law_next T) hr (by rfl) T.g_law_next T.f_law_next.kp T.b_law_next .nil pass0 (pa_cons (pv 2) (pa_cons pe_int pa_nil))))
       (pss_cons (ps_if (pt_cmpR (k_eq (K := K) rfl hr.units) (pv 3) pe_int (nomark _))
        (pss_cons (ps_asg (pe_call (ok_law_next T) hr (by rfl) T.g_law_next T.f_law_next.kp T.b_law_next .nil pass0 (pa_cons (pv 2) (pa_cons pe_int pa_nil))) (pg_sub (pv 1) pe_str (u_set (hu_of hr))))
       (pss_one (ps_ret (pe_cmpR u_isN (pe_meth (pv 0) T.cl_Disk T.m_Disk_stop (ok_Disk_stop T) (hr.mono (by decide)) T.b_Disk_stop .nil pass0 (pa_cons (pe_ix (k_ix (K := K) rfl (hu_of hr)) (pv 1) pe_str (fun _ _ => rfl)) pa_nil)) pe_non (nomark _)))))
        pss_nil)
       (pss_cons (ps_if (pt_cmpR (k_eq (K := K) rfl hr.units) (pv 3) pe_int (nomark _))
        (pss_cons (ps_asg pe_non (pg_sub (pv 1) pe_str (u_set (hu_of hr))))
       (pss_one (ps_ret (pe_cmpR u_isN (pe_meth0 (pv 0) T.cl_Disk T.m_Disk_go (ok_Disk_go T) (hr.mono (by decide)) T.b_Disk_go .nil pass0) pe_non (nomark _)))))
        pss_nil)
       (pss_cons (ps_set (i := 4) sc_law_deed.nd rfl (by first | exact Or.inl rfl | exact Or.inr rfl) (pe_ix (k_ix (K := K) rfl (hu_of hr)) (pe_lst (pa_cons (pe_call (ok_law_next T) hr (by rfl) T.g_law_next T.f_law_next.kp T.b_law_next .nil pass0 (pa_cons (pv 2) (pa_cons pe_int pa_nil))) (pa_cons pe_int (pa_cons pe_int (pa_cons (pe_call (ok_law_next T) hr (by rfl) T.g_law_next T.f_law_next.kp T.b_law_next .nil pass0 (pa_cons (pv 2) (pa_cons pe_int pa_nil))) pa_nil))))) (pe_call (ok_law_next T) hr (by rfl) T.g_law_next T.f_law_next.kp T.b_law_next .nil pass0 (pa_cons (pv 2) (pa_cons pe_int pa_nil))) (fun _ _ => rfl)))
       (pss_cons (ps_setLc (i := 5) (own := [("_law_k", 6)]) rfl sc_law_deed.nd rfl rfl (sw_true rfl rfl rfl (by decide +kernel)) (pi_range1 (by rfl) T.n_range (pa_cons pe_int pa_nil)) (blkOk_by (N := ["_law_disk", "_law_m", "_law_row_here", "_law_way", "_law_number", "_law_words", "_law_k", "_law_handed"]) (sc := defScope s_law_deed) (by decide +kernel)) (fun _ _ _ _ _ => (pg_name (i := 6) sc_law_deed.nd rfl (by first | exact Or.inl rfl | exact Or.inr rfl))) (fun _ _ _ _ _ => pts_nil) (fun _ _ _ _ _ => (pe_call (ok_law_next T) hr (by rfl) T.g_law_next T.f_law_next.kp T.b_law_next .nil pass0 (pa_cons (pv 2) (pa_cons pe_int pa_nil)))))
       (pss_cons (ps_set (i := 7) sc_law_deed.nd rfl (by first | exact Or.inl rfl | exact Or.inr rfl) (pe_ix (k_ix (K := K) rfl (hu_of hr)) (pe_lst (pa_cons (pe_callTy (k_tuple (K := K) rfl) (by rfl) T.n_tuple (by decide +kernel) (pa_cons (pv 5) pa_nil)) (pa_cons (pe_callTy (k_list (K := K) rfl) (by rfl) T.n_list (by decide +kernel) (pa_cons (pv 5) pa_nil)) pa_nil))) (pe_op (k_mod (K := K) rfl) (pv 3) pe_int) (fun _ _ => rfl)))
       (pss_cons (ps_if (pt_cmpR u_notN (pe_meth (pv 0) T.cl_Disk T.m_Disk_write (ok_Disk_write T) (hr.mono (by decide)) T.b_Disk_write .nil pass0 (pa_cons (pv 4) (pa_cons (pv 7) pa_nil))) pe_non (nomark _))
        (pss_one (ps_ret pe_bl))
        pss_nil)
       (pss_cons (ps_if (pt_cmpR (k_ne (K := K) rfl hr.units) (pe_ix (k_ix (K := K) rfl (hu_of hr)) (pv 1) pe_str (fun _ _ => rfl)) pe_int (nomark _))
        (pss_cons (ps_asg (pe_callTy (k_tuple (K := K) rfl) (by rfl) T.n_tuple (by decide +kernel) (pa_cons (pv 5) pa_nil)) (pg_sub (pe_ix (k_ix (K := K) rfl (hu_of hr)) (pv 1) pe_str (fun _ _ => rfl)) (pv 4) (u_set (hu_of hr))))
       (pss_one (ps_asg (pe_op (k_add (K := K) rfl) (pe_ix (k_ix (K := K) rfl (hu_of hr)) (pv 1) pe_str (fun _ _ => rfl)) pe_int) (pg_sub (pv 1) pe_str (u_set (hu_of hr))))))
        pss_nil)
       (pss_cons (ps_if (PW.pt (pw_and (pt_cmpR u_notN (pe_ix (k_ix (K := K) rfl (hu_of hr)) (pv 1) pe_str (fun _ _ => rfl)) pe_non (nomark _)) (pw_and1 (pt_cmpR op_gt (pe_ix (k_ix (K := K) rfl (hu_of hr)) (pv 1) pe_str (fun _ _ => rfl)) pe_int (nomark _)))))
        (pss_one (ps_asg (pe_op (k_sub (K := K) rfl) (pe_ix (k_ix (K := K) rfl (hu_of hr)) (pv 1) pe_str (fun _ _ => rfl)) pe_int) (pg_sub (pv 1) pe_str (u_set (hu_of hr)))))
        pss_nil)
       (pss_cons (ps_if (pt_cmpR (k_eq (K := K) rfl hr.units) (pe_op (k_mod (K := K) rfl) (pv 3) pe_int) pe_int (nomark _))
        (pss_one (ps_expr (k_bm0 (K := K) rfl (pe_bm0 PySem.F.plainAttrs_list PySem.F.slot_list_clear PySem.F.type_list_clear mt_clear (pv 7)))))
        pss_nil)
       (pss_one (ps_ret pe_bl)))))))))))), ?_⟩
    try dsimp only [cxOf]
    obtain ⟨⟨hn, hk0, hk, hsp⟩, hs, q⟩ := h
    obtain ⟨d, hs⟩ := law_open (hs.pull (.there .here))
    walk_at "run"
    refine ⟨r, 6, n, _, rfl, ⟨by decide, by decide, by omega⟩, Hd.mt (by walk_at "mt") hs, fun way H w1 w2 hs => ?_⟩
    walk_at "run"
    refine Sl.r_iteD (fun w4 => ?_) (fun w4 => ?_)
    · walk_at "run"
      refine ⟨r, 10, n + 1, _, rfl, ⟨by decide, by decide, by omega⟩, Hd.mt (by walk_at "mt") hs, fun lf H l1 l2 hs => ?_⟩
      walk_at "run"
      refine ⟨p, lf, M, k, sp, _, rfl, Hd.mt (by walk_at "mt") hs, fun H hs => ?_⟩
      walk_at "run"
      refine q M k (some lf) _ hk0 (by omega) (fun i e => by cases e; exact l1) ?_
      exact deed_fin (Hd.mt (by walk_at "mt") hs) (by rfl) (by omega)
    walk_at "run"
    refine Sl.r_iteD (fun w5 => ?_) (fun w5 => ?_)
    · walk_at "run"
      refine ⟨p, M, k, sp, _, rfl, Hd.mt (by walk_at "mt") hs, fun H hs => ?_⟩
      walk_at "run"
      refine q M k none _ hk0 (by omega) (fun i e => nomatch e) ?_
      exact deed_fin (Hd.mt (by walk_at "mt") hs) (by rfl) (by omega)
    walk_at "run"
    refine ⟨r, 400, n + 1, _, rfl, ⟨by decide, by decide, by omega⟩, Hd.mt (by walk_at "mt") hs, fun x1 H _ _ hs => ?_⟩
    walk_at "run"
    refine ⟨r, 5, n + 1 + 1, _, rfl, ⟨by decide, by decide, by omega⟩, Hd.mt (by walk_at "mt") hs, fun x2 H _ _ hs => ?_⟩
    walk_at "run"
    refine ⟨r, 4, n + 1 + 1 + 1, _, rfl, ⟨by decide, by decide, by omega⟩, Hd.mt (by walk_at "mt") hs, fun ix H i1 i2 hs => ?_⟩
    walk_at "run"
    obtain ⟨nv, hnv, hat⟩ := pick4 (x := .int x1) (y := .int 0) (z := .int 399) (w := .int x2) i1 i2
    obtain ⟨num, rfl⟩ : ∃ num, nv = V.int num := by
      rcases hnv with rfl | rfl | rfl | rfl <;> exact ⟨_, rfl⟩
    refine Sl.r_ixL (by walk_at "sq") hat ?_
    walk_at "run"
    refine Sl.r_lcR (fun D i H => ∃ (zs : List Int) (n' : Nat), zs.length = i ∧ n' ≤ n + 4 + i ∧ Hd (pto D (.lst (zs.map V.int)) :: stA r n' :: pto m (.dK (mK (.ref d) (.int k) (spV sp))) :: tblA d M k :: diskA T.C_Disk p M k sp :: L) H) hs ?_ ?_ ?_
    · intro D H hs
      exact ⟨[], n + 1 + 1 + 1 + 1, rfl, Nat.le_refl _, (Hd.mt (by walk_at "mt") hs : Hd (pto D (.lst []) :: _) H)⟩
    · rintro D i H hi ⟨zs, n', hz, hn', hs⟩
      have hi : i < 8 := hi
      walk_at "run"
      refine ⟨r, 65536, n', _, rfl, ⟨by decide, by decide, by omega⟩, Hd.mt (by walk_at "mt") hs, fun x H _ _ hs => ?_⟩
      walk_at "run"
      refine ⟨zs ++ [x], n' + 1, by rw [List.length_append, hz]; rfl, by omega, ?_⟩
      simp only [List.map_append, List.map_cons, List.map_nil]
      exact Hd.mt (by walk_at "mt") hs
    · rintro D H ⟨zs, n', hz, hn', hs⟩
      have hz : zs.length = 8 := hz
      have hn' : n' ≤ n + 12 := hn'
      walk_at "run"
      rcases pick2 (Int.emod_nonneg way (by decide : (2 : Int) ≠ 0)) (Int.emod_lt_of_pos way (by decide)) with ⟨hb, hat2⟩ | ⟨hb, hat2⟩
      · refine Sl.r_ixL (by walk_at "sq") hat2 ?_
        walk_at "run"
        refine ⟨p, num, _, true, zs, M, k, sp, _, rfl, ⟨hz, by omega⟩, (Hd.mt (by walk_at "mt") hs : Hd (diskA T.C_Disk p M k sp :: pto _ (.tup (zs.map V.int)) :: _) _), fun H hs => ?_⟩
        dsimp only [seqO] at hs
        walk_at "run"
        refine Sl.r_iteN (fun z => (z rfl).elim) (fun _ => ?_)
        cases sp with
        | none =>
          dsimp only [spV] at hs
          walk_at "run"
          refine Sl.r_iteN (fun _ => ?_) (fun z => nomatch z)
          walk_at "run"
          refine put_rest (ws := zs) (M := M) (k := k) hz (by omega) (Hd.mt (by walk_at "mt") hs) fun H hs => ?_
          walk_at "run"
          refine Sl.r_iteN (fun z => (z rfl).elim) (fun _ => ?_)
          walk_at "run"
          refine Sl.r_iteD (fun z => (by omega : False).elim) (fun _ => ?_)
          walk_at "run"
          have e1 : wrB M none num zs = putB M num zs := if_neg (fun e => nomatch e)
          have e2 : wrK k none = k + 1 := if_neg (fun e => nomatch e)
          have e3 : wrS none = none := if_neg (fun e => nomatch e)
          rw [e1, e2, e3] at hs
          exact q (putB M num zs) (k + 1) none _ (by omega) (by omega) (fun _ e => nomatch e) (deed_fin (d := d) (Hd.mt (by walk_at "mt") hs) (by rfl) (by omega))
        | some i =>
          dsimp only [spV] at hs
          walk_at "run"
          refine Sl.r_iteN (fun hi0 => ?_) (fun hi0 => ?_)
          · have h0i := hsp i rfl
            walk_at "run"
            refine put_rest (ws := zs) (M := M) (k := k) hz (by omega) (Hd.mt (by walk_at "mt") hs) fun H hs => ?_
            walk_at "run"
            refine Sl.r_iteN (fun _ => ?_) (fun z => nomatch z)
            walk_at "run"
            refine Sl.r_iteD (fun _ => ?_) (fun z => (z (by omega)).elim)
            walk_at "run"
            refine Sl.r_iteD (fun z => (by omega : False).elim) (fun _ => ?_)
            walk_at "run"
            have e1 : wrB M (some i) num zs = putB M num zs := if_neg (fun e => hi0 (Option.some.inj e))
            have e2 : wrK k (some i) = k + 1 := if_neg (fun e => hi0 (Option.some.inj e))
            have e3 : wrS (some i) = some (i - 1) := if_neg (fun e => hi0 (Option.some.inj e))
            rw [e1, e2, e3] at hs
            exact q (putB M num zs) (k + 1) (some (i - 1)) _ (by omega) (by omega) (fun j e => by have := Option.some.inj e; omega) (deed_fin (d := d) (Hd.mt (by walk_at "mt") hs) (by rfl) (by omega))
          · subst hi0
            walk_at "run"
            refine Sl.r_iteN (fun _ => ?_) (fun z => nomatch z)
            walk_at "run"
            refine Sl.r_iteD (fun z => (Int.lt_irrefl _ z).elim) (fun _ => ?_)
            walk_at "run"
            refine Sl.r_iteD (fun z => (by omega : False).elim) (fun _ => ?_)
            walk_at "run"
            have e1 : wrB M (some 0) num zs = M := if_pos rfl
            have e2 : wrK k (some 0) = k := if_pos rfl
            have e3 : wrS (some 0) = some 0 := if_pos rfl
            rw [e1, e2, e3] at hs
            exact q M k (some 0) _ hk0 (by omega) hsp (deed_fin (d := d) (Hd.mt (by walk_at "mt") hs) (by rfl) (by omega))
      · refine Sl.r_ixL (by walk_at "sq") hat2 ?_
        walk_at "run"
        refine ⟨p, num, _, false, zs, M, k, sp, _, rfl, ⟨hz, by omega⟩, (Hd.mt (by walk_at "mt") hs : Hd (diskA T.C_Disk p M k sp :: pto _ (.lst (zs.map V.int)) :: _) _), fun H hs => ?_⟩
        dsimp only [seqO] at hs
        walk_at "run"
        refine Sl.r_iteN (fun z => (z rfl).elim) (fun _ => ?_)
        cases sp with
        | none =>
          dsimp only [spV] at hs
          walk_at "run"
          refine Sl.r_iteN (fun _ => ?_) (fun z => nomatch z)
          walk_at "run"
          refine put_rest (ws := zs) (M := M) (k := k) hz (by omega) (Hd.mt (by walk_at "mt") hs) fun H hs => ?_
          walk_at "run"
          refine Sl.r_iteN (fun z => (z rfl).elim) (fun _ => ?_)
          walk_at "run"
          refine Sl.r_iteD (fun _ => ?_) (fun z => (z hb).elim)
          walk_at "run"
          have e1 : wrB M none num zs = putB M num zs := if_neg (fun e => nomatch e)
          have e2 : wrK k none = k + 1 := if_neg (fun e => nomatch e)
          have e3 : wrS none = none := if_neg (fun e => nomatch e)
          rw [e1, e2, e3] at hs
          exact q (putB M num zs) (k + 1) none _ (by omega) (by omega) (fun _ e => nomatch e) (deed_fin (d := d) (Hd.mt (by walk_at "mt") hs) (by rfl) (by omega))
        | some i =>
          dsimp only [spV] at hs
          walk_at "run"
          refine Sl.r_iteN (fun hi0 => ?_) (fun hi0 => ?_)
          · have h0i := hsp i rfl
            walk_at "run"
            refine put_rest (ws := zs) (M := M) (k := k) hz (by omega) (Hd.mt (by walk_at "mt") hs) fun H hs => ?_
            walk_at "run"
            refine Sl.r_iteN (fun _ => ?_) (fun z => nomatch z)
            walk_at "run"
            refine Sl.r_iteD (fun _ => ?_) (fun z => (z (by omega)).elim)
            walk_at "run"
            refine Sl.r_iteD (fun _ => ?_) (fun z => (z hb).elim)
            walk_at "run"
            have e1 : wrB M (some i) num zs = putB M num zs := if_neg (fun e => hi0 (Option.some.inj e))
            have e2 : wrK k (some i) = k + 1 := if_neg (fun e => hi0 (Option.some.inj e))
            have e3 : wrS (some i) = some (i - 1) := if_neg (fun e => hi0 (Option.some.inj e))
            rw [e1, e2, e3] at hs
            exact q (putB M num zs) (k + 1) (some (i - 1)) _ (by omega) (by omega) (fun j e => by have := Option.some.inj e; omega) (deed_fin (d := d) (Hd.mt (by walk_at "mt") hs) (by rfl) (by omega))
          · subst hi0
            walk_at "run"
            refine Sl.r_iteN (fun _ => ?_) (fun z => nomatch z)
            walk_at "run"
            refine Sl.r_iteD (fun z => (Int.lt_irrefl _ z).elim) (fun _ => ?_)
            walk_at "run"
            refine Sl.r_iteD (fun _ => ?_) (fun z => (z hb).elim)
            walk_at "run"
            have e1 : wrB M (some 0) num zs = M := if_pos rfl
            have e2 : wrK k (some 0) = k := if_pos rfl
            have e3 : wrS (some 0) = some 0 := if_pos rfl
            rw [e1, e2, e3] at hs
            exact q M k (some 0) _ hk0 (by omega) hsp (deed_fin (d := d) (Hd.mt (by walk_at "mt") hs) (by rfl) (by omega))
end
section
variable {P : Program} {w : World} {K : PySem.W.Frag} {mg : Str → Option Value} {base : Heap}

theorem blk_dp {K : PySem.W.Frag} {H : Hp} {t : Addr} {ws : List Int} (h : H t = some (.tup (ws.map V.int))) : Dp K H (.ref t) (.tuple (ws.map PyData.int)) := .tup (SqT.of h) (dp_ints ws)
theorem rep8 : (List.replicate (8 : Int).toNat [V.int 0]).flatten = z8.map V.int := rfl
/-- what the law's own table tells of a block -/
theorem tbl_get {d z : Addr} {M : Blk} {k n : Int} {L : List SA} {H : Hp} (h : Hd (pto z (.tup (z8.map V.int)) :: tblA d M k :: L) H) : ∃ kvs, H d = some (.dK kvs) ∧ ∃ t, (valV kvs (.inl n)).getD (.ref z) = .ref t ∧ Hd (pto t (.tup ((blk M n).map V.int)) :: tblA d M k :: L) H := by
  obtain ⟨kvs, h1, -, hv⟩ := h.at (up_tbl d M k) (.there .here)
  refine ⟨kvs, h1, ?_⟩
  unfold blk
  rcases hv n with ⟨e1, e2⟩ | ⟨t, ws, e1, e2, e3, -⟩
  · rw [e1, e2]
    exact ⟨z, rfl, h⟩
  · rw [e1, e3]
    exact ⟨t, rfl, h.tl.tup e2⟩
theorem law_in {K : PySem.W.Frag} {H : Hp} {a : Addr} {ns : List Int} {Q : VK} {E : XK} (hl : ns.length ≤ 63) (hS : SqL K H a (ns.map V.int)) (q : ∀ H', Q (.bl true) H') :
  ∃ (a' : Addr) (ns : List Int), [V.ref a] = [.ref a'] ∧ ns.length ≤ 63 ∧ Hd [sql K a' (ns.map V.int)] H ∧ ∀ H', Q (.bl true) H' := ⟨a, ns, rfl, hl, Hd.one hS, q⟩

def sp_law (K : PySem.W.Frag) : Sp := fun vs H Q _ => ∃ (a : Addr) (ns : List Int), vs = [.ref a] ∧ ns.length ≤ 63 ∧ Hd [sql K a (ns.map V.int)] H ∧ ∀ H', Q (.bl true) H'
theorem ok_law (T : Txt K mg) : FnOk P w K mg base CX0 4 T.a_law T.d_law ["_law_script"] (sp_law K) := by
  refine T.f_law.ok sc_law (fun vs H Q E h => ?_) (fun cdv A outer s H vs Q E hr h => ?_)
  · obtain ⟨a, ns, rfl, _⟩ := h
    rfl
  · obtain ⟨a, ns, rfl, h⟩ := h
    refine ⟨_, (pss_cons (ps_set (i := 1) sc_law.nd rfl (by first | exact Or.inl rfl | exact Or.inr rfl) (pe_make0 T.mk_Disk (ok_Disk_init T) (hr.mono (by decide)) (by rfl) T.g_Disk T.b_Disk_init .nil pass0))
       (pss_cons (ps_set (i := 2) sc_law.nd rfl (by first | exact Or.inl rfl | exact Or.inr rfl) (pe_disp (pps_cons pe_str pe_dnewK (pps_cons pe_str pe_int (pps_cons pe_str pe_non pps_nil))) (by rfl) (by rfl) (fun z => by cases z) (by decide)))
       (pss_cons (ps_for PassesOwn.never rfl (pi_range2 (by rfl) T.n_range (pa_cons pe_int (pa_cons (pe_callB (u_max2 rfl) (by rfl) T.n_max (by decide +kernel) (pa_cons pe_int (pa_cons (pe_callB (k_len (K := K) rfl) (by rfl) T.n_len (by decide +kernel) (pa_cons (pv 0) pa_nil)) pa_nil))) pa_nil))) (pg_name (i := 3) sc_law.nd rfl (by first | exact Or.inl rfl | exact Or.inr rfl))
        (pss_cons (ps_set (i := 4) sc_law.nd rfl (by first | exact Or.inl rfl | exact Or.inr rfl) (pe_call (ok_law_row T) (hr.mono (by decide)) (by rfl) T.g_law_row T.f_law_row.kp T.b_law_row .nil pass0 (pa_cons (pv 0) (pa_cons (pv 3) pa_nil))))
       (pss_one (ps_for PassesOwn.never rfl (pi_range1 (by rfl) T.n_range (pa_cons (pe_op (k_add (K := K) rfl) pe_int (pe_call (ok_law_next T) (hr.mono (by decide)) (by rfl) T.g_law_next T.f_law_next.kp T.b_law_next .nil pass0 (pa_cons (pv 4) (pa_cons pe_int pa_nil)))) pa_nil)) (pg_name (i := 5) sc_law.nd rfl (by first | exact Or.inl rfl | exact Or.inr rfl))
        (pss_cons (ps_if (PW.pt (pw_or (pt_not (pt_val (pe_call (ok_law_deed T) hr (by rfl) T.g_law_deed T.f_law_deed.kp T.b_law_deed .nil pass0 (pa_cons (pv 1) (pa_cons (pv 2) (pa_cons (pv 4) pa_nil)))))) (pw_or (pt_cmpR (k_ne (K := K) rfl hr.units) (pe_meth0 (pv 1) T.cl_Disk T.m_Disk_writes (ok_Disk_writes T) (hr.mono (by decide)) T.b_Disk_writes .nil pass0) (pe_ix (k_ix (K := K) rfl (hu_of hr)) (pv 2) pe_str (fun _ _ => rfl)) (nomark _)) (pw_or1 (pt_val (pe_callB (k_isi (K := K) rfl) (by rfl) T.n_isinstance (by decide +kernel) (pa_cons (pe_meth0 (pv 1) T.cl_Disk T.m_Disk_writes (ok_Disk_writes T) (hr.mono (by decide)) T.b_Disk_writes .nil pass0) (pa_cons (pe_bltn (v := .ty "bool") (by rfl) T.n_bool (by decide +kernel) rfl) pa_nil))))))))
        (pss_one (ps_ret pe_bl))
        pss_nil)
       (pss_cons (ps_set (i := 6) sc_law.nd rfl (by first | exact Or.inl rfl | exact Or.inr rfl) (pe_call (ok_law_next T) (hr.mono (by decide)) (by rfl) T.g_law_next T.f_law_next.kp T.b_law_next .nil pass0 (pa_cons (pv 4) (pa_cons pe_int pa_nil))))
       (pss_one (ps_if (pt_cmpR (k_ne (K := K) rfl hr.units) (pe_meth (pv 1) T.cl_Disk T.m_Disk_block (ok_Disk_block T) (hr.mono (by decide)) T.b_Disk_block .nil pass0 (pa_cons (pv 6) pa_nil)) (pe_dget2 (hu_of hr) (pe_ix (k_ix (K := K) rfl (hu_of hr)) (pv 2) pe_str (fun _ _ => rfl)) (pv 6) (pe_op (k_mul (K := K) rfl) (pe_tup (pa_cons pe_int pa_nil)) pe_int) ⟨by rfl, by rfl, by rfl, by rfl⟩) (nomark _))
        (pss_one (ps_ret pe_bl))
        pss_nil))))))))
       (pss_one (ps_ret (pe_cmpR (k_eq (K := K) rfl hr.units) (pe_lc (own := [("_law_number", 6)]) rfl sc_law.nd (pi_range1 (by rfl) T.n_range (pa_cons pe_int pa_nil)) (blkOk_by (N := ["_law_script", "_law_disk", "_law_m", "_law_k", "_law_row_here", "_law_turn", "_law_number"]) (sc := defScope s_law) (by decide +kernel)) (fun _ _ _ _ _ => (pg_name (i := 6) sc_law.nd rfl (by first | exact Or.inl rfl | exact Or.inr rfl))) (fun _ _ _ _ _ => (pts_one (pt_cmpR (k_ne (K := K) rfl hr.units) (pe_meth (pv 1) T.cl_Disk T.m_Disk_block (ok_Disk_block T) (hr.mono (by decide)) T.b_Disk_block .nil pass0 (pa_cons (pv 6) pa_nil)) (pe_dget2 (hu_of hr) (pe_ix (k_ix (K := K) rfl (hu_of hr)) (pv 2) pe_str (fun _ _ => rfl)) (pv 6) (pe_op (k_mul (K := K) rfl) (pe_tup (pa_cons pe_int pa_nil)) pe_int) ⟨by rfl, by rfl, by rfl, by rfl⟩) (nomark _)))) (fun _ _ _ _ _ => (pv 6))) (pe_lst pa_nil) (nomark _))))))), ?_⟩
    try dsimp only [cxOf]
    obtain ⟨hl, hs, q⟩ := h
    walk_at "run"
    obtain ⟨p, rfl⟩ : ∃ p, p = q_ := ⟨_, rfl⟩
    refine ⟨p, _, _, rfl, Hd.mt (by walk_at "mt") hs, fun H hs => ⟨rfl, ?_⟩⟩
    walk_at "st"
    walk_at "st"
    walk_at "st"
    walk_at "st"
    obtain ⟨m, rfl⟩ : ∃ m, m = q_ := ⟨_, rfl⟩
    walk_at "run"
    have hs : Hd (lawA m (fun _ => none) 0 none :: diskA T.C_Disk p (fun _ => none) 0 none :: [sql K a (ns.map V.int)]) H :=
      law_close (d := q_) ((tbl_new (Hd.mt (by walk_at "mt") hs : Hd (pto q_ (.dK []) :: pto m (.dK (mK (.ref q_) (.int 0) .non)) :: _) H)).swap)
    refine Sl.r_forR (fun i σ H => ∃ (v3 v4 v5 v6 : Option V) (M : Blk) (k : Int) (sp : Option Int), σ = [some (.ref a), some (.ref p), some (.ref m), v3, v4, v5, v6] ∧ 0 ≤ k ∧ k ≤ 4 * (i : Nat) ∧ spOk sp ∧ Hd (diskA T.C_Disk p M k sp :: lawA m M k sp :: [sql K a (ns.map V.int)]) H) ?_ ?_ ?_
    · exact ⟨none, none, none, none, fun _ => none, 0, none, rfl, Int.le_refl 0, by omega, (fun _ e => nomatch e), Hd.mt (by walk_at "mt") hs⟩
    · rintro i σ H hi ⟨v3, v4, v5, v6, M, k, sp, rfl, hk0, hk, hsp, hs⟩
      have hi : i < 63 := by
        simp only [List.length_map] at hi
        split at hi <;> omega
      walk_at "run"
      refine ⟨a, ns, i + 1, _, congrArg (fun z : Int => [V.ref a, V.int z]) (by omega), Hd.mt (by walk_at "mt") hs, fun r H hs => ?_⟩
      walk_at "run"
      refine ⟨r, 4, 0, _, rfl, ⟨by decide, by decide, by omega⟩, Hd.mt (by walk_at "mt") hs, fun tr H t1 t2 hs => ?_⟩
      walk_at "run"
      refine Sl.r_forR (fun j σ H => ∃ (v5 v6 : Option V) (M : Blk) (k : Int) (sp : Option Int) (n' : Nat), σ = [some (.ref a), some (.ref p), some (.ref m), some (.int (1 + (i : Nat))), some (.ref r), v5, v6] ∧ 0 ≤ k ∧ k ≤ 4 * (i : Nat) + (j : Nat) ∧ spOk sp ∧ n' ≤ 1 + 30 * j ∧ Hd (diskA T.C_Disk p M k sp :: lawA m M k sp :: stA r n' :: [sql K a (ns.map V.int)]) H) ?_ ?_ ?_
      · exact ⟨v5, v6, M, k, sp, 1, rfl, hk0, by omega, hsp, by omega, (Hd.mt (by walk_at "mt") hs : Hd (diskA T.C_Disk p M k sp :: lawA m M k sp :: stA r (0 + 1) :: _) H)⟩
      · rintro j σ H hj ⟨v5, v6, M, k, sp, n', rfl, hk0, hk, hsp, hn', hs⟩
        have hj : j < 4 := by omega
        walk_at "run"
        refine ⟨p, m, r, n', M, k, sp, _, rfl, ⟨by omega, hk0, by omega, hsp⟩, Hd.mt (by walk_at "mt") hs, fun M2 k2 sp2 H hk2 hk3 hsp2 hs => ?_⟩
        walk_at "run"
        refine ⟨p, M2, k2, sp2, _, rfl, Hd.mt (by walk_at "mt") hs, ?_⟩
        obtain ⟨d2, hs⟩ := law_open (hs.pull (by walk_at "pull"))
        walk_at "run"
        refine Sl.r_iteN (fun z => (z rfl).elim) (fun _ => ?_)
        walk_at "run"
        refine ⟨p, M2, k2, sp2, _, rfl, Hd.mt (by walk_at "mt") hs, ?_⟩
        walk_at "run"
        refine ⟨r, 400, n' + 20, _, rfl, ⟨by decide, by decide, by omega⟩, Hd.mt (by walk_at "mt") hs, fun nb H _ _ hs => ?_⟩
        walk_at "run"
        refine ⟨p, nb, M2, k2, sp2, _, rfl, Hd.mt (by walk_at "mt") hs, fun tb H hs => ?_⟩
        walk_at "run"
        obtain ⟨kvs, hkv, -, -⟩ := hs.at (up_tbl d2 M2 k2) (by walk_at "pull")
        walk_at "run"
        obtain ⟨kvs, hkv, t2, et, hs⟩ := tbl_get (n := nb) (Hd.mt (by walk_at "mt") hs : Hd (pto q_ (.tup (List.replicate (Int.toNat 8) [V.int 0]).flatten) :: tblA d2 M2 k2 :: _) _)
        walk_at "run"
        rw [et]
        refine Sl.r_neSame (blk_dp (hs.get (by walk_at "pull"))) (blk_dp (hs.get (by walk_at "pull"))) (sh_tupI _) (SeqAt.eqv_refl _ (SeqAt.canLay_of_shaped (sh_tupI _))) ?_
        walk_at "run"
        exact ⟨_, _, M2, k2, sp2, n' + 20 + 1, rfl, hk2, by omega, hsp2, by omega, deed_fin (d := d2) (v := spV sp2) (Hd.mt (by walk_at "mt") hs) (by rfl) (Nat.le_refl _)⟩
      · rintro σ H ⟨v5, v6, M, k, sp, n', rfl, hk0, hk, hsp, hn', hs⟩
        exact ⟨_, _, _, _, M, k, sp, rfl, hk0, by omega, hsp, Hd.mt (by walk_at "mt") hs⟩
    · rintro σ H ⟨v3, v4, v5, v6, M, k, sp, rfl, hk0, hk, hsp, hs⟩
      obtain ⟨d2, hs⟩ := law_open (hs.pull (by walk_at "pull"))
      walk_at "run"
      refine Sl.r_lcR (fun D i H => Hd (pto D (.lst []) :: diskA T.C_Disk p M k sp :: pto m (.dK (mK (.ref d2) (.int k) (spV sp))) :: tblA d2 M k :: []) H) hs ?_ ?_ ?_
      · intro D H hs
        exact Hd.mt (by walk_at "mt") hs
      · intro D i H hi hs
        have hs : Hd (pto D (.lst []) :: diskA T.C_Disk p M k sp :: pto m (.dK (mK (.ref d2) (.int k) (spV sp))) :: tblA d2 M k :: []) H := hs
        walk_at "run"
        refine ⟨p, 0 + (i : Nat), M, k, sp, _, rfl, Hd.mt (by walk_at "mt") hs, fun tb H hs => ?_⟩
        walk_at "run"
        obtain ⟨kvs, hkv, -, -⟩ := hs.at (up_tbl d2 M k) (by walk_at "pull")
        walk_at "run"
        obtain ⟨kvs, hkv, t2, et, hs⟩ := tbl_get (n := 0 + (i : Nat)) (Hd.mt (by walk_at "mt") hs : Hd (pto q_ (.tup (List.replicate (Int.toNat 8) [V.int 0]).flatten) :: tblA d2 M k :: _) _)
        walk_at "run"
        rw [et]
        refine Sl.r_neSame (blk_dp (hs.get (by walk_at "pull"))) (blk_dp (hs.get (by walk_at "pull"))) (sh_tupI _) (SeqAt.eqv_refl _ (SeqAt.canLay_of_shaped (sh_tupI _))) ?_
        walk_at "run"
        exact Hd.mt (by walk_at "mt") hs
      · intro D H hs
        have hs : Hd (pto D (.lst []) :: diskA T.C_Disk p M k sp :: pto m (.dK (mK (.ref d2) (.int k) (spV sp))) :: tblA d2 M k :: []) H := hs
        walk_at "run"
        refine Sl.r_eqSame (d := .list []) (.lst (hs.sq (by walk_at "pull")) .nil) (.lst (hs.sq (by walk_at "pull")) .nil) (by decide) rfl ?_
        walk_at "run"
        exact q _
end
theorem all_mk {l : PySem.W.OpenLaw} {w : World} {K : PySem.W.Frag} {h : Heap} {mg : Str → Option Value} {fa : Addr} (X : K.In h) (G : h.Ns mainGlobals mg) (hfa : mg "law" = some (.ref fa))
    {C_Disk : Addr} {a_Disk_init : Addr} {od_Disk_init an_Disk_init : Option Addr} {sl_Disk_init : Array (Option Value)} {oc_Disk_init kV_Disk_init dc_Disk_init pm_Disk_init cd_Disk_init ct_Disk_init : Value} {a_Disk_block : Addr} {od_Disk_block an_Disk_block : Option Addr} {sl_Disk_block : Array (Option Value)} {oc_Disk_block kV_Disk_block dc_Disk_block pm_Disk_block cd_Disk_block ct_Disk_block : Value} {a_Disk_write : Addr} {od_Disk_write an_Disk_write : Option Addr} {sl_Disk_write : Array (Option Value)} {oc_Disk_write kV_Disk_write dc_Disk_write pm_Disk_write cd_Disk_write ct_Disk_write : Value} {a_Disk_stop : Addr} {od_Disk_stop an_Disk_stop : Option Addr} {sl_Disk_stop : Array (Option Value)} {oc_Disk_stop kV_Disk_stop dc_Disk_stop pm_Disk_stop cd_Disk_stop ct_Disk_stop : Value} {a_Disk_go : Addr} {od_Disk_go an_Disk_go : Option Addr} {sl_Disk_go : Array (Option Value)} {oc_Disk_go kV_Disk_go dc_Disk_go pm_Disk_go cd_Disk_go ct_Disk_go : Value} {a_Disk_writes : Addr} {od_Disk_writes an_Disk_writes : Option Addr} {sl_Disk_writes : Array (Option Value)} {oc_Disk_writes kV_Disk_writes dc_Disk_writes pm_Disk_writes cd_Disk_writes ct_Disk_writes : Value} {a_law_cell_at : Addr} {od_law_cell_at an_law_cell_at : Option Addr} {sl_law_cell_at : Array (Option Value)} {oc_law_cell_at kV_law_cell_at dc_law_cell_at pm_law_cell_at cd_law_cell_at ct_law_cell_at : Value} {a_law_mixed : Addr} {od_law_mixed an_law_mixed : Option Addr} {sl_law_mixed : Array (Option Value)} {oc_law_mixed kV_law_mixed dc_law_mixed pm_law_mixed cd_law_mixed ct_law_mixed : Value} {a_law_row : Addr} {od_law_row an_law_row : Option Addr} {sl_law_row : Array (Option Value)} {oc_law_row kV_law_row dc_law_row pm_law_row cd_law_row ct_law_row : Value} {a_law_next : Addr} {od_law_next an_law_next : Option Addr} {sl_law_next : Array (Option Value)} {oc_law_next kV_law_next dc_law_next pm_law_next cd_law_next ct_law_next : Value} {a_law_deed : Addr} {od_law_deed an_law_deed : Option Addr} {sl_law_deed : Array (Option Value)} {oc_law_deed kV_law_deed dc_law_deed pm_law_deed cd_law_deed ct_law_deed : Value} {a_law : Addr} {od_law an_law : Option Addr} {sl_law : Array (Option Value)} {oc_law kV_law dc_law pm_law cd_law ct_law : Value} {t_BLOCK : Tok}
    (h1_Disk : PySem.W.nsIn K mainGlobals "Disk" = some (some (.ref C_Disk)))
    (h2_Disk : PySem.W.plainGet K C_Disk Str.empty = true)
    (h3_Disk : PySem.W.hasDictIn K C_Disk = true)
    (h4_Disk : PySem.W.plainOver K C_Disk = true)
    (h5_Disk : PySem.W.findIn K (.ref C_Disk) "__setattr__" = some (some (.builtin "object.__setattr__")))
    (h6_Disk : PySem.W.makesIn K C_Disk = true)
    (h7_Disk : PySem.W.keepIn K (.ref C_Disk) = true)
    (n_Disk_written : PySem.W.findIn K (.ref C_Disk) "written" = some none)
    (n_Disk_tally : PySem.W.findIn K (.ref C_Disk) "tally" = some none)
    (n_Disk_spare : PySem.W.findIn K (.ref C_Disk) "spare" = some none)
    (g_Disk_init : PySem.W.findIn K (.ref C_Disk) "__init__" = some (some (.ref a_Disk_init)))
    (i_Disk_init : PySem.W.isFn K (.ref a_Disk_init) = true)
    (l_Disk_init : K.lookup a_Disk_init = some ⟨oc_Disk_init, od_Disk_init, .func (PySem.W.fnOf "__init__" "Disk.__init__" (defArgs s_Disk_init) (defBody s_Disk_init) (defScope s_Disk_init) .none kV_Disk_init dc_Disk_init pm_Disk_init an_Disk_init cd_Disk_init ct_Disk_init), sl_Disk_init⟩)
    (c_Disk_init : PySem.W.codeIn K cd_Disk_init "Disk.__init__" = true)
    (k_Disk_init : PySem.W.keepIn K (.ref a_Disk_init) = true)
    (g_Disk_block : PySem.W.findIn K (.ref C_Disk) "block" = some (some (.ref a_Disk_block)))
    (i_Disk_block : PySem.W.isFn K (.ref a_Disk_block) = true)
    (l_Disk_block : K.lookup a_Disk_block = some ⟨oc_Disk_block, od_Disk_block, .func (PySem.W.fnOf "block" "Disk.block" (defArgs s_Disk_block) (defBody s_Disk_block) (defScope s_Disk_block) .none kV_Disk_block dc_Disk_block pm_Disk_block an_Disk_block cd_Disk_block ct_Disk_block), sl_Disk_block⟩)
    (c_Disk_block : PySem.W.codeIn K cd_Disk_block "Disk.block" = true)
    (k_Disk_block : PySem.W.keepIn K (.ref a_Disk_block) = true)
    (g_Disk_write : PySem.W.findIn K (.ref C_Disk) "write" = some (some (.ref a_Disk_write)))
    (i_Disk_write : PySem.W.isFn K (.ref a_Disk_write) = true)
    (l_Disk_write : K.lookup a_Disk_write = some ⟨oc_Disk_write, od_Disk_write, .func (PySem.W.fnOf "write" "Disk.write" (defArgs s_Disk_write) (defBody s_Disk_write) (defScope s_Disk_write) .none kV_Disk_write dc_Disk_write pm_Disk_write an_Disk_write cd_Disk_write ct_Disk_write), sl_Disk_write⟩)
    (c_Disk_write : PySem.W.codeIn K cd_Disk_write "Disk.write" = true)
    (k_Disk_write : PySem.W.keepIn K (.ref a_Disk_write) = true)
    (g_Disk_stop : PySem.W.findIn K (.ref C_Disk) "stop" = some (some (.ref a_Disk_stop)))
    (i_Disk_stop : PySem.W.isFn K (.ref a_Disk_stop) = true)
    (l_Disk_stop : K.lookup a_Disk_stop = some ⟨oc_Disk_stop, od_Disk_stop, .func (PySem.W.fnOf "stop" "Disk.stop" (defArgs s_Disk_stop) (defBody s_Disk_stop) (defScope s_Disk_stop) .none kV_Disk_stop dc_Disk_stop pm_Disk_stop an_Disk_stop cd_Disk_stop ct_Disk_stop), sl_Disk_stop⟩)
    (c_Disk_stop : PySem.W.codeIn K cd_Disk_stop "Disk.stop" = true)
    (k_Disk_stop : PySem.W.keepIn K (.ref a_Disk_stop) = true)
    (g_Disk_go : PySem.W.findIn K (.ref C_Disk) "go" = some (some (.ref a_Disk_go)))
    (i_Disk_go : PySem.W.isFn K (.ref a_Disk_go) = true)
    (l_Disk_go : K.lookup a_Disk_go = some ⟨oc_Disk_go, od_Disk_go, .func (PySem.W.fnOf "go" "Disk.go" (defArgs s_Disk_go) (defBody s_Disk_go) (defScope s_Disk_go) .none kV_Disk_go dc_Disk_go pm_Disk_go an_Disk_go cd_Disk_go ct_Disk_go), sl_Disk_go⟩)
    (c_Disk_go : PySem.W.codeIn K cd_Disk_go "Disk.go" = true)
    (k_Disk_go : PySem.W.keepIn K (.ref a_Disk_go) = true)
    (g_Disk_writes : PySem.W.findIn K (.ref C_Disk) "writes" = some (some (.ref a_Disk_writes)))
    (i_Disk_writes : PySem.W.isFn K (.ref a_Disk_writes) = true)
    (l_Disk_writes : K.lookup a_Disk_writes = some ⟨oc_Disk_writes, od_Disk_writes, .func (PySem.W.fnOf "writes" "Disk.writes" (defArgs s_Disk_writes) (defBody s_Disk_writes) (defScope s_Disk_writes) .none kV_Disk_writes dc_Disk_writes pm_Disk_writes an_Disk_writes cd_Disk_writes ct_Disk_writes), sl_Disk_writes⟩)
    (c_Disk_writes : PySem.W.codeIn K cd_Disk_writes "Disk.writes" = true)
    (k_Disk_writes : PySem.W.keepIn K (.ref a_Disk_writes) = true)
    (g_law_cell_at : PySem.W.nsIn K mainGlobals "_law_cell_at" = some (some (.ref a_law_cell_at)))
    (l_law_cell_at : K.lookup a_law_cell_at = some ⟨oc_law_cell_at, od_law_cell_at, .func (PySem.W.fnOf "_law_cell_at" "_law_cell_at" (defArgs s_law_cell_at) (defBody s_law_cell_at) (defScope s_law_cell_at) .none kV_law_cell_at dc_law_cell_at pm_law_cell_at an_law_cell_at cd_law_cell_at ct_law_cell_at), sl_law_cell_at⟩)
    (c_law_cell_at : PySem.W.codeIn K cd_law_cell_at "_law_cell_at" = true)
    (k_law_cell_at : PySem.W.keepIn K (.ref a_law_cell_at) = true)
    (g_law_mixed : PySem.W.nsIn K mainGlobals "_law_mixed" = some (some (.ref a_law_mixed)))
    (l_law_mixed : K.lookup a_law_mixed = some ⟨oc_law_mixed, od_law_mixed, .func (PySem.W.fnOf "_law_mixed" "_law_mixed" (defArgs s_law_mixed) (defBody s_law_mixed) (defScope s_law_mixed) .none kV_law_mixed dc_law_mixed pm_law_mixed an_law_mixed cd_law_mixed ct_law_mixed), sl_law_mixed⟩)
    (c_law_mixed : PySem.W.codeIn K cd_law_mixed "_law_mixed" = true)
    (k_law_mixed : PySem.W.keepIn K (.ref a_law_mixed) = true)
    (g_law_row : PySem.W.nsIn K mainGlobals "_law_row" = some (some (.ref a_law_row)))
    (l_law_row : K.lookup a_law_row = some ⟨oc_law_row, od_law_row, .func (PySem.W.fnOf "_law_row" "_law_row" (defArgs s_law_row) (defBody s_law_row) (defScope s_law_row) .none kV_law_row dc_law_row pm_law_row an_law_row cd_law_row ct_law_row), sl_law_row⟩)
    (c_law_row : PySem.W.codeIn K cd_law_row "_law_row" = true)
    (k_law_row : PySem.W.keepIn K (.ref a_law_row) = true)
    (g_law_next : PySem.W.nsIn K mainGlobals "_law_next" = some (some (.ref a_law_next)))
    (l_law_next : K.lookup a_law_next = some ⟨oc_law_next, od_law_next, .func (PySem.W.fnOf "_law_next" "_law_next" (defArgs s_law_next) (defBody s_law_next) (defScope s_law_next) .none kV_law_next dc_law_next pm_law_next an_law_next cd_law_next ct_law_next), sl_law_next⟩)
    (c_law_next : PySem.W.codeIn K cd_law_next "_law_next" = true)
    (k_law_next : PySem.W.keepIn K (.ref a_law_next) = true)
    (g_law_deed : PySem.W.nsIn K mainGlobals "_law_deed" = some (some (.ref a_law_deed)))
    (l_law_deed : K.lookup a_law_deed = some ⟨oc_law_deed, od_law_deed, .func (PySem.W.fnOf "_law_deed" "_law_deed" (defArgs s_law_deed) (defBody s_law_deed) (defScope s_law_deed) .none kV_law_deed dc_law_deed pm_law_deed an_law_deed cd_law_deed ct_law_deed), sl_law_deed⟩)
    (c_law_deed : PySem.W.codeIn K cd_law_deed "_law_deed" = true)
    (k_law_deed : PySem.W.keepIn K (.ref a_law_deed) = true)
    (g_law : PySem.W.nsIn K mainGlobals "law" = some (some (.ref a_law)))
    (l_law : K.lookup a_law = some ⟨oc_law, od_law, .func (PySem.W.fnOf "law" "law" (defArgs s_law) (defBody s_law) (defScope s_law) .none kV_law dc_law pm_law an_law cd_law ct_law), sl_law⟩)
    (c_law : PySem.W.codeIn K cd_law "law" = true)
    (k_law : PySem.W.keepIn K (.ref a_law) = true)
    (g_BLOCK : PySem.W.nsIn K mainGlobals "BLOCK" = some (some (.int 8 t_BLOCK)))
    (n_bool : PySem.W.nsIn K mainGlobals "bool" = some none)
    (n_isinstance : PySem.W.nsIn K mainGlobals "isinstance" = some none)
    (n_len : PySem.W.nsIn K mainGlobals "len" = some none)
    (n_list : PySem.W.nsIn K mainGlobals "list" = some none)
    (n_max : PySem.W.nsIn K mainGlobals "max" = some none)
    (n_range : PySem.W.nsIn K mainGlobals "range" = some none)
    (n_tuple : PySem.W.nsIn K mainGlobals "tuple" = some none) :
    ∃ fd : FuncData, (∀ (s : Shared) (v : Value), BindsTo s fd ⟨[v], []⟩ [("_law_script", v)]) ∧ ∀ base : Heap, K.In base → base.Ns mainGlobals mg → FnOk l.prog w K mg base CX0 4 fa fd ["_law_script"] (sp_law K) := by
  have e := hfa.symm.trans (PySem.W.mg_of X G g_law)
  cases e
  have T : ∃ T : Txt K mg, T.a_law = fa ∧ T.d_law = (PySem.W.fnOf "law" "law" (defArgs s_law) (defBody s_law) (defScope s_law) .none kV_law dc_law pm_law an_law cd_law ct_law) := ⟨{
    C_Disk := C_Disk,
    cl_Disk := ⟨h2_Disk, h3_Disk, h4_Disk, h5_Disk⟩,
    g_Disk := PySem.W.mg_of X G h1_Disk,
    n_Disk_written := n_Disk_written,
    n_Disk_tally := n_Disk_tally,
    n_Disk_spare := n_Disk_spare,
    a_Disk_init := a_Disk_init,
    d_Disk_init := (PySem.W.fnOf "__init__" "Disk.__init__" (defArgs s_Disk_init) (defBody s_Disk_init) (defScope s_Disk_init) .none kV_Disk_init dc_Disk_init pm_Disk_init an_Disk_init cd_Disk_init ct_Disk_init),
    f_Disk_init := fun_mk (st := s_Disk_init) l_Disk_init c_Disk_init k_Disk_init,
    b_Disk_init := (fun_mk (st := s_Disk_init) l_Disk_init c_Disk_init k_Disk_init).binds (ps := ["self"]) fun _ _ _ _ _ _ us hl => match us, hl with | [_], _ => rfl,
    mk_Disk := ⟨h6_Disk, g_Disk_init, i_Disk_init, h7_Disk⟩,
    a_Disk_block := a_Disk_block,
    d_Disk_block := (PySem.W.fnOf "block" "Disk.block" (defArgs s_Disk_block) (defBody s_Disk_block) (defScope s_Disk_block) .none kV_Disk_block dc_Disk_block pm_Disk_block an_Disk_block cd_Disk_block ct_Disk_block),
    f_Disk_block := fun_mk (st := s_Disk_block) l_Disk_block c_Disk_block k_Disk_block,
    b_Disk_block := (fun_mk (st := s_Disk_block) l_Disk_block c_Disk_block k_Disk_block).binds (ps := ["self", "number"]) fun _ _ _ _ _ _ us hl => match us, hl with | [_, _], _ => rfl,
    m_Disk_block := ⟨g_Disk_block, i_Disk_block, k_Disk_block⟩,
    a_Disk_write := a_Disk_write,
    d_Disk_write := (PySem.W.fnOf "write" "Disk.write" (defArgs s_Disk_write) (defBody s_Disk_write) (defScope s_Disk_write) .none kV_Disk_write dc_Disk_write pm_Disk_write an_Disk_write cd_Disk_write ct_Disk_write),
    f_Disk_write := fun_mk (st := s_Disk_write) l_Disk_write c_Disk_write k_Disk_write,
    b_Disk_write := (fun_mk (st := s_Disk_write) l_Disk_write c_Disk_write k_Disk_write).binds (ps := ["self", "number", "words"]) fun _ _ _ _ _ _ us hl => match us, hl with | [_, _, _], _ => rfl,
    m_Disk_write := ⟨g_Disk_write, i_Disk_write, k_Disk_write⟩,
    a_Disk_stop := a_Disk_stop,
    d_Disk_stop := (PySem.W.fnOf "stop" "Disk.stop" (defArgs s_Disk_stop) (defBody s_Disk_stop) (defScope s_Disk_stop) .none kV_Disk_stop dc_Disk_stop pm_Disk_stop an_Disk_stop cd_Disk_stop ct_Disk_stop),
    f_Disk_stop := fun_mk (st := s_Disk_stop) l_Disk_stop c_Disk_stop k_Disk_stop,
    b_Disk_stop := (fun_mk (st := s_Disk_stop) l_Disk_stop c_Disk_stop k_Disk_stop).binds (ps := ["self", "many"]) fun _ _ _ _ _ _ us hl => match us, hl with | [_, _], _ => rfl,
    m_Disk_stop := ⟨g_Disk_stop, i_Disk_stop, k_Disk_stop⟩,
    a_Disk_go := a_Disk_go,
    d_Disk_go := (PySem.W.fnOf "go" "Disk.go" (defArgs s_Disk_go) (defBody s_Disk_go) (defScope s_Disk_go) .none kV_Disk_go dc_Disk_go pm_Disk_go an_Disk_go cd_Disk_go ct_Disk_go),
    f_Disk_go := fun_mk (st := s_Disk_go) l_Disk_go c_Disk_go k_Disk_go,
    b_Disk_go := (fun_mk (st := s_Disk_go) l_Disk_go c_Disk_go k_Disk_go).binds (ps := ["self"]) fun _ _ _ _ _ _ us hl => match us, hl with | [_], _ => rfl,
    m_Disk_go := ⟨g_Disk_go, i_Disk_go, k_Disk_go⟩,
    a_Disk_writes := a_Disk_writes,
    d_Disk_writes := (PySem.W.fnOf "writes" "Disk.writes" (defArgs s_Disk_writes) (defBody s_Disk_writes) (defScope s_Disk_writes) .none kV_Disk_writes dc_Disk_writes pm_Disk_writes an_Disk_writes cd_Disk_writes ct_Disk_writes),
    f_Disk_writes := fun_mk (st := s_Disk_writes) l_Disk_writes c_Disk_writes k_Disk_writes,
    b_Disk_writes := (fun_mk (st := s_Disk_writes) l_Disk_writes c_Disk_writes k_Disk_writes).binds (ps := ["self"]) fun _ _ _ _ _ _ us hl => match us, hl with | [_], _ => rfl,
    m_Disk_writes := ⟨g_Disk_writes, i_Disk_writes, k_Disk_writes⟩,
    a_law_cell_at := a_law_cell_at,
    d_law_cell_at := (PySem.W.fnOf "_law_cell_at" "_law_cell_at" (defArgs s_law_cell_at) (defBody s_law_cell_at) (defScope s_law_cell_at) .none kV_law_cell_at dc_law_cell_at pm_law_cell_at an_law_cell_at cd_law_cell_at ct_law_cell_at),
    f_law_cell_at := fun_mk (st := s_law_cell_at) l_law_cell_at c_law_cell_at k_law_cell_at,
    b_law_cell_at := (fun_mk (st := s_law_cell_at) l_law_cell_at c_law_cell_at k_law_cell_at).binds (ps := ["_law_script", "_law_k"]) fun _ _ _ _ _ _ us hl => match us, hl with | [_, _], _ => rfl,
    g_law_cell_at := PySem.W.mg_of X G g_law_cell_at,
    a_law_mixed := a_law_mixed,
    d_law_mixed := (PySem.W.fnOf "_law_mixed" "_law_mixed" (defArgs s_law_mixed) (defBody s_law_mixed) (defScope s_law_mixed) .none kV_law_mixed dc_law_mixed pm_law_mixed an_law_mixed cd_law_mixed ct_law_mixed),
    f_law_mixed := fun_mk (st := s_law_mixed) l_law_mixed c_law_mixed k_law_mixed,
    b_law_mixed := (fun_mk (st := s_law_mixed) l_law_mixed c_law_mixed k_law_mixed).binds (ps := ["_law_cell", "_law_k"]) fun _ _ _ _ _ _ us hl => match us, hl with | [_, _], _ => rfl,
    g_law_mixed := PySem.W.mg_of X G g_law_mixed,
    a_law_row := a_law_row,
    d_law_row := (PySem.W.fnOf "_law_row" "_law_row" (defArgs s_law_row) (defBody s_law_row) (defScope s_law_row) .none kV_law_row dc_law_row pm_law_row an_law_row cd_law_row ct_law_row),
    f_law_row := fun_mk (st := s_law_row) l_law_row c_law_row k_law_row,
    b_law_row := (fun_mk (st := s_law_row) l_law_row c_law_row k_law_row).binds (ps := ["_law_script", "_law_k"]) fun _ _ _ _ _ _ us hl => match us, hl with | [_, _], _ => rfl,
    g_law_row := PySem.W.mg_of X G g_law_row,
    a_law_next := a_law_next,
    d_law_next := (PySem.W.fnOf "_law_next" "_law_next" (defArgs s_law_next) (defBody s_law_next) (defScope s_law_next) .none kV_law_next dc_law_next pm_law_next an_law_next cd_law_next ct_law_next),
    f_law_next := fun_mk (st := s_law_next) l_law_next c_law_next k_law_next,
    b_law_next := (fun_mk (st := s_law_next) l_law_next c_law_next k_law_next).binds (ps := ["_law_row_here", "_law_many"]) fun _ _ _ _ _ _ us hl => match us, hl with | [_, _], _ => rfl,
    g_law_next := PySem.W.mg_of X G g_law_next,
    a_law_deed := a_law_deed,
    d_law_deed := (PySem.W.fnOf "_law_deed" "_law_deed" (defArgs s_law_deed) (defBody s_law_deed) (defScope s_law_deed) .none kV_law_deed dc_law_deed pm_law_deed an_law_deed cd_law_deed ct_law_deed),
    f_law_deed := fun_mk (st := s_law_deed) l_law_deed c_law_deed k_law_deed,
    b_law_deed := (fun_mk (st := s_law_deed) l_law_deed c_law_deed k_law_deed).binds (ps := ["_law_disk", "_law_m", "_law_row_here"]) fun _ _ _ _ _ _ us hl => match us, hl with | [_, _, _], _ => rfl,
    g_law_deed := PySem.W.mg_of X G g_law_deed,
    a_law := fa,
    d_law := (PySem.W.fnOf "law" "law" (defArgs s_law) (defBody s_law) (defScope s_law) .none kV_law dc_law pm_law an_law cd_law ct_law),
    f_law := fun_mk (st := s_law) l_law c_law k_law,
    b_law := (fun_mk (st := s_law) l_law c_law k_law).binds (ps := ["_law_script"]) fun _ _ _ _ _ _ us hl => match us, hl with | [_], _ => rfl,
    g_law := PySem.W.mg_of X G g_law,
    g_BLOCK := ⟨_, PySem.W.mg_of X G g_BLOCK⟩,
    n_bool := PySem.W.mg_none_of X G n_bool,
    n_isinstance := PySem.W.mg_none_of X G n_isinstance,
    n_len := PySem.W.mg_none_of X G n_len,
    n_list := PySem.W.mg_none_of X G n_list,
    n_max := PySem.W.mg_none_of X G n_max,
    n_range := PySem.W.mg_none_of X G n_range,
    n_tuple := PySem.W.mg_none_of X G n_tuple
    }, rfl, rfl⟩
  obtain ⟨T, e1, e2⟩ := T
  refine ⟨PySem.W.fnOf "law" "law" (defArgs s_law) (defBody s_law) (defScope s_law) .none kV_law dc_law pm_law an_law cd_law ct_law, fun s v => .of_eq rfl, fun base _ _ => ?_⟩
  have z := ok_law (P := l.prog) (w := w) (base := base) T
  rw [e1, e2] at z
  exact z
theorem walk {l : PySem.W.OpenLaw} {q : Program} {loose : List Str} {XP : (Str → Option Value) → Heap → Prop} {YP : World → Heap → Prop} {d : DefRec} {K : Params → PySem.W.Frag} (hn : l.most = some 63) (hdf : d.params.defaults = [])
    (hY : ∀ (w : World) (h : Heap), YP w h → (K w.params).In h)
    (F : ∀ (w : World) (mg : Str → Option Value) (fa : Addr) (h : Heap), (K w.params).In h → h.Ns mainGlobals mg → mg d.name = some (.ref fa) →
      ∃ fd : FuncData, (∀ (s : Shared) (u : Value), BindsTo s fd ⟨[u], []⟩ [("_law_script", u)]) ∧ ∀ base : Heap, (K w.params).In base → base.Ns mainGlobals mg → FnOk l.prog w (K w.params) mg base CX0 4 fa fd ["_law_script"] (sp_law (K w.params))) :
    PySem.W.WalkO q loose XP YP l.row.toRowW d [] (fun f vs => PySem.call f vs) :=
  L2.walk_of (n := 63) (k := 4) (x := "_law_script") (CX := fun _ => CX0) (sp := fun w => sp_law (K w.params)) hn (by decide) hdf ⟨rfl, by decide, by decide⟩ hY F (fun _ _ a ns hl _ hS => ⟨a, ns, rfl, hl, Hd.one hS, fun _ => rfl⟩) fun _ _ _ _ _ z => z
end My
open PySem PySem.W PyProof.Rows in
set_option maxRecDepth 100000 in
set_option maxHeartbeats 0 in
theorem PySem.Challenge.cw_keelroom_k43_blocks_written_holds : PySem.Challenge.rw_keelroom_k43_blocks_written.Holds := by
  w_on; o_law; k_head; (case hw => w_witness2)
  k_fill
  refine My.walk (l := PySem.Challenge.rw_keelroom_k43_blocks_written) rfl rfl (fun w h Y => PySem.W.kIn_of Y) ?F
  case F =>
    intro w mg fa h KX G hmg
    refine' My.all_mk KX G hmg ?h1_Disk ?h2_Disk ?h3_Disk ?h4_Disk ?h5_Disk ?h6_Disk ?h7_Disk ?n_Disk_written ?n_Disk_tally ?n_Disk_spare ?g_Disk_init ?i_Disk_init ?l_Disk_init ?c_Disk_init ?k_Disk_init ?g_Disk_block ?i_Disk_block ?l_Disk_block ?c_Disk_block ?k_Disk_block ?g_Disk_write ?i_Disk_write ?l_Disk_write ?c_Disk_write ?k_Disk_write ?g_Disk_stop ?i_Disk_stop ?l_Disk_stop ?c_Disk_stop ?k_Disk_stop ?g_Disk_go ?i_Disk_go ?l_Disk_go ?c_Disk_go ?k_Disk_go ?g_Disk_writes ?i_Disk_writes ?l_Disk_writes ?c_Disk_writes ?k_Disk_writes ?g_law_cell_at ?l_law_cell_at ?c_law_cell_at ?k_law_cell_at ?g_law_mixed ?l_law_mixed ?c_law_mixed ?k_law_mixed ?g_law_row ?l_law_row ?c_law_row ?k_law_row ?g_law_next ?l_law_next ?c_law_next ?k_law_next ?g_law_deed ?l_law_deed ?c_law_deed ?k_law_deed ?g_law ?l_law ?c_law ?k_law ?g_BLOCK ?n_bool ?n_isinstance ?n_len ?n_list ?n_max ?n_range ?n_tuple
    (case h1_Disk => k_is)
    (case h2_Disk => k_is)
    (case h3_Disk => k_is)
    (case h4_Disk => k_is)
    (case h5_Disk => k_is)
    (case h6_Disk => k_is)
    (case h7_Disk => k_is)
    (case n_Disk_written => k_is)
    (case n_Disk_tally => k_is)
    (case n_Disk_spare => k_is)
    (case g_Disk_init => k_is)
    (case i_Disk_init => k_is)
    (case l_Disk_init => k_is)
    (case c_Disk_init => k_is)
    (case k_Disk_init => k_is)
    (case g_Disk_block => k_is)
    (case i_Disk_block => k_is)
    (case l_Disk_block => k_is)
    (case c_Disk_block => k_is)
    (case k_Disk_block => k_is)
    (case g_Disk_write => k_is)
    (case i_Disk_write => k_is)
    (case l_Disk_write => k_is)
    (case c_Disk_write => k_is)
    (case k_Disk_write => k_is)
    (case g_Disk_stop => k_is)
    (case i_Disk_stop => k_is)
    (case l_Disk_stop => k_is)
    (case c_Disk_stop => k_is)
    (case k_Disk_stop => k_is)
    (case g_Disk_go => k_is)
    (case i_Disk_go => k_is)
    (case l_Disk_go => k_is)
    (case c_Disk_go => k_is)
    (case k_Disk_go => k_is)
    (case g_Disk_writes => k_is)
    (case i_Disk_writes => k_is)
    (case l_Disk_writes => k_is)
    (case c_Disk_writes => k_is)
    (case k_Disk_writes => k_is)
    (case g_law_cell_at => k_is)
    (case l_law_cell_at => k_is)
    (case c_law_cell_at => k_is)
    (case k_law_cell_at => k_is)
    (case g_law_mixed => k_is)
    (case l_law_mixed => k_is)
    (case c_law_mixed => k_is)
    (case k_law_mixed => k_is)
    (case g_law_row => k_is)
    (case l_law_row => k_is)
    (case c_law_row => k_is)
    (case k_law_row => k_is)
    (case g_law_next => k_is)
    (case l_law_next => k_is)
    (case c_law_next => k_is)
    (case k_law_next => k_is)
    (case g_law_deed => k_is)
    (case l_law_deed => k_is)
    (case c_law_deed => k_is)
    (case k_law_deed => k_is)
    (case g_law => k_is)
    (case l_law => k_is)
    (case c_law => k_is)
    (case k_law => k_is)
    (case g_BLOCK => k_is)
    (case n_bool => k_is)
    (case n_isinstance => k_is)
    (case n_len => k_is)
    (case n_list => k_is)
    (case n_max => k_is)
    (case n_range => k_is)
    (case n_tuple => k_is)
#print axioms PySem.Challenge.cw_keelroom_k43_blocks_written_holds
