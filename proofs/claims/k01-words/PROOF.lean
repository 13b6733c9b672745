import PyProof.Rows.All
import Wide.All
import OpenK.AllK
import Wide.FinOn
import PyProof.SumWalkG
import PyProof.ReprRoads
import PyProof.ReprLen
import HandS.ForMost
import HandS.Walk
import HandS.Flow
import HandS.IsInst
import HandS.Conv
import HandS.Zip
import HandS.SetFor
import HandS.SortInts
import HandS.TupAny
import HandS.TupMul
import HandS.Wide
import HandS.More
import HandS.ForExc
import HandS.ExcIs
import HandS.Style
import PySem.Challenge.RW_keelroom_k01_words
set_option Elab.async false
set_option maxRecDepth 100000
set_option maxHeartbeats 1000000
set_option linter.unusedVariables false
set_option maxRecDepth 100000
namespace Sl
open PySem L2

/-! ### heaps in pieces -/
abbrev SA := Hp → Prop
def Imm : HO → Prop
  | .tup _ => True
  | _ => False
def Cmp (H1 H2 : Hp) : Prop := ∀ a o1 o2, H1 a = some o1 → H2 a = some o2 → o1 = o2 ∧ Imm o1
def Sub (H1 H2 : Hp) : Prop := ∀ a o, H1 a = some o → H2 a = some o
theorem Sub.refl (H : Hp) : Sub H H := fun _ _ h => h
theorem Sub.trans {H1 H2 H3 : Hp} (a : Sub H1 H2) (b : Sub H2 H3) : Sub H1 H3 := fun x o h => b x o (a x o h)
theorem Cmp.symm {H1 H2 : Hp} (c : Cmp H1 H2) : Cmp H2 H1 := fun a o1 o2 h1 h2 => by
  obtain ⟨e, i⟩ := c a o2 o1 h2 h1
  subst e
  exact ⟨rfl, i⟩
theorem Cmp.sub {H1 H2 G1 G2 : Hp} (c : Cmp H1 H2) (a : Sub G1 H1) (b : Sub G2 H2) : Cmp G1 G2 := fun x o1 o2 h1 h2 => c x o1 o2 (a x o1 h1) (b x o2 h2)
def uni (H1 H2 : Hp) : Hp := fun a => match H1 a with
  | some o => some o
  | none => H2 a
theorem uni_l (H1 H2 : Hp) : Sub H1 (uni H1 H2) := fun a o h => by
  unfold uni
  rw [h]
theorem uni_r {H1 H2 : Hp} (c : Cmp H1 H2) : Sub H2 (uni H1 H2) := fun a o h => by
  unfold uni
  cases e : H1 a with
  | none => exact h
  | some o1 =>
    obtain ⟨e2, _⟩ := c a o1 o e h
    rw [e2]
theorem uni_or {H1 H2 : Hp} {a : Addr} {o : HO} (h : uni H1 H2 a = some o) : H1 a = some o ∨ H2 a = some o := by
  unfold uni at h
  cases e : H1 a with
  | none =>
    rw [e] at h
    exact .inr h
  | some o1 =>
    rw [e] at h
    exact .inl h
theorem uni_sub {H1 H2 H : Hp} (a : Sub H1 H) (b : Sub H2 H) : Sub (uni H1 H2) H := fun x o h => (uni_or h).elim (a x o) (b x o)
theorem uni_cmp {H1 H2 H : Hp} (a : Cmp H H1) (b : Cmp H H2) : Cmp H (uni H1 H2) := fun x o1 o2 h1 h2 => (uni_or h2).elim (a x o1 o2 h1) (b x o1 o2 h1)

/-- the heap bears these, each in a piece of its own (tuples may be shared), and more -/
def Hd : List SA → Hp → Prop
  | [], _ => True
  | A :: L, H => ∃ H1 H2, Cmp H1 H2 ∧ Sub H1 H ∧ Sub H2 H ∧ A H1 ∧ Hd L H2
theorem Hd.up {H H' : Hp} : ∀ {L : List SA}, Sub H H' → Hd L H → Hd L H'
  | [], _, _ => trivial
  | _ :: _, s, ⟨H1, H2, c, a, b, p, q⟩ => ⟨H1, H2, c, a.trans s, b.trans s, p, q⟩
theorem Hd.tl {A : SA} {L : List SA} {H : Hp} (h : Hd (A :: L) H) : Hd L H := by
  obtain ⟨H1, H2, _, _, b, _, q⟩ := h
  exact q.up b
theorem Hd.mono {A : SA} {L L' : List SA} {H : Hp} (h : Hd (A :: L) H) (f : ∀ H, Hd L H → Hd L' H) : Hd (A :: L') H := by
  obtain ⟨H1, H2, c, a, b, p, q⟩ := h
  exact ⟨H1, H2, c, a, b, p, f _ q⟩
theorem Hd.imp {A B : SA} {L : List SA} {H : Hp} (h : Hd (A :: L) H) (f : ∀ H, A H → B H) : Hd (B :: L) H := by
  obtain ⟨H1, H2, c, a, b, p, q⟩ := h
  exact ⟨H1, H2, c, a, b, f _ p, q⟩
theorem Hd.swap {A B : SA} {L : List SA} {H : Hp} (h : Hd (A :: B :: L) H) : Hd (B :: A :: L) H := by
  obtain ⟨H1, H2, c, a, b, p, H3, H4, c2, a2, b2, p2, q⟩ := h
  have c13 : Cmp H1 H3 := c.sub (Sub.refl _) a2
  have c14 : Cmp H1 H4 := c.sub (Sub.refl _) b2
  exact ⟨H3, uni H1 H4, uni_cmp c13.symm c2, a2.trans b, uni_sub a (b2.trans b), p2, H1, H4, c14, uni_l _ _, uni_r c14, p, q⟩
/-- A stands in L, the others are L' -/
inductive Pull : SA → List SA → List SA → Prop
  | here {A : SA} {L : List SA} : Pull A (A :: L) L
  | there {A B : SA} {L L' : List SA} : Pull A L L' → Pull A (B :: L) (B :: L')
theorem Hd.pull {A : SA} {L L' : List SA} (p : Pull A L L') : ∀ {H : Hp}, Hd L H → Hd (A :: L') H := by
  induction p with
  | here => exact fun h => h
  | there _ ih => exact fun h => (h.mono fun _ => ih).swap
theorem Hd.push {A : SA} {L L' : List SA} (p : Pull A L L') : ∀ {H : Hp}, Hd (A :: L') H → Hd L H := by
  induction p with
  | here => exact fun h => h
  | there _ ih => exact fun h => h.swap.mono fun _ => ih
/-- A in L is exchanged for B -/
inductive Put : SA → SA → List SA → List SA → Prop
  | here {A B : SA} {L : List SA} : Put A B (A :: L) (B :: L)
  | there {A B C : SA} {L L' : List SA} : Put A B L L' → Put A B (C :: L) (C :: L')
theorem Put.pulls {A B : SA} {L L' : List SA} (p : Put A B L L') : ∃ M, Pull A L M ∧ Pull B L' M := by
  induction p with
  | here => exact ⟨_, .here, .here⟩
  | there _ ih =>
    obtain ⟨M, a, b⟩ := ih
    exact ⟨_, .there a, .there b⟩
/-- L bears M (in any order; more in L is let fall) -/
inductive Mt : List SA → List SA → Prop
  | nil {L : List SA} : Mt [] L
  | refl {L : List SA} : Mt L L
  | cons {A : SA} {L L' M : List SA} : Pull A L L' → Mt M L' → Mt (A :: M) L
  | drop {A : SA} {L M : List SA} : Mt M L → Mt M (A :: L)
theorem Hd.mt {M L : List SA} (m : Mt M L) : ∀ {H : Hp}, Hd L H → Hd M H := by
  induction m with
  | nil => exact fun _ => trivial
  | refl => exact fun h => h
  | cons p _ ih => exact fun h => (h.pull p).mono fun _ => ih
  | drop _ ih => exact fun h => ih h.tl

/-! ### what stands at an address -/
def pto (a : Addr) (o : HO) : SA := fun H => H a = some o
theorem Hd.get {a : Addr} {o : HO} {L L' : List SA} {H : Hp} (h : Hd L H) (p : Pull (pto a o) L L') : H a = some o := by
  obtain ⟨H1, H2, _, s, _, e, _⟩ := h.pull p
  exact s a o e
def one (a : Addr) (o : HO) : Hp := fun b => if b = a then some o else none
theorem one_at {a : Addr} {o : HO} : one a o a = some o := if_pos rfl
theorem of_one {a b : Addr} {o u : HO} (h : one a o b = some u) : b = a ∧ u = o := by
  unfold one at h
  split at h
  · rename_i e
    exact ⟨e, (Option.some.inj h).symm⟩
  · cases h
theorem one_cmp {a : Addr} {o : HO} {H : Hp} (n : H a = none) : Cmp (one a o) H := fun b o1 o2 h1 h2 => by
  obtain ⟨rfl, rfl⟩ := of_one h1
  rw [n] at h2
  cases h2
theorem one_sub {a : Addr} {o : HO} {H : Hp} (n : H a = some o) : Sub (one a o) H := fun b u h => by
  obtain ⟨rfl, rfl⟩ := of_one h
  exact n
theorem Hd.new {a : Addr} {o : HO} {L : List SA} {H : Hp} (h : Hd L H) (n : H a = none) : Hd (pto a o :: L) (upd H a o) :=
  ⟨one a o, H, one_cmp n, one_sub upd_same, fun b u e => by
    rw [upd_ne (ne_of_none e n)]
    exact e, one_at, h⟩
theorem Hd.set {a : Addr} {o o' : HO} {L L' : List SA} {H : Hp} (h : Hd L H) (p : Put (pto a o) (pto a o') L L') (m : ¬ Imm o) : Hd L' (upd H a o') := by
  obtain ⟨M, pa, pb⟩ := p.pulls
  refine Hd.push pb ?_
  obtain ⟨H1, H2, c, s1, s2, e, q⟩ := h.pull pa
  have n : H2 a = none := by
    cases z : H2 a with
    | none => rfl
    | some u => exact (m (c a o u e z).2).elim
  exact ⟨one a o', H2, one_cmp n, one_sub upd_same, fun b u e => by
    rw [upd_ne (ne_of_none e n)]
    exact s2 _ _ e, one_at, q⟩
/-- a tuple is shared -/
theorem Hd.dup {a : Addr} {xs : List V} {L L' : List SA} {H : Hp} (h : Hd L H) (p : Pull (pto a (.tup xs)) L L') : Hd (pto a (.tup xs) :: L) H :=
  ⟨one a (.tup xs), H, fun b o1 o2 h1 h2 => by
    obtain ⟨rfl, rfl⟩ := of_one h1
    rw [h.get p] at h2
    cases h2
    exact ⟨rfl, trivial⟩, one_sub (h.get p), Sub.refl _, one_at, h⟩
/-- words over pieces -/
theorem Hd.ex {α : Type} {A : α → SA} {L : List SA} {H : Hp} (h : Hd ((fun H => ∃ x, A x H) :: L) H) : ∃ x, Hd (A x :: L) H := by
  obtain ⟨H1, H2, c, s1, s2, ⟨x, e⟩, q⟩ := h
  exact ⟨x, H1, H2, c, s1, s2, e, q⟩
theorem Hd.pure {p : Prop} {A : SA} {L : List SA} {H : Hp} (h : Hd ((fun H => p ∧ A H) :: L) H) : p ∧ Hd (A :: L) H := by
  obtain ⟨H1, H2, c, s1, s2, ⟨x, e⟩, q⟩ := h
  exact ⟨x, H1, H2, c, s1, s2, e, q⟩
theorem Hd.open {M : List SA} : ∀ {L : List SA} {H : Hp}, Hd (Hd M :: L) H → Hd (M ++ L) H := by
  induction M with
  | nil => exact fun h => h.tl
  | cons A M ih =>
    rintro L H ⟨H1, H2, c, s1, s2, ⟨H3, H4, c2, s3, s4, p, q⟩, r⟩
    have c32 := c.sub s3 (Sub.refl _)
    have c42 := c.sub s4 (Sub.refl _)
    exact ⟨H3, uni H4 H2, uni_cmp c2 c32, s3.trans s1, uni_sub (s4.trans s1) s2, p, ih ⟨H4, H2, c42, uni_l _ _, uni_r c42, q, r⟩⟩
theorem Hd.close {M : List SA} : ∀ {L : List SA} {H : Hp}, Hd (M ++ L) H → Hd (Hd M :: L) H := by
  induction M with
  | nil => exact fun {L H} h => ⟨fun _ => none, H, fun _ _ _ h => (nomatch h), fun _ _ h => (nomatch h), Sub.refl _, trivial, h⟩
  | cons A M ih =>
    rintro L H ⟨H1, H2, c, s1, s2, p, q⟩
    obtain ⟨H3, H4, c2, s3, s4, p2, q2⟩ := ih q
    have c13 := c.sub (Sub.refl _) s3
    have c14 := c.sub (Sub.refl _) s4
    exact ⟨uni H1 H3, H4, (uni_cmp c14.symm c2.symm).symm, uni_sub s1 (s3.trans s2), s4.trans s2, ⟨H1, H3, c13, uni_l _ _, uni_r c13, p, p2⟩, q2⟩
/-- a list that is read only -/
def sql (K : PySem.W.Frag) (a : Addr) (xs : List V) : SA := fun H => SqL K H a xs
theorem Hd.sql {K : PySem.W.Frag} {a : Addr} {xs : List V} {L L' : List SA} {H : Hp} (h : Hd L H) (p : Pull (sql K a xs) L L') : SqL K H a xs := by
  obtain ⟨H1, H2, _, s, _, e, _⟩ := h.pull p
  exact Same.seq s e
theorem Hd.sq {K : PySem.W.Frag} {a : Addr} {xs : List V} {L L' : List SA} {H : Hp} (h : Hd L H) (p : Pull (pto a (.lst xs)) L L') : SqL K H a xs := SqL.of (h.get p)
theorem Hd.st {K : PySem.W.Frag} {a : Addr} {xs : List V} {L L' : List SA} {H : Hp} (h : Hd L H) (p : Pull (pto a (.tup xs)) L L') : SqT K H a xs := SqT.of (h.get p)
end Sl

set_option maxRecDepth 100000
set_option maxHeartbeats 1000000
namespace Sl
open PySem L2

/-! ### operators of several kinds at once -/
def rDG : R2 := fun x y H Q => ∃ a v, x = .ref a ∧ DGet H a y (some v) ∧ Q v H
def rDIn (neg : Bool) : R2 := fun y x H Q => ∃ a o, x = .ref a ∧ DGet H a y o ∧ Q (.bl (if neg then !o.isSome else o.isSome)) H
def rAddS : R2 := fun x y H Q => ∃ i j, x = .str i ∧ y = .str j ∧ i.length + j.length ≤ sizeLine ∧ Q (.str (i ++ j)) H
def rAddU (K : PySem.W.Frag) : R2 := fun x y H Q => rI0 (fun i j => .int (i + j)) x y H Q ∨ rCat x y H Q ∨ rAddS x y H Q ∨ rCatA K x y H Q
def rMulU (K : PySem.W.Frag) : R2 := fun x y H Q => rI CMul (fun i j => .int (i * j)) x y H Q ∨ rRep x y H Q ∨ rRepT K x y H Q
def rDivU : R2 := fun x y H Q => rI CDiv (fun i j => .int (i / j)) x y H Q ∨ rI CDivW (fun i j => .int (i / j)) x y H Q
def rEqU (K : PySem.W.Frag) : R2 := fun x y H Q => rEq x y H Q ∨ rEqD K x y H Q
def rNeU (K : PySem.W.Frag) : R2 := fun x y H Q => rNe x y H Q ∨ rNeD K x y H Q
def rInU (K : PySem.W.Frag) (neg : Bool) : R2 := fun x y H Q => rIn K neg x y H Q ∨ rDIn neg x y H Q
def rIxU (K : PySem.W.Frag) : R2 := fun x y H Q => rIx K x y H Q ∨ rDG x y H Q
def rIsN' : R2 := fun x y H Q => y = .non ∧ Q (.bl (decide (x = .non))) H
def rNotN' : R2 := fun x y H Q => y = .non ∧ Q (.bl (!decide (x = .non))) H
section
variable {X : Cx}
theorem u_add : OpR X (binaryOp .Add) (rAddU X.K) := op_add.or (op_cat.or (op_add_str.or op_catA))
theorem u_sub : OpR X (binaryOp .Sub) (rI0 fun i j => .int (i - j)) := op_sub
theorem u_mul : OpR X (binaryOp .Mult) (rMulU X.K) := op_mul.or (op_rep.or op_repT)
theorem u_div : OpR X (binaryOp .FloorDiv) rDivU := op_fdiv.or op_fdivW
theorem u_mod : OpR X (binaryOp .Mod) (rI (fun _ j => 0 < j) fun i j => .int (i % j)) := op_mod
theorem u_pow : OpR X (binaryOp .Pow) (rI CPow fun i j => .int (i ^ j.toNat)) := op_pow
theorem u_eq (hu : X.A.units + 64 < cLine) : OpR X (compareOp .Eq) (rEqU X.K) := op_eq.or (op_eqD hu)
theorem u_ne (hu : X.A.units + 64 < cLine) : OpR X (compareOp .NotEq) (rNeU X.K) := op_ne.or (op_neD hu)
theorem op_dIn (hu : X.A.units + 1 < cLine) : OpR X (compareOp .In) (rDIn false) := by
  intro pins s σ H x y v u Q I rx ry h
  obtain ⟨a, o, rfl, g, q⟩ := h
  cases ry
  exact d_in hu I g rx fun s3 I3 => ⟨.bl o.isSome, H, I3, rfl, q⟩
theorem op_dNotIn (hu : X.A.units + 1 < cLine) : OpR X (compareOp .NotIn) (rDIn true) := by
  intro pins s σ H x y v u Q I rx ry h
  obtain ⟨a, o, rfl, g, q⟩ := h
  cases ry
  exact d_notIn hu I g rx fun s3 I3 => ⟨.bl (!o.isSome), H, I3, rfl, q⟩
theorem u_in (hu : X.A.units + 1 < cLine) : OpR X (compareOp .In) (rInU X.K false) := op_in_seq.or (op_dIn hu)
theorem u_notIn (hu : X.A.units + 1 < cLine) : OpR X (compareOp .NotIn) (rInU X.K true) := op_notIn_seq.or (op_dNotIn hu)
theorem u_isN : OpR X (compareOp .Is) rIsN' := op_isN
theorem u_notN : OpR X (compareOp .IsNot) rNotN' := op_notN
theorem ix_dict (hu : X.A.units + 1 < cLine) : IxR X rDG := by
  intro value slice pins s σ H x y v u Q I rx ry h hs
  obtain ⟨a, w, rfl, g, q⟩ := h
  cases rx
  exact PyProof.Rows.tail_any (dict_typeIs I g) PySem.F.slot_dict_getitem.lookup (d_getItem hu I g ry fun w' s3 I3 rw' => ⟨w, H, I3, rw', q⟩) hs
end
end Sl

set_option maxRecDepth 100000
set_option maxHeartbeats 1000000
namespace Sl
open PySem L2

/-! ### subscripts stored -/
def rSetD : TSet := fun o i v H Q => ∃ a H', o = .ref a ∧ DPut H a i v H' ∧ Q H'
def rSetU : TSet := fun o i v H Q => rSetL o i v H Q ∨ rSetD o i v H Q
section
variable {X : Cx}
theorem set_dict (hu : X.A.units + 1 < cLine) : PSet X rSetD := by
  intro pins s σ H o i v ov iv u Q I ro ri rv h
  obtain ⟨a, H', rfl, g, q⟩ := h
  cases ro
  exact d_setItem hu I g ri rv fun s' I' => ⟨H', I', q⟩
theorem u_set (hu : X.A.units + 1 < cLine) : PSet X rSetU := by
  intro pins s σ H o i v ov iv u Q I ro ri rv h
  rcases h with h | h
  · exact set_list pins s σ H o i v ov iv u Q I ro ri rv h
  · exact set_dict hu pins s σ H o i v ov iv u Q I ro ri rv h
end

/-! ### built-ins, their readings named -/
def rLenU (K : PySem.W.Frag) : List V → Hp → VK → Prop := fun xs H Q => (∃ x n, xs = [x] ∧ LenV K x H n ∧ Q (.int (n : Nat)) H) ∨ ∃ a kvs, xs = [V.ref a] ∧ H a = some (.dK kvs) ∧ Q (.int (kvs.length : Nat)) H
def rAbs : List V → Hp → VK → Prop := fun xs H Q => ∃ i, xs = [.int i] ∧ Q (.int (if i < 0 then -i else i)) H
def rMax2 : List V → Hp → VK → Prop := fun xs H Q => ∃ i j, xs = [.int i, .int j] ∧ Q (.int (if j > i then j else i)) H
def rMin2 : List V → Hp → VK → Prop := fun xs H Q => ∃ i j, xs = [.int i, .int j] ∧ Q (.int (if j < i then j else i)) H
def rInt1 : List V → Hp → VK → Prop := fun xs H Q => (∃ i, xs = [.int i] ∧ Q (.int i) H) ∨ ∃ k, xs = [.bl k] ∧ Q (.int (if k then 1 else 0)) H
def rListOf (K : PySem.W.Frag) : List V → Hp → VK → Prop := fun xs H Q => ∃ p ys, xs = [.ref p] ∧ (SqL K H p ys ∨ SqT K H p ys) ∧ ∀ l, H l = none → Q (.ref l) (upd H l (.lst ys))
def rTupleOf (K : PySem.W.Frag) : List V → Hp → VK → Prop := fun xs H Q => ∃ p ys, xs = [.ref p] ∧ ((SqL K H p ys ∧ ∀ l, H l = none → Q (.ref l) (upd H l (.tup ys))) ∨ (SqT K H p ys ∧ Q (.ref p) H))
def rIsiU (K : PySem.W.Frag) : List V → Hp → VK → Prop := fun xs H Q => rIsi K xs H Q ∨ rIsiT K xs H Q
section
variable {X : Cx}
theorem u_len : CallR X (.builtin "len") (rLenU X.K) := call_len.or call_lenD
theorem u_abs : CallR X (.builtin "abs") rAbs := call_abs
theorem u_max2 (hc : X.calm = true) : CallR X (.builtin "max") rMax2 := call_max2 hc
theorem u_min2 (hc : X.calm = true) : CallR X (.builtin "min") rMin2 := call_min2 hc
theorem u_int1 : CallR X (.type "int") rInt1 := call_int1
theorem u_list : CallR X (.type "list") (rListOf X.K) := call_list_of
theorem u_tuple : CallR X (.type "tuple") (rTupleOf X.K) := call_tuple_of
theorem u_isi : CallR X (.builtin "isinstance") (rIsiU X.K) := call_isi.or call_isiT
theorem u_ix (hu : X.A.units + 1 < cLine) : IxR X (rIxU X.K) := ix_seq.or (ix_dict hu)
end

/-! ### what stands at the leaves of a reading, named -/
def AllocT (Q : VK) (xs : List V) (H : Hp) : Prop := xs.length ≤ sizeLine ∧ ∀ p, H p = none → Q (.ref p) (upd H p (.tup xs))
def AllocL (Q : VK) (xs : List V) (H : Hp) : Prop := xs.length ≤ sizeLine ∧ ∀ p, H p = none → Q (.ref p) (upd H p (.lst xs))
def IsB (QT : Bool → Hp → Prop) (x : V) (H : Hp) : Prop := ∃ k, x = .bl k ∧ QT k H
def AndK (tb : TE) (σ : L2.St) (Q : VK) (x : V) (H : Hp) : Prop := ∃ c, x = .bl c ∧ if c = true then tb σ H Q else Q (.bl false) H
def OrK (tb : TE) (σ : L2.St) (Q : VK) (x : V) (H : Hp) : Prop := ∃ c, x = .bl c ∧ if c = true then Q (.bl true) H else tb σ H Q
def NotK (Q : VK) (x : V) (H : Hp) : Prop := ∃ c, x = .bl c ∧ Q (.bl (!c)) H
def FldK (K : PySem.W.Frag) (f : Str) (Q : VK) (x : V) (H : Hp) : Prop := ∃ a C dx fs v, x = .ref a ∧ H a = some (.ins C dx fs) ∧ Cls K C ∧ NoAttr K C f ∧ fs.lookup f = some v ∧ Q v H
def SFldK (K : PySem.W.Frag) (f : Str) (N : Hp → Prop) (y x : V) (H : Hp) : Prop := ∃ a C dx fs, x = .ref a ∧ H a = some (.ins C dx fs) ∧ Cls K C ∧ NoAttr K C f ∧ fs.length < 1000 ∧ N (upd H a (.ins C dx (putF f y fs)))
def MethK (C : Addr) (m : Str) (R : V → Hp → Prop) (x : V) (H : Hp) : Prop := ∃ a dx fs, x = .ref a ∧ H a = some (.ins C dx fs) ∧ fs.lookup m = none ∧ R x H
def MakeK (C : Addr) (sp : Sp) (dvs : List V) (E : XK) (Q : VK) (vs : List V) (H : Hp) : Prop := ∀ x dx, H x = none → H dx = none → dx ≠ x → sp (.ref x :: (vs ++ dvs)) (upd (upd H dx (.own x)) x (.ins C dx [])) (fun v H2 => v = .non ∧ Q (.ref x) H2) E
def PartK (QO : Option Int → Hp → Prop) (x : V) (H : Hp) : Prop := ∃ i, x = .int i ∧ QO (some i) H
def DispE (p : Addr) (Q : VK) (ps : List (V × V)) (H : Hp) : Prop := H p = some (.dK []) ∧ ∃ kvs : List (Key × V), ps = kvs.map (fun kv => (kV kv.1, kv.2)) ∧ kvs.length ≤ 15 ∧ Q (.ref p) (upd H p (.dK (mergeK [] kvs)))
def GetE1 (a : Addr) (Q : VK) (y : V) (H : Hp) : Prop := ∃ o, DGet H a y o ∧ Q (o.getD .non) H
def GetE2 (a : Addr) (y : V) (Q : VK) (z : V) (H : Hp) : Prop := ∃ o, DGet H a y o ∧ Q (o.getD z) H
def IsDK (R : Addr → Hp → Prop) (x : V) (H : Hp) : Prop := ∃ a, x = .ref a ∧ IsD H a ∧ R a H

/-! ### readings, one construct after the other -/
section
variable {K : PySem.W.Frag} {σ : L2.St} {H : Hp} {D : Ends} {t u tw : TS} {te ta tb tx : TE} {tr : TA} {tt tu : TT} {g : TG} {gs : TGs} {Q : VK} {QA : List V → Hp → Prop} {QT : Bool → Hp → Prop} {v x y : V} {i j k : Int} {b c : Bool} {n : Nat}
  {L L' : List SA} {a p : Addr} {xs ys zs : List V} {r : R2} {N : Hp → Prop}
theorem r_seq (q : t { D with nx := u D } σ H) : tSeq t u D σ H := q
theorem r_next (q : D.nx σ H) : tNext D σ H := q
theorem r_asg (q : te σ H fun x H1 => g x σ H1 D.nx) : tAsg te g D σ H := q
theorem r_gName {QS : L2.St → Hp → Prop} (q : QS (σ.set n (some v)) H) : gName n v σ H QS := q
theorem r_drop (q : te σ H fun _ H1 => D.nx σ H1) : tDrop te D σ H := q
theorem r_ret (q : te σ H D.rt) : tRet te D σ H := q
theorem r_retN (q : D.rt .non H) : tRetN D σ H := q
theorem r_break (q : D.bk σ H) : tBreak D σ H := q
theorem r_cont (q : D.ct σ H) : tCont D σ H := q
theorem r_ifS (q : tt σ H fun b H1 => if b = true then t D σ H1 else u D σ H1) : tIfS tt t u D σ H := q
theorem r_test (q : te σ H (IsB QT)) : tTest te σ H QT := q
theorem r_tB (q : te σ H (IsB QT)) : tB te σ H QT := q
theorem r_isb (q : QT b H) : IsB QT (.bl b) H := ⟨b, rfl, q⟩
theorem r_tAnd (q : tt σ H fun c H1 => if c = true then tu σ H1 QT else QT false H1) : tAnd tt tu σ H QT := q
theorem r_tOr (q : tt σ H fun c H1 => if c = true then QT true H1 else tu σ H1 QT) : tOr tt tu σ H QT := q
theorem r_tNot (q : tt σ H fun c H1 => QT (!c) H1) : tNot tt σ H QT := q
theorem r_var (h : σ[n]? = some (some v)) (q : Q v H) : tVar n σ H Q := ⟨v, h, q⟩
theorem r_c (q : Q v H) : tC v σ H Q := q
theorem r_op (q : ta σ H fun x H1 => tb σ H1 fun y H2 => r x y H2 Q) : tOp r ta tb σ H Q := q
theorem r_un {ru : V → Hp → VK → Prop} (q : ta σ H fun x H1 => ru x H1 Q) : tUn ru ta σ H Q := q
theorem r_rU {f : Int → V} (q : Q (f i) H) : rU f (.int i) H Q := ⟨i, rfl, q⟩
theorem r_andV (q : ta σ H (AndK tb σ Q)) : tAndV ta tb σ H Q := q
theorem r_andK (q : if b = true then tb σ H Q else Q (.bl false) H) : AndK tb σ Q (.bl b) H := ⟨b, rfl, q⟩
theorem r_orV (q : ta σ H (OrK tb σ Q)) : tOrV ta tb σ H Q := q
theorem r_orK (q : if b = true then Q (.bl true) H else tb σ H Q) : OrK tb σ Q (.bl b) H := ⟨b, rfl, q⟩
theorem r_notV (q : ta σ H (NotK Q)) : tNotV ta σ H Q := q
theorem r_notK (q : Q (.bl (!b)) H) : NotK Q (.bl b) H := ⟨b, rfl, q⟩
theorem r_tIf (q : tt σ H fun c H1 => if c = true then ta σ H1 Q else tb σ H1 Q) : tIf tt ta tb σ H Q := q
theorem r_ite {A B : Prop} (h1 : b = true → A) (h2 : b = false → B) : if b = true then A else B := by
  cases b with
  | true => exact h1 rfl
  | false => exact h2 rfl
theorem r_iteD {P A B : Prop} [Decidable P] (h1 : P → A) (h2 : ¬ P → B) : if decide P = true then A else B := ite2 (fun h => h1 (of_decide_eq_true h)) fun h => h2 fun z => h (decide_eq_true z)
theorem r_iteN {P A B : Prop} [Decidable P] (h1 : ¬ P → A) (h2 : P → B) : if (!decide P) = true then A else B := by
  by_cases h : P
  · rw [decide_eq_true h]
    exact iteF (h2 h)
  · rw [decide_eq_false h]
    exact iteT (h1 h)
theorem r_iteB {A B : Prop} (h1 : b = false → A) (h2 : b = true → B) : if (!b) = true then A else B := by
  cases b with
  | true => exact iteF (h2 rfl)
  | false => exact iteT (h1 rfl)
theorem r_iteY {A B : Prop} (h : A) : if true = true then A else B := iteT h
theorem r_iteZ {A B : Prop} (h : B) : if false = true then A else B := iteF h
theorem r_nil (q : QA [] H) : tNil σ H QA := q
theorem r_cons (q : ta σ H fun x H1 => tr σ H1 fun xs H2 => QA (x :: xs) H2) : tCons ta tr σ H QA := q
theorem r_call {sp : Sp} {dvs : List V} {E : XK} (q : tr σ H fun vs H1 => sp (vs ++ dvs) H1 Q E) : tCall sp dvs E tr σ H Q := q
theorem r_cB {rc : List V → Hp → VK → Prop} (q : tr σ H fun vs H1 => rc vs H1 Q) : tCB rc tr σ H Q := q
theorem r_tup (q : tr σ H (AllocT Q)) : tTup tr σ H Q := q
theorem r_lst (q : tr σ H (AllocL Q)) : tLst tr σ H Q := q
theorem r_newT (hs : Hd L H) (hl : xs.length ≤ sizeLine) (q : ∀ p H', Hd (pto p (.tup xs) :: L) H' → Q (.ref p) H') : AllocT Q xs H := ⟨hl, fun p n => q p _ (hs.new n)⟩
theorem r_newL (hs : Hd L H) (hl : xs.length ≤ sizeLine) (q : ∀ p H', Hd (pto p (.lst xs) :: L) H' → Q (.ref p) H') : AllocL Q xs H := ⟨hl, fun p n => q p _ (hs.new n)⟩
/-! #### operators -/
theorem r_I0 {f : Int → Int → V} (q : Q (f i j) H) : rI0 f (.int i) (.int j) H Q := ⟨i, j, rfl, rfl, q⟩
theorem r_I {C : Int → Int → Prop} {f : Int → Int → V} (h : C i j) (q : Q (f i j) H) : rI C f (.int i) (.int j) H Q := ⟨i, j, rfl, rfl, h, q⟩
theorem r_addI (q : Q (.int (i + j)) H) : rAddU K (.int i) (.int j) H Q := .inl ⟨i, j, rfl, rfl, q⟩
theorem r_addL {b : Addr} (hs : Hd L H) (h1 : H a = some (.lst xs)) (h2 : H b = some (.lst ys)) (hl : xs.length + ys.length ≤ sizeLine) (q : ∀ p H', Hd (pto p (.lst (xs ++ ys)) :: L) H' → Q (.ref p) H') : rAddU K (.ref a) (.ref b) H Q :=
  .inr (.inl ⟨a, b, xs, ys, rfl, rfl, h1, h2, hl, fun p n => q p _ (hs.new n)⟩)
theorem r_addS {z w : Str} (h : z.length + w.length ≤ sizeLine) (q : Q (.str (z ++ w)) H) : rAddU K (.str z) (.str w) H Q := .inr (.inr (.inl ⟨z, w, rfl, rfl, h, q⟩))
theorem r_mulI (h : CMul i j) (q : Q (.int (i * j)) H) : rMulU K (.int i) (.int j) H Q := .inl ⟨i, j, rfl, rfl, h, q⟩
theorem r_mulL (hs : Hd L H) (h1 : H a = some (.lst xs)) (h : -(2 ^ 63) ≤ k ∧ k < 2 ^ 63) (hl : xs.length * k.toNat ≤ sizeLine) (q : ∀ p H', Hd (pto p (.lst (List.replicate k.toNat xs).flatten) :: L) H' → Q (.ref p) H') : rMulU K (.ref a) (.int k) H Q :=
  .inr (.inl ⟨a, k, xs, rfl, rfl, h1, h.1, h.2, hl, fun p n => q p _ (hs.new n)⟩)
theorem r_divI (h : 0 < j ∧ j < 1073741824) (q : Q (.int (i / j)) H) : rDivU (.int i) (.int j) H Q := .inl ⟨i, j, rfl, rfl, h, q⟩
theorem r_divW (h : 0 < j ∧ j.natAbs.log2 < 9000) (q : Q (.int (i / j)) H) : rDivU (.int i) (.int j) H Q := .inr ⟨i, j, rfl, rfl, h, q⟩
theorem r_modI (h : 0 < j) (q : Q (.int (i % j)) H) : rI (fun _ j => 0 < j) (fun i j => .int (i % j)) (.int i) (.int j) H Q := ⟨i, j, rfl, rfl, h, q⟩
theorem r_eqI (q : Q (.bl (decide (i = j))) H) : rEqU K (.int i) (.int j) H Q := .inl ⟨rfl, by
  have e : decide (V.int i = V.int j) = decide (i = j) := by simp
  rw [e]
  exact q⟩
theorem r_neI (q : Q (.bl (!decide (i = j))) H) : rNeU K (.int i) (.int j) H Q := .inl ⟨rfl, by
  have e : decide (V.int i = V.int j) = decide (i = j) := by simp
  rw [e]
  exact q⟩
theorem r_eqS {z w : Str} (q : Q (.bl (decide (z = w))) H) : rEqU K (.str z) (.str w) H Q := .inl ⟨rfl, by
  have e : decide (V.str z = V.str w) = decide (z = w) := by simp
  rw [e]
  exact q⟩
theorem r_neS {z w : Str} (q : Q (.bl (!decide (z = w))) H) : rNeU K (.str z) (.str w) H Q := .inl ⟨rfl, by
  have e : decide (V.str z = V.str w) = decide (z = w) := by simp
  rw [e]
  exact q⟩
theorem r_eqB (q : Q (.bl (decide (b = c))) H) : rEqU K (.bl b) (.bl c) H Q := .inl ⟨rfl, by
  have e : decide (V.bl b = V.bl c) = decide (b = c) := by simp
  rw [e]
  exact q⟩
theorem r_neB (q : Q (.bl (!decide (b = c))) H) : rNeU K (.bl b) (.bl c) H Q := .inl ⟨rfl, by
  have e : decide (V.bl b = V.bl c) = decide (b = c) := by simp
  rw [e]
  exact q⟩
theorem r_eqV (h : scal x y = true) (q : Q (.bl (decide (x = y))) H) : rEqU K x y H Q := .inl ⟨h, q⟩
theorem r_neV (h : scal x y = true) (q : Q (.bl (!decide (x = y))) H) : rNeU K x y H Q := .inl ⟨h, q⟩
theorem r_eqD {d e : PyData} (h1 : Dp K H x d) (h2 : Dp K H y e) (s1 : SeqAt.shaped d = true) (s2 : SeqAt.shaped e = true) (q : Q (.bl (PyData.eqv d e)) H) : rEqU K x y H Q := .inr ⟨d, e, h1, h2, s1, s2, q⟩
theorem r_neD {d e : PyData} (h1 : Dp K H x d) (h2 : Dp K H y e) (s1 : SeqAt.shaped d = true) (s2 : SeqAt.shaped e = true) (q : Q (.bl (!PyData.eqv d e)) H) : rNeU K x y H Q := .inr ⟨d, e, h1, h2, s1, s2, q⟩
theorem r_isN (q : Q (.bl (decide (x = .non))) H) : rIsN' x .non H Q := ⟨rfl, q⟩
theorem r_notN (q : Q (.bl (!decide (x = .non))) H) : rNotN' x .non H Q := ⟨rfl, q⟩
theorem r_inL (h : SqL K H a xs) (h1 : flatV x = true) (h2 : xs.all flatV = true) (q : Q (.bl (inV x xs)) H) : rInU K false x (.ref a) H Q := .inl ⟨a, xs, rfl, .inl h, h1, h2, q⟩
theorem r_inT (h : SqT K H a xs) (h1 : flatV x = true) (h2 : xs.all flatV = true) (q : Q (.bl (inV x xs)) H) : rInU K false x (.ref a) H Q := .inl ⟨a, xs, rfl, .inr h, h1, h2, q⟩
theorem r_niL (h : SqL K H a xs) (h1 : flatV x = true) (h2 : xs.all flatV = true) (q : Q (.bl (!inV x xs)) H) : rInU K true x (.ref a) H Q := .inl ⟨a, xs, rfl, .inl h, h1, h2, q⟩
theorem r_niT (h : SqT K H a xs) (h1 : flatV x = true) (h2 : xs.all flatV = true) (q : Q (.bl (!inV x xs)) H) : rInU K true x (.ref a) H Q := .inl ⟨a, xs, rfl, .inr h, h1, h2, q⟩
theorem r_inDi {kvs : List (Key × V)} (h : H a = some (.dK kvs)) (q : Q (.bl (valV kvs (.inl i)).isSome) H) : rInU K false (.int i) (.ref a) H Q := .inr ⟨a, _, rfl, DGet.k (k := .inl i) h, q⟩
theorem r_niDi {kvs : List (Key × V)} (h : H a = some (.dK kvs)) (q : Q (.bl (!(valV kvs (.inl i)).isSome)) H) : rInU K true (.int i) (.ref a) H Q := .inr ⟨a, _, rfl, DGet.k (k := .inl i) h, q⟩
theorem r_inDs {z : Str} {kvs : List (Key × V)} (h : H a = some (.dK kvs)) (q : Q (.bl (valV kvs (.inr z)).isSome) H) : rInU K false (.str z) (.ref a) H Q := .inr ⟨a, _, rfl, DGet.k (k := .inr z) h, q⟩
theorem r_niDs {z : Str} {kvs : List (Key × V)} (h : H a = some (.dK kvs)) (q : Q (.bl (!(valV kvs (.inr z)).isSome)) H) : rInU K true (.str z) (.ref a) H Q := .inr ⟨a, _, rfl, DGet.k (k := .inr z) h, q⟩
theorem r_ixL (h : SqL K H a xs) (hi : atI xs i = some v) (q : Q v H) : rIxU K (.ref a) (.int i) H Q := .inl (.inl ⟨a, xs, i, v, rfl, rfl, h, hi, q⟩)
theorem r_ixT (h : SqT K H a xs) (hi : atI xs i = some v) (q : Q v H) : rIxU K (.ref a) (.int i) H Q := .inl (.inr (.inl ⟨a, xs, i, v, rfl, rfl, h, hi, q⟩))
theorem r_ixDi {kvs : List (Key × V)} (h : H a = some (.dK kvs)) (hi : valV kvs (.inl i) = some v) (q : Q v H) : rIxU K (.ref a) (.int i) H Q := .inr ⟨a, v, rfl, by
  have g := DGet.k (k := .inl i) h
  rw [hi] at g
  exact g, q⟩
theorem r_ixDs {z : Str} {kvs : List (Key × V)} (h : H a = some (.dK kvs)) (hi : valV kvs (.inr z) = some v) (q : Q v H) : rIxU K (.ref a) (.str z) H Q := .inr ⟨a, v, rfl, by
  have g := DGet.k (k := .inr z) h
  rw [hi] at g
  exact g, q⟩
/-! #### what is stored at a subscript -/
theorem r_gSub {QS : L2.St → Hp → Prop} {ts : TSet} (q : ta σ H fun o H1 => tb σ H1 fun i H2 => ts o i v H2 fun H3 => QS σ H3) : gSub ta tb ts v σ H QS := q
theorem r_setL {QH : Hp → Prop} (hs : Hd L H) (p : Put (pto a (.lst xs)) (pto a (.lst (xs.set n v))) L L') (hn : n < xs.length) (q : ∀ H', Hd L' H' → QH H') : rSetU (.ref a) (.int (n : Int)) v H QH := by
  obtain ⟨M, pa, _⟩ := p.pulls
  refine .inl ⟨a, xs, (n : Int), n, rfl, rfl, hs.get pa, ?_, q _ (hs.set p (fun z => z))⟩
  unfold ixN
  rw [if_pos (Int.natCast_nonneg n), if_pos (by omega), Int.toNat_natCast]
theorem r_setDi {QH : Hp → Prop} {kvs kvs' : List (Key × V)} (hs : Hd L H) (p : Put (pto a (.dK kvs)) (pto a (.dK kvs')) L L') (e : putK kvs (.inl i) v = kvs') (hl : kvs.length < sizeLine) (q : ∀ H', Hd L' H' → QH H') : rSetU (.ref a) (.int i) v H QH := by
  obtain ⟨M, pa, _⟩ := p.pulls
  subst e
  exact .inr ⟨a, _, rfl, DPut.k (k := .inl i) (hs.get pa) hl, q _ (hs.set p (fun z => z))⟩
theorem r_setDs {QH : Hp → Prop} {z : Str} {kvs kvs' : List (Key × V)} (hs : Hd L H) (p : Put (pto a (.dK kvs)) (pto a (.dK kvs')) L L') (e : putK kvs (.inr z) v = kvs') (hl : kvs.length < sizeLine) (q : ∀ H', Hd L' H' → QH H') : rSetU (.ref a) (.str z) v H QH := by
  obtain ⟨M, pa, _⟩ := p.pulls
  subst e
  exact .inr ⟨a, _, rfl, DPut.k (k := .inr z) (hs.get pa) hl, q _ (hs.set p (fun z => z))⟩
/-! #### fields -/
theorem r_fld {f : Str} (q : ta σ H (FldK K f Q)) : tFld K ta f σ H Q := q
theorem r_fldK {C dx : Addr} {fs : List (Str × V)} {f : Str} (h : H a = some (.ins C dx fs)) (c : Cls K C) (nf : NoAttr K C f) (l : fs.lookup f = some v) (q : Q v H) : FldK K f Q (.ref a) H := ⟨a, C, dx, fs, v, rfl, h, c, nf, l, q⟩
theorem r_sFld {f : Str} (q : te σ H fun y H1 => ta σ H1 (SFldK K f (D.nx σ) y)) : sFld K ta te f D σ H := q
theorem r_sFldK {C dx : Addr} {fs fs' : List (Str × V)} {f : Str} (hs : Hd L H) (p : Put (pto a (.ins C dx fs)) (pto a (.ins C dx fs')) L L') (e : putF f y fs = fs') (c : Cls K C) (nf : NoAttr K C f) (hl : fs.length < 1000) (q : ∀ H', Hd L' H' → N H') : SFldK K f N y (.ref a) H := by
  obtain ⟨M, pa, _⟩ := p.pulls
  subst e
  exact ⟨a, C, dx, fs, rfl, hs.get pa, c, nf, hl, q _ (hs.set p (fun z => z))⟩
/-! #### calls of methods -/
theorem r_meth {C : Addr} {m : Str} {sp : Sp} {dvs : List V} {E : XK} (q : ta σ H (MethK C m fun x H1 => tr σ H1 fun vs H2 => sp (x :: (vs ++ dvs)) H2 Q E)) : tMeth C m sp dvs E ta tr σ H Q := q
theorem r_methK {C dx : Addr} {fs : List (Str × V)} {m : Str} {R : V → Hp → Prop} (h : H a = some (.ins C dx fs)) (l : fs.lookup m = none) (q : R (.ref a) H) : MethK C m R (.ref a) H := ⟨a, dx, fs, rfl, h, l, q⟩
theorem r_make {C : Addr} {sp : Sp} {dvs : List V} {E : XK} (q : tr σ H (MakeK C sp dvs E Q)) : tMake C sp dvs E tr σ H Q := q
theorem r_makeK {C : Addr} {sp : Sp} {dvs vs : List V} {E : XK} (hs : Hd L H) (q : ∀ x dx H', Hd (pto x (.ins C dx []) :: L) H' → sp (.ref x :: (vs ++ dvs)) H' (fun v H2 => v = .non ∧ Q (.ref x) H2) E) : MakeK C sp dvs E Q vs H := fun x dx nx nd ne =>
  q x dx _ ((hs.new nd).tl.new (by rw [upd_ne ne.symm]; exact nx))
theorem r_bm {T : String} {rm : V → List V → Hp → VK → Prop} (q : ta σ H fun x H1 => tyV K T x H1 ∧ tr σ H1 fun xs H2 => rm x xs H2 Q) : tBM K T rm ta tr σ H Q := q
theorem r_bm0 {T : String} {rm : V → List V → Hp → VK → Prop} (q : ta σ H fun x H1 => tyV K T x H1 ∧ rm x [] H1 Q) : tBM0 K T rm ta σ H Q := q
theorem r_tyL {R : Prop} (h : SqL K H a xs) (q : R) : tyV K "list" (.ref a) H ∧ R := ⟨.inl ⟨rfl, _, h⟩, q⟩
theorem r_tyD {kvs : List (Key × V)} {R : Prop} (h : H a = some (.dK kvs)) (q : R) : tyV K "dict" (.ref a) H ∧ R := ⟨.inr (.inr (.inl ⟨rfl, .inl ⟨_, h⟩⟩)), q⟩
theorem r_tyS {z : Str} {R : Prop} (q : R) : tyV K "str" (.str z) H ∧ R := ⟨rfl, q⟩
theorem r_append (hs : Hd L H) (p : Put (pto a (.lst xs)) (pto a (.lst (xs ++ [y]))) L L') (hl : xs.length < sizeLine) (q : ∀ H', Hd L' H' → Q .non H') : rAppend (.ref a) [y] H Q := by
  obtain ⟨M, pa, _⟩ := p.pulls
  exact ⟨a, xs, y, rfl, rfl, hs.get pa, hl, q _ (hs.set p (fun z => z))⟩
theorem r_extend {c : Addr} (hs : Hd L H) (p : Put (pto a (.lst xs)) (pto a (.lst (xs ++ ys))) L L') (hb : H c = some (.lst ys)) (hl : xs.length + ys.length ≤ sizeLine) (q : ∀ H', Hd L' H' → Q .non H') : rExtend (.ref a) [.ref c] H Q := by
  obtain ⟨M, pa, _⟩ := p.pulls
  exact ⟨a, c, xs, ys, rfl, rfl, hs.get pa, hb, hl, q _ (hs.set p (fun z => z))⟩
theorem r_pop (hs : Hd L H) (p : Put (pto a (.lst xs)) (pto a (.lst xs.dropLast)) L L') (hy : xs[xs.length - 1]? = some y) (q : ∀ H', Hd L' H' → Q y H') : rPop (.ref a) [] H Q := by
  obtain ⟨M, pa, _⟩ := p.pulls
  exact ⟨a, xs, y, rfl, rfl, hs.get pa, hy, q _ (hs.set p (fun z => z))⟩
theorem r_popAt (hs : Hd L H) (p : Put (pto a (.lst xs)) (pto a (.lst (xs.eraseIdx n))) L L') (hz : xs.length ≤ sizeLine) (hy : xs[n]? = some y) (q : ∀ H', Hd L' H' → Q y H') : rPopAt (.ref a) [.int (n : Int)] H Q := by
  obtain ⟨M, pa, _⟩ := p.pulls
  have hn := (List.getElem?_eq_some_iff.mp hy).1
  have e := sizeLine_eq
  have g : seqIndex? (n : Int) xs.length = some n := by
    have := (ixN_seq (n := xs.length) (i := (n : Int)) (j := n) (by
      unfold ixN
      rw [if_pos (Int.natCast_nonneg n), if_pos (by omega), Int.toNat_natCast])).1
    exact this
  exact ⟨a, xs, (n : Int), n, y, rfl, rfl, hs.get pa, by omega, by omega, g, hy, q _ (hs.set p (fun z => z))⟩
theorem r_clear (hs : Hd L H) (p : Put (pto a (.lst xs)) (pto a (.lst [])) L L') (q : ∀ H', Hd L' H' → Q .non H') : rClear (.ref a) [] H Q := by
  obtain ⟨M, pa, _⟩ := p.pulls
  exact ⟨a, xs, rfl, rfl, hs.get pa, q _ (hs.set p (fun z => z))⟩
/-! #### slices -/
theorem r_sl {rs : V → Option Int → Option Int → Hp → VK → Prop} {tl th : TO} (q : te σ H fun x H1 => tl σ H1 fun l H2 => th σ H2 fun u H3 => rs x l u H3 Q) : tSl rs te tl th σ H Q := q
theorem r_noPart {QO : Option Int → Hp → Prop} (q : QO none H) : tNoPart σ H QO := q
theorem r_part {QO : Option Int → Hp → Prop} (q : te σ H (PartK QO)) : tPart te σ H QO := q
theorem r_partK {QO : Option Int → Hp → Prop} (q : QO (some i) H) : PartK QO (.int i) H := ⟨i, rfl, q⟩
theorem r_slL {lo hi : Option Int} (hs : Hd L H) (h : SqL K H a xs) (q : ∀ p H', Hd (pto p (.lst (cutV xs lo hi)) :: L) H' → Q (.ref p) H') : rSlL K (.ref a) lo hi H Q := ⟨a, xs, rfl, h, fun p n => q p _ (hs.new n)⟩
/-! #### dicts -/
theorem r_dnew (hs : Hd L H) (q : ∀ p H', Hd (pto p (.dK []) :: L) H' → Q (.ref p) H') : tDNewK σ H Q := fun p n => q p _ (hs.new n)
theorem r_disp {trs : List (TE × TE)} (hs : Hd L H) (q : ∀ p H', Hd (pto p (.dK []) :: L) H' → tPairs trs σ H' (DispE p Q)) : tDisp trs σ H Q := fun p n => q p _ (hs.new n)
theorem r_pairsN {QP : List (V × V) → Hp → Prop} (q : QP [] H) : tPairs [] σ H QP := q
theorem r_pairsC {QP : List (V × V) → Hp → Prop} {trs : List (TE × TE)} (q : ta σ H fun x H1 => tb σ H1 fun y H2 => tPairs trs σ H2 fun ps H3 => QP ((x, y) :: ps) H3) : tPairs ((ta, tb) :: trs) σ H QP := q
theorem r_dispE {ps : List (V × V)} {kvs kvs' : List (Key × V)} (hs : Hd L H) (p' : Put (pto p (.dK [])) (pto p (.dK kvs')) L L') (e : ps = kvs.map (fun kv => (kV kv.1, kv.2))) (hl : kvs.length ≤ 15) (e2 : mergeK [] kvs = kvs') (q : ∀ H', Hd L' H' → Q (.ref p) H') : DispE p Q ps H := by
  obtain ⟨M, pa, _⟩ := p'.pulls
  subst e2
  exact ⟨hs.get pa, kvs, e, hl, q _ (hs.set p' (fun z => z))⟩
theorem r_dget1 (q : ta σ H (IsDK fun a H1 => tb σ H1 (GetE1 a Q))) : tDGet1 ta tb σ H Q := q
theorem r_dget2 (q : ta σ H (IsDK fun a H1 => tb σ H1 fun y H2 => tx σ H2 (GetE2 a y Q))) : tDGet2 ta tb tx σ H Q := q
theorem r_isD {kvs : List (Key × V)} {R : Addr → Hp → Prop} (h : H a = some (.dK kvs)) (q : R a H) : IsDK R (.ref a) H := ⟨a, rfl, .inl ⟨_, .inl h⟩, q⟩
theorem r_get1i {kvs : List (Key × V)} (h : H a = some (.dK kvs)) (q : Q ((valV kvs (.inl i)).getD .non) H) : GetE1 a Q (.int i) H := ⟨_, DGet.k (k := .inl i) h, q⟩
theorem r_get1s {z : Str} {kvs : List (Key × V)} (h : H a = some (.dK kvs)) (q : Q ((valV kvs (.inr z)).getD .non) H) : GetE1 a Q (.str z) H := ⟨_, DGet.k (k := .inr z) h, q⟩
theorem r_get2i {kvs : List (Key × V)} (h : H a = some (.dK kvs)) (q : Q ((valV kvs (.inl i)).getD x) H) : GetE2 a (.int i) Q x H := ⟨_, DGet.k (k := .inl i) h, q⟩
theorem r_get2s {z : Str} {kvs : List (Key × V)} (h : H a = some (.dK kvs)) (q : Q ((valV kvs (.inr z)).getD x) H) : GetE2 a (.str z) Q x H := ⟨_, DGet.k (k := .inr z) h, q⟩
/-! #### calls of built-ins -/
theorem r_lenL (h : SqL K H a xs) (q : Q (.int xs.length) H) : rLenU K [.ref a] H Q := .inl ⟨_, _, rfl, .inl ⟨_, h, rfl⟩, q⟩
theorem r_lenT (h : SqT K H a xs) (q : Q (.int xs.length) H) : rLenU K [.ref a] H Q := .inl ⟨_, _, rfl, .inr ⟨_, h, rfl⟩, q⟩
theorem r_lenS {z : Str} (h : z.length ≤ sizeLine) (q : Q (.int z.length) H) : rLenU K [.str z] H Q := .inl ⟨_, _, rfl, ⟨h, rfl⟩, q⟩
theorem r_lenD {kvs : List (Key × V)} (h : H a = some (.dK kvs)) (q : Q (.int kvs.length) H) : rLenU K [.ref a] H Q := .inr ⟨_, _, rfl, h, q⟩
theorem r_abs (q : Q (.int (if i < 0 then -i else i)) H) : rAbs [.int i] H Q := ⟨_, rfl, q⟩
theorem r_max2 (q : Q (.int (if j > i then j else i)) H) : rMax2 [.int i, .int j] H Q := ⟨_, _, rfl, q⟩
theorem r_min2 (q : Q (.int (if j < i then j else i)) H) : rMin2 [.int i, .int j] H Q := ⟨_, _, rfl, q⟩
theorem r_int1b (q : Q (.int (if b then 1 else 0)) H) : rInt1 [.bl b] H Q := .inr ⟨_, rfl, q⟩
theorem r_int1 (q : Q (.int i) H) : rInt1 [.int i] H Q := .inl ⟨_, rfl, q⟩
theorem r_listL (hs : Hd L H) (h : SqL K H a xs) (q : ∀ p H', Hd (pto p (.lst xs) :: L) H' → Q (.ref p) H') : rListOf K [.ref a] H Q := ⟨a, xs, rfl, .inl h, fun p n => q p _ (hs.new n)⟩
theorem r_listT (hs : Hd L H) (h : SqT K H a xs) (q : ∀ p H', Hd (pto p (.lst xs) :: L) H' → Q (.ref p) H') : rListOf K [.ref a] H Q := ⟨a, xs, rfl, .inr h, fun p n => q p _ (hs.new n)⟩
theorem r_tupleL (hs : Hd L H) (h : SqL K H a xs) (q : ∀ p H', Hd (pto p (.tup xs) :: L) H' → Q (.ref p) H') : rTupleOf K [.ref a] H Q := ⟨a, xs, rfl, .inl ⟨h, fun p n => q p _ (hs.new n)⟩⟩
theorem r_tupleT (h : SqT K H a xs) (q : Q (.ref a) H) : rTupleOf K [.ref a] H Q := ⟨a, xs, rfl, .inr ⟨h, q⟩⟩
theorem r_sum {ns : List Int} (h : SqL K H a (ns.map V.int)) (q : Q (.int ns.sum) H) : rSum K [.ref a] H Q := ⟨a, ns, rfl, h, q⟩
theorem r_all {bs : List Bool} (h : SqL K H a (bs.map V.bl)) (q : Q (.bl (bs.all id)) H) : rAll K [.ref a] H Q := ⟨a, bs, rfl, h, q⟩
theorem r_isi {c : V} {t u : Value} (hc : ClsV c u) (ty : TyX K H x t) (e : PySem.W.kitOne K t u = some b) (q : Q (.bl b) H) : rIsiU K [x, c] H Q := .inl ⟨x, c, t, u, b, rfl, hc, ty, e, q⟩
end
end Sl
namespace Sl
open PySem L2
theorem sz {n : Nat} (h : n ≤ 100000) : n ≤ sizeLine := Nat.le_trans h (by decide)
theorem szlt {n : Nat} (h : n < 100000) : n < sizeLine := Nat.lt_of_lt_of_le h (by decide)
theorem sqT_K {K : PySem.W.Frag} {a : Addr} {xs : List V} {us : List Value} {n : Nat} {H : Hp} (h : K.lookup a = some ⟨.type "tuple", none, .seq us.toArray n, #[]⟩) (hl : xs.length ≤ sizeLine) (r : Vals xs us) : SqT K H a xs :=
  .inr ⟨_, us.toArray, n, h, rfl, rfl, by rw [List.size_toArray, ← r.length]; exact hl, by simpa using r⟩
end Sl
namespace Sl
open PySem L2
theorem Hd.one {A : SA} {H : Hp} (h : A H) : Hd [A] H := ⟨H, fun _ => none, fun _ _ _ _ h => (nomatch h), Sub.refl _, fun _ _ h => (nomatch h), h, trivial⟩
/-- an atom that is true of greater heaps, too -/
def Up (A : SA) : Prop := ∀ H H', Sub H H' → A H → A H'
theorem Hd.at {A : SA} {L L' : List SA} {H : Hp} (u : Up A) (h : Hd L H) (p : Pull A L L') : A H := by
  obtain ⟨H1, H2, _, s, _, e, _⟩ := h.pull p
  exact u _ _ s e
theorem up_pto (a : Addr) (o : HO) : Up (pto a o) := fun _ _ s h => s _ _ h
/-- two atoms made one -/
theorem Hd.join {A B C : SA} {L : List SA} {H : Hp} (ua : Up A) (ub : Up B) (h : Hd (A :: B :: L) H) (f : ∀ H, A H → B H → C H) : Hd (C :: L) H := by
  obtain ⟨H1, H2, c, s1, s2, p, H3, H4, c2, s3, s4, q, r⟩ := h
  have c13 := c.sub (Sub.refl _) s3
  have c14 := c.sub (Sub.refl _) s4
  exact ⟨uni H1 H3, H4, (uni_cmp c14.symm c2.symm).symm, uni_sub s1 (s3.trans s2), s4.trans s2, f _ (ua _ _ (uni_l _ _) p) (ub _ _ (uni_r c13) q), r⟩
/-- an object of an atom is changed -/
theorem Hd.chg {A B : SA} {L : List SA} {H : Hp} {d : Addr} {o' : HO} (h : Hd (A :: L) H) (m : ∀ H, A H → ∃ o, H d = some o ∧ ¬ Imm o) (f : ∀ H, A H → B (upd H d o')) : Hd (B :: L) (upd H d o') := by
  obtain ⟨H1, H2, c, s1, s2, p, q⟩ := h
  obtain ⟨o, ho, hm⟩ := m _ p
  have n : H2 d = none := by
    cases z : H2 d with
    | none => rfl
    | some u => exact (hm (c d o u ho z).2).elim
  refine ⟨upd H1 d o', H2, fun b o1 o2 h1 h2 => ?_, fun b u e => ?_, fun b u e => ?_, f _ p, q⟩
  · by_cases z : b = d
    · subst z
      rw [n] at h2
      cases h2
    · rw [upd_ne z] at h1
      exact c b o1 o2 h1 h2
  · by_cases z : b = d
    · subst z
      rw [upd_same] at e ⊢
      exact e
    · rw [upd_ne z] at e ⊢
      exact s1 b u e
  · have z : b ≠ d := fun z => by
      subst z
      rw [n] at e
      cases e
    rw [upd_ne z]
    exact s2 b u e
/-- what is true at all greater heaps of A's piece may be carried beside it -/
theorem Hd.also {A B : SA} {L : List SA} {H : Hp} (h : Hd (A :: L) H) (f : ∀ H, A H → B H) : Hd (B :: L) H := h.imp f
end Sl
namespace Sl
open PySem L2
theorem flat_ints (ns : List Int) : (ns.map V.int).all flatV = true := by
  rw [List.all_map, List.all_eq_true]
  exact fun _ _ => rfl
end Sl
namespace Sl
open PySem L2
/-- what stands behind several ways is shown once: tail at each of them, then its proof -/
theorem r_late {L : List SA} {H : Hp} {B : Prop} {R : Hp → Prop} (_ : Hd L H) (f : (∀ H, Hd L H → R H) → B) (a : ∀ H, Hd L H → R H) : B := f a
end Sl

set_option maxRecDepth 100000
set_option maxHeartbeats 1000000
namespace Sl
open PySem L2
/-! ### what is walked -/
def Rng1K (R : It → Hp → Prop) (vs : List V) (H : Hp) : Prop := ∃ j : Int, vs = [.int j] ∧ -(2 ^ 62) ≤ j ∧ j < 2 ^ 62 ∧ R (Itr 0 j.toNat) H
def Rng2K (R : It → Hp → Prop) (vs : List V) (H : Hp) : Prop := ∃ i j : Int, vs = [.int i, .int j] ∧ (-(2 ^ 62) ≤ i ∧ i < 2 ^ 62 ∧ -(2 ^ 62) ≤ j ∧ j < 2 ^ 62) ∧ R (Itr i (j - i).toNat) H
def ListK (K : PySem.W.Frag) (R : It → Hp → Prop) (x : V) (H : Hp) : Prop := ∃ a, x = .ref a ∧ (∃ xs, SqL K H a xs) ∧ R (Itl K a) H
def TupK (K : PySem.W.Frag) (R : It → Hp → Prop) (x : V) (H : Hp) : Prop := ∃ a, x = .ref a ∧ (∃ xs, SqT K H a xs) ∧ R (Itt K a) H
def EnumK (K : PySem.W.Frag) (R : It → Hp → Prop) (vs : List V) (H : Hp) : Prop := ∃ a xs, vs = [.ref a] ∧ SqL K H a xs ∧ R (Ite K a) H
def ZipK (K : PySem.W.Frag) (R : It → Hp → Prop) (vs : List V) (H : Hp) : Prop := ∃ a b xs ys, vs = [.ref a, .ref b] ∧ SqL K H a xs ∧ SqL K H b ys ∧ R (Itz K a b) H
/-- a loop's turns; a comprehension's -/
def ForK (g : TG) (tb : TS) (D : Ends) (σ : L2.St) (J : It) (H : Hp) : Prop := ∃ W : Nat → Nat → L2.St → Hp → Prop, (∃ m, W 0 m σ H) ∧ ∀ i m σ H, W i m σ H →
  (J.stop i H ∧ D.nx σ H) ∨ (J.go i H ∧ ∃ N : L2.St → Hp → Prop, (∀ σ' H', N σ' H' → ∃ m', m' < m ∧ W (i + 1) m' σ' H') ∧ ∀ x H', J.yld i H x H' → g x σ H' fun σ2 H2 => tb { D with nx := N, ct := N, bk := D.nx } σ2 H2)
def LcK (g : TG) (tt : TT) (te : TE) (vs : List Nat) (σ : L2.St) (Q : VK) (J : It) (H1 : Hp) : Prop := ∀ D, H1 D = none → ∃ W : Nat → Nat → Hp → Prop, (∃ m, W 0 m (upd H1 D (.lst []))) ∧ ∀ i m H, W i m H →
  (J.stop i H ∧ Q (.ref D) H) ∨ (J.go i H ∧ ∃ Nx : Hp → Prop, (∀ H', Nx H' → ∃ m', m' < m ∧ W (i + 1) m' H') ∧ ∀ x H', J.yld i H x H' → g x (wipe σ vs) H' fun σ2 H2 => wipe σ2 vs = wipe σ vs ∧ tt σ2 H2 fun b H3 =>
    if b = true then te σ2 H3 fun y H4 => ∃ acc, H4 D = some (.lst acc) ∧ acc.length < sizeLine ∧ Nx (upd H4 D (.lst (acc ++ [y]))) else Nx H3)
def AppK (D : Addr) (N : Hp → Prop) (y : V) (H : Hp) : Prop := ∃ acc, H D = some (.lst acc) ∧ acc.length < sizeLine ∧ N (upd H D (.lst (acc ++ [y])))
section
variable {K : PySem.W.Frag} {σ : L2.St} {H : Hp} {D : Ends} {t u tb : TS} {te : TE} {tr : TA} {tt : TT} {wi : TI} {g : TG} {gs : TGs} {Q : VK} {R : It → Hp → Prop} {v x y : V} {i j k : Int} {n : Nat}
  {L L' : List SA} {a b p T : Addr} {xs ys : List V} {vs : List Nat} {QS : L2.St → Hp → Prop}
theorem r_for (q : wi σ H (ForK g tb D σ)) : tFor wi g tb D σ H := q
theorem r_lc (q : wi σ H (LcK g tt te vs σ Q)) : tLc wi g tt te vs σ H Q := q
theorem r_rng1 (q : tr σ H (Rng1K R)) : iRng1 tr σ H R := q
theorem r_rng2 (q : tr σ H (Rng2K R)) : iRng2 tr σ H R := q
theorem r_iList (q : te σ H (ListK K R)) : iList K te σ H R := q
theorem r_iTup (q : te σ H (TupK K R)) : iTup K te σ H R := q
theorem r_iEnum (q : tr σ H (EnumK K R)) : iEnum K tr σ H R := q
theorem r_iZip (q : tr σ H (ZipK K R)) : iZip K tr σ H R := q
theorem r_rng1K (h : -4000000000000000000 ≤ j ∧ j ≤ 4000000000000000000) (q : R (Itr 0 j.toNat) H) : Rng1K R [.int j] H := ⟨j, rfl, by omega, by omega, q⟩
theorem r_rng2K (h : -4000000000000000000 ≤ i ∧ i ≤ 4000000000000000000 ∧ -4000000000000000000 ≤ j ∧ j ≤ 4000000000000000000) (q : R (Itr i (j - i).toNat) H) : Rng2K R [.int i, .int j] H := ⟨i, j, rfl, ⟨by omega, by omega, by omega, by omega⟩, q⟩
theorem r_listK (h : SqL K H a xs) (q : R (Itl K a) H) : ListK K R (.ref a) H := ⟨a, rfl, ⟨xs, h⟩, q⟩
theorem r_tupK (h : SqT K H a xs) (q : R (Itt K a) H) : TupK K R (.ref a) H := ⟨a, rfl, ⟨xs, h⟩, q⟩
theorem r_enumK (h : SqL K H a xs) (q : R (Ite K a) H) : EnumK K R [.ref a] H := ⟨a, xs, rfl, h, q⟩
theorem r_zipK (h : SqL K H a xs) (h2 : SqL K H b ys) (q : R (Itz K a b) H) : ZipK K R [.ref a, .ref b] H := ⟨a, b, xs, ys, rfl, h, h2, q⟩
theorem r_gTup {k : Nat} (h : SqT K H a xs) (hl : xs.length = k) (q : gs xs σ H QS) : gTup K k gs (.ref a) σ H QS := ⟨a, xs, rfl, h, hl, q⟩
theorem r_gTupNew {k : Nat} (hs : Hd L H) (hT : H T = none) (hl : xs.length = k) (q : ∀ H', Hd (pto T (.tup xs) :: L) H' → gs xs σ H' QS) : gTup K k gs (.ref T) σ (upd H T (.tup xs)) QS :=
  ⟨T, xs, rfl, SqT.of upd_same, hl, q _ (hs.new hT)⟩
theorem r_gCons {xs : List V} (q : g x σ H fun σ' H' => gs xs σ' H' QS) : gCons g gs (x :: xs) σ H QS := ⟨x, xs, rfl, q⟩
theorem r_gNil (q : QS σ H) : gNil [] σ H QS := ⟨rfl, q⟩
theorem r_yes {QT : Bool → Hp → Prop} (q : QT true H) : tYes σ H QT := q
theorem r_appK {acc : List V} {D : Addr} {N : Hp → Prop} (hs : Hd L H) (p : Put (pto D (.lst acc)) (pto D (.lst (acc ++ [y]))) L L') (hl : acc.length < sizeLine) (q : ∀ H', Hd L' H' → N H') : AppK D N y H := by
  obtain ⟨M, pa, _⟩ := p.pulls
  exact ⟨acc, hs.get pa, hl, q _ (hs.set p (fun z => z))⟩
theorem r_par {i j : Nat} (q : tr σ H fun vs H1 => ∃ v w, vs = [v, w] ∧ D.nx ((σ.set i (some v)).set j (some w)) H1) : tPar i j tr D σ H := q
theorem r_mulT (hs : Hd L H) (h : SqT K H a xs) (hx : xs ≠ []) (hk : 2 ≤ k ∧ k ≤ 1000) (hl : xs.length ≤ 1000) (q : ∀ p H', Hd (pto p (.tup (List.replicate k.toNat xs).flatten) :: L) H' → Q (.ref p) H') : rMulU K (.ref a) (.int k) H Q :=
  .inr (.inr ⟨a, k, xs, rfl, rfl, h, hx, hk.1, hk.2, hl, fun p n => q p _ (hs.new n)⟩)
/-! #### loops by an invariant -/
theorem r_forW {J : It} {G : Hp → Prop} {Y : Nat → Hp → V → Hp → Prop} (w : Walk J n G Y) (P : Nat → L2.St → Hp → Prop) (h0 : P 0 σ H) (hG : ∀ i σ H, i ≤ n → P i σ H → G H)
    (hs : ∀ i x σ H H', i < n → P i σ H → Y i H x H' → g x σ H' fun σ2 H2 => tb { D with nx := P (i + 1), ct := P (i + 1), bk := D.nx } σ2 H2) (hd : ∀ σ H, P n σ H → D.nx σ H) : ForK g tb D σ J H := for_it w P h0 hG hs hd
theorem r_forR {lo : Int} (P : Nat → L2.St → Hp → Prop) (h0 : P 0 σ H)
    (hs : ∀ i σ H, i < n → P i σ H → g (.int (lo + (i : Nat))) σ H fun σ2 H2 => tb { D with nx := P (i + 1), ct := P (i + 1), bk := D.nx } σ2 H2) (hd : ∀ σ H, P n σ H → D.nx σ H) : ForK g tb D σ (Itr lo n) H :=
  r_forW walk_range P h0 (fun _ _ _ _ _ => trivial) (fun i x σ H H' hi p y => by
    obtain ⟨e, y⟩ := y
    subst e y
    exact hs i σ _ hi p) hd
theorem r_forL (xs : List V) (P : Nat → L2.St → Hp → Prop) (h0 : P 0 σ H) (hl : ∀ i σ H, i ≤ xs.length → P i σ H → SqL K H a xs)
    (hs : ∀ i x σ H, xs[i]? = some x → P i σ H → g x σ H fun σ2 H2 => tb { D with nx := P (i + 1), ct := P (i + 1), bk := D.nx } σ2 H2) (hd : ∀ σ H, P xs.length σ H → D.nx σ H) : ForK g tb D σ (Itl K a) H :=
  r_forW walk_list P h0 hl (fun i x σ H H' hi p y => by
    obtain ⟨e, y⟩ := y
    subst e
    exact hs i x σ _ y p) hd
theorem r_forT (xs : List V) (P : Nat → L2.St → Hp → Prop) (h0 : P 0 σ H) (hl : ∀ i σ H, i ≤ xs.length → P i σ H → SqT K H a xs)
    (hs : ∀ i x σ H, xs[i]? = some x → P i σ H → g x σ H fun σ2 H2 => tb { D with nx := P (i + 1), ct := P (i + 1), bk := D.nx } σ2 H2) (hd : ∀ σ H, P xs.length σ H → D.nx σ H) : ForK g tb D σ (Itt K a) H :=
  r_forW walk_tup P h0 hl (fun i x σ H H' hi p y => by
    obtain ⟨e, y⟩ := y
    subst e
    exact hs i x σ _ y p) hd
theorem r_forE (xs : List V) (P : Nat → L2.St → Hp → Prop) (h0 : P 0 σ H) (hl : ∀ i σ H, i ≤ xs.length → P i σ H → SqL K H a xs)
    (hs : ∀ i x T σ H, xs[i]? = some x → P i σ H → H T = none → g (.ref T) σ (upd H T (.tup [.int (i : Nat), x])) fun σ2 H2 => tb { D with nx := P (i + 1), ct := P (i + 1), bk := D.nx } σ2 H2) (hd : ∀ σ H, P xs.length σ H → D.nx σ H) : ForK g tb D σ (Ite K a) H :=
  r_forW walk_enum P h0 hl (fun i x σ H H' hi p y => by
    obtain ⟨T, z, w, rfl, hT, rfl, e1, e2⟩ := y
    cases e1
    exact hs i w T σ _ e2 p hT) hd
theorem r_forZ (xs ys : List V) (hn : n = min xs.length ys.length) (P : Nat → L2.St → Hp → Prop) (h0 : P 0 σ H) (hl : ∀ i σ H, i ≤ n → P i σ H → SqL K H a xs ∧ SqL K H b ys)
    (hs : ∀ i x y T σ H, xs[i]? = some x → ys[i]? = some y → P i σ H → H T = none → g (.ref T) σ (upd H T (.tup [x, y])) fun σ2 H2 => tb { D with nx := P (i + 1), ct := P (i + 1), bk := D.nx } σ2 H2) (hd : ∀ σ H, P n σ H → D.nx σ H) : ForK g tb D σ (Itz K a b) H :=
  r_forW (walk_zip hn) P h0 hl (fun i x σ H H' hi p y => by
    obtain ⟨T, z, w, rfl, hT, rfl, e1, e2⟩ := y
    exact hs i z w T σ _ e1 e2 p hT) hd
/-! #### comprehensions: P D i: what holds behind i turns, the new list at D -/
theorem r_lcW {J : It} {G : Hp → Prop} {Y : Nat → Hp → V → Hp → Prop} (w : Walk J n G Y) (P : Addr → Nat → Hp → Prop) (hh : Hd L H) (h0 : ∀ D H', Hd (pto D (.lst []) :: L) H' → P D 0 H') (hG : ∀ D i H, i ≤ n → P D i H → G H)
    (hs : ∀ D i x H H', i < n → P D i H → Y i H x H' → g x (wipe σ vs) H' fun σ2 H2 => wipe σ2 vs = wipe σ vs ∧ tt σ2 H2 fun b H3 => if b = true then te σ2 H3 (AppK D (P D (i + 1))) else P D (i + 1) H3)
    (hd : ∀ D H, P D n H → Q (.ref D) H) : LcK g tt te vs σ Q J H := fun D hD =>
  lc_it w (P D) (h0 D _ (hh.new hD)) (hG D) (fun i x H H' hi p y => hs D i x H H' hi p y) (hd D)
theorem r_lcR {lo : Int} (P : Addr → Nat → Hp → Prop) (hh : Hd L H) (h0 : ∀ D H', Hd (pto D (.lst []) :: L) H' → P D 0 H')
    (hs : ∀ D i H, i < n → P D i H → g (.int (lo + (i : Nat))) (wipe σ vs) H fun σ2 H2 => wipe σ2 vs = wipe σ vs ∧ tt σ2 H2 fun b H3 => if b = true then te σ2 H3 (AppK D (P D (i + 1))) else P D (i + 1) H3)
    (hd : ∀ D H, P D n H → Q (.ref D) H) : LcK g tt te vs σ Q (Itr lo n) H :=
  r_lcW walk_range P hh h0 (fun _ _ _ _ _ => trivial) (fun D i x H H' hi p y => by
    obtain ⟨e, y⟩ := y
    subst e y
    exact hs D i _ hi p) hd
theorem r_lcL (xs : List V) (P : Addr → Nat → Hp → Prop) (hh : Hd L H) (h0 : ∀ D H', Hd (pto D (.lst []) :: L) H' → P D 0 H') (hl : ∀ D i H, i ≤ xs.length → P D i H → SqL K H a xs)
    (hs : ∀ D i x H, xs[i]? = some x → P D i H → g x (wipe σ vs) H fun σ2 H2 => wipe σ2 vs = wipe σ vs ∧ tt σ2 H2 fun b H3 => if b = true then te σ2 H3 (AppK D (P D (i + 1))) else P D (i + 1) H3)
    (hd : ∀ D H, P D xs.length H → Q (.ref D) H) : LcK g tt te vs σ Q (Itl K a) H :=
  r_lcW walk_list P hh h0 hl (fun D i x H H' hi p y => by
    obtain ⟨e, y⟩ := y
    subst e
    exact hs D i x _ y p) hd
theorem r_lcT (xs : List V) (P : Addr → Nat → Hp → Prop) (hh : Hd L H) (h0 : ∀ D H', Hd (pto D (.lst []) :: L) H' → P D 0 H') (hl : ∀ D i H, i ≤ xs.length → P D i H → SqT K H a xs)
    (hs : ∀ D i x H, xs[i]? = some x → P D i H → g x (wipe σ vs) H fun σ2 H2 => wipe σ2 vs = wipe σ vs ∧ tt σ2 H2 fun b H3 => if b = true then te σ2 H3 (AppK D (P D (i + 1))) else P D (i + 1) H3)
    (hd : ∀ D H, P D xs.length H → Q (.ref D) H) : LcK g tt te vs σ Q (Itt K a) H :=
  r_lcW walk_tup P hh h0 hl (fun D i x H H' hi p y => by
    obtain ⟨e, y⟩ := y
    subst e
    exact hs D i x _ y p) hd
theorem r_lcE (xs : List V) (P : Addr → Nat → Hp → Prop) (hh : Hd L H) (h0 : ∀ D H', Hd (pto D (.lst []) :: L) H' → P D 0 H') (hl : ∀ D i H, i ≤ xs.length → P D i H → SqL K H a xs)
    (hs : ∀ D i x T H, xs[i]? = some x → P D i H → H T = none → g (.ref T) (wipe σ vs) (upd H T (.tup [.int (i : Nat), x])) fun σ2 H2 => wipe σ2 vs = wipe σ vs ∧ tt σ2 H2 fun b H3 => if b = true then te σ2 H3 (AppK D (P D (i + 1))) else P D (i + 1) H3)
    (hd : ∀ D H, P D xs.length H → Q (.ref D) H) : LcK g tt te vs σ Q (Ite K a) H :=
  r_lcW walk_enum P hh h0 hl (fun D i x H H' hi p y => by
    obtain ⟨T, z, w, rfl, hT, rfl, e1, e2⟩ := y
    cases e1
    exact hs D i w T _ e2 p hT) hd
end
theorem Hd.tup {L : List SA} {H : Hp} {t : Addr} {xs : List V} (h : Hd L H) (e : H t = some (.tup xs)) : Hd (pto t (.tup xs) :: L) H :=
  ⟨Sl.one t (.tup xs), H, fun b o1 o2 h1 h2 => by
    obtain ⟨rfl, rfl⟩ := of_one h1
    rw [e] at h2
    cases h2
    exact ⟨rfl, trivial⟩, one_sub e, Sub.refl _, one_at, h⟩
theorem cl_ints : ∀ ns : List Int, PyData.canLayAll0 (ns.map PyData.int) = true
  | [] => rfl
  | n :: r => by rw [List.map_cons, PyData.canLayAll0, cl_ints r]; rfl
theorem dt_ints : ∀ ns : List Int, PyData.depthAll (ns.map PyData.int) ≤ 1
  | [] => by decide
  | n :: r => by
    have h := dt_ints r
    rw [List.map_cons, PyData.depthAll]
    simp only [PyData.depth]
    omega
theorem sh_listI (ns : List Int) : SeqAt.shaped (.list (ns.map PyData.int)) = true := by
  have h := dt_ints ns
  unfold SeqAt.shaped
  rw [PyData.canLay0, cl_ints, Bool.true_and]
  apply decide_eq_true
  rw [PyData.depth]
  omega
theorem sh_tupI (ns : List Int) : SeqAt.shaped (.tuple (ns.map PyData.int)) = true := by
  have h := dt_ints ns
  unfold SeqAt.shaped
  rw [PyData.canLay0, cl_ints, Bool.true_and]
  apply decide_eq_true
  rw [PyData.depth]
  omega
/-- a list, or a tuple -/
def seqO : Bool → List V → HO
  | true, xs => .tup xs
  | false, xs => .lst xs
theorem r_setDX {v : V} {i : Int} {a : Addr} {H : Hp} {N : Hp → Prop} {kvs : List (Key × V)} (h : H a = some (.dK kvs)) (hl : kvs.length < sizeLine) (q : N (upd H a (.dK (putK kvs (.inl i) v)))) : rSetU (.ref a) (.int i) v H N := .inr ⟨a, _, rfl, DPut.k (k := .inl i) h hl, q⟩
theorem dp_ints {K : PySem.W.Frag} {H : Hp} : ∀ ns : List Int, DpAll K H (ns.map V.int) (ns.map PyData.int)
  | [] => .nil
  | n :: r => .cons (.int n) (dp_ints r)
theorem r_eqSame {K : PySem.W.Frag} {H : Hp} {x y : V} {Q : VK} {d : PyData} (h1 : Dp K H x d) (h2 : Dp K H y d) (s1 : SeqAt.shaped d = true) (e : PyData.eqv d d = true) (q : Q (.bl true) H) : rEqU K x y H Q := r_eqD h1 h2 s1 s1 (by rw [e]; exact q)
theorem r_neSame {K : PySem.W.Frag} {H : Hp} {x y : V} {Q : VK} {d : PyData} (h1 : Dp K H x d) (h2 : Dp K H y d) (s1 : SeqAt.shaped d = true) (e : PyData.eqv d d = true) (q : Q (.bl false) H) : rNeU K x y H Q := r_neD h1 h2 s1 s1 (by rw [e]; exact q)
end Sl
namespace Sl
open PySem L2
/-! ### the same rules, the written part named by a letter (within a comprehension's block) -/
section
variable {X : Cx} {K : PySem.W.Frag}
theorem k_add (h : X.K = K) : OpR X (binaryOp .Add) (rAddU K) := h ▸ u_add
theorem k_sub (_ : X.K = K) : OpR X (binaryOp .Sub) (rI0 fun i j => .int (i - j)) := u_sub
theorem k_mul (h : X.K = K) : OpR X (binaryOp .Mult) (rMulU K) := h ▸ u_mul
theorem k_div (_ : X.K = K) : OpR X (binaryOp .FloorDiv) rDivU := u_div
theorem k_mod (_ : X.K = K) : OpR X (binaryOp .Mod) (rI (fun _ j => 0 < j) fun i j => .int (i % j)) := u_mod
theorem k_pow (_ : X.K = K) : OpR X (binaryOp .Pow) (rI CPow fun i j => .int (i ^ j.toNat)) := u_pow
theorem k_eq (h : X.K = K) (hu : X.A.units + 64 < cLine) : OpR X (compareOp .Eq) (rEqU K) := h ▸ u_eq hu
theorem k_ne (h : X.K = K) (hu : X.A.units + 64 < cLine) : OpR X (compareOp .NotEq) (rNeU K) := h ▸ u_ne hu
theorem k_in (h : X.K = K) (hu : X.A.units + 1 < cLine) : OpR X (compareOp .In) (rInU K false) := h ▸ u_in hu
theorem k_notIn (h : X.K = K) (hu : X.A.units + 1 < cLine) : OpR X (compareOp .NotIn) (rInU K true) := h ▸ u_notIn hu
theorem k_ix (h : X.K = K) (hu : X.A.units + 1 < cLine) : IxR X (rIxU K) := h ▸ u_ix hu
theorem k_len (h : X.K = K) : CallR X (.builtin "len") (rLenU K) := h ▸ u_len
theorem k_list (h : X.K = K) : CallR X (.type "list") (rListOf K) := h ▸ u_list
theorem k_tuple (h : X.K = K) : CallR X (.type "tuple") (rTupleOf K) := h ▸ u_tuple
theorem k_isi (h : X.K = K) : CallR X (.builtin "isinstance") (rIsiU K) := h ▸ u_isi
theorem k_sum (h : X.K = K) (hc : X.calm = true) : CallR X (.builtin "sum") (rSum K) := h ▸ cr_sum hc
theorem k_all (h : X.K = K) (hc : X.calm = true) : CallR X (.builtin "all") (rAll K) := h ▸ cr_all hc
theorem k_any (h : X.K = K) (hc : X.calm = true) : CallR X (.builtin "any") (rAny K) := h ▸ cr_any hc
theorem k_sorted (h : X.K = K) : CallR X (.builtin "sorted") (rSortedI K) := h ▸ cr_sortedI
theorem k_max (h : X.K = K) (hc : X.calm = true) : CallR X (.builtin "max") (rMax K) := h ▸ cr_max hc
theorem k_min (h : X.K = K) (hc : X.calm = true) : CallR X (.builtin "min") (rMin K) := h ▸ cr_min hc
theorem k_slL (h : X.K = K) : SlR X (rSlL K) := h ▸ sl_list
theorem k_slT (h : X.K = K) : SlR X (rSlT K) := h ▸ sl_tup
theorem k_mtIndex (h : X.K = K) : MtR X "list.index" (rIndex K) := h ▸ mt_index
theorem k_mtCount (h : X.K = K) : MtR X "list.count" (rCntI K) := h ▸ mt_lcount
theorem k_fld {e : Expr} {ta : TE} {f : Str} {pos : Pos} (h : X.K = K) (he : PE X e ta) (hb : attributeBase e f X.env (eval e X.env) = eval e X.env) : PE X (.Attribute e f pos) (tFld K ta f) := h ▸ pe_fld he hb
theorem k_bm0 {o : Expr} {to : TE} {name : Str} {apos cpos : Pos} {T : String} {r : V → List V → Hp → VK → Prop} (h : X.K = K) (p : PE X (.Call (.Attribute o name apos) [] [] cpos) (tBM0 X.K T r to)) : PE X (.Call (.Attribute o name apos) [] [] cpos) (tBM0 K T r to) := h ▸ p
theorem k_bm {o e : Expr} {es : List Expr} {to : TE} {t : TA} {name : Str} {apos cpos : Pos} {T : String} {r : V → List V → Hp → VK → Prop} (h : X.K = K) (p : PE X (.Call (.Attribute o name apos) (e :: es) [] cpos) (tBM X.K T r to t)) : PE X (.Call (.Attribute o name apos) (e :: es) [] cpos) (tBM K T r to t) := h ▸ p
theorem k_gTup {es : List Expr} {k : Nat} {t : TGs} {n : Nat} {pos : Pos} (h : X.K = K) (p : PG X (.Tuple es k pos) (gTup X.K n t)) : PG X (.Tuple es k pos) (gTup K n t) := h ▸ p
end
end Sl
namespace Sl
open PySem L2
theorem kb_int_int {K : PySem.W.Frag} : PySem.W.kitOne K (.type "int") (.type "int") = some true := kit_ty (by decide +kernel)
theorem kb_int_bool {K : PySem.W.Frag} : PySem.W.kitOne K (.type "int") (.type "bool") = some false := kit_ty (by decide +kernel)
theorem kb_int_str {K : PySem.W.Frag} : PySem.W.kitOne K (.type "int") (.type "str") = some false := kit_ty (by decide +kernel)
theorem kb_int_list {K : PySem.W.Frag} : PySem.W.kitOne K (.type "int") (.type "list") = some false := kit_ty (by decide +kernel)
theorem kb_int_tuple {K : PySem.W.Frag} : PySem.W.kitOne K (.type "int") (.type "tuple") = some false := kit_ty (by decide +kernel)
theorem kb_int_dict {K : PySem.W.Frag} : PySem.W.kitOne K (.type "int") (.type "dict") = some false := kit_ty (by decide +kernel)
theorem kb_bool_int {K : PySem.W.Frag} : PySem.W.kitOne K (.type "bool") (.type "int") = some true := kit_ty (by decide +kernel)
theorem kb_bool_bool {K : PySem.W.Frag} : PySem.W.kitOne K (.type "bool") (.type "bool") = some true := kit_ty (by decide +kernel)
theorem kb_bool_str {K : PySem.W.Frag} : PySem.W.kitOne K (.type "bool") (.type "str") = some false := kit_ty (by decide +kernel)
theorem kb_bool_list {K : PySem.W.Frag} : PySem.W.kitOne K (.type "bool") (.type "list") = some false := kit_ty (by decide +kernel)
theorem kb_bool_tuple {K : PySem.W.Frag} : PySem.W.kitOne K (.type "bool") (.type "tuple") = some false := kit_ty (by decide +kernel)
theorem kb_bool_dict {K : PySem.W.Frag} : PySem.W.kitOne K (.type "bool") (.type "dict") = some false := kit_ty (by decide +kernel)
theorem kb_str_int {K : PySem.W.Frag} : PySem.W.kitOne K (.type "str") (.type "int") = some false := kit_ty (by decide +kernel)
theorem kb_str_bool {K : PySem.W.Frag} : PySem.W.kitOne K (.type "str") (.type "bool") = some false := kit_ty (by decide +kernel)
theorem kb_str_str {K : PySem.W.Frag} : PySem.W.kitOne K (.type "str") (.type "str") = some true := kit_ty (by decide +kernel)
theorem kb_str_list {K : PySem.W.Frag} : PySem.W.kitOne K (.type "str") (.type "list") = some false := kit_ty (by decide +kernel)
theorem kb_str_tuple {K : PySem.W.Frag} : PySem.W.kitOne K (.type "str") (.type "tuple") = some false := kit_ty (by decide +kernel)
theorem kb_str_dict {K : PySem.W.Frag} : PySem.W.kitOne K (.type "str") (.type "dict") = some false := kit_ty (by decide +kernel)
theorem kb_list_int {K : PySem.W.Frag} : PySem.W.kitOne K (.type "list") (.type "int") = some false := kit_ty (by decide +kernel)
theorem kb_list_bool {K : PySem.W.Frag} : PySem.W.kitOne K (.type "list") (.type "bool") = some false := kit_ty (by decide +kernel)
theorem kb_list_str {K : PySem.W.Frag} : PySem.W.kitOne K (.type "list") (.type "str") = some false := kit_ty (by decide +kernel)
theorem kb_list_list {K : PySem.W.Frag} : PySem.W.kitOne K (.type "list") (.type "list") = some true := kit_ty (by decide +kernel)
theorem kb_list_tuple {K : PySem.W.Frag} : PySem.W.kitOne K (.type "list") (.type "tuple") = some false := kit_ty (by decide +kernel)
theorem kb_list_dict {K : PySem.W.Frag} : PySem.W.kitOne K (.type "list") (.type "dict") = some false := kit_ty (by decide +kernel)
theorem kb_tuple_int {K : PySem.W.Frag} : PySem.W.kitOne K (.type "tuple") (.type "int") = some false := kit_ty (by decide +kernel)
theorem kb_tuple_bool {K : PySem.W.Frag} : PySem.W.kitOne K (.type "tuple") (.type "bool") = some false := kit_ty (by decide +kernel)
theorem kb_tuple_str {K : PySem.W.Frag} : PySem.W.kitOne K (.type "tuple") (.type "str") = some false := kit_ty (by decide +kernel)
theorem kb_tuple_list {K : PySem.W.Frag} : PySem.W.kitOne K (.type "tuple") (.type "list") = some false := kit_ty (by decide +kernel)
theorem kb_tuple_tuple {K : PySem.W.Frag} : PySem.W.kitOne K (.type "tuple") (.type "tuple") = some true := kit_ty (by decide +kernel)
theorem kb_tuple_dict {K : PySem.W.Frag} : PySem.W.kitOne K (.type "tuple") (.type "dict") = some false := kit_ty (by decide +kernel)
theorem kb_dict_int {K : PySem.W.Frag} : PySem.W.kitOne K (.type "dict") (.type "int") = some false := kit_ty (by decide +kernel)
theorem kb_dict_bool {K : PySem.W.Frag} : PySem.W.kitOne K (.type "dict") (.type "bool") = some false := kit_ty (by decide +kernel)
theorem kb_dict_str {K : PySem.W.Frag} : PySem.W.kitOne K (.type "dict") (.type "str") = some false := kit_ty (by decide +kernel)
theorem kb_dict_list {K : PySem.W.Frag} : PySem.W.kitOne K (.type "dict") (.type "list") = some false := kit_ty (by decide +kernel)
theorem kb_dict_tuple {K : PySem.W.Frag} : PySem.W.kitOne K (.type "dict") (.type "tuple") = some false := kit_ty (by decide +kernel)
theorem kb_dict_dict {K : PySem.W.Frag} : PySem.W.kitOne K (.type "dict") (.type "dict") = some true := kit_ty (by decide +kernel)
theorem kb_NoneType_int {K : PySem.W.Frag} : PySem.W.kitOne K (.type "NoneType") (.type "int") = some false := kit_ty (by decide +kernel)
theorem kb_NoneType_bool {K : PySem.W.Frag} : PySem.W.kitOne K (.type "NoneType") (.type "bool") = some false := kit_ty (by decide +kernel)
theorem kb_NoneType_str {K : PySem.W.Frag} : PySem.W.kitOne K (.type "NoneType") (.type "str") = some false := kit_ty (by decide +kernel)
theorem kb_NoneType_list {K : PySem.W.Frag} : PySem.W.kitOne K (.type "NoneType") (.type "list") = some false := kit_ty (by decide +kernel)
theorem kb_NoneType_tuple {K : PySem.W.Frag} : PySem.W.kitOne K (.type "NoneType") (.type "tuple") = some false := kit_ty (by decide +kernel)
theorem kb_NoneType_dict {K : PySem.W.Frag} : PySem.W.kitOne K (.type "NoneType") (.type "dict") = some false := kit_ty (by decide +kernel)
theorem r_iteNT {A B : Prop} (h : B) : if (!true) = true then A else B := iteF h
theorem r_iteNF {A B : Prop} (h : A) : if (!false) = true then A else B := iteT h
end Sl

set_option maxRecDepth 100000
set_option maxHeartbeats 1000000
namespace Sl
open PySem L2
/-! ### many lists -/
/-- at the addresses ls stand the lists q -/
def rowsA (ls : List Addr) (q : List (List V)) : SA := fun H => ls.Nodup ∧ ls.length = q.length ∧ ∀ (i : Nat) a r, ls[i]? = some a → q[i]? = some r → H a = some (.lst r)
theorem up_rows (ls : List Addr) (q : List (List V)) : Up (rowsA ls q) := fun _ _ s h => ⟨h.1, h.2.1, fun i a r h1 h2 => s _ _ (h.2.2 i a r h1 h2)⟩
theorem rows_nil {L : List SA} {H : Hp} (h : Hd L H) : Hd (rowsA [] [] :: L) H :=
  ⟨fun _ => none, H, fun _ _ _ h => (nomatch h), fun _ _ h => (nomatch h), Sub.refl _, ⟨List.nodup_nil, rfl, fun _ _ _ h => by simp at h⟩, h⟩
theorem rows_get {ls : List Addr} {q : List (List V)} {L L' : List SA} {H : Hp} (h : Hd L H) (p : Pull (rowsA ls q) L L') {i : Nat} {a : Addr} {r : List V} (h1 : ls[i]? = some a) (h2 : q[i]? = some r) : H a = some (.lst r) :=
  (h.at (up_rows ls q) p).2.2 i a r h1 h2
theorem rows_len {ls : List Addr} {q : List (List V)} {L L' : List SA} {H : Hp} (h : Hd L H) (p : Pull (rowsA ls q) L L') : ls.length = q.length := (h.at (up_rows ls q) p).2.1
theorem rows_at {ls : List Addr} {q : List (List V)} {L L' : List SA} {H : Hp} (h : Hd L H) (p : Pull (rowsA ls q) L L') {i : Nat} (hi : i < q.length) : ∃ a, ls[i]? = some a ∧ H a = some (.lst q[i]) := by
  have e := rows_len h p
  have hi' : i < ls.length := by omega
  exact ⟨ls[i], by simp [hi'], rows_get h p (i := i) (by simp [hi']) (by simp [hi])⟩
theorem rows_set {ls : List Addr} {q : List (List V)} {L : List SA} {H : Hp} (h : Hd (rowsA ls q :: L) H) {i : Nat} {a : Addr} (h1 : ls[i]? = some a) (r : List V) : Hd (rowsA ls (q.set i r) :: L) (upd H a (.lst r)) := by
  refine h.chg (fun G z => ?_) fun G z => ?_
  · have hi : i < q.length := by
      rw [← z.2.1]
      exact (List.getElem?_eq_some_iff.mp h1).1
    exact ⟨_, z.2.2 i a q[i] h1 (by simp [hi]), fun z => z⟩
  · refine ⟨z.1, by rw [List.length_set]; exact z.2.1, fun j b s e1 e2 => ?_⟩
    by_cases e : j = i
    · subst e
      rw [h1] at e1
      cases e1
      have hj : j < q.length := by
        rw [← z.2.1]
        exact (List.getElem?_eq_some_iff.mp h1).1
      rw [List.getElem?_set_self hj] at e2
      cases e2
      exact upd_same
    · rw [List.getElem?_set_ne (Ne.symm e)] at e2
      have nb : b ≠ a := fun z2 => by
        subst z2
        exact e (nd_ix z.1 e1 h1)
      rw [upd_ne nb]
      exact z.2.2 j b s e1 e2
/-- a list of its own is no one of the rows -/
theorem rows_out {ls : List Addr} {q : List (List V)} {L : List SA} {H : Hp} {a : Addr} {r : List V} (h : Hd (pto a (.lst r) :: rowsA ls q :: L) H) : a ∉ ls := fun m => by
  obtain ⟨H1, H2, c, s1, s2, p, H3, H4, c2, s3, s4, p2, q2⟩ := h
  obtain ⟨i, hi, e⟩ := List.mem_iff_getElem.mp m
  have hq : i < q.length := by
    rw [← p2.2.1]
    exact hi
  have h3 := p2.2.2 i a q[i] (by rw [← e]; simp [hi]) (by simp [hq])
  exact (c a _ _ p (s3 _ _ h3)).2
theorem rows_snoc {ls : List Addr} {q : List (List V)} {L : List SA} {H : Hp} {a : Addr} {r : List V} (h : Hd (pto a (.lst r) :: rowsA ls q :: L) H) : Hd (rowsA (ls ++ [a]) (q ++ [r]) :: L) H := by
  have no := rows_out h
  refine Hd.join (up_pto _ _) (up_rows _ _) h fun G z1 z2 => ⟨?_, by simp [z2.2.1], fun i b s e1 e2 => ?_⟩
  · exact nd_snoc z2.1 no
  · by_cases hi : i < ls.length
    · rw [List.getElem?_append_left hi] at e1
      rw [List.getElem?_append_left (by rw [← z2.2.1]; exact hi)] at e2
      exact z2.2.2 i b s e1 e2
    · have hi2 : i < (ls ++ [a]).length := (List.getElem?_eq_some_iff.mp e1).1
      have hi3 : i = ls.length := by
        rw [List.length_append, List.length_singleton] at hi2
        omega
      subst hi3
      rw [List.getElem?_append_right (Nat.le_refl _), Nat.sub_self] at e1
      rw [z2.2.1, List.getElem?_append_right (Nat.le_refl _), Nat.sub_self] at e2
      cases e1
      cases e2
      exact z1
theorem nd_set : ∀ {ls : List Addr} {a : Addr} {i : Nat}, ls.Nodup → a ∉ ls → (ls.set i a).Nodup
  | [], _, _, h, _ => h
  | b :: r, a, 0, h, n => by
    rw [List.set_cons_zero]
    exact List.nodup_cons.mpr ⟨fun m => n (List.mem_cons_of_mem _ m), (List.nodup_cons.mp h).2⟩
  | b :: r, a, i + 1, h, n => by
    rw [List.set_cons_succ]
    refine List.nodup_cons.mpr ⟨fun m => ?_, nd_set (List.nodup_cons.mp h).2 fun m => n (List.mem_cons_of_mem _ m)⟩
    rcases List.mem_or_eq_of_mem_set m with m | m
    · exact (List.nodup_cons.mp h).1 m
    · exact n (by rw [m]; exact List.mem_cons_self)
/-- a row is exchanged for a list of its own -/
theorem rows_repl {ls : List Addr} {q : List (List V)} {L : List SA} {H : Hp} {a : Addr} {r : List V} {i : Nat} (h : Hd (pto a (.lst r) :: rowsA ls q :: L) H) : Hd (rowsA (ls.set i a) (q.set i r) :: L) H := by
  have no := rows_out h
  refine Hd.join (up_pto _ _) (up_rows _ _) h fun G z1 z2 => ⟨?_, by simp [z2.2.1], fun j b s e1 e2 => ?_⟩
  · exact nd_set z2.1 no
  · by_cases e : j = i
    · subst e
      have hj : j < ls.length := by
        have := (List.getElem?_eq_some_iff.mp e1).1
        rw [List.length_set] at this
        exact this
      rw [List.getElem?_set_self hj] at e1
      rw [List.getElem?_set_self (by rw [← z2.2.1]; exact hj)] at e2
      cases e1
      cases e2
      exact z1
    · rw [List.getElem?_set_ne (Ne.symm e)] at e1 e2
      exact z2.2.2 j b s e1 e2
/-! ### a dict of numbers by numbers -/
def dI (d : List (Int × Int)) : List (Key × V) := d.map fun e => (.inl e.1, .int e.2)
def getI (d : List (Int × Int)) (n : Int) : Option Int := (d.find? fun e => decide (e.1 = n)).map (·.2)
def putI (d : List (Int × Int)) (n l : Int) : List (Int × Int) := if d.any fun e => decide (e.1 = n) then d.map fun e => if e.1 = n then (e.1, l) else e else d ++ [(n, l)]
def dropI (d : List (Int × Int)) (n : Int) : List (Int × Int) := d.filter fun e => decide (e.1 ≠ n)
theorem dec_inl (a b : Int) : decide ((Sum.inl a : Key) = Sum.inl b) = decide (a = b) := by
  by_cases e : a = b
  · subst e
    simp
  · have h : ¬ (Sum.inl a : Key) = Sum.inl b := fun q => e (Sum.inl.inj q)
    rw [decide_eq_false h, decide_eq_false e]
theorem valV_dI (d : List (Int × Int)) (n : Int) : valV (dI d) (.inl n) = (getI d n).map V.int := by
  induction d with
  | nil => rfl
  | cons e r ih =>
    by_cases h : e.1 = n
    · rw [show dI (e :: r) = (.inl e.1, .int e.2) :: dI r from rfl, valV_pos (by rw [h])]
      simp [getI, List.find?_cons, h]
    · rw [show dI (e :: r) = (.inl e.1, .int e.2) :: dI r from rfl, valV_neg (fun q => h (Sum.inl.inj q)), ih]
      simp [getI, List.find?_cons, h]
theorem any_dI (d : List (Int × Int)) (n : Int) : ((dI d).any fun kv => decide (kv.1 = (Sum.inl n : Key))) = d.any fun e => decide (e.1 = n) := by
  unfold dI
  rw [List.any_map]
  congr 1
  funext e
  exact dec_inl _ _
theorem putK_dI (d : List (Int × Int)) (n l : Int) : putK (dI d) (.inl n) (.int l) = dI (putI d n l) := by
  unfold putK putI
  rw [any_dI]
  by_cases h : (d.any fun e => decide (e.1 = n)) = true
  · rw [if_pos h, if_pos h]
    unfold dI
    rw [List.map_map, List.map_map]
    congr 1
    funext e
    show (if (Sum.inl e.1 : Key) = Sum.inl n then _ else _) = _
    by_cases q : e.1 = n
    · rw [if_pos (by rw [q])]
      show _ = (Sum.inl (if e.1 = n then (e.1, l) else e).1, V.int (if e.1 = n then (e.1, l) else e).2)
      rw [if_pos q]
    · rw [if_neg (fun z => q (Sum.inl.inj z))]
      show _ = (Sum.inl (if e.1 = n then (e.1, l) else e).1, V.int (if e.1 = n then (e.1, l) else e).2)
      rw [if_neg q]
  · rw [if_neg h, if_neg h]
    unfold dI
    rw [List.map_append]
    rfl
theorem dropK_dI (d : List (Int × Int)) (n : Int) : dropK (dI d) (.inl n) = dI (dropI d n) := by
  unfold dropK dropI dI
  rw [List.filter_map]
  congr 1
  congr 1
  funext e
  by_cases q : e.1 = n
  · simp [q]
  · simp [q]
theorem getI_put (d : List (Int × Int)) (n m l : Int) : getI (putI d n l) m = if m = n then some l else getI d m := by
  have h := valV_put (dI d) (.inl n) (.inl m) (.int l)
  rw [putK_dI, valV_dI, valV_dI] at h
  by_cases e : m = n
  · subst e
    rw [if_pos rfl] at h ⊢
    cases q : getI (putI d m l) m with
    | none =>
      rw [q] at h
      cases h
    | some x =>
      rw [q] at h
      injection h with h
      injection h with h
      rw [h]
  · rw [if_neg (fun z => e (Sum.inl.inj z))] at h
    rw [if_neg e]
    cases q : getI (putI d n l) m <;> cases q2 : getI d m <;> rw [q, q2] at h <;> first | rfl | (cases h; done) | (injection h with h; injection h with h; rw [h])
theorem len_dI (d : List (Int × Int)) : (dI d).length = d.length := by
  unfold dI
  rw [List.length_map]
theorem len_putI (d : List (Int × Int)) (n l : Int) : (putI d n l).length ≤ d.length + 1 := by
  unfold putI
  split
  · rw [List.length_map]
    omega
  · simp
theorem len_dropI (d : List (Int × Int)) (n : Int) : (dropI d n).length ≤ d.length := List.length_filter_le _ _
theorem getI_drop (d : List (Int × Int)) (n m : Int) : getI (dropI d n) m = if m = n then none else getI d m := by
  induction d with
  | nil =>
    split <;> rfl
  | cons e r ih =>
    unfold dropI at ih ⊢
    by_cases h : e.1 = n
    · rw [List.filter_cons, if_neg (by simp [h]), ih]
      by_cases q : m = n
      · rw [if_pos q, if_pos q]
      · rw [if_neg q, if_neg q]
        simp only [getI, List.find?_cons]
        rw [decide_eq_false (fun z => q (z.symm.trans h))]
    · rw [List.filter_cons, if_pos (by simp [h])]
      by_cases q : e.1 = m
      · subst q
        rw [if_neg h]
        simp [getI, List.find?_cons]
      · have a1 : getI (e :: List.filter (fun e => decide (e.1 ≠ n)) r) m = getI (List.filter (fun e => decide (e.1 ≠ n)) r) m := by
          simp only [getI, List.find?_cons]
          rw [decide_eq_false q]
        have a2 : getI (e :: r) m = getI r m := by
          simp only [getI, List.find?_cons]
          rw [decide_eq_false q]
        rw [a1, a2, ih]
/-! ### more rules: objects within atoms -/
section
variable {K : PySem.W.Frag} {H : Hp} {Q : VK} {a c : Addr} {xs ys : List V} {y v : V} {i n : Int} {k : Nat} {N : Hp → Prop}
theorem r_appendX (h : H a = some (.lst xs)) (hl : xs.length < sizeLine) (q : Q .non (upd H a (.lst (xs ++ [y])))) : rAppend (.ref a) [y] H Q := ⟨a, xs, y, rfl, rfl, h, hl, q⟩
theorem r_extendX (h : H a = some (.lst xs)) (h2 : H c = some (.lst ys)) (hl : xs.length + ys.length ≤ sizeLine) (q : Q .non (upd H a (.lst (xs ++ ys)))) : rExtend (.ref a) [.ref c] H Q := ⟨a, c, xs, ys, rfl, rfl, h, h2, hl, q⟩
theorem r_setLX (h : H a = some (.lst xs)) (hk : k < xs.length) (q : N (upd H a (.lst (xs.set k v)))) : rSetU (.ref a) (.int (k : Int)) v H N := by
  refine .inl ⟨a, xs, (k : Int), k, rfl, rfl, h, ?_, q⟩
  unfold ixN
  rw [if_pos (Int.natCast_nonneg k), if_pos (by omega), Int.toNat_natCast]
theorem erase_at : ∀ {ns : List Int} {k : Int} {j : Nat}, ns[j]? = some k → (∀ m : Nat, m < j → ns[m]? ≠ some k) → ns.eraseIdx j = ns.erase k
  | [], _, _, h, _ => by simp at h
  | a :: r, k, 0, h, _ => by
    have e : a = k := Option.some.inj h
    subst e
    simp
  | a :: r, k, j + 1, h, hm => by
    have na : a ≠ k := fun e => hm 0 (Nat.succ_pos _) (by rw [e]; rfl)
    rw [List.eraseIdx_cons_succ, List.erase_cons_tail (by simpa using na), erase_at (ns := r) (k := k) (j := j) h fun m hl => hm (m + 1) (Nat.succ_lt_succ hl)]
theorem first_at : ∀ {ns : List Int} {k : Int}, k ∈ ns → ∃ j : Nat, ns[j]? = some k ∧ ∀ m : Nat, m < j → ns[m]? ≠ some k
  | a :: r, k, h => by
    by_cases e : a = k
    · exact ⟨0, by rw [e]; rfl, fun m hm => by omega⟩
    · obtain ⟨j, h1, h2⟩ := first_at (ns := r) ((List.mem_cons.mp h).resolve_left fun z => e z.symm)
      refine ⟨j + 1, h1, fun m hm => ?_⟩
      cases m with
      | zero => exact fun z => e (Option.some.inj z)
      | succ m => exact h2 m (by omega)
theorem r_removeX {ns : List Int} (h : H a = some (.lst (ns.map V.int))) (hm : n ∈ ns) (q : Q .non (upd H a (.lst ((ns.erase n).map V.int)))) : rRemI (.ref a) [.int n] H Q := by
  obtain ⟨j, h1, h2⟩ := first_at hm
  refine ⟨a, ns, n, j, rfl, rfl, h, h1, h2, ?_⟩
  rw [erase_at h1 h2]
  exact q
theorem r_popDX {kvs : List (Key × V)} (h : H a = some (.dK kvs)) (hv : valV kvs (.inl n) = some v) (q : Q v (upd H a (.dK (dropK kvs (.inl n))))) : ∃ kvs k v, H a = some (.dK kvs) ∧ V.int n = kV k ∧ valV kvs k = some v ∧ Q v (upd H a (.dK (dropK kvs k))) := ⟨kvs, .inl n, v, h, rfl, hv, q⟩
/-- a list of numbers against the empty one -/
theorem eqv_nil (ns : List Int) : PyData.eqv (.list (ns.map PyData.int)) (.list []) = ns.isEmpty := by
  cases ns with
  | nil => rfl
  | cons a r =>
    rw [PyData.eqv, List.map_cons]
    rfl
theorem r_neNil {ns : List Int} (h : SqL K H a (ns.map V.int)) (h2 : SqL K H c []) (q : Q (.bl (!ns.isEmpty)) H) : rNeU K (.ref a) (.ref c) H Q :=
  r_neD (.lst h (dp_ints ns)) (.lst h2 .nil) (sh_listI ns) (by decide) (by rw [eqv_nil]; exact q)
theorem r_eqNil {ns : List Int} (h : SqL K H a (ns.map V.int)) (h2 : SqL K H c []) (q : Q (.bl ns.isEmpty) H) : rEqU K (.ref a) (.ref c) H Q :=
  r_eqD (.lst h (dp_ints ns)) (.lst h2 .nil) (sh_listI ns) (by decide) (by rw [eqv_nil]; exact q)
end
/-! #### o.f += e -/
def AugF (a C : Addr) (f : Str) (N : Hp → Prop) (z : V) (H : Hp) : Prop := ∃ dx' fs', H a = some (.ins C dx' fs') ∧ fs'.length < 1000 ∧ N (upd H a (.ins C dx' (putF f z fs')))
def AugK (K : PySem.W.Frag) (tv : TE) (rd : V → V → Hp → VK → Prop) (f : Str) (σ : L2.St) (N : Hp → Prop) (x : V) (H : Hp) : Prop := ∃ a C dx fs v, x = .ref a ∧ H a = some (.ins C dx fs) ∧ Cls K C ∧ NoAttr K C f ∧ fs.lookup f = some v ∧
  tv σ H fun y H2 => rd v y H2 (AugF a C f N)
def KeysK (R : It → Hp → Prop) (x : V) (H : Hp) : Prop := ∃ d o, x = .ref d ∧ ((∃ kvs, H d = some (.frz o (.dK kvs)) ∧ R (Itk d o kvs) H) ∨ ∃ kvs, H d = some (.frz o (.dT kvs)) ∧ R (Itkt d o kvs) H)
def DPopK (a : Addr) (Q : VK) (y : V) (H : Hp) : Prop := ∃ kvs k v, H a = some (.dK kvs) ∧ y = kV k ∧ valV kvs k = some v ∧ Q v (upd H a (.dK (dropK kvs k)))
def UnlK (d : Addr) (o : Obj) (u : HO) (Q : VK) (v : V) (H : Hp) : Prop := H d = some (.frz o u) ∧ Q v (upd H d u)
section
variable {K : PySem.W.Frag} {σ : L2.St} {H : Hp} {D : Ends} {te ta tb tv : TE} {g : TG} {tt : TT} {Q : VK} {R : It → Hp → Prop} {v x y z : V} {i j n : Int} {L L' : List SA} {a d C dx : Addr} {o : Obj} {kvs : List (Key × V)} {vs : List Nat} {N : Hp → Prop}
theorem r_fldaug {rd : V → V → Hp → VK → Prop} {f : Str} (q : ta σ H (AugK K tv rd f σ (D.nx σ))) : sFldAug K ta tv rd f D σ H := q
theorem r_augK {rd : V → V → Hp → VK → Prop} {f : Str} {fs : List (Str × V)} (h : H a = some (.ins C dx fs)) (c : Cls K C) (nf : NoAttr K C f) (l : fs.lookup f = some v) (q : tv σ H fun y H2 => rd v y H2 (AugF a C f N)) : AugK K tv rd f σ N (.ref a) H := ⟨a, C, dx, fs, v, rfl, h, c, nf, l, q⟩
theorem r_augF {f : Str} {fs fs' : List (Str × V)} (hs : Hd L H) (p : Put (pto a (.ins C dx fs)) (pto a (.ins C dx fs')) L L') (e : putF f z fs = fs') (hl : fs.length < 1000) (q : ∀ H', Hd L' H' → N H') : AugF a C f N z H := by
  obtain ⟨M, pa, _⟩ := p.pulls
  subst e
  exact ⟨dx, fs, hs.get pa, hl, q _ (hs.set p (fun z => z))⟩
theorem r_aAdd (q : Q (.int (i + j)) H) : rAdd (.int i) (.int j) H Q := ⟨i, j, rfl, rfl, q⟩
theorem r_aSub (q : Q (.int (i - j)) H) : rSub (.int i) (.int j) H Q := ⟨i, j, rfl, rfl, q⟩
theorem r_keys (q : te σ H (KeysK R)) : iKeys te σ H R := q
theorem r_keysK (h : H d = some (.frz o (.dK kvs))) (q : R (Itk d o kvs) H) : KeysK R (.ref d) H := ⟨d, o, rfl, .inl ⟨kvs, h, q⟩⟩
theorem r_dpop1 (q : ta σ H (IsDK fun a H1 => tb σ H1 (DPopK a Q))) : tDPop1 ta tb σ H Q := q
theorem r_dpopK (hs : Hd L H) (p : Put (pto a (.dK kvs)) (pto a (.dK (dropK kvs (.inl n)))) L L') (hv : valV kvs (.inl n) = some v) (q : ∀ H', Hd L' H' → Q v H') : DPopK a Q (.int n) H := by
  obtain ⟨M, pa, _⟩ := p.pulls
  exact ⟨kvs, .inl n, v, hs.get pa, rfl, hv, q _ (hs.set p (fun z => z))⟩
theorem r_lock (hs : Hd (pto d (.dK kvs) :: L) H) (q : ∀ od H', Hd (pto d (.frz od (.dK kvs)) :: L) H' → te σ H' (UnlK d od (.dK kvs) Q)) : tLockE te σ H Q :=
  ⟨d, .dK kvs, hs.get .here, trivial, fun od => q od _ (hs.set .here fun z => z)⟩
theorem r_unl {u : HO} (hs : Hd L H) (p : Put (pto d (.frz o u)) (pto d u) L L') (q : ∀ H', Hd L' H' → Q v H') : UnlK d o u Q v H := by
  obtain ⟨M, pa, _⟩ := p.pulls
  exact ⟨hs.get pa, q _ (hs.set p fun z => z)⟩
theorem r_lcK (P : Addr → Nat → Hp → Prop) (hh : Hd L H) (h0 : ∀ D H', Hd (pto D (.lst []) :: L) H' → P D 0 H') (hl : ∀ D i H, i ≤ kvs.length → P D i H → H d = some (.frz o (.dK kvs)))
    (hs : ∀ D i k v H, kvs[i]? = some (k, v) → P D i H → g (kV k) (wipe σ vs) H fun σ2 H2 => wipe σ2 vs = wipe σ vs ∧ tt σ2 H2 fun b H3 => if b = true then te σ2 H3 (AppK D (P D (i + 1))) else P D (i + 1) H3)
    (hd : ∀ D H, P D kvs.length H → Q (.ref D) H) : LcK g tt te vs σ Q (Itk d o kvs) H :=
  r_lcW walk_keys P hh h0 hl (fun D i x H H' hi p y => by
    obtain ⟨e, k, v, y, ex⟩ := y
    subst e ex
    exact hs D i k v _ y p) hd
end
/-- dict(xs) of pairs -/
def rDictP (K : PySem.W.Frag) : List V → Hp → VK → Prop := fun xs H Q => ∃ (a : Addr) (ps : List Addr) (kvs : List (Key × V)), xs = [.ref a] ∧ SqL K H a (ps.map V.ref) ∧ Paired (fun p kv => SqT K H p [kV kv.1, kv.2]) ps kvs ∧
    ∀ p, H p = none → Q (.ref p) (upd H p (.dK (mergeK [] kvs)))
theorem k_dictP {X : Cx} {K : PySem.W.Frag} (h : X.K = K) (hc : X.calm = true) : CallR X (.type "dict") (rDictP K) := h ▸ call_dictP hc
/-- many pairs: a key and what stands for it, tuples at ps -/
def pairsA (ps : List Addr) (kvs : List (Key × V)) : SA := fun H => Paired (fun p kv => H p = some (.tup [kV kv.1, kv.2])) ps kvs
theorem pr_mono {α β : Type} {R S : α → β → Prop} (f : ∀ a b, R a b → S a b) {xs : List α} {ys : List β} (h : Paired R xs ys) : Paired S xs ys := by
  induction h with
  | nil => exact .nil
  | cons a _ ih => exact .cons (f _ _ a) ih
theorem pr_snoc {α β : Type} {R : α → β → Prop} {a : α} {b : β} {xs : List α} {ys : List β} (h : Paired R xs ys) (r : R a b) : Paired R (xs ++ [a]) (ys ++ [b]) := by
  induction h with
  | nil => exact .cons r .nil
  | cons a _ ih => exact .cons a ih
theorem up_pairs (ps : List Addr) (kvs : List (Key × V)) : Up (pairsA ps kvs) := fun _ _ s h => pr_mono (fun _ _ z => s _ _ z) h
theorem pairs_nil {L : List SA} {H : Hp} (h : Hd L H) : Hd (pairsA [] [] :: L) H := ⟨fun _ => none, H, fun _ _ _ h => (nomatch h), fun _ _ h => (nomatch h), Sub.refl _, .nil, h⟩
theorem pairs_snoc {L : List SA} {H : Hp} {t : Addr} {k : Key} {v : V} {ps : List Addr} {kvs : List (Key × V)} (h : Hd (pto t (.tup [kV k, v]) :: pairsA ps kvs :: L) H) : Hd (pairsA (ps ++ [t]) (kvs ++ [(k, v)]) :: L) H :=
  Hd.join (up_pto _ _) (up_pairs _ _) h fun _ z1 z2 => pr_snoc z2 z1
theorem r_dictP {K : PySem.W.Frag} {H : Hp} {Q : VK} {a : Addr} {ps : List Addr} {kvs : List (Key × V)} {L L' : List SA} (hs : Hd L H) (h : SqL K H a (ps.map V.ref)) (p : Pull (pairsA ps kvs) L L') (q : ∀ p H', Hd (pto p (.dK (mergeK [] kvs)) :: L) H' → Q (.ref p) H') : rDictP K [.ref a] H Q :=
  ⟨a, ps, kvs, rfl, h, pr_mono (fun _ _ z => SqT.of z) (hs.at (up_pairs ps kvs) p), fun p n => q p _ (hs.new n)⟩
end Sl

set_option maxRecDepth 100000
set_option maxHeartbeats 1000000
namespace Sl
open PySem L2
/-! ### turns -/
def mI (a b : List (Int × Int)) : List (Int × Int) := b.foldl (fun acc e => putI acc e.1 e.2) a
theorem mergeK_dI : ∀ (b a : List (Int × Int)), mergeK (dI a) (dI b) = dI (mI a b)
  | [], _ => rfl
  | e :: r, a => by
    show mergeK (putK (dI a) (.inl e.1) (.int e.2)) (dI r) = dI (mI (putI a e.1 e.2) r)
    rw [putK_dI]
    exact mergeK_dI r _
def zI (d : List (Int × Int)) : List (Int × Int) := mI [] (d.map fun e => (e.1, 0))
theorem len_mI : ∀ (b a : List (Int × Int)), (mI a b).length ≤ a.length + b.length
  | [], a => by simp [mI]
  | e :: r, a => by
    have h := len_mI r (putI a e.1 e.2)
    have h2 := len_putI a e.1 e.2
    show (mI (putI a e.1 e.2) r).length ≤ _
    rw [List.length_cons]
    omega
theorem len_zI (d : List (Int × Int)) : (zI d).length ≤ d.length := by
  have h := len_mI (d.map fun e => (e.1, (0 : Int))) []
  rw [List.length_map] at h
  simpa [zI] using h
theorem getI_cons (e : Int × Int) (r : List (Int × Int)) (m : Int) : getI (e :: r) m = if e.1 = m then some e.2 else getI r m := by
  by_cases h : e.1 = m
  · rw [if_pos h]
    simp [getI, h]
  · rw [if_neg h]
    simp [getI, h]
theorem getI_mz : ∀ (d a : List (Int × Int)) (m : Int), getI (mI a (d.map fun e => (e.1, 0))) m = if (getI d m).isSome then some 0 else getI a m
  | [], _, _ => rfl
  | e :: r, a, m => by
    show getI (mI (putI a e.1 0) (r.map fun e => (e.1, 0))) m = _
    rw [getI_mz r, getI_put, getI_cons]
    by_cases h : e.1 = m
    · rw [if_pos h, if_pos h.symm]
      simp
    · rw [if_neg h, if_neg (show ¬ m = e.1 from fun z => h z.symm)]
theorem getI_z (d : List (Int × Int)) (m : Int) : getI (zI d) m = (getI d m).map fun _ => 0 := by
  unfold zI
  rw [getI_mz]
  cases getI d m <;> rfl
structure TU where
  q : List (List Int)
  dep : List (Int × Int)
  runs : Option Int
  rest : Int
  steps : Int
def runV : Option Int → V
  | none => .non
  | some n => .int n
def sliceOf (l : Nat) : Int := [2, 4, 8, 16].getD l 0
namespace TU
def new : TU := ⟨[[], [], [], []], [], none, 0, 0⟩
def row (u : TU) (l : Nat) : List Int := u.q.getD l []
def stand (u : TU) (n : Int) (l : Nat) : TU := { u with q := u.q.set l (u.row l ++ [n]), dep := putI u.dep n l }
def over (u : TU) (n : Int) (l : Nat) : TU := { u with q := u.q.set l ((u.row l).erase n), runs := none, rest := 0 }
def lev (u : TU) (n : Int) : Nat := ((getI u.dep n).getD 0).toNat
def next (u : TU) : TU := match u.runs with
  | some _ => u
  | none => match u.q.flatten.head? with
    | none => { u with rest := 0 }
    | some n => { u with runs := some n, rest := sliceOf (u.lev n) }
def lift (u : TU) : TU := ⟨[u.q.flatten, [], [], []], zI u.dep, none, 0, u.steps + 1⟩
def counted (u : TU) : TU := if (u.steps + 1) % 64 > 0 then { u with steps := u.steps + 1 } else u.lift
def wentN (u : TU) (n : Int) : TU := if u.rest - 1 = 0 then ((u.over n (u.lev n)).stand n (min 3 (u.lev n + 1))) else { u with rest := u.rest - 1 }
def passN (u : TU) (n : Int) : TU := (u.over n (u.lev n)).stand n (u.lev n)
def waitN (u : TU) (n : Int) : TU := u.over n (u.lev n)
def endN (u : TU) (n : Int) : TU := { u.over n (u.lev n) with dep := dropI u.dep n }
/-- all is as it should be -/
structure Ok (u : TU) : Prop where
  four : u.q.length = 4
  at_ : ∀ (l : Nat) (r : List Int) (n : Int), u.q[l]? = some r → n ∈ r → getI u.dep n = some (l : Int)
  lv : ∀ n l, getI u.dep n = some l → 0 ≤ l ∧ l < 4
  run : ∀ n, u.runs = some n → n ∈ u.q.flatten ∧ 1 ≤ u.rest
  nd : u.q.flatten.Nodup
end TU
/-! #### rows and their sum -/
theorem fl_snoc : ∀ {q : List (List Int)} {l : Nat} {r : List Int} {n : Int}, q[l]? = some r → (q.set l (r ++ [n])).flatten.Perm (n :: q.flatten)
  | [], _, _, _, h => by simp at h
  | a :: q, 0, r, n, h => by
    have e : a = r := Option.some.inj h
    subst e
    rw [List.set_cons_zero, List.flatten_cons, List.flatten_cons, List.append_assoc]
    exact List.perm_middle
  | a :: q, l + 1, r, n, h => by
    rw [List.set_cons_succ, List.flatten_cons, List.flatten_cons]
    exact (List.Perm.append_left a (fl_snoc (q := q) (l := l) h)).trans List.perm_middle
theorem fl_erase : ∀ {q : List (List Int)} {l : Nat} {r : List Int} {n : Int}, q[l]? = some r → n ∈ r → (n :: (q.set l (r.erase n)).flatten).Perm q.flatten
  | [], _, _, _, h, _ => by simp at h
  | a :: q, 0, r, n, h, m => by
    have e : a = r := Option.some.inj h
    subst e
    rw [List.set_cons_zero, List.flatten_cons, List.flatten_cons]
    exact (List.Perm.append_right _ (List.perm_cons_erase m).symm : ((n :: a.erase n) ++ _).Perm _)
  | a :: q, l + 1, r, n, h, m => by
    rw [List.set_cons_succ, List.flatten_cons, List.flatten_cons]
    exact (List.perm_middle.symm).trans (List.Perm.append_left a (fl_erase (q := q) (l := l) h m))
theorem row_at {u : TU} {l : Nat} {r : List Int} (h : u.q[l]? = some r) : u.row l = r := by
  unfold TU.row
  rw [List.getD_eq_getElem?_getD, h]
  rfl
theorem mem_fl {q : List (List Int)} {l : Nat} {r : List Int} {n : Int} (h : q[l]? = some r) (m : n ∈ r) : n ∈ q.flatten := List.mem_flatten.mpr ⟨r, List.mem_of_getElem? h, m⟩
theorem of_fl {q : List (List Int)} {n : Int} (m : n ∈ q.flatten) : ∃ (l : Nat) (r : List Int), q[l]? = some r ∧ n ∈ r := by
  obtain ⟨r, hr, hn⟩ := List.mem_flatten.mp m
  obtain ⟨l, hl⟩ := List.mem_iff_getElem?.mp hr
  exact ⟨l, r, hl, hn⟩
theorem len_row : ∀ {q : List (List Int)} {l : Nat} {r : List Int}, q[l]? = some r → r.length ≤ q.flatten.length
  | [], _, _, h => by simp at h
  | a :: q, 0, r, h => by
    have e : a = r := Option.some.inj h
    subst e
    rw [List.flatten_cons, List.length_append]
    omega
  | a :: q, l + 1, r, h => by
    have := len_row (q := q) (l := l) h
    rw [List.flatten_cons, List.length_append]
    omega
def rowsV (q : List (List Int)) : List (List V) := q.map fun r => r.map V.int
theorem rows_in {ls : List Addr} {q : List (List Int)} {L L' : List SA} {H : Hp} (h : Hd L H) (p : Pull (rowsA ls (rowsV q)) L L') {l : Nat} {r : List Int} (e : q[l]? = some r) : ∃ a, ls[l]? = some a ∧ H a = some (.lst (r.map V.int)) := by
  have hl : l < (rowsV q).length := by
    rw [rowsV, List.length_map]
    exact (List.getElem?_eq_some_iff.mp e).1
  obtain ⟨a, h1, h2⟩ := rows_at h p (i := l) hl
  refine ⟨a, h1, ?_⟩
  rw [h2]
  congr 2
  obtain ⟨hq, e⟩ := List.getElem?_eq_some_iff.mp e
  simp [rowsV, e]
theorem rows_put {ls : List Addr} {q : List (List Int)} {L : List SA} {H : Hp} (h : Hd (rowsA ls (rowsV q) :: L) H) {l : Nat} {a : Addr} (e : ls[l]? = some a) (r : List Int) : Hd (rowsA ls (rowsV (q.set l r)) :: L) (upd H a (.lst (r.map V.int))) := by
  have z := rows_set h e (r.map V.int)
  have e2 : (rowsV q).set l (r.map V.int) = rowsV (q.set l r) := by simp [rowsV, List.map_set]
  rw [e2] at z
  exact z
theorem rows_count {ls : List Addr} {q : List (List Int)} {L L' : List SA} {H : Hp} (h : Hd L H) (p : Pull (rowsA ls (rowsV q)) L L') : ls.length = q.length := by
  rw [rows_len h p, rowsV, List.length_map]
theorem atI_ref {ls : List Addr} {l : Nat} {a : Addr} (e : ls[l]? = some a) : atI (ls.map V.ref) (l : Int) = some (.ref a) := atI_nat (by simp [e])
theorem rows_cons {ls : List Addr} {q : List (List V)} {L : List SA} {H : Hp} {a : Addr} {r : List V} (h : Hd (pto a (.lst r) :: rowsA ls q :: L) H) : Hd (rowsA (a :: ls) (r :: q) :: L) H := by
  have no := rows_out h
  refine Hd.join (up_pto _ _) (up_rows _ _) h fun G z1 z2 => ⟨List.nodup_cons.mpr ⟨no, z2.1⟩, by simp [z2.2.1], fun i b s e1 e2 => ?_⟩
  cases i with
  | zero =>
    cases e1
    cases e2
    exact z1
  | succ i => exact z2.2.2 i b s e1 e2
theorem head_fl : ∀ {q : List (List Int)} {i : Nat} {h : Int} {t : List Int}, (∀ j : Nat, j < i → q[j]? = some []) → q[i]? = some (h :: t) → q.flatten.head? = some h
  | [], _, _, _, _, e => by simp at e
  | a :: q, 0, h, t, _, e => by
    have e := Option.some.inj e
    rw [e]
    rfl
  | a :: q, i + 1, h, t, z, e => by
    have e0 : a = [] := Option.some.inj (z 0 (Nat.succ_pos _))
    rw [e0]
    exact head_fl (q := q) (i := i) (fun j hj => z (j + 1) (by omega)) e
theorem none_fl : ∀ {q : List (List Int)}, (∀ j : Nat, j < q.length → q[j]? = some []) → q.flatten = []
  | [], _ => rfl
  | a :: q, z => by
    have e0 : a = [] := Option.some.inj (z 0 (Nat.succ_pos _))
    rw [e0]
    exact none_fl (q := q) fun j hj => z (j + 1) (by rw [List.length_cons]; omega)
theorem take_fl {q : List (List Int)} {i : Nat} {r : List Int} (e : q[i]? = some r) : (q.take i).flatten ++ r = (q.take (i + 1)).flatten := by
  rw [List.take_add_one, e, List.flatten_append]
  simp
theorem len_take_fl (q : List (List Int)) (i : Nat) : (q.take i).flatten.length ≤ q.flatten.length := by
  have : q.flatten = (q.take i).flatten ++ (q.drop i).flatten := by rw [← List.flatten_append, List.take_append_drop]
  rw [this, List.length_append]
  omega
theorem sl_at {l : Nat} (h : l < 4) : atI [V.int 2, V.int 4, V.int 8, V.int 16] (l : Int) = some (V.int (sliceOf l)) := by
  have e : l = 0 ∨ l = 1 ∨ l = 2 ∨ l = 3 := by omega
  rcases e with rfl | rfl | rfl | rfl <;> rfl
theorem lev_at {u : TU} {n : Int} {l : Nat} (h : getI u.dep n = some (l : Int)) : u.lev n = l := by
  unfold TU.lev
  rw [h]
  rfl
theorem len_over {u : TU} {n : Int} {l : Nat} {r : List Int} (h : u.q[l]? = some r) (m : n ∈ r) : (u.over n l).q.flatten.length + 1 = u.q.flatten.length := by
  have := (fl_erase h m).length_eq
  rw [List.length_cons] at this
  unfold TU.over
  rw [row_at h]
  exact this
theorem len_stand {u : TU} {n : Int} {l : Nat} (h : l < u.q.length) : (u.stand n l).q.flatten.length = u.q.flatten.length + 1 := by
  have hr : u.q[l]? = some u.q[l] := by simp [h]
  have := (fl_snoc (n := n) hr).length_eq
  rw [List.length_cons] at this
  unfold TU.stand
  rw [row_at hr]
  exact this
theorem four_over {u : TU} {n : Int} {l : Nat} : (u.over n l).q.length = u.q.length := List.length_set
theorem four_stand {u : TU} {n : Int} {l : Nat} : (u.stand n l).q.length = u.q.length := List.length_set
end Sl

set_option maxRecDepth 100000
set_option maxHeartbeats 1000000
namespace Sl
open PySem L2 PyProof PyProof.Rows
/-! ### x[i] op= e -/
/-- an item of a list at a place from the front -/
def rGetL (K : PySem.W.Frag) : V → V → Hp → VK → Prop := fun x y H Q => ∃ p xs i z, x = V.ref p ∧ y = .int i ∧ 0 ≤ i ∧ SqL K H p xs ∧ atI xs i = some z ∧ Q z H
theorem get_list {X : Cx} : PGet X (rGetL X.K) := by
  intro pins s σ H x y v u Q I rx ry h
  obtain ⟨p, xs, i, z, rfl, rfl, h0, hq, he, q⟩ := h
  cases rx
  obtain ⟨t, rfl⟩ := ry
  obtain ⟨its, r, pl, hz⟩ := I.list hq
  obtain ⟨j, h1, h2, h3, h4, h5⟩ := atI_get he
  obtain ⟨w, ew, rw'⟩ := r.get h2
  have hl := r.length
  have hn := line63
  have fin : EP X pins σ Q w s := ⟨z, H, I, rw', q⟩
  have hj : i.toNat = j := by
    rw [seqIndex_of h0 h5] at h1
    exact Option.some.inj h1
  exact wpAny_getItem_list pl.isList h0 (by omega) (by rw [hj]; simpa using ew) fin
theorem k_getL {X : Cx} {K : PySem.W.Frag} (h : X.K = K) : PGet X (rGetL K) := h ▸ get_list
section
variable {K : PySem.W.Frag} {σ : L2.St} {H : Hp} {D : Ends} {to ti te : TE} {Q : VK} {i j : Int} {a : Addr} {xs : List V} {z : V}
theorem r_augS {tget : V → V → Hp → VK → Prop} {tip : TIp} {tset : TSet} (q : to σ H fun o H1 => ti σ H1 fun i H2 => tget o i H2 fun x H3 => te σ H3 fun y H4 => tip x y H4 fun z H5 => tset o i z H5 fun H6 => D.nx σ H6) : tAugS to ti te tget tip tset D σ H := q
theorem r_ipI {f : Int → Int → Int} (q : Q (.int (f i j)) H) : ipI f (.int i) (.int j) H Q := ⟨i, j, rfl, rfl, q⟩
theorem r_getL (h : SqL K H a xs) (h0 : 0 ≤ i) (hi : atI xs i = some z) (q : Q z H) : rGetL K (.ref a) (.int i) H Q := ⟨a, xs, i, z, rfl, rfl, h0, h, hi, q⟩
theorem r_setLH {L L' : List SA} {N : Hp → Prop} {n : Nat} {v : V} (hs : Hd L H) (p : Put (pto a (.lst xs)) (pto a (.lst (xs.set n v))) L L') (hn : n < xs.length) (q : ∀ H', Hd L' H' → N H') : rSetU (.ref a) (.int (n : Int)) v H N := r_setL hs p hn q
end
/-! ### chains -/
def ChK (tc : TE) (r' : R2) (y : V) (σ : L2.St) (Q : VK) (z : V) (H : Hp) : Prop := ∃ k, z = .bl k ∧ (if k = true then tc σ H fun w' H4 => r' y w' H4 Q else Q (.bl false) H)
section
variable {σ : L2.St} {H : Hp} {ta tb tc : TE} {r r' : R2} {Q : VK} {b : Bool} {y : V}
theorem r_chain (q : ta σ H fun x H1 => tb σ H1 fun y H2 => r x y H2 (ChK tc r' y σ Q)) : tChain r r' ta tb tc σ H Q := q
theorem r_chK (q : if b = true then tc σ H fun w' H4 => r' y w' H4 Q else Q (.bl false) H) : ChK tc r' y σ Q (.bl b) H := ⟨b, rfl, q⟩
end
/-! ### the first place of a number -/
theorem r_indexI {K : PySem.W.Frag} {H : Hp} {Q : VK} {a : Addr} {ns : List Int} {n : Int} (h : SqL K H a (ns.map V.int)) (hm : n ∈ ns) (q : ∀ j : Nat, ns[j]? = some n → (∀ m : Nat, m < j → ns[m]? ≠ some n) → Q (.int (j : Nat)) H) : rIndex K (.ref a) [.int n] H Q := by
  obtain ⟨j, h1, h2⟩ := first_at hm
  refine ⟨a, ns.map V.int, .int n, j, .int n, rfl, rfl, h, rfl, flat_ints ns, by simp [h1], by simp [eqV], fun m z hm2 hz => ?_, q j h1 h2⟩
  rw [List.getElem?_map] at hz
  obtain ⟨k, hk, rfl⟩ := Option.map_eq_some_iff.mp hz
  have ne : k ≠ n := fun e => h2 m hm2 (by rw [hk, e])
  simp [eqV, ne]
theorem inV_ints (n : Int) (ns : List Int) : inV (.int n) (ns.map V.int) = decide (n ∈ ns) := by
  unfold inV
  rw [List.any_map]
  by_cases m : n ∈ ns
  · rw [decide_eq_true m, List.any_eq_true]
    exact ⟨n, m, by simp [eqV]⟩
  · rw [decide_eq_false m, List.any_eq_false]
    intro k hk
    have ne : k ≠ n := fun e => m (e ▸ hk)
    simp [eqV, ne]
/-! ### lists at addresses, or none -/
def orA (xs : List V) (ws : List (Option (List Int))) : SA := fun H => xs.length = ws.length ∧ ∀ (i : Nat) w, ws[i]? = some w → match w with
  | none => xs[i]? = some .non
  | some r => ∃ a, xs[i]? = some (.ref a) ∧ H a = some (.lst (r.map V.int))
theorem up_or (xs : List V) (ws : List (Option (List Int))) : Up (orA xs ws) := fun _ _ s h => ⟨h.1, fun i w e => by
  have z := h.2 i w e
  cases w with
  | none => exact z
  | some r =>
    obtain ⟨a, z1, z2⟩ := z
    exact ⟨a, z1, s _ _ z2⟩⟩
theorem or_nones {L : List SA} {H : Hp} (h : Hd L H) (n : Nat) : Hd (orA (List.replicate n .non) (List.replicate n none) :: L) H := by
  refine ⟨fun _ => none, H, fun _ _ _ h => (nomatch h), fun _ _ h => (nomatch h), Sub.refl _, ⟨by simp, fun i w e => ?_⟩, h⟩
  rw [List.getElem?_replicate] at e ⊢
  split at e
  · cases e
    rename_i hi
    show (if i < n then some V.non else none) = some .non
    rw [if_pos hi]
  · cases e
theorem or_len {xs : List V} {ws : List (Option (List Int))} {L L' : List SA} {H : Hp} (h : Hd L H) (p : Pull (orA xs ws) L L') : xs.length = ws.length := (h.at (up_or xs ws) p).1
theorem or_at {xs : List V} {ws : List (Option (List Int))} {L L' : List SA} {H : Hp} (h : Hd L H) (p : Pull (orA xs ws) L L') {i : Nat} {r : List Int} (e : ws[i]? = some (some r)) : ∃ a, xs[i]? = some (.ref a) ∧ H a = some (.lst (r.map V.int)) := (h.at (up_or xs ws) p).2 i _ e
theorem or_set {xs : List V} {ws : List (Option (List Int))} {L : List SA} {H : Hp} {a : Addr} {r : List Int} {i : Nat} (h : Hd (pto a (.lst (r.map V.int)) :: orA xs ws :: L) H) (hi : i < ws.length) : Hd (orA (xs.set i (.ref a)) (ws.set i (some r)) :: L) H := by
  refine Hd.join (up_pto _ _) (up_or _ _) h fun G z1 z2 => ⟨by simp [z2.1], fun j w e => ?_⟩
  by_cases q : j = i
  · subst q
    rw [List.getElem?_set_self hi] at e
    cases e
    exact ⟨a, List.getElem?_set_self (by rw [z2.1]; exact hi), z1⟩
  · rw [List.getElem?_set_ne (Ne.symm q)] at e
    rw [List.getElem?_set_ne (Ne.symm q)]
    exact z2.2 j w e
theorem or_snoc {xs : List V} {ws : List (Option (List Int))} {L : List SA} {H : Hp} {a : Addr} {r : List Int} (h : Hd (pto a (.lst (r.map V.int)) :: orA xs ws :: L) H) : Hd (orA (xs ++ [.ref a]) (ws ++ [some r]) :: L) H := by
  refine Hd.join (up_pto _ _) (up_or _ _) h fun G z1 z2 => ⟨by simp [z2.1], fun j w e => ?_⟩
  by_cases q : j < ws.length
  · rw [List.getElem?_append_left q] at e
    rw [List.getElem?_append_left (by rw [z2.1]; exact q)]
    exact z2.2 j w e
  · have hj : j < (ws ++ [some r]).length := (List.getElem?_eq_some_iff.mp e).1
    have ej : j = ws.length := by
      rw [List.length_append, List.length_singleton] at hj
      omega
    subst ej
    rw [List.getElem?_append_right (Nat.le_refl _), Nat.sub_self] at e
    cases e
    exact ⟨a, by rw [List.getElem?_append_right (Nat.le_of_eq z2.1), z2.1, Nat.sub_self]; rfl, z1⟩
end Sl

set_option maxRecDepth 100000
set_option maxHeartbeats 1000000
namespace Sl
open PySem L2
/-! ### comprehensions whose turns change nothing else -/
section
variable {K : PySem.W.Frag} {σ : L2.St} {H : Hp} {te : TE} {tt : TT} {g : TG} {Q : VK} {L : List SA} {a : Addr} {vs : List Nat}
/-- over values -/
theorem r_lcV (xs : List V) (p : V → Bool) (f : V → V) (hh : Hd L H) (hz : xs.length < 100000) (hl : ∀ H, Hd L H → SqL K H a xs)
    (step : ∀ (D : Addr) (acc : List V) (x : V) H (N : V → Hp → Prop) (M : Hp → Prop), x ∈ xs → Hd (pto D (.lst acc) :: L) H → (p x = true → N (f x) H) → (p x = false → M H) →
      g x (wipe σ vs) H fun σ2 H2 => wipe σ2 vs = wipe σ vs ∧ tt σ2 H2 fun b H3 => if b = true then te σ2 H3 N else M H3)
    (hd : ∀ D H, Hd (pto D (.lst ((xs.filter p).map f)) :: L) H → Q (.ref D) H) : LcK g tt te vs σ Q (Itl K a) H := by
  refine r_lcL xs (fun D i H => Hd (pto D (.lst (((xs.take i).filter p).map f)) :: L) H) hh (fun D H h => h) (fun D i H _ h => hl H h.tl) (fun D i x H hx h => ?_) (fun D H h => ?_)
  · have e : xs.take (i + 1) = xs.take i ++ [x] := by rw [List.take_add_one, hx]; rfl
    refine step D _ x H _ _ (List.mem_of_getElem? hx) h (fun pt => ?_) (fun pf => ?_)
    · refine ⟨_, h.get .here, ?_, ?_⟩
      · refine szlt ?_
        rw [List.length_map]
        exact Nat.lt_of_le_of_lt (List.length_filter_le _ _) (Nat.lt_of_le_of_lt (List.length_take_le' _ _) (by omega))
      · rw [e, List.filter_append, List.map_append, List.filter_cons, if_pos pt]
        exact h.set .here fun z => z
    · rw [e, List.filter_append, List.filter_cons, if_neg (by rw [pf]; exact Bool.false_ne_true)]
      simpa using h
  · rw [List.take_length] at h
    exact hd D H h
/-- over numbers -/
theorem r_lcI (ns : List Int) (p : Int → Bool) (f : Int → V) (hh : Hd L H) (hz : ns.length < 100000) (hl : ∀ H, Hd L H → SqL K H a (ns.map V.int))
    (step : ∀ (D : Addr) (acc : List V) (n : Int) H (N : V → Hp → Prop) (M : Hp → Prop), n ∈ ns → Hd (pto D (.lst acc) :: L) H → (p n = true → N (f n) H) → (p n = false → M H) →
      g (.int n) (wipe σ vs) H fun σ2 H2 => wipe σ2 vs = wipe σ vs ∧ tt σ2 H2 fun b H3 => if b = true then te σ2 H3 N else M H3)
    (hd : ∀ D H, Hd (pto D (.lst ((ns.filter p).map f)) :: L) H → Q (.ref D) H) : LcK g tt te vs σ Q (Itl K a) H := by
  refine r_lcL (ns.map V.int) (fun D i H => Hd (pto D (.lst (((ns.take i).filter p).map f)) :: L) H) hh (fun D H h => h) (fun D i H _ h => hl H h.tl) (fun D i x H hx h => ?_) (fun D H h => ?_)
  · rw [List.getElem?_map] at hx
    obtain ⟨n, hx2, rfl⟩ := Option.map_eq_some_iff.mp hx
    have e : ns.take (i + 1) = ns.take i ++ [n] := by rw [List.take_add_one, hx2]; rfl
    refine step D _ n H _ _ (List.mem_of_getElem? hx2) h (fun pt => ?_) (fun pf => ?_)
    · refine ⟨_, h.get .here, ?_, ?_⟩
      · refine szlt ?_
        rw [List.length_map]
        exact Nat.lt_of_le_of_lt (List.length_filter_le _ _) (Nat.lt_of_le_of_lt (List.length_take_le' _ _) (by omega))
      · rw [e, List.filter_append, List.map_append, List.filter_cons, if_pos pt]
        exact h.set .here fun z => z
    · rw [e, List.filter_append, List.filter_cons, if_neg (by rw [pf]; exact Bool.false_ne_true)]
      simpa using h
  · rw [List.length_map, List.take_length] at h
    exact hd D H h
/-- over a range -/
theorem r_lcN {lo : Int} {n : Nat} (p : Nat → Bool) (f : Nat → V) (hh : Hd L H) (hz : n < 100000)
    (step : ∀ (D : Addr) (acc : List V) (i : Nat) H (N : V → Hp → Prop) (M : Hp → Prop), i < n → Hd (pto D (.lst acc) :: L) H → (p i = true → N (f i) H) → (p i = false → M H) →
      g (.int (lo + (i : Nat))) (wipe σ vs) H fun σ2 H2 => wipe σ2 vs = wipe σ vs ∧ tt σ2 H2 fun b H3 => if b = true then te σ2 H3 N else M H3)
    (hd : ∀ D H, Hd (pto D (.lst (((List.range n).filter p).map f)) :: L) H → Q (.ref D) H) : LcK g tt te vs σ Q (Itr lo n) H := by
  refine r_lcR (fun D i H => Hd (pto D (.lst (((List.range i).filter p).map f)) :: L) H) hh (fun D H h => h) (fun D i H hi h => ?_) hd
  refine step D _ i H _ _ hi h (fun pt => ?_) (fun pf => ?_)
  · refine ⟨_, h.get .here, ?_, ?_⟩
    · refine szlt ?_
      rw [List.length_map]
      exact Nat.lt_of_le_of_lt (List.length_filter_le _ _) (by rw [List.length_range]; omega)
    · rw [List.range_succ, List.filter_append, List.map_append, List.filter_cons, if_pos pt]
      exact h.set .here fun z => z
  · rw [List.range_succ, List.filter_append, List.filter_cons, if_neg (by rw [pf]; exact Bool.false_ne_true)]
    simpa using h
end
theorem r_rem {H : Hp} {Q : VK} {L L' : List SA} {a : Addr} {ns : List Int} {n : Int} (hs : Hd L H) (p : Put (pto a (.lst (ns.map V.int))) (pto a (.lst ((ns.erase n).map V.int))) L L') (hm : n ∈ ns) (q : ∀ H', Hd L' H' → Q .non H') : rRemI (.ref a) [.int n] H Q := by
  obtain ⟨M, pa, _⟩ := p.pulls
  exact r_removeX (hs.get pa) hm (q _ (hs.set p fun z => z))
theorem mI_snoc (ns : List Int) (n : Int) : ns.map V.int ++ [V.int n] = (ns ++ [n]).map V.int := by simp
theorem r_join {B : Prop} {R : Hp → Prop} (P : Hp → Prop) (f : (∀ H, P H → R H) → B) (a : ∀ H, P H → R H) : B := f a
end Sl

set_option maxRecDepth 100000
set_option maxHeartbeats 1000000
namespace Sl
open PySem L2
/-! ### while; two at once; rows as data -/
def WhK (W : Nat → L2.St → Hp → Prop) (m : Nat) (tb : TS) (D : Ends) (σ : L2.St) (H : Hp) : Prop := ∃ N : L2.St → Hp → Prop, (∀ σ' H', N σ' H' → ∃ m', m' < m ∧ W m' σ' H') ∧ tb { D with nx := N, ct := N, bk := D.nx } σ H
def ParK (i j : Nat) (D : Ends) (σ : L2.St) (vs : List V) (H : Hp) : Prop := ∃ v w, vs = [v, w] ∧ D.nx ((σ.set i (some v)).set j (some w)) H
section
variable {K : PySem.W.Frag} {σ : L2.St} {H : Hp} {D : Ends} {tb : TS} {c : TT} {tr : TA} {v w : V} {i j : Nat}
theorem r_while (W : Nat → L2.St → Hp → Prop) (m0 : Nat) (h0 : W m0 σ H) (hs : ∀ m σ H, W m σ H → c σ H fun b H1 => if b = true then WhK W m tb D σ H1 else D.nx σ H1) : tWhile c tb D σ H := ⟨W, ⟨m0, h0⟩, hs⟩
theorem r_whK {W : Nat → L2.St → Hp → Prop} {m : Nat} (q : tb { D with nx := fun σ' H' => ∃ m', m' < m ∧ W m' σ' H', ct := fun σ' H' => ∃ m', m' < m ∧ W m' σ' H', bk := D.nx } σ H) : WhK W m tb D σ H := ⟨_, fun _ _ z => z, q⟩
theorem r_par2 (q : tr σ H (ParK i j D σ)) : tPar i j tr D σ H := q
theorem r_parK (q : D.nx ((σ.set i (some v)).set j (some w)) H) : ParK i j D σ [v, w] H := ⟨v, w, rfl, q⟩
end
def rowD (r : List Int) : PyData := .list (r.map PyData.int)
theorem dp_rowD {K : PySem.W.Frag} {H : Hp} {t : Addr} {ws : List Int} (h : SqL K H t (ws.map V.int)) : Dp K H (.ref t) (rowD ws) := .lst h (dp_ints ws)
theorem dp_rowAll {K : PySem.W.Frag} {H : Hp} : ∀ {ls : List Addr} {q : List (List Int)}, ls.length = q.length → (∀ (i : Nat) a r, ls[i]? = some a → q[i]? = some r → SqL K H a (r.map V.int)) → DpAll K H (ls.map V.ref) (q.map rowD)
  | [], [], _, _ => .nil
  | [], _ :: _, h, _ => nomatch h
  | _ :: _, [], h, _ => nomatch h
  | a :: ls, r :: q, h, f => .cons (dp_rowD (f 0 a r rfl rfl)) (dp_rowAll (Nat.succ.inj h) fun i b s e1 e2 => f (i + 1) b s e1 e2)
theorem dp_rows {K : PySem.W.Frag} {H : Hp} {ls : List Addr} {q : List (List Int)} {L L' : List SA} (h : Hd L H) (p : Pull (rowsA ls (rowsV q)) L L') : DpAll K H (ls.map V.ref) (q.map rowD) := by
  refine dp_rowAll (rows_count h p) fun i a r e1 e2 => SqL.of (rows_get h p e1 ?_)
  simp [rowsV, e2]
theorem cl_rows : ∀ q : List (List Int), PyData.canLayAll0 (q.map rowD) = true
  | [] => rfl
  | r :: q => by
    rw [List.map_cons, PyData.canLayAll0, cl_rows q, rowD, PyData.canLay0, cl_ints]
    rfl
theorem dt_rows : ∀ q : List (List Int), PyData.depthAll (q.map rowD) ≤ 2
  | [] => by decide
  | r :: q => by
    have h := dt_rows q
    have h2 := dt_ints r
    rw [List.map_cons, PyData.depthAll, rowD, PyData.depth]
    omega
theorem sh_listR (q : List (List Int)) : SeqAt.shaped (.list (q.map rowD)) = true := by
  have h := dt_rows q
  unfold SeqAt.shaped
  rw [PyData.canLay0, cl_rows, Bool.true_and]
  apply decide_eq_true
  rw [PyData.depth]
  omega
theorem sh_tupR (q : List (List Int)) : SeqAt.shaped (.tuple (q.map rowD)) = true := by
  have h := dt_rows q
  unfold SeqAt.shaped
  rw [PyData.canLay0, cl_rows, Bool.true_and]
  apply decide_eq_true
  rw [PyData.depth]
  omega
theorem eqv_self {d : PyData} (h : SeqAt.shaped d = true) : PyData.eqv d d = true := SeqAt.eqv_refl _ (SeqAt.canLay_of_shaped h)
/-- x == y of the same data -/
theorem r_eqD1 {K : PySem.W.Frag} {H : Hp} {x y : V} {Q : VK} {d : PyData} (h1 : Dp K H x d) (h2 : Dp K H y d) (s : SeqAt.shaped d = true) (q : Q (.bl true) H) : rEqU K x y H Q := r_eqSame h1 h2 s (eqv_self s) q
theorem r_neD1 {K : PySem.W.Frag} {H : Hp} {x y : V} {Q : VK} {d : PyData} (h1 : Dp K H x d) (h2 : Dp K H y d) (s : SeqAt.shaped d = true) (q : Q (.bl false) H) : rNeU K x y H Q := r_neSame h1 h2 s (eqv_self s) q
/-- a list of one thing a number of a range -/
theorem r_lcM {σ : L2.St} {H : Hp} {te : TE} {tt : TT} {g : TG} {Q : VK} {L : List SA} {vs : List Nat} {lo : Int} {n : Nat} (f : Nat → V) (hh : Hd L H) (hz : n < 100000)
    (step : ∀ (D : Addr) (acc : List V) (i : Nat) H (N : V → Hp → Prop) (M : Hp → Prop), i < n → Hd (pto D (.lst acc) :: L) H → N (f i) H →
      g (.int (lo + (i : Nat))) (wipe σ vs) H fun σ2 H2 => wipe σ2 vs = wipe σ vs ∧ tt σ2 H2 fun b H3 => if b = true then te σ2 H3 N else M H3)
    (hd : ∀ D H, Hd (pto D (.lst ((List.range n).map f)) :: L) H → Q (.ref D) H) : LcK g tt te vs σ Q (Itr lo n) H :=
  r_lcN (p := fun _ => true) f hh hz (fun D acc i H N M hi hs a _ => step D acc i H N M hi hs (a rfl)) fun D H h => hd D H (by
    have e : (List.range n).filter (fun _ => true) = List.range n := List.filter_eq_self.mpr fun _ _ => rfl
    rw [e] at h
    exact h)
/-- a list that stays empty -/
theorem r_lcO {σ : L2.St} {H : Hp} {te : TE} {tt : TT} {g : TG} {Q : VK} {L : List SA} {vs : List Nat} {lo : Int} {n : Nat} (hh : Hd L H) (hz : n < 100000)
    (step : ∀ (D : Addr) (acc : List V) (i : Nat) H (N : V → Hp → Prop) (M : Hp → Prop), i < n → Hd (pto D (.lst acc) :: L) H → M H →
      g (.int (lo + (i : Nat))) (wipe σ vs) H fun σ2 H2 => wipe σ2 vs = wipe σ vs ∧ tt σ2 H2 fun b H3 => if b = true then te σ2 H3 N else M H3)
    (hd : ∀ D H, Hd (pto D (.lst []) :: L) H → Q (.ref D) H) : LcK g tt te vs σ Q (Itr lo n) H :=
  r_lcN (p := fun _ => false) (fun _ => .non) hh hz (fun D acc i H N M hi hs _ b => step D acc i H N M hi hs (b rfl)) fun D H h => hd D H (by
    have e : (List.range n).filter (fun _ => false) = [] := List.filter_eq_nil_iff.mpr fun _ _ => Bool.false_ne_true
    rw [e] at h
    exact h)
theorem rep_one (k : Nat) (v : V) : (List.replicate k [v]).flatten = List.replicate k v := by
  induction k with
  | zero => rfl
  | succ k ih => rw [List.replicate_succ, List.flatten_cons, ih, List.replicate_succ]; rfl
end Sl

set_option maxRecDepth 100000
set_option maxHeartbeats 1000000
namespace Sl
open PySem L2 PySem.Spec PyProof.Rows
/-! ### an error that is noted: except X as n, and n kept by another name behind the suite -/
/-- an error's object of the class cls -/
def ErrO (cls : Value) (d : Option Addr) (a : Addr) : HO := .ext fun h => ∃ (oe : Obj) (fs : Array Value), h.get? a = some oe ∧ Zc cls d oe ∧ oe.data = .fields fs
section
variable {X : Cx} {pins : List (Addr × Obj)} {σ : L2.St} {H : Hp} {s : Shared}
/-- an object that came up since the def began, and that nobody tracks, is tracked from now on -/
theorem note_err {a : Addr} {oe : Obj} {fs : Array Value} {cls : Value} {d : Option Addr} (I : L2.Inv X pins σ H s) (at_ : s.heap.get? a = some oe) (z : Zc cls d oe) (fd : oe.data = .fields fs) (new : X.s_0.heap.get? a = none) (no : H a = none) (nl : a ≠ X.env.locals)
    (np : ∀ p ∈ X.pn ++ pins, p.1 ≠ a) : L2.Inv X pins σ (upd H a (ErrO cls d a)) s := by
  have cellNo : ∀ x c, X.env.cells.lookup x = some c → c ≠ a := by
    intro x c hc e
    obtain ⟨v, o, e2, w⟩ := I.cell x c hc
    rw [e, at_] at e2
    cases e2
    rw [fd] at w
    cases w
  have h0 : X.s_0.heap.get? a = none := new
  have ne0 : ∀ {b : Addr} {o : Obj}, X.s_0.heap.get? b = some o → b ≠ a := by
    intro b o e q
    rw [q, h0] at e
    cases e
  refine { I with base := ?_, free := ?_, freeC := ?_, pin := ?_, hok := ?_ }
  · refine { I.base with free := ?_, tups := ?_, frzs := ?_, tbls := ?_ }
    · intro b o e n q
      rw [upd_ne (ne0 e)]
      exact I.base.free b o e n q
    · intro b xs e
      have := I.base.tups b xs e
      rw [upd_ne (fun q => by rw [q, no] at this; cases this)]
      exact this
    · intro b o u e
      have := I.base.frzs b o u e
      rw [upd_ne (fun q => by rw [q, no] at this; cases this)]
      exact this
    · intro b ps e
      obtain ⟨more, this⟩ := I.base.tbls b ps e
      exact ⟨more, by rw [upd_ne (fun q => by rw [q, no] at this; cases this)]; exact this⟩
  · rw [upd_ne (Ne.symm nl)]
    exact I.free
  · intro x c hc
    rw [upd_ne (cellNo x c hc)]
    exact I.freeC x c hc
  · intro p hp
    obtain ⟨q1, q2, q3, q4, q5⟩ := I.pin p hp
    exact ⟨q1, by rw [upd_ne (np p hp)]; exact q2, q3, q4, q5⟩
  · intro b o e
    by_cases q : b = a
    · subst q
      rw [upd_same] at e
      cases e
      refine ⟨⟨oe, fs, at_, z, fd⟩, ⟨oe, at_⟩, ?_⟩
      rintro h1 h2 ⟨o1, f1, g1, g2, g3⟩ k
      exact ⟨o1, f1, k _ g1, g2, g3⟩
    · rw [upd_ne q] at e
      refine (I.hok b o e).stay (fun _ _ _ w => w) ?_ ?_
      · intro c e2
        rw [upd_ne (fun q2 => by rw [q2, no] at e2; cases e2)]
        exact e2
      · intro c xs e2
        rw [upd_ne (fun q2 => by rw [q2, no] at e2; cases e2)]
        exact e2
end
/-- what the body's error finds: the suite with the error's own name set, then what follows with the error tracked -/
def wNote (K : PySem.W.Frag) (c : Value) (i : Nat) (ts : Addr → Value → Option Addr → TS) (Wout : WX) (D : Ends) : WX := fun cls d σ H =>
  ∃ b, PySem.W.exmOne K cls c = some b ∧ (b = true → ∀ a, H a = none → ts a cls d { nx := fun τ G => G a = none → D.nx (τ.set i none) (upd G a (ErrO cls d a)), rt := fun _ _ => False, bk := fun _ _ => False, ct := fun _ _ => False } (σ.set i (some (.ref a))) H) ∧ (b = false → Wout cls d σ H)
section
variable {X : Cx} {x n : Str} {c : Value} {i : Nat} {body suite : List Stmt} {st1 : Stmt} {np pos pos' : Pos} {tb : WX → TS} {ts : Addr → Value → Option Addr → TS} {Wout : WX}
theorem ps_tryN (ex0 : X.ex = []) (sk : X.stack = X.env :: X.outer) (fr : X.env.frame = some X.env.locals) (nd : X.N.Nodup) (ix : X.N[i]? = some n) (kd : X.env.kindOf n = some .local) (nm : Names X x c) (tk : Takes X Wout)
    (hb : ∀ (W : WX) (pn : List (Addr × Obj)) (xe : Value → Shared → Prop), Takes (X.tr pn xe) W → PassesOwn (model X.prog X.w) X.A X.env xe → PSs (X.tr pn xe) body (tb W))
    (hsu : ∀ (a : Addr) (oe : Obj) (cls : Value) (d : Option Addr) (pn : List (Addr × Obj)), Zc cls d oe → (∃ fs, oe.data = .fields fs) → PSs (X.suite a ((a, oe) :: pn)) (st1 :: suite) (ts a cls d)) :
    PS X (.Try body [.ExceptHandler (some (.Name x np)) (some n) (st1 :: suite) pos'] [] [] pos) (fun D σ H => tb (wNote X.K c i ts Wout D) D σ H) := by
  constructor
  intro pins s σ H D I0 h
  have ok := I0.ok
  have frames : X.A.frames = some (X.env :: X.outer) := by rw [ok.frames, sk]
  have loc : Loc X.env.scope n := .inl kd
  apply wpAny_Try_except
  have run := (hb (wNote X.K c i ts Wout D) (X.pn ++ pins) (fun e z1 => wpAny (model X.prog X.w) X.A (noteFrame e X.env) (fun _ z2 => wpAny (model X.prog X.w) X.A (setFlight e none) (fun _ z3 =>
    wpAny (model X.prog X.w) X.A (handleBy e X.env [.ExceptHandler (some (.Name x np)) (some n) (st1 :: suite) pos']) (SP X pins D) X.xe z3) X.xe z2) X.xe z1) (fun u z xx => ?air) PassesOwn.looking).run [] s σ H D (I0.toTry _) h
  case air =>
    obtain ⟨a, B, z0, pins', τ, G, cls, d, rfl, J', keep, up, sky, na, os, ag, b, hb1, yes, no⟩ := xx
    have J : L2.Inv X pins τ G z0 := J'.ofTry ok
    have sky2 : Sky B (X.env :: X.outer) a (Zc cls d) X.env.locals z.heap := by rw [← sk]; exact sky
    show wpAny (model X.prog X.w) X.A (noteFrame (.ref a) X.env) _ _ _
    apply Sky.land Zc.steady frames fr sky2
    intro h3 fl3 up3
    have J3 : L2.Inv X pins τ G { z with heap := h3 } := J.landed keep fl3.1 (up.trans up3) os ag
    obtain ⟨oe3, fs3, he3, hz3, hd3⟩ := fl3.there
    have nfr : a ∉ frs (X.env :: X.outer) := by
      intro hm
      obtain ⟨_, o2, e2, hn⟩ := fl3.2.2.1.mem hm
      rw [he3] at e2
      cases e2
      exact hn _ hd3
    have nL : a ≠ X.env.locals := fun q => nfr (List.mem_filterMap.mpr ⟨X.env, List.mem_cons_self, by rw [fr, q]⟩)
    have nF : a ∉ X.fs := by
      intro hm
      obtain ⟨e, he, q⟩ := List.mem_filterMap.mp hm
      exact nfr (List.mem_filterMap.mpr ⟨e, List.mem_cons_of_mem _ he, q⟩)
    -- the error is new
    have new0 : z0.heap.get? a = none := by
      cases q : z0.heap.get? a with
      | none => rfl
      | some o =>
        have := keep a o q (by rw [show frs X.stack = frs (X.env :: X.outer) by rw [sk]]; exact nfr)
        rw [fl3.2.1] at this
        cases this
    have newS : X.s_0.heap.get? a = none := by
      cases q : X.s_0.heap.get? a with
      | none => rfl
      | some o =>
        obtain ⟨o2, e2⟩ := J.base.there a o q (by rw [ex0]; exact List.not_mem_nil)
        rw [new0] at e2
        cases e2
    have newP : ∀ p ∈ X.pn ++ pins, p.1 ≠ a := by
      intro p hp e
      have := (J.pin p hp).1
      rw [e, new0] at this
      cases this
    have S3 := J3.suite he3 hd3 na nL nF
    apply wpAny_handleBy_cons (codeAny_handlers_test ?_) (by intro q; cases q)
    have LT : PySem.W.Looks (model X.prog X.w) h3 (typeOf (.ref a)) cls := fun A Q E s k q => wpAny_typeOf_ref (k _ _ he3) (by rw [hz3.1]; exact q)
    have LM := PySem.W.exm_one (M := model X.prog X.w) J3.kIn LT hb1
    have test : ∀ {Q : Value → Shared → Prop} {E : Value → Shared → Prop}, Q c { z with heap := h3 } → wpAny (model X.prog X.w) (X.A.mark (some (.ref a))) (eval (.Name x np) X.env) Q E { z with heap := h3 } := by
      intro Q E q
      obtain ⟨hg, hdbg, hm⟩ := nm
      rcases hm with hm | ⟨hm, hv, hnn⟩
      · exact ld_glob (X := X.suite a ((a, oe3) :: (X.pn ++ pins))) S3 hg hm q hdbg
      · exact ld_blt (X := X.suite a ((a, oe3) :: (X.pn ++ pins))) S3 hg hm hv q hnn hdbg
    apply test
    apply LM.here
    cases b with
    | true =>
      apply codeAny_handlers_suite_as
      apply HandSPX.lands_againZ fl3
      intro h4 fl4 up4
      have J4 : L2.Inv X pins τ G { z with heap := h4 } := J.landed keep fl4.1 ((up.trans up3).trans up4) os ag
      obtain ⟨oe4, fs4, he4, hz4, hd4⟩ := fl4.there
      have S4 := J4.suite he4 hd4 na nL nF
      refine store_ok (X := X.suite a ((a, oe4) :: (X.pn ++ pins))) (v := .ref a) S4 nd ix loc rfl (fun z5 S5 => ?_) (.inr kd)
      refine wpAny_mono ((hsu a oe4 cls d (X.pn ++ pins) hz4 ⟨_, hd4⟩).run [] z5 _ G _ S5 (yes rfl a na)) ?_ (fun _ _ w => False.elim w)
      intro f z6 done
      match f, done with
      | .next, ⟨τ6, G6, S6, q6⟩ =>
        have p6 := S6.pin (a, oe4) (List.mem_append.mpr (.inl List.mem_cons_self))
        have J6 := note_err (S6.unsuite ok) p6.1 hz4 hd4 newS p6.2.1 nL newP
        exact gone_ok J6 nd ix kd fun z7 J7 => ⟨_, _, J7, q6 p6.2.1⟩
      | .brk, ⟨_, _, _, q6⟩ => exact False.elim q6
      | .cont, ⟨_, _, _, q6⟩ => exact False.elim q6
      | .ret u, ⟨_, _, _, _, _, q6⟩ => exact False.elim q6
    | false =>
      show wpAny _ X.A (handleBy (.ref a) X.env []) _ _ _
      apply wpAny_handleBy_nil
      obtain ⟨k1, k2, k3, oe, fs, T, oT, ts', he, hz, hd, h1, hr⟩ := id fl3
      unfold PySem.passOn
      apply wpAny_bind (wpAny_field he hd h1 ?_)
      rw [if_neg (show ¬ ((Value.ref T == Value.none) = true) from by simp)]
      have fin : wpAny (model X.prog X.w) X.A (setFlight (.ref a) X.env.frame) (fun _ z4 => wpAny (model X.prog X.w) X.A (throw (.ref a) : Sem Flow) (SP X pins D) X.xe z4) X.xe { z with heap := h3 } := by
        rw [fr]
        apply HandSPX.setFlight_upZ fl3
        intro h4 hh4 up4
        apply wpAny_throw
        exact tk _ _ ⟨a, B, z0, pins, τ, G, cls, d, rfl, J, keep, (up.trans up3).trans up4, .inr (.inr (by rw [sk]; exact hh4)), na, os, ag, no rfl⟩
      first
        | exact wpAny_bind (wpAny_pure (wpAny_bind fin))
        | exact wpAny_bind fin
  refine wpAny_mono run ?_ (fun e z1 he => he)
  intro f z1 done
  match f, done with
  | .next, ⟨τ, G, J, q⟩ => exact wpAny_execs_nil ⟨τ, G, J.ofTry ok, q⟩
  | .brk, ⟨τ, G, J, q⟩ => exact ⟨τ, G, J.ofTry ok, q⟩
  | .cont, ⟨τ, G, J, q⟩ => exact ⟨τ, G, J.ofTry ok, q⟩
  | .ret u, ⟨v, τ, G, J, r, q⟩ => exact ⟨v, τ, G, J.ofTry ok, r, q⟩
end
/-- isinstance of a noted error -/
def rIsErr (K : PySem.W.Frag) : List V → Hp → VK → Prop := fun xs H Q => ∃ (a D : Addr) (c : V) (cv : Value) (b : Bool), xs = [.ref a, c] ∧ H a = some (ErrO (.ref D) none a) ∧ ExcC K D ∧ (∀ u, RelV c u → u = cv) ∧ PySem.W.kitOne K (.ref D) cv = some b ∧ Q (.bl b) H
theorem call_isErr {X : Cx} : CallR X (.builtin "isinstance") (rIsErr X.K) := by
  intro pins s σ H xs us Q I r h
  obtain ⟨a, D, c, cv, b, rfl, ha, C, hc, e, q⟩ := h
  obtain ⟨u, w', rfl, rx, rc⟩ := vals2 r
  obtain rfl : u = Value.ref a := rx
  have ec := hc _ rc
  subst ec
  obtain ⟨⟨oe, fs, g, z, dd⟩, -, -⟩ := I.hok a _ ha
  have J : PySem.W.InstAt s.heap a oe D none := by
    obtain ⟨oc, od, oda, osl⟩ := oe
    obtain ⟨h1, h2⟩ := z
    dsimp only at h1 h2 dd
    subst h1 h2 dd
    exact ⟨g, rfl, rfl, trivial⟩
  exact PySem.W.kia_one (PySem.W.handS_kitx_exc C.hg C.hk C.hs C.hd C.ha C.hn C.ht C.hm) I.kIn J e (fun z => nomatch z) fun tk => ⟨.bl b, H, I.kept (t' := tk) fun _ _ z => z, rfl, q⟩
end Sl

set_option maxRecDepth 100000
set_option maxHeartbeats 1000000
namespace Sl
open PySem L2 PySem.Spec PyProof.Rows
/-! ### raise; what is called within a try -/
def tRaise (C : Addr) (W : WX) : TS := fun _ σ H => W (.ref C) none σ H
/-- the facts of an error's class over ValueError -/
structure ErrC (K : PySem.W.Frag) (mg : Str → Option Value) (x : Str) (C : Addr) : Prop where
  g : mg x = some (.ref C)
  x : PySem.W.excIn K C [.type "ValueError", .type "Exception", .type "BaseException", .type "object"] "ValueError.__new__" = true
  k : PySem.W.keepIn K (.ref C) = true
  b : PySem.W.subIn K (.ref C) (.type "BaseException") = some true
  t : PySem.W.typeIn K (.ref C) = some (.type "type")
section
variable {X : Cx} {C f : Addr} {x m : Str} {j k : Nat} {p p2 pos pos2 apos : Pos} {CX : CXT} {fd : FuncData} {ps : List Str} {sp : Sp} {E : L2.St → XK} {e o : Expr} {es : List Expr} {ta : TE} {t : TA}
theorem ps_raiseE {W : WX} (hc : X.calm = true) (tk : Takes X W) (c : ErrC X.K X.mg x C) (hg : Gl X x) (hdb : (x == ("__debug__" : Str)) = false := by decide) :
    PS X (.Raise (some (.Call (.Name x p) [.Constant (.str m) j p2] [] pos)) none pos2) (tRaise C W) :=
  ps_raise hc tk (pmk_own PySem.F.excBase_ValueError c.x c.g c.k (raises_own c.b c.t) hg hdb)
theorem r_raise {W : WX} {D : Ends} {σ : L2.St} {H : Hp} (q : W (.ref C) none σ H) : tRaise C W D σ H := q
/-- o.m(e, ..) within a try: what it raises is wished for at the slots as they stand -/
def tMethS (C : Addr) (m : Str) (sp : Sp) (E : L2.St → XK) (ta : TE) (t : TA) : TE := fun σ H Q => ta σ H (MethK C m fun x H1 => t σ H1 fun vs H2 => sp (x :: vs) H2 Q (E σ))
theorem pe_methS {pl : Sem Bool} (he : PE X o ta) (c : Cls X.K C) (hm : Meth X.K C m f) (F : FnOk X.prog X.w X.K X.mg X.base CX k f fd ps sp) (hr : Room k X.A) (hb : Binds X.K fd ps []) (hx : ∀ σ, PassesAt CX X σ (E σ)) (ha : PA X (e :: es) t)
    (hst : starEach (e :: es) X.env = (false, eval e X.env) :: starEach es X.env := by rfl) (hpl : (backTo pos (starEach es X.env)).any (·.1) = false := by rfl)
    (ht : eval (.Call (.Attribute o m apos) (e :: es) [] pos) X.env = (do
      let ov ← eval o X.env
      standAt apos.atName
      let (f, first) ← holding [ov] (getMethod ov m pl)
      callWith pos f first (backTo pos (starEach (e :: es) X.env)) (backToKw pos (keywordEach [] X.env))) := by rfl) :
    PE X (.Call (.Attribute o m apos) (e :: es) [] pos) (tMethS C m sp E ta t) := by
  refine ⟨fun pn s τ G Q I h => ?_⟩
  refine PySem.W.methodCall_KW (pl := pl) (thn (he.run pn s τ G _ I h) fun u s1 ⟨x, H1, I1, rx, a, dx, fs, ex, ea, l, q⟩ => ?_) ht
  subst ex
  obtain rfl : u = Value.ref a := rx
  refine getmeth_ok I1 ea c hm l ?_
  refine PySem.W.callWith_K (first := [.ref a]) (h₀ := X.base) I.ok.mod.kin hm.kp (thn (ha.run pos pn s1 τ H1 _ I1 q) fun us s2 ⟨vs, H2, I2, r, q2⟩ => ⟨I2.kIn, ?_⟩) hst hpl
  exact run_fnS (us := .ref a :: us) (vs := .ref a :: vs) F hr hb (hx τ) I2 (.cons rfl r) q2
def tMethS0 (C : Addr) (m : Str) (sp : Sp) (E : L2.St → XK) (ta : TE) : TE := fun σ H Q => ta σ H (MethK C m fun x H1 => sp [x] H1 Q (E σ))
theorem pe_methS0 {pl : Sem Bool} (he : PE X o ta) (c : Cls X.K C) (hm : Meth X.K C m f) (F : FnOk X.prog X.w X.K X.mg X.base CX k f fd ps sp) (hr : Room k X.A) (hb : Binds X.K fd ps []) (hx : ∀ σ, PassesAt CX X σ (E σ))
    (ht : eval (.Call (.Attribute o m apos) [] [] pos) X.env = (do
      let ov ← eval o X.env
      standAt apos.atName
      let (f, first) ← holding [ov] (getMethod ov m pl)
      callWith pos f first (backTo pos (starEach [] X.env)) (backToKw pos (keywordEach [] X.env))) := by rfl) :
    PE X (.Call (.Attribute o m apos) [] [] pos) (tMethS0 C m sp E ta) := by
  refine ⟨fun pn s τ G Q I h => ?_⟩
  refine PySem.W.methodCall_KW (pl := pl) (thn (he.run pn s τ G _ I h) fun u s1 ⟨x, H1, I1, rx, a, dx, fs, ex, ea, l, q⟩ => ?_) ht
  subst ex
  obtain rfl : u = Value.ref a := rx
  refine getmeth_ok I1 ea c hm l ?_
  exact PySem.W.callWith_K0 (first := [.ref a]) I1.kIn hm.kp (run_fnS (us := [.ref a]) (vs := [.ref a]) F hr hb (hx τ) I1 (.cons rfl .nil) q)
end
section
variable {K : PySem.W.Frag} {C : Addr} {m : Str} {sp : Sp} {E : L2.St → XK} {ta : TE} {t : TA} {σ τ : L2.St} {H G : Hp} {Q : VK} {L : List SA} {a D : Addr} {cls : Value} {d : Option Addr}
theorem r_callS (q : t σ H fun vs H1 => sp vs H1 Q (E σ)) : tCallS sp E t σ H Q := q
theorem r_methS (q : ta σ H (MethK C m fun x H1 => t σ H1 fun vs H2 => sp (x :: vs) H2 Q (E σ))) : tMethS C m sp E ta t σ H Q := q
theorem r_methS0 (q : ta σ H (MethK C m fun x H1 => sp [x] H1 Q (E σ))) : tMethS0 C m sp E ta σ H Q := q
theorem r_note {c : Value} {i : Nat} {ts : Addr → Value → Option Addr → TS} {Wout : WX} {D : Ends} (h : PySem.W.exmOne K cls c = some true)
    (q : ∀ a, ts a cls d { nx := fun τ G => G a = none → D.nx (τ.set i none) (upd G a (ErrO cls d a)), rt := fun _ _ => False, bk := fun _ _ => False, ct := fun _ _ => False } (σ.set i (some (.ref a))) H) : WE (wNote K c i ts Wout D) σ cls d H := ⟨true, h, fun _ a _ => q a, fun z => nomatch z⟩
theorem r_noteEnd {R : Hp → Prop} (hs : Hd L G) (q : ∀ G', Hd (pto a (ErrO cls d a) :: L) G' → R G') : G a = none → R (upd G a (ErrO cls d a)) := fun n => q _ (hs.new n)
/-- isinstance of a noted error and classes in a tuple -/
def rIsErrTu (K : PySem.W.Frag) : List V → Hp → VK → Prop := fun xs H Q => ∃ (a D tp : Addr) (cs : List V) (us : List Value) (b : Bool), xs = [.ref a, .ref tp] ∧ H a = some (ErrO (.ref D) none a) ∧ ExcC K D ∧ H tp = some (.tup cs) ∧ Paired ClsV cs us ∧ PySem.W.kitAny K (.ref D) us = some b ∧ Q (.bl b) H
theorem call_isErrTu {X : Cx} : CallR X (.builtin "isinstance") (rIsErrTu X.K) := by
  intro pn s τ G xs us Q I r h
  obtain ⟨a, D, tp, cs, ws, b, rfl, ha, C, hT, pr, e, q⟩ := h
  obtain ⟨u, w', rfl, rx, rc⟩ := vals2 r
  obtain rfl : u = Value.ref a := rx
  obtain rfl : w' = Value.ref tp := rc
  obtain ⟨⟨oe, fs, g, z, dd⟩, -, -⟩ := I.hok a _ ha
  have J : PySem.W.InstAt s.heap a oe D none := by
    obtain ⟨oc, od, oda, osl⟩ := oe
    obtain ⟨h1, h2⟩ := z
    dsimp only at h1 h2 dd
    subst h1 h2 dd
    exact ⟨g, rfl, rfl, trivial⟩
  obtain ⟨-, its, rv, o, h1, h2, n, h3⟩ := (show ObjOk X.prog X.w G s.heap tp (.tup cs) from I.hok tp _ hT)
  have e3 := ClsV.all pr rv
  subst e3
  obtain ⟨oc, od, dt, sl⟩ := o
  simp only at h2 h3
  subst h2 h3
  exact PySem.W.kia_tup (PySem.W.handS_kitx_exc C.hg C.hk C.hs C.hd C.ha C.hn C.ht C.hm) I.kIn J h1 e (fun z => nomatch z) fun tk => ⟨.bl b, G, I.kept (t' := tk) fun _ _ z => z, rfl, q⟩
/-- isinstance of anything -/
def rIsA (K : PySem.W.Frag) : List V → Hp → VK → Prop := fun xs H Q => rIsiU K xs H Q ∨ rIsErr K xs H Q ∨ rIsErrTu K xs H Q
theorem k_isA {X : Cx} (h : X.K = K) : CallR X (.builtin "isinstance") (rIsA K) := h ▸ u_isi.or (call_isErr.or call_isErrTu)
theorem own_all {cs : List Addr} : Paired ClsV (cs.map V.ref) (cs.map Value.ref) := by
  induction cs with
  | nil => exact .nil
  | cons c cs ih => exact .cons (.own c) ih
theorem r_isErrN {tp : Addr} {cs : List Addr} (h : H a = some (ErrO (.ref D) none a)) (C : ExcC K D) (hT : H tp = some (.tup (cs.map V.ref))) (no : ∀ c ∈ cs, PySem.W.kitOne K (.ref D) (.ref c) = some false) (q : Q (.bl false) H) : rIsA K [.ref a, .ref tp] H Q := by
  refine .inr (.inr ⟨a, D, tp, cs.map V.ref, cs.map Value.ref, false, rfl, h, C, hT, own_all, ?_, q⟩)
  clear hT
  induction cs with
  | nil => rfl
  | cons c cs ih => exact kitAny_cons (no c List.mem_cons_self) (fun _ => ih fun x hx => no x (List.mem_cons_of_mem _ hx)) fun z => nomatch z
theorem r_isAU {xs : List V} (q : rIsiU K xs H Q) : rIsA K xs H Q := .inl q
theorem r_isErr {b : Bool} (h : H a = some (ErrO (.ref D) none a)) (C : ExcC K D) {c : Addr} (e : PySem.W.kitOne K (.ref D) (.ref c) = some b) (q : Q (.bl b) H) : rIsA K [.ref a, .ref c] H Q := .inr (.inl ⟨a, D, .ref c, .ref c, b, rfl, h, C, fun _ r => r, e, q⟩)
theorem r_isErrT {b : Bool} (h : H a = some (ErrO (.ref D) none a)) (C : ExcC K D) {n : String} (e : PySem.W.kitOne K (.ref D) (.type n) = some b) (q : Q (.bl b) H) : rIsA K [.ref a, .ty n] H Q := .inr (.inl ⟨a, D, .ty n, .type n, b, rfl, h, C, fun _ r => r, e, q⟩)
end
theorem passF {X : Cx} : Passes (L2.CX X.prog X.w) X E0 := by
  rintro pn τ G z e z2 J ⟨a, B, G2, cls, d, h1, h2, h3, h4, h5, h6, h7, h8⟩
  exact False.elim h8
section
variable {X : Cx} {C f : Addr} {x : Str} {k : Nat} {p pos : Pos} {CX : CXT} {fd : FuncData} {ps : List Str} {sp : Sp} {E : L2.St → XK} {e : Expr} {es : List Expr} {t : TA}
/-- C(e, ..) within a try -/
def tMakeS (C : Addr) (sp : Sp) (E : L2.St → XK) (t : TA) : TE := fun σ H Q => t σ H (MakeK C sp [] (E σ) Q)
theorem made_s {pn : List (Addr × Obj)} {τ : L2.St} {G : Hp} {z : Shared} {R : VK} {ws : List Value} {xs : List V} (M : Mk X.K C f) (F : FnOk X.prog X.w X.K X.mg X.base CX k f fd ps sp) (hr : Room (k + 1) X.A) (bd : Binds X.K fd ps []) (ex : ∀ σ, PassesAt CX X σ (E σ))
    (J : L2.Inv X pn τ G z) (rv : Vals xs ws) (q : MakeK C sp [] (E τ) R xs G) : wpAny (model X.prog X.w) X.A (call (.ref C) ws) (EP X pn τ R) X.xe z := by
  have q2 := q (z.heap.objs.size + 1) z.heap.objs.size (J.hok.fresh (Nat.le_succ _)) (J.hok.fresh (Nat.le_refl _)) (Nat.ne_of_lt (Nat.lt_succ_self _))
  rw [List.append_nil] at q2
  have J2 := Inv.made (C := C) J
  have rv2 : Vals (V.ref (z.heap.objs.size + 1) :: xs) (Value.ref (z.heap.objs.size + 1) :: ws) := .cons rfl rv
  have ll : (Value.ref (z.heap.objs.size + 1) :: ws).length = ps.length := rv2.length.symm.trans (F.len _ _ _ _ q2)
  have bd2 := bd _ (Value.ref (z.heap.objs.size + 1) :: ws) J2.kIn (by rw [List.append_nil]; exact ll)
  rw [List.append_nil] at bd2
  have run := F.run _ X.stack _ _ ⟨Value.ref (z.heap.objs.size + 1) :: ws, []⟩ (Value.ref (z.heap.objs.size + 1) :: ws) _ _ (E τ) (hr.make C ws []) (J2.env0.make C ws []) bd2 rv2 q2
  apply wpAny_call (make_map (f := f) J.kIn M.makes M.init (beq_iff_eq.mp M.fn) (codeAny_mono run ?_))
  intro out z2 done
  match out, done with
  | .error er, done => exact ex τ pn _ _ er z2 J2 done
  | .ok (.ret u), done =>
    obtain ⟨v, G2, J3, rv3, ev, q3⟩ := J2.after done
    subst ev
    exact ⟨rv3, ⟨V.ref (z.heap.objs.size + 1), G2, J3, rfl, q3⟩⟩
theorem pe_makeS (M : Mk X.K C f) (F : FnOk X.prog X.w X.K X.mg X.base CX k f fd ps sp) (hr : Room (k + 1) X.A) (gl : Gl X x) (at_ : X.mg x = some (.ref C)) (bd : Binds X.K fd ps []) (ex : ∀ σ, PassesAt CX X σ (E σ))
    (as_ : PA X (e :: es) t) (ndb : (x == ("__debug__" : Str)) = false := by decide) (st : starEach (e :: es) X.env = (false, eval e X.env) :: starEach es X.env := by rfl) (np : (backTo pos (starEach es X.env)).any (·.1) = false := by rfl) :
    PE X (.Call (.Name x p) (e :: es) [] pos) (tMakeS C sp E t) :=
  ⟨fun pn z τ G R J q => wpAny_Call_Name_kw (ld_glob J gl at_
    (PySem.W.callWith_K (h₀ := X.base) J.ok.mod.kin M.kp (thn (as_.run pos pn z τ G _ J q) fun _ _ ⟨_, _, J2, rv, q2⟩ => ⟨J2.kIn, made_s M F hr bd ex J2 rv q2⟩) st np) ndb)⟩
end
theorem r_makeS {C : Addr} {sp : Sp} {E : L2.St → XK} {t : TA} {σ : L2.St} {H : Hp} {Q : VK} (q : t σ H (MakeK C sp [] (E σ) Q)) : tMakeS C sp E t σ H Q := q
theorem kit_ref {K : PySem.W.Frag} {D C : Addr} {b : Bool} (hd : PySem.W.hasDictIn K C = true) (ht : PySem.W.typeIn K (.ref C) = some (.type "type")) (self : PySem.W.subIn K (.ref D) (.ref D) = some true) (h : PySem.W.subIn K (.ref D) (.ref C) = some b) : PySem.W.kitOne K (.ref D) (.ref C) = some b := by
  unfold PySem.W.kitOne
  by_cases e : D = C
  · subst e
    rw [self] at h
    rw [if_pos (by simp)]
    exact h
  · rw [if_neg (by simpa using e)]
    obtain ⟨cd, hc, _⟩ := PySem.W.any_some hd
    have e2 : ((PySem.W.clsIn K C).isSome && PySem.W.typeIn K (.ref C) == some (.type "type")) = true := by rw [hc, ht]; rfl
    show (if ((PySem.W.clsIn K C).isSome && PySem.W.typeIn K (.ref C) == some (.type "type")) = true then PySem.W.subIn K (.ref D) (.ref C) else none) = some b
    rw [if_pos e2]
    exact h
theorem kit_VE {K : PySem.W.Frag} {D : Addr} (h : PySem.W.subIn K (.ref D) (.type "ValueError") = some true) : PySem.W.kitOne K (.ref D) (.type "ValueError") = some true := by
  unfold PySem.W.kitOne
  rw [if_neg (by simp)]
  show (if PySem.W.kitMeta "ValueError" = true then PySem.W.subIn K (.ref D) (.type "ValueError") else none) = some true
  rw [if_pos (by decide +kernel)]
  exact h
theorem r_isBl {H : Hp} {Q : VK} {a b : Bool} (q : Q (.bl (decide (a = b))) H) : rIsB (.bl a) (.bl b) H Q := ⟨a, b, rfl, rfl, q⟩
theorem r_notBl {H : Hp} {Q : VK} {a b : Bool} (q : Q (.bl (!decide (a = b))) H) : rNotB (.bl a) (.bl b) H Q := ⟨a, b, rfl, rfl, q⟩
end Sl

namespace My
open PySem L2 Sl
def top (i : Nat) : Stmt := PySem.Challenge.pw_keelroom_k01_words.main.body.getD i (.Pass ⟨0, 0, 0, 0⟩)
abbrev s_is_whole : Stmt := top 12
abbrev s_is_among : Stmt := top 13
abbrev s_is_word : Stmt := top 14
abbrev s_need_word : Stmt := top 15
abbrev s_wrapped : Stmt := top 16
abbrev s_law_mixed : Stmt := top 18
abbrev s_law_begun : Stmt := top 19
abbrev s_law_next : Stmt := top 20
abbrev s_law_caught : Stmt := top 21
abbrev s_law_is_refused : Stmt := top 22
abbrev s_law_number_good : Stmt := top 23
abbrev s_law : Stmt := top 24
theorem sc_is_whole : FnScope ["thing"] ["thing"] (defScope s_is_whole) := ⟨rfl, rfl, rfl, by decide +kernel, rfl, by decide +kernel, by decide +kernel⟩
theorem sc_is_among : FnScope ["thing", "least", "most"] ["thing", "least", "most"] (defScope s_is_among) := ⟨rfl, rfl, rfl, by decide +kernel, rfl, by decide +kernel, by decide +kernel⟩
theorem sc_is_word : FnScope ["thing"] ["thing"] (defScope s_is_word) := ⟨rfl, rfl, rfl, by decide +kernel, rfl, by decide +kernel, by decide +kernel⟩
theorem sc_need_word : FnScope ["thing"] ["thing"] (defScope s_need_word) := ⟨rfl, rfl, rfl, by decide +kernel, rfl, by decide +kernel, by decide +kernel⟩
theorem sc_wrapped : FnScope ["number"] ["number"] (defScope s_wrapped) := ⟨rfl, rfl, rfl, by decide +kernel, rfl, by decide +kernel, by decide +kernel⟩
theorem sc_law_mixed : FnScope ["_law_cell", "_law_k"] ["_law_cell", "_law_k"] (defScope s_law_mixed) := ⟨rfl, rfl, rfl, by decide +kernel, rfl, by decide +kernel, by decide +kernel⟩
theorem sc_law_begun : FnScope ["_law_script"] ["_law_script"] (defScope s_law_begun) := ⟨rfl, rfl, rfl, by decide +kernel, rfl, by decide +kernel, by decide +kernel⟩
theorem sc_law_next : FnScope ["_law_state", "_law_k", "_law_at", "_law_number"] ["_law_state"] (defScope s_law_next) := ⟨rfl, rfl, rfl, by decide +kernel, rfl, by decide +kernel, by decide +kernel⟩
theorem sc_law_caught : FnScope ["_law_sort", "_law_thing", "_law_found", "e"] ["_law_sort", "_law_thing"] (defScope s_law_caught) := ⟨rfl, rfl, rfl, by decide +kernel, rfl, by decide +kernel, by decide +kernel⟩
theorem sc_law_is_refused : FnScope ["_law_error", "_law_others"] ["_law_error"] (defScope s_law_is_refused) := ⟨rfl, rfl, rfl, by decide +kernel, rfl, by decide +kernel, by decide +kernel⟩
theorem sc_law_number_good : FnScope ["_law_number", "_law_found", "_law_due", "_law_told"] ["_law_number"] (defScope s_law_number_good) := ⟨rfl, rfl, rfl, by decide +kernel, rfl, by decide +kernel, by decide +kernel⟩
theorem sc_law : FnScope ["_law_script", "_law_state", "_law_turn", "_law_number", "_law_wide", "_law_some", "_law_odd"] ["_law_script"] (defScope s_law) := ⟨rfl, rfl, rfl, by decide +kernel, rfl, by decide +kernel, by decide +kernel⟩
def stK (x0 : V) (x1 : V) (x2 : V) : List (Key × V) := [(Sum.inr ("cells" : Str), x0), (Sum.inr ("left" : Str), x1), (Sum.inr ("at" : Str), x2)]
theorem stK_len {x0 : V} {x1 : V} {x2 : V} : (stK x0 x1 x2).length < sizeLine := szlt (by show 3 < 100000; decide)
theorem stK_disp {x0 : V} {x1 : V} {x2 : V} : mergeK [] ([(Sum.inr ("cells" : Str), x0), (Sum.inr ("left" : Str), x1), (Sum.inr ("at" : Str), x2)] : List (Key × V)) = stK x0 x1 x2 := by kernel_rfl
theorem stK_g_cells {x0 : V} {x1 : V} {x2 : V} : valV (stK x0 x1 x2) (.inr "cells") = some x0 := by kernel_rfl
theorem stK_p_cells {x0 : V} {x1 : V} {x2 : V} {y : V} : putK (stK x0 x1 x2) (.inr "cells") y = stK y x1 x2 := by kernel_rfl
theorem stK_g_left {x0 : V} {x1 : V} {x2 : V} : valV (stK x0 x1 x2) (.inr "left") = some x1 := by kernel_rfl
theorem stK_p_left {x0 : V} {x1 : V} {x2 : V} {y : V} : putK (stK x0 x1 x2) (.inr "left") y = stK x0 y x2 := by kernel_rfl
theorem stK_g_at {x0 : V} {x1 : V} {x2 : V} : valV (stK x0 x1 x2) (.inr "at") = some x2 := by kernel_rfl
theorem stK_p_at {x0 : V} {x1 : V} {x2 : V} {y : V} : putK (stK x0 x1 x2) (.inr "at") y = stK x0 x1 y := by kernel_rfl
structure Txt (K : PySem.W.Frag) (mg : Str → Option Value) where
  x_KeelError : Addr
  gx_KeelError : mg "KeelError" = some (.ref x_KeelError)
  x_NoWord : Addr
  gx_NoWord : mg "NoWord" = some (.ref x_NoWord)
  x_NoCode : Addr
  gx_NoCode : mg "NoCode" = some (.ref x_NoCode)
  x_Reach : Addr
  gx_Reach : mg "Reach" = some (.ref x_Reach)
  x_Room : Addr
  gx_Room : mg "Room" = some (.ref x_Room)
  x_BadSize : Addr
  gx_BadSize : mg "BadSize" = some (.ref x_BadSize)
  x_NoTask : Addr
  gx_NoTask : mg "NoTask" = some (.ref x_NoTask)
  x_Full : Addr
  gx_Full : mg "Full" = some (.ref x_Full)
  x_NoChild : Addr
  gx_NoChild : mg "NoChild" = some (.ref x_NoChild)
  e_NoWord : ErrC K mg "NoWord" x_NoWord
  ec_NoWord : ExcC K x_NoWord
  em_NoWord : PySem.W.exmOne K (.ref x_NoWord) (.ref x_KeelError) = some true
  ki_NoWord_KeelError : PySem.W.kitOne K (.ref x_NoWord) (.ref x_KeelError) = some true
  ki_NoWord_NoWord : PySem.W.kitOne K (.ref x_NoWord) (.ref x_NoWord) = some true
  ki_NoWord_NoCode : PySem.W.kitOne K (.ref x_NoWord) (.ref x_NoCode) = some false
  ki_NoWord_Reach : PySem.W.kitOne K (.ref x_NoWord) (.ref x_Reach) = some false
  ki_NoWord_Room : PySem.W.kitOne K (.ref x_NoWord) (.ref x_Room) = some false
  ki_NoWord_BadSize : PySem.W.kitOne K (.ref x_NoWord) (.ref x_BadSize) = some false
  ki_NoWord_NoTask : PySem.W.kitOne K (.ref x_NoWord) (.ref x_NoTask) = some false
  ki_NoWord_Full : PySem.W.kitOne K (.ref x_NoWord) (.ref x_Full) = some false
  ki_NoWord_NoChild : PySem.W.kitOne K (.ref x_NoWord) (.ref x_NoChild) = some false
  ki_NoWord_ValueError : PySem.W.kitOne K (.ref x_NoWord) (.type "ValueError") = some true
  a_is_whole : Addr
  d_is_whole : FuncData
  f_is_whole : Fun K "is_whole" "is_whole" s_is_whole a_is_whole d_is_whole
  b_is_whole : Binds K d_is_whole ["thing"] []
  g_is_whole : mg "is_whole" = some (.ref a_is_whole)
  a_is_among : Addr
  d_is_among : FuncData
  f_is_among : Fun K "is_among" "is_among" s_is_among a_is_among d_is_among
  b_is_among : Binds K d_is_among ["thing", "least", "most"] []
  g_is_among : mg "is_among" = some (.ref a_is_among)
  a_is_word : Addr
  d_is_word : FuncData
  f_is_word : Fun K "is_word" "is_word" s_is_word a_is_word d_is_word
  b_is_word : Binds K d_is_word ["thing"] []
  g_is_word : mg "is_word" = some (.ref a_is_word)
  a_need_word : Addr
  d_need_word : FuncData
  f_need_word : Fun K "need_word" "need_word" s_need_word a_need_word d_need_word
  b_need_word : Binds K d_need_word ["thing"] []
  g_need_word : mg "need_word" = some (.ref a_need_word)
  a_wrapped : Addr
  d_wrapped : FuncData
  f_wrapped : Fun K "wrapped" "wrapped" s_wrapped a_wrapped d_wrapped
  b_wrapped : Binds K d_wrapped ["number"] []
  g_wrapped : mg "wrapped" = some (.ref a_wrapped)
  a_law_mixed : Addr
  d_law_mixed : FuncData
  f_law_mixed : Fun K "_law_mixed" "_law_mixed" s_law_mixed a_law_mixed d_law_mixed
  b_law_mixed : Binds K d_law_mixed ["_law_cell", "_law_k"] []
  g_law_mixed : mg "_law_mixed" = some (.ref a_law_mixed)
  a_law_begun : Addr
  d_law_begun : FuncData
  f_law_begun : Fun K "_law_begun" "_law_begun" s_law_begun a_law_begun d_law_begun
  b_law_begun : Binds K d_law_begun ["_law_script"] []
  g_law_begun : mg "_law_begun" = some (.ref a_law_begun)
  a_law_next : Addr
  d_law_next : FuncData
  f_law_next : Fun K "_law_next" "_law_next" s_law_next a_law_next d_law_next
  b_law_next : Binds K d_law_next ["_law_state"] []
  g_law_next : mg "_law_next" = some (.ref a_law_next)
  a_law_caught : Addr
  d_law_caught : FuncData
  f_law_caught : Fun K "_law_caught" "_law_caught" s_law_caught a_law_caught d_law_caught
  b_law_caught : Binds K d_law_caught ["_law_sort", "_law_thing"] []
  g_law_caught : mg "_law_caught" = some (.ref a_law_caught)
  a_law_is_refused : Addr
  d_law_is_refused : FuncData
  f_law_is_refused : Fun K "_law_is_refused" "_law_is_refused" s_law_is_refused a_law_is_refused d_law_is_refused
  b_law_is_refused : Binds K d_law_is_refused ["_law_error"] []
  g_law_is_refused : mg "_law_is_refused" = some (.ref a_law_is_refused)
  a_law_number_good : Addr
  d_law_number_good : FuncData
  f_law_number_good : Fun K "_law_number_good" "_law_number_good" s_law_number_good a_law_number_good d_law_number_good
  b_law_number_good : Binds K d_law_number_good ["_law_number"] []
  g_law_number_good : mg "_law_number_good" = some (.ref a_law_number_good)
  a_law : Addr
  d_law : FuncData
  f_law : Fun K "law" "law" s_law a_law d_law
  b_law : Binds K d_law ["_law_script"] []
  g_law : mg "law" = some (.ref a_law)
  n_ValueError : mg "ValueError" = none
  g_WORDS : ∃ t, mg "WORDS" = some (.int 65536 t)
  n_bool : mg "bool" = none
  n_int : mg "int" = none
  n_isinstance : mg "isinstance" = none
  n_len : mg "len" = none
  n_list : mg "list" = none
  n_max : mg "max" = none
  n_min : mg "min" = none
  n_range : mg "range" = none
set_option hygiene false in
local macro_rules | `(tactic| walk_at "pull") => `(tactic| first | with_reducible exact Sl.Pull.here | (with_reducible apply Sl.Pull.there; walk_at "pull"))
set_option hygiene false in
local macro_rules | `(tactic| walk_at "put") => `(tactic| first | with_reducible exact Sl.Put.here | (with_reducible apply Sl.Put.there; walk_at "put"))
set_option hygiene false in
local macro_rules | `(tactic| walk_at "mt") => `(tactic| first | with_reducible exact Sl.Mt.refl | with_reducible exact Sl.Mt.nil | ((with_reducible show Sl.Mt (_ :: _) _); with_reducible apply Sl.Mt.cons; (focus walk_at "pull"); walk_at "mt") | ((fail_if_success (with_reducible show Sl.Mt (_ :: _) _)); with_reducible apply Sl.Mt.drop; walk_at "mt"))
set_option hygiene false in
local macro_rules | `(tactic| walk_at "get") => `(tactic| first | with_reducible assumption | exact Sl.Hd.get hs (by walk_at "pull"))
set_option hygiene false in
local macro_rules | `(tactic| walk_at "sq") => `(tactic| first | with_reducible assumption | exact Sl.Hd.sq hs (by walk_at "pull") | exact Sl.Hd.sql hs (by walk_at "pull"))
set_option hygiene false in
local macro_rules | `(tactic| walk_at "sqt") => `(tactic| first | with_reducible assumption | exact Sl.Hd.st hs (by walk_at "pull"))
set_option hygiene false in
local macro_rules | `(tactic| walk_at "cls") => `(tactic| fail)
set_option hygiene false in
local macro_rules | `(tactic| walk_at "noattr") => `(tactic| fail)
set_option hygiene false in
local macro_rules | `(tactic| walk_at "look") => `(tactic| fail)
set_option hygiene false in
local macro_rules | `(tactic| walk_at "putf") => `(tactic| fail)
set_option hygiene false in
local macro_rules | `(tactic| walk_at "flen") => `(tactic| first | (fail) | (simp; done))
set_option hygiene false in
local macro_rules | `(tactic| walk_at "len") => `(tactic| first | with_reducible assumption | exact Sl.sz (by first | decide | omega | (simp only [List.length_cons, List.length_nil, List.length_append, List.length_map, List.length_set, List.length_replicate, List.length_range] <;> omega)))
set_option hygiene false in
local macro_rules | `(tactic| walk_at "lenlt") => `(tactic| first | with_reducible assumption | exact Sl.szlt (by first | decide | omega | (simp only [List.length_cons, List.length_nil, List.length_append, List.length_map, List.length_set, List.length_replicate, List.length_range] <;> omega)))
set_option hygiene false in
local macro_rules | `(tactic| walk_at "dlook") => `(tactic| first | with_reducible assumption | (first | with_reducible exact stK_g_cells | with_reducible exact stK_g_left | with_reducible exact stK_g_at))
set_option hygiene false in
local macro_rules | `(tactic| walk_at "dput") => `(tactic| first | with_reducible exact stK_p_cells | with_reducible exact stK_p_left | with_reducible exact stK_p_at)
set_option hygiene false in
local macro_rules | `(tactic| walk_at "dlen") => `(tactic| first | (first | with_reducible exact stK_len) | walk_at "lenlt")
set_option hygiene false in
local macro_rules | `(tactic| walk_at "flat") => `(tactic| first | with_reducible exact Sl.flat_ints _ | rfl | with_reducible assumption)
set_option hygiene false in
local macro_rules | `(tactic| walk_at "disp") => `(tactic| first | fail | (refine Sl.r_dispE hs (by walk_at "put") (kvs := [(.inr "cells", _), (.inr "left", _), (.inr "at", _)]) rfl (Nat.le_of_ble_eq_true rfl) stK_disp ?_; (try clear hs); intro H hs))
set_option hygiene false in
local macro_rules | `(tactic| walk_at "num") => `(tactic| first | decide | omega | assumption)
set_option hygiene false in
local macro_rules | `(tactic| walk_at "rng") => `(tactic| first | omega | (simp only [List.length_map]; omega) | (simp only [List.length_map]; (repeat' split) <;> omega))
set_option hygiene false in
local macro_rules | `(tactic| walk_at "kb") => `(tactic| first | with_reducible exact Sl.kb_int_int | with_reducible exact Sl.kb_int_bool | with_reducible exact Sl.kb_int_str | with_reducible exact Sl.kb_int_list | with_reducible exact Sl.kb_int_tuple | with_reducible exact Sl.kb_int_dict | with_reducible exact Sl.kb_bool_int | with_reducible exact Sl.kb_bool_bool | with_reducible exact Sl.kb_bool_str | with_reducible exact Sl.kb_bool_list | with_reducible exact Sl.kb_bool_tuple | with_reducible exact Sl.kb_bool_dict | with_reducible exact Sl.kb_str_int | with_reducible exact Sl.kb_str_bool | with_reducible exact Sl.kb_str_str | with_reducible exact Sl.kb_str_list | with_reducible exact Sl.kb_str_tuple | with_reducible exact Sl.kb_str_dict | with_reducible exact Sl.kb_list_int | with_reducible exact Sl.kb_list_bool | with_reducible exact Sl.kb_list_str | with_reducible exact Sl.kb_list_list | with_reducible exact Sl.kb_list_tuple | with_reducible exact Sl.kb_list_dict | with_reducible exact Sl.kb_tuple_int | with_reducible exact Sl.kb_tuple_bool | with_reducible exact Sl.kb_tuple_str | with_reducible exact Sl.kb_tuple_list | with_reducible exact Sl.kb_tuple_tuple | with_reducible exact Sl.kb_tuple_dict | with_reducible exact Sl.kb_dict_int | with_reducible exact Sl.kb_dict_bool | with_reducible exact Sl.kb_dict_str | with_reducible exact Sl.kb_dict_list | with_reducible exact Sl.kb_dict_tuple | with_reducible exact Sl.kb_dict_dict | with_reducible exact Sl.kb_NoneType_int | with_reducible exact Sl.kb_NoneType_bool | with_reducible exact Sl.kb_NoneType_str | with_reducible exact Sl.kb_NoneType_list | with_reducible exact Sl.kb_NoneType_tuple | with_reducible exact Sl.kb_NoneType_dict)
set_option hygiene false in
local macro_rules | `(tactic| walk_at "ty") => `(tactic| first | exact .base (.int _) | exact .base .non | exact .base (.bl _) | exact .base (.str _) | exact .base (.lst (by walk_at "get")) | exact .base (.tup (by walk_at "get")) | exact .base (.dK (by walk_at "get")))
set_option hygiene false in
local macro_rules | `(tactic| walk_at "st") => `(tactic| first
  | with_reducible refine Sl.r_seq ?_
  | with_reducible refine Sl.r_asg ?_
  | with_reducible refine Sl.r_gName ?_
  | with_reducible refine Sl.r_cons ?_
  | with_reducible refine Sl.r_nil ?_
  | ((with_reducible show tVar _ _ _ _); refine Sl.r_var rfl ?_)
  | with_reducible refine Sl.r_c ?_
  | with_reducible refine Sl.r_op ?_
  | with_reducible refine Sl.r_ret ?_
  | with_reducible refine Sl.r_drop ?_
  | with_reducible refine Sl.r_ifS ?_
  | with_reducible refine Sl.r_test ?_
  | with_reducible refine Sl.r_tB ?_
  | with_reducible refine Sl.r_isb ?_
  | with_reducible refine Sl.r_call ?_
  | with_reducible refine Sl.r_fld ?_
  | with_reducible refine Sl.r_sFld ?_
  | with_reducible refine Sl.r_meth ?_
  | with_reducible refine Sl.r_make ?_
  | with_reducible refine Sl.r_cB ?_
  | with_reducible refine Sl.r_tup ?_
  | with_reducible refine Sl.r_lst ?_
  | with_reducible refine Sl.r_bm ?_
  | with_reducible refine Sl.r_bm0 ?_
  | with_reducible refine Sl.r_sl ?_
  | with_reducible refine Sl.r_noPart ?_
  | with_reducible refine Sl.r_part ?_
  | with_reducible refine Sl.r_partK ?_
  | with_reducible refine Sl.r_gSub ?_
  | with_reducible refine Sl.r_tAnd ?_
  | with_reducible refine Sl.r_tOr ?_
  | with_reducible refine Sl.r_tNot ?_
  | with_reducible refine Sl.r_tIf ?_
  | with_reducible refine Sl.r_un ?_
  | with_reducible refine Sl.r_rU ?_
  | with_reducible refine Sl.r_andV ?_
  | with_reducible refine Sl.r_andK ?_
  | with_reducible refine Sl.r_orV ?_
  | with_reducible refine Sl.r_orK ?_
  | with_reducible refine Sl.r_notV ?_
  | with_reducible refine Sl.r_notK ?_
  | with_reducible refine Sl.r_iteNT ?_
  | with_reducible refine Sl.r_iteNF ?_
  | ((with_reducible show Sl.rIsiU _ [_, .ty _] _ _); refine Sl.r_isi (.ty _) (by walk_at "ty") (by walk_at "kb") ?_)
  | with_reducible refine Sl.r_iteY ?_
  | with_reducible refine Sl.r_iteZ ?_
  | with_reducible refine Sl.r_next ?_
  | with_reducible refine Sl.r_retN ?_
  | with_reducible refine Sl.r_break ?_
  | with_reducible refine Sl.r_cont ?_
  | with_reducible refine Sl.r_I0 ?_
  | with_reducible refine Sl.r_addI ?_
  | ((with_reducible show Sl.rMulU _ (.int _) (.int _) _ _); refine Sl.r_mulI (by walk_at "mul") ?_)
  | ((with_reducible show Sl.rDivU (.int _) (.int _) _ _); first | refine Sl.r_divI (by first | decide | omega) ?_ | refine Sl.r_divW (by first | decide | omega) ?_)
  | ((with_reducible show rI (fun _ j => 0 < j) _ (.int _) (.int _) _ _); refine Sl.r_modI (by walk_at "num") ?_)
  | ((with_reducible show rI CPow _ (.int _) (.int _) _ _); refine Sl.r_I (by walk_at "pow") ?_)
  | with_reducible refine Sl.r_eqI ?_
  | with_reducible refine Sl.r_neI ?_
  | with_reducible refine Sl.r_eqS ?_
  | with_reducible refine Sl.r_neS ?_
  | with_reducible refine Sl.r_eqB ?_
  | with_reducible refine Sl.r_neB ?_
  | with_reducible refine Sl.r_isN ?_
  | with_reducible refine Sl.r_notN ?_
  | ((with_reducible show Sl.AllocT _ _ _); refine Sl.r_newT hs (by walk_at "len") ?_; (try clear hs); intro q_ H hs)
  | ((with_reducible show Sl.AllocL _ _ _); refine Sl.r_newL hs (by walk_at "len") ?_; (try clear hs); intro q_ H hs)
  | ((with_reducible show Sl.FldK _ _ _ _ _); refine Sl.r_fldK (by walk_at "get") (by walk_at "cls") (by walk_at "noattr") (by walk_at "look") ?_)
  | ((with_reducible show Sl.SFldK _ _ _ _ _ _); refine Sl.r_sFldK hs (by walk_at "put") (by walk_at "putf") (by walk_at "cls") (by walk_at "noattr") (by walk_at "flen") ?_; (try clear hs); intro H hs)
  | ((with_reducible show Sl.MethK _ _ _ _ _); first | refine Sl.r_methK (by walk_at "get") (by walk_at "look") ?_ | walk_at "meth" | (walk_at "ins"; refine Sl.r_methK (by walk_at "get") (by walk_at "look") ?_))
  | ((with_reducible show Sl.MakeK _ _ _ _ _ _ _); refine Sl.r_makeK hs ?_; (try clear hs); intro q_ dx_ H hs)
  | ((with_reducible show tyV _ "list" _ _ ∧ _); refine Sl.r_tyL (by walk_at "sq") ?_)
  | ((with_reducible show tyV _ "dict" _ _ ∧ _); refine Sl.r_tyD (by walk_at "get") ?_)
  | ((with_reducible show rAppend _ _ _ _); refine Sl.r_append hs (by walk_at "put") (by walk_at "lenlt") ?_; (try clear hs); intro H hs)
  | ((with_reducible show rExtend _ _ _ _); refine Sl.r_extend hs (by walk_at "put") (by walk_at "get") (by walk_at "len") ?_; (try clear hs); intro H hs)
  | ((with_reducible show rClear _ _ _ _); refine Sl.r_clear hs (by walk_at "put") ?_; (try clear hs); intro H hs)
  | ((with_reducible show rSlL _ _ _ _ _ _); refine Sl.r_slL hs (by walk_at "sq") ?_; (try clear hs); intro q_ H hs)
  | ((with_reducible show Sl.rAddU _ (.ref _) (.ref _) _ _); refine Sl.r_addL hs (by walk_at "get") (by walk_at "get") (by walk_at "len") ?_; (try clear hs); intro q_ H hs)
  | ((with_reducible show Sl.rMulU _ (.ref _) (.int _) _ _); first | (refine Sl.r_mulL hs (by walk_at "get") (by omega) (by walk_at "len") ?_; (try clear hs); intro q_ H hs) | (refine Sl.r_mulT hs (by walk_at "sqt") (by exact List.cons_ne_nil _ _) (by omega) (by exact Nat.le_of_ble_eq_true rfl) ?_; (try clear hs); intro q_ H hs))
  | ((with_reducible show tDNewK _ _ _); refine Sl.r_dnew hs ?_; (try clear hs); intro q_ H hs)
  | ((with_reducible show tDisp _ _ _ _); refine Sl.r_disp hs ?_; (try clear hs); intro q_ H hs)
  | ((with_reducible show Sl.rIxU _ (.ref _) (.str _) _ _); refine Sl.r_ixDs (by walk_at "get") (by walk_at "dlook") ?_)
  | ((with_reducible show Sl.rIxU _ (.ref _) (.int _) _ _); first | refine Sl.r_ixL (by walk_at "sq") (by rfl) ?_ | refine Sl.r_ixT (by walk_at "sqt") (by rfl) ?_ | refine Sl.r_ixDi (by walk_at "get") (by with_reducible assumption) ?_)
  | ((with_reducible show Sl.rSetU (.ref _) (.str _) _ _ _); refine Sl.r_setDs hs (by walk_at "put") (by walk_at "dput") (by walk_at "dlen") ?_; (try clear hs); intro H hs)
  | ((with_reducible show Sl.rInU _ false _ (.ref _) _ _); first | refine Sl.r_inL (by walk_at "sq") rfl (by walk_at "flat") ?_ | refine Sl.r_inT (by walk_at "sqt") rfl (by walk_at "flat") ?_ | refine Sl.r_inDi (by walk_at "get") ?_ | refine Sl.r_inDs (by walk_at "get") ?_)
  | ((with_reducible show Sl.rInU _ true _ (.ref _) _ _); first | refine Sl.r_niL (by walk_at "sq") rfl (by walk_at "flat") ?_ | refine Sl.r_niT (by walk_at "sqt") rfl (by walk_at "flat") ?_ | refine Sl.r_niDi (by walk_at "get") ?_ | refine Sl.r_niDs (by walk_at "get") ?_)
  | ((with_reducible show Sl.GetE1 _ _ (.int _) _); refine Sl.r_get1i (by walk_at "get") ?_)
  | ((with_reducible show Sl.GetE2 _ (.int _) _ _ _); refine Sl.r_get2i (by walk_at "get") ?_)
  | ((with_reducible show Sl.DispE _ _ _ _); walk_at "disp")
  | with_reducible refine Sl.r_for ?_
  | with_reducible refine Sl.r_lc ?_
  | with_reducible refine Sl.r_rng1 ?_
  | with_reducible refine Sl.r_rng2 ?_
  | with_reducible refine Sl.r_iList ?_
  | with_reducible refine Sl.r_iTup ?_
  | with_reducible refine Sl.r_iEnum ?_
  | with_reducible refine Sl.r_iZip ?_
  | ((with_reducible show Sl.Rng1K _ _ _); refine Sl.r_rng1K (by walk_at "rng") ?_)
  | ((with_reducible show Sl.Rng2K _ _ _); refine Sl.r_rng2K (by walk_at "rng") ?_)
  | ((with_reducible show Sl.ListK _ _ _ _); refine Sl.r_listK (by walk_at "sq") ?_)
  | ((with_reducible show Sl.TupK _ _ _ _); refine Sl.r_tupK (by walk_at "sqt") ?_)
  | ((with_reducible show Sl.EnumK _ _ _ _); refine Sl.r_enumK (by walk_at "sq") ?_)
  | ((with_reducible show Sl.ZipK _ _ _ _); refine Sl.r_zipK (by walk_at "sq") (by walk_at "sq") ?_)
  | ((with_reducible show gTup _ _ _ (.ref _) _ (upd _ _ _) _); refine Sl.r_gTupNew hs (by with_reducible assumption) rfl ?_; (try clear hs); intro H hs)
  | ((with_reducible show gTup _ _ _ (.ref _) _ _ _); refine Sl.r_gTup (by walk_at "sqt") rfl ?_)
  | with_reducible refine Sl.r_gCons ?_
  | with_reducible refine Sl.r_gNil ?_
  | with_reducible refine Sl.r_yes ?_
  | ((with_reducible show wipe _ _ = wipe _ _ ∧ _); refine ⟨rfl, ?_⟩)
  | ((with_reducible show Sl.AppK _ _ _ _); refine Sl.r_appK hs (by walk_at "put") (by walk_at "lenlt") ?_; (try clear hs); intro H hs)
  | ((with_reducible show Sl.rEqU _ _ _ _ _); refine Sl.r_eqV (by rfl) ?_)
  | ((with_reducible show Sl.rNeU _ _ _ _ _); refine Sl.r_neV (by rfl) ?_)
  | with_reducible refine Sl.r_pairsN ?_
  | with_reducible refine Sl.r_pairsC ?_
  | with_reducible refine Sl.r_dget1 ?_
  | with_reducible refine Sl.r_dget2 ?_
  | ((with_reducible show Sl.IsDK _ _ _); refine Sl.r_isD (by walk_at "get") ?_)
  | ((with_reducible show Sl.rLenU _ _ _ _); first | refine Sl.r_lenL (by walk_at "sq") ?_ | refine Sl.r_lenT (by walk_at "sqt") ?_ | refine Sl.r_lenD (by walk_at "get") ?_)
  | ((with_reducible show Sl.rRepr _ [.int _] _ _); refine Sl.r_reprI (by walk_at "small") ?_)
  | with_reducible refine Sl.r_reprN ?_
  | ((with_reducible show Sl.rIsA _ [_, .ty _] _ _); first | refine Sl.r_isAU (Sl.r_isi (.ty _) (by walk_at "ty") (by walk_at "kb") ?_) | refine Sl.r_isErrT (by walk_at "get") (by walk_at "ec") (by walk_at "ki") ?_)
  | ((with_reducible show Sl.rIsA _ [.ref _, .ref _] _ _); refine Sl.r_isErr (by walk_at "get") (by walk_at "ec") (by walk_at "ki") ?_)
  | with_reducible refine Sl.r_isBl ?_
  | with_reducible refine Sl.r_notBl ?_
  | with_reducible refine Sl.r_raise ?_
  | with_reducible refine Sl.r_callS ?_
  | with_reducible refine Sl.r_methS ?_
  | with_reducible refine Sl.r_methS0 ?_
  | with_reducible refine Sl.r_makeS ?_
  | with_reducible refine Sl.r_lenSet ?_
  | with_reducible refine Sl.r_par2 ?_
  | with_reducible refine Sl.r_parK ?_
  | with_reducible refine Sl.r_chain ?_
  | with_reducible refine Sl.r_chK ?_
  | with_reducible refine Sl.r_augS ?_
  | with_reducible refine Sl.r_ipI ?_
  | with_reducible refine Sl.r_fldaug ?_
  | ((with_reducible show Sl.AugK _ _ _ _ _ _ _ _); refine Sl.r_augK (by walk_at "get") (by walk_at "cls") (by walk_at "noattr") (by walk_at "look") ?_)
  | ((with_reducible show Sl.AugF _ _ _ _ _ _); refine Sl.r_augF hs (by walk_at "put") (by walk_at "putf") (by walk_at "flen") ?_; (try clear hs); intro H hs)
  | with_reducible refine Sl.r_aAdd ?_
  | with_reducible refine Sl.r_aSub ?_
  | with_reducible refine Sl.r_keys ?_
  | ((with_reducible show Sl.KeysK _ _ _); refine Sl.r_keysK (by walk_at "get") ?_)
  | with_reducible refine Sl.r_dpop1 ?_
  | ((with_reducible show Sl.UnlK _ _ _ _ _ _); refine Sl.r_unl hs (by walk_at "put") ?_; (try clear hs); intro H hs)
  | with_reducible refine Sl.r_abs ?_
  | with_reducible refine Sl.r_max2 ?_
  | with_reducible refine Sl.r_min2 ?_
  | with_reducible refine Sl.r_int1b ?_
  | with_reducible refine Sl.r_int1 ?_
  | ((with_reducible show Sl.rListOf _ _ _ _); first | refine Sl.r_listL hs (by walk_at "sq") fun q_ H hs => ?_ | refine Sl.r_listT hs (by walk_at "sqt") fun q_ H hs => ?_)
  | ((with_reducible show Sl.rTupleOf _ _ _ _); first | refine Sl.r_tupleL hs (by walk_at "sq") fun q_ H hs => ?_ | refine Sl.r_tupleT (by walk_at "sqt") ?_))
set_option hygiene false in
local macro_rules | `(tactic| walk_at "mul") => `(tactic| first | (left; constructor <;> omega) | (right; constructor <;> omega))
set_option hygiene false in
local macro_rules | `(tactic| walk_at "pow") => `(tactic| exact ⟨by decide, by decide, by decide⟩)
set_option hygiene false in
local macro_rules | `(tactic| walk_at "run") => `(tactic| repeat walk_at "st")
set_option hygiene false in
local macro_rules | `(tactic| walk_at "call") => `(tactic| first | refine ⟨_, rfl, ?_, Hd.mt (by walk_at "mt") hs, ?_⟩ | refine ⟨_, _, rfl, ?_, Hd.mt (by walk_at "mt") hs, ?_⟩ | refine ⟨_, _, _, rfl, ?_, Hd.mt (by walk_at "mt") hs, ?_⟩ | refine ⟨_, _, _, _, rfl, ?_, Hd.mt (by walk_at "mt") hs, ?_⟩ | refine ⟨_, _, _, _, _, rfl, ?_, Hd.mt (by walk_at "mt") hs, ?_⟩ | refine ⟨_, _, _, _, _, _, rfl, ?_, Hd.mt (by walk_at "mt") hs, ?_⟩ | refine ⟨_, _, _, _, _, _, _, rfl, ?_, Hd.mt (by walk_at "mt") hs, ?_⟩ | refine ⟨_, _, _, _, _, _, _, _, rfl, ?_, Hd.mt (by walk_at "mt") hs, ?_⟩ | refine ⟨_, _, _, _, _, _, _, _, _, rfl, ?_, Hd.mt (by walk_at "mt") hs, ?_⟩ | refine ⟨_, _, _, _, _, _, _, _, _, _, rfl, ?_, Hd.mt (by walk_at "mt") hs, ?_⟩ | refine ⟨_, _, _, _, _, _, _, _, _, _, _, rfl, ?_, Hd.mt (by walk_at "mt") hs, ?_⟩)
set_option hygiene false in
local macro_rules | `(tactic| walk_at "callN") => `(tactic| first | refine ⟨_, rfl, Hd.mt (by walk_at "mt") hs, ?_⟩ | refine ⟨_, _, rfl, Hd.mt (by walk_at "mt") hs, ?_⟩ | refine ⟨_, _, _, rfl, Hd.mt (by walk_at "mt") hs, ?_⟩ | refine ⟨_, _, _, _, rfl, Hd.mt (by walk_at "mt") hs, ?_⟩ | refine ⟨_, _, _, _, _, rfl, Hd.mt (by walk_at "mt") hs, ?_⟩ | refine ⟨_, _, _, _, _, _, rfl, Hd.mt (by walk_at "mt") hs, ?_⟩ | refine ⟨_, _, _, _, _, _, _, rfl, Hd.mt (by walk_at "mt") hs, ?_⟩ | refine ⟨_, _, _, _, _, _, _, _, rfl, Hd.mt (by walk_at "mt") hs, ?_⟩ | refine ⟨_, _, _, _, _, _, _, _, _, rfl, Hd.mt (by walk_at "mt") hs, ?_⟩)
set_option hygiene false in
local macro_rules | `(tactic| walk_at "side") => `(tactic| first | assumption | omega | (and_intros <;> first | assumption | omega | decide | rfl))
set_option hygiene false in
local macro_rules | `(tactic| walk_at "go") => `(tactic| (walk_at "call"; (focus walk_at "side"); (try clear hs); intro H hs; walk_at "run"))
set_option hygiene false in
local macro_rules | `(tactic| walk_at "goN") => `(tactic| (walk_at "callN"; (try clear hs); intro H hs; walk_at "run"))
set_option hygiene false in
local macro_rules | `(tactic| walk_at "small") => `(tactic| first | with_reducible assumption | omega)
set_option hygiene false in
local macro_rules | `(tactic| walk_at "ec") => `(tactic| first | with_reducible exact T.ec_NoWord)
set_option hygiene false in
local macro_rules | `(tactic| walk_at "ki") => `(tactic| first | with_reducible exact T.ki_NoWord_KeelError | with_reducible exact T.ki_NoWord_NoWord | with_reducible exact T.ki_NoWord_NoCode | with_reducible exact T.ki_NoWord_Reach | with_reducible exact T.ki_NoWord_Room | with_reducible exact T.ki_NoWord_BadSize | with_reducible exact T.ki_NoWord_NoTask | with_reducible exact T.ki_NoWord_Full | with_reducible exact T.ki_NoWord_NoChild | with_reducible exact T.ki_NoWord_ValueError)

section
variable {P : Program} {w : World} {K : PySem.W.Frag} {mg : Str → Option Value} {base : Heap}

/-- what isinstance knows of -/
inductive Kn (H : Hp) : V → Prop
  | int (n : Int) : Kn H (.int n)
  | bl (b : Bool) : Kn H (.bl b)
  | non : Kn H .non
  | str (z : Str) : Kn H (.str z)
  | lst {a : Addr} {xs : List V} (e : H a = some (.lst xs)) : Kn H (.ref a)
  | tup {a : Addr} {xs : List V} (e : H a = some (.tup xs)) : Kn H (.ref a)
  | dK {a : Addr} {kvs : List (Key × V)} (e : H a = some (.dK kvs)) : Kn H (.ref a)
def isN : V → Bool
  | .int _ => true
  | _ => false
def amg (v : V) (lo hi : Int) : Bool := match v with
  | .int n => decide (lo ≤ n) && decide (n ≤ hi)
  | _ => false
theorem amg_int {v : V} {lo hi : Int} (h : amg v lo hi = true) : ∃ n, v = .int n ∧ lo ≤ n ∧ n ≤ hi := by
  cases v with
  | int n => exact ⟨n, rfl, by simpa [amg] using h⟩
  | _ => cases h

def sp_is_whole (T : Txt K mg) : Sp := fun vs H Q _ => ∃ v, vs = [v] ∧ Kn H v ∧ Q (.bl (isN v)) H
theorem ok_is_whole (T : Txt K mg) : FnOk P w K mg base CX0 1 T.a_is_whole T.d_is_whole ["thing"] (sp_is_whole T) := by
  refine T.f_is_whole.ok sc_is_whole (fun vs H Q E h => ?_) (fun cdv A outer s H vs Q E hr h => ?_)
  · obtain ⟨v, rfl, _⟩ := h
    rfl
  · obtain ⟨v, rfl, h⟩ := h
    refine ⟨_, (pss_one (ps_ret (pe_and (pe_callB (k_isA (K := K) rfl) (by rfl) T.n_isinstance (by decide +kernel) (pa_cons (pv 0) (pa_cons (pe_bltn (v := .ty "int") (by rfl) T.n_int (by decide +kernel) rfl) pa_nil))) (pe_one (pe_not (pe_callB (k_isA (K := K) rfl) (by rfl) T.n_isinstance (by decide +kernel) (pa_cons (pv 0) (pa_cons (pe_bltn (v := .ty "bool") (by rfl) T.n_bool (by decide +kernel) rfl) pa_nil)))))))), ?_⟩
    try dsimp only [cxOf]
    obtain ⟨kn, q⟩ := h
    walk_at "run"
    cases kn <;> (walk_at "run"; exact q)
def sp_is_among (T : Txt K mg) : Sp := fun vs H Q _ => ∃ v lo hi, vs = [v, .int lo, .int hi] ∧ Kn H v ∧ Q (.bl (amg v lo hi)) H
theorem ok_is_among (T : Txt K mg) : FnOk P w K mg base CX0 2 T.a_is_among T.d_is_among ["thing", "least", "most"] (sp_is_among T) := by
  refine T.f_is_among.ok sc_is_among (fun vs H Q E h => ?_) (fun cdv A outer s H vs Q E hr h => ?_)
  · obtain ⟨v, lo, hi, rfl, _⟩ := h
    rfl
  · obtain ⟨v, lo, hi, rfl, h⟩ := h
    refine ⟨_, (pss_one (ps_ret (pe_and (pe_call (ok_is_whole T) hr (by rfl) T.g_is_whole T.f_is_whole.kp T.b_is_whole .nil pass0 (pa_cons (pv 0) pa_nil)) (pe_one (pe_chain op_le op_le (pv 1) (pv 0) (pv 2)))))), ?_⟩
    try dsimp only [cxOf]
    obtain ⟨kn, q⟩ := h
    walk_at "run"
    refine ⟨v, rfl, kn, ?_⟩
    cases v with
    | int n =>
      dsimp only [isN]
      walk_at "run"
      dsimp only [amg] at q
      refine Sl.r_iteD (fun z => ?_) (fun z => ?_)
      · walk_at "run"
        rw [decide_eq_true z, Bool.true_and] at q
        exact q
      · walk_at "run"
        rw [decide_eq_false z, Bool.false_and] at q
        exact q
    | _ =>
      dsimp only [isN]
      walk_at "run"
      exact q
def sp_is_word (T : Txt K mg) : Sp := fun vs H Q _ => ∃ v, vs = [v] ∧ Kn H v ∧ Q (.bl (amg v 0 65535)) H
theorem ok_is_word (T : Txt K mg) : FnOk P w K mg base CX0 3 T.a_is_word T.d_is_word ["thing"] (sp_is_word T) := by
  refine T.f_is_word.ok sc_is_word (fun vs H Q E h => ?_) (fun cdv A outer s H vs Q E hr h => ?_)
  · obtain ⟨v, rfl, _⟩ := h
    rfl
  · obtain ⟨v, rfl, h⟩ := h
    refine ⟨_, (pss_one (ps_ret (pe_call (ok_is_among T) hr (by rfl) T.g_is_among T.f_is_among.kp T.b_is_among .nil pass0 (pa_cons (pv 0) (pa_cons pe_int (pa_cons (pe_op (k_sub (K := K) rfl) (pe_glob (v := .int 65536) (by rfl) T.g_WORDS.choose_spec ⟨_, rfl⟩) pe_int) pa_nil)))))), ?_⟩
    try dsimp only [cxOf]
    obtain ⟨kn, q⟩ := h
    walk_at "run"
    exact ⟨v, 0, 65535, rfl, kn, q⟩
def sp_need_word (T : Txt K mg) : Sp := fun vs H Q E => ∃ v, vs = [v] ∧ Kn H v ∧ (amg v 0 65535 = true → Q v H) ∧ (amg v 0 65535 = false → E (.ref T.x_NoWord) none H)
theorem ok_need_word (T : Txt K mg) : FnOk P w K mg base (L2.CX P w) 4 T.a_need_word T.d_need_word ["thing"] (sp_need_word T) := by
  refine T.f_need_word.okX sc_need_word (fun vs H Q E h => ?_) (fun cdv A outer s H vs Q E hr h => ?_)
  · obtain ⟨v, rfl, _⟩ := h
    rfl
  · obtain ⟨v, rfl, h⟩ := h
    refine ⟨_, (pss_cons (ps_if (pt_not (pt_val (pe_call (ok_is_word T) hr (by rfl) T.g_is_word T.f_is_word.kp T.b_is_word .nil pass0 (pa_cons (pv 0) pa_nil))))
        (pss_one (ps_raiseE rfl (takes_of rfl rfl rfl rfl) T.e_NoWord (by rfl)))
        pss_nil)
       (pss_one (ps_ret (pv 0)))), ?_⟩
    try dsimp only [cxOf]
    obtain ⟨kn, q1, q2⟩ := h
    walk_at "run"
    refine ⟨v, rfl, kn, ?_⟩
    cases e : amg v 0 65535 with
    | true =>
      walk_at "run"
      exact q1 e
    | false =>
      walk_at "run"
      exact q2 e
end
section
variable {P : Program} {w : World} {K : PySem.W.Frag} {mg : Str → Option Value} {base : Heap}

/-- the law's own source of numbers; c: its cells -/
def stA (C0 d : Addr) (cs : List Int) : SA := fun H => ∃ (l : Addr) (ls : List Int) (at_ : Int), ls.length = cs.length ∧ 0 ≤ at_ ∧ Hd [pto d (.dK (stK (.ref C0) (.ref l) (.int at_))), pto l (.lst (ls.map V.int))] H
theorem st_open {C0 d : Addr} {cs : List Int} {L : List SA} {H : Hp} (h : Hd (stA C0 d cs :: L) H) : ∃ (l : Addr) (ls : List Int) (at_ : Int), ls.length = cs.length ∧ 0 ≤ at_ ∧ Hd (pto d (.dK (stK (.ref C0) (.ref l) (.int at_))) :: pto l (.lst (ls.map V.int)) :: L) H := by
  obtain ⟨H1, H2, c, s1, s2, ⟨l, ls, a, e, f, p⟩, q⟩ := h
  exact ⟨l, ls, a, e, f, Hd.open (M := [_, _]) ⟨H1, H2, c, s1, s2, p, q⟩⟩
theorem st_close {C0 d l : Addr} {cs ls : List Int} {at_ : Int} {L : List SA} {H : Hp} (e : ls.length = cs.length) (f : 0 ≤ at_) (h : Hd (pto d (.dK (stK (.ref C0) (.ref l) (.int at_))) :: pto l (.lst (ls.map V.int)) :: L) H) : Hd (stA C0 d cs :: L) H :=
  (Hd.close (M := [_, _]) h).imp fun _ z => ⟨l, ls, at_, e, f, z⟩

def sp_law_mixed (T : Txt K mg) : Sp := fun vs H Q _ => ∃ (c k : Int), vs = [.int c, .int k] ∧ (0 ≤ k ∧ k ≤ 1000000) ∧ ∀ r, 0 ≤ r → r < 2147483629 → Q (.int r) H
theorem ok_law_mixed (T : Txt K mg) : FnOk P w K mg base CX0 1 T.a_law_mixed T.d_law_mixed ["_law_cell", "_law_k"] (sp_law_mixed T) := by
  refine T.f_law_mixed.ok sc_law_mixed (fun vs H Q E h => ?_) (fun cdv A outer s H vs Q E hr h => ?_)
  · obtain ⟨c, k, rfl, _⟩ := h
    rfl
  · obtain ⟨c, k, rfl, h⟩ := h
    refine ⟨_, (pss_one (ps_ret (pe_op (k_mod (K := K) rfl) (pe_op (k_mul (K := K) rfl) (pe_op (k_mod (K := K) rfl) (pe_op (k_add (K := K) rfl) (pe_op (k_add (K := K) rfl) (pe_op (k_mul (K := K) rfl) (pv 0) (pe_op (k_add (K := K) rfl) pe_int (pe_op (k_mul (K := K) rfl) (pe_op (k_mul (K := K) rfl) pe_int (pv 1)) (pv 1)))) (pe_op (k_mul (K := K) rfl) pe_int (pv 1))) pe_int) pe_int) pe_int) pe_int))), ?_⟩
    try dsimp only [cxOf]
    obtain ⟨hk, q⟩ := h
    have hkk : 0 ≤ k * k ∧ k * k ≤ 1000000000000 := ⟨Int.mul_nonneg hk.1 hk.1, Int.le_trans (Int.mul_le_mul hk.2 hk.2 hk.1 (by decide)) (by decide)⟩
    have hk2 : 0 ≤ 2 * k * k ∧ 2 * k * k ≤ 2000000000000 := by rw [Int.mul_assoc]; omega
    walk_at "run"
    exact q _ (Int.emod_nonneg _ (by decide)) (Int.emod_lt_of_pos _ (by decide))
def sp_law_begun (T : Txt K mg) : Sp := fun vs H Q _ => ∃ (a : Addr) (ns : List Int) (L : List SA), vs = [.ref a] ∧ Hd (sql K a (ns.map V.int) :: L) H ∧ ∀ d H', Hd (stA a d ns :: sql K a (ns.map V.int) :: L) H' → Q (.ref d) H'
theorem ok_law_begun (T : Txt K mg) : FnOk P w K mg base CX0 1 T.a_law_begun T.d_law_begun ["_law_script"] (sp_law_begun T) := by
  refine T.f_law_begun.ok sc_law_begun (fun vs H Q E h => ?_) (fun cdv A outer s H vs Q E hr h => ?_)
  · obtain ⟨a, ns, L, rfl, _⟩ := h
    rfl
  · obtain ⟨a, ns, L, rfl, h⟩ := h
    refine ⟨_, (pss_one (ps_ret (pe_disp (pps_cons pe_str (pv 0) (pps_cons pe_str (pe_callTy (k_list (K := K) rfl) (by rfl) T.n_list (by decide +kernel) (pa_cons (pv 0) pa_nil)) (pps_cons pe_str pe_int pps_nil))) (by rfl) (by rfl) (fun z => by cases z) (by decide)))), ?_⟩
    try dsimp only [cxOf]
    obtain ⟨hs, q⟩ := h
    walk_at "run"
    exact q _ _ (st_close rfl (Int.le_refl 0) (Hd.mt (by walk_at "mt") hs))
def sp_law_next (T : Txt K mg) : Sp := fun vs H Q _ => ∃ (d a : Addr) (ns : List Int) (L : List SA), vs = [.ref d] ∧ ns.length ≤ 63 ∧ Hd (stA a d ns :: sql K a (ns.map V.int) :: L) H ∧ ∀ r H', 0 ≤ r → r < 2147483647 → Hd (stA a d ns :: sql K a (ns.map V.int) :: L) H' → Q (.int r) H'
theorem ok_law_next (T : Txt K mg) : FnOk P w K mg base CX0 2 T.a_law_next T.d_law_next ["_law_state"] (sp_law_next T) := by
  refine T.f_law_next.ok sc_law_next (fun vs H Q E h => ?_) (fun cdv A outer s H vs Q E hr h => ?_)
  · obtain ⟨d, a, ns, L, rfl, _⟩ := h
    rfl
  · obtain ⟨d, a, ns, L, rfl, h⟩ := h
    refine ⟨_, (pss_cons (ps_asg (pe_op (k_add (K := K) rfl) (pe_ix (k_ix (K := K) rfl (hu_of hr)) (pv 0) pe_str (fun _ _ => rfl)) pe_int) (pg_sub (pv 0) pe_str (u_set (hu_of hr))))
       (pss_cons (ps_set (i := 1) sc_law_next.nd rfl (by first | exact Or.inl rfl | exact Or.inr rfl) (pe_ix (k_ix (K := K) rfl (hu_of hr)) (pv 0) pe_str (fun _ _ => rfl)))
       (pss_cons (ps_if (pt_cmpR (k_eq (K := K) rfl hr.units) (pe_ix (k_ix (K := K) rfl (hu_of hr)) (pv 0) pe_str (fun _ _ => rfl)) (pe_lst pa_nil) (nomark _))
        (pss_one (ps_ret (pe_call (ok_law_mixed T) hr (by rfl) T.g_law_mixed T.f_law_mixed.kp T.b_law_mixed .nil pass0 (pa_cons (pe_op (k_mul (K := K) rfl) pe_int (pv 1)) (pa_cons (pe_op (k_mod (K := K) rfl) (pv 1) pe_int) pa_nil)))))
        pss_nil)
       (pss_cons (ps_set (i := 2) sc_law_next.nd rfl (by first | exact Or.inl rfl | exact Or.inr rfl) (pe_op (k_mod (K := K) rfl) (pv 1) (pe_callB (k_len (K := K) rfl) (by rfl) T.n_len (by decide +kernel) (pa_cons (pe_ix (k_ix (K := K) rfl (hu_of hr)) (pv 0) pe_str (fun _ _ => rfl)) pa_nil))))
       (pss_cons (ps_if (PW.pt (pw_and (pt_cmpR (k_eq (K := K) rfl hr.units) (pe_op (k_mod (K := K) rfl) (pe_ix (k_ix (K := K) rfl (hu_of hr)) (pe_ix (k_ix (K := K) rfl (hu_of hr)) (pv 0) pe_str (fun _ _ => rfl)) pe_int (fun _ _ => rfl)) pe_int) pe_int (nomark _)) (pw_and1 (pt_cmpR (k_notIn (K := K) rfl (hu_of hr)) (pe_ix (k_ix (K := K) rfl (hu_of hr)) (pe_ix (k_ix (K := K) rfl (hu_of hr)) (pv 0) pe_str (fun _ _ => rfl)) (pv 2) (fun _ _ => rfl)) (pe_tup (pa_cons pe_int (pa_cons (pe_un un_neg pe_int) pa_nil))) (by rfl)))))
        (pss_cons (ps_set (i := 3) sc_law_next.nd rfl (by first | exact Or.inl rfl | exact Or.inr rfl) (pe_op (k_mod (K := K) rfl) (pe_ix (k_ix (K := K) rfl (hu_of hr)) (pe_ix (k_ix (K := K) rfl (hu_of hr)) (pv 0) pe_str (fun _ _ => rfl)) (pv 2) (fun _ _ => rfl)) pe_int))
       (pss_cons (ps_asg (pe_op (k_div (K := K) rfl) (pe_ix (k_ix (K := K) rfl (hu_of hr)) (pe_ix (k_ix (K := K) rfl (hu_of hr)) (pv 0) pe_str (fun _ _ => rfl)) (pv 2) (fun _ _ => rfl)) pe_int) (pg_sub (pe_ix (k_ix (K := K) rfl (hu_of hr)) (pv 0) pe_str (fun _ _ => rfl)) (pv 2) (u_set (hu_of hr))))
       (pss_one (ps_ret (pv 3)))))
        pss_nil)
       (pss_one (ps_ret (pe_call (ok_law_mixed T) hr (by rfl) T.g_law_mixed T.f_law_mixed.kp T.b_law_mixed .nil pass0 (pa_cons (pe_op (k_add (K := K) rfl) (pe_ix (k_ix (K := K) rfl (hu_of hr)) (pe_ix (k_ix (K := K) rfl (hu_of hr)) (pv 0) pe_str (fun _ _ => rfl)) (pv 2) (fun _ _ => rfl)) (pe_op (k_mul (K := K) rfl) pe_int (pv 1))) (pa_cons (pe_op (k_mod (K := K) rfl) (pv 1) pe_int) pa_nil)))))))))), ?_⟩
    try dsimp only [cxOf]
    obtain ⟨hl, hs, q⟩ := h
    obtain ⟨l, ls, at_, el, h0, hs⟩ := st_open hs
    walk_at "run"
    refine Sl.r_eqNil (hs.sql (by walk_at "pull")) (hs.sq (by walk_at "pull")) ?_
    walk_at "run"
    have hk1 := Int.emod_nonneg (at_ + 1) (by decide : (1000 : Int) ≠ 0)
    have hk2 := Int.emod_lt_of_pos (at_ + 1) (by decide : (0 : Int) < 1000)
    refine Sl.r_ite (fun he => ?_) (fun he => ?_)
    · walk_at "run"
      refine ⟨_, _, rfl, ⟨hk1, by omega⟩, fun r r1 r2 => ?_⟩
      walk_at "run"
      exact q r _ r1 (by omega) (st_close (ls := ls) (at_ := at_ + 1) el (by omega) (Hd.mt (by walk_at "mt") hs))
    have hpos : 0 < ns.length := by
      cases ns with
      | nil => cases he
      | cons _ _ => exact Nat.succ_pos _
    have hpos2 : (0 : Int) < ((ns.map V.int).length : Int) := by rw [List.length_map]; omega
    walk_at "run"
    rw [List.length_map]
    obtain ⟨k, hk, hkl⟩ : ∃ k : Nat, (at_ + 1) % (ns.length : Int) = (k : Int) ∧ k < ns.length := by
      have h1 := Int.emod_nonneg (at_ + 1) (by omega : (ns.length : Int) ≠ 0)
      have h2 := Int.emod_lt_of_pos (at_ + 1) (by omega : (0 : Int) < (ns.length : Int))
      generalize (at_ + 1) % (ns.length : Int) = z at h1 h2
      exact ⟨z.toNat, by omega, by omega⟩
    rw [hk]
    have hkl2 : k < ls.length := by omega
    have at1 : ∀ {x : Int} {j : Nat} {xs : List Int}, xs[j]? = some x → atI (xs.map V.int) (j : Int) = some (.int x) := fun h => atI_nat (by rw [List.getElem?_map, h]; rfl)
    have g0 : ns[0]? = some ns[0] := by simp [hpos]
    have gk : ns[k]? = some ns[k] := by simp [hkl]
    have lk : ls[k]? = some ls[k] := by simp [hkl2]
    walk_at "run"
    have e0 : atI (ns.map V.int) 0 = some (.int ns[0]) := at1 g0
    refine Sl.r_ixL (hs.sql (by walk_at "pull")) e0 ?_
    walk_at "run"
    apply Sl.r_join (P := fun H => Hd (pto d (.dK (stK (.ref a) (.ref l) (.int (at_ + 1)))) :: pto l (.lst (ls.map V.int)) :: sql K a (ns.map V.int) :: L) H)
    · intro rest
      refine Sl.r_iteD (fun z => ?_) (fun z => ?_)
      · walk_at "run"
        refine Sl.r_ixL (hs.sq (a := l) (by walk_at "pull")) (at1 lk) ?_
        walk_at "run"
        refine Sl.r_ite (fun z => ?_) (fun z => ?_)
        · walk_at "run"
          refine Sl.r_ixL (hs.sq (a := l) (by walk_at "pull")) (at1 lk) ?_
          walk_at "run"
          refine Sl.r_ixL (hs.sq (a := l) (by walk_at "pull")) (at1 lk) ?_
          walk_at "run"
          refine Sl.r_setL (n := k) hs (by walk_at "put") (by rw [List.length_map]; exact hkl2) fun H hs => ?_
          rw [← List.map_set] at hs
          walk_at "run"
          exact q _ _ (Int.emod_nonneg _ (by decide)) (Int.emod_lt_of_pos _ (by decide)) (st_close (ls := ls.set k (ls[k] / 2147483647)) (at_ := at_ + 1) (by rw [List.length_set]; exact el) (by omega) (Hd.mt (by walk_at "mt") hs))
        · walk_at "st"
          exact rest _ (Hd.mt (by walk_at "mt") hs)
      · walk_at "st"
        exact rest _ (Hd.mt (by walk_at "mt") hs)
    · clear hs
      intro H hs
      walk_at "run"
      refine Sl.r_ixL (hs.sql (by walk_at "pull")) (at1 gk) ?_
      walk_at "run"
      refine ⟨_, _, rfl, ⟨hk1, by omega⟩, fun r r1 r2 => ?_⟩
      walk_at "run"
      exact q r _ r1 (by omega) (st_close (ls := ls) (at_ := at_ + 1) el (by omega) hs)
end
section
variable {P : Program} {w : World} {K : PySem.W.Frag} {mg : Str → Option Value} {base : Heap}

theorem amg_of {n lo hi : Int} (h : lo ≤ n ∧ n ≤ hi) : amg (.int n) lo hi = true := by
  show (decide (lo ≤ n) && decide (n ≤ hi)) = true
  rw [decide_eq_true h.1, decide_eq_true h.2]
  rfl
theorem amg_no {n lo hi : Int} (h : ¬ (lo ≤ n ∧ n ≤ hi)) : amg (.int n) lo hi = false := by
  cases e : amg (.int n) lo hi with
  | false => rfl
  | true =>
    obtain ⟨m, e2, h1, h2⟩ := amg_int e
    cases e2
    exact (h ⟨h1, h2⟩).elim
def knA (v : V) : SA := fun H => Kn H v
theorem up_kn (v : V) : Up (knA v) := fun H H' s h => by
  cases h with
  | int n => exact .int n
  | bl b => exact .bl b
  | non => exact .non
  | str z => exact .str z
  | lst e => exact .lst (s _ _ e)
  | tup e => exact .tup (s _ _ e)
  | dK e => exact .dK (s _ _ e)
theorem Hd.emp {A : SA} {L : List SA} {H : Hp} (h : Hd L H) (a : ∀ H, A H) : Hd (A :: L) H := ⟨fun _ => none, H, fun _ _ _ h => (nomatch h), fun _ _ h => (nomatch h), Sub.refl _, a _, h⟩
/-- what needs no heap -/
def Sca : V → Prop
  | .int _ | .bl _ | .non | .str _ => True
  | _ => False
theorem kn_sca {v : V} (h : Sca v) (H : Hp) : Kn H v := by
  cases v with
  | int n => exact .int n
  | bl b => exact .bl b
  | non => exact .non
  | str z => exact .str z
  | _ => cases h

def sp_wrapped (T : Txt K mg) : Sp := fun vs H Q E => ∃ v, vs = [v] ∧ Kn H v ∧ (∀ n, v = .int n → Q (.int (n % 65536)) H) ∧ (isN v = false → E (.ref T.x_NoWord) none H)
theorem ok_wrapped (T : Txt K mg) : FnOk P w K mg base (L2.CX P w) 2 T.a_wrapped T.d_wrapped ["number"] (sp_wrapped T) := by
  refine T.f_wrapped.okX sc_wrapped (fun vs H Q E h => ?_) (fun cdv A outer s H vs Q E hr h => ?_)
  · obtain ⟨v, rfl, _⟩ := h
    rfl
  · obtain ⟨v, rfl, h⟩ := h
    refine ⟨_, (pss_cons (ps_if (pt_not (pt_val (pe_call (ok_is_whole T) hr (by rfl) T.g_is_whole T.f_is_whole.kp T.b_is_whole .nil pass0 (pa_cons (pv 0) pa_nil))))
        (pss_one (ps_raiseE rfl (takes_of rfl rfl rfl rfl) T.e_NoWord (by rfl)))
        pss_nil)
       (pss_one (ps_ret (pe_op (k_mod (K := K) rfl) (pv 0) (pe_glob (v := .int 65536) (by rfl) T.g_WORDS.choose_spec ⟨_, rfl⟩))))), ?_⟩
    try dsimp only [cxOf]
    obtain ⟨kn, q1, q2⟩ := h
    walk_at "run"
    refine ⟨v, rfl, kn, ?_⟩
    cases v with
    | int n =>
      dsimp only [isN]
      walk_at "run"
      exact q1 n rfl
    | _ =>
      dsimp only [isN]
      walk_at "run"
      exact q2 rfl
def sp_law_caught (T : Txt K mg) : Sp := fun vs H Q _ => ∃ (sort : Int) (v : V) (L : List SA), vs = [.int sort, v] ∧ Kn H v ∧ Hd L H ∧ ((sort = 0 ∧ (amg v 0 65535 = true → ∀ H', Hd L H' → Q .non H') ∧ (amg v 0 65535 = false → ∀ e H', Hd (pto e (ErrO (.ref T.x_NoWord) none e) :: L) H' → Q (.ref e) H')) ∨ (sort = 1 ∧ isN v = false ∧ ∀ e H', Hd (pto e (ErrO (.ref T.x_NoWord) none e) :: L) H' → Q (.ref e) H'))
theorem ok_law_caught (T : Txt K mg) : FnOk P w K mg base CX0 5 T.a_law_caught T.d_law_caught ["_law_sort", "_law_thing"] (sp_law_caught T) := by
  refine T.f_law_caught.ok sc_law_caught (fun vs H Q E h => ?_) (fun cdv A outer s H vs Q E hr h => ?_)
  · obtain ⟨sort, v, L, rfl, _⟩ := h
    rfl
  · obtain ⟨sort, v, L, rfl, h⟩ := h
    refine ⟨_, (pss_cons (ps_set (i := 2) sc_law_caught.nd rfl (by first | exact Or.inl rfl | exact Or.inr rfl) pe_non)
       (pss_cons (ps_tryN (i := 3) rfl rfl rfl sc_law_caught.nd rfl rfl ⟨rfl, by decide, .inl T.gx_KeelError⟩ takes0 (fun W pn xe tk _ =>
        (pss_one (ps_if (pt_cmpR (k_eq (K := K) rfl hr.units) (pv 0) pe_int (nomark _))
        (pss_one (ps_expr (pe_callS (ok_need_word T) hr (by rfl) T.g_need_word T.f_need_word.kp T.b_need_word (fun σ => passAt tk σ) (pa_cons (pv 1) pa_nil))))
        (pss_one (ps_expr (pe_callS (ok_wrapped T) (hr.mono (by decide)) (by rfl) T.g_wrapped T.f_wrapped.kp T.b_wrapped (fun σ => passAt tk σ) (pa_cons (pv 1) pa_nil))))))) (fun a oe cls d pn _ _ =>
        (pss_one (ps_set (i := 2) sc_law_caught.nd rfl (by first | exact Or.inl rfl | exact Or.inr rfl) (pv 3)))))
       (pss_one (ps_ret (pv 2))))), ?_⟩
    try dsimp only [cxOf]
    obtain ⟨kn, hs, h⟩ := h
    walk_at "run"
    rcases h with ⟨rfl, q1, q2⟩ | ⟨rfl, hv, q⟩
    · refine Sl.r_iteD (fun _ => ?_) (fun z => (z rfl).elim)
      walk_at "run"
      refine ⟨v, rfl, kn, fun e => ?_, fun e => ?_⟩
      · walk_at "run"
        exact q1 e _ hs
      · refine r_note T.em_NoWord (fun x => ?_)
        walk_at "run"
        refine r_noteEnd hs (fun H hs => ?_)
        walk_at "run"
        exact q2 (by assumption) _ _ hs
    · refine Sl.r_iteD (fun z => nomatch z) (fun _ => ?_)
      walk_at "run"
      refine ⟨v, rfl, kn, fun n e => ?_, fun _ => ?_⟩
      · rw [e] at hv
        cases hv
      · refine r_note T.em_NoWord (fun x => ?_)
        walk_at "run"
        refine r_noteEnd hs (fun H hs => ?_)
        walk_at "run"
        exact q _ _ hs
def sp_law_is_refused (T : Txt K mg) : Sp := fun vs H Q _ => ∃ (e : Addr) (L : List SA), vs = [.ref e] ∧ Hd (pto e (ErrO (.ref T.x_NoWord) none e) :: L) H ∧ ∀ H', Hd L H' → Q (.bl true) H'
theorem ok_law_is_refused (T : Txt K mg) : FnOk P w K mg base CX0 1 T.a_law_is_refused T.d_law_is_refused ["_law_error"] (sp_law_is_refused T) := by
  refine T.f_law_is_refused.ok sc_law_is_refused (fun vs H Q E h => ?_) (fun cdv A outer s H vs Q E hr h => ?_)
  · obtain ⟨e, L, rfl, _⟩ := h
    rfl
  · obtain ⟨e, L, rfl, h⟩ := h
    refine ⟨_, (pss_cons (ps_set (i := 1) sc_law_is_refused.nd rfl (by first | exact Or.inl rfl | exact Or.inr rfl) (pe_callB (k_isA (K := K) rfl) (by rfl) T.n_isinstance (by decide +kernel) (pa_cons (pv 0) (pa_cons (pe_tup (pa_cons (pe_glob (v := .ref T.x_BadSize) (by rfl) T.gx_BadSize rfl) (pa_cons (pe_glob (v := .ref T.x_Full) (by rfl) T.gx_Full rfl) (pa_cons (pe_glob (v := .ref T.x_NoChild) (by rfl) T.gx_NoChild rfl) (pa_cons (pe_glob (v := .ref T.x_NoCode) (by rfl) T.gx_NoCode rfl) (pa_cons (pe_glob (v := .ref T.x_NoTask) (by rfl) T.gx_NoTask rfl) (pa_cons (pe_glob (v := .ref T.x_Reach) (by rfl) T.gx_Reach rfl) (pa_cons (pe_glob (v := .ref T.x_Room) (by rfl) T.gx_Room rfl) pa_nil)))))))) pa_nil))))
       (pss_one (ps_ret (pe_and (pe_callB (k_isA (K := K) rfl) (by rfl) T.n_isinstance (by decide +kernel) (pa_cons (pv 0) (pa_cons (pe_glob (v := .ref T.x_NoWord) (by rfl) T.gx_NoWord rfl) pa_nil))) (pe_and (pe_callB (k_isA (K := K) rfl) (by rfl) T.n_isinstance (by decide +kernel) (pa_cons (pv 0) (pa_cons (pe_bltn (v := .ty "ValueError") (by rfl) T.n_ValueError (by decide +kernel) rfl) pa_nil))) (pe_one (pe_not (pv 1)))))))), ?_⟩
    try dsimp only [cxOf]
    obtain ⟨hs, q⟩ := h
    walk_at "run"
    refine Sl.r_isErrN (cs := [T.x_BadSize, T.x_Full, T.x_NoChild, T.x_NoCode, T.x_NoTask, T.x_Reach, T.x_Room]) (hs.get (a := e) (by walk_at "pull")) (by walk_at "ec") (show _ = some (.tup [.ref T.x_BadSize, .ref T.x_Full, .ref T.x_NoChild, .ref T.x_NoCode, .ref T.x_NoTask, .ref T.x_Reach, .ref T.x_Room]) from hs.get (by walk_at "pull")) (by simp only [List.forall_mem_cons]; refine ⟨?_, ?_, ?_, ?_, ?_, ?_, ?_, fun _ z => nomatch z⟩ <;> walk_at "ki") ?_
    walk_at "run"
    exact q _ hs.tl.tl
end
section
variable {P : Program} {w : World} {K : PySem.W.Frag} {mg : Str → Option Value} {base : Heap}
def sp_law_number_good (T : Txt K mg) : Sp := fun vs H Q _ => ∃ (n : Int) (L : List SA), vs = [.int n] ∧ Hd L H ∧ ∀ H', Hd L H' → Q (.bl true) H'
theorem ok_law_number_good (T : Txt K mg) : FnOk P w K mg base CX0 6 T.a_law_number_good T.d_law_number_good ["_law_number"] (sp_law_number_good T) := by
  refine T.f_law_number_good.ok sc_law_number_good (fun vs H Q E h => ?_) (fun cdv A outer s H vs Q E hr h => ?_)
  · obtain ⟨n, L, rfl, _⟩ := h
    rfl
  · obtain ⟨n, L, rfl, h⟩ := h
    refine ⟨_, (pss_cons (ps_set (i := 1) sc_law_number_good.nd rfl (by first | exact Or.inl rfl | exact Or.inr rfl) (pe_call (ok_wrapped T) (hr.mono (by decide)) (by rfl) T.g_wrapped T.f_wrapped.kp T.b_wrapped .nil passF (pa_cons (pv 0) pa_nil)))
       (pss_cons (ps_if (PW.pt (pw_or (pt_val (pe_callB (k_isA (K := K) rfl) (by rfl) T.n_isinstance (by decide +kernel) (pa_cons (pv 1) (pa_cons (pe_bltn (v := .ty "bool") (by rfl) T.n_bool (by decide +kernel) rfl) pa_nil)))) (pw_or (pt_not (pt_val (pe_callB (k_isA (K := K) rfl) (by rfl) T.n_isinstance (by decide +kernel) (pa_cons (pv 1) (pa_cons (pe_bltn (v := .ty "int") (by rfl) T.n_int (by decide +kernel) rfl) pa_nil))))) (pw_or1 (pt_cmpR (k_ne (K := K) rfl hr.units) (pv 1) (pe_op (k_mod (K := K) rfl) (pv 0) pe_int) (nomark _))))))
        (pss_one (ps_ret pe_bl))
        pss_nil)
       (pss_cons (ps_set (i := 2) sc_law_number_good.nd rfl (by first | exact Or.inl rfl | exact Or.inr rfl) (pe_chain op_le op_le pe_int (pv 0) pe_int))
       (pss_cons (ps_set (i := 3) sc_law_number_good.nd rfl (by first | exact Or.inl rfl | exact Or.inr rfl) (pe_call (ok_is_word T) (hr.mono (by decide)) (by rfl) T.g_is_word T.f_is_word.kp T.b_is_word .nil pass0 (pa_cons (pv 0) pa_nil)))
       (pss_cons (ps_if (PW.pt (pw_or (pt_not (pt_val (pe_callB (k_isA (K := K) rfl) (by rfl) T.n_isinstance (by decide +kernel) (pa_cons (pv 3) (pa_cons (pe_bltn (v := .ty "bool") (by rfl) T.n_bool (by decide +kernel) rfl) pa_nil))))) (pw_or1 (pt_cmpR (k_ne (K := K) rfl hr.units) (pv 3) (pv 2) (nomark _)))))
        (pss_one (ps_ret pe_bl))
        pss_nil)
       (pss_cons (ps_if (pt_val (pv 2))
        (pss_one (ps_ret (pe_and (pe_cmpR (k_eq (K := K) rfl hr.units) (pe_call (ok_need_word T) (hr.mono (by decide)) (by rfl) T.g_need_word T.f_need_word.kp T.b_need_word .nil passF (pa_cons (pv 0) pa_nil)) (pv 0) (nomark _)) (pe_one (pe_cmpR u_isN (pe_call (ok_law_caught T) hr (by rfl) T.g_law_caught T.f_law_caught.kp T.b_law_caught .nil pass0 (pa_cons pe_int (pa_cons (pv 0) pa_nil))) pe_non (nomark _))))))
        pss_nil)
       (pss_one (ps_ret (pe_call (ok_law_is_refused T) (hr.mono (by decide)) (by rfl) T.g_law_is_refused T.f_law_is_refused.kp T.b_law_is_refused .nil pass0 (pa_cons (pe_call (ok_law_caught T) hr (by rfl) T.g_law_caught T.f_law_caught.kp T.b_law_caught .nil pass0 (pa_cons pe_int (pa_cons (pv 0) pa_nil))) pa_nil)))))))))), ?_⟩
    try dsimp only [cxOf]
    obtain ⟨hs, q⟩ := h
    walk_at "run"
    refine ⟨.int n, rfl, .int n, fun m e => ?_, fun e => nomatch e⟩
    cases e
    walk_at "run"
    refine Sl.r_iteN (fun z => (z rfl).elim) (fun _ => ?_)
    walk_at "run"
    by_cases hn : 0 ≤ n ∧ n ≤ 65535
    · refine Sl.r_iteD (fun _ => ?_) (fun z => (z hn.1).elim)
      walk_at "run"
      refine ⟨.int n, rfl, .int n, ?_⟩
      rw [amg_of hn]
      walk_at "run"
      rw [decide_eq_true hn.2]
      walk_at "run"
      refine Sl.r_iteN (fun z => (z rfl).elim) (fun _ => ?_)
      walk_at "run"
      refine ⟨.int n, rfl, .int n, fun _ => ?_, fun e => (by rw [amg_of hn] at e; cases e)⟩
      walk_at "run"
      rw [decide_eq_true rfl]
      walk_at "run"
      refine ⟨0, .int n, L, rfl, .int n, hs, .inl ⟨rfl, fun _ H hs => ?_, fun e => (by rw [amg_of hn] at e; cases e)⟩⟩
      walk_at "run"
      rw [decide_eq_true rfl]
      exact q _ hs
    · have an : amg (.int n) 0 65535 = false := amg_no hn
      refine Sl.r_iteD (fun h0 => ?_) (fun h0 => ?_)
      ·
        walk_at "run"
        rw [decide_eq_false (fun z => hn ⟨h0, z⟩)]
        walk_at "run"
        refine ⟨.int n, rfl, .int n, ?_⟩
        rw [an]
        walk_at "run"
        refine Sl.r_iteN (fun z => (z rfl).elim) (fun _ => ?_)
        walk_at "run"
        refine ⟨0, .int n, L, rfl, .int n, hs, .inl ⟨rfl, fun e => (by rw [an] at e; cases e), fun _ e H hs => ?_⟩⟩
        walk_at "run"
        refine ⟨e, L, rfl, hs, fun H hs => ?_⟩
        walk_at "run"
        exact q _ hs
      ·
        walk_at "run"
        refine ⟨.int n, rfl, .int n, ?_⟩
        rw [an]
        walk_at "run"
        refine Sl.r_iteN (fun z => (z rfl).elim) (fun _ => ?_)
        walk_at "run"
        refine ⟨0, .int n, L, rfl, .int n, hs, .inl ⟨rfl, fun e => (by rw [an] at e; cases e), fun _ e H hs => ?_⟩⟩
        walk_at "run"
        refine ⟨e, L, rfl, hs, fun H hs => ?_⟩
        walk_at "run"
        exact q _ hs
end
section
variable {P : Program} {w : World} {K : PySem.W.Frag} {mg : Str → Option Value} {base : Heap}

theorem pick6 {x0 x1 x2 x3 x4 x5 : Int} {i : Int} (h1 : 0 ≤ i) (h2 : i < 6) : ∃ v : Int, atI [V.int x0, .int x1, .int x2, .int x3, .int x4, .int x5] i = some (.int v) := by
  have e : i = 0 ∨ i = 1 ∨ i = 2 ∨ i = 3 ∨ i = 4 ∨ i = 5 := by omega
  rcases e with rfl | rfl | rfl | rfl | rfl | rfl <;> exact ⟨_, rfl⟩
theorem pick10 {a b c d f : Addr} {i : Int} (h1 : 0 ≤ i) (h2 : i < 10) : ∃ v, atI [V.non, .bl true, .bl false, .str "5", .ref a, .ref b, .ref c, .str "", .ref d, .ref f] i = some v ∧ isN v = false ∧ (Sca v ∨ v = .ref a ∨ v = .ref b ∨ v = .ref c ∨ v = .ref d ∨ v = .ref f) := by
  have e : i = 0 ∨ i = 1 ∨ i = 2 ∨ i = 3 ∨ i = 4 ∨ i = 5 ∨ i = 6 ∨ i = 7 ∨ i = 8 ∨ i = 9 := by omega
  rcases e with rfl | rfl | rfl | rfl | rfl | rfl | rfl | rfl | rfl | rfl
  all_goals first | exact ⟨_, rfl, rfl, .inl trivial⟩ | exact ⟨_, rfl, rfl, .inr (.inl rfl)⟩ | exact ⟨_, rfl, rfl, .inr (.inr (.inl rfl))⟩ | exact ⟨_, rfl, rfl, .inr (.inr (.inr (.inl rfl)))⟩ | exact ⟨_, rfl, rfl, .inr (.inr (.inr (.inr (.inl rfl))))⟩ | exact ⟨_, rfl, rfl, .inr (.inr (.inr (.inr (.inr rfl))))⟩
theorem kn_odd {a b c d f l : Addr} {o : HO} {xs1 xs2 xs4 xs5 : List V} {xs3 : List (Key × V)} {L : List SA} {H : Hp} (hs : Hd (pto l o :: pto f (.tup xs1) :: pto d (.lst xs2) :: pto c (.dK xs3) :: pto b (.tup xs4) :: pto a (.lst xs5) :: L) H) {v : V} (h : Sca v ∨ v = .ref a ∨ v = .ref b ∨ v = .ref c ∨ v = .ref d ∨ v = .ref f) : Kn H v := by
  rcases h with h | rfl | rfl | rfl | rfl | rfl
  · exact kn_sca h H
  · exact .lst (hs.get (by walk_at "pull"))
  · exact .tup (hs.get (by walk_at "pull"))
  · exact .dK (hs.get (by walk_at "pull"))
  · exact .lst (hs.get (by walk_at "pull"))
  · exact .tup (hs.get (by walk_at "pull"))
theorem amg_odd {v : V} (h : isN v = false) (lo hi : Int) : amg v lo hi = false := by
  cases v <;> first | rfl | cases h

def sp_law (K : PySem.W.Frag) : Sp := fun vs H Q _ => ∃ (a : Addr) (ns : List Int), vs = [.ref a] ∧ ns.length ≤ 63 ∧ Hd [sql K a (ns.map V.int)] H ∧ ∀ H', Q (.bl true) H'
theorem ok_law (T : Txt K mg) : FnOk P w K mg base CX0 7 T.a_law T.d_law ["_law_script"] (sp_law K) := by
  refine T.f_law.ok sc_law (fun vs H Q E h => ?_) (fun cdv A outer s H vs Q E hr h => ?_)
  · obtain ⟨a, ns, rfl, _⟩ := h
    rfl
  · obtain ⟨a, ns, rfl, h⟩ := h
    refine ⟨_, (pss_cons (ps_set (i := 1) sc_law.nd rfl (by first | exact Or.inl rfl | exact Or.inr rfl) (pe_call (ok_law_begun T) (hr.mono (by decide)) (by rfl) T.g_law_begun T.f_law_begun.kp T.b_law_begun .nil pass0 (pa_cons (pv 0) pa_nil)))
       (pss_cons (ps_for PassesOwn.never rfl (pi_range1 (by rfl) T.n_range (pa_cons (pe_callB (u_max2 rfl) (by rfl) T.n_max (by decide +kernel) (pa_cons pe_int (pa_cons (pe_callB (u_min2 rfl) (by rfl) T.n_min (by decide +kernel) (pa_cons pe_int (pa_cons (pe_callB (k_len (K := K) rfl) (by rfl) T.n_len (by decide +kernel) (pa_cons (pv 0) pa_nil)) pa_nil))) pa_nil))) pa_nil)) (pg_name (i := 2) sc_law.nd rfl (by first | exact Or.inl rfl | exact Or.inr rfl))
        (pss_cons (ps_set (i := 3) sc_law.nd rfl (by first | exact Or.inl rfl | exact Or.inr rfl) (pe_call (ok_law_next T) (hr.mono (by decide)) (by rfl) T.g_law_next T.f_law_next.kp T.b_law_next .nil pass0 (pa_cons (pv 1) pa_nil)))
       (pss_cons (ps_set (i := 4) sc_law.nd rfl (by first | exact Or.inl rfl | exact Or.inr rfl) (pe_call (ok_law_next T) (hr.mono (by decide)) (by rfl) T.g_law_next T.f_law_next.kp T.b_law_next .nil pass0 (pa_cons (pv 1) pa_nil)))
       (pss_cons (ps_set (i := 5) sc_law.nd rfl (by first | exact Or.inl rfl | exact Or.inr rfl) (pe_lst (pa_cons (pv 4) (pa_cons (pe_un un_neg (pv 4)) (pa_cons (pe_op (k_sub (K := K) rfl) (pe_op (k_add (K := K) rfl) pe_int (pe_op (k_mod (K := K) rfl) (pv 4) pe_int)) pe_int) (pa_cons (pe_op (k_sub (K := K) rfl) (pe_op (k_mod (K := K) rfl) (pv 4) pe_int) pe_int) (pa_cons (pe_op (k_sub (K := K) rfl) (pe_op (k_add (K := K) rfl) (pe_op (k_mul (K := K) rfl) pe_int (pv 4)) (pe_op (k_mod (K := K) rfl) (pv 3) pe_int)) pe_int) (pa_cons (pe_op (k_mul (K := K) rfl) (pv 4) (pe_op (k_pow (K := K) rfl) pe_int pe_int)) pa_nil))))))))
       (pss_cons (ps_if (pt_not (pt_val (pe_call (ok_law_number_good T) hr (by rfl) T.g_law_number_good T.f_law_number_good.kp T.b_law_number_good .nil pass0 (pa_cons (pe_ix (k_ix (K := K) rfl (hu_of hr)) (pv 5) (pe_op (k_mod (K := K) rfl) (pv 3) pe_int) (fun _ _ => rfl)) pa_nil))))
        (pss_one (ps_ret pe_bl))
        pss_nil)
       (pss_cons (ps_set (i := 6) sc_law.nd rfl (by first | exact Or.inl rfl | exact Or.inr rfl) (pe_ix (k_ix (K := K) rfl (hu_of hr)) (pe_lst (pa_cons pe_non (pa_cons pe_bl (pa_cons pe_bl (pa_cons pe_str (pa_cons (pe_lst (pa_cons pe_int pa_nil)) (pa_cons (pe_tup (pa_cons pe_int pa_nil)) (pa_cons pe_dnewK (pa_cons pe_str (pa_cons (pe_lst pa_nil) (pa_cons (pe_tup (pa_cons pe_str pa_nil)) pa_nil))))))))))) (pe_op (k_mod (K := K) rfl) (pe_op (k_div (K := K) rfl) (pv 3) pe_int) pe_int) (fun _ _ => rfl)))
       (pss_cons (ps_if (PW.pt (pw_or (pt_cmpR op_notBl (pe_call (ok_is_word T) (hr.mono (by decide)) (by rfl) T.g_is_word T.f_is_word.kp T.b_is_word .nil pass0 (pa_cons (pv 6) pa_nil)) pe_bl (nomark _)) (pw_or1 (pt_not (pt_val (pe_call (ok_law_is_refused T) (hr.mono (by decide)) (by rfl) T.g_law_is_refused T.f_law_is_refused.kp T.b_law_is_refused .nil pass0 (pa_cons (pe_call (ok_law_caught T) (hr.mono (by decide)) (by rfl) T.g_law_caught T.f_law_caught.kp T.b_law_caught .nil pass0 (pa_cons pe_int (pa_cons (pv 6) pa_nil))) pa_nil)))))))
        (pss_one (ps_ret pe_bl))
        pss_nil)
       (pss_one (ps_if (pt_not (pt_val (pe_call (ok_law_is_refused T) (hr.mono (by decide)) (by rfl) T.g_law_is_refused T.f_law_is_refused.kp T.b_law_is_refused .nil pass0 (pa_cons (pe_call (ok_law_caught T) (hr.mono (by decide)) (by rfl) T.g_law_caught T.f_law_caught.kp T.b_law_caught .nil pass0 (pa_cons pe_int (pa_cons (pv 6) pa_nil))) pa_nil))))
        (pss_one (ps_ret pe_bl))
        pss_nil)))))))))
       (pss_one (ps_ret pe_bl)))), ?_⟩
    try dsimp only [cxOf]
    obtain ⟨hl, hs, q⟩ := h
    walk_at "run"
    refine ⟨a, ns, _, rfl, hs, fun d H hs => ?_⟩
    walk_at "run"
    refine Sl.r_forR (fun i σ H => ∃ (v2 v3 v4 v5 v6 : Option V), σ = [some (.ref a), some (.ref d), v2, v3, v4, v5, v6] ∧ Hd (stA a d ns :: [sql K a (ns.map V.int)]) H) ?_ ?_ ?_
    · exact ⟨none, none, none, none, none, rfl, hs⟩
    · rintro i σ H hi ⟨v2, v3, v4, v5, v6, rfl, hs⟩
      walk_at "run"
      refine ⟨d, a, ns, _, rfl, hl, Hd.mt (by walk_at "mt") hs, fun r H r1 r2 hs => ?_⟩
      walk_at "run"
      refine ⟨d, a, ns, _, rfl, hl, Hd.mt (by walk_at "mt") hs, fun w H w1 w2 hs => ?_⟩
      walk_at "run"
      obtain ⟨n, en⟩ := pick6 (i := r % 6) (Int.emod_nonneg _ (by decide)) (Int.emod_lt_of_pos _ (by decide))
      refine Sl.r_ixL (hs.sq (by walk_at "pull")) en ?_
      walk_at "run"
      refine ⟨n, _, rfl, hs, fun H hs => ?_⟩
      walk_at "run"
      obtain ⟨v, ev, hv, ho⟩ := pick10 (i := r / 6 % 10) (Int.emod_nonneg _ (by decide)) (Int.emod_lt_of_pos _ (by decide))
      refine Sl.r_ixL (hs.sq (by walk_at "pull")) ev ?_
      walk_at "run"
      refine ⟨v, rfl, kn_odd hs ho, ?_⟩
      rw [amg_odd hv]
      walk_at "run"
      rw [decide_eq_true rfl]
      walk_at "run"
      refine ⟨0, v, _, rfl, kn_odd hs ho, hs, .inl ⟨rfl, fun e => (by rw [amg_odd hv] at e; cases e), fun _ e H hs => ?_⟩⟩
      walk_at "run"
      refine ⟨e, _, rfl, hs, fun H hs => ?_⟩
      walk_at "run"
      refine ⟨1, v, _, rfl, kn_odd hs ho, hs, .inr ⟨rfl, hv, fun e H hs => ?_⟩⟩
      walk_at "run"
      refine ⟨e, _, rfl, hs, fun H hs => ?_⟩
      walk_at "run"
      exact ⟨_, _, _, _, _, rfl, Hd.mt (by walk_at "mt") hs⟩
    · rintro σ H ⟨v2, v3, v4, v5, v6, rfl, hs⟩
      walk_at "run"
      exact q _
end
theorem all_mk {l : PySem.W.OpenLaw} {w : World} {K : PySem.W.Frag} {h : Heap} {mg : Str → Option Value} {fa : Addr} (X : K.In h) (G : h.Ns mainGlobals mg) (hfa : mg "law" = some (.ref fa))
    {x_KeelError : Addr} {x_NoWord : Addr} {x_NoCode : Addr} {x_Reach : Addr} {x_Room : Addr} {x_BadSize : Addr} {x_NoTask : Addr} {x_Full : Addr} {x_NoChild : Addr} {a_is_whole : Addr} {od_is_whole an_is_whole : Option Addr} {sl_is_whole : Array (Option Value)} {oc_is_whole kV_is_whole dc_is_whole pm_is_whole cd_is_whole ct_is_whole : Value} {a_is_among : Addr} {od_is_among an_is_among : Option Addr} {sl_is_among : Array (Option Value)} {oc_is_among kV_is_among dc_is_among pm_is_among cd_is_among ct_is_among : Value} {a_is_word : Addr} {od_is_word an_is_word : Option Addr} {sl_is_word : Array (Option Value)} {oc_is_word kV_is_word dc_is_word pm_is_word cd_is_word ct_is_word : Value} {a_need_word : Addr} {od_need_word an_need_word : Option Addr} {sl_need_word : Array (Option Value)} {oc_need_word kV_need_word dc_need_word pm_need_word cd_need_word ct_need_word : Value} {a_wrapped : Addr} {od_wrapped an_wrapped : Option Addr} {sl_wrapped : Array (Option Value)} {oc_wrapped kV_wrapped dc_wrapped pm_wrapped cd_wrapped ct_wrapped : Value} {a_law_mixed : Addr} {od_law_mixed an_law_mixed : Option Addr} {sl_law_mixed : Array (Option Value)} {oc_law_mixed kV_law_mixed dc_law_mixed pm_law_mixed cd_law_mixed ct_law_mixed : Value} {a_law_begun : Addr} {od_law_begun an_law_begun : Option Addr} {sl_law_begun : Array (Option Value)} {oc_law_begun kV_law_begun dc_law_begun pm_law_begun cd_law_begun ct_law_begun : Value} {a_law_next : Addr} {od_law_next an_law_next : Option Addr} {sl_law_next : Array (Option Value)} {oc_law_next kV_law_next dc_law_next pm_law_next cd_law_next ct_law_next : Value} {a_law_caught : Addr} {od_law_caught an_law_caught : Option Addr} {sl_law_caught : Array (Option Value)} {oc_law_caught kV_law_caught dc_law_caught pm_law_caught cd_law_caught ct_law_caught : Value} {a_law_is_refused : Addr} {od_law_is_refused an_law_is_refused : Option Addr} {sl_law_is_refused : Array (Option Value)} {oc_law_is_refused kV_law_is_refused dc_law_is_refused pm_law_is_refused cd_law_is_refused ct_law_is_refused : Value} {a_law_number_good : Addr} {od_law_number_good an_law_number_good : Option Addr} {sl_law_number_good : Array (Option Value)} {oc_law_number_good kV_law_number_good dc_law_number_good pm_law_number_good cd_law_number_good ct_law_number_good : Value} {a_law : Addr} {od_law an_law : Option Addr} {sl_law : Array (Option Value)} {oc_law kV_law dc_law pm_law cd_law ct_law : Value} {t_WORDS : Tok}
    (gx_KeelError : PySem.W.nsIn K mainGlobals "KeelError" = some (some (.ref x_KeelError)))
    (gx_NoWord : PySem.W.nsIn K mainGlobals "NoWord" = some (some (.ref x_NoWord)))
    (gx_NoCode : PySem.W.nsIn K mainGlobals "NoCode" = some (some (.ref x_NoCode)))
    (gx_Reach : PySem.W.nsIn K mainGlobals "Reach" = some (some (.ref x_Reach)))
    (gx_Room : PySem.W.nsIn K mainGlobals "Room" = some (some (.ref x_Room)))
    (gx_BadSize : PySem.W.nsIn K mainGlobals "BadSize" = some (some (.ref x_BadSize)))
    (gx_NoTask : PySem.W.nsIn K mainGlobals "NoTask" = some (some (.ref x_NoTask)))
    (gx_Full : PySem.W.nsIn K mainGlobals "Full" = some (some (.ref x_Full)))
    (gx_NoChild : PySem.W.nsIn K mainGlobals "NoChild" = some (some (.ref x_NoChild)))
    (xx_NoWord : PySem.W.excIn K x_NoWord [.type "ValueError", .type "Exception", .type "BaseException", .type "object"] "ValueError.__new__" = true)
    (xk_NoWord : PySem.W.keepIn K (.ref x_NoWord) = true)
    (xb_NoWord : PySem.W.subIn K (.ref x_NoWord) (.type "BaseException") = some true)
    (xt_NoWord : PySem.W.typeIn K (.ref x_NoWord) = some (.type "type"))
    (xg_NoWord : PySem.W.findIn K (.ref x_NoWord) "__getattribute__" = some (some (.builtin "BaseException.__getattribute__")))
    (xh_NoWord : PySem.W.findIn K (.ref x_NoWord) "__getattr__" = some none)
    (xd_NoWord : PySem.W.hasDictIn K x_NoWord = true)
    (xa_NoWord : PySem.W.findIn K (.ref x_NoWord) "__class__" = some (some (.builtin "object.__class__")))
    (xm_NoWord : PySem.W.mroIn K x_NoWord (.type "object") = some true)
    (xs_NoWord_NoWord : PySem.W.subIn K (.ref x_NoWord) (.ref x_NoWord) = some true)
    (xs_NoWord_KeelError : PySem.W.subIn K (.ref x_NoWord) (.ref x_KeelError) = some true)
    (yd_KeelError : PySem.W.hasDictIn K x_KeelError = true)
    (yt_KeelError : PySem.W.typeIn K (.ref x_KeelError) = some (.type "type"))
    (yd_NoWord : PySem.W.hasDictIn K x_NoWord = true)
    (yt_NoWord : PySem.W.typeIn K (.ref x_NoWord) = some (.type "type"))
    (xs_NoWord_NoCode : PySem.W.subIn K (.ref x_NoWord) (.ref x_NoCode) = some false)
    (yd_NoCode : PySem.W.hasDictIn K x_NoCode = true)
    (yt_NoCode : PySem.W.typeIn K (.ref x_NoCode) = some (.type "type"))
    (xs_NoWord_Reach : PySem.W.subIn K (.ref x_NoWord) (.ref x_Reach) = some false)
    (yd_Reach : PySem.W.hasDictIn K x_Reach = true)
    (yt_Reach : PySem.W.typeIn K (.ref x_Reach) = some (.type "type"))
    (xs_NoWord_Room : PySem.W.subIn K (.ref x_NoWord) (.ref x_Room) = some false)
    (yd_Room : PySem.W.hasDictIn K x_Room = true)
    (yt_Room : PySem.W.typeIn K (.ref x_Room) = some (.type "type"))
    (xs_NoWord_BadSize : PySem.W.subIn K (.ref x_NoWord) (.ref x_BadSize) = some false)
    (yd_BadSize : PySem.W.hasDictIn K x_BadSize = true)
    (yt_BadSize : PySem.W.typeIn K (.ref x_BadSize) = some (.type "type"))
    (xs_NoWord_NoTask : PySem.W.subIn K (.ref x_NoWord) (.ref x_NoTask) = some false)
    (yd_NoTask : PySem.W.hasDictIn K x_NoTask = true)
    (yt_NoTask : PySem.W.typeIn K (.ref x_NoTask) = some (.type "type"))
    (xs_NoWord_Full : PySem.W.subIn K (.ref x_NoWord) (.ref x_Full) = some false)
    (yd_Full : PySem.W.hasDictIn K x_Full = true)
    (yt_Full : PySem.W.typeIn K (.ref x_Full) = some (.type "type"))
    (xs_NoWord_NoChild : PySem.W.subIn K (.ref x_NoWord) (.ref x_NoChild) = some false)
    (yd_NoChild : PySem.W.hasDictIn K x_NoChild = true)
    (yt_NoChild : PySem.W.typeIn K (.ref x_NoChild) = some (.type "type"))
    (yb : PySem.W.subIn K (.ref x_KeelError) (.type "BaseException") = some true)
    (xv_NoWord : PySem.W.subIn K (.ref x_NoWord) (.type "ValueError") = some true)
    (xn : PySem.W.specialIn K (.builtin "object.__class__") "__get__" = some (some (.builtin "getset_descriptor.__get__")))
    (xo : PySem.W.takesIn K (.builtin "object.__class__") = some true)
    (g_is_whole : PySem.W.nsIn K mainGlobals "is_whole" = some (some (.ref a_is_whole)))
    (l_is_whole : K.lookup a_is_whole = some ⟨oc_is_whole, od_is_whole, .func (PySem.W.fnOf "is_whole" "is_whole" (defArgs s_is_whole) (defBody s_is_whole) (defScope s_is_whole) .none kV_is_whole dc_is_whole pm_is_whole an_is_whole cd_is_whole ct_is_whole), sl_is_whole⟩)
    (c_is_whole : PySem.W.codeIn K cd_is_whole "is_whole" = true)
    (k_is_whole : PySem.W.keepIn K (.ref a_is_whole) = true)
    (g_is_among : PySem.W.nsIn K mainGlobals "is_among" = some (some (.ref a_is_among)))
    (l_is_among : K.lookup a_is_among = some ⟨oc_is_among, od_is_among, .func (PySem.W.fnOf "is_among" "is_among" (defArgs s_is_among) (defBody s_is_among) (defScope s_is_among) .none kV_is_among dc_is_among pm_is_among an_is_among cd_is_among ct_is_among), sl_is_among⟩)
    (c_is_among : PySem.W.codeIn K cd_is_among "is_among" = true)
    (k_is_among : PySem.W.keepIn K (.ref a_is_among) = true)
    (g_is_word : PySem.W.nsIn K mainGlobals "is_word" = some (some (.ref a_is_word)))
    (l_is_word : K.lookup a_is_word = some ⟨oc_is_word, od_is_word, .func (PySem.W.fnOf "is_word" "is_word" (defArgs s_is_word) (defBody s_is_word) (defScope s_is_word) .none kV_is_word dc_is_word pm_is_word an_is_word cd_is_word ct_is_word), sl_is_word⟩)
    (c_is_word : PySem.W.codeIn K cd_is_word "is_word" = true)
    (k_is_word : PySem.W.keepIn K (.ref a_is_word) = true)
    (g_need_word : PySem.W.nsIn K mainGlobals "need_word" = some (some (.ref a_need_word)))
    (l_need_word : K.lookup a_need_word = some ⟨oc_need_word, od_need_word, .func (PySem.W.fnOf "need_word" "need_word" (defArgs s_need_word) (defBody s_need_word) (defScope s_need_word) .none kV_need_word dc_need_word pm_need_word an_need_word cd_need_word ct_need_word), sl_need_word⟩)
    (c_need_word : PySem.W.codeIn K cd_need_word "need_word" = true)
    (k_need_word : PySem.W.keepIn K (.ref a_need_word) = true)
    (g_wrapped : PySem.W.nsIn K mainGlobals "wrapped" = some (some (.ref a_wrapped)))
    (l_wrapped : K.lookup a_wrapped = some ⟨oc_wrapped, od_wrapped, .func (PySem.W.fnOf "wrapped" "wrapped" (defArgs s_wrapped) (defBody s_wrapped) (defScope s_wrapped) .none kV_wrapped dc_wrapped pm_wrapped an_wrapped cd_wrapped ct_wrapped), sl_wrapped⟩)
    (c_wrapped : PySem.W.codeIn K cd_wrapped "wrapped" = true)
    (k_wrapped : PySem.W.keepIn K (.ref a_wrapped) = true)
    (g_law_mixed : PySem.W.nsIn K mainGlobals "_law_mixed" = some (some (.ref a_law_mixed)))
    (l_law_mixed : K.lookup a_law_mixed = some ⟨oc_law_mixed, od_law_mixed, .func (PySem.W.fnOf "_law_mixed" "_law_mixed" (defArgs s_law_mixed) (defBody s_law_mixed) (defScope s_law_mixed) .none kV_law_mixed dc_law_mixed pm_law_mixed an_law_mixed cd_law_mixed ct_law_mixed), sl_law_mixed⟩)
    (c_law_mixed : PySem.W.codeIn K cd_law_mixed "_law_mixed" = true)
    (k_law_mixed : PySem.W.keepIn K (.ref a_law_mixed) = true)
    (g_law_begun : PySem.W.nsIn K mainGlobals "_law_begun" = some (some (.ref a_law_begun)))
    (l_law_begun : K.lookup a_law_begun = some ⟨oc_law_begun, od_law_begun, .func (PySem.W.fnOf "_law_begun" "_law_begun" (defArgs s_law_begun) (defBody s_law_begun) (defScope s_law_begun) .none kV_law_begun dc_law_begun pm_law_begun an_law_begun cd_law_begun ct_law_begun), sl_law_begun⟩)
    (c_law_begun : PySem.W.codeIn K cd_law_begun "_law_begun" = true)
    (k_law_begun : PySem.W.keepIn K (.ref a_law_begun) = true)
    (g_law_next : PySem.W.nsIn K mainGlobals "_law_next" = some (some (.ref a_law_next)))
    (l_law_next : K.lookup a_law_next = some ⟨oc_law_next, od_law_next, .func (PySem.W.fnOf "_law_next" "_law_next" (defArgs s_law_next) (defBody s_law_next) (defScope s_law_next) .none kV_law_next dc_law_next pm_law_next an_law_next cd_law_next ct_law_next), sl_law_next⟩)
    (c_law_next : PySem.W.codeIn K cd_law_next "_law_next" = true)
    (k_law_next : PySem.W.keepIn K (.ref a_law_next) = true)
    (g_law_caught : PySem.W.nsIn K mainGlobals "_law_caught" = some (some (.ref a_law_caught)))
    (l_law_caught : K.lookup a_law_caught = some ⟨oc_law_caught, od_law_caught, .func (PySem.W.fnOf "_law_caught" "_law_caught" (defArgs s_law_caught) (defBody s_law_caught) (defScope s_law_caught) .none kV_law_caught dc_law_caught pm_law_caught an_law_caught cd_law_caught ct_law_caught), sl_law_caught⟩)
    (c_law_caught : PySem.W.codeIn K cd_law_caught "_law_caught" = true)
    (k_law_caught : PySem.W.keepIn K (.ref a_law_caught) = true)
    (g_law_is_refused : PySem.W.nsIn K mainGlobals "_law_is_refused" = some (some (.ref a_law_is_refused)))
    (l_law_is_refused : K.lookup a_law_is_refused = some ⟨oc_law_is_refused, od_law_is_refused, .func (PySem.W.fnOf "_law_is_refused" "_law_is_refused" (defArgs s_law_is_refused) (defBody s_law_is_refused) (defScope s_law_is_refused) .none kV_law_is_refused dc_law_is_refused pm_law_is_refused an_law_is_refused cd_law_is_refused ct_law_is_refused), sl_law_is_refused⟩)
    (c_law_is_refused : PySem.W.codeIn K cd_law_is_refused "_law_is_refused" = true)
    (k_law_is_refused : PySem.W.keepIn K (.ref a_law_is_refused) = true)
    (g_law_number_good : PySem.W.nsIn K mainGlobals "_law_number_good" = some (some (.ref a_law_number_good)))
    (l_law_number_good : K.lookup a_law_number_good = some ⟨oc_law_number_good, od_law_number_good, .func (PySem.W.fnOf "_law_number_good" "_law_number_good" (defArgs s_law_number_good) (defBody s_law_number_good) (defScope s_law_number_good) .none kV_law_number_good dc_law_number_good pm_law_number_good an_law_number_good cd_law_number_good ct_law_number_good), sl_law_number_good⟩)
    (c_law_number_good : PySem.W.codeIn K cd_law_number_good "_law_number_good" = true)
    (k_law_number_good : PySem.W.keepIn K (.ref a_law_number_good) = true)
    (g_law : PySem.W.nsIn K mainGlobals "law" = some (some (.ref a_law)))
    (l_law : K.lookup a_law = some ⟨oc_law, od_law, .func (PySem.W.fnOf "law" "law" (defArgs s_law) (defBody s_law) (defScope s_law) .none kV_law dc_law pm_law an_law cd_law ct_law), sl_law⟩)
    (c_law : PySem.W.codeIn K cd_law "law" = true)
    (k_law : PySem.W.keepIn K (.ref a_law) = true)
    (n_ValueError : PySem.W.nsIn K mainGlobals "ValueError" = some none)
    (g_WORDS : PySem.W.nsIn K mainGlobals "WORDS" = some (some (.int 65536 t_WORDS)))
    (n_bool : PySem.W.nsIn K mainGlobals "bool" = some none)
    (n_int : PySem.W.nsIn K mainGlobals "int" = some none)
    (n_isinstance : PySem.W.nsIn K mainGlobals "isinstance" = some none)
    (n_len : PySem.W.nsIn K mainGlobals "len" = some none)
    (n_list : PySem.W.nsIn K mainGlobals "list" = some none)
    (n_max : PySem.W.nsIn K mainGlobals "max" = some none)
    (n_min : PySem.W.nsIn K mainGlobals "min" = some none)
    (n_range : PySem.W.nsIn K mainGlobals "range" = some none) :
    ∃ fd : FuncData, (∀ (s : Shared) (v : Value), BindsTo s fd ⟨[v], []⟩ [("_law_script", v)]) ∧ ∀ base : Heap, K.In base → base.Ns mainGlobals mg → FnOk l.prog w K mg base CX0 7 fa fd ["_law_script"] (sp_law K) := by
  have e := hfa.symm.trans (PySem.W.mg_of X G g_law)
  cases e
  have T : ∃ T : Txt K mg, T.a_law = fa ∧ T.d_law = (PySem.W.fnOf "law" "law" (defArgs s_law) (defBody s_law) (defScope s_law) .none kV_law dc_law pm_law an_law cd_law ct_law) := ⟨{
    x_KeelError := x_KeelError,
    gx_KeelError := PySem.W.mg_of X G gx_KeelError,
    x_NoWord := x_NoWord,
    gx_NoWord := PySem.W.mg_of X G gx_NoWord,
    x_NoCode := x_NoCode,
    gx_NoCode := PySem.W.mg_of X G gx_NoCode,
    x_Reach := x_Reach,
    gx_Reach := PySem.W.mg_of X G gx_Reach,
    x_Room := x_Room,
    gx_Room := PySem.W.mg_of X G gx_Room,
    x_BadSize := x_BadSize,
    gx_BadSize := PySem.W.mg_of X G gx_BadSize,
    x_NoTask := x_NoTask,
    gx_NoTask := PySem.W.mg_of X G gx_NoTask,
    x_Full := x_Full,
    gx_Full := PySem.W.mg_of X G gx_Full,
    x_NoChild := x_NoChild,
    gx_NoChild := PySem.W.mg_of X G gx_NoChild,
    e_NoWord := ⟨PySem.W.mg_of X G gx_NoWord, xx_NoWord, xk_NoWord, xb_NoWord, xt_NoWord⟩,
    ec_NoWord := ⟨xg_NoWord, xh_NoWord, xb_NoWord, xd_NoWord, xa_NoWord, xn, xo, xm_NoWord⟩,
    em_NoWord := PySem.W.exm_ref yb yd_KeelError yt_KeelError xs_NoWord_KeelError,
    ki_NoWord_KeelError := kit_ref yd_KeelError yt_KeelError xs_NoWord_NoWord xs_NoWord_KeelError,
    ki_NoWord_NoWord := kit_ref yd_NoWord yt_NoWord xs_NoWord_NoWord xs_NoWord_NoWord,
    ki_NoWord_NoCode := kit_ref yd_NoCode yt_NoCode xs_NoWord_NoWord xs_NoWord_NoCode,
    ki_NoWord_Reach := kit_ref yd_Reach yt_Reach xs_NoWord_NoWord xs_NoWord_Reach,
    ki_NoWord_Room := kit_ref yd_Room yt_Room xs_NoWord_NoWord xs_NoWord_Room,
    ki_NoWord_BadSize := kit_ref yd_BadSize yt_BadSize xs_NoWord_NoWord xs_NoWord_BadSize,
    ki_NoWord_NoTask := kit_ref yd_NoTask yt_NoTask xs_NoWord_NoWord xs_NoWord_NoTask,
    ki_NoWord_Full := kit_ref yd_Full yt_Full xs_NoWord_NoWord xs_NoWord_Full,
    ki_NoWord_NoChild := kit_ref yd_NoChild yt_NoChild xs_NoWord_NoWord xs_NoWord_NoChild,
    ki_NoWord_ValueError := kit_VE xv_NoWord,
    a_is_whole := a_is_whole,
    d_is_whole := (PySem.W.fnOf "is_whole" "is_whole" (defArgs s_is_whole) (defBody s_is_whole) (defScope s_is_whole) .none kV_is_whole dc_is_whole pm_is_whole an_is_whole cd_is_whole ct_is_whole),
    f_is_whole := fun_mk (st := s_is_whole) l_is_whole c_is_whole k_is_whole,
    b_is_whole := (fun_mk (st := s_is_whole) l_is_whole c_is_whole k_is_whole).binds (ps := ["thing"]) fun _ _ _ _ _ _ us hl => match us, hl with | [_], _ => rfl,
    g_is_whole := PySem.W.mg_of X G g_is_whole,
    a_is_among := a_is_among,
    d_is_among := (PySem.W.fnOf "is_among" "is_among" (defArgs s_is_among) (defBody s_is_among) (defScope s_is_among) .none kV_is_among dc_is_among pm_is_among an_is_among cd_is_among ct_is_among),
    f_is_among := fun_mk (st := s_is_among) l_is_among c_is_among k_is_among,
    b_is_among := (fun_mk (st := s_is_among) l_is_among c_is_among k_is_among).binds (ps := ["thing", "least", "most"]) fun _ _ _ _ _ _ us hl => match us, hl with | [_, _, _], _ => rfl,
    g_is_among := PySem.W.mg_of X G g_is_among,
    a_is_word := a_is_word,
    d_is_word := (PySem.W.fnOf "is_word" "is_word" (defArgs s_is_word) (defBody s_is_word) (defScope s_is_word) .none kV_is_word dc_is_word pm_is_word an_is_word cd_is_word ct_is_word),
    f_is_word := fun_mk (st := s_is_word) l_is_word c_is_word k_is_word,
    b_is_word := (fun_mk (st := s_is_word) l_is_word c_is_word k_is_word).binds (ps := ["thing"]) fun _ _ _ _ _ _ us hl => match us, hl with | [_], _ => rfl,
    g_is_word := PySem.W.mg_of X G g_is_word,
    a_need_word := a_need_word,
    d_need_word := (PySem.W.fnOf "need_word" "need_word" (defArgs s_need_word) (defBody s_need_word) (defScope s_need_word) .none kV_need_word dc_need_word pm_need_word an_need_word cd_need_word ct_need_word),
    f_need_word := fun_mk (st := s_need_word) l_need_word c_need_word k_need_word,
    b_need_word := (fun_mk (st := s_need_word) l_need_word c_need_word k_need_word).binds (ps := ["thing"]) fun _ _ _ _ _ _ us hl => match us, hl with | [_], _ => rfl,
    g_need_word := PySem.W.mg_of X G g_need_word,
    a_wrapped := a_wrapped,
    d_wrapped := (PySem.W.fnOf "wrapped" "wrapped" (defArgs s_wrapped) (defBody s_wrapped) (defScope s_wrapped) .none kV_wrapped dc_wrapped pm_wrapped an_wrapped cd_wrapped ct_wrapped),
    f_wrapped := fun_mk (st := s_wrapped) l_wrapped c_wrapped k_wrapped,
    b_wrapped := (fun_mk (st := s_wrapped) l_wrapped c_wrapped k_wrapped).binds (ps := ["number"]) fun _ _ _ _ _ _ us hl => match us, hl with | [_], _ => rfl,
    g_wrapped := PySem.W.mg_of X G g_wrapped,
    a_law_mixed := a_law_mixed,
    d_law_mixed := (PySem.W.fnOf "_law_mixed" "_law_mixed" (defArgs s_law_mixed) (defBody s_law_mixed) (defScope s_law_mixed) .none kV_law_mixed dc_law_mixed pm_law_mixed an_law_mixed cd_law_mixed ct_law_mixed),
    f_law_mixed := fun_mk (st := s_law_mixed) l_law_mixed c_law_mixed k_law_mixed,
    b_law_mixed := (fun_mk (st := s_law_mixed) l_law_mixed c_law_mixed k_law_mixed).binds (ps := ["_law_cell", "_law_k"]) fun _ _ _ _ _ _ us hl => match us, hl with | [_, _], _ => rfl,
    g_law_mixed := PySem.W.mg_of X G g_law_mixed,
    a_law_begun := a_law_begun,
    d_law_begun := (PySem.W.fnOf "_law_begun" "_law_begun" (defArgs s_law_begun) (defBody s_law_begun) (defScope s_law_begun) .none kV_law_begun dc_law_begun pm_law_begun an_law_begun cd_law_begun ct_law_begun),
    f_law_begun := fun_mk (st := s_law_begun) l_law_begun c_law_begun k_law_begun,
    b_law_begun := (fun_mk (st := s_law_begun) l_law_begun c_law_begun k_law_begun).binds (ps := ["_law_script"]) fun _ _ _ _ _ _ us hl => match us, hl with | [_], _ => rfl,
    g_law_begun := PySem.W.mg_of X G g_law_begun,
    a_law_next := a_law_next,
    d_law_next := (PySem.W.fnOf "_law_next" "_law_next" (defArgs s_law_next) (defBody s_law_next) (defScope s_law_next) .none kV_law_next dc_law_next pm_law_next an_law_next cd_law_next ct_law_next),
    f_law_next := fun_mk (st := s_law_next) l_law_next c_law_next k_law_next,
    b_law_next := (fun_mk (st := s_law_next) l_law_next c_law_next k_law_next).binds (ps := ["_law_state"]) fun _ _ _ _ _ _ us hl => match us, hl with | [_], _ => rfl,
    g_law_next := PySem.W.mg_of X G g_law_next,
    a_law_caught := a_law_caught,
    d_law_caught := (PySem.W.fnOf "_law_caught" "_law_caught" (defArgs s_law_caught) (defBody s_law_caught) (defScope s_law_caught) .none kV_law_caught dc_law_caught pm_law_caught an_law_caught cd_law_caught ct_law_caught),
    f_law_caught := fun_mk (st := s_law_caught) l_law_caught c_law_caught k_law_caught,
    b_law_caught := (fun_mk (st := s_law_caught) l_law_caught c_law_caught k_law_caught).binds (ps := ["_law_sort", "_law_thing"]) fun _ _ _ _ _ _ us hl => match us, hl with | [_, _], _ => rfl,
    g_law_caught := PySem.W.mg_of X G g_law_caught,
    a_law_is_refused := a_law_is_refused,
    d_law_is_refused := (PySem.W.fnOf "_law_is_refused" "_law_is_refused" (defArgs s_law_is_refused) (defBody s_law_is_refused) (defScope s_law_is_refused) .none kV_law_is_refused dc_law_is_refused pm_law_is_refused an_law_is_refused cd_law_is_refused ct_law_is_refused),
    f_law_is_refused := fun_mk (st := s_law_is_refused) l_law_is_refused c_law_is_refused k_law_is_refused,
    b_law_is_refused := (fun_mk (st := s_law_is_refused) l_law_is_refused c_law_is_refused k_law_is_refused).binds (ps := ["_law_error"]) fun _ _ _ _ _ _ us hl => match us, hl with | [_], _ => rfl,
    g_law_is_refused := PySem.W.mg_of X G g_law_is_refused,
    a_law_number_good := a_law_number_good,
    d_law_number_good := (PySem.W.fnOf "_law_number_good" "_law_number_good" (defArgs s_law_number_good) (defBody s_law_number_good) (defScope s_law_number_good) .none kV_law_number_good dc_law_number_good pm_law_number_good an_law_number_good cd_law_number_good ct_law_number_good),
    f_law_number_good := fun_mk (st := s_law_number_good) l_law_number_good c_law_number_good k_law_number_good,
    b_law_number_good := (fun_mk (st := s_law_number_good) l_law_number_good c_law_number_good k_law_number_good).binds (ps := ["_law_number"]) fun _ _ _ _ _ _ us hl => match us, hl with | [_], _ => rfl,
    g_law_number_good := PySem.W.mg_of X G g_law_number_good,
    a_law := fa,
    d_law := (PySem.W.fnOf "law" "law" (defArgs s_law) (defBody s_law) (defScope s_law) .none kV_law dc_law pm_law an_law cd_law ct_law),
    f_law := fun_mk (st := s_law) l_law c_law k_law,
    b_law := (fun_mk (st := s_law) l_law c_law k_law).binds (ps := ["_law_script"]) fun _ _ _ _ _ _ us hl => match us, hl with | [_], _ => rfl,
    g_law := PySem.W.mg_of X G g_law,
    n_ValueError := PySem.W.mg_none_of X G n_ValueError,
    g_WORDS := ⟨_, PySem.W.mg_of X G g_WORDS⟩,
    n_bool := PySem.W.mg_none_of X G n_bool,
    n_int := PySem.W.mg_none_of X G n_int,
    n_isinstance := PySem.W.mg_none_of X G n_isinstance,
    n_len := PySem.W.mg_none_of X G n_len,
    n_list := PySem.W.mg_none_of X G n_list,
    n_max := PySem.W.mg_none_of X G n_max,
    n_min := PySem.W.mg_none_of X G n_min,
    n_range := PySem.W.mg_none_of X G n_range
    }, rfl, rfl⟩
  obtain ⟨T, e1, e2⟩ := T
  refine ⟨PySem.W.fnOf "law" "law" (defArgs s_law) (defBody s_law) (defScope s_law) .none kV_law dc_law pm_law an_law cd_law ct_law, fun s v => .of_eq rfl, fun base _ _ => ?_⟩
  have z := ok_law (P := l.prog) (w := w) (base := base) T
  rw [e1, e2] at z
  exact z
theorem walk {l : PySem.W.OpenLaw} {q : Program} {loose : List Str} {XP : (Str → Option Value) → Heap → Prop} {YP : World → Heap → Prop} {d : DefRec} {K : Params → PySem.W.Frag} (hn : l.most = some 63) (hdf : d.params.defaults = [])
    (hY : ∀ (w : World) (h : Heap), YP w h → (K w.params).In h)
    (F : ∀ (w : World) (mg : Str → Option Value) (fa : Addr) (h : Heap), (K w.params).In h → h.Ns mainGlobals mg → mg d.name = some (.ref fa) →
      ∃ fd : FuncData, (∀ (s : Shared) (u : Value), BindsTo s fd ⟨[u], []⟩ [("_law_script", u)]) ∧ ∀ base : Heap, (K w.params).In base → base.Ns mainGlobals mg → FnOk l.prog w (K w.params) mg base CX0 7 fa fd ["_law_script"] (sp_law (K w.params))) :
    PySem.W.WalkO q loose XP YP l.row.toRowW d [] (fun f vs => PySem.call f vs) :=
  L2.walk_of (n := 63) (k := 7) (x := "_law_script") (CX := fun _ => CX0) (sp := fun w => sp_law (K w.params)) hn (by decide) hdf ⟨rfl, by decide, by decide⟩ hY F (fun _ _ a ns hl _ hS => ⟨a, ns, rfl, hl, Hd.one hS, fun _ => rfl⟩) fun _ _ _ _ _ z => z
end My
open PySem PySem.W PyProof.Rows in
set_option maxRecDepth 100000 in
set_option maxHeartbeats 0 in
theorem PySem.Challenge.cw_keelroom_k01_words_holds : PySem.Challenge.rw_keelroom_k01_words.Holds := by
  w_on; o_law; k_head; (case hw => w_witness2)
  k_fill
  refine My.walk (l := PySem.Challenge.rw_keelroom_k01_words) rfl rfl (fun w h Y => PySem.W.kIn_of Y) ?F
  case F =>
    intro w mg fa h KX G hmg
    refine' My.all_mk KX G hmg ?gx_KeelError ?gx_NoWord ?gx_NoCode ?gx_Reach ?gx_Room ?gx_BadSize ?gx_NoTask ?gx_Full ?gx_NoChild ?xx_NoWord ?xk_NoWord ?xb_NoWord ?xt_NoWord ?xg_NoWord ?xh_NoWord ?xd_NoWord ?xa_NoWord ?xm_NoWord ?xs_NoWord_NoWord ?xs_NoWord_KeelError ?yd_KeelError ?yt_KeelError ?yd_NoWord ?yt_NoWord ?xs_NoWord_NoCode ?yd_NoCode ?yt_NoCode ?xs_NoWord_Reach ?yd_Reach ?yt_Reach ?xs_NoWord_Room ?yd_Room ?yt_Room ?xs_NoWord_BadSize ?yd_BadSize ?yt_BadSize ?xs_NoWord_NoTask ?yd_NoTask ?yt_NoTask ?xs_NoWord_Full ?yd_Full ?yt_Full ?xs_NoWord_NoChild ?yd_NoChild ?yt_NoChild ?yb ?xv_NoWord ?xn ?xo ?g_is_whole ?l_is_whole ?c_is_whole ?k_is_whole ?g_is_among ?l_is_among ?c_is_among ?k_is_among ?g_is_word ?l_is_word ?c_is_word ?k_is_word ?g_need_word ?l_need_word ?c_need_word ?k_need_word ?g_wrapped ?l_wrapped ?c_wrapped ?k_wrapped ?g_law_mixed ?l_law_mixed ?c_law_mixed ?k_law_mixed ?g_law_begun ?l_law_begun ?c_law_begun ?k_law_begun ?g_law_next ?l_law_next ?c_law_next ?k_law_next ?g_law_caught ?l_law_caught ?c_law_caught ?k_law_caught ?g_law_is_refused ?l_law_is_refused ?c_law_is_refused ?k_law_is_refused ?g_law_number_good ?l_law_number_good ?c_law_number_good ?k_law_number_good ?g_law ?l_law ?c_law ?k_law ?n_ValueError ?g_WORDS ?n_bool ?n_int ?n_isinstance ?n_len ?n_list ?n_max ?n_min ?n_range
    (case gx_KeelError => k_is)
    (case gx_NoWord => k_is)
    (case gx_NoCode => k_is)
    (case gx_Reach => k_is)
    (case gx_Room => k_is)
    (case gx_BadSize => k_is)
    (case gx_NoTask => k_is)
    (case gx_Full => k_is)
    (case gx_NoChild => k_is)
    (case xx_NoWord => k_exc)
    (case xk_NoWord => k_is)
    (case xb_NoWord => k_is)
    (case xt_NoWord => k_is)
    (case xg_NoWord => k_is)
    (case xh_NoWord => k_is)
    (case xd_NoWord => k_is)
    (case xa_NoWord => k_is)
    (case xm_NoWord => k_is)
    (case xs_NoWord_NoWord => k_is)
    (case xs_NoWord_KeelError => k_is)
    (case yd_KeelError => k_is)
    (case yt_KeelError => k_is)
    (case yd_NoWord => k_is)
    (case yt_NoWord => k_is)
    (case xs_NoWord_NoCode => k_is)
    (case yd_NoCode => k_is)
    (case yt_NoCode => k_is)
    (case xs_NoWord_Reach => k_is)
    (case yd_Reach => k_is)
    (case yt_Reach => k_is)
    (case xs_NoWord_Room => k_is)
    (case yd_Room => k_is)
    (case yt_Room => k_is)
    (case xs_NoWord_BadSize => k_is)
    (case yd_BadSize => k_is)
    (case yt_BadSize => k_is)
    (case xs_NoWord_NoTask => k_is)
    (case yd_NoTask => k_is)
    (case yt_NoTask => k_is)
    (case xs_NoWord_Full => k_is)
    (case yd_Full => k_is)
    (case yt_Full => k_is)
    (case xs_NoWord_NoChild => k_is)
    (case yd_NoChild => k_is)
    (case yt_NoChild => k_is)
    (case yb => k_is)
    (case xv_NoWord => k_is)
    (case xn => k_is)
    (case xo => k_is)
    (case g_is_whole => k_is)
    (case l_is_whole => k_is)
    (case c_is_whole => k_is)
    (case k_is_whole => k_is)
    (case g_is_among => k_is)
    (case l_is_among => k_is)
    (case c_is_among => k_is)
    (case k_is_among => k_is)
    (case g_is_word => k_is)
    (case l_is_word => k_is)
    (case c_is_word => k_is)
    (case k_is_word => k_is)
    (case g_need_word => k_is)
    (case l_need_word => k_is)
    (case c_need_word => k_is)
    (case k_need_word => k_is)
    (case g_wrapped => k_is)
    (case l_wrapped => k_is)
    (case c_wrapped => k_is)
    (case k_wrapped => k_is)
    (case g_law_mixed => k_is)
    (case l_law_mixed => k_is)
    (case c_law_mixed => k_is)
    (case k_law_mixed => k_is)
    (case g_law_begun => k_is)
    (case l_law_begun => k_is)
    (case c_law_begun => k_is)
    (case k_law_begun => k_is)
    (case g_law_next => k_is)
    (case l_law_next => k_is)
    (case c_law_next => k_is)
    (case k_law_next => k_is)
    (case g_law_caught => k_is)
    (case l_law_caught => k_is)
    (case c_law_caught => k_is)
    (case k_law_caught => k_is)
    (case g_law_is_refused => k_is)
    (case l_law_is_refused => k_is)
    (case c_law_is_refused => k_is)
    (case k_law_is_refused => k_is)
    (case g_law_number_good => k_is)
    (case l_law_number_good => k_is)
    (case c_law_number_good => k_is)
    (case k_law_number_good => k_is)
    (case g_law => k_is)
    (case l_law => k_is)
    (case c_law => k_is)
    (case k_law => k_is)
    (case n_ValueError => k_is)
    (case g_WORDS => k_is)
    (case n_bool => k_is)
    (case n_int => k_is)
    (case n_isinstance => k_is)
    (case n_len => k_is)
    (case n_list => k_is)
    (case n_max => k_is)
    (case n_min => k_is)
    (case n_range => k_is)
#print axioms PySem.Challenge.cw_keelroom_k01_words_holds
