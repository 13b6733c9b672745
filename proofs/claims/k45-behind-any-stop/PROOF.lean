import PyProof.Rows.All
import Wide.All
import OpenK.AllK
import Wide.FinOn
import PyProof.SumWalkG
import PyProof.ReprRoads
import PyProof.ReprLen
import HandS.ForMost
import HandS.Walk
import HandS.Flow
import HandS.IsInst
import HandS.Conv
import HandS.Zip
import HandS.SetFor
import HandS.SortInts
import HandS.ListItems
import HandS.TupAny
import HandS.TupMul
import HandS.Wide
import HandS.More
import HandS.ForExc
import HandS.ExcIs
import HandS.Style
import PySem.Challenge.RW_keelroom_k45_whole_behind_any_stop
import HandS.DictEq
import HandS.Exc
import HandS.ExcOwn
import HandS.WordsExc
import HandS.DeepEq
import KE.KEqNest
import PyProof.NeKinds
import KE.KUnpack
set_option Elab.async false
set_option maxRecDepth 100000
set_option maxHeartbeats 1000000
set_option linter.unusedVariables false
set_option maxRecDepth 100000
namespace Sl
open PySem L2

/-! ### heaps in pieces -/
abbrev SA := Hp → Prop
def Imm : HO → Prop
  | .tup _ => True
  | _ => False
def Cmp (H1 H2 : Hp) : Prop := ∀ a o1 o2, H1 a = some o1 → H2 a = some o2 → o1 = o2 ∧ Imm o1
def Sub (H1 H2 : Hp) : Prop := ∀ a o, H1 a = some o → H2 a = some o
theorem Sub.refl (H : Hp) : Sub H H := fun _ _ h => h
theorem Sub.trans {H1 H2 H3 : Hp} (a : Sub H1 H2) (b : Sub H2 H3) : Sub H1 H3 := fun x o h => b x o (a x o h)
theorem Cmp.symm {H1 H2 : Hp} (c : Cmp H1 H2) : Cmp H2 H1 := fun a o1 o2 h1 h2 => by
  obtain ⟨e, i⟩ := c a o2 o1 h2 h1
  subst e
  exact ⟨rfl, i⟩
theorem Cmp.sub {H1 H2 G1 G2 : Hp} (c : Cmp H1 H2) (a : Sub G1 H1) (b : Sub G2 H2) : Cmp G1 G2 := fun x o1 o2 h1 h2 => c x o1 o2 (a x o1 h1) (b x o2 h2)
def uni (H1 H2 : Hp) : Hp := fun a => match H1 a with
  | some o => some o
  | none => H2 a
theorem uni_l (H1 H2 : Hp) : Sub H1 (uni H1 H2) := fun a o h => by
  unfold uni
  rw [h]
theorem uni_r {H1 H2 : Hp} (c : Cmp H1 H2) : Sub H2 (uni H1 H2) := fun a o h => by
  unfold uni
  cases e : H1 a with
  | none => exact h
  | some o1 =>
    obtain ⟨e2, _⟩ := c a o1 o e h
    rw [e2]
theorem uni_or {H1 H2 : Hp} {a : Addr} {o : HO} (h : uni H1 H2 a = some o) : H1 a = some o ∨ H2 a = some o := by
  unfold uni at h
  cases e : H1 a with
  | none =>
    rw [e] at h
    exact .inr h
  | some o1 =>
    rw [e] at h
    exact .inl h
theorem uni_sub {H1 H2 H : Hp} (a : Sub H1 H) (b : Sub H2 H) : Sub (uni H1 H2) H := fun x o h => (uni_or h).elim (a x o) (b x o)
theorem uni_cmp {H1 H2 H : Hp} (a : Cmp H H1) (b : Cmp H H2) : Cmp H (uni H1 H2) := fun x o1 o2 h1 h2 => (uni_or h2).elim (a x o1 o2 h1) (b x o1 o2 h1)

/-- the heap bears these, each in a piece of its own (tuples may be shared), and more -/
def Hd : List SA → Hp → Prop
  | [], _ => True
  | A :: L, H => ∃ H1 H2, Cmp H1 H2 ∧ Sub H1 H ∧ Sub H2 H ∧ A H1 ∧ Hd L H2
theorem Hd.up {H H' : Hp} : ∀ {L : List SA}, Sub H H' → Hd L H → Hd L H'
  | [], _, _ => trivial
  | _ :: _, s, ⟨H1, H2, c, a, b, p, q⟩ => ⟨H1, H2, c, a.trans s, b.trans s, p, q⟩
theorem Hd.tl {A : SA} {L : List SA} {H : Hp} (h : Hd (A :: L) H) : Hd L H := by
  obtain ⟨H1, H2, _, _, b, _, q⟩ := h
  exact q.up b
theorem Hd.mono {A : SA} {L L' : List SA} {H : Hp} (h : Hd (A :: L) H) (f : ∀ H, Hd L H → Hd L' H) : Hd (A :: L') H := by
  obtain ⟨H1, H2, c, a, b, p, q⟩ := h
  exact ⟨H1, H2, c, a, b, p, f _ q⟩
theorem Hd.imp {A B : SA} {L : List SA} {H : Hp} (h : Hd (A :: L) H) (f : ∀ H, A H → B H) : Hd (B :: L) H := by
  obtain ⟨H1, H2, c, a, b, p, q⟩ := h
  exact ⟨H1, H2, c, a, b, f _ p, q⟩
theorem Hd.swap {A B : SA} {L : List SA} {H : Hp} (h : Hd (A :: B :: L) H) : Hd (B :: A :: L) H := by
  obtain ⟨H1, H2, c, a, b, p, H3, H4, c2, a2, b2, p2, q⟩ := h
  have c13 : Cmp H1 H3 := c.sub (Sub.refl _) a2
  have c14 : Cmp H1 H4 := c.sub (Sub.refl _) b2
  exact ⟨H3, uni H1 H4, uni_cmp c13.symm c2, a2.trans b, uni_sub a (b2.trans b), p2, H1, H4, c14, uni_l _ _, uni_r c14, p, q⟩
/-- A stands in L, the others are L' -/
inductive Pull : SA → List SA → List SA → Prop
  | here {A : SA} {L : List SA} : Pull A (A :: L) L
  | there {A B : SA} {L L' : List SA} : Pull A L L' → Pull A (B :: L) (B :: L')
theorem Hd.pull {A : SA} {L L' : List SA} (p : Pull A L L') : ∀ {H : Hp}, Hd L H → Hd (A :: L') H := by
  induction p with
  | here => exact fun h => h
  | there _ ih => exact fun h => (h.mono fun _ => ih).swap
theorem Hd.push {A : SA} {L L' : List SA} (p : Pull A L L') : ∀ {H : Hp}, Hd (A :: L') H → Hd L H := by
  induction p with
  | here => exact fun h => h
  | there _ ih => exact fun h => h.swap.mono fun _ => ih
/-- A in L is exchanged for B -/
inductive Put : SA → SA → List SA → List SA → Prop
  | here {A B : SA} {L : List SA} : Put A B (A :: L) (B :: L)
  | there {A B C : SA} {L L' : List SA} : Put A B L L' → Put A B (C :: L) (C :: L')
theorem Put.pulls {A B : SA} {L L' : List SA} (p : Put A B L L') : ∃ M, Pull A L M ∧ Pull B L' M := by
  induction p with
  | here => exact ⟨_, .here, .here⟩
  | there _ ih =>
    obtain ⟨M, a, b⟩ := ih
    exact ⟨_, .there a, .there b⟩
/-- L bears M (in any order; more in L is let fall) -/
inductive Mt : List SA → List SA → Prop
  | nil {L : List SA} : Mt [] L
  | refl {L : List SA} : Mt L L
  | cons {A : SA} {L L' M : List SA} : Pull A L L' → Mt M L' → Mt (A :: M) L
  | drop {A : SA} {L M : List SA} : Mt M L → Mt M (A :: L)
theorem Hd.mt {M L : List SA} (m : Mt M L) : ∀ {H : Hp}, Hd L H → Hd M H := by
  induction m with
  | nil => exact fun _ => trivial
  | refl => exact fun h => h
  | cons p _ ih => exact fun h => (h.pull p).mono fun _ => ih
  | drop _ ih => exact fun h => ih h.tl

/-! ### what stands at an address -/
def pto (a : Addr) (o : HO) : SA := fun H => H a = some o
theorem Hd.get {a : Addr} {o : HO} {L L' : List SA} {H : Hp} (h : Hd L H) (p : Pull (pto a o) L L') : H a = some o := by
  obtain ⟨H1, H2, _, s, _, e, _⟩ := h.pull p
  exact s a o e
def one (a : Addr) (o : HO) : Hp := fun b => if b = a then some o else none
theorem one_at {a : Addr} {o : HO} : one a o a = some o := if_pos rfl
theorem of_one {a b : Addr} {o u : HO} (h : one a o b = some u) : b = a ∧ u = o := by
  unfold one at h
  split at h
  · rename_i e
    exact ⟨e, (Option.some.inj h).symm⟩
  · cases h
theorem one_cmp {a : Addr} {o : HO} {H : Hp} (n : H a = none) : Cmp (one a o) H := fun b o1 o2 h1 h2 => by
  obtain ⟨rfl, rfl⟩ := of_one h1
  rw [n] at h2
  cases h2
theorem one_sub {a : Addr} {o : HO} {H : Hp} (n : H a = some o) : Sub (one a o) H := fun b u h => by
  obtain ⟨rfl, rfl⟩ := of_one h
  exact n
theorem Hd.new {a : Addr} {o : HO} {L : List SA} {H : Hp} (h : Hd L H) (n : H a = none) : Hd (pto a o :: L) (upd H a o) :=
  ⟨one a o, H, one_cmp n, one_sub upd_same, fun b u e => by
    rw [upd_ne (ne_of_none e n)]
    exact e, one_at, h⟩
theorem Hd.set {a : Addr} {o o' : HO} {L L' : List SA} {H : Hp} (h : Hd L H) (p : Put (pto a o) (pto a o') L L') (m : ¬ Imm o) : Hd L' (upd H a o') := by
  obtain ⟨M, pa, pb⟩ := p.pulls
  refine Hd.push pb ?_
  obtain ⟨H1, H2, c, s1, s2, e, q⟩ := h.pull pa
  have n : H2 a = none := by
    cases z : H2 a with
    | none => rfl
    | some u => exact (m (c a o u e z).2).elim
  exact ⟨one a o', H2, one_cmp n, one_sub upd_same, fun b u e => by
    rw [upd_ne (ne_of_none e n)]
    exact s2 _ _ e, one_at, q⟩
/-- a tuple is shared -/
theorem Hd.dup {a : Addr} {xs : List V} {L L' : List SA} {H : Hp} (h : Hd L H) (p : Pull (pto a (.tup xs)) L L') : Hd (pto a (.tup xs) :: L) H :=
  ⟨one a (.tup xs), H, fun b o1 o2 h1 h2 => by
    obtain ⟨rfl, rfl⟩ := of_one h1
    rw [h.get p] at h2
    cases h2
    exact ⟨rfl, trivial⟩, one_sub (h.get p), Sub.refl _, one_at, h⟩
/-- words over pieces -/
theorem Hd.ex {α : Type} {A : α → SA} {L : List SA} {H : Hp} (h : Hd ((fun H => ∃ x, A x H) :: L) H) : ∃ x, Hd (A x :: L) H := by
  obtain ⟨H1, H2, c, s1, s2, ⟨x, e⟩, q⟩ := h
  exact ⟨x, H1, H2, c, s1, s2, e, q⟩
theorem Hd.pure {p : Prop} {A : SA} {L : List SA} {H : Hp} (h : Hd ((fun H => p ∧ A H) :: L) H) : p ∧ Hd (A :: L) H := by
  obtain ⟨H1, H2, c, s1, s2, ⟨x, e⟩, q⟩ := h
  exact ⟨x, H1, H2, c, s1, s2, e, q⟩
theorem Hd.open {M : List SA} : ∀ {L : List SA} {H : Hp}, Hd (Hd M :: L) H → Hd (M ++ L) H := by
  induction M with
  | nil => exact fun h => h.tl
  | cons A M ih =>
    rintro L H ⟨H1, H2, c, s1, s2, ⟨H3, H4, c2, s3, s4, p, q⟩, r⟩
    have c32 := c.sub s3 (Sub.refl _)
    have c42 := c.sub s4 (Sub.refl _)
    exact ⟨H3, uni H4 H2, uni_cmp c2 c32, s3.trans s1, uni_sub (s4.trans s1) s2, p, ih ⟨H4, H2, c42, uni_l _ _, uni_r c42, q, r⟩⟩
theorem Hd.close {M : List SA} : ∀ {L : List SA} {H : Hp}, Hd (M ++ L) H → Hd (Hd M :: L) H := by
  induction M with
  | nil => exact fun {L H} h => ⟨fun _ => none, H, fun _ _ _ h => (nomatch h), fun _ _ h => (nomatch h), Sub.refl _, trivial, h⟩
  | cons A M ih =>
    rintro L H ⟨H1, H2, c, s1, s2, p, q⟩
    obtain ⟨H3, H4, c2, s3, s4, p2, q2⟩ := ih q
    have c13 := c.sub (Sub.refl _) s3
    have c14 := c.sub (Sub.refl _) s4
    exact ⟨uni H1 H3, H4, (uni_cmp c14.symm c2.symm).symm, uni_sub s1 (s3.trans s2), s4.trans s2, ⟨H1, H3, c13, uni_l _ _, uni_r c13, p, p2⟩, q2⟩
/-- a list that is read only -/
def sql (K : PySem.W.Frag) (a : Addr) (xs : List V) : SA := fun H => SqL K H a xs
theorem Hd.sql {K : PySem.W.Frag} {a : Addr} {xs : List V} {L L' : List SA} {H : Hp} (h : Hd L H) (p : Pull (sql K a xs) L L') : SqL K H a xs := by
  obtain ⟨H1, H2, _, s, _, e, _⟩ := h.pull p
  exact Same.seq s e
theorem Hd.sq {K : PySem.W.Frag} {a : Addr} {xs : List V} {L L' : List SA} {H : Hp} (h : Hd L H) (p : Pull (pto a (.lst xs)) L L') : SqL K H a xs := SqL.of (h.get p)
theorem Hd.st {K : PySem.W.Frag} {a : Addr} {xs : List V} {L L' : List SA} {H : Hp} (h : Hd L H) (p : Pull (pto a (.tup xs)) L L') : SqT K H a xs := SqT.of (h.get p)
end Sl

set_option maxRecDepth 100000
set_option maxHeartbeats 1000000
namespace Sl
open PySem L2

/-! ### operators of several kinds at once -/
def rDG : R2 := fun x y H Q => ∃ a v, x = .ref a ∧ DGet H a y (some v) ∧ Q v H
def rDIn (neg : Bool) : R2 := fun y x H Q => ∃ a o, x = .ref a ∧ DGet H a y o ∧ Q (.bl (if neg then !o.isSome else o.isSome)) H
def rAddS : R2 := fun x y H Q => ∃ i j, x = .str i ∧ y = .str j ∧ i.length + j.length ≤ sizeLine ∧ Q (.str (i ++ j)) H
def rAddU (K : PySem.W.Frag) : R2 := fun x y H Q => rI0 (fun i j => .int (i + j)) x y H Q ∨ rCat x y H Q ∨ rAddS x y H Q ∨ rCatA K x y H Q
def rMulU (K : PySem.W.Frag) : R2 := fun x y H Q => rI CMul (fun i j => .int (i * j)) x y H Q ∨ rRep x y H Q ∨ rRepT K x y H Q
def rDivU : R2 := fun x y H Q => rI CDiv (fun i j => .int (i / j)) x y H Q ∨ rI CDivW (fun i j => .int (i / j)) x y H Q
def rEqU (K : PySem.W.Frag) : R2 := fun x y H Q => rEq x y H Q ∨ rEqD K x y H Q
def rNeU (K : PySem.W.Frag) : R2 := fun x y H Q => rNe x y H Q ∨ rNeD K x y H Q
def rInU (K : PySem.W.Frag) (neg : Bool) : R2 := fun x y H Q => rIn K neg x y H Q ∨ rDIn neg x y H Q
def rIxU (K : PySem.W.Frag) : R2 := fun x y H Q => rIx K x y H Q ∨ rDG x y H Q
def rIsN' : R2 := fun x y H Q => y = .non ∧ Q (.bl (decide (x = .non))) H
def rNotN' : R2 := fun x y H Q => y = .non ∧ Q (.bl (!decide (x = .non))) H
section
variable {X : Cx}
theorem u_add : OpR X (binaryOp .Add) (rAddU X.K) := op_add.or (op_cat.or (op_add_str.or op_catA))
theorem u_sub : OpR X (binaryOp .Sub) (rI0 fun i j => .int (i - j)) := op_sub
theorem u_mul : OpR X (binaryOp .Mult) (rMulU X.K) := op_mul.or (op_rep.or op_repT)
theorem u_div : OpR X (binaryOp .FloorDiv) rDivU := op_fdiv.or op_fdivW
theorem u_mod : OpR X (binaryOp .Mod) (rI (fun _ j => 0 < j) fun i j => .int (i % j)) := op_mod
theorem u_pow : OpR X (binaryOp .Pow) (rI CPow fun i j => .int (i ^ j.toNat)) := op_pow
theorem u_eq (hu : X.A.units + 64 < cLine) : OpR X (compareOp .Eq) (rEqU X.K) := op_eq.or (op_eqD hu)
theorem u_ne (hu : X.A.units + 64 < cLine) : OpR X (compareOp .NotEq) (rNeU X.K) := op_ne.or (op_neD hu)
theorem op_dIn (hu : X.A.units + 1 < cLine) : OpR X (compareOp .In) (rDIn false) := by
  intro pins s σ H x y v u Q I rx ry h
  obtain ⟨a, o, rfl, g, q⟩ := h
  cases ry
  exact d_in hu I g rx fun s3 I3 => ⟨.bl o.isSome, H, I3, rfl, q⟩
theorem op_dNotIn (hu : X.A.units + 1 < cLine) : OpR X (compareOp .NotIn) (rDIn true) := by
  intro pins s σ H x y v u Q I rx ry h
  obtain ⟨a, o, rfl, g, q⟩ := h
  cases ry
  exact d_notIn hu I g rx fun s3 I3 => ⟨.bl (!o.isSome), H, I3, rfl, q⟩
theorem u_in (hu : X.A.units + 1 < cLine) : OpR X (compareOp .In) (rInU X.K false) := op_in_seq.or (op_dIn hu)
theorem u_notIn (hu : X.A.units + 1 < cLine) : OpR X (compareOp .NotIn) (rInU X.K true) := op_notIn_seq.or (op_dNotIn hu)
theorem u_isN : OpR X (compareOp .Is) rIsN' := op_isN
theorem u_notN : OpR X (compareOp .IsNot) rNotN' := op_notN
theorem ix_dict (hu : X.A.units + 1 < cLine) : IxR X rDG := by
  intro value slice pins s σ H x y v u Q I rx ry h hs
  obtain ⟨a, w, rfl, g, q⟩ := h
  cases rx
  exact PyProof.Rows.tail_any (dict_typeIs I g) PySem.F.slot_dict_getitem.lookup (d_getItem hu I g ry fun w' s3 I3 rw' => ⟨w, H, I3, rw', q⟩) hs
end
end Sl

set_option maxRecDepth 100000
set_option maxHeartbeats 1000000
namespace Sl
open PySem L2

/-! ### subscripts stored -/
def rSetD : TSet := fun o i v H Q => ∃ a H', o = .ref a ∧ DPut H a i v H' ∧ Q H'
def rSetU : TSet := fun o i v H Q => rSetL o i v H Q ∨ rSetD o i v H Q
section
variable {X : Cx}
theorem set_dict (hu : X.A.units + 1 < cLine) : PSet X rSetD := by
  intro pins s σ H o i v ov iv u Q I ro ri rv h
  obtain ⟨a, H', rfl, g, q⟩ := h
  cases ro
  exact d_setItem hu I g ri rv fun s' I' => ⟨H', I', q⟩
theorem u_set (hu : X.A.units + 1 < cLine) : PSet X rSetU := by
  intro pins s σ H o i v ov iv u Q I ro ri rv h
  rcases h with h | h
  · exact set_list pins s σ H o i v ov iv u Q I ro ri rv h
  · exact set_dict hu pins s σ H o i v ov iv u Q I ro ri rv h
end

/-! ### built-ins, their readings named -/
def rLenU (K : PySem.W.Frag) : List V → Hp → VK → Prop := fun xs H Q => (∃ x n, xs = [x] ∧ LenV K x H n ∧ Q (.int (n : Nat)) H) ∨ ∃ a kvs, xs = [V.ref a] ∧ H a = some (.dK kvs) ∧ Q (.int (kvs.length : Nat)) H
def rAbs : List V → Hp → VK → Prop := fun xs H Q => ∃ i, xs = [.int i] ∧ Q (.int (if i < 0 then -i else i)) H
def rMax2 : List V → Hp → VK → Prop := fun xs H Q => ∃ i j, xs = [.int i, .int j] ∧ Q (.int (if j > i then j else i)) H
def rMin2 : List V → Hp → VK → Prop := fun xs H Q => ∃ i j, xs = [.int i, .int j] ∧ Q (.int (if j < i then j else i)) H
def rInt1 : List V → Hp → VK → Prop := fun xs H Q => (∃ i, xs = [.int i] ∧ Q (.int i) H) ∨ ∃ k, xs = [.bl k] ∧ Q (.int (if k then 1 else 0)) H
def rListOf (K : PySem.W.Frag) : List V → Hp → VK → Prop := fun xs H Q => ∃ p ys, xs = [.ref p] ∧ (SqL K H p ys ∨ SqT K H p ys) ∧ ∀ l, H l = none → Q (.ref l) (upd H l (.lst ys))
def rTupleOf (K : PySem.W.Frag) : List V → Hp → VK → Prop := fun xs H Q => ∃ p ys, xs = [.ref p] ∧ ((SqL K H p ys ∧ ∀ l, H l = none → Q (.ref l) (upd H l (.tup ys))) ∨ (SqT K H p ys ∧ Q (.ref p) H))
def rIsiU (K : PySem.W.Frag) : List V → Hp → VK → Prop := fun xs H Q => rIsi K xs H Q ∨ rIsiT K xs H Q
section
variable {X : Cx}
theorem u_len : CallR X (.builtin "len") (rLenU X.K) := call_len.or call_lenD
theorem u_abs : CallR X (.builtin "abs") rAbs := call_abs
theorem u_max2 (hc : X.calm = true) : CallR X (.builtin "max") rMax2 := call_max2 hc
theorem u_min2 (hc : X.calm = true) : CallR X (.builtin "min") rMin2 := call_min2 hc
theorem u_int1 : CallR X (.type "int") rInt1 := call_int1
theorem u_list : CallR X (.type "list") (rListOf X.K) := call_list_of
theorem u_tuple : CallR X (.type "tuple") (rTupleOf X.K) := call_tuple_of
theorem u_isi : CallR X (.builtin "isinstance") (rIsiU X.K) := call_isi.or call_isiT
theorem u_ix (hu : X.A.units + 1 < cLine) : IxR X (rIxU X.K) := ix_seq.or (ix_dict hu)
end

/-! ### what stands at the leaves of a reading, named -/
def AllocT (Q : VK) (xs : List V) (H : Hp) : Prop := xs.length ≤ sizeLine ∧ ∀ p, H p = none → Q (.ref p) (upd H p (.tup xs))
def AllocL (Q : VK) (xs : List V) (H : Hp) : Prop := xs.length ≤ sizeLine ∧ ∀ p, H p = none → Q (.ref p) (upd H p (.lst xs))
def IsB (QT : Bool → Hp → Prop) (x : V) (H : Hp) : Prop := ∃ k, x = .bl k ∧ QT k H
def AndK (tb : TE) (σ : L2.St) (Q : VK) (x : V) (H : Hp) : Prop := ∃ c, x = .bl c ∧ if c = true then tb σ H Q else Q (.bl false) H
def OrK (tb : TE) (σ : L2.St) (Q : VK) (x : V) (H : Hp) : Prop := ∃ c, x = .bl c ∧ if c = true then Q (.bl true) H else tb σ H Q
def NotK (Q : VK) (x : V) (H : Hp) : Prop := ∃ c, x = .bl c ∧ Q (.bl (!c)) H
def FldK (K : PySem.W.Frag) (f : Str) (Q : VK) (x : V) (H : Hp) : Prop := ∃ a C dx fs v, x = .ref a ∧ H a = some (.ins C dx fs) ∧ Cls K C ∧ NoAttr K C f ∧ fs.lookup f = some v ∧ Q v H
def SFldK (K : PySem.W.Frag) (f : Str) (N : Hp → Prop) (y x : V) (H : Hp) : Prop := ∃ a C dx fs, x = .ref a ∧ H a = some (.ins C dx fs) ∧ Cls K C ∧ NoAttr K C f ∧ fs.length < 1000 ∧ N (upd H a (.ins C dx (putF f y fs)))
def MethK (C : Addr) (m : Str) (R : V → Hp → Prop) (x : V) (H : Hp) : Prop := ∃ a dx fs, x = .ref a ∧ H a = some (.ins C dx fs) ∧ fs.lookup m = none ∧ R x H
def MakeK (C : Addr) (sp : Sp) (dvs : List V) (E : XK) (Q : VK) (vs : List V) (H : Hp) : Prop := ∀ x dx, H x = none → H dx = none → dx ≠ x → sp (.ref x :: (vs ++ dvs)) (upd (upd H dx (.own x)) x (.ins C dx [])) (fun v H2 => v = .non ∧ Q (.ref x) H2) E
def PartK (QO : Option Int → Hp → Prop) (x : V) (H : Hp) : Prop := ∃ i, x = .int i ∧ QO (some i) H
def DispE (p : Addr) (Q : VK) (ps : List (V × V)) (H : Hp) : Prop := H p = some (.dK []) ∧ ∃ kvs : List (Key × V), ps = kvs.map (fun kv => (kV kv.1, kv.2)) ∧ kvs.length ≤ 15 ∧ Q (.ref p) (upd H p (.dK (mergeK [] kvs)))
def GetE1 (a : Addr) (Q : VK) (y : V) (H : Hp) : Prop := ∃ o, DGet H a y o ∧ Q (o.getD .non) H
def GetE2 (a : Addr) (y : V) (Q : VK) (z : V) (H : Hp) : Prop := ∃ o, DGet H a y o ∧ Q (o.getD z) H
def IsDK (R : Addr → Hp → Prop) (x : V) (H : Hp) : Prop := ∃ a, x = .ref a ∧ IsD H a ∧ R a H

/-! ### readings, one construct after the other -/
section
variable {K : PySem.W.Frag} {σ : L2.St} {H : Hp} {D : Ends} {t u tw : TS} {te ta tb tx : TE} {tr : TA} {tt tu : TT} {g : TG} {gs : TGs} {Q : VK} {QA : List V → Hp → Prop} {QT : Bool → Hp → Prop} {v x y : V} {i j k : Int} {b c : Bool} {n : Nat}
  {L L' : List SA} {a p : Addr} {xs ys zs : List V} {r : R2} {N : Hp → Prop}
theorem r_seq (q : t { D with nx := u D } σ H) : tSeq t u D σ H := q
theorem r_next (q : D.nx σ H) : tNext D σ H := q
theorem r_asg (q : te σ H fun x H1 => g x σ H1 D.nx) : tAsg te g D σ H := q
theorem r_gName {QS : L2.St → Hp → Prop} (q : QS (σ.set n (some v)) H) : gName n v σ H QS := q
theorem r_drop (q : te σ H fun _ H1 => D.nx σ H1) : tDrop te D σ H := q
theorem r_ret (q : te σ H D.rt) : tRet te D σ H := q
theorem r_retN (q : D.rt .non H) : tRetN D σ H := q
theorem r_break (q : D.bk σ H) : tBreak D σ H := q
theorem r_cont (q : D.ct σ H) : tCont D σ H := q
theorem r_ifS (q : tt σ H fun b H1 => if b = true then t D σ H1 else u D σ H1) : tIfS tt t u D σ H := q
theorem r_test (q : te σ H (IsB QT)) : tTest te σ H QT := q
theorem r_tB (q : te σ H (IsB QT)) : tB te σ H QT := q
theorem r_isb (q : QT b H) : IsB QT (.bl b) H := ⟨b, rfl, q⟩
theorem r_tAnd (q : tt σ H fun c H1 => if c = true then tu σ H1 QT else QT false H1) : tAnd tt tu σ H QT := q
theorem r_tOr (q : tt σ H fun c H1 => if c = true then QT true H1 else tu σ H1 QT) : tOr tt tu σ H QT := q
theorem r_tNot (q : tt σ H fun c H1 => QT (!c) H1) : tNot tt σ H QT := q
theorem r_var (h : σ[n]? = some (some v)) (q : Q v H) : tVar n σ H Q := ⟨v, h, q⟩
theorem r_c (q : Q v H) : tC v σ H Q := q
theorem r_op (q : ta σ H fun x H1 => tb σ H1 fun y H2 => r x y H2 Q) : tOp r ta tb σ H Q := q
theorem r_un {ru : V → Hp → VK → Prop} (q : ta σ H fun x H1 => ru x H1 Q) : tUn ru ta σ H Q := q
theorem r_rU {f : Int → V} (q : Q (f i) H) : rU f (.int i) H Q := ⟨i, rfl, q⟩
theorem r_andV (q : ta σ H (AndK tb σ Q)) : tAndV ta tb σ H Q := q
theorem r_andK (q : if b = true then tb σ H Q else Q (.bl false) H) : AndK tb σ Q (.bl b) H := ⟨b, rfl, q⟩
theorem r_orV (q : ta σ H (OrK tb σ Q)) : tOrV ta tb σ H Q := q
theorem r_orK (q : if b = true then Q (.bl true) H else tb σ H Q) : OrK tb σ Q (.bl b) H := ⟨b, rfl, q⟩
theorem r_notV (q : ta σ H (NotK Q)) : tNotV ta σ H Q := q
theorem r_notK (q : Q (.bl (!b)) H) : NotK Q (.bl b) H := ⟨b, rfl, q⟩
theorem r_tIf (q : tt σ H fun c H1 => if c = true then ta σ H1 Q else tb σ H1 Q) : tIf tt ta tb σ H Q := q
theorem r_ite {A B : Prop} (h1 : b = true → A) (h2 : b = false → B) : if b = true then A else B := by
  cases b with
  | true => exact h1 rfl
  | false => exact h2 rfl
theorem r_iteD {P A B : Prop} [Decidable P] (h1 : P → A) (h2 : ¬ P → B) : if decide P = true then A else B := ite2 (fun h => h1 (of_decide_eq_true h)) fun h => h2 fun z => h (decide_eq_true z)
theorem r_iteN {P A B : Prop} [Decidable P] (h1 : ¬ P → A) (h2 : P → B) : if (!decide P) = true then A else B := by
  by_cases h : P
  · rw [decide_eq_true h]
    exact iteF (h2 h)
  · rw [decide_eq_false h]
    exact iteT (h1 h)
theorem r_iteB {A B : Prop} (h1 : b = false → A) (h2 : b = true → B) : if (!b) = true then A else B := by
  cases b with
  | true => exact iteF (h2 rfl)
  | false => exact iteT (h1 rfl)
theorem r_iteY {A B : Prop} (h : A) : if true = true then A else B := iteT h
theorem r_iteZ {A B : Prop} (h : B) : if false = true then A else B := iteF h
theorem r_nil (q : QA [] H) : tNil σ H QA := q
theorem r_cons (q : ta σ H fun x H1 => tr σ H1 fun xs H2 => QA (x :: xs) H2) : tCons ta tr σ H QA := q
theorem r_call {sp : Sp} {dvs : List V} {E : XK} (q : tr σ H fun vs H1 => sp (vs ++ dvs) H1 Q E) : tCall sp dvs E tr σ H Q := q
theorem r_cB {rc : List V → Hp → VK → Prop} (q : tr σ H fun vs H1 => rc vs H1 Q) : tCB rc tr σ H Q := q
theorem r_tup (q : tr σ H (AllocT Q)) : tTup tr σ H Q := q
theorem r_lst (q : tr σ H (AllocL Q)) : tLst tr σ H Q := q
theorem r_newT (hs : Hd L H) (hl : xs.length ≤ sizeLine) (q : ∀ p H', Hd (pto p (.tup xs) :: L) H' → Q (.ref p) H') : AllocT Q xs H := ⟨hl, fun p n => q p _ (hs.new n)⟩
theorem r_newL (hs : Hd L H) (hl : xs.length ≤ sizeLine) (q : ∀ p H', Hd (pto p (.lst xs) :: L) H' → Q (.ref p) H') : AllocL Q xs H := ⟨hl, fun p n => q p _ (hs.new n)⟩
/-! #### operators -/
theorem r_I0 {f : Int → Int → V} (q : Q (f i j) H) : rI0 f (.int i) (.int j) H Q := ⟨i, j, rfl, rfl, q⟩
theorem r_I {C : Int → Int → Prop} {f : Int → Int → V} (h : C i j) (q : Q (f i j) H) : rI C f (.int i) (.int j) H Q := ⟨i, j, rfl, rfl, h, q⟩
theorem r_addI (q : Q (.int (i + j)) H) : rAddU K (.int i) (.int j) H Q := .inl ⟨i, j, rfl, rfl, q⟩
theorem r_addL {b : Addr} (hs : Hd L H) (h1 : H a = some (.lst xs)) (h2 : H b = some (.lst ys)) (hl : xs.length + ys.length ≤ sizeLine) (q : ∀ p H', Hd (pto p (.lst (xs ++ ys)) :: L) H' → Q (.ref p) H') : rAddU K (.ref a) (.ref b) H Q :=
  .inr (.inl ⟨a, b, xs, ys, rfl, rfl, h1, h2, hl, fun p n => q p _ (hs.new n)⟩)
theorem r_addS {z w : Str} (h : z.length + w.length ≤ sizeLine) (q : Q (.str (z ++ w)) H) : rAddU K (.str z) (.str w) H Q := .inr (.inr (.inl ⟨z, w, rfl, rfl, h, q⟩))
theorem r_mulI (h : CMul i j) (q : Q (.int (i * j)) H) : rMulU K (.int i) (.int j) H Q := .inl ⟨i, j, rfl, rfl, h, q⟩
theorem r_mulL (hs : Hd L H) (h1 : H a = some (.lst xs)) (h : -(2 ^ 63) ≤ k ∧ k < 2 ^ 63) (hl : xs.length * k.toNat ≤ sizeLine) (q : ∀ p H', Hd (pto p (.lst (List.replicate k.toNat xs).flatten) :: L) H' → Q (.ref p) H') : rMulU K (.ref a) (.int k) H Q :=
  .inr (.inl ⟨a, k, xs, rfl, rfl, h1, h.1, h.2, hl, fun p n => q p _ (hs.new n)⟩)
theorem r_divI (h : 0 < j ∧ j < 1073741824) (q : Q (.int (i / j)) H) : rDivU (.int i) (.int j) H Q := .inl ⟨i, j, rfl, rfl, h, q⟩
theorem r_divW (h : 0 < j ∧ j.natAbs.log2 < 9000) (q : Q (.int (i / j)) H) : rDivU (.int i) (.int j) H Q := .inr ⟨i, j, rfl, rfl, h, q⟩
theorem r_modI (h : 0 < j) (q : Q (.int (i % j)) H) : rI (fun _ j => 0 < j) (fun i j => .int (i % j)) (.int i) (.int j) H Q := ⟨i, j, rfl, rfl, h, q⟩
theorem r_eqI (q : Q (.bl (decide (i = j))) H) : rEqU K (.int i) (.int j) H Q := .inl ⟨rfl, by
  have e : decide (V.int i = V.int j) = decide (i = j) := by simp
  rw [e]
  exact q⟩
theorem r_neI (q : Q (.bl (!decide (i = j))) H) : rNeU K (.int i) (.int j) H Q := .inl ⟨rfl, by
  have e : decide (V.int i = V.int j) = decide (i = j) := by simp
  rw [e]
  exact q⟩
theorem r_eqS {z w : Str} (q : Q (.bl (decide (z = w))) H) : rEqU K (.str z) (.str w) H Q := .inl ⟨rfl, by
  have e : decide (V.str z = V.str w) = decide (z = w) := by simp
  rw [e]
  exact q⟩
theorem r_neS {z w : Str} (q : Q (.bl (!decide (z = w))) H) : rNeU K (.str z) (.str w) H Q := .inl ⟨rfl, by
  have e : decide (V.str z = V.str w) = decide (z = w) := by simp
  rw [e]
  exact q⟩
theorem r_eqB (q : Q (.bl (decide (b = c))) H) : rEqU K (.bl b) (.bl c) H Q := .inl ⟨rfl, by
  have e : decide (V.bl b = V.bl c) = decide (b = c) := by simp
  rw [e]
  exact q⟩
theorem r_neB (q : Q (.bl (!decide (b = c))) H) : rNeU K (.bl b) (.bl c) H Q := .inl ⟨rfl, by
  have e : decide (V.bl b = V.bl c) = decide (b = c) := by simp
  rw [e]
  exact q⟩
theorem r_eqV (h : scal x y = true) (q : Q (.bl (decide (x = y))) H) : rEqU K x y H Q := .inl ⟨h, q⟩
theorem r_neV (h : scal x y = true) (q : Q (.bl (!decide (x = y))) H) : rNeU K x y H Q := .inl ⟨h, q⟩
theorem r_eqD {d e : PyData} (h1 : Dp K H x d) (h2 : Dp K H y e) (s1 : SeqAt.shaped d = true) (s2 : SeqAt.shaped e = true) (q : Q (.bl (PyData.eqv d e)) H) : rEqU K x y H Q := .inr ⟨d, e, h1, h2, s1, s2, q⟩
theorem r_neD {d e : PyData} (h1 : Dp K H x d) (h2 : Dp K H y e) (s1 : SeqAt.shaped d = true) (s2 : SeqAt.shaped e = true) (q : Q (.bl (!PyData.eqv d e)) H) : rNeU K x y H Q := .inr ⟨d, e, h1, h2, s1, s2, q⟩
theorem r_isN (q : Q (.bl (decide (x = .non))) H) : rIsN' x .non H Q := ⟨rfl, q⟩
theorem r_notN (q : Q (.bl (!decide (x = .non))) H) : rNotN' x .non H Q := ⟨rfl, q⟩
theorem r_inL (h : SqL K H a xs) (h1 : flatV x = true) (h2 : xs.all flatV = true) (q : Q (.bl (inV x xs)) H) : rInU K false x (.ref a) H Q := .inl ⟨a, xs, rfl, .inl h, h1, h2, q⟩
theorem r_inT (h : SqT K H a xs) (h1 : flatV x = true) (h2 : xs.all flatV = true) (q : Q (.bl (inV x xs)) H) : rInU K false x (.ref a) H Q := .inl ⟨a, xs, rfl, .inr h, h1, h2, q⟩
theorem r_niL (h : SqL K H a xs) (h1 : flatV x = true) (h2 : xs.all flatV = true) (q : Q (.bl (!inV x xs)) H) : rInU K true x (.ref a) H Q := .inl ⟨a, xs, rfl, .inl h, h1, h2, q⟩
theorem r_niT (h : SqT K H a xs) (h1 : flatV x = true) (h2 : xs.all flatV = true) (q : Q (.bl (!inV x xs)) H) : rInU K true x (.ref a) H Q := .inl ⟨a, xs, rfl, .inr h, h1, h2, q⟩
theorem r_inDi {kvs : List (Key × V)} (h : H a = some (.dK kvs)) (q : Q (.bl (valV kvs (.inl i)).isSome) H) : rInU K false (.int i) (.ref a) H Q := .inr ⟨a, _, rfl, DGet.k (k := .inl i) h, q⟩
theorem r_niDi {kvs : List (Key × V)} (h : H a = some (.dK kvs)) (q : Q (.bl (!(valV kvs (.inl i)).isSome)) H) : rInU K true (.int i) (.ref a) H Q := .inr ⟨a, _, rfl, DGet.k (k := .inl i) h, q⟩
theorem r_inDs {z : Str} {kvs : List (Key × V)} (h : H a = some (.dK kvs)) (q : Q (.bl (valV kvs (.inr z)).isSome) H) : rInU K false (.str z) (.ref a) H Q := .inr ⟨a, _, rfl, DGet.k (k := .inr z) h, q⟩
theorem r_niDs {z : Str} {kvs : List (Key × V)} (h : H a = some (.dK kvs)) (q : Q (.bl (!(valV kvs (.inr z)).isSome)) H) : rInU K true (.str z) (.ref a) H Q := .inr ⟨a, _, rfl, DGet.k (k := .inr z) h, q⟩
theorem r_ixL (h : SqL K H a xs) (hi : atI xs i = some v) (q : Q v H) : rIxU K (.ref a) (.int i) H Q := .inl (.inl ⟨a, xs, i, v, rfl, rfl, h, hi, q⟩)
theorem r_ixT (h : SqT K H a xs) (hi : atI xs i = some v) (q : Q v H) : rIxU K (.ref a) (.int i) H Q := .inl (.inr (.inl ⟨a, xs, i, v, rfl, rfl, h, hi, q⟩))
theorem r_ixDi {kvs : List (Key × V)} (h : H a = some (.dK kvs)) (hi : valV kvs (.inl i) = some v) (q : Q v H) : rIxU K (.ref a) (.int i) H Q := .inr ⟨a, v, rfl, by
  have g := DGet.k (k := .inl i) h
  rw [hi] at g
  exact g, q⟩
theorem r_ixDs {z : Str} {kvs : List (Key × V)} (h : H a = some (.dK kvs)) (hi : valV kvs (.inr z) = some v) (q : Q v H) : rIxU K (.ref a) (.str z) H Q := .inr ⟨a, v, rfl, by
  have g := DGet.k (k := .inr z) h
  rw [hi] at g
  exact g, q⟩
/-! #### what is stored at a subscript -/
theorem r_gSub {QS : L2.St → Hp → Prop} {ts : TSet} (q : ta σ H fun o H1 => tb σ H1 fun i H2 => ts o i v H2 fun H3 => QS σ H3) : gSub ta tb ts v σ H QS := q
theorem r_setL {QH : Hp → Prop} (hs : Hd L H) (p : Put (pto a (.lst xs)) (pto a (.lst (xs.set n v))) L L') (hn : n < xs.length) (q : ∀ H', Hd L' H' → QH H') : rSetU (.ref a) (.int (n : Int)) v H QH := by
  obtain ⟨M, pa, _⟩ := p.pulls
  refine .inl ⟨a, xs, (n : Int), n, rfl, rfl, hs.get pa, ?_, q _ (hs.set p (fun z => z))⟩
  unfold ixN
  rw [if_pos (Int.natCast_nonneg n), if_pos (by omega), Int.toNat_natCast]
theorem r_setDi {QH : Hp → Prop} {kvs kvs' : List (Key × V)} (hs : Hd L H) (p : Put (pto a (.dK kvs)) (pto a (.dK kvs')) L L') (e : putK kvs (.inl i) v = kvs') (hl : kvs.length < sizeLine) (q : ∀ H', Hd L' H' → QH H') : rSetU (.ref a) (.int i) v H QH := by
  obtain ⟨M, pa, _⟩ := p.pulls
  subst e
  exact .inr ⟨a, _, rfl, DPut.k (k := .inl i) (hs.get pa) hl, q _ (hs.set p (fun z => z))⟩
theorem r_setDs {QH : Hp → Prop} {z : Str} {kvs kvs' : List (Key × V)} (hs : Hd L H) (p : Put (pto a (.dK kvs)) (pto a (.dK kvs')) L L') (e : putK kvs (.inr z) v = kvs') (hl : kvs.length < sizeLine) (q : ∀ H', Hd L' H' → QH H') : rSetU (.ref a) (.str z) v H QH := by
  obtain ⟨M, pa, _⟩ := p.pulls
  subst e
  exact .inr ⟨a, _, rfl, DPut.k (k := .inr z) (hs.get pa) hl, q _ (hs.set p (fun z => z))⟩
/-! #### fields -/
theorem r_fld {f : Str} (q : ta σ H (FldK K f Q)) : tFld K ta f σ H Q := q
theorem r_fldK {C dx : Addr} {fs : List (Str × V)} {f : Str} (h : H a = some (.ins C dx fs)) (c : Cls K C) (nf : NoAttr K C f) (l : fs.lookup f = some v) (q : Q v H) : FldK K f Q (.ref a) H := ⟨a, C, dx, fs, v, rfl, h, c, nf, l, q⟩
theorem r_sFld {f : Str} (q : te σ H fun y H1 => ta σ H1 (SFldK K f (D.nx σ) y)) : sFld K ta te f D σ H := q
theorem r_sFldK {C dx : Addr} {fs fs' : List (Str × V)} {f : Str} (hs : Hd L H) (p : Put (pto a (.ins C dx fs)) (pto a (.ins C dx fs')) L L') (e : putF f y fs = fs') (c : Cls K C) (nf : NoAttr K C f) (hl : fs.length < 1000) (q : ∀ H', Hd L' H' → N H') : SFldK K f N y (.ref a) H := by
  obtain ⟨M, pa, _⟩ := p.pulls
  subst e
  exact ⟨a, C, dx, fs, rfl, hs.get pa, c, nf, hl, q _ (hs.set p (fun z => z))⟩
/-! #### calls of methods -/
theorem r_meth {C : Addr} {m : Str} {sp : Sp} {dvs : List V} {E : XK} (q : ta σ H (MethK C m fun x H1 => tr σ H1 fun vs H2 => sp (x :: (vs ++ dvs)) H2 Q E)) : tMeth C m sp dvs E ta tr σ H Q := q
theorem r_methK {C dx : Addr} {fs : List (Str × V)} {m : Str} {R : V → Hp → Prop} (h : H a = some (.ins C dx fs)) (l : fs.lookup m = none) (q : R (.ref a) H) : MethK C m R (.ref a) H := ⟨a, dx, fs, rfl, h, l, q⟩
theorem r_make {C : Addr} {sp : Sp} {dvs : List V} {E : XK} (q : tr σ H (MakeK C sp dvs E Q)) : tMake C sp dvs E tr σ H Q := q
theorem r_makeK {C : Addr} {sp : Sp} {dvs vs : List V} {E : XK} (hs : Hd L H) (q : ∀ x dx H', Hd (pto x (.ins C dx []) :: L) H' → sp (.ref x :: (vs ++ dvs)) H' (fun v H2 => v = .non ∧ Q (.ref x) H2) E) : MakeK C sp dvs E Q vs H := fun x dx nx nd ne =>
  q x dx _ ((hs.new nd).tl.new (by rw [upd_ne ne.symm]; exact nx))
theorem r_bm {T : String} {rm : V → List V → Hp → VK → Prop} (q : ta σ H fun x H1 => tyV K T x H1 ∧ tr σ H1 fun xs H2 => rm x xs H2 Q) : tBM K T rm ta tr σ H Q := q
theorem r_bm0 {T : String} {rm : V → List V → Hp → VK → Prop} (q : ta σ H fun x H1 => tyV K T x H1 ∧ rm x [] H1 Q) : tBM0 K T rm ta σ H Q := q
theorem r_tyL {R : Prop} (h : SqL K H a xs) (q : R) : tyV K "list" (.ref a) H ∧ R := ⟨.inl ⟨rfl, _, h⟩, q⟩
theorem r_tyD {kvs : List (Key × V)} {R : Prop} (h : H a = some (.dK kvs)) (q : R) : tyV K "dict" (.ref a) H ∧ R := ⟨.inr (.inr (.inl ⟨rfl, .inl ⟨_, h⟩⟩)), q⟩
theorem r_tyS {z : Str} {R : Prop} (q : R) : tyV K "str" (.str z) H ∧ R := ⟨rfl, q⟩
theorem r_append (hs : Hd L H) (p : Put (pto a (.lst xs)) (pto a (.lst (xs ++ [y]))) L L') (hl : xs.length < sizeLine) (q : ∀ H', Hd L' H' → Q .non H') : rAppend (.ref a) [y] H Q := by
  obtain ⟨M, pa, _⟩ := p.pulls
  exact ⟨a, xs, y, rfl, rfl, hs.get pa, hl, q _ (hs.set p (fun z => z))⟩
theorem r_extend {c : Addr} (hs : Hd L H) (p : Put (pto a (.lst xs)) (pto a (.lst (xs ++ ys))) L L') (hb : H c = some (.lst ys)) (hl : xs.length + ys.length ≤ sizeLine) (q : ∀ H', Hd L' H' → Q .non H') : rExtend (.ref a) [.ref c] H Q := by
  obtain ⟨M, pa, _⟩ := p.pulls
  exact ⟨a, c, xs, ys, rfl, rfl, hs.get pa, hb, hl, q _ (hs.set p (fun z => z))⟩
theorem r_pop (hs : Hd L H) (p : Put (pto a (.lst xs)) (pto a (.lst xs.dropLast)) L L') (hy : xs[xs.length - 1]? = some y) (q : ∀ H', Hd L' H' → Q y H') : rPop (.ref a) [] H Q := by
  obtain ⟨M, pa, _⟩ := p.pulls
  exact ⟨a, xs, y, rfl, rfl, hs.get pa, hy, q _ (hs.set p (fun z => z))⟩
theorem r_popAt (hs : Hd L H) (p : Put (pto a (.lst xs)) (pto a (.lst (xs.eraseIdx n))) L L') (hz : xs.length ≤ sizeLine) (hy : xs[n]? = some y) (q : ∀ H', Hd L' H' → Q y H') : rPopAt (.ref a) [.int (n : Int)] H Q := by
  obtain ⟨M, pa, _⟩ := p.pulls
  have hn := (List.getElem?_eq_some_iff.mp hy).1
  have e := sizeLine_eq
  have g : seqIndex? (n : Int) xs.length = some n := by
    have := (ixN_seq (n := xs.length) (i := (n : Int)) (j := n) (by
      unfold ixN
      rw [if_pos (Int.natCast_nonneg n), if_pos (by omega), Int.toNat_natCast])).1
    exact this
  exact ⟨a, xs, (n : Int), n, y, rfl, rfl, hs.get pa, by omega, by omega, g, hy, q _ (hs.set p (fun z => z))⟩
theorem r_clear (hs : Hd L H) (p : Put (pto a (.lst xs)) (pto a (.lst [])) L L') (q : ∀ H', Hd L' H' → Q .non H') : rClear (.ref a) [] H Q := by
  obtain ⟨M, pa, _⟩ := p.pulls
  exact ⟨a, xs, rfl, rfl, hs.get pa, q _ (hs.set p (fun z => z))⟩
/-! #### slices -/
theorem r_sl {rs : V → Option Int → Option Int → Hp → VK → Prop} {tl th : TO} (q : te σ H fun x H1 => tl σ H1 fun l H2 => th σ H2 fun u H3 => rs x l u H3 Q) : tSl rs te tl th σ H Q := q
theorem r_noPart {QO : Option Int → Hp → Prop} (q : QO none H) : tNoPart σ H QO := q
theorem r_part {QO : Option Int → Hp → Prop} (q : te σ H (PartK QO)) : tPart te σ H QO := q
theorem r_partK {QO : Option Int → Hp → Prop} (q : QO (some i) H) : PartK QO (.int i) H := ⟨i, rfl, q⟩
theorem r_slL {lo hi : Option Int} (hs : Hd L H) (h : SqL K H a xs) (q : ∀ p H', Hd (pto p (.lst (cutV xs lo hi)) :: L) H' → Q (.ref p) H') : rSlL K (.ref a) lo hi H Q := ⟨a, xs, rfl, h, fun p n => q p _ (hs.new n)⟩
/-! #### dicts -/
theorem r_dnew (hs : Hd L H) (q : ∀ p H', Hd (pto p (.dK []) :: L) H' → Q (.ref p) H') : tDNewK σ H Q := fun p n => q p _ (hs.new n)
theorem r_disp {trs : List (TE × TE)} (hs : Hd L H) (q : ∀ p H', Hd (pto p (.dK []) :: L) H' → tPairs trs σ H' (DispE p Q)) : tDisp trs σ H Q := fun p n => q p _ (hs.new n)
theorem r_pairsN {QP : List (V × V) → Hp → Prop} (q : QP [] H) : tPairs [] σ H QP := q
theorem r_pairsC {QP : List (V × V) → Hp → Prop} {trs : List (TE × TE)} (q : ta σ H fun x H1 => tb σ H1 fun y H2 => tPairs trs σ H2 fun ps H3 => QP ((x, y) :: ps) H3) : tPairs ((ta, tb) :: trs) σ H QP := q
theorem r_dispE {ps : List (V × V)} {kvs kvs' : List (Key × V)} (hs : Hd L H) (p' : Put (pto p (.dK [])) (pto p (.dK kvs')) L L') (e : ps = kvs.map (fun kv => (kV kv.1, kv.2))) (hl : kvs.length ≤ 15) (e2 : mergeK [] kvs = kvs') (q : ∀ H', Hd L' H' → Q (.ref p) H') : DispE p Q ps H := by
  obtain ⟨M, pa, _⟩ := p'.pulls
  subst e2
  exact ⟨hs.get pa, kvs, e, hl, q _ (hs.set p' (fun z => z))⟩
theorem r_dget1 (q : ta σ H (IsDK fun a H1 => tb σ H1 (GetE1 a Q))) : tDGet1 ta tb σ H Q := q
theorem r_dget2 (q : ta σ H (IsDK fun a H1 => tb σ H1 fun y H2 => tx σ H2 (GetE2 a y Q))) : tDGet2 ta tb tx σ H Q := q
theorem r_isD {kvs : List (Key × V)} {R : Addr → Hp → Prop} (h : H a = some (.dK kvs)) (q : R a H) : IsDK R (.ref a) H := ⟨a, rfl, .inl ⟨_, .inl h⟩, q⟩
theorem r_get1i {kvs : List (Key × V)} (h : H a = some (.dK kvs)) (q : Q ((valV kvs (.inl i)).getD .non) H) : GetE1 a Q (.int i) H := ⟨_, DGet.k (k := .inl i) h, q⟩
theorem r_get1s {z : Str} {kvs : List (Key × V)} (h : H a = some (.dK kvs)) (q : Q ((valV kvs (.inr z)).getD .non) H) : GetE1 a Q (.str z) H := ⟨_, DGet.k (k := .inr z) h, q⟩
theorem r_get2i {kvs : List (Key × V)} (h : H a = some (.dK kvs)) (q : Q ((valV kvs (.inl i)).getD x) H) : GetE2 a (.int i) Q x H := ⟨_, DGet.k (k := .inl i) h, q⟩
theorem r_get2s {z : Str} {kvs : List (Key × V)} (h : H a = some (.dK kvs)) (q : Q ((valV kvs (.inr z)).getD x) H) : GetE2 a (.str z) Q x H := ⟨_, DGet.k (k := .inr z) h, q⟩
/-! #### calls of built-ins -/
theorem r_lenL (h : SqL K H a xs) (q : Q (.int xs.length) H) : rLenU K [.ref a] H Q := .inl ⟨_, _, rfl, .inl ⟨_, h, rfl⟩, q⟩
theorem r_lenT (h : SqT K H a xs) (q : Q (.int xs.length) H) : rLenU K [.ref a] H Q := .inl ⟨_, _, rfl, .inr ⟨_, h, rfl⟩, q⟩
theorem r_lenS {z : Str} (h : z.length ≤ sizeLine) (q : Q (.int z.length) H) : rLenU K [.str z] H Q := .inl ⟨_, _, rfl, ⟨h, rfl⟩, q⟩
theorem r_lenD {kvs : List (Key × V)} (h : H a = some (.dK kvs)) (q : Q (.int kvs.length) H) : rLenU K [.ref a] H Q := .inr ⟨_, _, rfl, h, q⟩
theorem r_abs (q : Q (.int (if i < 0 then -i else i)) H) : rAbs [.int i] H Q := ⟨_, rfl, q⟩
theorem r_max2 (q : Q (.int (if j > i then j else i)) H) : rMax2 [.int i, .int j] H Q := ⟨_, _, rfl, q⟩
theorem r_min2 (q : Q (.int (if j < i then j else i)) H) : rMin2 [.int i, .int j] H Q := ⟨_, _, rfl, q⟩
theorem r_int1b (q : Q (.int (if b then 1 else 0)) H) : rInt1 [.bl b] H Q := .inr ⟨_, rfl, q⟩
theorem r_int1 (q : Q (.int i) H) : rInt1 [.int i] H Q := .inl ⟨_, rfl, q⟩
theorem r_listL (hs : Hd L H) (h : SqL K H a xs) (q : ∀ p H', Hd (pto p (.lst xs) :: L) H' → Q (.ref p) H') : rListOf K [.ref a] H Q := ⟨a, xs, rfl, .inl h, fun p n => q p _ (hs.new n)⟩
theorem r_listT (hs : Hd L H) (h : SqT K H a xs) (q : ∀ p H', Hd (pto p (.lst xs) :: L) H' → Q (.ref p) H') : rListOf K [.ref a] H Q := ⟨a, xs, rfl, .inr h, fun p n => q p _ (hs.new n)⟩
theorem r_tupleL (hs : Hd L H) (h : SqL K H a xs) (q : ∀ p H', Hd (pto p (.tup xs) :: L) H' → Q (.ref p) H') : rTupleOf K [.ref a] H Q := ⟨a, xs, rfl, .inl ⟨h, fun p n => q p _ (hs.new n)⟩⟩
theorem r_tupleT (h : SqT K H a xs) (q : Q (.ref a) H) : rTupleOf K [.ref a] H Q := ⟨a, xs, rfl, .inr ⟨h, q⟩⟩
theorem r_sum {ns : List Int} (h : SqL K H a (ns.map V.int)) (q : Q (.int ns.sum) H) : rSum K [.ref a] H Q := ⟨a, ns, rfl, h, q⟩
theorem r_all {bs : List Bool} (h : SqL K H a (bs.map V.bl)) (q : Q (.bl (bs.all id)) H) : rAll K [.ref a] H Q := ⟨a, bs, rfl, h, q⟩
theorem r_isi {c : V} {t u : Value} (hc : ClsV c u) (ty : TyX K H x t) (e : PySem.W.kitOne K t u = some b) (q : Q (.bl b) H) : rIsiU K [x, c] H Q := .inl ⟨x, c, t, u, b, rfl, hc, ty, e, q⟩
end
end Sl
namespace Sl
open PySem L2
theorem sz {n : Nat} (h : n ≤ 100000) : n ≤ sizeLine := Nat.le_trans h (by decide)
theorem szlt {n : Nat} (h : n < 100000) : n < sizeLine := Nat.lt_of_lt_of_le h (by decide)
theorem sqT_K {K : PySem.W.Frag} {a : Addr} {xs : List V} {us : List Value} {n : Nat} {H : Hp} (h : K.lookup a = some ⟨.type "tuple", none, .seq us.toArray n, #[]⟩) (hl : xs.length ≤ sizeLine) (r : Vals xs us) : SqT K H a xs :=
  .inr ⟨_, us.toArray, n, h, rfl, rfl, by rw [List.size_toArray, ← r.length]; exact hl, by simpa using r⟩
end Sl
namespace Sl
open PySem L2
theorem Hd.one {A : SA} {H : Hp} (h : A H) : Hd [A] H := ⟨H, fun _ => none, fun _ _ _ _ h => (nomatch h), Sub.refl _, fun _ _ h => (nomatch h), h, trivial⟩
/-- an atom that is true of greater heaps, too -/
def Up (A : SA) : Prop := ∀ H H', Sub H H' → A H → A H'
theorem Hd.at {A : SA} {L L' : List SA} {H : Hp} (u : Up A) (h : Hd L H) (p : Pull A L L') : A H := by
  obtain ⟨H1, H2, _, s, _, e, _⟩ := h.pull p
  exact u _ _ s e
theorem up_pto (a : Addr) (o : HO) : Up (pto a o) := fun _ _ s h => s _ _ h
/-- two atoms made one -/
theorem Hd.join {A B C : SA} {L : List SA} {H : Hp} (ua : Up A) (ub : Up B) (h : Hd (A :: B :: L) H) (f : ∀ H, A H → B H → C H) : Hd (C :: L) H := by
  obtain ⟨H1, H2, c, s1, s2, p, H3, H4, c2, s3, s4, q, r⟩ := h
  have c13 := c.sub (Sub.refl _) s3
  have c14 := c.sub (Sub.refl _) s4
  exact ⟨uni H1 H3, H4, (uni_cmp c14.symm c2.symm).symm, uni_sub s1 (s3.trans s2), s4.trans s2, f _ (ua _ _ (uni_l _ _) p) (ub _ _ (uni_r c13) q), r⟩
/-- an object of an atom is changed -/
theorem Hd.chg {A B : SA} {L : List SA} {H : Hp} {d : Addr} {o' : HO} (h : Hd (A :: L) H) (m : ∀ H, A H → ∃ o, H d = some o ∧ ¬ Imm o) (f : ∀ H, A H → B (upd H d o')) : Hd (B :: L) (upd H d o') := by
  obtain ⟨H1, H2, c, s1, s2, p, q⟩ := h
  obtain ⟨o, ho, hm⟩ := m _ p
  have n : H2 d = none := by
    cases z : H2 d with
    | none => rfl
    | some u => exact (hm (c d o u ho z).2).elim
  refine ⟨upd H1 d o', H2, fun b o1 o2 h1 h2 => ?_, fun b u e => ?_, fun b u e => ?_, f _ p, q⟩
  · by_cases z : b = d
    · subst z
      rw [n] at h2
      cases h2
    · rw [upd_ne z] at h1
      exact c b o1 o2 h1 h2
  · by_cases z : b = d
    · subst z
      rw [upd_same] at e ⊢
      exact e
    · rw [upd_ne z] at e ⊢
      exact s1 b u e
  · have z : b ≠ d := fun z => by
      subst z
      rw [n] at e
      cases e
    rw [upd_ne z]
    exact s2 b u e
/-- what is true at all greater heaps of A's piece may be carried beside it -/
theorem Hd.also {A B : SA} {L : List SA} {H : Hp} (h : Hd (A :: L) H) (f : ∀ H, A H → B H) : Hd (B :: L) H := h.imp f
end Sl
namespace Sl
open PySem L2
theorem flat_ints (ns : List Int) : (ns.map V.int).all flatV = true := by
  rw [List.all_map, List.all_eq_true]
  exact fun _ _ => rfl
end Sl
namespace Sl
open PySem L2
/-- what stands behind several ways is shown once: tail at each of them, then its proof -/
theorem r_late {L : List SA} {H : Hp} {B : Prop} {R : Hp → Prop} (_ : Hd L H) (f : (∀ H, Hd L H → R H) → B) (a : ∀ H, Hd L H → R H) : B := f a
end Sl

set_option maxRecDepth 100000
set_option maxHeartbeats 1000000
namespace Sl
open PySem L2
/-! ### what is walked -/
def Rng1K (R : It → Hp → Prop) (vs : List V) (H : Hp) : Prop := ∃ j : Int, vs = [.int j] ∧ -(2 ^ 62) ≤ j ∧ j < 2 ^ 62 ∧ R (Itr 0 j.toNat) H
def Rng2K (R : It → Hp → Prop) (vs : List V) (H : Hp) : Prop := ∃ i j : Int, vs = [.int i, .int j] ∧ (-(2 ^ 62) ≤ i ∧ i < 2 ^ 62 ∧ -(2 ^ 62) ≤ j ∧ j < 2 ^ 62) ∧ R (Itr i (j - i).toNat) H
def ListK (K : PySem.W.Frag) (R : It → Hp → Prop) (x : V) (H : Hp) : Prop := ∃ a, x = .ref a ∧ (∃ xs, SqL K H a xs) ∧ R (Itl K a) H
def TupK (K : PySem.W.Frag) (R : It → Hp → Prop) (x : V) (H : Hp) : Prop := ∃ a, x = .ref a ∧ (∃ xs, SqT K H a xs) ∧ R (Itt K a) H
def EnumK (K : PySem.W.Frag) (R : It → Hp → Prop) (vs : List V) (H : Hp) : Prop := ∃ a xs, vs = [.ref a] ∧ SqL K H a xs ∧ R (Ite K a) H
def ZipK (K : PySem.W.Frag) (R : It → Hp → Prop) (vs : List V) (H : Hp) : Prop := ∃ a b xs ys, vs = [.ref a, .ref b] ∧ SqL K H a xs ∧ SqL K H b ys ∧ R (Itz K a b) H
/-- a loop's turns; a comprehension's -/
def ForK (g : TG) (tb : TS) (D : Ends) (σ : L2.St) (J : It) (H : Hp) : Prop := ∃ W : Nat → Nat → L2.St → Hp → Prop, (∃ m, W 0 m σ H) ∧ ∀ i m σ H, W i m σ H →
  (J.stop i H ∧ D.nx σ H) ∨ (J.go i H ∧ ∃ N : L2.St → Hp → Prop, (∀ σ' H', N σ' H' → ∃ m', m' < m ∧ W (i + 1) m' σ' H') ∧ ∀ x H', J.yld i H x H' → g x σ H' fun σ2 H2 => tb { D with nx := N, ct := N, bk := D.nx } σ2 H2)
def LcK (g : TG) (tt : TT) (te : TE) (vs : List Nat) (σ : L2.St) (Q : VK) (J : It) (H1 : Hp) : Prop := ∀ D, H1 D = none → ∃ W : Nat → Nat → Hp → Prop, (∃ m, W 0 m (upd H1 D (.lst []))) ∧ ∀ i m H, W i m H →
  (J.stop i H ∧ Q (.ref D) H) ∨ (J.go i H ∧ ∃ Nx : Hp → Prop, (∀ H', Nx H' → ∃ m', m' < m ∧ W (i + 1) m' H') ∧ ∀ x H', J.yld i H x H' → g x (wipe σ vs) H' fun σ2 H2 => wipe σ2 vs = wipe σ vs ∧ tt σ2 H2 fun b H3 =>
    if b = true then te σ2 H3 fun y H4 => ∃ acc, H4 D = some (.lst acc) ∧ acc.length < sizeLine ∧ Nx (upd H4 D (.lst (acc ++ [y]))) else Nx H3)
def AppK (D : Addr) (N : Hp → Prop) (y : V) (H : Hp) : Prop := ∃ acc, H D = some (.lst acc) ∧ acc.length < sizeLine ∧ N (upd H D (.lst (acc ++ [y])))
section
variable {K : PySem.W.Frag} {σ : L2.St} {H : Hp} {D : Ends} {t u tb : TS} {te : TE} {tr : TA} {tt : TT} {wi : TI} {g : TG} {gs : TGs} {Q : VK} {R : It → Hp → Prop} {v x y : V} {i j k : Int} {n : Nat}
  {L L' : List SA} {a b p T : Addr} {xs ys : List V} {vs : List Nat} {QS : L2.St → Hp → Prop}
theorem r_for (q : wi σ H (ForK g tb D σ)) : tFor wi g tb D σ H := q
theorem r_lc (q : wi σ H (LcK g tt te vs σ Q)) : tLc wi g tt te vs σ H Q := q
theorem r_rng1 (q : tr σ H (Rng1K R)) : iRng1 tr σ H R := q
theorem r_rng2 (q : tr σ H (Rng2K R)) : iRng2 tr σ H R := q
theorem r_iList (q : te σ H (ListK K R)) : iList K te σ H R := q
theorem r_iTup (q : te σ H (TupK K R)) : iTup K te σ H R := q
theorem r_iEnum (q : tr σ H (EnumK K R)) : iEnum K tr σ H R := q
theorem r_iZip (q : tr σ H (ZipK K R)) : iZip K tr σ H R := q
theorem r_rng1K (h : -4000000000000000000 ≤ j ∧ j ≤ 4000000000000000000) (q : R (Itr 0 j.toNat) H) : Rng1K R [.int j] H := ⟨j, rfl, by omega, by omega, q⟩
theorem r_rng2K (h : -4000000000000000000 ≤ i ∧ i ≤ 4000000000000000000 ∧ -4000000000000000000 ≤ j ∧ j ≤ 4000000000000000000) (q : R (Itr i (j - i).toNat) H) : Rng2K R [.int i, .int j] H := ⟨i, j, rfl, ⟨by omega, by omega, by omega, by omega⟩, q⟩
theorem r_listK (h : SqL K H a xs) (q : R (Itl K a) H) : ListK K R (.ref a) H := ⟨a, rfl, ⟨xs, h⟩, q⟩
theorem r_tupK (h : SqT K H a xs) (q : R (Itt K a) H) : TupK K R (.ref a) H := ⟨a, rfl, ⟨xs, h⟩, q⟩
theorem r_enumK (h : SqL K H a xs) (q : R (Ite K a) H) : EnumK K R [.ref a] H := ⟨a, xs, rfl, h, q⟩
theorem r_zipK (h : SqL K H a xs) (h2 : SqL K H b ys) (q : R (Itz K a b) H) : ZipK K R [.ref a, .ref b] H := ⟨a, b, xs, ys, rfl, h, h2, q⟩
theorem r_gTup {k : Nat} (h : SqT K H a xs) (hl : xs.length = k) (q : gs xs σ H QS) : gTup K k gs (.ref a) σ H QS := ⟨a, xs, rfl, h, hl, q⟩
theorem r_gTupNew {k : Nat} (hs : Hd L H) (hT : H T = none) (hl : xs.length = k) (q : ∀ H', Hd (pto T (.tup xs) :: L) H' → gs xs σ H' QS) : gTup K k gs (.ref T) σ (upd H T (.tup xs)) QS :=
  ⟨T, xs, rfl, SqT.of upd_same, hl, q _ (hs.new hT)⟩
theorem r_gCons {xs : List V} (q : g x σ H fun σ' H' => gs xs σ' H' QS) : gCons g gs (x :: xs) σ H QS := ⟨x, xs, rfl, q⟩
theorem r_gNil (q : QS σ H) : gNil [] σ H QS := ⟨rfl, q⟩
theorem r_yes {QT : Bool → Hp → Prop} (q : QT true H) : tYes σ H QT := q
theorem r_appK {acc : List V} {D : Addr} {N : Hp → Prop} (hs : Hd L H) (p : Put (pto D (.lst acc)) (pto D (.lst (acc ++ [y]))) L L') (hl : acc.length < sizeLine) (q : ∀ H', Hd L' H' → N H') : AppK D N y H := by
  obtain ⟨M, pa, _⟩ := p.pulls
  exact ⟨acc, hs.get pa, hl, q _ (hs.set p (fun z => z))⟩
theorem r_par {i j : Nat} (q : tr σ H fun vs H1 => ∃ v w, vs = [v, w] ∧ D.nx ((σ.set i (some v)).set j (some w)) H1) : tPar i j tr D σ H := q
theorem r_mulT (hs : Hd L H) (h : SqT K H a xs) (hx : xs ≠ []) (hk : 2 ≤ k ∧ k ≤ 1000) (hl : xs.length ≤ 1000) (q : ∀ p H', Hd (pto p (.tup (List.replicate k.toNat xs).flatten) :: L) H' → Q (.ref p) H') : rMulU K (.ref a) (.int k) H Q :=
  .inr (.inr ⟨a, k, xs, rfl, rfl, h, hx, hk.1, hk.2, hl, fun p n => q p _ (hs.new n)⟩)
/-! #### loops by an invariant -/
theorem r_forW {J : It} {G : Hp → Prop} {Y : Nat → Hp → V → Hp → Prop} (w : Walk J n G Y) (P : Nat → L2.St → Hp → Prop) (h0 : P 0 σ H) (hG : ∀ i σ H, i ≤ n → P i σ H → G H)
    (hs : ∀ i x σ H H', i < n → P i σ H → Y i H x H' → g x σ H' fun σ2 H2 => tb { D with nx := P (i + 1), ct := P (i + 1), bk := D.nx } σ2 H2) (hd : ∀ σ H, P n σ H → D.nx σ H) : ForK g tb D σ J H := for_it w P h0 hG hs hd
theorem r_forR {lo : Int} (P : Nat → L2.St → Hp → Prop) (h0 : P 0 σ H)
    (hs : ∀ i σ H, i < n → P i σ H → g (.int (lo + (i : Nat))) σ H fun σ2 H2 => tb { D with nx := P (i + 1), ct := P (i + 1), bk := D.nx } σ2 H2) (hd : ∀ σ H, P n σ H → D.nx σ H) : ForK g tb D σ (Itr lo n) H :=
  r_forW walk_range P h0 (fun _ _ _ _ _ => trivial) (fun i x σ H H' hi p y => by
    obtain ⟨e, y⟩ := y
    subst e y
    exact hs i σ _ hi p) hd
theorem r_forL (xs : List V) (P : Nat → L2.St → Hp → Prop) (h0 : P 0 σ H) (hl : ∀ i σ H, i ≤ xs.length → P i σ H → SqL K H a xs)
    (hs : ∀ i x σ H, xs[i]? = some x → P i σ H → g x σ H fun σ2 H2 => tb { D with nx := P (i + 1), ct := P (i + 1), bk := D.nx } σ2 H2) (hd : ∀ σ H, P xs.length σ H → D.nx σ H) : ForK g tb D σ (Itl K a) H :=
  r_forW walk_list P h0 hl (fun i x σ H H' hi p y => by
    obtain ⟨e, y⟩ := y
    subst e
    exact hs i x σ _ y p) hd
theorem r_forT (xs : List V) (P : Nat → L2.St → Hp → Prop) (h0 : P 0 σ H) (hl : ∀ i σ H, i ≤ xs.length → P i σ H → SqT K H a xs)
    (hs : ∀ i x σ H, xs[i]? = some x → P i σ H → g x σ H fun σ2 H2 => tb { D with nx := P (i + 1), ct := P (i + 1), bk := D.nx } σ2 H2) (hd : ∀ σ H, P xs.length σ H → D.nx σ H) : ForK g tb D σ (Itt K a) H :=
  r_forW walk_tup P h0 hl (fun i x σ H H' hi p y => by
    obtain ⟨e, y⟩ := y
    subst e
    exact hs i x σ _ y p) hd
theorem r_forE (xs : List V) (P : Nat → L2.St → Hp → Prop) (h0 : P 0 σ H) (hl : ∀ i σ H, i ≤ xs.length → P i σ H → SqL K H a xs)
    (hs : ∀ i x T σ H, xs[i]? = some x → P i σ H → H T = none → g (.ref T) σ (upd H T (.tup [.int (i : Nat), x])) fun σ2 H2 => tb { D with nx := P (i + 1), ct := P (i + 1), bk := D.nx } σ2 H2) (hd : ∀ σ H, P xs.length σ H → D.nx σ H) : ForK g tb D σ (Ite K a) H :=
  r_forW walk_enum P h0 hl (fun i x σ H H' hi p y => by
    obtain ⟨T, z, w, rfl, hT, rfl, e1, e2⟩ := y
    cases e1
    exact hs i w T σ _ e2 p hT) hd
theorem r_forZ (xs ys : List V) (hn : n = min xs.length ys.length) (P : Nat → L2.St → Hp → Prop) (h0 : P 0 σ H) (hl : ∀ i σ H, i ≤ n → P i σ H → SqL K H a xs ∧ SqL K H b ys)
    (hs : ∀ i x y T σ H, xs[i]? = some x → ys[i]? = some y → P i σ H → H T = none → g (.ref T) σ (upd H T (.tup [x, y])) fun σ2 H2 => tb { D with nx := P (i + 1), ct := P (i + 1), bk := D.nx } σ2 H2) (hd : ∀ σ H, P n σ H → D.nx σ H) : ForK g tb D σ (Itz K a b) H :=
  r_forW (walk_zip hn) P h0 hl (fun i x σ H H' hi p y => by
    obtain ⟨T, z, w, rfl, hT, rfl, e1, e2⟩ := y
    exact hs i z w T σ _ e1 e2 p hT) hd
/-! #### comprehensions: P D i: what holds behind i turns, the new list at D -/
theorem r_lcW {J : It} {G : Hp → Prop} {Y : Nat → Hp → V → Hp → Prop} (w : Walk J n G Y) (P : Addr → Nat → Hp → Prop) (hh : Hd L H) (h0 : ∀ D H', Hd (pto D (.lst []) :: L) H' → P D 0 H') (hG : ∀ D i H, i ≤ n → P D i H → G H)
    (hs : ∀ D i x H H', i < n → P D i H → Y i H x H' → g x (wipe σ vs) H' fun σ2 H2 => wipe σ2 vs = wipe σ vs ∧ tt σ2 H2 fun b H3 => if b = true then te σ2 H3 (AppK D (P D (i + 1))) else P D (i + 1) H3)
    (hd : ∀ D H, P D n H → Q (.ref D) H) : LcK g tt te vs σ Q J H := fun D hD =>
  lc_it w (P D) (h0 D _ (hh.new hD)) (hG D) (fun i x H H' hi p y => hs D i x H H' hi p y) (hd D)
theorem r_lcR {lo : Int} (P : Addr → Nat → Hp → Prop) (hh : Hd L H) (h0 : ∀ D H', Hd (pto D (.lst []) :: L) H' → P D 0 H')
    (hs : ∀ D i H, i < n → P D i H → g (.int (lo + (i : Nat))) (wipe σ vs) H fun σ2 H2 => wipe σ2 vs = wipe σ vs ∧ tt σ2 H2 fun b H3 => if b = true then te σ2 H3 (AppK D (P D (i + 1))) else P D (i + 1) H3)
    (hd : ∀ D H, P D n H → Q (.ref D) H) : LcK g tt te vs σ Q (Itr lo n) H :=
  r_lcW walk_range P hh h0 (fun _ _ _ _ _ => trivial) (fun D i x H H' hi p y => by
    obtain ⟨e, y⟩ := y
    subst e y
    exact hs D i _ hi p) hd
theorem r_lcL (xs : List V) (P : Addr → Nat → Hp → Prop) (hh : Hd L H) (h0 : ∀ D H', Hd (pto D (.lst []) :: L) H' → P D 0 H') (hl : ∀ D i H, i ≤ xs.length → P D i H → SqL K H a xs)
    (hs : ∀ D i x H, xs[i]? = some x → P D i H → g x (wipe σ vs) H fun σ2 H2 => wipe σ2 vs = wipe σ vs ∧ tt σ2 H2 fun b H3 => if b = true then te σ2 H3 (AppK D (P D (i + 1))) else P D (i + 1) H3)
    (hd : ∀ D H, P D xs.length H → Q (.ref D) H) : LcK g tt te vs σ Q (Itl K a) H :=
  r_lcW walk_list P hh h0 hl (fun D i x H H' hi p y => by
    obtain ⟨e, y⟩ := y
    subst e
    exact hs D i x _ y p) hd
theorem r_lcT (xs : List V) (P : Addr → Nat → Hp → Prop) (hh : Hd L H) (h0 : ∀ D H', Hd (pto D (.lst []) :: L) H' → P D 0 H') (hl : ∀ D i H, i ≤ xs.length → P D i H → SqT K H a xs)
    (hs : ∀ D i x H, xs[i]? = some x → P D i H → g x (wipe σ vs) H fun σ2 H2 => wipe σ2 vs = wipe σ vs ∧ tt σ2 H2 fun b H3 => if b = true then te σ2 H3 (AppK D (P D (i + 1))) else P D (i + 1) H3)
    (hd : ∀ D H, P D xs.length H → Q (.ref D) H) : LcK g tt te vs σ Q (Itt K a) H :=
  r_lcW walk_tup P hh h0 hl (fun D i x H H' hi p y => by
    obtain ⟨e, y⟩ := y
    subst e
    exact hs D i x _ y p) hd
theorem r_lcE (xs : List V) (P : Addr → Nat → Hp → Prop) (hh : Hd L H) (h0 : ∀ D H', Hd (pto D (.lst []) :: L) H' → P D 0 H') (hl : ∀ D i H, i ≤ xs.length → P D i H → SqL K H a xs)
    (hs : ∀ D i x T H, xs[i]? = some x → P D i H → H T = none → g (.ref T) (wipe σ vs) (upd H T (.tup [.int (i : Nat), x])) fun σ2 H2 => wipe σ2 vs = wipe σ vs ∧ tt σ2 H2 fun b H3 => if b = true then te σ2 H3 (AppK D (P D (i + 1))) else P D (i + 1) H3)
    (hd : ∀ D H, P D xs.length H → Q (.ref D) H) : LcK g tt te vs σ Q (Ite K a) H :=
  r_lcW walk_enum P hh h0 hl (fun D i x H H' hi p y => by
    obtain ⟨T, z, w, rfl, hT, rfl, e1, e2⟩ := y
    cases e1
    exact hs D i w T _ e2 p hT) hd
end
theorem Hd.tup {L : List SA} {H : Hp} {t : Addr} {xs : List V} (h : Hd L H) (e : H t = some (.tup xs)) : Hd (pto t (.tup xs) :: L) H :=
  ⟨Sl.one t (.tup xs), H, fun b o1 o2 h1 h2 => by
    obtain ⟨rfl, rfl⟩ := of_one h1
    rw [e] at h2
    cases h2
    exact ⟨rfl, trivial⟩, one_sub e, Sub.refl _, one_at, h⟩
theorem cl_ints : ∀ ns : List Int, PyData.canLayAll0 (ns.map PyData.int) = true
  | [] => rfl
  | n :: r => by rw [List.map_cons, PyData.canLayAll0, cl_ints r]; rfl
theorem dt_ints : ∀ ns : List Int, PyData.depthAll (ns.map PyData.int) ≤ 1
  | [] => by decide
  | n :: r => by
    have h := dt_ints r
    rw [List.map_cons, PyData.depthAll]
    simp only [PyData.depth]
    omega
theorem sh_listI (ns : List Int) : SeqAt.shaped (.list (ns.map PyData.int)) = true := by
  have h := dt_ints ns
  unfold SeqAt.shaped
  rw [PyData.canLay0, cl_ints, Bool.true_and]
  apply decide_eq_true
  rw [PyData.depth]
  omega
theorem sh_tupI (ns : List Int) : SeqAt.shaped (.tuple (ns.map PyData.int)) = true := by
  have h := dt_ints ns
  unfold SeqAt.shaped
  rw [PyData.canLay0, cl_ints, Bool.true_and]
  apply decide_eq_true
  rw [PyData.depth]
  omega
/-- a list, or a tuple -/
def seqO : Bool → List V → HO
  | true, xs => .tup xs
  | false, xs => .lst xs
theorem r_setDX {v : V} {i : Int} {a : Addr} {H : Hp} {N : Hp → Prop} {kvs : List (Key × V)} (h : H a = some (.dK kvs)) (hl : kvs.length < sizeLine) (q : N (upd H a (.dK (putK kvs (.inl i) v)))) : rSetU (.ref a) (.int i) v H N := .inr ⟨a, _, rfl, DPut.k (k := .inl i) h hl, q⟩
theorem dp_ints {K : PySem.W.Frag} {H : Hp} : ∀ ns : List Int, DpAll K H (ns.map V.int) (ns.map PyData.int)
  | [] => .nil
  | n :: r => .cons (.int n) (dp_ints r)
theorem r_eqSame {K : PySem.W.Frag} {H : Hp} {x y : V} {Q : VK} {d : PyData} (h1 : Dp K H x d) (h2 : Dp K H y d) (s1 : SeqAt.shaped d = true) (e : PyData.eqv d d = true) (q : Q (.bl true) H) : rEqU K x y H Q := r_eqD h1 h2 s1 s1 (by rw [e]; exact q)
theorem r_neSame {K : PySem.W.Frag} {H : Hp} {x y : V} {Q : VK} {d : PyData} (h1 : Dp K H x d) (h2 : Dp K H y d) (s1 : SeqAt.shaped d = true) (e : PyData.eqv d d = true) (q : Q (.bl false) H) : rNeU K x y H Q := r_neD h1 h2 s1 s1 (by rw [e]; exact q)
end Sl
namespace Sl
open PySem L2
/-! ### the same rules, the written part named by a letter (within a comprehension's block) -/
section
variable {X : Cx} {K : PySem.W.Frag}
theorem k_add (h : X.K = K) : OpR X (binaryOp .Add) (rAddU K) := h ▸ u_add
theorem k_sub (_ : X.K = K) : OpR X (binaryOp .Sub) (rI0 fun i j => .int (i - j)) := u_sub
theorem k_mul (h : X.K = K) : OpR X (binaryOp .Mult) (rMulU K) := h ▸ u_mul
theorem k_div (_ : X.K = K) : OpR X (binaryOp .FloorDiv) rDivU := u_div
theorem k_mod (_ : X.K = K) : OpR X (binaryOp .Mod) (rI (fun _ j => 0 < j) fun i j => .int (i % j)) := u_mod
theorem k_pow (_ : X.K = K) : OpR X (binaryOp .Pow) (rI CPow fun i j => .int (i ^ j.toNat)) := u_pow
theorem k_eq (h : X.K = K) (hu : X.A.units + 64 < cLine) : OpR X (compareOp .Eq) (rEqU K) := h ▸ u_eq hu
theorem k_ne (h : X.K = K) (hu : X.A.units + 64 < cLine) : OpR X (compareOp .NotEq) (rNeU K) := h ▸ u_ne hu
theorem k_in (h : X.K = K) (hu : X.A.units + 1 < cLine) : OpR X (compareOp .In) (rInU K false) := h ▸ u_in hu
theorem k_notIn (h : X.K = K) (hu : X.A.units + 1 < cLine) : OpR X (compareOp .NotIn) (rInU K true) := h ▸ u_notIn hu
theorem k_ix (h : X.K = K) (hu : X.A.units + 1 < cLine) : IxR X (rIxU K) := h ▸ u_ix hu
theorem k_len (h : X.K = K) : CallR X (.builtin "len") (rLenU K) := h ▸ u_len
theorem k_list (h : X.K = K) : CallR X (.type "list") (rListOf K) := h ▸ u_list
theorem k_tuple (h : X.K = K) : CallR X (.type "tuple") (rTupleOf K) := h ▸ u_tuple
theorem k_isi (h : X.K = K) : CallR X (.builtin "isinstance") (rIsiU K) := h ▸ u_isi
theorem k_sum (h : X.K = K) (hc : X.calm = true) : CallR X (.builtin "sum") (rSum K) := h ▸ cr_sum hc
theorem k_all (h : X.K = K) (hc : X.calm = true) : CallR X (.builtin "all") (rAll K) := h ▸ cr_all hc
theorem k_any (h : X.K = K) (hc : X.calm = true) : CallR X (.builtin "any") (rAny K) := h ▸ cr_any hc
theorem k_sorted (h : X.K = K) : CallR X (.builtin "sorted") (rSortedI K) := h ▸ cr_sortedI
theorem k_max (h : X.K = K) (hc : X.calm = true) : CallR X (.builtin "max") (rMax K) := h ▸ cr_max hc
theorem k_min (h : X.K = K) (hc : X.calm = true) : CallR X (.builtin "min") (rMin K) := h ▸ cr_min hc
theorem k_slL (h : X.K = K) : SlR X (rSlL K) := h ▸ sl_list
theorem k_slT (h : X.K = K) : SlR X (rSlT K) := h ▸ sl_tup
theorem k_mtIndex (h : X.K = K) : MtR X "list.index" (rIndex K) := h ▸ mt_index
theorem k_mtCount (h : X.K = K) : MtR X "list.count" (rCntI K) := h ▸ mt_lcount
theorem k_fld {e : Expr} {ta : TE} {f : Str} {pos : Pos} (h : X.K = K) (he : PE X e ta) (hb : attributeBase e f X.env (eval e X.env) = eval e X.env) : PE X (.Attribute e f pos) (tFld K ta f) := h ▸ pe_fld he hb
theorem k_bm0 {o : Expr} {to : TE} {name : Str} {apos cpos : Pos} {T : String} {r : V → List V → Hp → VK → Prop} (h : X.K = K) (p : PE X (.Call (.Attribute o name apos) [] [] cpos) (tBM0 X.K T r to)) : PE X (.Call (.Attribute o name apos) [] [] cpos) (tBM0 K T r to) := h ▸ p
theorem k_bm {o e : Expr} {es : List Expr} {to : TE} {t : TA} {name : Str} {apos cpos : Pos} {T : String} {r : V → List V → Hp → VK → Prop} (h : X.K = K) (p : PE X (.Call (.Attribute o name apos) (e :: es) [] cpos) (tBM X.K T r to t)) : PE X (.Call (.Attribute o name apos) (e :: es) [] cpos) (tBM K T r to t) := h ▸ p
theorem k_gTup {es : List Expr} {k : Nat} {t : TGs} {n : Nat} {pos : Pos} (h : X.K = K) (p : PG X (.Tuple es k pos) (gTup X.K n t)) : PG X (.Tuple es k pos) (gTup K n t) := h ▸ p
end
end Sl
namespace Sl
open PySem L2
theorem kb_int_int {K : PySem.W.Frag} : PySem.W.kitOne K (.type "int") (.type "int") = some true := kit_ty (by decide +kernel)
theorem kb_int_bool {K : PySem.W.Frag} : PySem.W.kitOne K (.type "int") (.type "bool") = some false := kit_ty (by decide +kernel)
theorem kb_int_str {K : PySem.W.Frag} : PySem.W.kitOne K (.type "int") (.type "str") = some false := kit_ty (by decide +kernel)
theorem kb_int_list {K : PySem.W.Frag} : PySem.W.kitOne K (.type "int") (.type "list") = some false := kit_ty (by decide +kernel)
theorem kb_int_tuple {K : PySem.W.Frag} : PySem.W.kitOne K (.type "int") (.type "tuple") = some false := kit_ty (by decide +kernel)
theorem kb_int_dict {K : PySem.W.Frag} : PySem.W.kitOne K (.type "int") (.type "dict") = some false := kit_ty (by decide +kernel)
theorem kb_bool_int {K : PySem.W.Frag} : PySem.W.kitOne K (.type "bool") (.type "int") = some true := kit_ty (by decide +kernel)
theorem kb_bool_bool {K : PySem.W.Frag} : PySem.W.kitOne K (.type "bool") (.type "bool") = some true := kit_ty (by decide +kernel)
theorem kb_bool_str {K : PySem.W.Frag} : PySem.W.kitOne K (.type "bool") (.type "str") = some false := kit_ty (by decide +kernel)
theorem kb_bool_list {K : PySem.W.Frag} : PySem.W.kitOne K (.type "bool") (.type "list") = some false := kit_ty (by decide +kernel)
theorem kb_bool_tuple {K : PySem.W.Frag} : PySem.W.kitOne K (.type "bool") (.type "tuple") = some false := kit_ty (by decide +kernel)
theorem kb_bool_dict {K : PySem.W.Frag} : PySem.W.kitOne K (.type "bool") (.type "dict") = some false := kit_ty (by decide +kernel)
theorem kb_str_int {K : PySem.W.Frag} : PySem.W.kitOne K (.type "str") (.type "int") = some false := kit_ty (by decide +kernel)
theorem kb_str_bool {K : PySem.W.Frag} : PySem.W.kitOne K (.type "str") (.type "bool") = some false := kit_ty (by decide +kernel)
theorem kb_str_str {K : PySem.W.Frag} : PySem.W.kitOne K (.type "str") (.type "str") = some true := kit_ty (by decide +kernel)
theorem kb_str_list {K : PySem.W.Frag} : PySem.W.kitOne K (.type "str") (.type "list") = some false := kit_ty (by decide +kernel)
theorem kb_str_tuple {K : PySem.W.Frag} : PySem.W.kitOne K (.type "str") (.type "tuple") = some false := kit_ty (by decide +kernel)
theorem kb_str_dict {K : PySem.W.Frag} : PySem.W.kitOne K (.type "str") (.type "dict") = some false := kit_ty (by decide +kernel)
theorem kb_list_int {K : PySem.W.Frag} : PySem.W.kitOne K (.type "list") (.type "int") = some false := kit_ty (by decide +kernel)
theorem kb_list_bool {K : PySem.W.Frag} : PySem.W.kitOne K (.type "list") (.type "bool") = some false := kit_ty (by decide +kernel)
theorem kb_list_str {K : PySem.W.Frag} : PySem.W.kitOne K (.type "list") (.type "str") = some false := kit_ty (by decide +kernel)
theorem kb_list_list {K : PySem.W.Frag} : PySem.W.kitOne K (.type "list") (.type "list") = some true := kit_ty (by decide +kernel)
theorem kb_list_tuple {K : PySem.W.Frag} : PySem.W.kitOne K (.type "list") (.type "tuple") = some false := kit_ty (by decide +kernel)
theorem kb_list_dict {K : PySem.W.Frag} : PySem.W.kitOne K (.type "list") (.type "dict") = some false := kit_ty (by decide +kernel)
theorem kb_tuple_int {K : PySem.W.Frag} : PySem.W.kitOne K (.type "tuple") (.type "int") = some false := kit_ty (by decide +kernel)
theorem kb_tuple_bool {K : PySem.W.Frag} : PySem.W.kitOne K (.type "tuple") (.type "bool") = some false := kit_ty (by decide +kernel)
theorem kb_tuple_str {K : PySem.W.Frag} : PySem.W.kitOne K (.type "tuple") (.type "str") = some false := kit_ty (by decide +kernel)
theorem kb_tuple_list {K : PySem.W.Frag} : PySem.W.kitOne K (.type "tuple") (.type "list") = some false := kit_ty (by decide +kernel)
theorem kb_tuple_tuple {K : PySem.W.Frag} : PySem.W.kitOne K (.type "tuple") (.type "tuple") = some true := kit_ty (by decide +kernel)
theorem kb_tuple_dict {K : PySem.W.Frag} : PySem.W.kitOne K (.type "tuple") (.type "dict") = some false := kit_ty (by decide +kernel)
theorem kb_dict_int {K : PySem.W.Frag} : PySem.W.kitOne K (.type "dict") (.type "int") = some false := kit_ty (by decide +kernel)
theorem kb_dict_bool {K : PySem.W.Frag} : PySem.W.kitOne K (.type "dict") (.type "bool") = some false := kit_ty (by decide +kernel)
theorem kb_dict_str {K : PySem.W.Frag} : PySem.W.kitOne K (.type "dict") (.type "str") = some false := kit_ty (by decide +kernel)
theorem kb_dict_list {K : PySem.W.Frag} : PySem.W.kitOne K (.type "dict") (.type "list") = some false := kit_ty (by decide +kernel)
theorem kb_dict_tuple {K : PySem.W.Frag} : PySem.W.kitOne K (.type "dict") (.type "tuple") = some false := kit_ty (by decide +kernel)
theorem kb_dict_dict {K : PySem.W.Frag} : PySem.W.kitOne K (.type "dict") (.type "dict") = some true := kit_ty (by decide +kernel)
theorem kb_NoneType_int {K : PySem.W.Frag} : PySem.W.kitOne K (.type "NoneType") (.type "int") = some false := kit_ty (by decide +kernel)
theorem kb_NoneType_bool {K : PySem.W.Frag} : PySem.W.kitOne K (.type "NoneType") (.type "bool") = some false := kit_ty (by decide +kernel)
theorem kb_NoneType_str {K : PySem.W.Frag} : PySem.W.kitOne K (.type "NoneType") (.type "str") = some false := kit_ty (by decide +kernel)
theorem kb_NoneType_list {K : PySem.W.Frag} : PySem.W.kitOne K (.type "NoneType") (.type "list") = some false := kit_ty (by decide +kernel)
theorem kb_NoneType_tuple {K : PySem.W.Frag} : PySem.W.kitOne K (.type "NoneType") (.type "tuple") = some false := kit_ty (by decide +kernel)
theorem kb_NoneType_dict {K : PySem.W.Frag} : PySem.W.kitOne K (.type "NoneType") (.type "dict") = some false := kit_ty (by decide +kernel)
theorem r_iteNT {A B : Prop} (h : B) : if (!true) = true then A else B := iteF h
theorem r_iteNF {A B : Prop} (h : A) : if (!false) = true then A else B := iteT h
end Sl

set_option maxRecDepth 100000
set_option maxHeartbeats 1000000
namespace Sl
open PySem L2
/-! ### many lists -/
/-- at the addresses ls stand the lists q -/
def rowsA (ls : List Addr) (q : List (List V)) : SA := fun H => ls.Nodup ∧ ls.length = q.length ∧ ∀ (i : Nat) a r, ls[i]? = some a → q[i]? = some r → H a = some (.lst r)
theorem up_rows (ls : List Addr) (q : List (List V)) : Up (rowsA ls q) := fun _ _ s h => ⟨h.1, h.2.1, fun i a r h1 h2 => s _ _ (h.2.2 i a r h1 h2)⟩
theorem rows_nil {L : List SA} {H : Hp} (h : Hd L H) : Hd (rowsA [] [] :: L) H :=
  ⟨fun _ => none, H, fun _ _ _ h => (nomatch h), fun _ _ h => (nomatch h), Sub.refl _, ⟨List.nodup_nil, rfl, fun _ _ _ h => by simp at h⟩, h⟩
theorem rows_get {ls : List Addr} {q : List (List V)} {L L' : List SA} {H : Hp} (h : Hd L H) (p : Pull (rowsA ls q) L L') {i : Nat} {a : Addr} {r : List V} (h1 : ls[i]? = some a) (h2 : q[i]? = some r) : H a = some (.lst r) :=
  (h.at (up_rows ls q) p).2.2 i a r h1 h2
theorem rows_len {ls : List Addr} {q : List (List V)} {L L' : List SA} {H : Hp} (h : Hd L H) (p : Pull (rowsA ls q) L L') : ls.length = q.length := (h.at (up_rows ls q) p).2.1
theorem rows_at {ls : List Addr} {q : List (List V)} {L L' : List SA} {H : Hp} (h : Hd L H) (p : Pull (rowsA ls q) L L') {i : Nat} (hi : i < q.length) : ∃ a, ls[i]? = some a ∧ H a = some (.lst q[i]) := by
  have e := rows_len h p
  have hi' : i < ls.length := by omega
  exact ⟨ls[i], by simp [hi'], rows_get h p (i := i) (by simp [hi']) (by simp [hi])⟩
theorem rows_set {ls : List Addr} {q : List (List V)} {L : List SA} {H : Hp} (h : Hd (rowsA ls q :: L) H) {i : Nat} {a : Addr} (h1 : ls[i]? = some a) (r : List V) : Hd (rowsA ls (q.set i r) :: L) (upd H a (.lst r)) := by
  refine h.chg (fun G z => ?_) fun G z => ?_
  · have hi : i < q.length := by
      rw [← z.2.1]
      exact (List.getElem?_eq_some_iff.mp h1).1
    exact ⟨_, z.2.2 i a q[i] h1 (by simp [hi]), fun z => z⟩
  · refine ⟨z.1, by rw [List.length_set]; exact z.2.1, fun j b s e1 e2 => ?_⟩
    by_cases e : j = i
    · subst e
      rw [h1] at e1
      cases e1
      have hj : j < q.length := by
        rw [← z.2.1]
        exact (List.getElem?_eq_some_iff.mp h1).1
      rw [List.getElem?_set_self hj] at e2
      cases e2
      exact upd_same
    · rw [List.getElem?_set_ne (Ne.symm e)] at e2
      have nb : b ≠ a := fun z2 => by
        subst z2
        exact e (nd_ix z.1 e1 h1)
      rw [upd_ne nb]
      exact z.2.2 j b s e1 e2
/-- a list of its own is no one of the rows -/
theorem rows_out {ls : List Addr} {q : List (List V)} {L : List SA} {H : Hp} {a : Addr} {r : List V} (h : Hd (pto a (.lst r) :: rowsA ls q :: L) H) : a ∉ ls := fun m => by
  obtain ⟨H1, H2, c, s1, s2, p, H3, H4, c2, s3, s4, p2, q2⟩ := h
  obtain ⟨i, hi, e⟩ := List.mem_iff_getElem.mp m
  have hq : i < q.length := by
    rw [← p2.2.1]
    exact hi
  have h3 := p2.2.2 i a q[i] (by rw [← e]; simp [hi]) (by simp [hq])
  exact (c a _ _ p (s3 _ _ h3)).2
theorem rows_snoc {ls : List Addr} {q : List (List V)} {L : List SA} {H : Hp} {a : Addr} {r : List V} (h : Hd (pto a (.lst r) :: rowsA ls q :: L) H) : Hd (rowsA (ls ++ [a]) (q ++ [r]) :: L) H := by
  have no := rows_out h
  refine Hd.join (up_pto _ _) (up_rows _ _) h fun G z1 z2 => ⟨?_, by simp [z2.2.1], fun i b s e1 e2 => ?_⟩
  · exact nd_snoc z2.1 no
  · by_cases hi : i < ls.length
    · rw [List.getElem?_append_left hi] at e1
      rw [List.getElem?_append_left (by rw [← z2.2.1]; exact hi)] at e2
      exact z2.2.2 i b s e1 e2
    · have hi2 : i < (ls ++ [a]).length := (List.getElem?_eq_some_iff.mp e1).1
      have hi3 : i = ls.length := by
        rw [List.length_append, List.length_singleton] at hi2
        omega
      subst hi3
      rw [List.getElem?_append_right (Nat.le_refl _), Nat.sub_self] at e1
      rw [z2.2.1, List.getElem?_append_right (Nat.le_refl _), Nat.sub_self] at e2
      cases e1
      cases e2
      exact z1
theorem nd_set : ∀ {ls : List Addr} {a : Addr} {i : Nat}, ls.Nodup → a ∉ ls → (ls.set i a).Nodup
  | [], _, _, h, _ => h
  | b :: r, a, 0, h, n => by
    rw [List.set_cons_zero]
    exact List.nodup_cons.mpr ⟨fun m => n (List.mem_cons_of_mem _ m), (List.nodup_cons.mp h).2⟩
  | b :: r, a, i + 1, h, n => by
    rw [List.set_cons_succ]
    refine List.nodup_cons.mpr ⟨fun m => ?_, nd_set (List.nodup_cons.mp h).2 fun m => n (List.mem_cons_of_mem _ m)⟩
    rcases List.mem_or_eq_of_mem_set m with m | m
    · exact (List.nodup_cons.mp h).1 m
    · exact n (by rw [m]; exact List.mem_cons_self)
/-- a row is exchanged for a list of its own -/
theorem rows_repl {ls : List Addr} {q : List (List V)} {L : List SA} {H : Hp} {a : Addr} {r : List V} {i : Nat} (h : Hd (pto a (.lst r) :: rowsA ls q :: L) H) : Hd (rowsA (ls.set i a) (q.set i r) :: L) H := by
  have no := rows_out h
  refine Hd.join (up_pto _ _) (up_rows _ _) h fun G z1 z2 => ⟨?_, by simp [z2.2.1], fun j b s e1 e2 => ?_⟩
  · exact nd_set z2.1 no
  · by_cases e : j = i
    · subst e
      have hj : j < ls.length := by
        have := (List.getElem?_eq_some_iff.mp e1).1
        rw [List.length_set] at this
        exact this
      rw [List.getElem?_set_self hj] at e1
      rw [List.getElem?_set_self (by rw [← z2.2.1]; exact hj)] at e2
      cases e1
      cases e2
      exact z1
    · rw [List.getElem?_set_ne (Ne.symm e)] at e1 e2
      exact z2.2.2 j b s e1 e2
/-! ### a dict of numbers by numbers -/
def dI (d : List (Int × Int)) : List (Key × V) := d.map fun e => (.inl e.1, .int e.2)
def getI (d : List (Int × Int)) (n : Int) : Option Int := (d.find? fun e => decide (e.1 = n)).map (·.2)
def putI (d : List (Int × Int)) (n l : Int) : List (Int × Int) := if d.any fun e => decide (e.1 = n) then d.map fun e => if e.1 = n then (e.1, l) else e else d ++ [(n, l)]
def dropI (d : List (Int × Int)) (n : Int) : List (Int × Int) := d.filter fun e => decide (e.1 ≠ n)
theorem dec_inl (a b : Int) : decide ((Sum.inl a : Key) = Sum.inl b) = decide (a = b) := by
  by_cases e : a = b
  · subst e
    simp
  · have h : ¬ (Sum.inl a : Key) = Sum.inl b := fun q => e (Sum.inl.inj q)
    rw [decide_eq_false h, decide_eq_false e]
theorem valV_dI (d : List (Int × Int)) (n : Int) : valV (dI d) (.inl n) = (getI d n).map V.int := by
  induction d with
  | nil => rfl
  | cons e r ih =>
    by_cases h : e.1 = n
    · rw [show dI (e :: r) = (.inl e.1, .int e.2) :: dI r from rfl, valV_pos (by rw [h])]
      simp [getI, List.find?_cons, h]
    · rw [show dI (e :: r) = (.inl e.1, .int e.2) :: dI r from rfl, valV_neg (fun q => h (Sum.inl.inj q)), ih]
      simp [getI, List.find?_cons, h]
theorem any_dI (d : List (Int × Int)) (n : Int) : ((dI d).any fun kv => decide (kv.1 = (Sum.inl n : Key))) = d.any fun e => decide (e.1 = n) := by
  unfold dI
  rw [List.any_map]
  congr 1
  funext e
  exact dec_inl _ _
theorem putK_dI (d : List (Int × Int)) (n l : Int) : putK (dI d) (.inl n) (.int l) = dI (putI d n l) := by
  unfold putK putI
  rw [any_dI]
  by_cases h : (d.any fun e => decide (e.1 = n)) = true
  · rw [if_pos h, if_pos h]
    unfold dI
    rw [List.map_map, List.map_map]
    congr 1
    funext e
    show (if (Sum.inl e.1 : Key) = Sum.inl n then _ else _) = _
    by_cases q : e.1 = n
    · rw [if_pos (by rw [q])]
      show _ = (Sum.inl (if e.1 = n then (e.1, l) else e).1, V.int (if e.1 = n then (e.1, l) else e).2)
      rw [if_pos q]
    · rw [if_neg (fun z => q (Sum.inl.inj z))]
      show _ = (Sum.inl (if e.1 = n then (e.1, l) else e).1, V.int (if e.1 = n then (e.1, l) else e).2)
      rw [if_neg q]
  · rw [if_neg h, if_neg h]
    unfold dI
    rw [List.map_append]
    rfl
theorem dropK_dI (d : List (Int × Int)) (n : Int) : dropK (dI d) (.inl n) = dI (dropI d n) := by
  unfold dropK dropI dI
  rw [List.filter_map]
  congr 1
  congr 1
  funext e
  by_cases q : e.1 = n
  · simp [q]
  · simp [q]
theorem getI_put (d : List (Int × Int)) (n m l : Int) : getI (putI d n l) m = if m = n then some l else getI d m := by
  have h := valV_put (dI d) (.inl n) (.inl m) (.int l)
  rw [putK_dI, valV_dI, valV_dI] at h
  by_cases e : m = n
  · subst e
    rw [if_pos rfl] at h ⊢
    cases q : getI (putI d m l) m with
    | none =>
      rw [q] at h
      cases h
    | some x =>
      rw [q] at h
      injection h with h
      injection h with h
      rw [h]
  · rw [if_neg (fun z => e (Sum.inl.inj z))] at h
    rw [if_neg e]
    cases q : getI (putI d n l) m <;> cases q2 : getI d m <;> rw [q, q2] at h <;> first | rfl | (cases h; done) | (injection h with h; injection h with h; rw [h])
theorem len_dI (d : List (Int × Int)) : (dI d).length = d.length := by
  unfold dI
  rw [List.length_map]
theorem len_putI (d : List (Int × Int)) (n l : Int) : (putI d n l).length ≤ d.length + 1 := by
  unfold putI
  split
  · rw [List.length_map]
    omega
  · simp
theorem len_dropI (d : List (Int × Int)) (n : Int) : (dropI d n).length ≤ d.length := List.length_filter_le _ _
theorem getI_drop (d : List (Int × Int)) (n m : Int) : getI (dropI d n) m = if m = n then none else getI d m := by
  induction d with
  | nil =>
    split <;> rfl
  | cons e r ih =>
    unfold dropI at ih ⊢
    by_cases h : e.1 = n
    · rw [List.filter_cons, if_neg (by simp [h]), ih]
      by_cases q : m = n
      · rw [if_pos q, if_pos q]
      · rw [if_neg q, if_neg q]
        simp only [getI, List.find?_cons]
        rw [decide_eq_false (fun z => q (z.symm.trans h))]
    · rw [List.filter_cons, if_pos (by simp [h])]
      by_cases q : e.1 = m
      · subst q
        rw [if_neg h]
        simp [getI, List.find?_cons]
      · have a1 : getI (e :: List.filter (fun e => decide (e.1 ≠ n)) r) m = getI (List.filter (fun e => decide (e.1 ≠ n)) r) m := by
          simp only [getI, List.find?_cons]
          rw [decide_eq_false q]
        have a2 : getI (e :: r) m = getI r m := by
          simp only [getI, List.find?_cons]
          rw [decide_eq_false q]
        rw [a1, a2, ih]
/-! ### more rules: objects within atoms -/
section
variable {K : PySem.W.Frag} {H : Hp} {Q : VK} {a c : Addr} {xs ys : List V} {y v : V} {i n : Int} {k : Nat} {N : Hp → Prop}
theorem r_appendX (h : H a = some (.lst xs)) (hl : xs.length < sizeLine) (q : Q .non (upd H a (.lst (xs ++ [y])))) : rAppend (.ref a) [y] H Q := ⟨a, xs, y, rfl, rfl, h, hl, q⟩
theorem r_extendX (h : H a = some (.lst xs)) (h2 : H c = some (.lst ys)) (hl : xs.length + ys.length ≤ sizeLine) (q : Q .non (upd H a (.lst (xs ++ ys)))) : rExtend (.ref a) [.ref c] H Q := ⟨a, c, xs, ys, rfl, rfl, h, h2, hl, q⟩
theorem r_setLX (h : H a = some (.lst xs)) (hk : k < xs.length) (q : N (upd H a (.lst (xs.set k v)))) : rSetU (.ref a) (.int (k : Int)) v H N := by
  refine .inl ⟨a, xs, (k : Int), k, rfl, rfl, h, ?_, q⟩
  unfold ixN
  rw [if_pos (Int.natCast_nonneg k), if_pos (by omega), Int.toNat_natCast]
theorem erase_at : ∀ {ns : List Int} {k : Int} {j : Nat}, ns[j]? = some k → (∀ m : Nat, m < j → ns[m]? ≠ some k) → ns.eraseIdx j = ns.erase k
  | [], _, _, h, _ => by simp at h
  | a :: r, k, 0, h, _ => by
    have e : a = k := Option.some.inj h
    subst e
    simp
  | a :: r, k, j + 1, h, hm => by
    have na : a ≠ k := fun e => hm 0 (Nat.succ_pos _) (by rw [e]; rfl)
    rw [List.eraseIdx_cons_succ, List.erase_cons_tail (by simpa using na), erase_at (ns := r) (k := k) (j := j) h fun m hl => hm (m + 1) (Nat.succ_lt_succ hl)]
theorem first_at : ∀ {ns : List Int} {k : Int}, k ∈ ns → ∃ j : Nat, ns[j]? = some k ∧ ∀ m : Nat, m < j → ns[m]? ≠ some k
  | a :: r, k, h => by
    by_cases e : a = k
    · exact ⟨0, by rw [e]; rfl, fun m hm => by omega⟩
    · obtain ⟨j, h1, h2⟩ := first_at (ns := r) ((List.mem_cons.mp h).resolve_left fun z => e z.symm)
      refine ⟨j + 1, h1, fun m hm => ?_⟩
      cases m with
      | zero => exact fun z => e (Option.some.inj z)
      | succ m => exact h2 m (by omega)
theorem r_removeX {ns : List Int} (h : H a = some (.lst (ns.map V.int))) (hm : n ∈ ns) (q : Q .non (upd H a (.lst ((ns.erase n).map V.int)))) : rRemI (.ref a) [.int n] H Q := by
  obtain ⟨j, h1, h2⟩ := first_at hm
  refine ⟨a, ns, n, j, rfl, rfl, h, h1, h2, ?_⟩
  rw [erase_at h1 h2]
  exact q
theorem r_popDX {kvs : List (Key × V)} (h : H a = some (.dK kvs)) (hv : valV kvs (.inl n) = some v) (q : Q v (upd H a (.dK (dropK kvs (.inl n))))) : ∃ kvs k v, H a = some (.dK kvs) ∧ V.int n = kV k ∧ valV kvs k = some v ∧ Q v (upd H a (.dK (dropK kvs k))) := ⟨kvs, .inl n, v, h, rfl, hv, q⟩
/-- a list of numbers against the empty one -/
theorem eqv_nil (ns : List Int) : PyData.eqv (.list (ns.map PyData.int)) (.list []) = ns.isEmpty := by
  cases ns with
  | nil => rfl
  | cons a r =>
    rw [PyData.eqv, List.map_cons]
    rfl
theorem r_neNil {ns : List Int} (h : SqL K H a (ns.map V.int)) (h2 : SqL K H c []) (q : Q (.bl (!ns.isEmpty)) H) : rNeU K (.ref a) (.ref c) H Q :=
  r_neD (.lst h (dp_ints ns)) (.lst h2 .nil) (sh_listI ns) (by decide) (by rw [eqv_nil]; exact q)
theorem r_eqNil {ns : List Int} (h : SqL K H a (ns.map V.int)) (h2 : SqL K H c []) (q : Q (.bl ns.isEmpty) H) : rEqU K (.ref a) (.ref c) H Q :=
  r_eqD (.lst h (dp_ints ns)) (.lst h2 .nil) (sh_listI ns) (by decide) (by rw [eqv_nil]; exact q)
end
/-! #### o.f += e -/
def AugF (a C : Addr) (f : Str) (N : Hp → Prop) (z : V) (H : Hp) : Prop := ∃ dx' fs', H a = some (.ins C dx' fs') ∧ fs'.length < 1000 ∧ N (upd H a (.ins C dx' (putF f z fs')))
def AugK (K : PySem.W.Frag) (tv : TE) (rd : V → V → Hp → VK → Prop) (f : Str) (σ : L2.St) (N : Hp → Prop) (x : V) (H : Hp) : Prop := ∃ a C dx fs v, x = .ref a ∧ H a = some (.ins C dx fs) ∧ Cls K C ∧ NoAttr K C f ∧ fs.lookup f = some v ∧
  tv σ H fun y H2 => rd v y H2 (AugF a C f N)
def KeysK (R : It → Hp → Prop) (x : V) (H : Hp) : Prop := ∃ d o, x = .ref d ∧ ((∃ kvs, H d = some (.frz o (.dK kvs)) ∧ R (Itk d o kvs) H) ∨ ∃ kvs, H d = some (.frz o (.dT kvs)) ∧ R (Itkt d o kvs) H)
def DPopK (a : Addr) (Q : VK) (y : V) (H : Hp) : Prop := ∃ kvs k v, H a = some (.dK kvs) ∧ y = kV k ∧ valV kvs k = some v ∧ Q v (upd H a (.dK (dropK kvs k)))
def UnlK (d : Addr) (o : Obj) (u : HO) (Q : VK) (v : V) (H : Hp) : Prop := H d = some (.frz o u) ∧ Q v (upd H d u)
section
variable {K : PySem.W.Frag} {σ : L2.St} {H : Hp} {D : Ends} {te ta tb tv : TE} {g : TG} {tt : TT} {Q : VK} {R : It → Hp → Prop} {v x y z : V} {i j n : Int} {L L' : List SA} {a d C dx : Addr} {o : Obj} {kvs : List (Key × V)} {vs : List Nat} {N : Hp → Prop}
theorem r_fldaug {rd : V → V → Hp → VK → Prop} {f : Str} (q : ta σ H (AugK K tv rd f σ (D.nx σ))) : sFldAug K ta tv rd f D σ H := q
theorem r_augK {rd : V → V → Hp → VK → Prop} {f : Str} {fs : List (Str × V)} (h : H a = some (.ins C dx fs)) (c : Cls K C) (nf : NoAttr K C f) (l : fs.lookup f = some v) (q : tv σ H fun y H2 => rd v y H2 (AugF a C f N)) : AugK K tv rd f σ N (.ref a) H := ⟨a, C, dx, fs, v, rfl, h, c, nf, l, q⟩
theorem r_augF {f : Str} {fs fs' : List (Str × V)} (hs : Hd L H) (p : Put (pto a (.ins C dx fs)) (pto a (.ins C dx fs')) L L') (e : putF f z fs = fs') (hl : fs.length < 1000) (q : ∀ H', Hd L' H' → N H') : AugF a C f N z H := by
  obtain ⟨M, pa, _⟩ := p.pulls
  subst e
  exact ⟨dx, fs, hs.get pa, hl, q _ (hs.set p (fun z => z))⟩
theorem r_aAdd (q : Q (.int (i + j)) H) : rAdd (.int i) (.int j) H Q := ⟨i, j, rfl, rfl, q⟩
theorem r_aSub (q : Q (.int (i - j)) H) : rSub (.int i) (.int j) H Q := ⟨i, j, rfl, rfl, q⟩
theorem r_keys (q : te σ H (KeysK R)) : iKeys te σ H R := q
theorem r_keysK (h : H d = some (.frz o (.dK kvs))) (q : R (Itk d o kvs) H) : KeysK R (.ref d) H := ⟨d, o, rfl, .inl ⟨kvs, h, q⟩⟩
theorem r_dpop1 (q : ta σ H (IsDK fun a H1 => tb σ H1 (DPopK a Q))) : tDPop1 ta tb σ H Q := q
theorem r_dpopK (hs : Hd L H) (p : Put (pto a (.dK kvs)) (pto a (.dK (dropK kvs (.inl n)))) L L') (hv : valV kvs (.inl n) = some v) (q : ∀ H', Hd L' H' → Q v H') : DPopK a Q (.int n) H := by
  obtain ⟨M, pa, _⟩ := p.pulls
  exact ⟨kvs, .inl n, v, hs.get pa, rfl, hv, q _ (hs.set p (fun z => z))⟩
theorem r_lock (hs : Hd (pto d (.dK kvs) :: L) H) (q : ∀ od H', Hd (pto d (.frz od (.dK kvs)) :: L) H' → te σ H' (UnlK d od (.dK kvs) Q)) : tLockE te σ H Q :=
  ⟨d, .dK kvs, hs.get .here, trivial, fun od => q od _ (hs.set .here fun z => z)⟩
theorem r_unl {u : HO} (hs : Hd L H) (p : Put (pto d (.frz o u)) (pto d u) L L') (q : ∀ H', Hd L' H' → Q v H') : UnlK d o u Q v H := by
  obtain ⟨M, pa, _⟩ := p.pulls
  exact ⟨hs.get pa, q _ (hs.set p fun z => z)⟩
theorem r_lcK (P : Addr → Nat → Hp → Prop) (hh : Hd L H) (h0 : ∀ D H', Hd (pto D (.lst []) :: L) H' → P D 0 H') (hl : ∀ D i H, i ≤ kvs.length → P D i H → H d = some (.frz o (.dK kvs)))
    (hs : ∀ D i k v H, kvs[i]? = some (k, v) → P D i H → g (kV k) (wipe σ vs) H fun σ2 H2 => wipe σ2 vs = wipe σ vs ∧ tt σ2 H2 fun b H3 => if b = true then te σ2 H3 (AppK D (P D (i + 1))) else P D (i + 1) H3)
    (hd : ∀ D H, P D kvs.length H → Q (.ref D) H) : LcK g tt te vs σ Q (Itk d o kvs) H :=
  r_lcW walk_keys P hh h0 hl (fun D i x H H' hi p y => by
    obtain ⟨e, k, v, y, ex⟩ := y
    subst e ex
    exact hs D i k v _ y p) hd
end
/-- dict(xs) of pairs -/
def rDictP (K : PySem.W.Frag) : List V → Hp → VK → Prop := fun xs H Q => ∃ (a : Addr) (ps : List Addr) (kvs : List (Key × V)), xs = [.ref a] ∧ SqL K H a (ps.map V.ref) ∧ Paired (fun p kv => SqT K H p [kV kv.1, kv.2]) ps kvs ∧
    ∀ p, H p = none → Q (.ref p) (upd H p (.dK (mergeK [] kvs)))
theorem k_dictP {X : Cx} {K : PySem.W.Frag} (h : X.K = K) (hc : X.calm = true) : CallR X (.type "dict") (rDictP K) := h ▸ call_dictP hc
/-- many pairs: a key and what stands for it, tuples at ps -/
def pairsA (ps : List Addr) (kvs : List (Key × V)) : SA := fun H => Paired (fun p kv => H p = some (.tup [kV kv.1, kv.2])) ps kvs
theorem pr_mono {α β : Type} {R S : α → β → Prop} (f : ∀ a b, R a b → S a b) {xs : List α} {ys : List β} (h : Paired R xs ys) : Paired S xs ys := by
  induction h with
  | nil => exact .nil
  | cons a _ ih => exact .cons (f _ _ a) ih
theorem pr_snoc {α β : Type} {R : α → β → Prop} {a : α} {b : β} {xs : List α} {ys : List β} (h : Paired R xs ys) (r : R a b) : Paired R (xs ++ [a]) (ys ++ [b]) := by
  induction h with
  | nil => exact .cons r .nil
  | cons a _ ih => exact .cons a ih
theorem up_pairs (ps : List Addr) (kvs : List (Key × V)) : Up (pairsA ps kvs) := fun _ _ s h => pr_mono (fun _ _ z => s _ _ z) h
theorem pairs_nil {L : List SA} {H : Hp} (h : Hd L H) : Hd (pairsA [] [] :: L) H := ⟨fun _ => none, H, fun _ _ _ h => (nomatch h), fun _ _ h => (nomatch h), Sub.refl _, .nil, h⟩
theorem pairs_snoc {L : List SA} {H : Hp} {t : Addr} {k : Key} {v : V} {ps : List Addr} {kvs : List (Key × V)} (h : Hd (pto t (.tup [kV k, v]) :: pairsA ps kvs :: L) H) : Hd (pairsA (ps ++ [t]) (kvs ++ [(k, v)]) :: L) H :=
  Hd.join (up_pto _ _) (up_pairs _ _) h fun _ z1 z2 => pr_snoc z2 z1
theorem r_dictP {K : PySem.W.Frag} {H : Hp} {Q : VK} {a : Addr} {ps : List Addr} {kvs : List (Key × V)} {L L' : List SA} (hs : Hd L H) (h : SqL K H a (ps.map V.ref)) (p : Pull (pairsA ps kvs) L L') (q : ∀ p H', Hd (pto p (.dK (mergeK [] kvs)) :: L) H' → Q (.ref p) H') : rDictP K [.ref a] H Q :=
  ⟨a, ps, kvs, rfl, h, pr_mono (fun _ _ z => SqT.of z) (hs.at (up_pairs ps kvs) p), fun p n => q p _ (hs.new n)⟩
end Sl

set_option maxRecDepth 100000
set_option maxHeartbeats 1000000
namespace Sl
open PySem L2
/-! ### turns -/
def mI (a b : List (Int × Int)) : List (Int × Int) := b.foldl (fun acc e => putI acc e.1 e.2) a
theorem mergeK_dI : ∀ (b a : List (Int × Int)), mergeK (dI a) (dI b) = dI (mI a b)
  | [], _ => rfl
  | e :: r, a => by
    show mergeK (putK (dI a) (.inl e.1) (.int e.2)) (dI r) = dI (mI (putI a e.1 e.2) r)
    rw [putK_dI]
    exact mergeK_dI r _
def zI (d : List (Int × Int)) : List (Int × Int) := mI [] (d.map fun e => (e.1, 0))
theorem len_mI : ∀ (b a : List (Int × Int)), (mI a b).length ≤ a.length + b.length
  | [], a => by simp [mI]
  | e :: r, a => by
    have h := len_mI r (putI a e.1 e.2)
    have h2 := len_putI a e.1 e.2
    show (mI (putI a e.1 e.2) r).length ≤ _
    rw [List.length_cons]
    omega
theorem len_zI (d : List (Int × Int)) : (zI d).length ≤ d.length := by
  have h := len_mI (d.map fun e => (e.1, (0 : Int))) []
  rw [List.length_map] at h
  simpa [zI] using h
theorem getI_cons (e : Int × Int) (r : List (Int × Int)) (m : Int) : getI (e :: r) m = if e.1 = m then some e.2 else getI r m := by
  by_cases h : e.1 = m
  · rw [if_pos h]
    simp [getI, h]
  · rw [if_neg h]
    simp [getI, h]
theorem getI_mz : ∀ (d a : List (Int × Int)) (m : Int), getI (mI a (d.map fun e => (e.1, 0))) m = if (getI d m).isSome then some 0 else getI a m
  | [], _, _ => rfl
  | e :: r, a, m => by
    show getI (mI (putI a e.1 0) (r.map fun e => (e.1, 0))) m = _
    rw [getI_mz r, getI_put, getI_cons]
    by_cases h : e.1 = m
    · rw [if_pos h, if_pos h.symm]
      simp
    · rw [if_neg h, if_neg (show ¬ m = e.1 from fun z => h z.symm)]
theorem getI_z (d : List (Int × Int)) (m : Int) : getI (zI d) m = (getI d m).map fun _ => 0 := by
  unfold zI
  rw [getI_mz]
  cases getI d m <;> rfl
structure TU where
  q : List (List Int)
  dep : List (Int × Int)
  runs : Option Int
  rest : Int
  steps : Int
def runV : Option Int → V
  | none => .non
  | some n => .int n
def sliceOf (l : Nat) : Int := [2, 4, 8, 16].getD l 0
namespace TU
def new : TU := ⟨[[], [], [], []], [], none, 0, 0⟩
def row (u : TU) (l : Nat) : List Int := u.q.getD l []
def stand (u : TU) (n : Int) (l : Nat) : TU := { u with q := u.q.set l (u.row l ++ [n]), dep := putI u.dep n l }
def over (u : TU) (n : Int) (l : Nat) : TU := { u with q := u.q.set l ((u.row l).erase n), runs := none, rest := 0 }
def lev (u : TU) (n : Int) : Nat := ((getI u.dep n).getD 0).toNat
def next (u : TU) : TU := match u.runs with
  | some _ => u
  | none => match u.q.flatten.head? with
    | none => { u with rest := 0 }
    | some n => { u with runs := some n, rest := sliceOf (u.lev n) }
def lift (u : TU) : TU := ⟨[u.q.flatten, [], [], []], zI u.dep, none, 0, u.steps + 1⟩
def counted (u : TU) : TU := if (u.steps + 1) % 64 > 0 then { u with steps := u.steps + 1 } else u.lift
def wentN (u : TU) (n : Int) : TU := if u.rest - 1 = 0 then ((u.over n (u.lev n)).stand n (min 3 (u.lev n + 1))) else { u with rest := u.rest - 1 }
def passN (u : TU) (n : Int) : TU := (u.over n (u.lev n)).stand n (u.lev n)
def waitN (u : TU) (n : Int) : TU := u.over n (u.lev n)
def endN (u : TU) (n : Int) : TU := { u.over n (u.lev n) with dep := dropI u.dep n }
/-- all is as it should be -/
structure Ok (u : TU) : Prop where
  four : u.q.length = 4
  at_ : ∀ (l : Nat) (r : List Int) (n : Int), u.q[l]? = some r → n ∈ r → getI u.dep n = some (l : Int)
  lv : ∀ n l, getI u.dep n = some l → 0 ≤ l ∧ l < 4
  run : ∀ n, u.runs = some n → n ∈ u.q.flatten ∧ 1 ≤ u.rest
  nd : u.q.flatten.Nodup
end TU
/-! #### rows and their sum -/
theorem fl_snoc : ∀ {q : List (List Int)} {l : Nat} {r : List Int} {n : Int}, q[l]? = some r → (q.set l (r ++ [n])).flatten.Perm (n :: q.flatten)
  | [], _, _, _, h => by simp at h
  | a :: q, 0, r, n, h => by
    have e : a = r := Option.some.inj h
    subst e
    rw [List.set_cons_zero, List.flatten_cons, List.flatten_cons, List.append_assoc]
    exact List.perm_middle
  | a :: q, l + 1, r, n, h => by
    rw [List.set_cons_succ, List.flatten_cons, List.flatten_cons]
    exact (List.Perm.append_left a (fl_snoc (q := q) (l := l) h)).trans List.perm_middle
theorem fl_erase : ∀ {q : List (List Int)} {l : Nat} {r : List Int} {n : Int}, q[l]? = some r → n ∈ r → (n :: (q.set l (r.erase n)).flatten).Perm q.flatten
  | [], _, _, _, h, _ => by simp at h
  | a :: q, 0, r, n, h, m => by
    have e : a = r := Option.some.inj h
    subst e
    rw [List.set_cons_zero, List.flatten_cons, List.flatten_cons]
    exact (List.Perm.append_right _ (List.perm_cons_erase m).symm : ((n :: a.erase n) ++ _).Perm _)
  | a :: q, l + 1, r, n, h, m => by
    rw [List.set_cons_succ, List.flatten_cons, List.flatten_cons]
    exact (List.perm_middle.symm).trans (List.Perm.append_left a (fl_erase (q := q) (l := l) h m))
theorem row_at {u : TU} {l : Nat} {r : List Int} (h : u.q[l]? = some r) : u.row l = r := by
  unfold TU.row
  rw [List.getD_eq_getElem?_getD, h]
  rfl
theorem mem_fl {q : List (List Int)} {l : Nat} {r : List Int} {n : Int} (h : q[l]? = some r) (m : n ∈ r) : n ∈ q.flatten := List.mem_flatten.mpr ⟨r, List.mem_of_getElem? h, m⟩
theorem of_fl {q : List (List Int)} {n : Int} (m : n ∈ q.flatten) : ∃ (l : Nat) (r : List Int), q[l]? = some r ∧ n ∈ r := by
  obtain ⟨r, hr, hn⟩ := List.mem_flatten.mp m
  obtain ⟨l, hl⟩ := List.mem_iff_getElem?.mp hr
  exact ⟨l, r, hl, hn⟩
theorem len_row : ∀ {q : List (List Int)} {l : Nat} {r : List Int}, q[l]? = some r → r.length ≤ q.flatten.length
  | [], _, _, h => by simp at h
  | a :: q, 0, r, h => by
    have e : a = r := Option.some.inj h
    subst e
    rw [List.flatten_cons, List.length_append]
    omega
  | a :: q, l + 1, r, h => by
    have := len_row (q := q) (l := l) h
    rw [List.flatten_cons, List.length_append]
    omega
def rowsV (q : List (List Int)) : List (List V) := q.map fun r => r.map V.int
theorem rows_in {ls : List Addr} {q : List (List Int)} {L L' : List SA} {H : Hp} (h : Hd L H) (p : Pull (rowsA ls (rowsV q)) L L') {l : Nat} {r : List Int} (e : q[l]? = some r) : ∃ a, ls[l]? = some a ∧ H a = some (.lst (r.map V.int)) := by
  have hl : l < (rowsV q).length := by
    rw [rowsV, List.length_map]
    exact (List.getElem?_eq_some_iff.mp e).1
  obtain ⟨a, h1, h2⟩ := rows_at h p (i := l) hl
  refine ⟨a, h1, ?_⟩
  rw [h2]
  congr 2
  obtain ⟨hq, e⟩ := List.getElem?_eq_some_iff.mp e
  simp [rowsV, e]
theorem rows_put {ls : List Addr} {q : List (List Int)} {L : List SA} {H : Hp} (h : Hd (rowsA ls (rowsV q) :: L) H) {l : Nat} {a : Addr} (e : ls[l]? = some a) (r : List Int) : Hd (rowsA ls (rowsV (q.set l r)) :: L) (upd H a (.lst (r.map V.int))) := by
  have z := rows_set h e (r.map V.int)
  have e2 : (rowsV q).set l (r.map V.int) = rowsV (q.set l r) := by simp [rowsV, List.map_set]
  rw [e2] at z
  exact z
theorem rows_count {ls : List Addr} {q : List (List Int)} {L L' : List SA} {H : Hp} (h : Hd L H) (p : Pull (rowsA ls (rowsV q)) L L') : ls.length = q.length := by
  rw [rows_len h p, rowsV, List.length_map]
theorem atI_ref {ls : List Addr} {l : Nat} {a : Addr} (e : ls[l]? = some a) : atI (ls.map V.ref) (l : Int) = some (.ref a) := atI_nat (by simp [e])
theorem rows_cons {ls : List Addr} {q : List (List V)} {L : List SA} {H : Hp} {a : Addr} {r : List V} (h : Hd (pto a (.lst r) :: rowsA ls q :: L) H) : Hd (rowsA (a :: ls) (r :: q) :: L) H := by
  have no := rows_out h
  refine Hd.join (up_pto _ _) (up_rows _ _) h fun G z1 z2 => ⟨List.nodup_cons.mpr ⟨no, z2.1⟩, by simp [z2.2.1], fun i b s e1 e2 => ?_⟩
  cases i with
  | zero =>
    cases e1
    cases e2
    exact z1
  | succ i => exact z2.2.2 i b s e1 e2
theorem head_fl : ∀ {q : List (List Int)} {i : Nat} {h : Int} {t : List Int}, (∀ j : Nat, j < i → q[j]? = some []) → q[i]? = some (h :: t) → q.flatten.head? = some h
  | [], _, _, _, _, e => by simp at e
  | a :: q, 0, h, t, _, e => by
    have e := Option.some.inj e
    rw [e]
    rfl
  | a :: q, i + 1, h, t, z, e => by
    have e0 : a = [] := Option.some.inj (z 0 (Nat.succ_pos _))
    rw [e0]
    exact head_fl (q := q) (i := i) (fun j hj => z (j + 1) (by omega)) e
theorem none_fl : ∀ {q : List (List Int)}, (∀ j : Nat, j < q.length → q[j]? = some []) → q.flatten = []
  | [], _ => rfl
  | a :: q, z => by
    have e0 : a = [] := Option.some.inj (z 0 (Nat.succ_pos _))
    rw [e0]
    exact none_fl (q := q) fun j hj => z (j + 1) (by rw [List.length_cons]; omega)
theorem take_fl {q : List (List Int)} {i : Nat} {r : List Int} (e : q[i]? = some r) : (q.take i).flatten ++ r = (q.take (i + 1)).flatten := by
  rw [List.take_add_one, e, List.flatten_append]
  simp
theorem len_take_fl (q : List (List Int)) (i : Nat) : (q.take i).flatten.length ≤ q.flatten.length := by
  have : q.flatten = (q.take i).flatten ++ (q.drop i).flatten := by rw [← List.flatten_append, List.take_append_drop]
  rw [this, List.length_append]
  omega
theorem sl_at {l : Nat} (h : l < 4) : atI [V.int 2, V.int 4, V.int 8, V.int 16] (l : Int) = some (V.int (sliceOf l)) := by
  have e : l = 0 ∨ l = 1 ∨ l = 2 ∨ l = 3 := by omega
  rcases e with rfl | rfl | rfl | rfl <;> rfl
theorem lev_at {u : TU} {n : Int} {l : Nat} (h : getI u.dep n = some (l : Int)) : u.lev n = l := by
  unfold TU.lev
  rw [h]
  rfl
theorem len_over {u : TU} {n : Int} {l : Nat} {r : List Int} (h : u.q[l]? = some r) (m : n ∈ r) : (u.over n l).q.flatten.length + 1 = u.q.flatten.length := by
  have := (fl_erase h m).length_eq
  rw [List.length_cons] at this
  unfold TU.over
  rw [row_at h]
  exact this
theorem len_stand {u : TU} {n : Int} {l : Nat} (h : l < u.q.length) : (u.stand n l).q.flatten.length = u.q.flatten.length + 1 := by
  have hr : u.q[l]? = some u.q[l] := by simp [h]
  have := (fl_snoc (n := n) hr).length_eq
  rw [List.length_cons] at this
  unfold TU.stand
  rw [row_at hr]
  exact this
theorem four_over {u : TU} {n : Int} {l : Nat} : (u.over n l).q.length = u.q.length := List.length_set
theorem four_stand {u : TU} {n : Int} {l : Nat} : (u.stand n l).q.length = u.q.length := List.length_set
end Sl

set_option maxRecDepth 100000
set_option maxHeartbeats 1000000
namespace Sl
open PySem L2
/-! ### turns: the plain law -/
theorem getI_old {d : List (Int × Int)} {n l0 l : Int} (h : getI d n = some l0) : (putI d n l).length = d.length := by
  have e : (d.any fun e => decide (e.1 = n)) = true := by
    rw [List.any_eq_true]
    unfold getI at h
    obtain ⟨e, he, _⟩ := Option.map_eq_some_iff.mp h
    exact ⟨e, List.mem_of_find?_eq_some he, by simpa using List.find?_some he⟩
  unfold putI
  rw [if_pos e, List.length_map]
theorem TU.Ok.rest {u : TU} (o : u.Ok) (r : Int) (h : u.runs = none ∨ 1 ≤ r) : ({ u with rest := r } : TU).Ok :=
  ⟨o.four, o.at_, o.lv, fun n e => ⟨(o.run n e).1, h.elim (fun z => by have e : u.runs = some n := e; rw [z] at e; cases e) id⟩, o.nd⟩
theorem sl_pos {l : Nat} (h : l < 4) : 2 ≤ sliceOf l := by
  have e : l = 0 ∨ l = 1 ∨ l = 2 ∨ l = 3 := by omega
  rcases e with rfl | rfl | rfl | rfl <;> decide
theorem TU.Ok.next {u : TU} (o : u.Ok) : u.next.Ok := by
  unfold TU.next
  cases hr : u.runs with
  | some n => exact o
  | none =>
    cases hh : u.q.flatten.head? with
    | none =>
      have z := o.rest 0 (.inl hr)
      dsimp only at z ⊢
      rw [hr] at z
      exact z
    | some n =>
      have hm := List.mem_of_mem_head? hh
      obtain ⟨l, r, e, m⟩ := of_fl hm
      have hg := o.at_ l r n e m
      have hl := o.lv n _ hg
      have hs := sl_pos (l := l) (by omega)
      refine ⟨o.four, o.at_, o.lv, fun k e => ?_, o.nd⟩
      cases e
      refine ⟨hm, ?_⟩
      show 1 ≤ sliceOf (u.lev n)
      rw [lev_at hg]
      omega
theorem TU.Ok.over {u : TU} {n : Int} {l : Nat} {r : List Int} (o : u.Ok) (h : u.q[l]? = some r) (m : n ∈ r) : (u.over n l).Ok := by
  have p := fl_erase h m
  have e : u.over n l = { u with q := u.q.set l (r.erase n), runs := none, rest := 0 } := by
    unfold TU.over
    rw [row_at h]
  rw [e]
  refine ⟨by rw [List.length_set]; exact o.four, fun j s x e1 e2 => ?_, o.lv, fun _ e => (nomatch e), ?_⟩
  · by_cases z : j = l
    · subst z
      rw [List.getElem?_set_self (List.getElem?_eq_some_iff.mp h).1] at e1
      cases e1
      exact o.at_ j r x h (List.mem_of_mem_erase e2)
    · rw [List.getElem?_set_ne (Ne.symm z)] at e1
      exact o.at_ j s x e1 e2
  · exact (List.nodup_cons.mp ((List.Perm.nodup_iff p).mpr o.nd)).2
theorem out_over {u : TU} {n : Int} {l : Nat} {r : List Int} (o : u.Ok) (h : u.q[l]? = some r) (m : n ∈ r) : n ∉ (u.over n l).q.flatten := by
  have p := fl_erase h m
  unfold TU.over
  rw [row_at h]
  exact (List.nodup_cons.mp ((List.Perm.nodup_iff p).mpr o.nd)).1
theorem pm_over {u : TU} {n : Int} {l : Nat} {r : List Int} (h : u.q[l]? = some r) (m : n ∈ r) : (n :: (u.over n l).q.flatten).Perm u.q.flatten := by
  have p := fl_erase h m
  unfold TU.over
  rw [row_at h]
  exact p
theorem pm_stand {u : TU} {n : Int} {l : Nat} (h : l < u.q.length) : (u.stand n l).q.flatten.Perm (n :: u.q.flatten) := by
  have hr : u.q[l]? = some u.q[l] := by simp [h]
  unfold TU.stand
  rw [row_at hr]
  exact fl_snoc hr
theorem TU.Ok.stand {u : TU} {n : Int} {l : Nat} (o : u.Ok) (hl : l < 4) (no : n ∉ u.q.flatten) : (u.stand n l).Ok := by
  have hq : l < u.q.length := by rw [o.four]; exact hl
  have hr : u.q[l]? = some u.q[l] := by simp [hq]
  have p := pm_stand (u := u) (n := n) hq
  refine ⟨by rw [four_stand]; exact o.four, fun j s x e1 e2 => ?_, fun x k e => ?_, fun x e => ?_, (List.Perm.nodup_iff p).mpr (List.nodup_cons.mpr ⟨no, o.nd⟩)⟩
  · unfold TU.stand at e1 ⊢
    rw [row_at hr] at e1
    show getI (putI u.dep n l) x = _
    rw [getI_put]
    have old : ∀ (j : Nat) s, u.q[j]? = some s → x ∈ s → (if x = n then some (l : Int) else getI u.dep x) = some (j : Int) := fun j s e1 e2 => by
      have nx : x ≠ n := fun z => no (z ▸ mem_fl e1 e2)
      rw [if_neg nx]
      exact o.at_ j s x e1 e2
    by_cases z : j = l
    · subst z
      rw [List.getElem?_set_self hq] at e1
      cases e1
      rcases List.mem_append.mp e2 with e2 | e2
      · exact old j _ hr e2
      · rw [if_pos (List.mem_singleton.mp e2)]
    · rw [List.getElem?_set_ne (Ne.symm z)] at e1
      exact old j s e1 e2
  · have e : getI (putI u.dep n l) x = some k := e
    rw [getI_put] at e
    split at e
    · cases e
      omega
    · exact o.lv x k e
  · have z := o.run x e
    exact ⟨p.symm.subset (List.mem_cons_of_mem _ z.1), z.2⟩
theorem TU.Ok.drop {u : TU} {n : Int} (o : u.Ok) (no : n ∉ u.q.flatten) : ({ u with dep := dropI u.dep n } : TU).Ok := by
  refine ⟨o.four, fun j s x e1 e2 => ?_, fun x k e => ?_, o.run, o.nd⟩
  · show getI (dropI u.dep n) x = _
    rw [getI_drop, if_neg (fun z => by subst z; exact no (mem_fl e1 e2))]
    exact o.at_ j s x e1 e2
  · have e : getI (dropI u.dep n) x = some k := e
    rw [getI_drop] at e
    split at e
    · cases e
    · exact o.lv x k e
theorem fl_lift (f : List Int) : [f, [], [], []].flatten = f := by simp
theorem fl_counted (u : TU) : u.counted.q.flatten = u.q.flatten := by
  unfold TU.counted
  split
  · rfl
  · exact fl_lift _
theorem TU.Ok.counted {u : TU} (o : u.Ok) : u.counted.Ok := by
  unfold TU.counted
  split
  · exact ⟨o.four, o.at_, o.lv, o.run, o.nd⟩
  · refine ⟨rfl, fun j s x e1 e2 => ?_, fun x k e => ?_, fun _ e => (nomatch e), by show [u.q.flatten, [], [], []].flatten.Nodup; rw [fl_lift]; exact o.nd⟩
    · have e1 : [u.q.flatten, [], [], []][j]? = some s := e1
      show getI (zI u.dep) x = _
      have hj : j < 4 := (List.getElem?_eq_some_iff.mp e1).1
      have ej : j = 0 ∨ j = 1 ∨ j = 2 ∨ j = 3 := by omega
      rcases ej with rfl | rfl | rfl | rfl
      · cases e1
        obtain ⟨l, r, h1, h2⟩ := of_fl e2
        rw [getI_z, o.at_ l r x h1 h2]
        rfl
      · cases e1
        cases e2
      · cases e1
        cases e2
      · cases e1
        cases e2
    · have e : getI (zI u.dep) x = some k := e
      rw [getI_z] at e
      obtain ⟨_, _, e⟩ := Option.map_eq_some_iff.mp e
      omega
theorem dp_counted (u : TU) : u.counted.dep.length ≤ u.dep.length := by
  unfold TU.counted
  split
  · exact Nat.le_refl _
  · exact len_zI _
theorem gt_counted {u : TU} {n l : Int} (h : getI u.dep n = some l) : ∃ l', getI u.counted.dep n = some l' := by
  unfold TU.counted
  split
  · exact ⟨l, h⟩
  · exact ⟨0, by show getI (zI u.dep) n = _; rw [getI_z, h]; rfl⟩
/-! #### one step, told as a relation -/
inductive StepR (v : TU) (R Wt : List Int) (h : Int) : TU → List Int → List Int → Prop
  | went : StepR v R Wt h (v.wentN h).counted R Wt
  | pass : StepR v R Wt h (v.passN h).counted R Wt
  | wait : 1 < R.length → StepR v R Wt h (v.waitN h).counted (R.erase h) (Wt ++ [h])
  | gone : 1 < R.length → StepR v R Wt h (v.endN h).counted (R.erase h) Wt
structure Inv (u : TU) (R Wt : List Int) (last : Int) : Prop where
  ok : u.Ok
  pm : u.q.flatten.Perm R
  nd : (R ++ Wt).Nodup
  le : ∀ x ∈ R ++ Wt, x ≤ last
  wd : ∀ x ∈ Wt, ∃ l, getI u.dep x = some l
  ne : R ≠ []
  few : R.length + Wt.length ≤ 16
  dp : (u.dep.length : Int) ≤ last
theorem lev_of {u : TU} {h : Int} (o : u.Ok) (m : h ∈ u.q.flatten) : ∃ (l : Nat) (r : List Int), getI u.dep h = some (l : Int) ∧ u.q[l]? = some r ∧ h ∈ r ∧ l < 4 := by
  obtain ⟨l, r, e, m⟩ := of_fl m
  have hg := o.at_ l r h e m
  have := o.lv h _ hg
  exact ⟨l, r, hg, e, m, by omega⟩
/-- what the four steps are before they are counted -/
theorem went_fl {v : TU} {h : Int} (o : v.Ok) (hr : v.runs = some h) : (v.wentN h).Ok ∧ (v.wentN h).q.flatten.Perm v.q.flatten ∧ (v.wentN h).dep.length = v.dep.length ∧ (∀ x l, getI v.dep x = some l → ∃ l', getI (v.wentN h).dep x = some l') := by
  obtain ⟨l, r, hg, e, m, hl⟩ := lev_of o (o.run h hr).1
  unfold TU.wentN
  rw [lev_at hg]
  split
  · refine ⟨(o.over e m).stand (by omega) (out_over o e m), ?_, getI_old hg, fun x k ex => ?_⟩
    · exact (pm_stand (u := v.over h l) (by rw [four_over, o.four]; omega)).trans (pm_over e m)
    · show ∃ l', getI (putI v.dep h _) x = some l'
      rw [getI_put]
      split
      · exact ⟨_, rfl⟩
      · exact ⟨k, ex⟩
  · rename_i z
    have := (o.run h hr).2
    exact ⟨o.rest _ (.inr (by omega)), .refl _, rfl, fun x k ex => ⟨k, ex⟩⟩
theorem pass_fl {v : TU} {h : Int} (o : v.Ok) (hr : v.runs = some h) : (v.passN h).Ok ∧ (v.passN h).q.flatten.Perm v.q.flatten ∧ (v.passN h).dep.length = v.dep.length ∧ (∀ x l, getI v.dep x = some l → ∃ l', getI (v.passN h).dep x = some l') := by
  obtain ⟨l, r, hg, e, m, hl⟩ := lev_of o (o.run h hr).1
  unfold TU.passN
  rw [lev_at hg]
  refine ⟨(o.over e m).stand (by omega) (out_over o e m), ?_, getI_old hg, fun x k ex => ?_⟩
  · exact (pm_stand (u := v.over h l) (by rw [four_over, o.four]; omega)).trans (pm_over e m)
  · show ∃ l', getI (putI v.dep h _) x = some l'
    rw [getI_put]
    split
    · exact ⟨_, rfl⟩
    · exact ⟨k, ex⟩
theorem wait_fl {v : TU} {h : Int} (o : v.Ok) (hr : v.runs = some h) : (v.waitN h).Ok ∧ (h :: (v.waitN h).q.flatten).Perm v.q.flatten ∧ h ∉ (v.waitN h).q.flatten ∧ (v.waitN h).dep = v.dep := by
  obtain ⟨l, r, hg, e, m, hl⟩ := lev_of o (o.run h hr).1
  unfold TU.waitN
  rw [lev_at hg]
  exact ⟨o.over e m, pm_over e m, out_over o e m, rfl⟩
theorem next_same (u : TU) : u.next.q = u.q ∧ u.next.dep = u.dep ∧ u.next.steps = u.steps := by
  unfold TU.next
  split
  · exact ⟨rfl, rfl, rfl⟩
  · split <;> exact ⟨rfl, rfl, rfl⟩
theorem Inv.next {u : TU} {R Wt : List Int} {last : Int} (i : Inv u R Wt last) : Inv u.next R Wt last ∧ ∃ h, u.next.runs = some h ∧ h ∈ R := by
  obtain ⟨e1, e2, e3⟩ := next_same u
  refine ⟨⟨i.ok.next, by rw [e1]; exact i.pm, i.nd, i.le, by rw [e2]; exact i.wd, i.ne, i.few, by rw [e2]; exact i.dp⟩, ?_⟩
  unfold TU.next
  cases hr : u.runs with
  | some h => exact ⟨h, hr, i.pm.subset (i.ok.run h hr).1⟩
  | none =>
    cases hh : u.q.flatten.head? with
    | none =>
      rw [List.head?_eq_none_iff] at hh
      have := i.pm
      rw [hh] at this
      exact (i.ne (List.nil_perm.mp this)).elim
    | some n => exact ⟨n, rfl, i.pm.subset (List.mem_of_mem_head? hh)⟩
theorem inv_step {v u' : TU} {R Wt R' Wt' : List Int} {last h : Int} (i : Inv v R Wt last) (hr : v.runs = some h) (s : StepR v R Wt h u' R' Wt') : Inv u' R' Wt' last := by
  have hm : h ∈ R := i.pm.subset (i.ok.run h hr).1
  have hc : ∀ u : TU, u.dep.length ≤ v.dep.length → ((u.counted.dep.length : Nat) : Int) ≤ last := fun u hl => by
    have := dp_counted u
    have := i.dp
    omega
  have pe : (R ++ Wt).Perm (h :: (R.erase h ++ Wt)) := List.Perm.append_right Wt (List.perm_cons_erase hm)
  have el : (R.erase h).length + 1 = R.length := by
    have := (List.perm_cons_erase hm).length_eq
    rw [List.length_cons] at this
    exact this.symm
  have ndr : (R ++ Wt).Nodup := i.nd
  have nd2 := List.nodup_cons.mp ((List.Perm.nodup_iff pe).mp i.nd)
  cases s with
  | went =>
    obtain ⟨a, b, c, d⟩ := went_fl i.ok hr
    refine ⟨a.counted, by rw [fl_counted]; exact b.trans i.pm, i.nd, i.le, fun x hx => ?_, i.ne, i.few, hc _ (Nat.le_of_eq c)⟩
    obtain ⟨l, e⟩ := i.wd x hx
    obtain ⟨l2, e2⟩ := d x l e
    exact gt_counted e2
  | pass =>
    obtain ⟨a, b, c, d⟩ := pass_fl i.ok hr
    refine ⟨a.counted, by rw [fl_counted]; exact b.trans i.pm, i.nd, i.le, fun x hx => ?_, i.ne, i.few, hc _ (Nat.le_of_eq c)⟩
    obtain ⟨l, e⟩ := i.wd x hx
    obtain ⟨l2, e2⟩ := d x l e
    exact gt_counted e2
  | wait hl =>
    obtain ⟨a, b, c, d⟩ := wait_fl i.ok hr
    have pw : (R.erase h ++ (Wt ++ [h])).Perm (R ++ Wt) := by
      rw [← List.append_assoc]
      exact (List.perm_append_comm).trans pe.symm
    refine ⟨a.counted, ?_, (List.Perm.nodup_iff pw).mpr i.nd, fun x hx => i.le x (pw.subset hx), fun x hx => ?_, fun z => ?_, ?_, hc _ (Nat.le_of_eq (by rw [d]))⟩
    · rw [fl_counted]
      exact (List.Perm.cons_inv (b.trans (i.pm.trans (List.perm_cons_erase hm))))
    · rcases List.mem_append.mp hx with hx | hx
      · obtain ⟨l, e⟩ := i.wd x hx
        exact gt_counted (by rw [d]; exact e)
      · obtain ⟨l, r, hg, _⟩ := lev_of i.ok (i.ok.run h hr).1
        rw [List.mem_singleton.mp hx]
        exact gt_counted (by rw [d]; exact hg)
    · rw [z] at el
      simp at el
      omega
    · have := i.few
      rw [List.length_append, List.length_singleton]
      omega
  | gone hl =>
    obtain ⟨a, b, c, d⟩ := wait_fl i.ok hr
    have ho : (v.endN h).Ok := by
      have z := a.drop c
      rw [d] at z
      exact z
    refine ⟨ho.counted, ?_, nd2.2, fun x hx => i.le x (pe.symm.subset (List.mem_cons_of_mem _ hx)), fun x hx => ?_, fun z => ?_, ?_, hc _ (len_dropI _ _)⟩
    · rw [fl_counted]
      exact (List.Perm.cons_inv (b.trans (i.pm.trans (List.perm_cons_erase hm))))
    · obtain ⟨l, e⟩ := i.wd x hx
      refine gt_counted (l := l) ?_
      show getI (dropI v.dep h) x = some l
      rw [getI_drop, if_neg (fun z => ?_)]
      · exact e
      · subst z
        exact nd2.1 (List.mem_append_right _ hx)
    · rw [z] at el
      simp at el
      omega
    · have := i.few
      omega
theorem inv_stand {u : TU} {R Wt R' Wt' : List Int} {last last' n : Int} {l : Nat} (i : Inv u R Wt last) (hl : l < 4) (no : n ∉ R) (er : R' = R ++ [n]) (pw : (R' ++ Wt').Nodup) (le : ∀ x ∈ R' ++ Wt', x ≤ last') (sw : ∀ x ∈ Wt', x ∈ Wt) (few : R'.length + Wt'.length ≤ 16) (dp : ((putI u.dep n l).length : Int) ≤ last') : Inv (u.stand n l) R' Wt' last' := by
  subst er
  have nf : n ∉ u.q.flatten := fun z => no (i.pm.subset z)
  refine ⟨i.ok.stand hl nf, ?_, pw, le, fun x hx => ?_, by simp, few, dp⟩
  · exact ((pm_stand (by rw [i.ok.four]; exact hl)).trans (i.pm.cons n)).trans (List.perm_append_comm (l₁ := [n]) (l₂ := R))
  · obtain ⟨k, e⟩ := i.wd x (sw x hx)
    show ∃ l', getI (putI u.dep n l) x = some l'
    rw [getI_put]
    split
    · exact ⟨_, rfl⟩
    · exact ⟨k, e⟩
end Sl

set_option maxRecDepth 100000
set_option maxHeartbeats 1000000
namespace Sl
open PySem L2 PyProof PyProof.Rows
/-! ### x[i] op= e -/
/-- an item of a list at a place from the front -/
def rGetL (K : PySem.W.Frag) : V → V → Hp → VK → Prop := fun x y H Q => ∃ p xs i z, x = V.ref p ∧ y = .int i ∧ 0 ≤ i ∧ SqL K H p xs ∧ atI xs i = some z ∧ Q z H
theorem get_list {X : Cx} : PGet X (rGetL X.K) := by
  intro pins s σ H x y v u Q I rx ry h
  obtain ⟨p, xs, i, z, rfl, rfl, h0, hq, he, q⟩ := h
  cases rx
  obtain ⟨t, rfl⟩ := ry
  obtain ⟨its, r, pl, hz⟩ := I.list hq
  obtain ⟨j, h1, h2, h3, h4, h5⟩ := atI_get he
  obtain ⟨w, ew, rw'⟩ := r.get h2
  have hl := r.length
  have hn := line63
  have fin : EP X pins σ Q w s := ⟨z, H, I, rw', q⟩
  have hj : i.toNat = j := by
    rw [seqIndex_of h0 h5] at h1
    exact Option.some.inj h1
  exact wpAny_getItem_list pl.isList h0 (by omega) (by rw [hj]; simpa using ew) fin
theorem k_getL {X : Cx} {K : PySem.W.Frag} (h : X.K = K) : PGet X (rGetL K) := h ▸ get_list
section
variable {K : PySem.W.Frag} {σ : L2.St} {H : Hp} {D : Ends} {to ti te : TE} {Q : VK} {i j : Int} {a : Addr} {xs : List V} {z : V}
theorem r_augS {tget : V → V → Hp → VK → Prop} {tip : TIp} {tset : TSet} (q : to σ H fun o H1 => ti σ H1 fun i H2 => tget o i H2 fun x H3 => te σ H3 fun y H4 => tip x y H4 fun z H5 => tset o i z H5 fun H6 => D.nx σ H6) : tAugS to ti te tget tip tset D σ H := q
theorem r_ipI {f : Int → Int → Int} (q : Q (.int (f i j)) H) : ipI f (.int i) (.int j) H Q := ⟨i, j, rfl, rfl, q⟩
theorem r_getL (h : SqL K H a xs) (h0 : 0 ≤ i) (hi : atI xs i = some z) (q : Q z H) : rGetL K (.ref a) (.int i) H Q := ⟨a, xs, i, z, rfl, rfl, h0, h, hi, q⟩
theorem r_setLH {L L' : List SA} {N : Hp → Prop} {n : Nat} {v : V} (hs : Hd L H) (p : Put (pto a (.lst xs)) (pto a (.lst (xs.set n v))) L L') (hn : n < xs.length) (q : ∀ H', Hd L' H' → N H') : rSetU (.ref a) (.int (n : Int)) v H N := r_setL hs p hn q
end
/-! ### chains -/
def ChK (tc : TE) (r' : R2) (y : V) (σ : L2.St) (Q : VK) (z : V) (H : Hp) : Prop := ∃ k, z = .bl k ∧ (if k = true then tc σ H fun w' H4 => r' y w' H4 Q else Q (.bl false) H)
section
variable {σ : L2.St} {H : Hp} {ta tb tc : TE} {r r' : R2} {Q : VK} {b : Bool} {y : V}
theorem r_chain (q : ta σ H fun x H1 => tb σ H1 fun y H2 => r x y H2 (ChK tc r' y σ Q)) : tChain r r' ta tb tc σ H Q := q
theorem r_chK (q : if b = true then tc σ H fun w' H4 => r' y w' H4 Q else Q (.bl false) H) : ChK tc r' y σ Q (.bl b) H := ⟨b, rfl, q⟩
end
/-! ### the first place of a number -/
theorem r_indexI {K : PySem.W.Frag} {H : Hp} {Q : VK} {a : Addr} {ns : List Int} {n : Int} (h : SqL K H a (ns.map V.int)) (hm : n ∈ ns) (q : ∀ j : Nat, ns[j]? = some n → (∀ m : Nat, m < j → ns[m]? ≠ some n) → Q (.int (j : Nat)) H) : rIndex K (.ref a) [.int n] H Q := by
  obtain ⟨j, h1, h2⟩ := first_at hm
  refine ⟨a, ns.map V.int, .int n, j, .int n, rfl, rfl, h, rfl, flat_ints ns, by simp [h1], by simp [eqV], fun m z hm2 hz => ?_, q j h1 h2⟩
  rw [List.getElem?_map] at hz
  obtain ⟨k, hk, rfl⟩ := Option.map_eq_some_iff.mp hz
  have ne : k ≠ n := fun e => h2 m hm2 (by rw [hk, e])
  simp [eqV, ne]
theorem inV_ints (n : Int) (ns : List Int) : inV (.int n) (ns.map V.int) = decide (n ∈ ns) := by
  unfold inV
  rw [List.any_map]
  by_cases m : n ∈ ns
  · rw [decide_eq_true m, List.any_eq_true]
    exact ⟨n, m, by simp [eqV]⟩
  · rw [decide_eq_false m, List.any_eq_false]
    intro k hk
    have ne : k ≠ n := fun e => m (e ▸ hk)
    simp [eqV, ne]
/-! ### lists at addresses, or none -/
def orA (xs : List V) (ws : List (Option (List Int))) : SA := fun H => xs.length = ws.length ∧ ∀ (i : Nat) w, ws[i]? = some w → match w with
  | none => xs[i]? = some .non
  | some r => ∃ a, xs[i]? = some (.ref a) ∧ H a = some (.lst (r.map V.int))
theorem up_or (xs : List V) (ws : List (Option (List Int))) : Up (orA xs ws) := fun _ _ s h => ⟨h.1, fun i w e => by
  have z := h.2 i w e
  cases w with
  | none => exact z
  | some r =>
    obtain ⟨a, z1, z2⟩ := z
    exact ⟨a, z1, s _ _ z2⟩⟩
theorem or_nones {L : List SA} {H : Hp} (h : Hd L H) (n : Nat) : Hd (orA (List.replicate n .non) (List.replicate n none) :: L) H := by
  refine ⟨fun _ => none, H, fun _ _ _ h => (nomatch h), fun _ _ h => (nomatch h), Sub.refl _, ⟨by simp, fun i w e => ?_⟩, h⟩
  rw [List.getElem?_replicate] at e ⊢
  split at e
  · cases e
    rename_i hi
    show (if i < n then some V.non else none) = some .non
    rw [if_pos hi]
  · cases e
theorem or_len {xs : List V} {ws : List (Option (List Int))} {L L' : List SA} {H : Hp} (h : Hd L H) (p : Pull (orA xs ws) L L') : xs.length = ws.length := (h.at (up_or xs ws) p).1
theorem or_at {xs : List V} {ws : List (Option (List Int))} {L L' : List SA} {H : Hp} (h : Hd L H) (p : Pull (orA xs ws) L L') {i : Nat} {r : List Int} (e : ws[i]? = some (some r)) : ∃ a, xs[i]? = some (.ref a) ∧ H a = some (.lst (r.map V.int)) := (h.at (up_or xs ws) p).2 i _ e
theorem or_set {xs : List V} {ws : List (Option (List Int))} {L : List SA} {H : Hp} {a : Addr} {r : List Int} {i : Nat} (h : Hd (pto a (.lst (r.map V.int)) :: orA xs ws :: L) H) (hi : i < ws.length) : Hd (orA (xs.set i (.ref a)) (ws.set i (some r)) :: L) H := by
  refine Hd.join (up_pto _ _) (up_or _ _) h fun G z1 z2 => ⟨by simp [z2.1], fun j w e => ?_⟩
  by_cases q : j = i
  · subst q
    rw [List.getElem?_set_self hi] at e
    cases e
    exact ⟨a, List.getElem?_set_self (by rw [z2.1]; exact hi), z1⟩
  · rw [List.getElem?_set_ne (Ne.symm q)] at e
    rw [List.getElem?_set_ne (Ne.symm q)]
    exact z2.2 j w e
theorem or_snoc {xs : List V} {ws : List (Option (List Int))} {L : List SA} {H : Hp} {a : Addr} {r : List Int} (h : Hd (pto a (.lst (r.map V.int)) :: orA xs ws :: L) H) : Hd (orA (xs ++ [.ref a]) (ws ++ [some r]) :: L) H := by
  refine Hd.join (up_pto _ _) (up_or _ _) h fun G z1 z2 => ⟨by simp [z2.1], fun j w e => ?_⟩
  by_cases q : j < ws.length
  · rw [List.getElem?_append_left q] at e
    rw [List.getElem?_append_left (by rw [z2.1]; exact q)]
    exact z2.2 j w e
  · have hj : j < (ws ++ [some r]).length := (List.getElem?_eq_some_iff.mp e).1
    have ej : j = ws.length := by
      rw [List.length_append, List.length_singleton] at hj
      omega
    subst ej
    rw [List.getElem?_append_right (Nat.le_refl _), Nat.sub_self] at e
    cases e
    exact ⟨a, by rw [List.getElem?_append_right (Nat.le_of_eq z2.1), z2.1, Nat.sub_self]; rfl, z1⟩
end Sl

set_option maxRecDepth 100000
set_option maxHeartbeats 1000000
namespace PySem
open Sem (wp)
/-! ### sum(lists, []) -/
section
variable {prog : Program} {w : World} {A : Around} {R : Result → Shared → Prop} {I : Addr} {fp wr : List Addr} {n : Nat} {P : Nat → Value → Prop} {St : Nat → Heap → Prop}
/-- what the lists hold, one behind the other -/
def catTo (cont : Nat → List Value) : Nat → List Value
  | 0 => []
  | i + 1 => catTo cont i ++ cont i
theorem codeAny_sum_loopL (W : Walks prog w A.in1 I fp wr n P St) (hb : Heap) (ads : Nat → Addr) (cont : Nat → List Value) (hval : ∀ i v, P i v → v = .ref (ads i))
    (hcont : ∀ i, i < n → ∃ c, hb.get? (ads i) = some { cls := .type "list", dict := none, data := .seq (cont i).toArray c, slots := #[] }) (hsz : ∀ i, i ≤ n → (catTo cont i).length ≤ sizeLine)
    (S : Addr) (hSf : S ∉ fp) (hSb : hb.objs.size ≤ S) (hwr : ∀ b ∈ wr, hb.objs.size ≤ b) (hwS : ∀ b ∈ wr, b ≤ S) :
    ∀ (k i : Nat) (s : Shared) (tot : Addr) (c ct : Nat), n - i = k → i ≤ n → St i s.heap → (∀ b o, hb.get? b = some o → s.heap.get? b = some o) → s.heap.get? S = some { cls := .type "list", dict := none, data := .seq #[.ref tot] c, slots := #[] } →
    s.heap.get? tot = some { cls := .type "list", dict := none, data := .seq (catTo cont i).toArray ct, slots := #[] } → tot ∉ wr → tot ≠ S →
    (∀ h' tk tot' ct', (∀ b o, hb.get? b = some o → h'.get? b = some o) → h'.get? tot' = some { cls := .type "list", dict := none, data := .seq (catTo cont n).toArray ct', slots := #[] } → ((tot' = tot ∧ i = n) ∨ hb.objs.size ≤ tot') → R (.ok (.ret (.ref tot'))) { s with heap := h', toks := tk }) →
    codeAny (model prog w) A (.builtin "sum.loop" ⟨[.ref I, .ref S, rawInt 2, rawInt 0], []⟩) R s := by
  have hSw : S ∉ wr := fun h => hSf (W.sub _ h)
  have old : ∀ {b : Addr} {o : Obj}, hb.get? b = some o → b < hb.objs.size := fun e => Heap.lt_size e
  intro k
  induction k with
  | zero =>
    intro i s tot c ct hk hi hst hkeep hS hT hTw hTS hR
    have hin : i = n := by omega
    subst hin
    refine codeAny_builtin F.entry_sum_loop ?_
    rw [Around.under_plainId F.plain_sum_loop _]
    show wpAny _ A.in1 (seqItems? (.ref S) >>= _) _ _ s
    refine wpAny_bind (wpAny_seqItems hS rfl ?_)
    show wpAny _ A.in1 (tryCatch (pyNext (.ref I)) _ >>= _) _ _ s
    refine wpAny_bind (wpAny_tryCatch (W.done s _ _ hst fun h' tk hk' => ?_))
    exact wpAny_pure (hR h' tk tot ct (fun b o e => hk' b o (fun m => absurd (hwr b m) (Nat.not_le.mpr (Heap.lt_size e))) (hkeep b o e)) (hk' tot _ hTw hT) (.inl ⟨rfl, rfl⟩))
  | succ k ih =>
    intro i s tot c ct hk hi hst hkeep hS hT hTw hTS hR
    have hlt : i < n := by omega
    refine codeAny_builtin F.entry_sum_loop ?_
    rw [Around.under_plainId F.plain_sum_loop _]
    show wpAny _ A.in1 (seqItems? (.ref S) >>= _) _ _ s
    refine wpAny_bind (wpAny_seqItems hS rfl ?_)
    show wpAny _ A.in1 (tryCatch (pyNext (.ref I)) _ >>= _) _ _ s
    refine wpAny_bind (wpAny_tryCatch (W.item i s _ _ hlt hst fun v h' tk hP hst' hk' => ?_))
    obtain rfl := hval i v hP
    have hS' := hk' S _ hSw hS
    have hT' := hk' tot _ hTw hT
    obtain ⟨cc, hc⟩ := hcont i hlt
    have hC' := hk' _ _ (fun m => absurd (hwr _ m) (Nat.not_le.mpr (Heap.lt_size hc))) (hkeep _ _ hc)
    have hl := hsz (i + 1) hlt
    show wpAny _ A.in1 ((holding [Value.ref (ads i)] (binaryOp .Add (.ref tot) (.ref (ads i)))).attempt >>= _) _ _ _
    refine wpAny_bind (wpAny_attempt (wpAny_holding (PySem.P.add_list hT' hC' ?_ (by
      rw [List.size_toArray, List.size_toArray]
      have e : (catTo cont (i + 1)).length = (catTo cont i).length + (cont i).length := by rw [catTo, List.length_append]
      omega))))
    have ea : (catTo cont i).toArray ++ (cont i).toArray = (catTo cont (i + 1)).toArray := by rw [catTo]; simp
    rw [ea]
    have hSlt : S < h'.objs.size := Heap.lt_size hS'
    have pu : ∀ b o, h'.get? b = some o → (h'.push { cls := .type "list", data := .seq (catTo cont (i + 1)).toArray }).get? b = some o := fun b o e => Heap.get?_push_of_some _ e
    have hS2 := pu _ _ hS'
    have hN : (h'.push { cls := .type "list", data := .seq (catTo cont (i + 1)).toArray }).get? h'.objs.size = some { cls := .type "list", data := .seq (catTo cont (i + 1)).toArray } := Heap.get?_push_size _ rfl
    have neN : S ≠ h'.objs.size := Nat.ne_of_lt hSlt
    show wpAny _ A.in1 (updateSeq S (fun _ => #[.ref h'.objs.size]) >>= _) _ _ _
    refine wpAny_bind ?_
    refine wpAny_updateSeq hS2 rfl ?_
    have hS3 := Heap.get?_update_self (Obj.mapSeq fun _ => #[Value.ref h'.objs.size]) hS2 rfl
    refine wpAny_bind (wpAny_letGo ?_)
    refine wpAny_bind ?_
    have oth : ∀ b o, S ≠ b → h'.get? b = some o → (((h'.push { cls := .type "list", data := .seq (catTo cont (i + 1)).toArray }).update S (Obj.mapSeq fun _ => #[Value.ref h'.objs.size])).update S (Obj.mapSeq fun _ => #[Value.ref h'.objs.size])).get? b = some o := fun b o ne e =>
      (Heap.get?_update_other _ _ ne).trans ((Heap.get?_update_other _ _ ne).trans (pu b o e))
    have kb : ∀ b o, hb.get? b = some o → h'.get? b = some o := fun b o e => hk' b o (fun m => absurd (hwr b m) (Nat.not_le.mpr (Heap.lt_size e))) (hkeep b o e)
    refine wpAny_updateSeq hS3 rfl (wpAny_pure ⟨plainId_quiet F.plain_sum_loop _, ih (i + 1) _ h'.objs.size _ _ (by omega) hlt (W.frame _ _ _ hst' fun b hbf o e => oth b o (fun z => hSf (z ▸ hbf)) e)
      (fun b o e => oth b o (fun z => absurd hSb (Nat.not_le.mpr (z ▸ Heap.lt_size e))) (kb b o e)) (Heap.get?_update_self _ hS3 rfl) ((Heap.get?_update_other _ _ neN).trans ((Heap.get?_update_other _ _ neN).trans hN))
      (fun m => absurd (hwS _ m) (Nat.not_le.mpr hSlt)) (Ne.symm neN) fun h'' tk'' tot' ct' k2 hT2 ho => hR h'' tk'' tot' ct' k2 hT2 (.inr ?_)⟩)
    rcases ho with ⟨z, -⟩ | z
    · rw [z]
      exact Nat.le_trans hSb (Nat.le_of_lt hSlt)
    · exact z
end

section
variable {prog : Program} {w : World} {A : Around} {E : Value → Shared → Prop} {s : Shared}
theorem args_sum2 (a b : Value) : argsOk "sum" ⟨[a, b], []⟩ := by unfold argsOk; kernel_rfl
theorem call_sum_walkL {x : Value} {st : Addr} {cs : Nat} {Q : Value → Shared → Prop} (hst0 : s.heap.get? st = some { cls := .type "list", dict := none, data := .seq #[] cs, slots := #[] })
    (h : wpAny (model prog w) A.in1 (pyIter x) (fun it s₂ => ∃ (fp : List Addr) (n : Nat) (P : Nat → Value → Prop) (St : Nat → Heap → Prop) (ads : Nat → Addr) (cont : Nat → List Value), it = .ref s.heap.objs.size ∧ Walks prog w A.in1 s.heap.objs.size fp [s.heap.objs.size] n P St ∧ St 0 s₂.heap ∧ (∀ b ∈ fp, b < s₂.heap.objs.size) ∧ s.heap.objs.size < s₂.heap.objs.size ∧
      (∀ i v, P i v → v = .ref (ads i)) ∧ (∀ b o, s.heap.get? b = some o → s₂.heap.get? b = some o) ∧
      (∀ i, i < n → ∃ c, s.heap.get? (ads i) = some { cls := .type "list", dict := none, data := .seq (cont i).toArray c, slots := #[] }) ∧ (∀ i, i ≤ n → (catTo cont i).length ≤ sizeLine) ∧
      ∀ h' tk tot' ct', (∀ b o, s.heap.get? b = some o → h'.get? b = some o) → h'.get? tot' = some { cls := .type "list", dict := none, data := .seq (catTo cont n).toArray ct', slots := #[] } → ((tot' = st ∧ 0 = n) ∨ s.heap.objs.size ≤ tot') → Q (.ref tot') { s₂ with heap := h', toks := tk }) E s) :
    wpAny (model prog w) A (call (.builtin "sum") [x, .ref st]) Q E s := by
  refine call_function_tree F.kind_sum F.plain_sum F.entry_sum (args_sum2 _ _) ?_
  unfold Builtin.«sum»
  simp only [List.length_cons, List.length_nil]
  rw [if_neg (by decide)]
  refine wpAny_bind (wpAny_of_eq (show Builtin.Builtins.bindParams "sum" ["start"] 0 { pos := [.ref st] } = pure [some (.ref st)] from rfl) ?_)
  refine wpAny_bind (wpAny_mono h (fun it s₂ h₂ => ?_) fun _ _ e => e)
  obtain ⟨fp, n, P, St, ads, cont, rfl, W, hst, hfp, hI, hval, hkeep, hcont, hsz, hQ⟩ := h₂
  have ty : s₂.TypeIs (.ref st) "list" := ⟨_, hkeep _ _ hst0, rfl⟩
  refine wpAny_bind (wpAny_pure ?_)
  simp only [List.forIn_cons, List.forIn_nil]
  refine wpAny_bind (wpAny_bind (wpAny_bind (wpAny_isInstance (T := "list") (b := false) ty F.sub_list_str ?_)))
  simp only [Bool.false_eq_true, if_false]
  refine wpAny_pure (wpAny_bind (wpAny_bind (wpAny_isInstance (T := "list") (b := false) ty F.sub_list_bytes ?_)))
  simp only [Bool.false_eq_true, if_false]
  refine wpAny_pure (wpAny_bind (wpAny_bind (wpAny_isInstance (T := "list") (b := false) ty F.sub_list_bytearray ?_)))
  simp only [Bool.false_eq_true, if_false]
  refine wpAny_pure (wpAny_pure ?_)
  refine wpAny_bind (wpAny_newObj_type ?_)
  have hSf : s₂.heap.objs.size ∉ fp := fun hm => Nat.lt_irrefl _ (hfp _ hm)
  have hstl := Heap.lt_size hst0
  refine wpAny_pure ⟨plainId_quiet F.plain_sum_loop _, codeAny_sum_loopL W s.heap ads cont hval hcont hsz s₂.heap.objs.size hSf (Nat.le_of_lt hI) (fun b hb => by rw [List.mem_singleton.mp hb]; exact Nat.le_refl _) (fun b hb => by rw [List.mem_singleton.mp hb]; exact Nat.le_of_lt hI)
    n 0 _ st _ cs rfl (Nat.zero_le _) (W.frame _ _ _ hst fun b _ o e => Heap.get?_push_of_some _ e) (fun b o e => Heap.get?_push_of_some _ (hkeep b o e)) (Heap.get?_push_size _ rfl) (Heap.get?_push_of_some _ (hkeep _ _ hst0)) (fun m => absurd (List.mem_singleton.mp m) (Nat.ne_of_lt hstl)) (Nat.ne_of_lt (Nat.lt_trans hstl hI)) fun h' tk tot' ct' k2 hT ho => ?_⟩
  exact hQ h' tk tot' ct' k2 hT ho
end
end PySem
namespace Sl
open PySem L2 PyProof PyProof.Rows
/-- sum(lists, []) of a list or tuple of one or more lists -/
def rSumL (K : PySem.W.Frag) : List V → Hp → VK → Prop := fun xs H Q => ∃ (a st : Addr) (ls : List Addr) (q : List (List V)), xs = [.ref a, .ref st] ∧ (SqL K H a (ls.map V.ref) ∨ SqT K H a (ls.map V.ref)) ∧ H st = some (.lst []) ∧ ls.length = q.length ∧
  (∀ (i : Nat) b r, ls[i]? = some b → q[i]? = some r → H b = some (.lst r)) ∧ q ≠ [] ∧ q.flatten.length ≤ sizeLine ∧ ∀ p, H p = none → Q (.ref p) (upd H p (.lst q.flatten))
def contOf (h : Heap) (ls : List Addr) (i : Nat) : List Value := match ls[i]? with
  | some a => match h.get? a with
    | some o => match o.data with
      | .seq xs _ => xs.toList
      | _ => []
    | none => []
  | none => []
theorem vals_cat {q : List (List V)} {cont : Nat → List Value} (h : ∀ (i : Nat) r, q[i]? = some r → Vals r (cont i)) : ∀ i, i ≤ q.length → Vals (q.take i).flatten (catTo cont i)
  | 0, _ => by
    rw [List.take_zero]
    exact .nil
  | i + 1, hi => by
    have e : q[i]? = some q[i] := by simp [show i < q.length from hi]
    rw [List.take_add_one, e, List.flatten_append, catTo]
    have z := (vals_cat h i (by omega)).append (h i _ e)
    simpa using z
theorem cr_sumL {X : Cx} (hc : X.calm = true) : CallR X (.builtin "sum") (rSumL X.K) := by
  intro pins s σ H xs us Q I r h
  obtain ⟨a, st, ls, q, rfl, hq, hst, hlen, hrow, hne, hsz, qq⟩ := h
  obtain ⟨u, u2, rfl, rx, ry⟩ := vals2 r
  cases rx
  cases ry
  obtain ⟨-, its0, cs, r0, -, e0⟩ := I.lstM hst
  cases r0
  have hcv : ∀ (i : Nat) r, q[i]? = some r → Vals r (contOf s.heap ls i) ∧ ∃ c, s.heap.get? (ls.getD i 0) = some { cls := .type "list", dict := none, data := .seq (contOf s.heap ls i).toArray c, slots := #[] } := fun i r hr => by
    have hi : i < ls.length := by rw [hlen]; exact (List.getElem?_eq_some_iff.mp hr).1
    have hb : ls[i]? = some ls[i] := by simp [hi]
    obtain ⟨-, its, n, rv, -, e⟩ := I.lstM (hrow i _ r hb hr)
    have ec : contOf s.heap ls i = its := by
      unfold contOf
      rw [hb]
      dsimp only
      rw [e]
    rw [ec, List.getD_eq_getElem?_getD, hb]
    exact ⟨rv, n, e⟩
  have vt : ∀ i, i ≤ q.length → Vals (q.take i).flatten (catTo (contOf s.heap ls) i) := vals_cat fun i r hr => (hcv i r hr).1
  have hs2 : ∀ i, i ≤ q.length → (catTo (contOf s.heap ls) i).length ≤ sizeLine := fun i hi => by
    rw [← (vt i hi).length]
    have e : q.flatten = (q.take i).flatten ++ (q.drop i).flatten := by rw [← List.flatten_append, List.take_append_drop]
    rw [e, List.length_append] at hsz
    omega
  have hc2 : ∀ i, i < q.length → ∃ c, s.heap.get? (ls.getD i 0) = some { cls := .type "list", dict := none, data := .seq (contOf s.heap ls i).toArray c, slots := #[] } := fun i hi => (hcv i q[i] (by simp [hi])).2
  have qpos : 0 < q.length := List.length_pos_iff.mpr hne
  have fin : ∀ h' tk tot' ct', (∀ b o, s.heap.get? b = some o → h'.get? b = some o) → h'.get? tot' = some { cls := .type "list", dict := none, data := .seq (catTo (contOf s.heap ls) q.length).toArray ct', slots := #[] } → ((tot' = st ∧ 0 = q.length) ∨ s.heap.objs.size ≤ tot') → EP X pins σ Q (.ref tot') { s with heap := h', toks := tk } := fun h' tk tot' ct' k hT ho => by
    have ho : s.heap.objs.size ≤ tot' := ho.elim (fun z => by omega) id
    have hv := vt q.length (Nat.le_refl _)
    rw [List.take_length] at hv
    exact ⟨.ref tot', upd H tot' (.lst q.flatten), I.laid (t' := tk) k ho (show ObjOk X.prog X.w _ _ _ (.lst q.flatten) from ⟨hsz, _, ct', hv, hT⟩), rfl, qq _ (I.hok.fresh ho)⟩
  have items : ∀ (i : Nat) (v : Value), (ls.map Value.ref).toArray[i]? = some v → v = .ref (ls.getD i 0) := fun i v e => by
    rw [List.getElem?_toArray, List.getElem?_map] at e
    obtain ⟨b, hb, rfl⟩ := Option.map_eq_some_iff.mp e
    rw [List.getD_eq_getElem?_getD, hb]
    rfl
  have hn : (ls.map Value.ref).toArray.size = q.length := by rw [List.size_toArray, List.length_map, hlen]
  rcases hq with hq | hq
  · obtain ⟨its, rv, pl, hz⟩ := I.list hq
    have ei := refs_at rv
    subst ei
    have il := pl.isList
    have hlt : a < s.heap.objs.size := by obtain ⟨_, e, _⟩ := il; exact Heap.lt_size e
    refine call_sum_walkL e0 (wpAny_pyIter_list il ?_)
    refine ⟨_, _, _, _, fun i => ls.getD i 0, contOf s.heap ls, rfl, Walks.list (A := X.A.in1) (I.ok.hd hc) _ a (Nat.ne_of_lt hlt) (ls.map Value.ref).toArray, ⟨⟨_, Heap.get?_push_size _ rfl, rfl, rfl⟩, il.push _⟩, fun b hb => ?_, ?_, items, fun b o e => Heap.get?_push_of_some _ e, ?_, ?_, ?_⟩
    · show b < (s.heap.push _).objs.size
      rw [Heap.size_push]
      rcases List.mem_cons.mp hb with rfl | hb
      · exact Nat.lt_succ_self _
      · rw [List.mem_singleton.mp hb]
        exact Nat.lt_succ_of_lt hlt
    · show _ < (s.heap.push _).objs.size
      rw [Heap.size_push]
      exact Nat.lt_succ_self _
    · rw [hn]
      exact hc2
    · rw [hn]
      exact hs2
    · rw [hn]
      exact fin
  · obtain ⟨its, rv, pl, hz⟩ := I.tuple hq
    have ei := refs_at rv
    subst ei
    have hlt : a < s.heap.objs.size := by obtain ⟨_, e, _⟩ := id pl; exact Heap.lt_size e
    refine call_sum_walkL e0 (wpAny_pyIter_tuple (show s.heap.IsTuple a (ls.map Value.ref).toArray from pl) ?_)
    refine ⟨_, _, _, _, fun i => ls.getD i 0, contOf s.heap ls, rfl, Walks.tuple (A := X.A.in1) (I.ok.hd hc) _ a (Nat.ne_of_lt hlt) (ls.map Value.ref).toArray, ⟨⟨_, Heap.get?_push_size _ rfl, rfl, rfl⟩, ?_⟩, fun b hb => ?_, ?_, items, fun b o e => Heap.get?_push_of_some _ e, ?_, ?_, ?_⟩
    · obtain ⟨o, e, z⟩ := id pl
      exact ⟨o, Heap.get?_push_of_some _ e, z⟩
    · show b < (s.heap.push _).objs.size
      rw [Heap.size_push]
      rcases List.mem_cons.mp hb with rfl | hb
      · exact Nat.lt_succ_self _
      · rw [List.mem_singleton.mp hb]
        exact Nat.lt_succ_of_lt hlt
    · show _ < (s.heap.push _).objs.size
      rw [Heap.size_push]
      exact Nat.lt_succ_self _
    · rw [hn]
      exact hc2
    · rw [hn]
      exact hs2
    · rw [hn]
      exact fin
theorem k_sumL {X : Cx} {K : PySem.W.Frag} (h : X.K = K) (hc : X.calm = true) : CallR X (.builtin "sum") (rSumL K) := h ▸ cr_sumL hc
end Sl

set_option maxRecDepth 100000
set_option maxHeartbeats 1000000
namespace Sl
open PySem L2
theorem flat_rows (q : List (List Int)) : (rowsV q).flatten = q.flatten.map V.int := by
  unfold rowsV
  rw [List.map_flatten]
theorem r_sumL {K : PySem.W.Frag} {H : Hp} {Q : VK} {a st : Addr} {ls : List Addr} {q : List (List Int)} {L L1 L2 : List SA} (hs : Hd L H) (h : SqL K H a (ls.map V.ref) ∨ SqT K H a (ls.map V.ref)) (p1 : Pull (pto st (.lst [])) L L1) (p2 : Pull (rowsA ls (rowsV q)) L L2) (hne : q ≠ []) (hsz : q.flatten.length ≤ 100000)
    (qq : ∀ p H', Hd (pto p (.lst (q.flatten.map V.int)) :: L) H' → Q (.ref p) H') : rSumL K [.ref a, .ref st] H Q := by
  refine ⟨a, st, ls, rowsV q, rfl, h, hs.get p1, rows_len hs p2, fun i b r h1 h2 => rows_get hs p2 h1 h2, fun e => hne ?_, ?_, fun p n => ?_⟩
  · unfold rowsV at e
    simpa using e
  · rw [flat_rows, List.length_map]
    exact sz hsz
  · rw [flat_rows]
    exact qq p _ (hs.new n)
end Sl

set_option maxRecDepth 100000
set_option maxHeartbeats 1000000
namespace Sl
open PySem L2
theorem filter_out {n : Int} : ∀ {r : List Int}, n ∉ r → r.filter (fun x => !decide (x = n)) = r
  | [], _ => rfl
  | a :: r, h => by
    have ha : a ≠ n := fun e => h (e ▸ List.mem_cons_self)
    rw [List.filter_cons, if_pos (by simp [ha]), filter_out fun m => h (List.mem_cons_of_mem _ m)]
theorem erase_filter {n : Int} : ∀ {r : List Int}, r.Nodup → r.erase n = r.filter (fun x => !decide (x = n))
  | [], _ => rfl
  | a :: r, h => by
    have hc := List.nodup_cons.mp h
    by_cases e : a = n
    · subst e
      rw [List.erase_cons_head, List.filter_cons, if_neg (by simp), filter_out hc.1]
    · rw [List.erase_cons_tail (by simpa using e), List.filter_cons, if_pos (by simp [e]), erase_filter hc.2]
theorem fl_filter {n : Int} : ∀ {q : List (List Int)} {l : Nat} {r : List Int}, q.flatten.Nodup → q[l]? = some r → n ∈ r → (q.set l (r.erase n)).flatten = q.flatten.filter (fun x => !decide (x = n))
  | [], _, _, _, h, _ => by simp at h
  | a :: q, 0, r, nd, h, m => by
    have e : a = r := Option.some.inj h
    subst e
    rw [List.flatten_cons] at nd
    have z := List.nodup_append.mp nd
    rw [List.set_cons_zero, List.flatten_cons, List.flatten_cons, List.filter_append, erase_filter z.1, filter_out (r := q.flatten) fun m2 => z.2.2 n m n m2 rfl]
  | a :: q, l + 1, r, nd, h, m => by
    rw [List.flatten_cons] at nd
    have z := List.nodup_append.mp nd
    have hm : n ∈ q.flatten := mem_fl (q := q) (l := l) h m
    rw [List.set_cons_succ, List.flatten_cons, List.flatten_cons, List.filter_append, fl_filter (q := q) (l := l) z.2.1 h m, filter_out (r := a) fun m2 => z.2.2 n m2 n hm rfl]
end Sl

set_option maxRecDepth 100000
set_option maxHeartbeats 1000000
namespace Sl
open PySem L2 PySem.Spec PyProof.Rows
/-! ### defs that are called while no text of an object is under way (then repr of lists is known) -/
structure FnG (P : Program) (w : World) (K : PySem.W.Frag) (mg : Str → Option Value) (base : Heap) (C : CXT) (k : Nat) (f : Addr) (fd : FuncData) (ps : List Str) (sp : Sp) : Prop where
  lenG : ∀ xs G R F, sp xs G R F → xs.length = ps.length
  runG : ∀ (B : Around) (out : List Env) (z : Shared) (G : Hp) (ar : Args) (ws : List Value) (xs : List V) (R : VK) (F : XK), B.guards = some [] → Room k B →
    Env0 P w K mg base B out z G → BindsTo z fd ar (ps.zip ws) → Vals xs ws → sp xs G R F → codeAny (model P w) B (.call (.ref f) ar) (CR C out P w G z R F) z
theorem FnG.of {P : Program} {w : World} {K : PySem.W.Frag} {mg : Str → Option Value} {base : Heap} {C : CXT} {k : Nat} {f : Addr} {fd : FuncData} {ps : List Str} {sp : Sp} (F : FnOk P w K mg base C k f fd ps sp) : FnG P w K mg base C k f fd ps sp :=
  ⟨F.len, fun B out z G ar ws xs R E _ hr => F.run B out z G ar ws xs R E hr⟩
section
variable {X : Cx} {C : CXT} {k : Nat} {f : Addr} {fd : FuncData} {ps : List Str} {sp : Sp} {dvs : List V} {ds : List Value} {E : XK} {x : Str} {p pos : Pos} {e : Expr} {es : List Expr} {t : TA}
theorem runs_g {pn : List (Addr × Obj)} {τ : L2.St} {G : Hp} {z : Shared} {R : VK} {ws : List Value} {xs : List V} (F : FnG X.prog X.w X.K X.mg X.base C k f fd ps sp) (gd : X.A.guards = some []) (hr : Room k X.A) (bd : Binds X.K fd ps ds) (dv : Vals dvs ds) (ex : Passes C X E)
    (J : L2.Inv X pn τ G z) (rv : Vals xs ws) (q : sp (xs ++ dvs) G R E) : wpAny (model X.prog X.w) X.A (call (.ref f) ws) (EP X pn τ R) X.xe z := by
  have rv2 := rv.append dv
  have hl : (ws ++ ds).length = ps.length := rv2.length.symm.trans (F.lenG _ _ _ _ q)
  have run := F.runG X.A X.stack z G ⟨ws, []⟩ (ws ++ ds) (xs ++ dvs) R E gd hr J.env0 (bd z ws J.kIn hl) rv2 q
  refine wpAny_call (codeAny_mono run ?_)
  intro out z2 done
  match out, done with
  | .error er, done => exact ex pn τ G z er z2 J done
  | .ok (.ret u), done => exact J.after done
theorem pe_callG (F : FnG X.prog X.w X.K X.mg X.base C k f fd ps sp) (gd : X.A.guards = some []) (hr : Room k X.A) (gl : Gl X x) (at_ : X.mg x = some (.ref f)) (kp : PySem.W.keepIn X.K (.ref f) = true) (bd : Binds X.K fd ps ds) (dv : Vals dvs ds) (ex : Passes C X E)
    (as_ : PA X (e :: es) t) (ndb : (x == ("__debug__" : Str)) = false := by decide) (st : starEach (e :: es) X.env = (false, eval e X.env) :: starEach es X.env := by rfl) (np : (backTo pos (starEach es X.env)).any (·.1) = false := by rfl) :
    PE X (.Call (.Name x p) (e :: es) [] pos) (tCall sp dvs E t) :=
  ⟨fun pn z τ G R J q => wpAny_Call_Name_kw (ld_glob J gl at_
    (PySem.W.callWith_K (h₀ := X.base) J.ok.mod.kin kp (thn (as_.run pos pn z τ G _ J q) fun _ _ ⟨_, _, J2, rv, q2⟩ => ⟨J2.kIn, runs_g F gd hr bd dv ex J2 rv q2⟩) st np) ndb)⟩
theorem pe_callG0 (F : FnG X.prog X.w X.K X.mg X.base C k f fd ps sp) (gd : X.A.guards = some []) (hr : Room k X.A) (gl : Gl X x) (at_ : X.mg x = some (.ref f)) (kp : PySem.W.keepIn X.K (.ref f) = true) (bd : Binds X.K fd ps ds) (dv : Vals dvs ds) (ex : Passes C X E)
    (ndb : (x == ("__debug__" : Str)) = false := by decide) : PE X (.Call (.Name x p) [] [] pos) (tCall sp dvs E tNil) :=
  ⟨fun _ _ _ _ _ J q => wpAny_Call_Name_kw (ld_glob J gl at_ (PySem.W.callWith_K0 J.kIn kp (runs_g (ws := []) F gd hr bd dv ex J .nil q)) ndb)⟩
/-! #### repr -/
def rRepr (K : PySem.W.Frag) : List V → Hp → VK → Prop := fun xs H Q => (∃ i, xs = [.int i] ∧ i.natAbs.log2 < 1920 ∧ Q (.str (toString i)) H) ∨
  (xs = [.non] ∧ Q (.str "None") H) ∨ ∃ a d, xs = [.ref a] ∧ Dp K H (.ref a) d ∧ SeqAt.shaped d = true ∧ d.showable = true ∧ d.shown.length ≤ sizeLine ∧ Q (.str d.shown) H
theorem u_repr (gd : X.A.guards = some []) (hu : X.A.units + 66 < cLine) : CallR X (.builtin "repr") (rRepr X.K) := by
  intro pn z τ G xs ws R J rv q
  rcases q with ⟨i, rfl, hi, q⟩ | ⟨rfl, q⟩ | ⟨a, d, rfl, hd, sd, sh, hl, q⟩
  · obtain ⟨u, rfl, t, rfl⟩ := vals1 rv
    exact PySem.P.repr_of_int hi ⟨.str _, G, J.tok _, ⟨_, rfl⟩, q⟩
  · obtain ⟨u, rfl, r2⟩ := vals1 rv
    obtain rfl : u = Value.none := r2
    exact PySem.P.repr_of_none ⟨.str _, G, J.tok _, ⟨_, rfl⟩, q⟩
  · obtain ⟨u, rfl, r⟩ := vals1 rv
    obtain rfl : u = Value.ref a := r
    obtain ⟨as_, rd⟩ := Dp.reads J d (.ref a) (.ref a) hd rfl
    have dp := SeqAt.depth_of_shaped sd
    have hy : d.hasDict = false := PyData.hasDict_of_canLay _ (SeqAt.canLay_of_shaped sd)
    exact repr_of_reads' rd sh (PyData.noDict_hsm hy) gd (by omega) (fun _ _ e => e) (fun h2 u tk kp => ⟨.str _, G, J.kept kp, ⟨_, rfl⟩, q⟩) hl
theorem k_repr {K : PySem.W.Frag} (e : X.K = K) (gd : X.A.guards = some []) (hu : X.A.units + 66 < cLine) : CallR X (.builtin "repr") (rRepr K) := e ▸ u_repr gd hu
end
/-! #### the walk of a def -/
theorem okG {P : Program} {w : World} {K : PySem.W.Frag} {mg : Str → Option Value} {base : Heap} {x qual : Str} {st : Stmt} {f : Addr} {fd : FuncData} {N ps : List Str} {k : Nat} {sp : Sp} (F : Fun K x qual st f fd) (S : FnScope N ps (defScope st)) (len : ∀ xs G R E, sp xs G R E → xs.length = ps.length)
    (walk : ∀ (cv : Value) (B : Around) (out : List Env) (z : Shared) (G : Hp) (xs : List V) (R : VK) (E : XK), (B.deeper (envOfC qual (defScope st) z.heap.objs.size f cv)).guards = some [] → Room k (B.deeper (envOfC qual (defScope st) z.heap.objs.size f cv)) → sp xs G R E →
      ∃ t, PSs (cxOf CX0 P w K mg base N qual (defScope st) f cv B out z G E).nox (defBody st) t ∧ t { nx := fun _ G' => R .non G', rt := R } (start N xs) G) : FnG P w K mg base CX0 (k + 1) f fd ps sp := by
  obtain ⟨oc, od, kV, doc, pm, an, cv, ct, osl, rfl, lk, hcd⟩ := F.ex
  constructor
  · exact len
  intro B out z G ar ws xs R E gd hr e0 bd rv q
  have ll := len xs G R E q
  have kz : K.In z.heap := e0.mod.kin.keeps fun b o e => (e0.bs b o e).1
  have lm : z.heap.NoLimit := e0.mod.nolimit.keeps fun b o e => (e0.bs b o e).1
  have knd : ∀ y ∈ ps.zip ws, (defScope st).names.lookup y.1 = some .local ∨ ((defScope st).names.lookup y.1 = some .cell ∧ ((cellsFrom (z.heap.objs.size + 1) (defScope st).names []).lookup y.1).isSome = true) := by
    intro y hy
    obtain ⟨n, v⟩ := y
    cases S.par n (List.of_mem_zip hy).1 with
    | inl q => exact Or.inl q
    | inr q => exact Or.inr ⟨q, PySem.W.cellsFrom_some _ _ _ (Or.inl q)⟩
  apply codeAny_call_function hr.depth (kz _ _ lk) rfl S.co S.gen rfl (PySem.W.codeRec_of kz hcd) (bd _ _ _ _ ?_)
  apply wpAny_newFunctionEnv_cells S.kind knd
  intro env he z1 mk
  subst he
  refine ⟨lm.keeps mk.toInCall.keep, codeAny_func ?_⟩
  obtain ⟨t, ht, tq⟩ := walk cv B out z G xs R E gd (hr.deeper _) q
  have J := inv_start (CX := CX0) (E := E) S hr.hd e0 ll rv mk
  refine wpAny_mono (ht.nox.run [] z1 (start N xs) G _ J tq) ?_ (fun _ _ hs => hs)
  intro fl z2 hs
  match fl, hs with
  | .ret u, ⟨v, τ, G2, J2, rv2, q2⟩ => exact ⟨v, G2, J2.os, J2.bare, J2.base, J2.hok, rv2, q2⟩
  | .next, ⟨τ, G2, J2, q2⟩ => exact ⟨V.non, G2, J2.os, J2.bare, J2.base, J2.hok, rfl, q2⟩
  | .brk, ⟨_, _, _, q2⟩ => exact False.elim q2
  | .cont, ⟨_, _, _, q2⟩ => exact False.elim q2
/-! #### the law's own call -/
theorem lawG {P : Program} {w : World} {K : PySem.W.Frag} {mg mb : Str → Option Value} {k : Nat} {fa a : Addr} {fd : FuncData} {x : Str} {sp : Sp} {z : Shared} {us : List Value} {ns : List Int}
    (kz : K.In z.heap) (gns : z.heap.Ns mainGlobals mg) (bns : z.heap.Ns builtinsNs mb) (bt : ∀ y : Str, y ≠ "__name__" → mb y = bootBuiltins y) (lm : z.heap.NoLimit) (g0 : z.gens = #[])
    (at_ : z.heap.get? a = some { cls := .type "list", data := .seq us.toArray }) (ia : IntsAre us ns) (few : ns.length ≤ sizeLine) (room : Room k callerA)
    (F : ∀ base : Heap, K.In base → base.Ns mainGlobals mg → FnG P w K mg base CX0 k fa fd [x] sp) (bd : ∀ (s : Shared) (u : Value), BindsTo s fd ⟨[u], []⟩ [(x, u)])
    (start : ∀ G : Hp, Only G → SqL K G a (ns.map V.int) → sp [.ref a] G (fun v _ => v = .bl true) fun _ _ _ => False) :
    codeAny (model P w) callerA (.call (.ref fa) ⟨[.ref a], []⟩) (fun r s' => r = .ok (.ret (.bool true)) ∧ OldK z.heap s'.heap ∧ s'.os = z.os ∧ AllBare s'.gens) z := by
  have rv := vals_ints ia
  have cnt := ia.length
  have main : ∀ G : Hp, Only G → SqL K G a (ns.map V.int) → HOk P w G z.heap → (∀ b, G b ≠ none → b = a) → (G a ≠ none → K.lookup a = none) →
      codeAny (model P w) callerA (.call (.ref fa) ⟨[.ref a], []⟩) (fun r s' => r = .ok (.ret (.bool true)) ∧ OldK z.heap s'.heap ∧ s'.os = z.os ∧ AllBare s'.gens) z := by
    intro G only sq ok own free
    have low : ∀ {b : Addr} {o : Obj}, z.heap.get? b = some o → G b = none → (hidT z.heap G).get? b = some o := fun e n => hidT_get e n
    have noDict : ∀ {b : Addr} {o : Obj} {es : Array DictEntry} {ep : Nat}, z.heap.get? b = some o → o.data = .dict es ep → G b = none := by
      intro b o es ep e d
      apply Classical.byContradiction
      intro q
      cases own b q
      rw [at_] at e
      cases e
      cases d
    have low2 : ∀ {ad : Addr} {m : Str → Option Value}, z.heap.Ns ad m → (hidT z.heap G).Ns ad m := fun hm => by
      obtain ⟨o, es, ep, e, d, r⟩ := hm
      exact ⟨o, es, ep, low e (noDict e d), d, r⟩
    have kb : K.In (hidT z.heap G) := by
      intro b o e
      refine low (kz b o e) (Classical.byContradiction fun q => ?_)
      cases own b q
      rw [free q] at e
      cases e
    have md : Mod K mg (hidT z.heap G) := ⟨kb, low2 gns, ⟨mb, low2 bns, bt⟩, let ⟨mc, h1, h2⟩ := lm; ⟨mc, low2 h1, h2⟩⟩
    have e0 : Env0 P w K mg (hidT z.heap G) callerA [] z G :=
      ⟨rfl, md, fun _ _ e => of_hidT e, Nat.le_of_eq (hidT_size _ _), trivial, fun b hb => (nomatch (show b ∈ ([] : List Addr) from hb)), ok, .of_eq g0⟩
    have run := (F _ kb (low2 gns)).runG callerA [] z G ⟨[.ref a], []⟩ [.ref a] [.ref a] _ _ rfl room e0 (bd z (.ref a)) (.cons rfl .nil) (start G only sq)
    refine codeAny_mono run ?_
    intro r s2 done
    match r, done with
    | .error e, done => exact (show False from done).elim
    | .ok (.ret u), ⟨v, G2, os, bare, un, ok2, rv2, q⟩ =>
      cases (show v = .bl true from q)
      cases (show u = Value.bool true from rv2)
      refine ⟨rfl, OldK.of_keep ?_, os, bare⟩
      intro b o e
      cases q : G b with
      | none => exact un.keep b o e q (fun i => nomatch (show b ∈ ([] : List Addr) from i)) (by simp)
      | some u =>
        cases only b with
        | inl n => rw [q] at n; cases n
        | inr n =>
          obtain ⟨ob, xs, n⟩ := n
          have n2 := un.frzs b ob _ n
          obtain ⟨e1, _⟩ := ok b _ n
          obtain ⟨e2, _⟩ := ok2 b _ n2
          rw [e] at e1
          cases e1
          exact e2
  cases hk : K.lookup a with
  | some o =>
    have e := kz a o hk
    rw [at_] at e
    cases e
    exact main (fun _ => none) (fun _ => .inl rfl) (.inr ⟨_, us.toArray, _, hk, rfl, rfl, rfl, by rw [List.size_toArray, cnt]; exact few, by simpa using rv⟩) (fun b u q => nomatch (show (none : Option HO) = some u from q)) (fun b q => absurd rfl q) fun q => absurd rfl q
  | none =>
    have at1 : ∀ b u, (if b = a then some (HO.frz { cls := .type "list", data := .seq us.toArray } (.lst (ns.map V.int))) else none) = some u → b = a ∧ u = .frz { cls := .type "list", data := .seq us.toArray } (.lst (ns.map V.int)) := by
      intro b u q
      split at q
      · rename_i e
        exact ⟨e, (Option.some.inj q).symm⟩
      · cases q
    refine main (fun b => if b = a then some (.frz { cls := .type "list", data := .seq us.toArray } (.lst (ns.map V.int))) else none) ?_ (.inl (.inr ⟨{ cls := .type "list", data := .seq us.toArray }, if_pos rfl⟩)) ?_ ?_ fun _ => hk
    · intro b
      by_cases e : b = a
      · exact .inr ⟨_, _, if_pos e⟩
      · exact .inl (if_neg e)
    · intro b u q
      obtain ⟨rfl, rfl⟩ := at1 b u q
      exact ⟨at_, by rw [List.length_map]; exact few, us, _, rv, at_⟩
    · intro b q
      apply Classical.byContradiction
      intro e
      exact q (if_neg e)
theorem walkG {l : PySem.W.OpenLaw} {n k : Nat} {q : Program} {loose : List Str} {XP : (Str → Option Value) → Heap → Prop} {YP : World → Heap → Prop} {d : DefRec} {K : Params → PySem.W.Frag} {sp : PySem.W.Frag → Sp} {x : Str}
    (most : l.most = some n) (le : n ≤ sizeLine) (nod : d.params.defaults = []) (room : Room k callerA) (y : ∀ (w : World) (h : Heap), YP w h → (K w.params).In h)
    (F : ∀ (w : World) (mg : Str → Option Value) (fa : Addr) (h : Heap), (K w.params).In h → h.Ns mainGlobals mg → mg d.name = some (.ref fa) →
      ∃ fd : FuncData, (∀ (s : Shared) (u : Value), BindsTo s fd ⟨[u], []⟩ [(x, u)]) ∧ ∀ base : Heap, (K w.params).In base → base.Ns mainGlobals mg → FnG l.prog w (K w.params) mg base CX0 k fa fd [x] (sp (K w.params)))
    (go : ∀ (K : PySem.W.Frag) (G : Hp) (a : Addr) (ns : List Int), ns.length ≤ n → Only G → SqL K G a (ns.map V.int) → sp K [.ref a] G (fun v _ => v = .bl true) fun _ _ _ => False) :
    PySem.W.WalkO q loose XP YP l.row.toRowW d [] (fun f vs => PySem.call f vs) :=
  Att.attach_call most nod fun w _ z mg _ fa _ _ _ _ a _ ns G Y _ _ _ at_ ob ia few g0 =>
    have ⟨_, bd, F2⟩ := F w mg fa _ (y w _ Y) G.T.g at_
    lawG (y w _ Y) G.T.g G.T.b G.T.builtins G.T.nolimit g0 ob ia (Nat.le_trans few le) room F2 bd fun H o s => go _ H a ns few o s
end Sl

set_option maxRecDepth 100000
set_option maxHeartbeats 1000000
namespace Sl
open PySem L2
/-! ### turns of which few steps are done (no lift) -/
theorem counted_no {u : TU} (h0 : 0 ≤ u.steps) (h : u.steps < 62) : u.counted = { u with steps := u.steps + 1 } := if_pos (by omega)
structure W34 (u : TU) (ws : List Int) (last : Int) (cnt st : Nat) : Prop where
  ok : u.Ok
  nd : (u.q.flatten ++ ws).Nodup
  le : ∀ x ∈ u.q.flatten ++ ws, x ≤ last
  wd : ∀ x ∈ ws, ∃ l : Nat, l < 4 ∧ getI u.dep x = some (l : Int)
  few : u.q.flatten.length + ws.length ≤ cnt
  dp : u.dep.length ≤ cnt
  s0 : 0 ≤ u.steps
  st : u.steps ≤ (st : Int)
section
variable {u : TU} {ws : List Int} {last : Int} {cnt st : Nat} {n : Int}
theorem W34.new : W34 TU.new [] 0 0 0 := by
  refine ⟨⟨rfl, fun l r n e m => ?_, fun n l e => (nomatch e), fun n e => (nomatch e), (by decide : ([[], [], [], []] : List (List Int)).flatten.Nodup)⟩, by decide, fun x hx => (nomatch hx), fun x hx => (nomatch hx), by decide, by decide, by decide, by decide⟩
  have e : ([[], [], [], []] : List (List Int))[l]? = some r := e
  have hl : l < 4 := (List.getElem?_eq_some_iff.mp e).1
  have el : l = 0 ∨ l = 1 ∨ l = 2 ∨ l = 3 := by omega
  rcases el with rfl | rfl | rfl | rfl <;> (cases e; cases m)
theorem W34.more {last' : Int} {cnt' st' : Nat} (w : W34 u ws last cnt st) (a : last ≤ last') (b : cnt ≤ cnt') (c : st ≤ st') : W34 u ws last' cnt' st' :=
  ⟨w.ok, w.nd, fun x hx => Int.le_trans (w.le x hx) a, w.wd, Nat.le_trans w.few b, Nat.le_trans w.dp b, w.s0, by have := w.st; omega⟩
theorem W34.next (w : W34 u ws last cnt st) : W34 u.next ws last cnt st := by
  obtain ⟨e1, e2, e3⟩ := next_same u
  exact ⟨w.ok.next, by rw [e1]; exact w.nd, by rw [e1]; exact w.le, by rw [e2]; exact w.wd, by rw [e1]; exact w.few, by rw [e2]; exact w.dp, by rw [e3]; exact w.s0, by rw [e3]; exact w.st⟩
theorem next_runs (o : u.Ok) (ne : u.q.flatten ≠ []) : ∃ h, u.next.runs = some h := by
  unfold TU.next
  cases hr : u.runs with
  | some h => exact ⟨h, hr⟩
  | none =>
    cases hh : u.q.flatten.head? with
    | none => exact (ne (List.head?_eq_none_iff.mp hh)).elim
    | some n => exact ⟨n, rfl⟩
theorem getI_put_self (d : List (Int × Int)) (n l : Int) : getI (putI d n l) n = some l := by rw [getI_put, if_pos rfl]
/-- one stands -/
theorem W34.stand (w : W34 u ws last cnt st) {l : Nat} (hl : l < 4) (hn : last < n) : W34 (u.stand n l) ws n (cnt + 1) st := by
  have no : n ∉ u.q.flatten := fun m => by have := w.le n (List.mem_append_left _ m); omega
  have now : n ∉ ws := fun m => by have := w.le n (List.mem_append_right _ m); omega
  have pm := pm_stand (u := u) (n := n) (l := l) (by rw [w.ok.four]; exact hl)
  have pm2 : ((u.stand n l).q.flatten ++ ws).Perm (n :: (u.q.flatten ++ ws)) := List.Perm.append_right ws pm
  refine ⟨w.ok.stand hl no, (List.Perm.nodup_iff pm2).mpr (List.nodup_cons.mpr ⟨fun m => (List.mem_append.mp m).elim no now, w.nd⟩), fun x hx => ?_, fun x hx => ?_, ?_, ?_, w.s0, w.st⟩
  · rcases List.mem_cons.mp (pm2.subset hx) with e | e
    · omega
    · have := w.le x e; omega
  · obtain ⟨k, hk, e⟩ := w.wd x hx
    refine ⟨k, hk, ?_⟩
    show getI (putI u.dep n _) x = _
    rw [getI_put, if_neg (fun e2 : x = n => now (by rw [← e2]; exact hx))]
    exact e
  · have := pm.length_eq
    rw [List.length_cons] at this
    have := w.few
    omega
  · have := len_putI u.dep n (l : Int)
    have := w.dp
    exact Nat.le_trans (len_putI u.dep n (l : Int)) (by omega)
/-- one that waits stands again -/
theorem W34.wake (w : W34 u ws last cnt st) {l : Nat} (hn : n ∈ ws) (hg : getI u.dep n = some (l : Int)) : W34 (u.stand n l) (ws.erase n) last cnt st := by
  have hl := w.ok.lv n _ hg
  have nd := List.nodup_append.mp w.nd
  have no : n ∉ u.q.flatten := fun m => nd.2.2 n m n hn rfl
  have pm := pm_stand (u := u) (n := n) (l := l) (by rw [w.ok.four]; omega)
  have pk : (n :: ws.erase n).Perm ws := (List.perm_cons_erase hn).symm
  have pm2 : ((u.stand n l).q.flatten ++ ws.erase n).Perm (u.q.flatten ++ ws) := (List.Perm.append_right _ pm).trans ((List.perm_middle.symm).trans (List.Perm.append_left _ pk))
  refine ⟨w.ok.stand (by omega) no, (List.Perm.nodup_iff pm2).mpr w.nd, fun x hx => w.le x (pm2.subset hx), fun x hx => ?_, ?_, ?_, w.s0, w.st⟩
  · obtain ⟨k, hk, e⟩ := w.wd x (List.mem_of_mem_erase hx)
    refine ⟨k, hk, ?_⟩
    show getI (putI u.dep n _) x = _
    rw [getI_put]
    split
    · rename_i e2
      subst e2
      rw [hg] at e
      exact e
    · exact e
  · have := pm2.length_eq
    rw [List.length_append, List.length_append] at this
    have := w.few
    omega
  · show (putI u.dep n _).length ≤ _
    rw [getI_old hg]
    exact w.dp
theorem W34.wait (w : W34 u ws last cnt st) (hr : u.runs = some n) (hs : st < 62) : W34 (u.waitN n).counted (ws ++ [n]) last cnt (st + 1) := by
  obtain ⟨o, pm, no, dp⟩ := wait_fl w.ok hr
  have hst : (u.waitN n).steps = u.steps := rfl
  have e := counted_no (u := u.waitN n) (by rw [hst]; exact w.s0) (by rw [hst]; have := w.st; omega)
  obtain ⟨l, r, hg, _, m, hl⟩ := lev_of w.ok (w.ok.run n hr).1
  have pm2 : ((u.waitN n).q.flatten ++ (ws ++ [n])).Perm (u.q.flatten ++ ws) := by
    rw [← List.append_assoc]
    exact (List.perm_append_comm.trans (List.Perm.append_right ws pm))
  have fl := fl_counted (u.waitN n)
  refine ⟨o.counted, by rw [fl]; exact (List.Perm.nodup_iff pm2).mpr w.nd, fun x hx => w.le x (pm2.subset (by rw [fl] at hx; exact hx)), fun x hx => ?_, ?_, ?_, ?_, ?_⟩
  · rw [e]
    show ∃ l : Nat, l < 4 ∧ getI (u.waitN n).dep x = some (l : Int)
    rw [dp]
    rcases List.mem_append.mp hx with hx | hx
    · exact w.wd x hx
    · rw [List.mem_singleton.mp hx]
      exact ⟨l, hl, hg⟩
  · rw [fl]
    have := pm2.length_eq
    rw [List.length_append] at this
    rw [this, List.length_append]
    exact w.few
  · exact Nat.le_trans (dp_counted _) (by rw [dp]; exact w.dp)
  · rw [e]
    show 0 ≤ u.steps + 1
    have := w.s0
    omega
  · rw [e]
    show u.steps + 1 ≤ _
    have := w.st
    omega
theorem W34.step (w : W34 u ws last cnt st) (hs : st < 62) {v : TU} (o : v.Ok) (pm : v.q.flatten.Perm u.q.flatten) (dl : v.dep.length = u.dep.length) (ds : ∀ x l, getI u.dep x = some l → ∃ l', getI v.dep x = some l') (es : v.steps = u.steps) : W34 v.counted ws last cnt (st + 1) := by
  have e := counted_no (u := v) (by rw [es]; exact w.s0) (by rw [es]; have := w.st; omega)
  have pm2 : (v.q.flatten ++ ws).Perm (u.q.flatten ++ ws) := List.Perm.append_right ws pm
  have fl := fl_counted v
  refine ⟨o.counted, by rw [fl]; exact (List.Perm.nodup_iff pm2).mpr w.nd, fun x hx => w.le x (pm2.subset (by rw [fl] at hx; exact hx)), fun x hx => ?_, ?_, ?_, ?_, ?_⟩
  · obtain ⟨l, hl, hg⟩ := w.wd x hx
    obtain ⟨l', hg'⟩ := ds x _ hg
    have := o.lv x l' hg'
    rw [e]
    exact ⟨l'.toNat, by omega, by show getI v.dep x = _; rw [hg']; congr 1; omega⟩
  · rw [fl, pm.length_eq]
    exact w.few
  · exact Nat.le_trans (dp_counted _) (by rw [dl]; exact w.dp)
  · rw [e]
    show 0 ≤ v.steps + 1
    rw [es]
    have := w.s0
    omega
  · rw [e]
    show v.steps + 1 ≤ _
    rw [es]
    have := w.st
    omega
theorem went_steps (u : TU) (n : Int) : (u.wentN n).steps = u.steps := by
  unfold TU.wentN
  split <;> rfl
theorem W34.went (w : W34 u ws last cnt st) (hr : u.runs = some n) (hs : st < 62) : W34 (u.wentN n).counted ws last cnt (st + 1) := by
  obtain ⟨a, b, c, d⟩ := went_fl w.ok hr
  exact w.step hs a b c d (went_steps u n)
theorem W34.pass (w : W34 u ws last cnt st) (hr : u.runs = some n) (hs : st < 62) : W34 (u.passN n).counted ws last cnt (st + 1) := by
  obtain ⟨a, b, c, d⟩ := pass_fl w.ok hr
  exact w.step hs a b c d rfl
/-- the row of a level behind a standing -/
theorem row_stand {l : Nat} {r : List Int} (h : u.q[l]? = some r) : (u.stand n l).q[l]? = some (r ++ [n]) := by
  have hl := (List.getElem?_eq_some_iff.mp h).1
  show (u.q.set l (u.row l ++ [n]))[l]? = _
  rw [row_at h, List.getElem?_set_self hl]
theorem row_over {l : Nat} {r : List Int} (h : u.q[l]? = some r) : (u.over n l).q[l]? = some (r.erase n) := by
  have hl := (List.getElem?_eq_some_iff.mp h).1
  show (u.q.set l ((u.row l).erase n))[l]? = _
  rw [row_at h, List.getElem?_set_self hl]
theorem row_nd (o : u.Ok) {l : Nat} {r : List Int} (h : u.q[l]? = some r) : r.Nodup := by
  have : r.Sublist u.q.flatten := List.sublist_flatten_of_mem (List.mem_of_getElem? h)
  exact o.nd.sublist this
theorem next_stand {l : Nat} (o : u.Ok) (ne : u.q.flatten ≠ []) : (u.next.stand n l).next = u.next.stand n l := by
  obtain ⟨h, e⟩ := next_runs o ne
  have e2 : (u.next.stand n l).runs = some h := e
  show (match (u.next.stand n l).runs with
    | some _ => u.next.stand n l
    | none => _) = _
  rw [e2]
theorem runs_none (o : u.Ok) (e : u.q.flatten = []) : u.runs = none := by
  cases hr : u.runs with
  | none => rfl
  | some h =>
    have := (o.run h hr).1
    rw [e] at this
    cases this
theorem next_first {l : Nat} (o : u.Ok) (e : u.q.flatten = []) (hl : l < 4) : (u.stand n l).next.runs = some n ∧ (u.stand n l).next.rest = sliceOf l := by
  have pm := pm_stand (u := u) (n := n) (l := l) (by rw [o.four]; exact hl)
  rw [e] at pm
  have e1 : (u.stand n l).q.flatten = [n] := List.perm_singleton.mp pm
  have e2 : (u.stand n l).runs = none := (show (u.stand n l).runs = u.runs from rfl).trans (runs_none o e)
  have e3 : (u.stand n l).lev n = l := lev_at (getI_put_self _ _ _)
  unfold TU.next
  rw [e2]
  dsimp only
  rw [e1, List.head?_cons]
  dsimp only
  rw [e3]
  exact ⟨rfl, rfl⟩
theorem stand_ne {l : Nat} (o : u.Ok) (hl : l < 4) : (u.stand n l).q.flatten ≠ [] := fun e => by
  have pm := pm_stand (u := u) (n := n) (l := l) (by rw [o.four]; exact hl)
  rw [e] at pm
  have := pm.length_eq
  simp at this
theorem went_ne (o : u.Ok) (hr : u.runs = some n) : (u.wentN n).counted.q.flatten ≠ [] := fun e => by
  have pm := (went_fl o hr).2.1
  rw [fl_counted] at e
  rw [e] at pm
  have := (o.run n hr).1
  rw [List.nil_perm.mp pm] at this
  cases this
end
end Sl

set_option maxRecDepth 100000
set_option maxHeartbeats 1000000
namespace Sl
open PySem L2
/-! ### comprehensions whose turns change nothing else -/
section
variable {K : PySem.W.Frag} {σ : L2.St} {H : Hp} {te : TE} {tt : TT} {g : TG} {Q : VK} {L : List SA} {a : Addr} {vs : List Nat}
/-- over values -/
theorem r_lcV (xs : List V) (p : V → Bool) (f : V → V) (hh : Hd L H) (hz : xs.length < 100000) (hl : ∀ H, Hd L H → SqL K H a xs)
    (step : ∀ (D : Addr) (acc : List V) (x : V) H (N : V → Hp → Prop) (M : Hp → Prop), x ∈ xs → Hd (pto D (.lst acc) :: L) H → (p x = true → N (f x) H) → (p x = false → M H) →
      g x (wipe σ vs) H fun σ2 H2 => wipe σ2 vs = wipe σ vs ∧ tt σ2 H2 fun b H3 => if b = true then te σ2 H3 N else M H3)
    (hd : ∀ D H, Hd (pto D (.lst ((xs.filter p).map f)) :: L) H → Q (.ref D) H) : LcK g tt te vs σ Q (Itl K a) H := by
  refine r_lcL xs (fun D i H => Hd (pto D (.lst (((xs.take i).filter p).map f)) :: L) H) hh (fun D H h => h) (fun D i H _ h => hl H h.tl) (fun D i x H hx h => ?_) (fun D H h => ?_)
  · have e : xs.take (i + 1) = xs.take i ++ [x] := by rw [List.take_add_one, hx]; rfl
    refine step D _ x H _ _ (List.mem_of_getElem? hx) h (fun pt => ?_) (fun pf => ?_)
    · refine ⟨_, h.get .here, ?_, ?_⟩
      · refine szlt ?_
        rw [List.length_map]
        exact Nat.lt_of_le_of_lt (List.length_filter_le _ _) (Nat.lt_of_le_of_lt (List.length_take_le' _ _) (by omega))
      · rw [e, List.filter_append, List.map_append, List.filter_cons, if_pos pt]
        exact h.set .here fun z => z
    · rw [e, List.filter_append, List.filter_cons, if_neg (by rw [pf]; exact Bool.false_ne_true)]
      simpa using h
  · rw [List.take_length] at h
    exact hd D H h
/-- over numbers -/
theorem r_lcI (ns : List Int) (p : Int → Bool) (f : Int → V) (hh : Hd L H) (hz : ns.length < 100000) (hl : ∀ H, Hd L H → SqL K H a (ns.map V.int))
    (step : ∀ (D : Addr) (acc : List V) (n : Int) H (N : V → Hp → Prop) (M : Hp → Prop), n ∈ ns → Hd (pto D (.lst acc) :: L) H → (p n = true → N (f n) H) → (p n = false → M H) →
      g (.int n) (wipe σ vs) H fun σ2 H2 => wipe σ2 vs = wipe σ vs ∧ tt σ2 H2 fun b H3 => if b = true then te σ2 H3 N else M H3)
    (hd : ∀ D H, Hd (pto D (.lst ((ns.filter p).map f)) :: L) H → Q (.ref D) H) : LcK g tt te vs σ Q (Itl K a) H := by
  refine r_lcL (ns.map V.int) (fun D i H => Hd (pto D (.lst (((ns.take i).filter p).map f)) :: L) H) hh (fun D H h => h) (fun D i H _ h => hl H h.tl) (fun D i x H hx h => ?_) (fun D H h => ?_)
  · rw [List.getElem?_map] at hx
    obtain ⟨n, hx2, rfl⟩ := Option.map_eq_some_iff.mp hx
    have e : ns.take (i + 1) = ns.take i ++ [n] := by rw [List.take_add_one, hx2]; rfl
    refine step D _ n H _ _ (List.mem_of_getElem? hx2) h (fun pt => ?_) (fun pf => ?_)
    · refine ⟨_, h.get .here, ?_, ?_⟩
      · refine szlt ?_
        rw [List.length_map]
        exact Nat.lt_of_le_of_lt (List.length_filter_le _ _) (Nat.lt_of_le_of_lt (List.length_take_le' _ _) (by omega))
      · rw [e, List.filter_append, List.map_append, List.filter_cons, if_pos pt]
        exact h.set .here fun z => z
    · rw [e, List.filter_append, List.filter_cons, if_neg (by rw [pf]; exact Bool.false_ne_true)]
      simpa using h
  · rw [List.length_map, List.take_length] at h
    exact hd D H h
/-- over a range -/
theorem r_lcN {lo : Int} {n : Nat} (p : Nat → Bool) (f : Nat → V) (hh : Hd L H) (hz : n < 100000)
    (step : ∀ (D : Addr) (acc : List V) (i : Nat) H (N : V → Hp → Prop) (M : Hp → Prop), i < n → Hd (pto D (.lst acc) :: L) H → (p i = true → N (f i) H) → (p i = false → M H) →
      g (.int (lo + (i : Nat))) (wipe σ vs) H fun σ2 H2 => wipe σ2 vs = wipe σ vs ∧ tt σ2 H2 fun b H3 => if b = true then te σ2 H3 N else M H3)
    (hd : ∀ D H, Hd (pto D (.lst (((List.range n).filter p).map f)) :: L) H → Q (.ref D) H) : LcK g tt te vs σ Q (Itr lo n) H := by
  refine r_lcR (fun D i H => Hd (pto D (.lst (((List.range i).filter p).map f)) :: L) H) hh (fun D H h => h) (fun D i H hi h => ?_) hd
  refine step D _ i H _ _ hi h (fun pt => ?_) (fun pf => ?_)
  · refine ⟨_, h.get .here, ?_, ?_⟩
    · refine szlt ?_
      rw [List.length_map]
      exact Nat.lt_of_le_of_lt (List.length_filter_le _ _) (by rw [List.length_range]; omega)
    · rw [List.range_succ, List.filter_append, List.map_append, List.filter_cons, if_pos pt]
      exact h.set .here fun z => z
  · rw [List.range_succ, List.filter_append, List.filter_cons, if_neg (by rw [pf]; exact Bool.false_ne_true)]
    simpa using h
end
theorem r_rem {H : Hp} {Q : VK} {L L' : List SA} {a : Addr} {ns : List Int} {n : Int} (hs : Hd L H) (p : Put (pto a (.lst (ns.map V.int))) (pto a (.lst ((ns.erase n).map V.int))) L L') (hm : n ∈ ns) (q : ∀ H', Hd L' H' → Q .non H') : rRemI (.ref a) [.int n] H Q := by
  obtain ⟨M, pa, _⟩ := p.pulls
  exact r_removeX (hs.get pa) hm (q _ (hs.set p fun z => z))
theorem mI_snoc (ns : List Int) (n : Int) : ns.map V.int ++ [V.int n] = (ns ++ [n]).map V.int := by simp
theorem r_join {B : Prop} {R : Hp → Prop} (P : Hp → Prop) (f : (∀ H, P H → R H) → B) (a : ∀ H, P H → R H) : B := f a
end Sl

set_option maxRecDepth 100000
set_option maxHeartbeats 1000000
namespace Sl
open PySem L2
/-! ### while; two at once; rows as data -/
def WhK (W : Nat → L2.St → Hp → Prop) (m : Nat) (tb : TS) (D : Ends) (σ : L2.St) (H : Hp) : Prop := ∃ N : L2.St → Hp → Prop, (∀ σ' H', N σ' H' → ∃ m', m' < m ∧ W m' σ' H') ∧ tb { D with nx := N, ct := N, bk := D.nx } σ H
def ParK (i j : Nat) (D : Ends) (σ : L2.St) (vs : List V) (H : Hp) : Prop := ∃ v w, vs = [v, w] ∧ D.nx ((σ.set i (some v)).set j (some w)) H
section
variable {K : PySem.W.Frag} {σ : L2.St} {H : Hp} {D : Ends} {tb : TS} {c : TT} {tr : TA} {v w : V} {i j : Nat}
theorem r_while (W : Nat → L2.St → Hp → Prop) (m0 : Nat) (h0 : W m0 σ H) (hs : ∀ m σ H, W m σ H → c σ H fun b H1 => if b = true then WhK W m tb D σ H1 else D.nx σ H1) : tWhile c tb D σ H := ⟨W, ⟨m0, h0⟩, hs⟩
theorem r_whK {W : Nat → L2.St → Hp → Prop} {m : Nat} (q : tb { D with nx := fun σ' H' => ∃ m', m' < m ∧ W m' σ' H', ct := fun σ' H' => ∃ m', m' < m ∧ W m' σ' H', bk := D.nx } σ H) : WhK W m tb D σ H := ⟨_, fun _ _ z => z, q⟩
theorem r_par2 (q : tr σ H (ParK i j D σ)) : tPar i j tr D σ H := q
theorem r_parK (q : D.nx ((σ.set i (some v)).set j (some w)) H) : ParK i j D σ [v, w] H := ⟨v, w, rfl, q⟩
end
def rowD (r : List Int) : PyData := .list (r.map PyData.int)
theorem dp_rowD {K : PySem.W.Frag} {H : Hp} {t : Addr} {ws : List Int} (h : SqL K H t (ws.map V.int)) : Dp K H (.ref t) (rowD ws) := .lst h (dp_ints ws)
theorem dp_rowAll {K : PySem.W.Frag} {H : Hp} : ∀ {ls : List Addr} {q : List (List Int)}, ls.length = q.length → (∀ (i : Nat) a r, ls[i]? = some a → q[i]? = some r → SqL K H a (r.map V.int)) → DpAll K H (ls.map V.ref) (q.map rowD)
  | [], [], _, _ => .nil
  | [], _ :: _, h, _ => nomatch h
  | _ :: _, [], h, _ => nomatch h
  | a :: ls, r :: q, h, f => .cons (dp_rowD (f 0 a r rfl rfl)) (dp_rowAll (Nat.succ.inj h) fun i b s e1 e2 => f (i + 1) b s e1 e2)
theorem dp_rows {K : PySem.W.Frag} {H : Hp} {ls : List Addr} {q : List (List Int)} {L L' : List SA} (h : Hd L H) (p : Pull (rowsA ls (rowsV q)) L L') : DpAll K H (ls.map V.ref) (q.map rowD) := by
  refine dp_rowAll (rows_count h p) fun i a r e1 e2 => SqL.of (rows_get h p e1 ?_)
  simp [rowsV, e2]
theorem cl_rows : ∀ q : List (List Int), PyData.canLayAll0 (q.map rowD) = true
  | [] => rfl
  | r :: q => by
    rw [List.map_cons, PyData.canLayAll0, cl_rows q, rowD, PyData.canLay0, cl_ints]
    rfl
theorem dt_rows : ∀ q : List (List Int), PyData.depthAll (q.map rowD) ≤ 2
  | [] => by decide
  | r :: q => by
    have h := dt_rows q
    have h2 := dt_ints r
    rw [List.map_cons, PyData.depthAll, rowD, PyData.depth]
    omega
theorem sh_listR (q : List (List Int)) : SeqAt.shaped (.list (q.map rowD)) = true := by
  have h := dt_rows q
  unfold SeqAt.shaped
  rw [PyData.canLay0, cl_rows, Bool.true_and]
  apply decide_eq_true
  rw [PyData.depth]
  omega
theorem sh_tupR (q : List (List Int)) : SeqAt.shaped (.tuple (q.map rowD)) = true := by
  have h := dt_rows q
  unfold SeqAt.shaped
  rw [PyData.canLay0, cl_rows, Bool.true_and]
  apply decide_eq_true
  rw [PyData.depth]
  omega
theorem eqv_self {d : PyData} (h : SeqAt.shaped d = true) : PyData.eqv d d = true := SeqAt.eqv_refl _ (SeqAt.canLay_of_shaped h)
/-- x == y of the same data -/
theorem r_eqD1 {K : PySem.W.Frag} {H : Hp} {x y : V} {Q : VK} {d : PyData} (h1 : Dp K H x d) (h2 : Dp K H y d) (s : SeqAt.shaped d = true) (q : Q (.bl true) H) : rEqU K x y H Q := r_eqSame h1 h2 s (eqv_self s) q
theorem r_neD1 {K : PySem.W.Frag} {H : Hp} {x y : V} {Q : VK} {d : PyData} (h1 : Dp K H x d) (h2 : Dp K H y d) (s : SeqAt.shaped d = true) (q : Q (.bl false) H) : rNeU K x y H Q := r_neSame h1 h2 s (eqv_self s) q
/-- a list of one thing a number of a range -/
theorem r_lcM {σ : L2.St} {H : Hp} {te : TE} {tt : TT} {g : TG} {Q : VK} {L : List SA} {vs : List Nat} {lo : Int} {n : Nat} (f : Nat → V) (hh : Hd L H) (hz : n < 100000)
    (step : ∀ (D : Addr) (acc : List V) (i : Nat) H (N : V → Hp → Prop) (M : Hp → Prop), i < n → Hd (pto D (.lst acc) :: L) H → N (f i) H →
      g (.int (lo + (i : Nat))) (wipe σ vs) H fun σ2 H2 => wipe σ2 vs = wipe σ vs ∧ tt σ2 H2 fun b H3 => if b = true then te σ2 H3 N else M H3)
    (hd : ∀ D H, Hd (pto D (.lst ((List.range n).map f)) :: L) H → Q (.ref D) H) : LcK g tt te vs σ Q (Itr lo n) H :=
  r_lcN (p := fun _ => true) f hh hz (fun D acc i H N M hi hs a _ => step D acc i H N M hi hs (a rfl)) fun D H h => hd D H (by
    have e : (List.range n).filter (fun _ => true) = List.range n := List.filter_eq_self.mpr fun _ _ => rfl
    rw [e] at h
    exact h)
/-- a list that stays empty -/
theorem r_lcO {σ : L2.St} {H : Hp} {te : TE} {tt : TT} {g : TG} {Q : VK} {L : List SA} {vs : List Nat} {lo : Int} {n : Nat} (hh : Hd L H) (hz : n < 100000)
    (step : ∀ (D : Addr) (acc : List V) (i : Nat) H (N : V → Hp → Prop) (M : Hp → Prop), i < n → Hd (pto D (.lst acc) :: L) H → M H →
      g (.int (lo + (i : Nat))) (wipe σ vs) H fun σ2 H2 => wipe σ2 vs = wipe σ vs ∧ tt σ2 H2 fun b H3 => if b = true then te σ2 H3 N else M H3)
    (hd : ∀ D H, Hd (pto D (.lst []) :: L) H → Q (.ref D) H) : LcK g tt te vs σ Q (Itr lo n) H :=
  r_lcN (p := fun _ => false) (fun _ => .non) hh hz (fun D acc i H N M hi hs _ b => step D acc i H N M hi hs (b rfl)) fun D H h => hd D H (by
    have e : (List.range n).filter (fun _ => false) = [] := List.filter_eq_nil_iff.mpr fun _ _ => Bool.false_ne_true
    rw [e] at h
    exact h)
theorem rep_one (k : Nat) (v : V) : (List.replicate k [v]).flatten = List.replicate k v := by
  induction k with
  | zero => rfl
  | succ k ih => rw [List.replicate_succ, List.flatten_cons, ih, List.replicate_succ]; rfl
end Sl

set_option maxRecDepth 100000
set_option maxHeartbeats 1000000
namespace Sl
open PySem L2
/-! ### turns of the numbers 1 .. many, all of which stay -/
def nums (many : Nat) : List Int := (List.range many).map fun (i : Nat) => (i : Int) + 1
theorem mem_nums {many : Nat} {m : Int} : m ∈ nums many ↔ 1 ≤ m ∧ m ≤ many := by
  unfold nums
  rw [List.mem_map]
  constructor
  · rintro ⟨i, hi, rfl⟩
    rw [List.mem_range] at hi
    omega
  · rintro ⟨h1, h2⟩
    exact ⟨(m - 1).toNat, List.mem_range.mpr (by omega), by omega⟩
theorem nums_succ (many : Nat) : nums (many + 1) = nums many ++ [(many : Int) + 1] := by
  unfold nums
  rw [List.range_succ, List.map_append]
  rfl
theorem nd_nums (many : Nat) : (nums many).Nodup := by
  induction many with
  | zero => exact List.nodup_nil
  | succ k ih =>
    rw [nums_succ]
    refine List.nodup_append.mpr ⟨ih, by simp, fun a ha b hb => ?_⟩
    have := (mem_nums.mp ha).2
    rw [List.mem_singleton.mp hb]
    omega
theorem len_nums (many : Nat) : (nums many).length = many := by simp [nums]
structure W33 (u : TU) (ws : List Int) (many : Nat) : Prop where
  ok : u.Ok
  pm : (u.q.flatten ++ ws).Perm (nums many)
  lv : ∀ m ∈ nums many, ∃ l : Nat, l < 4 ∧ getI u.dep m = some (l : Int)
  dp : u.dep.length ≤ many
def howN (s : Str) (u : TU) (n : Int) : TU := if s = "went" then u.wentN n else if s = "passes" then u.passN n else u.waitN n
def howW (s : Str) (ws : List Int) (n : Int) : List Int := if s = "waits" then ws ++ [n] else ws
section
variable {u : TU} {ws : List Int} {many : Nat} {n : Int}
theorem W33.len (w : W33 u ws many) : u.q.flatten.length + ws.length = many := by
  have := w.pm.length_eq
  rw [List.length_append, len_nums] at this
  exact this
theorem W33.next (w : W33 u ws many) : W33 u.next ws many := by
  obtain ⟨e1, e2, e3⟩ := next_same u
  exact ⟨w.ok.next, by rw [e1]; exact w.pm, by rw [e2]; exact w.lv, by rw [e2]; exact w.dp⟩
theorem W33.add (w : W33 u [] many) : W33 (u.stand ((many : Int) + 1) 0) [] (many + 1) := by
  have no : (many : Int) + 1 ∉ u.q.flatten := fun m => by
    have := (mem_nums.mp (w.pm.subset (List.mem_append_left _ m))).2
    omega
  have pm := pm_stand (u := u) (n := (many : Int) + 1) (l := 0) (by rw [w.ok.four]; decide)
  have pw := w.pm
  rw [List.append_nil] at pw
  refine ⟨w.ok.stand (by decide) no, ?_, fun m hm => ?_, ?_⟩
  · rw [List.append_nil, nums_succ]
    exact pm.trans ((List.Perm.cons _ pw).trans (List.perm_append_singleton _ _).symm)
  · show ∃ l : Nat, l < 4 ∧ getI (putI u.dep _ _) m = _
    rw [getI_put]
    split
    · exact ⟨0, by decide, rfl⟩
    · rw [nums_succ] at hm
      rcases List.mem_append.mp hm with hm | hm
      · exact w.lv m hm
      · rename_i e
        exact (e (List.mem_singleton.mp hm)).elim
  · have := w.dp
    exact Nat.le_trans (len_putI u.dep _ ((0 : Nat) : Int)) (by omega)
theorem W33.wake (w : W33 u ws many) {ws' : List Int} {l : Nat} (hp : (n :: ws').Perm ws) (hg : getI u.dep n = some (l : Int)) : W33 (u.stand n l) ws' many := by
  have hl := w.ok.lv n _ hg
  have nd : (u.q.flatten ++ ws).Nodup := (List.Perm.nodup_iff w.pm).mpr (nd_nums many)
  have hn : n ∈ ws := hp.subset List.mem_cons_self
  have no : n ∉ u.q.flatten := fun m => (List.nodup_append.mp nd).2.2 n m n hn rfl
  have pm := pm_stand (u := u) (n := n) (l := l) (by rw [w.ok.four]; omega)
  refine ⟨w.ok.stand (by omega) no, ?_, fun m hm => ?_, ?_⟩
  · exact ((List.Perm.append_right _ pm).trans ((List.perm_middle.symm).trans (List.Perm.append_left _ hp))).trans w.pm
  · show ∃ l : Nat, l < 4 ∧ getI (putI u.dep _ _) m = _
    rw [getI_put]
    split
    · exact ⟨l, by omega, rfl⟩
    · exact w.lv m hm
  · show (putI u.dep n _).length ≤ _
    rw [getI_old hg]
    exact w.dp
theorem W33.counted (w : W33 u ws many) : W33 u.counted ws many := by
  refine ⟨w.ok.counted, by rw [fl_counted]; exact w.pm, fun m hm => ?_, Nat.le_trans (dp_counted _) w.dp⟩
  obtain ⟨l, _, e⟩ := w.lv m hm
  obtain ⟨l', e'⟩ := gt_counted e
  have := w.ok.counted.lv m l' e'
  exact ⟨l'.toNat, by omega, by rw [e']; congr 1; omega⟩
theorem W33.how (w : W33 u ws many) (hr : u.runs = some n) (s : Str) : W33 (howN s u n) (if s = "went" then ws else if s = "passes" then ws else ws ++ [n]) many := by
  have keep : ∀ {v : TU}, v.Ok → (∀ x l, getI u.dep x = some l → ∃ l', getI v.dep x = some l') → ∀ m ∈ nums many, ∃ l : Nat, l < 4 ∧ getI v.dep m = some (l : Int) := by
    intro v o f m hm
    obtain ⟨l, _, e⟩ := w.lv m hm
    obtain ⟨l', e'⟩ := f m _ e
    have := o.lv m l' e'
    exact ⟨l'.toNat, by omega, by rw [e']; congr 1; omega⟩
  unfold howN
  split
  · obtain ⟨a, b, c, d⟩ := went_fl w.ok hr
    exact ⟨a, (List.Perm.append_right _ b).trans w.pm, keep a d, by rw [c]; exact w.dp⟩
  · split
    · obtain ⟨a, b, c, d⟩ := pass_fl w.ok hr
      exact ⟨a, (List.Perm.append_right _ b).trans w.pm, keep a d, by rw [c]; exact w.dp⟩
    · obtain ⟨a, b, c, d⟩ := wait_fl w.ok hr
      refine ⟨a, ?_, by rw [d]; exact w.lv, by rw [d]; exact w.dp⟩
      rw [← List.append_assoc]
      exact ((List.perm_append_singleton n ((u.waitN n).q.flatten ++ ws)).trans (List.Perm.append_right ws b)).trans w.pm
theorem how_steps (s : Str) (u : TU) (n : Int) : (howN s u n).steps = u.steps := by
  unfold howN
  split
  · exact went_steps u n
  · split <;> rfl
theorem how_other (s : Str) (u : TU) {n x : Int} (h : x ≠ n) : getI (howN s u n).dep x = getI u.dep x := by
  unfold howN
  split
  · unfold TU.wentN
    split
    · show getI (putI u.dep n _) x = _
      rw [getI_put, if_neg h]
    · rfl
  · split
    · show getI (putI u.dep n _) x = _
      rw [getI_put, if_neg h]
    · rfl
def levs (u : TU) (many : Nat) : List Int := (List.range many).map fun (i : Nat) => (getI u.dep ((i : Int) + 1)).getD 0
theorem lift_no (h : 0 < (u.steps + 1) % 64) : u.counted = { u with steps := u.steps + 1 } := if_pos h
theorem lift_yes (h : ¬ 0 < (u.steps + 1) % 64) : u.counted = u.lift := if_neg h
theorem levs_lift (w : W33 u ws many) : levs u.lift many = List.replicate many 0 := by
  unfold levs
  apply List.ext_getElem (by simp)
  intro i h1 h2
  have hi : i < many := by simpa using h1
  obtain ⟨l, _, e⟩ := w.lv ((i : Int) + 1) (mem_nums.mpr (by omega))
  rw [List.getElem_map, List.getElem_range, List.getElem_replicate]
  show (getI (zI u.dep) _).getD 0 = 0
  rw [getI_z, e]
  rfl
end
/-- where one stands in the rows: the only place -/
theorem only_row {u : TU} (o : u.Ok) {l : Nat} {r : List Int} {n : Int} (h : u.q[l]? = some r) (m : n ∈ r) {k : Nat} {r2 : List Int} (h2 : u.q[k]? = some r2) (m2 : n ∈ r2) : k = l := by
  have a := o.at_ l r n h m
  have b := o.at_ k r2 n h2 m2
  rw [a] at b
  have := Option.some.inj b
  omega
theorem rows_which {u : TU} (o : u.Ok) {l : Nat} {r : List Int} {n : Int} (h : u.q[l]? = some r) (m : n ∈ r) : ((List.range u.q.length).filter fun k => decide (n ∈ u.row k)) = [l] := by
  have hl := (List.getElem?_eq_some_iff.mp h).1
  have e : ∀ k, k < u.q.length → decide (n ∈ u.row k) = decide (k = l) := fun k hk => by
    have hk2 : u.q[k]? = some u.q[k] := by simp [hk]
    rw [row_at hk2]
    by_cases z : k = l
    · subst z
      rw [h] at hk2
      rw [← Option.some.inj hk2, decide_eq_true m, decide_eq_true rfl]
    · rw [decide_eq_false z, decide_eq_false fun m2 => z (only_row o h m hk2 m2)]
  have e2 : (List.range u.q.length).filter (fun k => decide (n ∈ u.row k)) = (List.range u.q.length).filter fun k => decide (k = l) := List.filter_congr fun k hk => e k (List.mem_range.mp hk)
  rw [e2]
  clear e e2
  generalize u.q.length = c at hl
  induction c with
  | zero => omega
  | succ c ih =>
    rw [List.range_succ, List.filter_append]
    by_cases z : l < c
    · rw [ih z, List.filter_cons, if_neg (by simp; omega)]
      rfl
    · have hc : c = l := by omega
      subst hc
      rw [List.filter_cons, if_pos (by simp)]
      have : (List.range c).filter (fun k => decide (k = c)) = [] := by
        rw [List.filter_eq_nil_iff]
        intro k hk
        have := List.mem_range.mp hk
        simp
        omega
      rw [this]
      rfl
theorem perm_eraseN : ∀ {R : List Int} {k : Nat} {x : Int}, R[k]? = some x → (x :: R.eraseIdx k).Perm R
  | [], _, _, h => nomatch h
  | a :: R, 0, x, h => by
    cases h
    exact .refl _
  | a :: R, k + 1, x, h => (List.Perm.swap a x _).trans ((perm_eraseN (R := R) (k := k) h).cons a)
theorem map_eraseN : ∀ (R : List Int) (k : Nat), (R.map V.int).eraseIdx k = (R.eraseIdx k).map V.int
  | [], _ => rfl
  | _ :: _, 0 => rfl
  | a :: R, k + 1 => by rw [List.map_cons, List.eraseIdx_cons_succ, List.eraseIdx_cons_succ, List.map_cons, map_eraseN R k]
end Sl

set_option maxRecDepth 100000
set_option maxHeartbeats 1000000
namespace Sl
open PySem L2
/-! ### data whose repr is short -/
structure Nice (d : PyData) (k w : Nat) : Prop where
  cl : d.canLay0 = true
  dp : d.depth ≤ k
  wt : d.weight ≤ w
  is : d.intsShort 13 = true
  sh : d.showable = true
structure NiceAll (xs : List PyData) (k w : Nat) : Prop where
  cl : PyData.canLayAll0 xs = true
  dp : PyData.depthAll xs ≤ k
  wt : PyData.weightAll xs ≤ w
  is : PyData.intsShortAll 13 xs = true
  sh : PyData.showableAll xs = true
theorem log_le {n k : Nat} (h : n < 2 ^ (k + 1)) : n.log2 ≤ k := by
  by_cases z : n = 0
  · subst z
    exact Nat.zero_le _
  · have := (Nat.log2_lt z).mpr h
    omega
theorem nice_int {i : Int} (h : i.natAbs < 10 ^ 12) : Nice (.int i) 0 40 := by
  have l : i.natAbs.log2 ≤ 39 := log_le (Nat.lt_of_lt_of_le h (by decide))
  refine ⟨by rw [PyData.canLay0], by rw [PyData.depth]; exact Nat.le_refl _, ?_, ?_, ?_⟩
  · rw [PyData.weight]
    split <;> omega
  · rw [PyData.intsShort]
    exact decide_eq_true (PyData.shown_int_le h)
  · rw [PyData.showable]
    exact decide_eq_true (by omega)
theorem nice_none : Nice .none 0 0 := ⟨by rw [PyData.canLay0], by rw [PyData.depth]; exact Nat.le_refl _, by rw [PyData.weight]; exact Nat.le_refl _, by rw [PyData.intsShort], by rw [PyData.showable]⟩
theorem nice_bool (b : Bool) : Nice (.bool b) 0 0 := ⟨by rw [PyData.canLay0], by rw [PyData.depth]; exact Nat.le_refl _, by rw [PyData.weight]; exact Nat.le_refl _, by rw [PyData.intsShort], by rw [PyData.showable]⟩
theorem nice_nil (k : Nat) : NiceAll [] k 0 := ⟨by rw [PyData.canLayAll0], by rw [PyData.depthAll]; exact Nat.zero_le _, by rw [PyData.weightAll]; exact Nat.le_refl _, by rw [PyData.intsShortAll], by rw [PyData.showableAll]⟩
theorem nice_cons {x : PyData} {xs : List PyData} {k w v : Nat} (a : Nice x k w) (b : NiceAll xs k v) : NiceAll (x :: xs) k (w + 1 + v) := by
  refine ⟨by rw [PyData.canLayAll0, a.cl, b.cl]; rfl, ?_, ?_, by rw [PyData.intsShortAll, a.is, b.is]; rfl, by rw [PyData.showableAll, a.sh, b.sh]; rfl⟩
  · rw [PyData.depthAll]
    exact Nat.max_le.mpr ⟨a.dp, b.dp⟩
  · rw [PyData.weightAll]
    have := a.wt
    have := b.wt
    omega
theorem nice_list {xs : List PyData} {k w : Nat} (a : NiceAll xs k w) : Nice (.list xs) (k + 1) w := by
  refine ⟨by rw [PyData.canLay0]; exact a.cl, ?_, by rw [PyData.weight]; exact a.wt, by rw [PyData.intsShort]; exact a.is, by rw [PyData.showable]; exact a.sh⟩
  rw [PyData.depth]
  exact Nat.succ_le_succ a.dp
theorem nice_tup {xs : List PyData} {k w : Nat} (a : NiceAll xs k w) : Nice (.tuple xs) (k + 1) w := by
  refine ⟨by rw [PyData.canLay0]; exact a.cl, ?_, by rw [PyData.weight]; exact a.wt, by rw [PyData.intsShort]; exact a.is, by rw [PyData.showable]; exact a.sh⟩
  rw [PyData.depth]
  exact Nat.succ_le_succ a.dp
theorem Nice.mono {d : PyData} {k w k' w' : Nat} (a : Nice d k w) (h : k ≤ k') (h2 : w ≤ w') : Nice d k' w' := ⟨a.cl, Nat.le_trans a.dp h, Nat.le_trans a.wt h2, a.is, a.sh⟩
theorem nice_ints : ∀ {ns : List Int}, (∀ n ∈ ns, n.natAbs < 10 ^ 12) → NiceAll (ns.map PyData.int) 0 (41 * ns.length)
  | [], _ => nice_nil 0
  | n :: ns, h => by
    have z := nice_cons (nice_int (h n List.mem_cons_self)) (nice_ints (ns := ns) fun m hm => h m (List.mem_cons_of_mem _ hm))
    rw [List.length_cons, show 41 * (ns.length + 1) = 40 + 1 + 41 * ns.length by omega]
    exact z
theorem nice_row {r : List Int} (h : ∀ n ∈ r, n.natAbs < 10 ^ 12) : Nice (rowD r) 1 (41 * r.length) := nice_list (nice_ints h)
theorem nice_rows : ∀ {q : List (List Int)}, (∀ n ∈ q.flatten, n.natAbs < 10 ^ 12) → NiceAll (q.map rowD) 1 (41 * q.flatten.length + q.length)
  | [], _ => nice_nil 1
  | r :: q, h => by
    have z := nice_cons (nice_row (r := r) fun n hn => h n (by rw [List.flatten_cons]; exact List.mem_append_left _ hn)) (nice_rows (q := q) fun m hm => h m (by rw [List.flatten_cons]; exact List.mem_append_right _ hm))
    rw [List.flatten_cons, List.length_append, List.length_cons, show 41 * (r.length + q.flatten.length) + (q.length + 1) = 41 * r.length + 1 + (41 * q.flatten.length + q.length) by omega]
    exact z
theorem Nice.shaped {d : PyData} {k w : Nat} (a : Nice d k w) (h : k ≤ 64) : SeqAt.shaped d = true := by
  unfold SeqAt.shaped
  rw [a.cl, Bool.true_and]
  exact decide_eq_true (Nat.le_trans a.dp h)
theorem Nice.fits {d : PyData} {k w : Nat} (a : Nice d k w) (h2 : w ≤ 2 ^ 20) : d.shown.length ≤ sizeLine :=
  PyData.shown_fits (B := 13) (by decide) (by decide) (PyData.leavesShort_of_canLay0 13 d a.cl a.is) (Nat.le_trans a.wt h2)
section
variable {K : PySem.W.Frag} {H : Hp} {Q : VK} {a : Addr} {i : Int} {d : PyData} {k w : Nat}
theorem r_reprI (h : i.natAbs < 10 ^ 12) (q : Q (.str (toString i)) H) : rRepr K [.int i] H Q := .inl ⟨i, rfl, Nat.lt_of_le_of_lt (log_le (k := 39) (Nat.lt_of_lt_of_le h (by decide))) (by decide), q⟩
theorem r_reprN (q : Q (.str "None") H) : rRepr K [.non] H Q := .inr (.inl ⟨rfl, q⟩)
theorem r_reprD (hd : Dp K H (.ref a) d) (n : Nice d k w) (hk : k ≤ 64) (hw : w ≤ 2 ^ 20) (q : Q (.str d.shown) H) : rRepr K [.ref a] H Q := .inr (.inr ⟨a, d, rfl, hd, n.shaped hk, n.sh, n.fits hw, q⟩)
end
theorem reps_of {A : Around} {k : Nat} (hr : Room k A) : A.units + 66 < cLine := by
  have := hr.un
  omega
end Sl

set_option maxRecDepth 100000
set_option maxHeartbeats 1000000
namespace Sl
open PySem L2
/-! ### keys of a dict of numbers -/
def keysI (d : List (Int × Int)) : List Int := d.map fun e => e.1
theorem mem_keys {d : List (Int × Int)} {n : Int} : n ∈ keysI d ↔ ∃ l, getI d n = some l := by
  induction d with
  | nil => simp [keysI, getI]
  | cons e r ih =>
    rw [getI_cons]
    show n ∈ e.1 :: keysI r ↔ _
    by_cases h : e.1 = n
    · rw [if_pos h]
      simp [h]
    · rw [if_neg h, ← ih, List.mem_cons]
      exact ⟨fun z => z.resolve_left fun q => h q.symm, .inr⟩
theorem any_keys (d : List (Int × Int)) (n : Int) : (d.any fun e => decide (e.1 = n)) = decide (n ∈ keysI d) := by
  induction d with
  | nil => rfl
  | cons e r ih =>
    rw [List.any_cons, ih]
    show _ = decide (n ∈ e.1 :: keysI r)
    by_cases h : e.1 = n
    · simp [h]
    · have h2 : ¬ n = e.1 := fun z => h z.symm
      simp [h, h2]
theorem keys_old {d : List (Int × Int)} {n l : Int} (h : n ∈ keysI d) : keysI (putI d n l) = keysI d := by
  unfold putI
  rw [if_pos (by rw [any_keys]; exact decide_eq_true h)]
  unfold keysI
  rw [List.map_map]
  apply List.map_congr_left
  intro e _
  show (if e.1 = n then (e.1, l) else e).1 = e.1
  split <;> rfl
theorem keys_new {d : List (Int × Int)} {n l : Int} (h : n ∉ keysI d) : keysI (putI d n l) = keysI d ++ [n] := by
  unfold putI
  rw [if_neg (by rw [any_keys]; simpa using h)]
  unfold keysI
  rw [List.map_append]
  rfl
theorem keys_drop (d : List (Int × Int)) (n : Int) : keysI (dropI d n) = (keysI d).filter fun x => !decide (x = n) := by
  unfold keysI dropI
  rw [List.filter_map]
  congr 1
  apply List.filter_congr
  intro e _
  by_cases h : e.1 = n
  · simp [h]
  · simp [h]
theorem keys_mI : ∀ (b a : List (Int × Int)), (keysI a ++ keysI b).Nodup → keysI (mI a b) = keysI a ++ keysI b
  | [], a, _ => by simp [mI, keysI]
  | e :: b, a, h => by
    have h2 := List.nodup_append.mp h
    have no : e.1 ∉ keysI a := fun m => h2.2.2 _ m e.1 (List.mem_cons_self) rfl
    have e1 := keys_new (l := e.2) no
    show keysI (mI (putI a e.1 e.2) b) = _
    rw [keys_mI b, e1, List.append_assoc]
    · rfl
    · rw [e1, List.append_assoc]
      exact h
theorem keys_z {d : List (Int × Int)} (h : (keysI d).Nodup) : keysI (zI d) = keysI d := by
  have e : keysI (d.map fun e => (e.1, (0 : Int))) = keysI d := by
    unfold keysI
    rw [List.map_map]
    rfl
  unfold zI
  rw [keys_mI _ _ (by rw [e]; exact h), e]
  rfl
theorem nd_filter {n : Int} {r : List Int} (h : r.Nodup) (m : n ∈ r) : (n :: r.filter fun x => !decide (x = n)).Perm r := by
  rw [← erase_filter h]
  exact (List.perm_cons_erase m).symm
/-! ### one leaves -/
def TU.leaveN (u : TU) (n : Int) : TU :=
  { q := if n ∈ u.row (u.lev n) then u.q.set (u.lev n) ((u.row (u.lev n)).erase n) else u.q, dep := dropI u.dep n, runs := if u.runs = some n then none else u.runs, rest := if u.runs = some n then 0 else u.rest, steps := u.steps }
def howE (s : Str) (u : TU) (n : Int) : TU := if s = "went" then u.wentN n else if s = "passes" then u.passN n else if s = "waits" then u.waitN n else u.endN n
structure W31 (u : TU) (ws : List Int) (last : Int) : Prop where
  ok : u.Ok
  nd : (u.q.flatten ++ ws).Nodup
  kp : (keysI u.dep).Perm (u.q.flatten ++ ws)
  rg : ∀ x ∈ u.q.flatten ++ ws, 1 ≤ x ∧ x ≤ last
  few : ((u.q.flatten.length + ws.length : Nat) : Int) ≤ last
  z : u.runs = none → u.rest = 0
  rb : 0 ≤ u.rest ∧ u.rest ≤ 16
theorem z16 : (0 : Int) ≤ 0 ∧ (0 : Int) ≤ 16 := by decide
section
variable {u : TU} {ws : List Int} {last n : Int}
theorem W31.dl (w : W31 u ws last) : u.dep.length = u.q.flatten.length + ws.length := by
  have := w.kp.length_eq
  rw [List.length_append, keysI, List.length_map] at this
  exact this
theorem W31.dp (w : W31 u ws last) : (u.dep.length : Int) ≤ last := by rw [w.dl]; exact w.few
theorem W31.kn (w : W31 u ws last) : (keysI u.dep).Nodup := (List.Perm.nodup_iff w.kp).mpr w.nd
theorem W31.at_ (w : W31 u ws last) {x : Int} (h : x ∈ u.q.flatten ++ ws) : ∃ l : Nat, l < 4 ∧ getI u.dep x = some (l : Int) := by
  obtain ⟨l, e⟩ := mem_keys.mp (w.kp.symm.subset h)
  have := w.ok.lv x l e
  exact ⟨l.toNat, by omega, by rw [e]; congr 1; omega⟩
theorem W31.new : W31 TU.new [] 0 :=
  ⟨W34.new.ok, by decide, List.Perm.refl [], fun x hx => (nomatch hx), by decide, fun _ => rfl, by decide⟩
theorem sl_le (l : Nat) : sliceOf l ≤ 16 := by
  unfold sliceOf
  match l with
  | 0 | 1 | 2 | 3 => decide
  | l + 4 => exact (by decide : (0 : Int) ≤ 16)
theorem W31.next (w : W31 u ws last) : W31 u.next ws last := by
  obtain ⟨e1, e2, e3⟩ := next_same u
  refine ⟨w.ok.next, by rw [e1]; exact w.nd, by rw [e1, e2]; exact w.kp, by rw [e1]; exact w.rg, by rw [e1]; exact w.few, ?_, ?_⟩
  · unfold TU.next
    split
    · exact w.z
    · split
      · exact fun _ => rfl
      · exact fun z => nomatch z
  · unfold TU.next
    split
    · exact w.rb
    · split
      · exact z16
      · rename_i n hn
        obtain ⟨l, r, hg, _, _, hl⟩ := lev_of w.ok (List.mem_of_mem_head? hn)
        rw [lev_at hg]
        have := sl_pos hl
        exact ⟨by show 0 ≤ sliceOf l; omega, sl_le l⟩
theorem W31.add (w : W31 u ws last) : W31 (u.stand (last + 1) 0) ws (last + 1) := by
  have no : ∀ x ∈ u.q.flatten ++ ws, x ≠ last + 1 := fun x hx e => by have := (w.rg x hx).2; omega
  have no1 : last + 1 ∉ u.q.flatten := fun m => no _ (List.mem_append_left _ m) rfl
  have nk : last + 1 ∉ keysI u.dep := fun m => no _ (w.kp.subset m) rfl
  have pm := pm_stand (u := u) (n := last + 1) (l := 0) (by rw [w.ok.four]; decide)
  have pm2 : ((u.stand (last + 1) 0).q.flatten ++ ws).Perm ((last + 1) :: (u.q.flatten ++ ws)) := List.Perm.append_right ws pm
  have lf := w.few
  refine ⟨w.ok.stand (by decide) no1, (List.Perm.nodup_iff pm2).mpr (List.nodup_cons.mpr ⟨fun m => no _ m rfl, w.nd⟩), ?_, fun x hx => ?_, ?_, w.z, w.rb⟩
  · show (keysI (putI u.dep _ _)).Perm _
    rw [keys_new nk]
    exact (List.perm_append_singleton _ _).trans ((List.Perm.cons _ w.kp).trans pm2.symm)
  · rcases List.mem_cons.mp (pm2.subset hx) with e | e
    · have : 0 ≤ last := by omega
      omega
    · have := w.rg x e
      omega
  · have := pm.length_eq
    rw [List.length_cons] at this
    omega
theorem W31.wake (w : W31 u ws last) {l : Nat} (hn : n ∈ ws) (hg : getI u.dep n = some (l : Int)) : W31 (u.stand n l) (ws.filter fun x => !decide (x = n)) last := by
  have hl := w.ok.lv n _ hg
  have nd := List.nodup_append.mp w.nd
  have no : n ∉ u.q.flatten := fun m => nd.2.2 n m n hn rfl
  have pm := pm_stand (u := u) (n := n) (l := l) (by rw [w.ok.four]; omega)
  have pk := nd_filter nd.2.1 hn
  have pm2 : ((u.stand n l).q.flatten ++ ws.filter fun x => !decide (x = n)).Perm (u.q.flatten ++ ws) := (List.Perm.append_right _ pm).trans ((List.perm_middle.symm).trans (List.Perm.append_left _ pk))
  refine ⟨w.ok.stand (by omega) no, (List.Perm.nodup_iff pm2).mpr w.nd, ?_, fun x hx => w.rg x (pm2.subset hx), ?_, w.z, w.rb⟩
  · show (keysI (putI u.dep _ _)).Perm _
    rw [keys_old (mem_keys.mpr ⟨_, hg⟩)]
    exact w.kp.trans pm2.symm
  · have := pm2.length_eq
    rw [List.length_append, List.length_append] at this
    have := w.few
    omega
theorem W31.counted (w : W31 u ws last) : W31 u.counted ws last := by
  have fl := fl_counted u
  refine ⟨w.ok.counted, by rw [fl]; exact w.nd, ?_, by rw [fl]; exact w.rg, by rw [fl]; exact w.few, ?_, ?_⟩
  · rw [fl]
    unfold TU.counted
    split
    · exact w.kp
    · show (keysI (zI u.dep)).Perm _
      rw [keys_z w.kn]
      exact w.kp
  · unfold TU.counted
    split
    · exact w.z
    · exact fun _ => rfl
  · unfold TU.counted
    split
    · exact w.rb
    · exact z16
theorem W31.how (w : W31 u ws last) (hr : u.runs = some n) (s : Str) (hs : s = "went" ∨ s = "passes" ∨ s = "waits" ∨ s = "ends") : W31 (howE s u n) (howW s ws n) last := by
  obtain ⟨l, r, hg, hrow, hm, hl⟩ := lev_of w.ok (w.ok.run n hr).1
  have rn := (w.ok.run n hr).2
  have nk : n ∈ keysI u.dep := mem_keys.mpr ⟨_, hg⟩
  have pm0 := pm_over (u := u) hrow hm
  rcases hs with rfl | rfl | rfl | rfl
  · rw [show howW "went" ws n = ws from if_neg (by decide +kernel), show howE "went" u n = u.wentN n from if_pos rfl]
    obtain ⟨a, b, c, d⟩ := went_fl w.ok hr
    have b2 := List.Perm.append_right ws b
    refine ⟨a, (List.Perm.nodup_iff b2).mpr w.nd, ?_, fun x hx => w.rg x (b2.subset hx), by rw [b.length_eq]; exact w.few, ?_, ?_⟩
    · refine List.Perm.trans ?_ b2.symm
      unfold TU.wentN
      split
      · show (keysI (putI u.dep _ _)).Perm _
        rw [keys_old nk]
        exact w.kp
      · exact w.kp
    · unfold TU.wentN
      split
      · exact fun _ => rfl
      · exact fun z => by rw [show u.runs = none from z] at hr; cases hr
    · unfold TU.wentN
      split
      · exact z16
      · have := w.rb
        exact ⟨by show 0 ≤ u.rest - 1; omega, by show u.rest - 1 ≤ 16; omega⟩
  · rw [show howW "passes" ws n = ws from if_neg (by decide +kernel), show howE "passes" u n = u.passN n from (if_neg (by decide +kernel)).trans (if_pos rfl)]
    obtain ⟨a, b, c, d⟩ := pass_fl w.ok hr
    have b2 := List.Perm.append_right ws b
    refine ⟨a, (List.Perm.nodup_iff b2).mpr w.nd, ?_, fun x hx => w.rg x (b2.subset hx), by rw [b.length_eq]; exact w.few, fun _ => rfl, z16⟩
    refine List.Perm.trans ?_ b2.symm
    show (keysI (putI u.dep _ _)).Perm _
    rw [keys_old nk]
    exact w.kp
  · rw [show howW "waits" ws n = ws ++ [n] from if_pos rfl, show howE "waits" u n = u.waitN n from (if_neg (by decide +kernel)).trans ((if_neg (by decide +kernel)).trans (if_pos rfl))]
    obtain ⟨a, b, c, d⟩ := wait_fl w.ok hr
    have b2 : ((u.waitN n).q.flatten ++ (ws ++ [n])).Perm (u.q.flatten ++ ws) := by
      rw [← List.append_assoc]
      exact (List.perm_append_singleton n ((u.waitN n).q.flatten ++ ws)).trans (List.Perm.append_right ws b)
    refine ⟨a, (List.Perm.nodup_iff b2).mpr w.nd, by rw [d]; exact w.kp.trans b2.symm, fun x hx => w.rg x (b2.subset hx), ?_, fun _ => rfl, z16⟩
    have := b2.length_eq
    rw [List.length_append] at this
    have h3 := w.few
    rw [this, List.length_append]
    exact h3
  · rw [show howW "ends" ws n = ws from if_neg (by decide +kernel), show howE "ends" u n = u.endN n from (if_neg (by decide +kernel)).trans ((if_neg (by decide +kernel)).trans (if_neg (by decide +kernel)))]
    have e : u.endN n = { u.over n l with dep := dropI u.dep n } := by unfold TU.endN; rw [lev_at hg]
    have no := out_over w.ok hrow hm
    rw [e]
    have b2 : (n :: ((u.over n l).q.flatten ++ ws)).Perm (u.q.flatten ++ ws) := List.Perm.append_right ws pm0
    have nd2 := List.nodup_cons.mp ((List.Perm.nodup_iff b2).mpr w.nd)
    refine ⟨(w.ok.over hrow hm).drop no, nd2.2, ?_, fun x hx => w.rg x (b2.subset (List.mem_cons_of_mem _ hx)), ?_, fun _ => rfl, z16⟩
    · show (keysI (dropI u.dep n)).Perm _
      rw [keys_drop]
      have h1 := w.kp.trans b2.symm
      have h2 := (nd_filter w.kn nk).trans h1
      exact h2.cons_inv
    · have := b2.length_eq
      rw [List.length_cons, List.length_append, List.length_append] at this
      have := w.few
      show (((u.over n l).q.flatten.length + ws.length : Nat) : Int) ≤ last
      omega
theorem out_row (w : W31 u ws last) {l : Nat} {r : List Int} (hg : getI u.dep n = some (l : Int)) (hrow : u.q[l]? = some r) : n ∈ r ↔ n ∉ ws := by
  have nd := List.nodup_append.mp w.nd
  constructor
  · intro m mw
    exact nd.2.2 n (mem_fl hrow m) n mw rfl
  · intro h
    have m := w.kp.subset (mem_keys.mpr ⟨_, hg⟩)
    rcases List.mem_append.mp m with m | m
    · obtain ⟨k, r2, e, m⟩ := of_fl m
      have := w.ok.at_ k r2 n e m
      rw [hg] at this
      have e2 : k = l := by have := Option.some.inj this; omega
      subst e2
      rw [hrow] at e
      rw [Option.some.inj e]
      exact m
    · exact (h m).elim
theorem W31.leave (w : W31 u ws last) {l : Nat} {r : List Int} (hg : getI u.dep n = some (l : Int)) (hrow : u.q[l]? = some r) : W31 (u.leaveN n) (ws.filter fun x => !decide (x = n)) last := by
  have hl := w.ok.lv n _ hg
  have nd := List.nodup_append.mp w.nd
  have nk : n ∈ keysI u.dep := mem_keys.mpr ⟨_, hg⟩
  have iff := out_row w hg hrow
  have kd := keys_drop u.dep n
  have h0 := (nd_filter w.kn nk).trans w.kp
  by_cases m : n ∈ r
  · have nw := iff.mp m
    have e : u.leaveN n = { q := (u.over n l).q, dep := dropI u.dep n, runs := if u.runs = some n then none else u.runs, rest := if u.runs = some n then 0 else u.rest, steps := u.steps } := by
      unfold TU.leaveN TU.over
      rw [lev_at hg, row_at hrow, if_pos m]
    rw [e, filter_out nw]
    have no := out_over w.ok hrow m
    have pm0 := pm_over (u := u) hrow m
    have b2 : (n :: ((u.over n l).q.flatten ++ ws)).Perm (u.q.flatten ++ ws) := List.Perm.append_right ws pm0
    have nd2 := List.nodup_cons.mp ((List.Perm.nodup_iff b2).mpr w.nd)
    have od := (w.ok.over hrow m).drop no
    refine ⟨⟨od.four, od.at_, od.lv, fun x hx => ?_, od.nd⟩, nd2.2, ?_, fun x hx => w.rg x (b2.subset (List.mem_cons_of_mem _ hx)), ?_, ?_, ?_⟩
    · dsimp only at hx ⊢
      split at hx
      · cases hx
      · rename_i hne
        rw [if_neg hne]
        refine ⟨?_, (w.ok.run x hx).2⟩
        have mx := pm0.symm.subset (w.ok.run x hx).1
        rcases List.mem_cons.mp mx with e2 | e2
        · exact (hne (by rw [hx, e2])).elim
        · exact e2
    · show (keysI (dropI u.dep n)).Perm _
      rw [kd]
      exact (h0.trans b2.symm).cons_inv
    · have := b2.length_eq
      rw [List.length_cons, List.length_append, List.length_append] at this
      have := w.few
      show (((u.over n l).q.flatten.length + ws.length : Nat) : Int) ≤ last
      omega
    · dsimp only
      split
      · exact fun _ => rfl
      · exact w.z
    · dsimp only
      split
      · exact z16
      · exact w.rb
  · have mw : n ∈ ws := Classical.byContradiction fun h => m (iff.mpr h)
    have nf : n ∉ u.q.flatten := fun h => nd.2.2 n h n mw rfl
    have hne : ¬ u.runs = some n := fun h => nf (w.ok.run n h).1
    have e : u.leaveN n = { u with dep := dropI u.dep n } := by
      unfold TU.leaveN
      rw [lev_at hg, row_at hrow, if_neg m, if_neg hne, if_neg hne]
    rw [e]
    have pk := nd_filter nd.2.1 mw
    have b2 : (n :: (u.q.flatten ++ ws.filter fun x => !decide (x = n))).Perm (u.q.flatten ++ ws) := (List.perm_middle.symm).trans (List.Perm.append_left _ pk)
    have nd2 := List.nodup_cons.mp ((List.Perm.nodup_iff b2).mpr w.nd)
    refine ⟨w.ok.drop nf, nd2.2, ?_, fun x hx => w.rg x (b2.subset (List.mem_cons_of_mem _ hx)), ?_, w.z, w.rb⟩
    · show (keysI (dropI u.dep n)).Perm _
      rw [kd]
      exact (h0.trans b2.symm).cons_inv
    · have := b2.length_eq
      rw [List.length_cons, List.length_append, List.length_append] at this
      have := w.few
      show ((u.q.flatten.length + _ : Nat) : Int) ≤ last
      omega
end
end Sl

set_option maxRecDepth 100000
set_option maxHeartbeats 1000000
namespace Sl
open PySem L2 PySem.Spec PyProof.Rows
/-! ### sorted of a dict whose keys are numbers -/
def rSortedDI : List V → Hp → VK → Prop := fun xs H Q => ∃ (a : Addr) (kvs : List (Key × V)) (ks : List Int), xs = [.ref a] ∧ Rd H a (.dK kvs) ∧ kvs.map (·.1) = ks.map Sum.inl ∧ ks.length ≤ 100000 ∧
  ∀ (ns : List Int) (p : Addr), ns.Perm ks → ns.Pairwise (· ≤ ·) → H p = none → Q (.ref p) (upd H p (.lst (ns.map V.int)))
theorem ints_of_keys : ∀ {us : List Value} {ks : List Int}, us.length = ks.length → (∀ (j : Nat) (v : Value), us[j]? = some v → ∃ (k : Int) (t : Tok), ks[j]? = some k ∧ v = .int k t) → IntsAre us ks
  | [], [], _, _ => .nil
  | [], _ :: _, h, _ => nomatch h
  | _ :: _, [], h, _ => nomatch h
  | u :: us, k :: ks, h, f => by
    obtain ⟨x, t, e1, e2⟩ := f 0 u rfl
    cases e1
    subst e2
    exact .cons _ t (ints_of_keys (Nat.succ.inj h) fun j v e => f (j + 1) v e)
theorem call_sortedDI {X : Cx} (hcalm : X.calm = true) : CallR X (.builtin "sorted") rSortedDI := by
  intro pn z τ G xs ws R J rv hq
  obtain ⟨a, kvs, ks, rfl, rd, ek, few, q⟩ := hq
  obtain ⟨u, rfl, rx⟩ := vals1 rv
  obtain rfl : u = Value.ref a := rx
  obtain ⟨za, lo, ps, rel, dd⟩ := dk_rd J.hok rd
  obtain ⟨ep, at_⟩ := dd.dictAt
  have kk : ps.map (·.1) = ks.map Sum.inl := rel.keys.symm.trans ek
  have ll : ps.length = ks.length := by
    have e := congrArg List.length kk
    simpa using e
  have sl : ps.length ≤ sizeLine := by rw [ll]; exact sz few
  refine Calls.call_function_entry PyProof.Rows.kind_sorted PyProof.Rows.plain_sorted PyProof.Rows.entry_sorted (PyProof.Rows.args_sorted1 _) ?_
  unfold Builtin.«sorted»
  refine wpAny_bind (m := checkCount "sorted" 1 1 _) (wpAny_pure ?_)
  refine wpAny_bind (PySem.W.kdu_collect (A := X.A.in1) (PySem.W.kdl_dict (knd := mixKind X.prog X.w) (kvs := ps) (ep := ep) lo) (J.ok.hd hcalm) at_ sl ?_)
  intro hh tk acc keep got
  have al : acc.toList.length = ks.length := by rw [Array.length_toList, got.1, ll]
  have ia : IntsAre acc.toList ks := ints_of_keys al (by
    intro j v e
    obtain ⟨k, x, e1, e2⟩ := got.2 j v (by rw [← Array.getElem?_toList]; exact e)
    have e3 : (ps.map (·.1))[j]? = some k := by rw [List.getElem?_map, e1]; rfl
    rw [kk, List.getElem?_map] at e3
    cases e4 : ks[j]? with
    | none => rw [e4] at e3; cases e3
    | some y =>
      rw [e4] at e3
      cases (Option.some.inj e3 : Sum.inl y = k)
      obtain ⟨t, ev⟩ := keyIs_rel (k := .inl y) e2
      exact ⟨y, t, rfl, ev⟩)
  have J1 : L2.Inv X pn τ G { z with heap := hh, toks := tk } := J.kept keep
  refine wpAny_bind (wpAny_newList ?_ (by rw [al]; exact sz few))
  have new : (hh.push (seqObj "list" acc.toList.toArray 0)).get? hh.objs.size = some (seqObj "list" acc.toList.toArray 0) := Heap.get?_push_size _ rfl
  show wpAny _ _ _ _ _ { z with heap := hh.push (seqObj "list" acc.toList.toArray 0), toks := tk }
  refine wpAny_bind (wpAny_holding (wpAny_call_entry PyProof.Rows.slot_list_sort ⟨_, new, rfl⟩ PyProof.Rows.entry_list_sort
    (SrtO.list_sort_ord (s := { z with heap := hh.push (seqObj "list" acc.toList.toArray 0), toks := tk }) SrtO.swo_int new (by rw [al]; exact sz few) (fun two => SrtO.ints_sortable ia two) fun out s1 s2 => ⟨_, rfl, ?_⟩) (PyProof.Rows.args_list_sort _)))
  obtain ⟨k1, k2, k3⟩ := SrtO.ints_out ia s1 s2
  obtain ⟨e', he'⟩ := PyProof.Rows.sortedHeap_at (vs := acc.toList) (out := out.toArray) new
  have ol : ((out.map SrtO.iv).map V.int).length ≤ sizeLine := by
    rw [List.length_map, k2.length_eq]
    exact sz few
  refine wpAny_pure ⟨_, rfl, .ref hh.objs.size, upd G hh.objs.size (.lst ((out.map SrtO.iv).map V.int)), J1.laid (t' := tk) ?_ (Nat.le_refl _) ⟨ol, out, e', vals_of_ints k1, he'⟩, rfl, q _ _ k2 k3 (J1.hok.fresh (Nat.le_refl _))⟩
  intro b o e
  have lt : b < hh.objs.size := Heap.lt_size e
  rw [PyProof.Rows.sortedHeap_old (Nat.ne_of_lt lt) (by rw [size_push']; exact Nat.lt_succ_of_lt lt)]
  exact Heap.get?_push_of_some _ e
/-! #### rules -/
section
variable {K : PySem.W.Frag} {H : Hp} {Q : VK} {L L' : List SA} {a : Addr}
theorem r_sortedI {ns : List Int} (hs : Hd L H) (h : SqL K H a (ns.map V.int)) (q : ∀ (ms : List Int) p H', ms.Perm ns → ms.Pairwise (· ≤ ·) → Hd (pto p (.lst (ms.map V.int)) :: L) H' → Q (.ref p) H') : rSortedI K [.ref a] H Q :=
  ⟨a, ns, rfl, h, fun ms p h1 h2 n => q ms p _ h1 h2 (hs.new n)⟩
theorem r_sortedD {kvs : List (Key × V)} {ks : List Int} (hs : Hd L H) (h : H a = some (.dK kvs)) (e : kvs.map (·.1) = ks.map Sum.inl) (few : ks.length ≤ 100000) (q : ∀ (ms : List Int) p H', ms.Perm ks → ms.Pairwise (· ≤ ·) → Hd (pto p (.lst (ms.map V.int)) :: L) H' → Q (.ref p) H') : rSortedDI [.ref a] H Q :=
  ⟨a, kvs, ks, rfl, .inl h, e, few, fun ms p h1 h2 n => q ms p _ h1 h2 (hs.new n)⟩
end
/-- two rising lists of the same numbers -/
theorem sorted_eq : ∀ {a b : List Int}, a.Perm b → a.Pairwise (· ≤ ·) → b.Pairwise (· ≤ ·) → a = b
  | [], b, h, _, _ => (List.nil_perm.mp h).symm
  | x :: a, [], h, _, _ => nomatch h.length_eq
  | x :: a, y :: b, h, ha, hb => by
    have ha2 := List.pairwise_cons.mp ha
    have hb2 := List.pairwise_cons.mp hb
    have e : x = y := by
      have h1 : x ∈ y :: b := h.subset List.mem_cons_self
      have h2 : y ∈ x :: a := h.symm.subset List.mem_cons_self
      rcases List.mem_cons.mp h1 with e | m
      · exact e
      rcases List.mem_cons.mp h2 with e | m2
      · exact e.symm
      have := hb2.1 x m
      have := ha2.1 y m2
      omega
    subst e
    rw [sorted_eq (h.cons_inv) ha2.2 hb2.2]
def LenSetK (K : PySem.W.Frag) (Q : VK) (x : V) (H : Hp) : Prop := ∃ (l : Addr) (ns : List Int), x = .ref l ∧ SqL K H l (ns.map V.int) ∧ ns.Nodup ∧ ns.length ≤ 4000 ∧ Q (.int (ns.length : Nat)) H
theorem r_lenSet {K : PySem.W.Frag} {H : Hp} {Q : VK} {ta : TE} {σ : L2.St} (q : ta σ H (LenSetK K Q)) : RZ.tLenSetI K ta σ H Q := q
theorem r_lenSetK {K : PySem.W.Frag} {H : Hp} {Q : VK} {a : Addr} {ns : List Int} (h : SqL K H a (ns.map V.int)) (nd : ns.Nodup) (few : ns.length ≤ 4000) (q : Q (.int (ns.length : Nat)) H) : LenSetK K Q (.ref a) H := ⟨a, ns, rfl, h, nd, few, q⟩
end Sl

set_option linter.all false
set_option maxRecDepth 100000
set_option maxHeartbeats 1000000
namespace Sl
open PySem L2
/-! ### dicts by numbers, of anything -/
section
variable {α : Type} {f : α → V}
def dM (f : α → V) (d : List (Int × α)) : List (Key × V) := d.map fun e => (.inl e.1, f e.2)
def getM (d : List (Int × α)) (n : Int) : Option α := (d.find? fun e => decide (e.1 = n)).map (·.2)
def putM (d : List (Int × α)) (n : Int) (l : α) : List (Int × α) := if d.any fun e => decide (e.1 = n) then d.map fun e => if e.1 = n then (e.1, l) else e else d ++ [(n, l)]
def dropM (d : List (Int × α)) (n : Int) : List (Int × α) := d.filter fun e => decide (e.1 ≠ n)
theorem valV_dM (d : List (Int × α)) (n : Int) : valV (dM f d) (.inl n) = (getM d n).map f := by
  induction d with
  | nil => rfl
  | cons e r ih =>
    by_cases h : e.1 = n
    · rw [show dM f (e :: r) = (.inl e.1, f e.2) :: dM f r from rfl, valV_pos (by rw [h])]
      simp [getM, List.find?_cons, h]
    · rw [show dM f (e :: r) = (.inl e.1, f e.2) :: dM f r from rfl, valV_neg (fun q => h (Sum.inl.inj q)), ih]
      simp [getM, List.find?_cons, h]
theorem any_dM (d : List (Int × α)) (n : Int) : ((dM f d).any fun kv => decide (kv.1 = (Sum.inl n : Key))) = d.any fun e => decide (e.1 = n) := by
  unfold dM
  rw [List.any_map]
  congr 1
  funext e
  exact dec_inl _ _
theorem putK_dM (d : List (Int × α)) (n : Int) (l : α) : putK (dM f d) (.inl n) (f l) = dM f (putM d n l) := by
  unfold putK putM
  rw [any_dM]
  by_cases h : (d.any fun e => decide (e.1 = n)) = true
  · rw [if_pos h, if_pos h]
    unfold dM
    rw [List.map_map, List.map_map]
    congr 1
    funext e
    show (if (Sum.inl e.1 : Key) = Sum.inl n then _ else _) = _
    by_cases q : e.1 = n
    · rw [if_pos (by rw [q])]
      show _ = (Sum.inl (if e.1 = n then (e.1, l) else e).1, f (if e.1 = n then (e.1, l) else e).2)
      rw [if_pos q]
    · rw [if_neg (fun z => q (Sum.inl.inj z))]
      show _ = (Sum.inl (if e.1 = n then (e.1, l) else e).1, f (if e.1 = n then (e.1, l) else e).2)
      rw [if_neg q]
  · rw [if_neg h, if_neg h]
    unfold dM
    rw [List.map_append]
    rfl
theorem dropK_dM (d : List (Int × α)) (n : Int) : dropK (dM f d) (.inl n) = dM f (dropM d n) := by
  unfold dropK dropM dM
  rw [List.filter_map]
  congr 1
  congr 1
  funext e
  by_cases q : e.1 = n
  · simp [q]
  · simp [q]
theorem len_dM (d : List (Int × α)) : (dM f d).length = d.length := by
  unfold dM
  rw [List.length_map]
theorem len_putM (d : List (Int × α)) (n : Int) (l : α) : (putM d n l).length ≤ d.length + 1 := by
  unfold putM
  split
  · rw [List.length_map]
    omega
  · simp
theorem len_dropM (d : List (Int × α)) (n : Int) : (dropM d n).length ≤ d.length := List.length_filter_le _ _
theorem getM_drop (d : List (Int × α)) (n m : Int) : getM (dropM d n) m = if m = n then none else getM d m := by
  induction d with
  | nil =>
    split <;> rfl
  | cons e r ih =>
    unfold dropM at ih ⊢
    by_cases h : e.1 = n
    · rw [List.filter_cons, if_neg (by simp [h]), ih]
      by_cases q : m = n
      · rw [if_pos q, if_pos q]
      · rw [if_neg q, if_neg q]
        simp only [getM, List.find?_cons]
        rw [decide_eq_false (fun z => q (z.symm.trans h))]
    · rw [List.filter_cons, if_pos (by simp [h])]
      by_cases q : e.1 = m
      · subst q
        rw [if_neg h]
        simp [getM, List.find?_cons]
      · have a1 : getM (e :: List.filter (fun e => decide (e.1 ≠ n)) r) m = getM (List.filter (fun e => decide (e.1 ≠ n)) r) m := by
          simp only [getM, List.find?_cons]
          rw [decide_eq_false q]
        have a2 : getM (e :: r) m = getM r m := by
          simp only [getM, List.find?_cons]
          rw [decide_eq_false q]
        rw [a1, a2, ih]

theorem getM_cons (e : Int × α) (r : List (Int × α)) (m : Int) : getM (e :: r) m = if e.1 = m then some e.2 else getM r m := by
  unfold getM
  rw [List.find?_cons]
  by_cases h : e.1 = m
  · rw [decide_eq_true h, if_pos h]
    rfl
  · rw [decide_eq_false h, if_neg h]
theorem getM_put (d : List (Int × α)) (n m : Int) (l : α) : getM (putM d n l) m = if m = n then some l else getM d m := by
  have key : ∀ d : List (Int × α), getM (d.map fun e => if e.1 = n then (e.1, l) else e) m = if m = n then (if (d.any fun e => decide (e.1 = n)) = true then some l else none) else getM d m := by
    intro d
    induction d with
    | nil => split <;> rfl
    | cons e r ih =>
      rw [List.map_cons, getM_cons, ih, getM_cons, List.any_cons]
      by_cases h : e.1 = n
      · rw [if_pos h]
        by_cases q : m = n
        · rw [if_pos (show (e.1, l).1 = m from h.trans q.symm), if_pos q, decide_eq_true h, Bool.true_or, if_pos rfl]
        · rw [if_neg (show ¬ (e.1, l).1 = m from fun z => q (z.symm.trans h)), if_neg q, if_neg q, if_neg (fun z => q (z.symm.trans h))]
      · rw [if_neg h, decide_eq_false h, Bool.false_or]
        by_cases q : m = n
        · rw [if_pos q, if_neg (fun z => h (z.trans q)), if_pos q]
        · rw [if_neg q, if_neg q]
  have app : ∀ d : List (Int × α), getM (d ++ [(n, l)]) m = match getM d m with | some x => some x | none => if n = m then some l else none := by
    intro d
    induction d with
    | nil => rw [List.nil_append, getM_cons]; rfl
    | cons e r ih =>
      rw [List.cons_append, getM_cons, ih, getM_cons]
      by_cases h : e.1 = m
      · rw [if_pos h, if_pos h]
      · rw [if_neg h, if_neg h]
  unfold putM
  by_cases h : (d.any fun e => decide (e.1 = n)) = true
  · rw [if_pos h, key, h, if_pos rfl]
  · rw [if_neg h, app]
    have g : ∀ d : List (Int × α), ¬ (d.any fun e => decide (e.1 = n)) = true → getM d n = none := by
      intro d
      induction d with
      | nil => intro _; rfl
      | cons e r ih =>
        intro z
        rw [List.any_cons] at z
        by_cases y : e.1 = n
        · rw [decide_eq_true y] at z
          exact (z rfl).elim
        · rw [decide_eq_false y, Bool.false_or] at z
          rw [getM_cons, if_neg y, ih z]
    by_cases q : m = n
    · subst q
      rw [g d h]
    · rw [if_neg q, if_neg (Ne.symm q)]
      cases getM d m <;> rfl
def keysM (d : List (Int × α)) : List Int := d.map fun e => e.1
theorem keys_dM (d : List (Int × α)) : (dM f d).map (·.1) = (keysM d).map Sum.inl := by
  unfold dM keysM
  rw [List.map_map, List.map_map]
  rfl
theorem getM_some {d : List (Int × α)} {n : Int} {x : α} (h : getM d n = some x) : (n, x) ∈ d := by
  induction d with
  | nil => cases h
  | cons e r ih =>
    rw [getM_cons] at h
    by_cases q : e.1 = n
    · rw [if_pos q] at h
      cases h
      subst q
      exact List.mem_cons_self ..
    · rw [if_neg q] at h
      exact List.mem_cons_of_mem _ (ih h)
theorem mem_keysM {d : List (Int × α)} {n : Int} : n ∈ keysM d ↔ (getM d n).isSome = true := by
  induction d with
  | nil => constructor <;> intro h <;> cases h
  | cons e r ih =>
    rw [getM_cons, keysM, List.map_cons, List.mem_cons]
    by_cases q : e.1 = n
    · rw [if_pos q]
      exact ⟨fun _ => rfl, fun _ => .inl q.symm⟩
    · rw [if_neg q, ← ih]
      exact ⟨fun h => h.elim (fun z => (q z.symm).elim) id, .inr⟩
/-- with keys apart what stands at a place is what its key leads to -/
theorem getM_at {d : List (Int × α)} (nd : (keysM d).Nodup) {n : Int} {x : α} (h : (n, x) ∈ d) : getM d n = some x := by
  induction d with
  | nil => cases h
  | cons e r ih =>
    rw [keysM, List.map_cons, List.nodup_cons] at nd
    rw [getM_cons]
    rcases List.mem_cons.mp h with z | z
    · subst z
      rw [if_pos rfl]
    · rw [if_neg (fun q => nd.1 (by rw [q]; exact List.mem_map.mpr ⟨_, z, rfl⟩)), ih nd.2 z]
end
/-! ### sorting -/
def insI (x : Int) : List Int → List Int
  | [] => [x]
  | y :: r => if x ≤ y then x :: y :: r else y :: insI x r
def srt : List Int → List Int
  | [] => []
  | x :: r => insI x (srt r)
theorem insI_perm (x : Int) : ∀ r : List Int, (insI x r).Perm (x :: r)
  | [] => .refl _
  | y :: r => by
    unfold insI
    split
    · exact .refl _
    · exact ((insI_perm x r).cons y).trans (.swap x y r)
theorem srt_perm : ∀ r : List Int, (srt r).Perm r
  | [] => .refl _
  | x :: r => (insI_perm x (srt r)).trans ((srt_perm r).cons x)
theorem insI_pw (x : Int) : ∀ {r : List Int}, r.Pairwise (· ≤ ·) → (insI x r).Pairwise (· ≤ ·)
  | [], _ => List.pairwise_singleton _ _
  | y :: r, h => by
    unfold insI
    rw [List.pairwise_cons] at h
    split
    · rename_i q
      refine List.pairwise_cons.mpr ⟨fun z m => ?_, List.pairwise_cons.mpr h⟩
      rcases List.mem_cons.mp m with e | m
      · rw [e]; exact q
      · exact Int.le_trans q (h.1 z m)
    · rename_i q
      refine List.pairwise_cons.mpr ⟨fun z m => ?_, insI_pw x h.2⟩
      rcases List.mem_cons.mp ((insI_perm x r).mem_iff.mp m) with e | m
      · rw [e]; omega
      · exact h.1 z m
theorem srt_pw : ∀ r : List Int, (srt r).Pairwise (· ≤ ·)
  | [] => .nil
  | x :: r => insI_pw x (srt_pw r)
theorem srt_eq {ms ns : List Int} (h : ms.Perm ns) (p : ms.Pairwise (· ≤ ·)) : ms = srt ns := sorted_eq (h.trans (srt_perm ns).symm) p (srt_pw ns)
theorem srt_of {ns : List Int} (p : ns.Pairwise (· ≤ ·)) : srt ns = ns := (srt_eq (.refl _) p).symm
theorem srt_congr {ms ns : List Int} (h : ms.Perm ns) : srt ms = srt ns := srt_eq ((srt_perm ms).trans h) (srt_pw ms)
end Sl

set_option linter.all false
set_option maxRecDepth 100000
set_option maxHeartbeats 1000000
namespace Sl
open PySem L2
/-! ### the tasks' model: parents of those alive, husks with parents and words, the last number -/
structure TaskU where
  ov : List (Int × Int)
  sh : List (Int × (Int × Int))
  last : Int
namespace TaskU
def new : TaskU := ⟨[(1, 0)], [], 1⟩
def born (u : TaskU) (p : Int) : TaskU := { u with ov := putM u.ov (u.last + 1) p, last := u.last + 1 }
def heir (u : TaskU) (n : Int) : Int := if 1 ∈ keysM (dropM u.ov n) then 1 else 0
def par (u : TaskU) (n : Int) : Int := (getM u.ov n).getD 0
def giveO (ov : List (Int × Int)) (n o : Int) : List (Int × Int) := ov.map fun e => if e.2 = n then (e.1, o) else e
def giveS : List (Int × (Int × Int)) → Int → Int → List (Int × (Int × Int))
  | [], _, _ => []
  | e :: r, n, o => if e.2.1 = n then (if o = 0 then giveS r n o else (e.1, (o, e.2.2)) :: giveS r n o) else e :: giveS r n o
def endN (u : TaskU) (n w : Int) : TaskU :=
  { u with ov := giveO (dropM u.ov n) n (u.heir n), sh := giveS (if u.par n = 0 then u.sh else putM u.sh n (u.par n, w)) n (u.heir n) }
def kids (u : TaskU) (n : Int) : List Int := srt (((u.ov.filter fun e => decide (e.2 = n)).map fun e => e.1) ++ ((u.sh.filter fun e => decide (e.2.1 = n)).map fun e => e.1))
def husksOf (u : TaskU) (n : Int) : List Int := (u.kids n).filter fun k => decide (k ∈ keysM u.sh)
/-- whose child one is, alive or a husk -/
def parOf (u : TaskU) (n : Int) : Int := match getM u.ov n with | some p => p | none => ((getM u.sh n).map (·.1)).getD 0
def gone (u : TaskU) (k : Int) : TaskU := { u with sh := dropM u.sh k }
end TaskU
structure WT (u : TaskU) : Prop where
  nd : (keysM u.ov ++ keysM u.sh).Nodup
  rng : ∀ k ∈ keysM u.ov ++ keysM u.sh, 1 ≤ k ∧ k ≤ u.last
  par : ∀ k p, getM u.ov k = some p → p = 0 ∨ p ∈ keysM u.ov
  top : 1 ∈ keysM u.ov → ∀ k p, getM u.ov k = some p → (p = 0 ↔ k = 1)
  one : 1 ∉ keysM u.sh
  shp : ∀ k x, getM u.sh k = some x → x.1 ∈ keysM u.ov
section
variable {u : TaskU} {n w p k : Int}
theorem keysM_put_new {α : Type} {d : List (Int × α)} {l : α} (h : n ∉ keysM d) : putM d n l = d ++ [(n, l)] := by
  unfold putM
  rw [if_neg]
  intro z
  obtain ⟨e, m, q⟩ := List.any_eq_true.mp z
  exact h (List.mem_map.mpr ⟨e, m, of_decide_eq_true q⟩)
theorem keysM_app {α : Type} (a b : List (Int × α)) : keysM (a ++ b) = keysM a ++ keysM b := List.map_append
theorem keysM_drop {α : Type} (d : List (Int × α)) (n : Int) : keysM (dropM d n) = (keysM d).filter fun k => decide (k ≠ n) := by
  unfold keysM dropM
  rw [List.filter_map]
  rfl
theorem keys_giveO (ov : List (Int × Int)) (n o : Int) : keysM (TaskU.giveO ov n o) = keysM ov := by
  unfold TaskU.giveO keysM
  rw [List.map_map]
  congr 1
  funext e
  show (if e.2 = n then (e.1, o) else e).1 = e.1
  split <;> rfl
theorem get_giveO (n o k : Int) : ∀ ov : List (Int × Int), getM (TaskU.giveO ov n o) k = (getM ov k).map fun p => if p = n then o else p
  | [] => rfl
  | e :: r => by
    show getM ((if e.2 = n then (e.1, o) else e) :: TaskU.giveO r n o) k = _
    rw [getM_cons, getM_cons, get_giveO n o k r]
    by_cases h : e.2 = n
    · rw [if_pos h]
      by_cases q : e.1 = k
      · rw [if_pos q, if_pos q, Option.map_some, if_pos h]
      · rw [if_neg q, if_neg q]
    · rw [if_neg h]
      by_cases q : e.1 = k
      · rw [if_pos q, if_pos q, Option.map_some, if_neg h]
      · rw [if_neg q, if_neg q]
theorem keys_giveS_sub (n o : Int) : ∀ sh : List (Int × (Int × Int)), (keysM (TaskU.giveS sh n o)).Sublist (keysM sh)
  | [] => .slnil
  | e :: r => by
    have ih := keys_giveS_sub n o r
    unfold TaskU.giveS
    by_cases h : e.2.1 = n
    · rw [if_pos h]
      by_cases q : o = 0
      · rw [if_pos q]
        exact ih.cons _
      · rw [if_neg q]
        exact ih.cons₂ _
    · rw [if_neg h]
      exact ih.cons₂ _
theorem mem_giveS {n o : Int} {e : Int × (Int × Int)} : ∀ {sh : List (Int × (Int × Int))}, e ∈ TaskU.giveS sh n o → (e ∈ sh ∧ e.2.1 ≠ n) ∨ (o ≠ 0 ∧ e.2.1 = o)
  | [], h => by cases h
  | x :: r, h => by
    unfold TaskU.giveS at h
    have up : ((e ∈ r ∧ e.2.1 ≠ n) ∨ (o ≠ 0 ∧ e.2.1 = o)) → ((e ∈ x :: r ∧ e.2.1 ≠ n) ∨ (o ≠ 0 ∧ e.2.1 = o)) := fun z => z.imp (fun y => ⟨List.mem_cons_of_mem _ y.1, y.2⟩) id
    by_cases hx : x.2.1 = n
    · rw [if_pos hx] at h
      by_cases ho : o = 0
      · rw [if_pos ho] at h
        exact up (mem_giveS h)
      · rw [if_neg ho] at h
        rcases List.mem_cons.mp h with z | z
        · rw [z]
          exact .inr ⟨ho, rfl⟩
        · exact up (mem_giveS z)
    · rw [if_neg hx] at h
      rcases List.mem_cons.mp h with z | z
      · rw [z]
        exact .inl ⟨List.mem_cons_self .., hx⟩
      · exact up (mem_giveS z)
theorem WT.new : WT TaskU.new where
  nd := by decide
  rng := by decide
  par := fun k p h => by
    have := getM_some h
    rcases List.mem_cons.mp this with e | e
    · cases e; exact .inl rfl
    · cases e
  top := fun _ k p h => by
    have := getM_some h
    rcases List.mem_cons.mp this with e | e
    · cases e; decide
    · cases e
  one := by decide
  shp := fun k x h => by cases h
theorem WT.fresh (W : WT u) : u.last + 1 ∉ keysM u.ov ++ keysM u.sh := fun m => by
  have := (W.rng _ m).2
  omega
theorem WT.ndO (W : WT u) : (keysM u.ov).Nodup := (List.nodup_append.mp W.nd).1
theorem WT.ndS (W : WT u) : (keysM u.sh).Nodup := (List.nodup_append.mp W.nd).2.1
theorem WT.apart (W : WT u) (h : k ∈ keysM u.ov) : k ∉ keysM u.sh := fun m => (List.nodup_append.mp W.nd).2.2 k h k m rfl
theorem WT.born (W : WT u) (hp : p ∈ keysM u.ov) (hl : 1 ≤ u.last) : WT (u.born p) := by
  have fr := W.fresh
  have f1 : u.last + 1 ∉ keysM u.ov := fun m => fr (List.mem_append_left _ m)
  have f2 : u.last + 1 ∉ keysM u.sh := fun m => fr (List.mem_append_right _ m)
  have ek : keysM (u.born p).ov = keysM u.ov ++ [u.last + 1] := by
    show keysM (putM u.ov _ p) = _
    rw [keysM_put_new f1, keysM_app]
    rfl
  have p1 : 1 ≤ p := (W.rng p (List.mem_append_left _ hp)).1
  refine ⟨?_, ?_, ?_, ?_, W.one, ?_⟩
  · rw [ek]
    have : (keysM u.ov ++ [u.last + 1] ++ keysM u.sh).Perm ((u.last + 1) :: (keysM u.ov ++ keysM u.sh)) := by
      rw [List.append_assoc]
      exact List.perm_middle
    exact this.nodup_iff.mpr (List.nodup_cons.mpr ⟨fr, W.nd⟩)
  · intro k m
    rw [ek] at m
    show 1 ≤ k ∧ k ≤ u.last + 1
    simp only [List.mem_append, List.mem_singleton] at m
    rcases m with (m | m) | m
    · have := W.rng k (List.mem_append_left _ m); omega
    · omega
    · have := W.rng k (List.mem_append_right _ m); omega
  · intro k x h
    rw [show getM (u.born p).ov k = _ from getM_put u.ov (u.last + 1) k p] at h
    rw [ek]
    by_cases e : k = u.last + 1
    · rw [if_pos e] at h
      cases h
      exact .inr (List.mem_append_left _ hp)
    · rw [if_neg e] at h
      exact (W.par k x h).imp id fun m => List.mem_append_left _ m
  · intro h1 k x h
    rw [show getM (u.born p).ov k = _ from getM_put u.ov (u.last + 1) k p] at h
    by_cases e : k = u.last + 1
    · rw [if_pos e] at h
      cases h
      omega
    · rw [if_neg e] at h
      refine W.top ?_ k x h
      rw [ek] at h1
      rcases List.mem_append.mp h1 with m | m
      · exact m
      · have := List.mem_singleton.mp m
        omega
  · intro k x h
    rw [ek]
    exact List.mem_append_left _ (W.shp k x h)
theorem WT.gone (W : WT u) (k : Int) : WT (u.gone k) := by
  have sub : (keysM (u.gone k).sh).Sublist (keysM u.sh) := by
    rw [show (u.gone k).sh = dropM u.sh k from rfl, keysM_drop]
    exact List.filter_sublist
  refine ⟨W.nd.sublist ((List.Sublist.refl _).append sub), fun x m => W.rng x (((List.Sublist.refl _).append sub).mem m), W.par, W.top, fun m => W.one (sub.mem m), fun x y h => ?_⟩
  rw [show getM (u.gone k).sh x = _ from getM_drop u.sh k x] at h
  by_cases e : x = k
  · rw [if_pos e] at h
    cases h
  · rw [if_neg e] at h
    exact W.shp x y h
theorem WT.endN (W : WT u) (hn : n ∈ keysM u.ov) : WT (u.endN n w) := by
  have ko : keysM (u.endN n w).ov = (keysM u.ov).filter fun k => decide (k ≠ n) := by
    show keysM (TaskU.giveO _ _ _) = _
    rw [keys_giveO, keysM_drop]
  have hs1 : n ∉ keysM u.sh := W.apart hn
  obtain ⟨sh1, es⟩ : ∃ sh1, sh1 = (if u.par n = 0 then u.sh else putM u.sh n (u.par n, w)) := ⟨_, rfl⟩
  have k1 : (keysM sh1).Sublist (keysM u.sh ++ [n]) := by
    rw [es]
    split
    · exact List.sublist_append_left _ _
    · rw [keysM_put_new hs1, keysM_app]
      exact List.Sublist.refl _
  have ks : (keysM (u.endN n w).sh).Sublist (keysM u.sh ++ [n]) := by
    show (keysM (TaskU.giveS _ _ _)).Sublist _
    rw [← es]
    exact (keys_giveS_sub _ _ _).trans k1
  have mo : ∀ k, k ∈ keysM (u.endN n w).ov ↔ (k ∈ keysM u.ov ∧ k ≠ n) := fun k => by
    rw [ko, List.mem_filter, decide_eq_true_iff]
  have hh : u.heir n = if 1 ∈ keysM (u.endN n w).ov then 1 else 0 := by
    show (if _ then _ else _) = _
    rw [show keysM (u.endN n w).ov = keysM (dropM u.ov n) from keys_giveO ..]
  have hin : u.heir n = 0 ∨ (u.heir n = 1 ∧ 1 ∈ keysM (u.endN n w).ov) := by
    rw [hh]
    split
    · exact .inr ⟨rfl, by assumption⟩
    · exact .inl rfl
  have np : n ≠ 0 := by
    have := (W.rng n (List.mem_append_left _ hn)).1
    omega
  have go : ∀ k p, getM (u.endN n w).ov k = some p → k ≠ n ∧ ∃ p0, getM u.ov k = some p0 ∧ p = if p0 = n then u.heir n else p0 := by
    intro k p h
    rw [show getM (u.endN n w).ov k = _ from get_giveO _ _ _ _, getM_drop] at h
    by_cases e : k = n
    · rw [if_pos e] at h
      cases h
    · rw [if_neg e] at h
      refine ⟨e, ?_⟩
      cases g : getM u.ov k with
      | none => rw [g] at h; cases h
      | some p0 =>
        rw [g] at h
        exact ⟨p0, rfl, (Option.some.inj h).symm⟩
  refine ⟨?_, ?_, ?_, ?_, ?_, ?_⟩
  · refine List.nodup_append.mpr ⟨by rw [ko]; exact W.ndO.sublist List.filter_sublist, ?_, ?_⟩
    · refine List.Nodup.sublist ks (List.nodup_append.mpr ⟨W.ndS, List.pairwise_singleton _ _, ?_⟩)
      intro a ma b mb e
      rw [List.mem_singleton.mp mb] at e
      exact hs1 (e ▸ ma)
    · intro a ma b mb e
      subst e
      have h1 := (mo a).mp ma
      rcases List.mem_append.mp (ks.mem mb) with m | m
      · exact W.apart h1.1 m
      · exact h1.2 (List.mem_singleton.mp m)
  · intro k m
    show 1 ≤ k ∧ k ≤ u.last
    rcases List.mem_append.mp m with m | m
    · exact W.rng k (List.mem_append_left _ ((mo k).mp m).1)
    · rcases List.mem_append.mp (ks.mem m) with m | m
      · exact W.rng k (List.mem_append_right _ m)
      · rw [List.mem_singleton.mp m]
        exact W.rng n (List.mem_append_left _ hn)
  · intro k p h
    obtain ⟨e, p0, h0, hp⟩ := go k p h
    rw [hp]
    by_cases q : p0 = n
    · rw [if_pos q]
      rcases hin with z | z
      · exact .inl z
      · rw [z.1]
        exact .inr z.2
    · rw [if_neg q]
      rcases W.par k p0 h0 with z | z
      · exact .inl z
      · exact .inr ((mo _).mpr ⟨z, q⟩)
  · intro h1 k p h
    obtain ⟨e, p0, h0, hp⟩ := go k p h
    have t := W.top ((mo 1).mp h1).1 k p0 h0
    rw [hp]
    by_cases q : p0 = n
    · rw [if_pos q, hh, if_pos h1]
      constructor
      · intro z; cases z
      · intro z
        have := t.mpr z
        omega
    · rw [if_neg q]
      exact t
  · intro m
    rcases List.mem_append.mp (ks.mem m) with m | m
    · exact W.one m
    · rename_i m0
      have e1 : n = 1 := (List.mem_singleton.mp m).symm
      subst e1
      have m2 : 1 ∈ keysM sh1 := by
        rw [es]
        exact (keys_giveS_sub _ _ _).mem m0
      rw [es] at m2
      have : u.par 1 = 0 := by
        obtain ⟨x, hx⟩ := Option.isSome_iff_exists.mp (mem_keysM.mp hn)
        show (getM u.ov 1).getD 0 = 0
        rw [hx]
        exact (W.top hn 1 x hx).mpr rfl
      rw [if_pos this] at m2
      exact W.one m2
  · intro k x h
    have m := getM_some h
    rcases mem_giveS m with ⟨m1, m2⟩ | ⟨h1, h2⟩
    · have m3 : x.1 ∈ keysM u.ov := by
        split at m1
        · exact W.shp k x (getM_at W.ndS m1)
        · rename_i hp
          rw [keysM_put_new hs1] at m1
          rcases List.mem_append.mp m1 with y | y
          · exact W.shp k x (getM_at W.ndS y)
          · cases List.mem_singleton.mp y
            obtain ⟨z, hz⟩ := Option.isSome_iff_exists.mp (mem_keysM.mp hn)
            have ez : u.par n = z := by
              show (getM u.ov n).getD 0 = z
              rw [hz]
              rfl
            rw [ez] at hp ⊢
            exact (W.par n z hz).resolve_left hp
      exact (mo _).mpr ⟨m3, m2⟩
    · rw [h2]
      rcases hin with z | z
      · exact (h1 z).elim
      · rw [z.1]
        exact z.2
/-- nobody is its own parent -/
def WNe (u : TaskU) : Prop := ∀ k p, getM u.ov k = some p → p ≠ k
theorem WNe.new : WNe TaskU.new := fun k p h => by
  rw [show TaskU.new.ov = [(1, 0)] from rfl, getM_cons] at h
  split at h
  · cases h
    omega
  · cases h
theorem WNe.born (N : WNe u) (W : WT u) (hp : p ∈ keysM u.ov) : WNe (u.born p) := fun k x h => by
  rw [show getM (u.born p).ov k = _ from getM_put u.ov (u.last + 1) k p] at h
  split at h
  · cases h
    have := (W.rng p (List.mem_append_left _ hp)).2
    omega
  · exact N k x h
theorem WNe.endN (N : WNe u) (W : WT u) (h1 : 1 ∈ keysM u.ov) (hn : n ∈ keysM u.ov) : WNe (u.endN n w) := fun k x h => by
  rw [show getM (u.endN n w).ov k = _ from get_giveO _ _ _ _, getM_drop] at h
  by_cases e : k = n
  · rw [if_pos e] at h
    cases h
  · rw [if_neg e] at h
    cases g : getM u.ov k with
    | none => rw [g] at h; cases h
    | some p0 =>
      rw [g, Option.map_some] at h
      have h := (Option.some.inj h).symm
      have hk := W.rng k (List.mem_append_left _ (mem_keysM.mpr (by rw [g]; rfl)))
      split at h
      · rename_i z
        have t := W.top h1 k p0 g
        rw [h]
        unfold TaskU.heir
        split
        · intro y
          have hk1 : k = 1 := y.symm
          rw [hk1] at e
          have hp0 := t.mpr hk1
          have := W.rng k (List.mem_append_left _ (mem_keysM.mpr (by rw [g]; rfl)))
          rename_i m1
          rw [keysM_drop, List.mem_filter] at m1
          have nn := W.ndO
          have := N k p0 g
          rw [z] at hp0
          have := W.rng n (List.mem_append_left _ hn)
          omega
        · omega
      · rw [h]
        exact N k p0 g
theorem len_endO (W : WT u) (hn : n ∈ keysM u.ov) : (u.endN n w).ov.length + 1 = u.ov.length := by
  show (TaskU.giveO (dropM u.ov n) n (u.heir n)).length + 1 = _
  unfold TaskU.giveO
  rw [List.length_map]
  have e : (dropM u.ov n).length = (keysM (dropM u.ov n)).length := (List.length_map _).symm
  have e2 : u.ov.length = (keysM u.ov).length := (List.length_map _).symm
  rw [e, e2, keysM_drop]
  have p : (keysM u.ov).Perm (n :: (keysM u.ov).erase n) := List.perm_cons_erase hn
  rw [p.length_eq, List.length_cons]
  congr 1
  have nd := W.ndO
  rw [List.Nodup.erase_eq_filter nd]
  congr 1
  apply List.filter_congr
  intro x _
  by_cases q : x = n <;> simp [q]
theorem len_giveS (n o : Int) : ∀ sh : List (Int × (Int × Int)), (TaskU.giveS sh n o).length ≤ sh.length
  | [] => Nat.le_refl _
  | e :: r => by
    have ih := len_giveS n o r
    unfold TaskU.giveS
    repeat' split
    all_goals simp only [List.length_cons]; omega
theorem len_endS : (u.endN n w).sh.length ≤ u.sh.length + 1 := by
  refine Nat.le_trans (len_giveS _ _ _) ?_
  split
  · omega
  · exact len_putM _ _ _
theorem get_giveS_ne {n o k : Int} {x : Int × Int} (h : x.1 ≠ n) : ∀ {sh : List (Int × (Int × Int))}, (keysM sh).Nodup → getM sh k = some x → getM (TaskU.giveS sh n o) k = some x
  | [], _, e => by cases e
  | y :: r, nd, e => by
    have nd2 := (List.nodup_cons.mp (show (y.1 :: keysM r).Nodup from nd))
    rw [getM_cons] at e
    unfold TaskU.giveS
    by_cases q : y.1 = k
    · rw [if_pos q] at e
      cases e
      rw [if_neg h, getM_cons, if_pos q]
    · rw [if_neg q] at e
      have ih := get_giveS_ne (o := o) h nd2.2 e
      split
      · split
        · exact ih
        · rw [getM_cons, if_neg q, ih]
      · rw [getM_cons, if_neg q, ih]
theorem kids_end (W : WT u) (N : WNe u) (hp : getM u.ov n = some p) (p0 : p ≠ 0) : n ∈ (u.endN n w).kids p := by
  have hn : n ∈ keysM u.ov := mem_keysM.mpr (by rw [hp]; rfl)
  have ep : u.par n = p := by unfold TaskU.par; rw [hp]; rfl
  have ns := W.apart hn
  have g1 : getM (u.endN n w).sh n = some (p, w) := by
    show getM (TaskU.giveS (if u.par n = 0 then u.sh else putM u.sh n (u.par n, w)) n (u.heir n)) n = _
    rw [ep, if_neg p0]
    refine get_giveS_ne (N n p hp) ?_ (by rw [getM_put, if_pos rfl])
    rw [keysM_put_new ns, keysM_app]
    exact List.nodup_append.mpr ⟨W.ndS, List.pairwise_singleton _ _, fun a ma b mb e => by
      rw [List.mem_singleton.mp mb] at e
      have e : a = n := e
      exact ns (e ▸ ma)⟩
  unfold TaskU.kids
  refine (srt_perm _).mem_iff.mpr (List.mem_append_right _ (List.mem_map.mpr ⟨(n, (p, w)), List.mem_filter.mpr ⟨getM_some g1, decide_eq_true rfl⟩, rfl⟩))
theorem keys_endO (k : Int) : k ∈ keysM (u.endN n w).ov ↔ (k ∈ keysM u.ov ∧ k ≠ n) := by
  rw [show keysM (u.endN n w).ov = keysM (dropM u.ov n) from keys_giveO .., keysM_drop, List.mem_filter, decide_eq_true_iff]
end
end Sl

set_option linter.all false
set_option maxRecDepth 100000
set_option maxHeartbeats 1000000
namespace Sl
open PySem L2
/-! ### list(d.items()), and a comprehension over items -/
section
variable {K : PySem.W.Frag} {H : Hp} {Q : VK} {a : Addr} {kvs : List (Key × V)} {L : List SA} {te : TE} {σ : L2.St}
theorem pr_mem {α β : Type} {R S : α → β → Prop} {xs : List α} {ys : List β} (h : Paired R xs ys) (f : ∀ a ∈ xs, ∀ b, R a b → S a b) : Paired S xs ys := by
  induction h with
  | nil => exact .nil
  | cons a _ ih => exact .cons (f _ (List.mem_cons_self ..) _ a) (ih fun a m => f a (List.mem_cons_of_mem _ m))
def ItemsK (Q : VK) (x : V) (H : Hp) : Prop := LiI.rItemsL x H Q
theorem r_listItems (q : te σ H (ItemsK Q)) : LiI.tListItems te σ H Q := q
theorem r_listItemsK (hs : Hd L H) (h : H a = some (.dK kvs)) (q : ∀ p ts H', Hd (pto p (.lst (ts.map V.ref)) :: pairsA ts kvs :: L) H' → Q (.ref p) H') : ItemsK Q (.ref a) H := by
  refine ⟨a, kvs, rfl, h, fun H' p ts s np nt pn hp pr => q p ts H' ?_⟩
  refine ⟨one p (.lst (ts.map V.ref)), fun b => if b = p then none else H' b, one_cmp (if_pos rfl), one_sub hp, fun b o e => ?_, one_at, ?_⟩
  · dsimp only at e
    by_cases z : b = p
    · rw [if_pos z] at e
      cases e
    · rw [if_neg z] at e
      exact e
  · refine ⟨fun b => if b ∈ ts then H' b else none, H, fun b o1 o2 e1 e2 => ?_, fun b o e => ?_, fun b o e => ?_, ?_, hs⟩
    · dsimp only at e1
      by_cases z : b ∈ ts
      · rw [nt b z] at e2
        cases e2
      · rw [if_neg z] at e1
        cases e1
    · dsimp only at e ⊢
      by_cases z : b ∈ ts
      · rw [if_pos z] at e
        rw [if_neg (show ¬ b = p from fun y => pn (y ▸ z))]
        exact e
      · rw [if_neg z] at e
        cases e
    · dsimp only
      rw [if_neg (fun y => by rw [y, np] at e; cases e)]
      exact s b o e
    · exact pr_mem pr fun t m kv e => by
        dsimp only
        rw [if_pos m]
        exact e
end
section
variable {K : PySem.W.Frag} {H : Hp} {Q : VK} {d : Addr} {o : Obj} {kvs : List (Key × V)} {L : List SA} {te : TE} {g : TG} {tt : TT} {vs : List Nat} {σ : L2.St} {R : It → Hp → Prop}
def ItemIK (R : It → Hp → Prop) (x : V) (H : Hp) : Prop := ∃ d o kvs, x = .ref d ∧ H d = some (.frz o (.dK kvs)) ∧ R (Iti d o kvs) H
theorem r_items (q : te σ H (ItemIK R)) : iItems te σ H R := q
theorem r_itemsK (h : H d = some (.frz o (.dK kvs))) (q : R (Iti d o kvs) H) : ItemIK R (.ref d) H := ⟨d, o, kvs, rfl, h, q⟩
theorem r_lcItems (P : Addr → Nat → Hp → Prop) (hh : Hd L H) (h0 : ∀ D H', Hd (pto D (.lst []) :: L) H' → P D 0 H') (hl : ∀ D i H, i ≤ kvs.length → P D i H → H d = some (.frz o (.dK kvs)))
    (hs : ∀ D i k v T H, kvs[i]? = some (k, v) → P D i H → H T = none → g (.ref T) (wipe σ vs) (upd H T (.tup [kV k, v])) fun σ2 H2 => wipe σ2 vs = wipe σ vs ∧ tt σ2 H2 fun b H3 => if b = true then te σ2 H3 (AppK D (P D (i + 1))) else P D (i + 1) H3)
    (hd : ∀ D H, P D kvs.length H → Q (.ref D) H) : LcK g tt te vs σ Q (Iti d o kvs) H :=
  r_lcW walk_items P hh h0 hl (fun D i x H H' hi p y => by
    obtain ⟨T, x1, y1, e, n, e2, h1, h2⟩ := y
    obtain ⟨kv, hk⟩ : ∃ kv, kvs[i]? = some kv := ⟨kvs[i], List.getElem?_eq_getElem hi⟩
    dsimp only at h1 h2
    rw [hk] at h1 h2
    cases h1
    cases h2
    subst e e2
    exact hs D i kv.1 kv.2 T H hk p n) hd
end
/-! ### a dict of pairs of numbers -/
def noG (g : List (Int × (Addr × Int × Int))) : List (Int × (Int × Int)) := g.map fun e => (e.1, e.2.2)
def refG (x : Addr × Int × Int) : V := .ref x.1
def tupG (g : List (Int × (Addr × Int × Int))) : SA := fun H => ∀ e ∈ g, H e.2.1 = some (.tup [.int e.2.2.1, .int e.2.2.2])
theorem up_tupG (g : List (Int × (Addr × Int × Int))) : Up (tupG g) := fun _ _ s h e m => s _ _ (h e m)
section
variable {g g' : List (Int × (Addr × Int × Int))} {n k : Int} {t : Addr} {x : Int × Int} {L L' : List SA} {H : Hp}
theorem tupG_nil (h : Hd L H) : Hd (tupG [] :: L) H := ⟨fun _ => none, H, fun _ _ _ h => (nomatch h), fun _ _ h => (nomatch h), Sub.refl _, fun _ m => (nomatch m), h⟩
theorem tupG_sub (h : Hd (tupG g :: L) H) (f : ∀ e ∈ g', e ∈ g) : Hd (tupG g' :: L) H := h.imp fun _ z e m => z e (f e m)
theorem mem_putM {α : Type} {d : List (Int × α)} {l : α} {e : Int × α} (h : e ∈ putM d n l) : e ∈ d ∨ e = (n, l) := by
  unfold putM at h
  split at h
  · obtain ⟨y, m, q⟩ := List.mem_map.mp h
    split at q
    · rename_i z
      subst q
      rw [z]
      exact .inr rfl
    · subst q
      exact .inl m
  · rcases List.mem_append.mp h with m | m
    · exact .inl m
    · exact .inr (List.mem_singleton.mp m)
theorem tupG_put (h : Hd (pto t (.tup [.int x.1, .int x.2]) :: tupG g :: L) H) : Hd (tupG (putM g n (t, x)) :: L) H :=
  Hd.join (up_pto _ _) (up_tupG _) h fun _ z1 z2 e m => by
    rcases mem_putM m with y | y
    · exact z2 e y
    · subst y
      exact z1
theorem tupG_cons (h : Hd (pto t (.tup [.int x.1, .int x.2]) :: tupG g :: L) H) : Hd (tupG ((k, (t, x)) :: g) :: L) H :=
  Hd.join (up_pto _ _) (up_tupG _) h fun _ z1 z2 e m => by
    rcases List.mem_cons.mp m with y | y
    · subst y
      exact z1
    · exact z2 e y
theorem tupG_mem {e : Int × (Addr × Int × Int)} (h : Hd L H) (p : Pull (tupG g) L L') (m : e ∈ g) : H e.2.1 = some (.tup [.int e.2.2.1, .int e.2.2.2]) := (h.at (up_tupG g) p) _ m
theorem tupG_drop (h : Hd (tupG g :: L) H) : Hd (tupG (dropM g n) :: L) H := tupG_sub h fun e m => (List.mem_filter.mp m).1
theorem tupG_get (h : Hd L H) (p : Pull (tupG g) L L') (e : getM g k = some (t, x)) : H t = some (.tup [.int x.1, .int x.2]) := (h.at (up_tupG g) p) _ (getM_some e)
theorem noG_put : noG (putM g n (t, x)) = putM (noG g) n x := by
  unfold putM noG
  rw [List.any_map]
  show (if _ then _ else _ : List _).map _ = if (g.any fun e => decide (e.1 = n)) = true then _ else _
  split
  · rw [List.map_map, List.map_map]
    congr 1
    funext e
    show ((if e.1 = n then (e.1, (t, x)) else e : Int × (Addr × Int × Int)).1, (if e.1 = n then (e.1, (t, x)) else e : Int × (Addr × Int × Int)).2.2) = if e.1 = n then (e.1, x) else (e.1, e.2.2)
    split <;> rfl
  · rw [List.map_append]
    rfl
theorem noG_drop : noG (dropM g n) = dropM (noG g) n := by
  unfold dropM noG
  rw [List.filter_map]
  rfl
theorem noG_get : getM (noG g) n = (getM g n).map (·.2) := by
  induction g with
  | nil => rfl
  | cons e r ih =>
    show getM ((e.1, e.2.2) :: noG r) n = _
    rw [getM_cons, getM_cons, ih]
    split <;> rfl
theorem noG_some (h : getM (noG g) n = some x) : ∃ t, getM g n = some (t, x) := by
  rw [noG_get] at h
  cases q : getM g n with
  | none => rw [q] at h; cases h
  | some y =>
    rw [q] at h
    cases h
    exact ⟨_, rfl⟩
theorem noG_keys : keysM (noG g) = keysM g := by
  unfold keysM noG
  rw [List.map_map]
  rfl
theorem in_dM {α : Type} {f : α → V} (d : List (Int × α)) (n : Int) : (valV (dM f d) (.inl n)).isSome = decide (n ∈ keysM d) := by
  rw [valV_dM, Option.isSome_map]
  by_cases h : n ∈ keysM d
  · rw [decide_eq_true h]
    exact mem_keysM.mp h
  · rw [decide_eq_false h]
    cases e : (getM d n).isSome with
    | false => rfl
    | true => exact (h (mem_keysM.mpr e)).elim
end
/-! ### a loop that gives on, entry by entry -/
def giveAt (ov : List (Int × Int)) (n o : Int) (i : Nat) : List (Int × Int) := TaskU.giveO (ov.take i) n o ++ ov.drop i
theorem giveAt_z (ov : List (Int × Int)) (n o : Int) : giveAt ov n o 0 = ov := rfl
theorem giveAt_all (ov : List (Int × Int)) (n o : Int) : giveAt ov n o ov.length = TaskU.giveO ov n o := by
  unfold giveAt
  rw [List.take_length, List.drop_length, List.append_nil]
theorem put_mid {α : Type} {a b : List (Int × α)} {k : Int} {v l : α} (h1 : k ∉ keysM a) (h2 : k ∉ keysM b) : putM (a ++ (k, v) :: b) k l = a ++ (k, l) :: b := by
  have no : ∀ c : List (Int × α), k ∉ keysM c → (c.map fun e => if e.1 = k then (e.1, l) else e) = c := by
    intro c h
    refine (List.map_congr_left (g := id) fun e m => ?_).trans (List.map_id c)
    exact if_neg fun z => h (List.mem_map.mpr ⟨e, m, z⟩)
  unfold putM
  rw [if_pos (by rw [List.any_append, List.any_cons, decide_eq_true rfl, Bool.true_or, Bool.or_true]), List.map_append, List.map_cons, if_pos rfl, no a h1, no b h2]
theorem giveAt_next {ov : List (Int × Int)} {n o : Int} {i : Nat} {k p : Int} (nd : (keysM ov).Nodup) (e : ov[i]? = some (k, p)) : giveAt ov n o (i + 1) = if p = n then putM (giveAt ov n o i) k o else giveAt ov n o i := by
  obtain ⟨hi, eg⟩ := List.getElem?_eq_some_iff.mp e
  have hd : ov.drop i = (k, p) :: ov.drop (i + 1) := by rw [List.drop_eq_getElem_cons hi, eg]
  have ht : ov.take (i + 1) = ov.take i ++ [(k, p)] := by rw [List.take_succ_eq_append_getElem hi, eg]
  have split : keysM ov = keysM (ov.take i) ++ k :: keysM (ov.drop (i + 1)) := by
    conv => lhs; rw [← List.take_append_drop i ov, hd]
    exact keysM_app _ _
  rw [split] at nd
  have n1 : k ∉ keysM (ov.take i) := fun m => (List.nodup_append.mp nd).2.2 k m k (List.mem_cons_self ..) rfl
  have n2 : k ∉ keysM (ov.drop (i + 1)) := (List.nodup_cons.mp (List.nodup_append.mp nd).2.1).1
  unfold giveAt
  rw [ht, hd]
  have ea : TaskU.giveO (ov.take i ++ [(k, p)]) n o = TaskU.giveO (ov.take i) n o ++ [if p = n then (k, o) else (k, p)] := by
    unfold TaskU.giveO
    rw [List.map_append]
    rfl
  rw [ea]
  split
  · rw [put_mid (by rw [keys_giveO]; exact n1) n2, List.append_assoc]
    rfl
  · rw [List.append_assoc]
    rfl
def giveSAt (sh : List (Int × (Int × Int))) (n o : Int) (i : Nat) : List (Int × (Int × Int)) := TaskU.giveS (sh.take i) n o ++ sh.drop i
theorem giveSAt_z (sh : List (Int × (Int × Int))) (n o : Int) : giveSAt sh n o 0 = sh := rfl
theorem giveSAt_all (sh : List (Int × (Int × Int))) (n o : Int) : giveSAt sh n o sh.length = TaskU.giveS sh n o := by
  unfold giveSAt
  rw [List.take_length, List.drop_length, List.append_nil]
theorem giveS_cons (n o : Int) (e : Int × (Int × Int)) (r : List (Int × (Int × Int))) : TaskU.giveS (e :: r) n o = if e.2.1 = n then (if o = 0 then TaskU.giveS r n o else (e.1, (o, e.2.2)) :: TaskU.giveS r n o) else e :: TaskU.giveS r n o := by
  conv => lhs; unfold TaskU.giveS
theorem giveS_app (n o : Int) (b : List (Int × (Int × Int))) : ∀ a : List (Int × (Int × Int)), TaskU.giveS (a ++ b) n o = TaskU.giveS a n o ++ TaskU.giveS b n o
  | [] => rfl
  | e :: r => by
    rw [List.cons_append, giveS_cons, giveS_cons, giveS_app n o b r]
    split
    · split <;> rfl
    · rfl
theorem drop_mid {α : Type} {a b : List (Int × α)} {k : Int} {v : α} (h1 : k ∉ keysM a) (h2 : k ∉ keysM b) : dropM (a ++ (k, v) :: b) k = a ++ b := by
  have no : ∀ c : List (Int × α), k ∉ keysM c → c.filter (fun e => decide (e.1 ≠ k)) = c := fun c h =>
    List.filter_eq_self.mpr fun e m => decide_eq_true fun z => h (List.mem_map.mpr ⟨e, m, z⟩)
  unfold dropM
  rw [List.filter_append, List.filter_cons, no a h1, no b h2, if_neg (by simp)]
theorem giveSAt_next {sh : List (Int × (Int × Int))} {n o : Int} {i : Nat} {k p w : Int} (nd : (keysM sh).Nodup) (e : sh[i]? = some (k, (p, w))) : giveSAt sh n o (i + 1) = if p = n then (if o = 0 then dropM (putM (giveSAt sh n o i) k (o, w)) k else putM (giveSAt sh n o i) k (o, w)) else giveSAt sh n o i := by
  obtain ⟨hi, eg⟩ := List.getElem?_eq_some_iff.mp e
  have hd : sh.drop i = (k, (p, w)) :: sh.drop (i + 1) := by rw [List.drop_eq_getElem_cons hi, eg]
  have ht : sh.take (i + 1) = sh.take i ++ [(k, (p, w))] := by rw [List.take_succ_eq_append_getElem hi, eg]
  have split : keysM sh = keysM (sh.take i) ++ k :: keysM (sh.drop (i + 1)) := by
    conv => lhs; rw [← List.take_append_drop i sh, hd]
    exact keysM_app _ _
  rw [split] at nd
  have n1 : k ∉ keysM (TaskU.giveS (sh.take i) n o) := fun m => (List.nodup_append.mp nd).2.2 k ((keys_giveS_sub _ _ _).mem m) k (List.mem_cons_self ..) rfl
  have n2 : k ∉ keysM (sh.drop (i + 1)) := (List.nodup_cons.mp (List.nodup_append.mp nd).2.1).1
  have e1 : TaskU.giveS [(k, (p, w))] n o = if p = n then (if o = 0 then [] else [(k, (o, w))]) else [(k, (p, w))] := rfl
  unfold giveSAt
  rw [ht, hd, giveS_app, e1, put_mid n1 n2, drop_mid n1 n2, List.append_assoc]
  by_cases z : p = n
  · rw [if_pos z, if_pos z]
    by_cases y : o = 0
    · rw [if_pos y, if_pos y]
      rfl
    · rw [if_neg y, if_neg y]
      rfl
  · rw [if_neg z, if_neg z]
    rfl
end Sl

set_option linter.all false
set_option maxRecDepth 100000
set_option maxHeartbeats 1000000
namespace Sl
open PySem L2
/-! ### comprehensions over locked dicts whose turns change nothing else -/
section
variable {K : PySem.W.Frag} {H : Hp} {Q : VK} {a d : Addr} {o : Obj} {L : List SA} {te : TE} {g : TG} {tt : TT} {vs : List Nat} {σ : L2.St} {α : Type} {f : α → V}
theorem r_lcDI (d : List (Int × α)) (p : Int × α → Bool) (h : Int × α → V) (hh : Hd L H) (hz : d.length < 100000) (hl : ∀ H, Hd L H → H a = some (.frz o (.dK (dM f d))))
    (step : ∀ (D T : Addr) (acc : List V) (e : Int × α) H (N : V → Hp → Prop) (M : Hp → Prop), e ∈ d → Hd (pto T (.tup [.int e.1, f e.2]) :: pto D (.lst acc) :: L) H → (∀ H', Hd (pto D (.lst acc) :: L) H' → p e = true → N (h e) H') → (∀ H', Hd (pto D (.lst acc) :: L) H' → p e = false → M H') →
      g (.ref T) (wipe σ vs) H fun σ2 H2 => wipe σ2 vs = wipe σ vs ∧ tt σ2 H2 fun b H3 => if b = true then te σ2 H3 N else M H3)
    (hd : ∀ D H, Hd (pto D (.lst ((d.filter p).map h)) :: L) H → Q (.ref D) H) : LcK g tt te vs σ Q (Iti a o (dM f d)) H := by
  refine r_lcItems (fun D i H => Hd (pto D (.lst (((d.take i).filter p).map h)) :: L) H) hh (fun D H h => h) (fun D i H _ h => hl H h.tl) (fun D i k v T H hx hP hT => ?_) (fun D H h => ?_)
  · unfold dM at hx
    rw [List.getElem?_map] at hx
    obtain ⟨e, hx2, ek⟩ := Option.map_eq_some_iff.mp hx
    cases ek
    have et : d.take (i + 1) = d.take i ++ [e] := by rw [List.take_add_one, hx2]; rfl
    refine step D T _ e _ _ _ (List.mem_of_getElem? hx2) (hP.new hT) (fun H' h' pt => ?_) (fun H' h' pf => ?_)
    · refine ⟨_, h'.get .here, ?_, ?_⟩
      · refine szlt ?_
        rw [List.length_map]
        exact Nat.lt_of_le_of_lt (List.length_filter_le _ _) (Nat.lt_of_le_of_lt (List.length_take_le' _ _) (by omega))
      · rw [et, List.filter_append, List.map_append, List.filter_cons, if_pos pt]
        exact h'.set .here fun z => z
    · rw [et, List.filter_append, List.filter_cons, if_neg (by rw [pf]; exact Bool.false_ne_true)]
      simpa using h'
  · rw [len_dM, List.take_length] at h
    exact hd D H h
theorem r_lcDK (d : List (Int × α)) (p : Int × α → Bool) (h : Int × α → V) (hh : Hd L H) (hz : d.length < 100000) (hl : ∀ H, Hd L H → H a = some (.frz o (.dK (dM f d))))
    (step : ∀ (D : Addr) (acc : List V) (e : Int × α) H (N : V → Hp → Prop) (M : Hp → Prop), e ∈ d → Hd (pto D (.lst acc) :: L) H → (∀ H', Hd (pto D (.lst acc) :: L) H' → p e = true → N (h e) H') → (∀ H', Hd (pto D (.lst acc) :: L) H' → p e = false → M H') →
      g (.int e.1) (wipe σ vs) H fun σ2 H2 => wipe σ2 vs = wipe σ vs ∧ tt σ2 H2 fun b H3 => if b = true then te σ2 H3 N else M H3)
    (hd : ∀ D H, Hd (pto D (.lst ((d.filter p).map h)) :: L) H → Q (.ref D) H) : LcK g tt te vs σ Q (Itk a o (dM f d)) H := by
  refine r_lcK (fun D i H => Hd (pto D (.lst (((d.take i).filter p).map h)) :: L) H) hh (fun D H h => h) (fun D i H _ h => hl H h.tl) (fun D i k v H hx hP => ?_) (fun D H h => ?_)
  · unfold dM at hx
    rw [List.getElem?_map] at hx
    obtain ⟨e, hx2, ek⟩ := Option.map_eq_some_iff.mp hx
    cases ek
    have et : d.take (i + 1) = d.take i ++ [e] := by rw [List.take_add_one, hx2]; rfl
    refine step D _ e _ _ _ (List.mem_of_getElem? hx2) hP (fun H' h' pt => ?_) (fun H' h' pf => ?_)
    · refine ⟨_, h'.get .here, ?_, ?_⟩
      · refine szlt ?_
        rw [List.length_map]
        exact Nat.lt_of_le_of_lt (List.length_filter_le _ _) (Nat.lt_of_le_of_lt (List.length_take_le' _ _) (by omega))
      · rw [et, List.filter_append, List.map_append, List.filter_cons, if_pos pt]
        exact h'.set .here fun z => z
    · rw [et, List.filter_append, List.filter_cons, if_neg (by rw [pf]; exact Bool.false_ne_true)]
      simpa using h'
  · rw [len_dM, List.take_length] at h
    exact hd D H h
theorem r_lcDI' (d : List (Int × α)) (p : Int × α → Bool) (k : Int × α → Int) (hh : Hd L H) (hz : d.length < 100000) (hl : ∀ H, Hd L H → H a = some (.frz o (.dK (dM f d))))
    (step : ∀ (D T : Addr) (acc : List V) (e : Int × α) H (N : V → Hp → Prop) (M : Hp → Prop), e ∈ d → Hd (pto T (.tup [.int e.1, f e.2]) :: pto D (.lst acc) :: L) H → (∀ H', Hd (pto D (.lst acc) :: L) H' → p e = true → N (.int (k e)) H') → (∀ H', Hd (pto D (.lst acc) :: L) H' → p e = false → M H') →
      g (.ref T) (wipe σ vs) H fun σ2 H2 => wipe σ2 vs = wipe σ vs ∧ tt σ2 H2 fun b H3 => if b = true then te σ2 H3 N else M H3)
    (hd : ∀ D H, Hd (pto D (.lst (((d.filter p).map k).map V.int)) :: L) H → Q (.ref D) H) : LcK g tt te vs σ Q (Iti a o (dM f d)) H :=
  r_lcDI d p (fun e => .int (k e)) hh hz hl step fun D H h => hd D H (by rw [List.map_map]; exact h)
theorem r_lcDK' (d : List (Int × α)) (p : Int × α → Bool) (k : Int × α → Int) (hh : Hd L H) (hz : d.length < 100000) (hl : ∀ H, Hd L H → H a = some (.frz o (.dK (dM f d))))
    (step : ∀ (D : Addr) (acc : List V) (e : Int × α) H (N : V → Hp → Prop) (M : Hp → Prop), e ∈ d → Hd (pto D (.lst acc) :: L) H → (∀ H', Hd (pto D (.lst acc) :: L) H' → p e = true → N (.int (k e)) H') → (∀ H', Hd (pto D (.lst acc) :: L) H' → p e = false → M H') →
      g (.int e.1) (wipe σ vs) H fun σ2 H2 => wipe σ2 vs = wipe σ vs ∧ tt σ2 H2 fun b H3 => if b = true then te σ2 H3 N else M H3)
    (hd : ∀ D H, Hd (pto D (.lst (((d.filter p).map k).map V.int)) :: L) H → Q (.ref D) H) : LcK g tt te vs σ Q (Itk a o (dM f d)) H :=
  r_lcDK d p (fun e => .int (k e)) hh hz hl step fun D H h => hd D H (by rw [List.map_map]; exact h)
/-- over numbers, of numbers -/
theorem r_lcI' (ns : List Int) (p : Int → Bool) (k : Int → Int) (hh : Hd L H) (hz : ns.length < 100000) (hl : ∀ H, Hd L H → SqL K H a (ns.map V.int))
    (step : ∀ (D : Addr) (acc : List V) (n : Int) H (N : V → Hp → Prop) (M : Hp → Prop), n ∈ ns → Hd (pto D (.lst acc) :: L) H → (p n = true → N (.int (k n)) H) → (p n = false → M H) →
      g (.int n) (wipe σ vs) H fun σ2 H2 => wipe σ2 vs = wipe σ vs ∧ tt σ2 H2 fun b H3 => if b = true then te σ2 H3 N else M H3)
    (hd : ∀ D H, Hd (pto D (.lst (((ns.filter p).map k).map V.int)) :: L) H → Q (.ref D) H) : LcK g tt te vs σ Q (Itl K a) H :=
  r_lcI ns p (fun e => .int (k e)) hh hz hl step fun D H h => hd D H (by rw [List.map_map]; exact h)
/-- of numbers, kept as they are -/
theorem r_lcF (ns : List Int) (p : Int → Bool) (hh : Hd L H) (hz : ns.length < 100000) (hl : ∀ H, Hd L H → SqL K H a (ns.map V.int))
    (step : ∀ (D : Addr) (acc : List V) (n : Int) H (N : V → Hp → Prop) (M : Hp → Prop), n ∈ ns → Hd (pto D (.lst acc) :: L) H → (p n = true → N (.int n) H) → (p n = false → M H) →
      g (.int n) (wipe σ vs) H fun σ2 H2 => wipe σ2 vs = wipe σ vs ∧ tt σ2 H2 fun b H3 => if b = true then te σ2 H3 N else M H3)
    (hd : ∀ D H, Hd (pto D (.lst ((ns.filter p).map V.int)) :: L) H → Q (.ref D) H) : LcK g tt te vs σ Q (Itl K a) H :=
  r_lcI ns p V.int hh hz hl step hd
theorem r_srtI {ns : List Int} (hs : Hd L H) (h : SqL K H a (ns.map V.int)) (q : ∀ p H', Hd (pto p (.lst ((srt ns).map V.int)) :: L) H' → Q (.ref p) H') : rSortedI K [.ref a] H Q :=
  r_sortedI hs h fun ms p H pm pw hs => q p H (by rw [← srt_eq pm pw]; exact hs)
theorem r_srtD {d : List (Int × α)} (hs : Hd L H) (h : H a = some (.dK (dM f d))) (few : d.length ≤ 100000) (q : ∀ p H', Hd (pto p (.lst ((srt (keysM d)).map V.int)) :: L) H' → Q (.ref p) H') : rSortedDI [.ref a] H Q :=
  r_sortedD hs h (keys_dM _) (by unfold keysM; rw [List.length_map]; exact few) fun ms p H pm pw hs => q p H (by rw [← srt_eq pm pw]; exact hs)
theorem r_listDM {d : List (Int × α)} (hs : Hd L H) (h : H a = some (.dK (dM f d))) (q : ∀ p H', Hd (pto p (.lst ((keysM d).map V.int)) :: L) H' → Q (.ref p) H') : rListD [.ref a] H Q :=
  ⟨a, _, rfl, h, fun p n => q p _ (by
    have e : (dM f d).map (fun kv => kV kv.1) = (keysM d).map V.int := by
      unfold dM keysM
      rw [List.map_map, List.map_map]
      rfl
    rw [e]
    exact hs.new n)⟩
theorem r_ixF {i : Int} {v : V} {kvs : List (Key × V)} (h : H a = some (.frz o (.dK kvs))) (hi : valV kvs (.inl i) = some v) (q : Q v H) : rIxU K (.ref a) (.int i) H Q := .inr ⟨a, v, rfl, .inl ⟨kvs, .inl i, .inr ⟨o, h⟩, rfl, hi.symm⟩, q⟩
end
theorem atI_head {x : V} {xs : List V} : atI (x :: xs) 0 = some x := atI_nat (j := 0) rfl
theorem atI_snd {x y : V} {xs : List V} : atI (x :: y :: xs) 1 = some y := atI_nat (j := 1) rfl
theorem atI_pick {ns : List Int} {r : Int} (h0 : 0 ≤ r) (h1 : r < ns.length) : ∃ k, ns[r.toNat]? = some k ∧ k ∈ ns ∧ atI (ns.map V.int) r = some (.int k) := by
  obtain ⟨j, rfl⟩ := Int.eq_ofNat_of_zero_le h0
  have hj : j < ns.length := by omega
  refine ⟨ns[j], by rw [Int.toNat_natCast]; exact List.getElem?_eq_getElem hj, List.getElem_mem hj, atI_nat ?_⟩
  rw [List.getElem?_map, List.getElem?_eq_getElem hj]
  rfl
theorem get_mid {α : Type} {a b : List (Int × α)} {k : Int} {v : α} (h : k ∉ keysM a) : getM (a ++ (k, v) :: b) k = some v := by
  induction a with
  | nil => rw [List.nil_append, getM_cons, if_pos rfl]
  | cons e r ih =>
    rw [List.cons_append, getM_cons, if_neg (fun z => h (by rw [← z]; exact List.mem_cons_self ..)), ih fun m => h (List.mem_cons_of_mem _ m)]
theorem keys_at {α : Type} {d : List (Int × α)} {i : Nat} {k : Int} (h : (keysM d)[i]? = some k) : ∃ x, d[i]? = some (k, x) := by
  unfold keysM at h
  rw [List.getElem?_map] at h
  obtain ⟨e, h1, h2⟩ := Option.map_eq_some_iff.mp h
  exact ⟨e.2, by rw [h1, ← h2]⟩
theorem keys_take {α : Type} {d : List (Int × α)} (nd : (keysM d).Nodup) {i : Nat} {k : Int} {x : α} (e : d[i]? = some (k, x)) : k ∉ keysM (d.take i) ∧ d.drop i = (k, x) :: d.drop (i + 1) := by
  obtain ⟨hi, eg⟩ := List.getElem?_eq_some_iff.mp e
  have hd : d.drop i = (k, x) :: d.drop (i + 1) := by rw [List.drop_eq_getElem_cons hi, eg]
  have split : keysM d = keysM (d.take i) ++ k :: keysM (d.drop (i + 1)) := by
    conv => lhs; rw [← List.take_append_drop i d, hd]
    exact keysM_app _ _
  rw [split] at nd
  exact ⟨fun m => (List.nodup_append.mp nd).2.2 k m k (List.mem_cons_self ..) rfl, hd⟩
theorem giveAt_get {ov : List (Int × Int)} {n o : Int} {i : Nat} {k p : Int} (nd : (keysM ov).Nodup) (e : ov[i]? = some (k, p)) : getM (giveAt ov n o i) k = some p := by
  obtain ⟨h1, h2⟩ := keys_take nd e
  unfold giveAt
  rw [h2]
  exact get_mid (by rw [keys_giveO]; exact h1)
theorem giveSAt_get {sh : List (Int × (Int × Int))} {n o : Int} {i : Nat} {k : Int} {x : Int × Int} (nd : (keysM sh).Nodup) (e : sh[i]? = some (k, x)) : getM (giveSAt sh n o i) k = some x := by
  obtain ⟨h1, h2⟩ := keys_take nd e
  unfold giveSAt
  rw [h2]
  exact get_mid fun m => h1 ((keys_giveS_sub _ _ _).mem m)
/-! ### a name is given a comprehension over a locked dict -/
def UnlS (d : Addr) (o : Obj) (u : HO) (N : L2.St → Hp → Prop) (σ : L2.St) (H : Hp) : Prop := H d = some (.frz o u) ∧ N σ (upd H d u)
theorem r_lockS {D : Ends} {σ : L2.St} {H : Hp} {d : Addr} {kvs : List (Key × V)} {L : List SA} {te : TE} {g : TG} (hs : Hd (pto d (.dK kvs) :: L) H) (q : ∀ od H', Hd (pto d (.frz od (.dK kvs)) :: L) H' → te σ H' fun x H1 => g x σ H1 (UnlS d od (.dK kvs) D.nx)) : tLock (tAsg te g) D σ H :=
  ⟨d, .dK kvs, hs.get .here, trivial, fun od => q od _ (hs.set .here fun z => z)⟩
theorem r_unlS {d : Addr} {o : Obj} {u : HO} {N : L2.St → Hp → Prop} {σ : L2.St} {H : Hp} {L L' : List SA} (hs : Hd L H) (p : Put (pto d (.frz o u)) (pto d u) L L') (q : ∀ H', Hd L' H' → N σ H') : UnlS d o u N σ H := by
  obtain ⟨M, pa, _⟩ := p.pulls
  exact ⟨hs.get pa, q _ (hs.set p fun z => z)⟩
/-! ### ways that meet: N is what stands behind both -/
section
variable {t u : TS} {N : L2.St → Hp → Prop} {rt : VK} {bk ct : L2.St → Hp → Prop} {σ : L2.St} {H : Hp} {c : Bool} {p : Prop}
theorem r_ifJ (P : L2.St → Hp → Prop) (h1 : c = true → ∀ N' : L2.St → Hp → Prop, (∀ σ H, P σ H → N' σ H) → t ⟨N', rt, bk, ct⟩ σ H) (h2 : c = false → ∀ N' : L2.St → Hp → Prop, (∀ σ H, P σ H → N' σ H) → u ⟨N', rt, bk, ct⟩ σ H)
    (a : ∀ σ H, P σ H → N σ H) : if c = true then t ⟨N, rt, bk, ct⟩ σ H else u ⟨N, rt, bk, ct⟩ σ H := by
  cases c with
  | true => exact h1 rfl N a
  | false => exact h2 rfl N a
theorem r_ifJD [Decidable p] (P : L2.St → Hp → Prop) (h1 : p → ∀ N' : L2.St → Hp → Prop, (∀ σ H, P σ H → N' σ H) → t ⟨N', rt, bk, ct⟩ σ H) (h2 : ¬ p → ∀ N' : L2.St → Hp → Prop, (∀ σ H, P σ H → N' σ H) → u ⟨N', rt, bk, ct⟩ σ H)
    (a : ∀ σ H, P σ H → N σ H) : if decide p = true then t ⟨N, rt, bk, ct⟩ σ H else u ⟨N, rt, bk, ct⟩ σ H := by
  by_cases h : p
  · rw [decide_eq_true h]
    exact h1 h N a
  · rw [decide_eq_false h]
    exact h2 h N a
theorem r_ifJN [Decidable p] (P : L2.St → Hp → Prop) (h1 : ¬ p → ∀ N' : L2.St → Hp → Prop, (∀ σ H, P σ H → N' σ H) → t ⟨N', rt, bk, ct⟩ σ H) (h2 : p → ∀ N' : L2.St → Hp → Prop, (∀ σ H, P σ H → N' σ H) → u ⟨N', rt, bk, ct⟩ σ H)
    (a : ∀ σ H, P σ H → N σ H) : if (!decide p) = true then t ⟨N, rt, bk, ct⟩ σ H else u ⟨N, rt, bk, ct⟩ σ H := by
  by_cases h : p
  · rw [decide_eq_true h]
    exact h2 h N a
  · rw [decide_eq_false h]
    exact h1 h N a
end
/-! ### loops: what changes is told by a letter s, the rest is as it was -/
def Iv {S : Type} (I : Nat → S → Prop) (F : S → L2.St) (A : S → List SA) (L : List SA) (i : Nat) (σ : L2.St) (H : Hp) : Prop := ∃ s, I i s ∧ σ = F s ∧ Hd (A s ++ L) H
section
variable {K : PySem.W.Frag} {σ : L2.St} {H : Hp} {D : Ends} {tb : TS} {g : TG} {n : Nat} {L : List SA} {a b : Addr} {S : Type}
theorem r_forA (xs : List V) (I : Nat → S → Prop) (F : S → L2.St) (A : S → List SA) (s0 : S) (hI : I 0 s0) (hσ : σ = F s0) (hh : Hd (A s0 ++ L) H)
    (hl : ∀ s H, Hd (A s ++ L) H → SqL K H a xs)
    (step : ∀ i x s H, xs[i]? = some x → I i s → Hd (A s ++ L) H → g x (F s) H fun σ2 H2 => tb { D with nx := Iv I F A L (i + 1), ct := Iv I F A L (i + 1), bk := D.nx } σ2 H2)
    (done : ∀ s H, I xs.length s → Hd (A s ++ L) H → D.nx (F s) H) : ForK g tb D σ (Itl K a) H :=
  r_forL xs (fun i σ H => Iv I F A L i σ H) ⟨s0, hI, hσ, hh⟩ (fun i σ H _ ⟨s, _, _, h⟩ => hl s H h) (fun i x σ H hx ⟨s, hs, e, h⟩ => by
    subst e
    exact step i x s H hx hs h) fun σ H ⟨s, hs, e, h⟩ => by
    subst e
    exact done s H hs h
/-- over numbers -/
theorem r_forI (ns : List Int) (I : Nat → S → Prop) (F : S → L2.St) (A : S → List SA) (s0 : S) (hI : I 0 s0) (hσ : σ = F s0) (hh : Hd (A s0 ++ L) H)
    (hl : ∀ s H, Hd (A s ++ L) H → SqL K H a (ns.map V.int))
    (step : ∀ i k s H, ns[i]? = some k → I i s → Hd (A s ++ L) H → g (.int k) (F s) H fun σ2 H2 => tb { D with nx := Iv I F A L (i + 1), ct := Iv I F A L (i + 1), bk := D.nx } σ2 H2)
    (done : ∀ s H, I ns.length s → Hd (A s ++ L) H → D.nx (F s) H) : ForK g tb D σ (Itl K a) H :=
  r_forA (ns.map V.int) I F A s0 hI hσ hh hl (fun i x s H hx hi hs => by
    rw [List.getElem?_map] at hx
    obtain ⟨k, hk, rfl⟩ := Option.map_eq_some_iff.mp hx
    exact step i k s H hk hi hs) fun s H hi hs => done s H (by rwa [List.length_map] at hi) hs
/-- over a range -/
theorem r_forN {lo : Int} (I : Nat → S → Prop) (F : S → L2.St) (A : S → List SA) (s0 : S) (hI : I 0 s0) (hσ : σ = F s0) (hh : Hd (A s0 ++ L) H)
    (step : ∀ i s H, i < n → I i s → Hd (A s ++ L) H → g (.int (lo + (i : Nat))) (F s) H fun σ2 H2 => tb { D with nx := Iv I F A L (i + 1), ct := Iv I F A L (i + 1), bk := D.nx } σ2 H2)
    (done : ∀ s H, I n s → Hd (A s ++ L) H → D.nx (F s) H) : ForK g tb D σ (Itr lo n) H :=
  r_forR (fun i σ H => Iv I F A L i σ H) ⟨s0, hI, hσ, hh⟩ (fun i σ H hi ⟨s, hs, e, h⟩ => by
    subst e
    exact step i s H hi hs h) fun σ H ⟨s, hs, e, h⟩ => by
    subst e
    exact done s H hs h
end
end Sl

set_option linter.all false
set_option maxRecDepth 100000
set_option maxHeartbeats 1000000
namespace Sl
open PySem L2 PyProof.Rows
/-! ### d == {} -/
def rEqD0 : R2 := fun x y H Q => ∃ a b ks, x = .ref a ∧ y = .ref b ∧ H a = some (.dK ks) ∧ H b = some (.dK []) ∧ Q (.bl ks.isEmpty) H
theorem op_eqD0 {X : Cx} (hu : X.A.units + 64 < cLine) : OpR X (compareOp .Eq) rEqD0 := by
  intro pins s σ H x y v u Q I rx ry h
  obtain ⟨a, b, ks, rfl, rfl, ha, hb, q⟩ := h
  cases (show v = Value.ref a from rx)
  cases (show u = Value.ref b from ry)
  obtain ⟨_, ya, va, ra, da⟩ := (show ObjOk X.prog X.w H s.heap a (.dK ks) from I.hok a _ ha)
  obtain ⟨_, yb, vb, rb, db⟩ := (show ObjOk X.prog X.w H s.heap b (.dK []) from I.hok b _ hb)
  have lb : vb.length = 0 := by rw [← rb.length]; rfl
  refine PySem.W.rcP_dicts (knd := mixKind X.prog X.w) (r := true) ya yb da db (by omega) (fun e => ?_) _ _ ?_
  · rw [lb] at e
    cases va with
    | nil => exact .nil
    | cons => cases e
  · have e : (va.length == vb.length && true) = ks.isEmpty := by
      rw [lb, ← ra.length]
      cases ks <;> rfl
    rw [e]
    exact ⟨.bl ks.isEmpty, H, I, rfl, q⟩
theorem r_eqD0 {a b : Addr} {ks : List (Key × V)} {H : Hp} {Q : VK} (ha : H a = some (.dK ks)) (hb : H b = some (.dK [])) (q : Q (.bl ks.isEmpty) H) : rEqD0 (.ref a) (.ref b) H Q := ⟨a, b, ks, rfl, rfl, ha, hb, q⟩
/-! ### a test of several parts -/
theorem r_ifT {tt : TT} {t u : TS} {D : Ends} {σ : L2.St} {H : Hp} (PT PF : Hp → Prop) (q : ∀ QT : Bool → Hp → Prop, (∀ H, PT H → QT true H) → (∀ H, PF H → QT false H) → tt σ H QT) (ht : ∀ H, PT H → t D σ H) (hf : ∀ H, PF H → u D σ H) : tIfS tt t u D σ H :=
  q (fun b H1 => if b = true then t D σ H1 else u D σ H1) (fun H h => by rw [if_pos rfl]; exact ht H h) fun H h => by rw [if_neg Bool.false_ne_true]; exact hf H h
theorem r_ifTJ {tt : TT} {t u : TS} {D : Ends} {σ : L2.St} {H : Hp} (PT PF : Hp → Prop) (P : L2.St → Hp → Prop) (q : ∀ QT : Bool → Hp → Prop, (∀ H, PT H → QT true H) → (∀ H, PF H → QT false H) → tt σ H QT)
    (ht : ∀ N' : L2.St → Hp → Prop, (∀ σ H, P σ H → N' σ H) → ∀ H, PT H → t { D with nx := N' } σ H) (hf : ∀ N' : L2.St → Hp → Prop, (∀ σ H, P σ H → N' σ H) → ∀ H, PF H → u { D with nx := N' } σ H) (a : ∀ σ H, P σ H → D.nx σ H) : tIfS tt t u D σ H :=
  r_ifT PT PF q (ht _ a) (hf _ a)
end Sl

set_option linter.all false
set_option maxRecDepth 100000
set_option maxHeartbeats 1000000
namespace Sl
open PySem L2 PyProof.Rows
/-! ### many things, each with a piece of its own -/
theorem Hd.perm {L1 L2 : List SA} (p : L1.Perm L2) : ∀ {H : Hp}, Hd L1 H → Hd L2 H := by
  induction p with
  | nil => exact fun h => h
  | cons x _ ih => exact fun h => h.mono fun _ z => ih z
  | swap x y l => exact fun h => h.swap
  | trans _ _ ih1 ih2 => exact fun h => ih2 (ih1 h)
def big {α : Type} (F : α → SA) (T : List α) : SA := Hd (T.map F)
section
variable {α : Type} {F : α → SA} {T T' : List α} {L : List SA} {H : Hp} {e : α}
theorem big_perm (p : T.Perm T') (h : Hd (big F T :: L) H) : Hd (big F T' :: L) H := h.imp fun _ z => z.perm (p.map F)
theorem big_nil (h : Hd L H) : Hd (big F [] :: L) H := (Hd.close (M := []) h)
theorem big_out (h : Hd (big F (e :: T) :: L) H) : Hd (F e :: big F T :: L) H := by
  have h2 : Hd (F e :: (T.map F ++ L)) H := Hd.open (M := (e :: T).map F) h
  exact h2.mono fun _ z => Hd.close (M := T.map F) z
theorem big_in (h : Hd (F e :: big F T :: L) H) : Hd (big F (e :: T) :: L) H :=
  Hd.close (M := (e :: T).map F) (h.mono fun _ z => Hd.open (M := T.map F) z)
/-- an exchange of what each is -/
theorem big_imp {G : α → SA} (f : ∀ e ∈ T, ∀ H, F e H → G e H) (h : Hd (big F T :: L) H) : Hd (big G T :: L) H := by
  have aux : ∀ (T : List α), (∀ e ∈ T, ∀ H, F e H → G e H) → ∀ H, Hd (T.map F) H → Hd (T.map G) H := by
    intro T
    induction T with
    | nil => exact fun _ _ z => z
    | cons x r ih => exact fun f H z => (z.imp fun H y => f x (List.mem_cons_self ..) H y).mono fun H y => ih (fun e m => f e (List.mem_cons_of_mem _ m)) H y
  exact h.imp fun H z => aux T f H z
end
section
variable {α : Type} {F : Int × α → SA} {T : List (Int × α)} {L : List SA} {H : Hp} {k : Int} {x y : α}
theorem perm_get (nd : (keysM T).Nodup) (h : getM T k = some x) : T.Perm ((k, x) :: dropM T k) := by
  induction T with
  | nil => cases h
  | cons e r ih =>
    have nd2 := List.nodup_cons.mp (show (e.1 :: keysM r).Nodup from nd)
    rw [getM_cons] at h
    by_cases q : e.1 = k
    · rw [if_pos q] at h
      cases h
      subst q
      have : dropM (e :: r) e.1 = r := by
        unfold dropM
        rw [List.filter_cons, if_neg (by simp)]
        exact List.filter_eq_self.mpr fun z m => decide_eq_true fun w => nd2.1 (List.mem_map.mpr ⟨z, m, w⟩)
      rw [this]
    · rw [if_neg q] at h
      have : dropM (e :: r) k = e :: dropM r k := by
        unfold dropM
        rw [List.filter_cons, if_pos (by simp [q])]
      rw [this]
      exact ((ih nd2.2 h).cons e).trans (.swap ..)
theorem drop_none (h : k ∉ keysM T) : dropM T k = T := by
  unfold dropM
  exact List.filter_eq_self.mpr fun z m => decide_eq_true fun w => h (List.mem_map.mpr ⟨z, m, w⟩)
theorem keys_put (T : List (Int × α)) (k : Int) (x : α) : keysM (putM T k x) = if k ∈ keysM T then keysM T else keysM T ++ [k] := by
  unfold putM
  by_cases h : k ∈ keysM T
  · obtain ⟨e, m, q⟩ := List.mem_map.mp h
    rw [if_pos h, if_pos (List.any_eq_true.mpr ⟨e, m, decide_eq_true q⟩)]
    unfold keysM
    rw [List.map_map]
    apply List.map_congr_left
    intro e _
    show (if e.1 = k then (e.1, x) else e).1 = e.1
    split <;> rfl
  · rw [if_neg h, if_neg]
    · exact keysM_app _ _
    · intro z
      obtain ⟨e, m, q⟩ := List.any_eq_true.mp z
      exact h (List.mem_map.mpr ⟨e, m, of_decide_eq_true q⟩)
theorem nd_put (nd : (keysM T).Nodup) : (keysM (putM T k x)).Nodup := by
  rw [keys_put]
  split
  · exact nd
  · rename_i h
    exact List.nodup_append.mpr ⟨nd, List.pairwise_singleton _ _, fun a ma b mb e => h (by rw [List.mem_singleton.mp mb] at e; exact e ▸ ma)⟩
theorem nd_drop (nd : (keysM T).Nodup) : (keysM (dropM T k)).Nodup := by
  rw [keysM_drop]
  exact nd.sublist List.filter_sublist
theorem drop_put (T : List (Int × α)) (k : Int) (x : α) : dropM (putM T k x) k = dropM T k := by
  unfold putM
  split
  · unfold dropM
    induction T with
    | nil => rfl
    | cons e r ih =>
      rename_i hh
      rw [List.map_cons, List.filter_cons, List.filter_cons]
      have ih2 : List.filter (fun e => decide (e.1 ≠ k)) (List.map (fun e => if e.1 = k then (e.1, x) else e) r) = List.filter (fun e => decide (e.1 ≠ k)) r := by
        by_cases z : (r.any fun e => decide (e.1 = k)) = true
        · exact ih z
        · have no : ∀ e ∈ r, ¬ e.1 = k := fun e m w => z (List.any_eq_true.mpr ⟨e, m, decide_eq_true w⟩)
          congr 1
          refine (List.map_congr_left (g := id) fun e m => if_neg (no e m)).trans (List.map_id r)
      by_cases q : e.1 = k
      · rw [if_pos q, if_neg (by simp [q]), if_neg (by simp [q]), ih2]
      · rw [if_neg q, if_pos (by simp [q]), if_pos (by simp [q]), ih2]
  · unfold dropM
    rw [List.filter_append, List.filter_cons, if_neg (by simp)]
    simp
theorem perm_put (nd : (keysM T).Nodup) : (putM T k x).Perm ((k, x) :: dropM T k) := by
  have h := perm_get (nd_put (x := x) (k := k) nd) (by rw [getM_put, if_pos rfl] : getM (putM T k x) k = some x)
  rwa [drop_put] at h
/-- one is taken out; put back, or in anew -/
theorem big_get (nd : (keysM T).Nodup) (g : getM T k = some x) (h : Hd (big F T :: L) H) : Hd (F (k, x) :: big F (dropM T k) :: L) H := big_out (big_perm (perm_get nd g) h)
theorem big_put (nd : (keysM T).Nodup) (h : Hd (F (k, x) :: big F (dropM T k) :: L) H) : Hd (big F (putM T k x) :: L) H := big_perm (perm_put nd).symm (big_in h)
theorem big_new (nd : (keysM T).Nodup) (n : k ∉ keysM T) (h : Hd (F (k, x) :: big F T :: L) H) : Hd (big F (putM T k x) :: L) H := big_put nd (by rw [drop_none n]; exact h)
/-- an entry put back as it was -/
theorem big_back (nd : (keysM T).Nodup) (g : getM T k = some x) (h : Hd (F (k, x) :: big F (dropM T k) :: L) H) : Hd (big F T :: L) H := big_perm (perm_get nd g).symm (big_in h)
theorem put_same (nd : (keysM T).Nodup) (g : getM T k = some x) : putM T k x = T := by
  unfold putM
  have hm : (T.any fun e => decide (e.1 = k)) = true := List.any_eq_true.mpr ⟨(k, x), getM_some g, decide_eq_true rfl⟩
  rw [if_pos hm]
  refine (List.map_congr_left (g := id) fun e m => ?_).trans (List.map_id T)
  show (if e.1 = k then (e.1, x) else e) = e
  split
  · rename_i q
    have := getM_at nd m
    rw [q, g] at this
    cases this
    rfl
  · rfl
end
section
variable {α : Type} {F : α → SA} {T : List α} {L : List SA} {H : Hp} {i : Nat} {e e' : α}
theorem perm_at (h : T[i]? = some e) : T.Perm (e :: T.eraseIdx i) := by
  obtain ⟨hi, rfl⟩ := List.getElem?_eq_some_iff.mp h
  induction T generalizing i with
  | nil => exact absurd hi (Nat.not_lt_zero _)
  | cons x r ih =>
    cases i with
    | zero => exact .refl _
    | succ j => exact ((ih (i := j) (Nat.lt_of_succ_lt_succ hi) (List.getElem?_eq_getElem (Nat.lt_of_succ_lt_succ hi))).cons x).trans (.swap ..)
theorem perm_set (hi : i < T.length) : (T.set i e').Perm (e' :: T.eraseIdx i) := by
  have h := perm_at (T := T.set i e') (i := i) (e := e') (by rw [List.getElem?_set_self hi])
  rwa [List.eraseIdx_set_eq] at h
/-- one is taken out by its place; put back, changed or not -/
theorem big_at (h : T[i]? = some e) (hs : Hd (big F T :: L) H) : Hd (F e :: big F (T.eraseIdx i) :: L) H := big_out (big_perm (perm_at h) hs)
theorem big_set (hi : i < T.length) (hs : Hd (F e' :: big F (T.eraseIdx i) :: L) H) : Hd (big F (T.set i e') :: L) H := big_perm (perm_set hi).symm (big_in hs)
theorem big_unat (h : T[i]? = some e) (hs : Hd (F e :: big F (T.eraseIdx i) :: L) H) : Hd (big F T :: L) H := big_perm (perm_at h).symm (big_in hs)
theorem big_snoc (hs : Hd (F e :: big F T :: L) H) : Hd (big F (T ++ [e]) :: L) H := big_perm (List.perm_append_singleton e T).symm (big_in hs)
end
section
variable {α β : Type} {f : α → β} {T : List (Int × α)} {k : Int} {x : α}
/-- a dict of things seen through f -/
def mapM (f : α → β) (T : List (Int × α)) : List (Int × β) := T.map fun e => (e.1, f e.2)
theorem mapM_put : mapM f (putM T k x) = putM (mapM f T) k (f x) := by
  unfold putM mapM
  rw [List.any_map]
  show (if _ then _ else _ : List _).map _ = if (T.any fun e => decide (e.1 = k)) = true then _ else _
  split
  · rw [List.map_map, List.map_map]
    congr 1
    funext e
    show ((if e.1 = k then (e.1, x) else e).1, f (if e.1 = k then (e.1, x) else e).2) = if e.1 = k then (e.1, f x) else (e.1, f e.2)
    split <;> rfl
  · rw [List.map_append]
    rfl
theorem mapM_drop : mapM f (dropM T k) = dropM (mapM f T) k := by
  unfold dropM mapM
  rw [List.filter_map]
  rfl
theorem mapM_get : getM (mapM f T) k = (getM T k).map f := by
  induction T with
  | nil => rfl
  | cons e r ih =>
    show getM ((e.1, f e.2) :: mapM f r) k = _
    rw [getM_cons, getM_cons, ih]
    split <;> rfl
theorem mapM_some {y : β} (h : getM (mapM f T) k = some y) : ∃ x, getM T k = some x ∧ f x = y := by
  rw [mapM_get] at h
  exact Option.map_eq_some_iff.mp h
theorem mapM_keys : keysM (mapM f T) = keysM T := by
  unfold keysM mapM
  rw [List.map_map]
  rfl
theorem mapM_len : (mapM f T).length = T.length := List.length_map _
theorem dM_map {γ : Type} {g : β → V} : dM g (mapM f T) = dM (fun x => g (f x)) T := by
  unfold dM mapM
  rw [List.map_map]
  rfl
end
end Sl

set_option linter.all false
set_option maxRecDepth 100000
set_option maxHeartbeats 1000000
namespace Sl
open PySem L2 PySem.Spec PyProof.Rows
/-! ### list(range(n)) -/
def LRngK (Q : VK) (x : V) (H : Hp) : Prop := ∃ n : Nat, x = .int (n : Int) ∧ n ≤ 100000 ∧ ∀ p, H p = none → Q (.ref p) (upd H p (.lst ((List.range n).map fun i : Nat => V.int (i : Int))))
def tListRange (ta : TE) : TE := fun σ H Q => ta σ H (LRngK Q)
theorem ints_range {us : List Value} {n : Nat} (hl : us.length = n) (f : ∀ (i : Nat) v, us[i]? = some v → ∃ t, v = Value.int (0 + (i : Int) * 1) t) : Vals ((List.range n).map fun i : Nat => V.int (i : Int)) us := by
  refine L2.vals_of_at (by rw [List.length_map, List.length_range, hl]) fun j x u e1 e2 => ?_
  rw [List.getElem?_map] at e1
  obtain ⟨i, e3, rfl⟩ := Option.map_eq_some_iff.mp e1
  have : i = j := by
    rw [List.getElem?_range (by rw [List.getElem?_eq_some_iff] at e3; obtain ⟨h, _⟩ := e3; rwa [List.length_range] at h)] at e3
    exact (Option.some.inj e3).symm
  subst this
  obtain ⟨t, rfl⟩ := f i u e2
  exact ⟨t, by congr 1; omega⟩
theorem pe_listRange {X : Cx} {a : Expr} {ta : TE} {p p2 q pos : Pos} (hg : Gl X "list") (hm : X.mg "list" = none) (hg2 : Gl X "range") (hm2 : X.mg "range" = none) (ha : PE X a ta) (hc : X.calm = true := by rfl)
    (na : starEach [a] X.env = (false, eval a X.env) :: starEach [] X.env := by rfl) : PE X (.Call (.Name "list" p) [.Call (.Name "range" p2) [a] [] q] [] pos) (tListRange ta) := by
  constructor
  intro pins s σ H Q I h
  apply Call_ (ld_blt I hg hm boot_list ?_)
  apply PyProof.Rows.callWith_type1 (PyProof.Rows.args_cons ?_ rfl) rfl rfl
  apply Call_ (ld_blt I hg2 hm2 boot_range ?_)
  apply PyProof.Rows.callWith_type1 (PyProof.Rows.args_cons (thn (ha.run pins s σ H _ I h) fun v s1 ⟨x, H1, I1, rx, got⟩ => PyProof.Rows.args_nil ?_) na) na rfl
  obtain ⟨n, ex, few, got⟩ := got
  subst ex
  obtain ⟨t, ev⟩ := rx
  subst ev
  apply call_range_1
  apply PyProof.Rows.args_nil
  have k0 : ∀ b o, s1.heap.get? b = some o → (s1.heap.push { cls := .type "range", data := .fields #[.int 0 s1.toks, .int (n : Int) t, .int 1 (s1.toks + 1)] }).get? b = some o := fun b o e => Heap.get?_push_of_some _ e
  apply call_list_range (n := n) (I1.ok.hd hc) (IsRange.new ..) (small_one (by omega) (by omega) (by omega) (by omega)) (by rw [rangeSize_one]; split <;> omega) (by omega)
  intro h' tk acc c keep there items
  have len : acc.toList.length = n := by rw [Array.length_toList]; exact items.1
  have vs := ints_range (us := acc.toList) len fun i v e => items.2 i v (by rw [← e, Array.getElem?_toList])
  have z : ((List.range n).map fun i : Nat => V.int (i : Int)).length ≤ sizeLine := by rw [List.length_map, List.length_range]; exact sz few
  exact ⟨.ref (s1.heap.push { cls := .type "range", data := .fields #[.int 0 s1.toks, .int (n : Int) t, .int 1 (s1.toks + 1)] }).objs.size, upd H1 _ (.lst ((List.range n).map fun i : Nat => V.int (i : Int))), I1.laid (t' := tk) (fun b o e => keep b o (k0 b o e)) (by rw [Heap.size_push]; omega) ⟨z, acc.toList, c, vs, by rw [Array.toArray_toList]; exact there⟩, rfl, got _ (I1.hok.fresh (by rw [Heap.size_push]; omega))⟩
theorem r_listRange {te : TE} {σ : L2.St} {H : Hp} {Q : VK} (q : te σ H (LRngK Q)) : tListRange te σ H Q := q
def rangeI (n : Nat) : List Int := (List.range n).map fun i : Nat => (i : Int)
theorem r_lRngK {n : Nat} {H : Hp} {Q : VK} {L : List SA} (hs : Hd L H) (few : n ≤ 100000) (q : ∀ p H', Hd (pto p (.lst ((rangeI n).map V.int)) :: L) H' → Q (.ref p) H') : LRngK Q (.int (n : Int)) H :=
  ⟨n, rfl, few, fun p e => q p _ (by
    have : (rangeI n).map V.int = (List.range n).map fun i : Nat => V.int (i : Int) := by
      unfold rangeI
      rw [List.map_map]
      rfl
    rw [this]
    exact hs.new e)⟩
theorem r_lRngK' {j : Int} {H : Hp} {Q : VK} {L : List SA} (hs : Hd L H) (h0 : 0 ≤ j) (few : j ≤ 100000) (q : ∀ p H', Hd (pto p (.lst ((rangeI j.toNat).map V.int)) :: L) H' → Q (.ref p) H') : LRngK Q (.int j) H := by
  have := r_lRngK (n := j.toNat) hs (by omega) q
  rwa [Int.toNat_of_nonneg h0] at this
/-! ### list + list, one of them read only -/
def rCatQ (K : PySem.W.Frag) : R2 := fun x y H Q => ∃ l b xs zs, x = .ref l ∧ y = .ref b ∧ SqL K H l xs ∧ SqL K H b zs ∧ xs.length + zs.length ≤ sizeLine ∧ ∀ p, H p = none → Q (.ref p) (upd H p (.lst (xs ++ zs)))
theorem op_catQ {X : Cx} : OpR X (binaryOp .Add) (rCatQ X.K) := by
  intro pins s σ H x y v u Q I rx ry h
  obtain ⟨l, b, xs, zs, ex, ey, h1, h2, hz, q⟩ := h
  subst ex ey
  obtain rfl : v = Value.ref l := rx
  obtain rfl : u = Value.ref b := ry
  obtain ⟨us, r1, ⟨⟨c1, d1, t1, s1⟩, n1, g1, e1, e2, e3⟩, z1⟩ := I.list h1
  obtain ⟨ws, r2, ⟨⟨c2, d2, t2, s2⟩, n2, g2, f1, f2, f3⟩, z2⟩ := I.list h2
  dsimp only at e1 e2 e3 f1 f2 f3
  subst e1 e2 e3 f1 f2 f3
  have len : us.length + ws.length ≤ sizeLine := by rw [← r1.length, ← r2.length]; exact hz
  refine concat_meets ⟨_, g1, rfl⟩ ⟨_, g2, rfl⟩ noFill_list_add seq_list_add PySem.F.slot_list_add PySem.F.entry_list_add (PySem.F.args_list_add_2 _ _) (list_addW l b us.toArray ws.toArray n1 n2 _ _ s1 s2 (by rw [List.size_toArray, List.size_toArray]; exact len)) ⟨g1, g2, ?_⟩
  rw [show us.toArray ++ ws.toArray = (us ++ ws).toArray by simp]
  exact ⟨.ref _, _, I.lnew (t' := s.toks) (r1.append r2) (by rw [List.length_append]; exact hz), rfl, q _ I.fresh⟩
theorem k_catQ {X : Cx} {K : PySem.W.Frag} (h : X.K = K) : OpR X (binaryOp .Add) (rCatQ K) := h ▸ op_catQ
theorem r_catQ {K : PySem.W.Frag} {H : Hp} {Q : VK} {l b : Addr} {xs zs : List V} {L : List SA} (hs : Hd L H) (h1 : SqL K H l xs) (h2 : SqL K H b zs) (hz : xs.length + zs.length ≤ sizeLine) (q : ∀ p H', Hd (pto p (.lst (xs ++ zs)) :: L) H' → Q (.ref p) H') : rCatQ K (.ref l) (.ref b) H Q :=
  ⟨l, b, xs, zs, rfl, rfl, h1, h2, hz, fun p n => q p _ (hs.new n)⟩
/-! ### slices of lists by numbers from nought on -/
theorem cut_both {α : Type} (f : α → V) (xs : List α) (i j : Nat) : cutV (xs.map f) (some (i : Int)) (some (j : Int)) = ((xs.drop i).take (j - i)).map f := by
  unfold cutV
  rw [HT.sIx_nat, HT.sIx_nat, List.length_map, ← List.map_drop, ← List.map_take]
  congr 1
  apply List.ext_getElem?
  intro k
  rw [List.getElem?_take, List.getElem?_take, List.getElem?_drop, List.getElem?_drop]
  by_cases h : i ≤ xs.length
  · rw [Nat.min_eq_left h]
    by_cases h2 : j ≤ xs.length
    · rw [Nat.min_eq_left h2]
    · rw [Nat.min_eq_right (by omega)]
      by_cases h3 : k < xs.length - i
      · rw [if_pos h3, if_pos (by omega)]
      · rw [if_neg h3, List.getElem?_eq_none (by omega)]
        split <;> rfl
  · rw [Nat.min_eq_right (show xs.length ≤ i by omega), List.getElem?_eq_none (by omega), List.getElem?_eq_none (by omega)]
    split <;> split <;> rfl
theorem cut_lo {α : Type} (f : α → V) (xs : List α) (i : Nat) : cutV (xs.map f) (some (i : Int)) none = (xs.drop i).map f := by
  unfold cutV
  rw [HT.sIx_nat, show HT.sIx (xs.map f).length (xs.map f).length none = (xs.map f).length from rfl, List.length_map, ← List.map_drop, ← List.map_take]
  congr 1
  apply List.ext_getElem?
  intro k
  rw [List.getElem?_take, List.getElem?_drop, List.getElem?_drop]
  by_cases h : i ≤ xs.length
  · rw [Nat.min_eq_left h]
    by_cases h3 : k < xs.length - i
    · rw [if_pos h3]
    · rw [if_neg h3, List.getElem?_eq_none (by omega)]
  · rw [Nat.min_eq_right (show xs.length ≤ i by omega), List.getElem?_eq_none (by omega), List.getElem?_eq_none (by omega)]
    split <;> rfl
theorem cut_hi {α : Type} (f : α → V) (xs : List α) (j : Nat) : cutV (xs.map f) none (some (j : Int)) = (xs.take j).map f := by
  unfold cutV
  rw [HT.sIx_nat, show HT.sIx (xs.map f).length 0 none = 0 from rfl, List.length_map, List.drop_zero, Nat.sub_zero, ← List.map_take]
  congr 1
  apply List.ext_getElem?
  intro k
  rw [List.getElem?_take, List.getElem?_take]
  by_cases h : j ≤ xs.length
  · rw [Nat.min_eq_left h]
  · rw [Nat.min_eq_right (by omega)]
    by_cases h3 : k < xs.length
    · rw [if_pos h3, if_pos (by omega)]
    · rw [if_neg h3, List.getElem?_eq_none (by omega)]
      split <;> rfl
theorem flat_rep {α : Type} (k : Nat) (x : α) : (List.replicate k [x]).flatten = List.replicate k x := by
  induction k with
  | zero => rfl
  | succ k ih => rw [List.replicate_succ, List.flatten_cons, ih, List.replicate_succ]; rfl
theorem map_rep {α β : Type} (f : α → β) (k : Nat) (x : α) : List.replicate k (f x) = (List.replicate k x).map f := List.map_replicate.symm
end Sl

set_option linter.all false
set_option maxRecDepth 100000
set_option maxHeartbeats 1000000
namespace Sl
open PySem L2
/-! ### comprehensions over d.values() -/
section
variable {K : PySem.W.Frag} {H : Hp} {Q : VK} {a d : Addr} {o : Obj} {L : List SA} {te : TE} {g : TG} {tt : TT} {vs : List Nat} {σ : L2.St} {α : Type} {f : α → V} {R : It → Hp → Prop} {kvs : List (Key × V)}
def ValIK (R : It → Hp → Prop) (x : V) (H : Hp) : Prop := ∃ d o kvs, x = .ref d ∧ H d = some (.frz o (.dK kvs)) ∧ R (Itd d o kvs) H
theorem r_vals (q : te σ H (ValIK R)) : iVals te σ H R := q
theorem r_valsK (h : H d = some (.frz o (.dK kvs))) (q : R (Itd d o kvs) H) : ValIK R (.ref d) H := ⟨d, o, kvs, rfl, h, q⟩
theorem r_lcVals (P : Addr → Nat → Hp → Prop) (hh : Hd L H) (h0 : ∀ D H', Hd (pto D (.lst []) :: L) H' → P D 0 H') (hl : ∀ D i H, i ≤ kvs.length → P D i H → H d = some (.frz o (.dK kvs)))
    (hs : ∀ D i k v H, kvs[i]? = some (k, v) → P D i H → g v (wipe σ vs) H fun σ2 H2 => wipe σ2 vs = wipe σ vs ∧ tt σ2 H2 fun b H3 => if b = true then te σ2 H3 (AppK D (P D (i + 1))) else P D (i + 1) H3)
    (hd : ∀ D H, P D kvs.length H → Q (.ref D) H) : LcK g tt te vs σ Q (Itd d o kvs) H :=
  r_lcW walk_values P hh h0 hl (fun D i x H H' hi p y => by
    obtain ⟨e, k, ex⟩ := y
    subst e
    exact hs D i k x _ ex p) hd
theorem r_lcDV (d : List (Int × α)) (p : Int × α → Bool) (h : Int × α → V) (hh : Hd L H) (hz : d.length < 100000) (hl : ∀ H, Hd L H → H a = some (.frz o (.dK (dM f d))))
    (step : ∀ (D : Addr) (acc : List V) (e : Int × α) H (N : V → Hp → Prop) (M : Hp → Prop), e ∈ d → Hd (pto D (.lst acc) :: L) H → (∀ H', Hd (pto D (.lst acc) :: L) H' → p e = true → N (h e) H') → (∀ H', Hd (pto D (.lst acc) :: L) H' → p e = false → M H') →
      g (f e.2) (wipe σ vs) H fun σ2 H2 => wipe σ2 vs = wipe σ vs ∧ tt σ2 H2 fun b H3 => if b = true then te σ2 H3 N else M H3)
    (hd : ∀ D H, Hd (pto D (.lst ((d.filter p).map h)) :: L) H → Q (.ref D) H) : LcK g tt te vs σ Q (Itd a o (dM f d)) H := by
  refine r_lcVals (fun D i H => Hd (pto D (.lst (((d.take i).filter p).map h)) :: L) H) hh (fun D H h => h) (fun D i H _ h => hl H h.tl) (fun D i k v H hx hP => ?_) (fun D H h => ?_)
  · unfold dM at hx
    rw [List.getElem?_map] at hx
    obtain ⟨e, hx2, ek⟩ := Option.map_eq_some_iff.mp hx
    cases ek
    have et : d.take (i + 1) = d.take i ++ [e] := by rw [List.take_add_one, hx2]; rfl
    refine step D _ e _ _ _ (List.mem_of_getElem? hx2) hP (fun H' h' pt => ?_) (fun H' h' pf => ?_)
    · refine ⟨_, h'.get .here, ?_, ?_⟩
      · refine szlt ?_
        rw [List.length_map]
        exact Nat.lt_of_le_of_lt (List.length_filter_le _ _) (Nat.lt_of_le_of_lt (List.length_take_le' _ _) (by omega))
      · rw [et, List.filter_append, List.map_append, List.filter_cons, if_pos pt]
        exact h'.set .here fun z => z
    · rw [et, List.filter_append, List.filter_cons, if_neg (by rw [pf]; exact Bool.false_ne_true)]
      simpa using h'
  · rw [len_dM, List.take_length] at h
    exact hd D H h
theorem r_lcDV' (d : List (Int × α)) (p : Int × α → Bool) (k : Int × α → Int) (hh : Hd L H) (hz : d.length < 100000) (hl : ∀ H, Hd L H → H a = some (.frz o (.dK (dM f d))))
    (step : ∀ (D : Addr) (acc : List V) (e : Int × α) H (N : V → Hp → Prop) (M : Hp → Prop), e ∈ d → Hd (pto D (.lst acc) :: L) H → (∀ H', Hd (pto D (.lst acc) :: L) H' → p e = true → N (.int (k e)) H') → (∀ H', Hd (pto D (.lst acc) :: L) H' → p e = false → M H') →
      g (f e.2) (wipe σ vs) H fun σ2 H2 => wipe σ2 vs = wipe σ vs ∧ tt σ2 H2 fun b H3 => if b = true then te σ2 H3 N else M H3)
    (hd : ∀ D H, Hd (pto D (.lst (((d.filter p).map k).map V.int)) :: L) H → Q (.ref D) H) : LcK g tt te vs σ Q (Itd a o (dM f d)) H :=
  r_lcDV d p (fun e => .int (k e)) hh hz hl step fun D H h => hd D H (by rw [List.map_map]; exact h)
theorem r_eqON {m : Option Int} {n : Int} (q : Q (.bl (decide (m = some n))) H) : rEqU K (match m with | none => V.non | some n => .int n) (.int n) H Q := by
  cases m with
  | none => exact r_eqV rfl q
  | some k =>
    have e : decide ((some k : Option Int) = some n) = decide (k = n) := by simp
    rw [e] at q
    exact r_eqI q
end
end Sl

set_option maxRecDepth 100000
set_option maxHeartbeats 1000000
namespace Sl
open PySem L2
/-! ### loops over few things, turn by turn -/
def GL (K : PySem.W.Frag) (a : Addr) (xs : List V) (H : Hp) : Prop := SqL K H a xs
def GT (K : PySem.W.Frag) (a : Addr) (xs : List V) (H : Hp) : Prop := SqT K H a xs
def GR (_ : Hp) : Prop := True
def UnF (G : Hp → Prop) (g : TG) (tb : TS) (D : Ends) : List V → L2.St → Hp → Prop
  | [], σ, H => D.nx σ H
  | x :: r, σ, H => g x σ H fun σ2 H2 => tb { D with nx := fun σ' H' => G H' ∧ UnF G g tb D r σ' H', ct := fun σ' H' => G H' ∧ UnF G g tb D r σ' H', bk := D.nx } σ2 H2
def UnK (G : Hp → Prop) (g : TG) (tb : TS) (D : Ends) (r : List V) (σ : L2.St) (H : Hp) : Prop := G H ∧ UnF G g tb D r σ H
def UnL (G : Hp → Prop) (g : TG) (tt : TT) (te : TE) (vs : List Nat) (σ : L2.St) (Q : VK) (D : Addr) : List V → Hp → Prop
  | [], H => Q (.ref D) H
  | x :: r, H => g x (wipe σ vs) H fun σ2 H2 => wipe σ2 vs = wipe σ vs ∧ tt σ2 H2 fun b H3 => if b = true then te σ2 H3 (AppK D fun H' => G H' ∧ UnL G g tt te vs σ Q D r H') else G H3 ∧ UnL G g tt te vs σ Q D r H3
def UnLK (G : Hp → Prop) (g : TG) (tt : TT) (te : TE) (vs : List Nat) (σ : L2.St) (Q : VK) (D : Addr) (r : List V) (H : Hp) : Prop := G H ∧ UnL G g tt te vs σ Q D r H
section
variable {K : PySem.W.Frag} {σ : L2.St} {H : Hp} {D : Ends} {tb : TS} {te : TE} {tt : TT} {g : TG} {Q : VK} {x : V} {n : Nat} {L : List SA} {a E : Addr} {xs r : List V} {vs : List Nat} {G : Hp → Prop}
theorem r_unNil (q : D.nx σ H) : UnF G g tb D [] σ H := q
theorem r_unCons (q : g x σ H fun σ2 H2 => tb { D with nx := UnK G g tb D r, ct := UnK G g tb D r, bk := D.nx } σ2 H2) : UnF G g tb D (x :: r) σ H := q
theorem r_unKL (h : SqL K H a xs) (q : UnF (GL K a xs) g tb D r σ H) : UnK (GL K a xs) g tb D r σ H := ⟨h, q⟩
theorem r_unKT (h : SqT K H a xs) (q : UnF (GT K a xs) g tb D r σ H) : UnK (GT K a xs) g tb D r σ H := ⟨h, q⟩
theorem r_unKR (q : UnF GR g tb D r σ H) : UnK GR g tb D r σ H := ⟨trivial, q⟩
theorem un_step {i : Nat} (hx : xs[i]? = some x) (q : UnF G g tb D (xs.drop i) σ H) : g x σ H fun σ2 H2 => tb { D with nx := fun σ' H' => G H' ∧ UnF G g tb D (xs.drop (i + 1)) σ' H', ct := fun σ' H' => G H' ∧ UnF G g tb D (xs.drop (i + 1)) σ' H', bk := D.nx } σ2 H2 := by
  obtain ⟨hi, rfl⟩ := List.getElem?_eq_some_iff.mp hx
  rw [List.drop_eq_getElem_cons hi] at q
  exact q
theorem r_unL (h : SqL K H a xs) (q : UnF (GL K a xs) g tb D xs σ H) : ForK g tb D σ (Itl K a) H :=
  r_forL xs (fun i σ H => GL K a xs H ∧ UnF (GL K a xs) g tb D (xs.drop i) σ H) ⟨h, q⟩ (fun _ _ _ _ p => p.1) (fun _ _ _ _ hx p => un_step hx p.2) fun σ H p => by
    have := p.2
    rwa [List.drop_length] at this
theorem r_unT (h : SqT K H a xs) (q : UnF (GT K a xs) g tb D xs σ H) : ForK g tb D σ (Itt K a) H :=
  r_forT xs (fun i σ H => GT K a xs H ∧ UnF (GT K a xs) g tb D (xs.drop i) σ H) ⟨h, q⟩ (fun _ _ _ _ p => p.1) (fun _ _ _ _ hx p => un_step hx p.2) fun σ H p => by
    have := p.2
    rwa [List.drop_length] at this
theorem r_unR {lo : Int} (e : (List.range n).map (fun i : Nat => V.int (lo + (i : Nat))) = xs) (q : UnF GR g tb D xs σ H) : ForK g tb D σ (Itr lo n) H := by
  subst e
  refine r_forR (fun i σ H => UnF GR g tb D (((List.range n).map (fun i : Nat => V.int (lo + (i : Nat)))).drop i) σ H) q (fun i σ H hi p => ?_) fun σ H p => ?_
  · have hx : ((List.range n).map (fun i : Nat => V.int (lo + (i : Nat))))[i]? = some (V.int (lo + (i : Nat))) := by simp [hi]
    have := un_step hx p
    have e : (fun σ' H' => GR H' ∧ UnF GR g tb D (((List.range n).map (fun i : Nat => V.int (lo + (i : Nat)))).drop (i + 1)) σ' H') = fun σ' H' => UnF GR g tb D (((List.range n).map (fun i : Nat => V.int (lo + (i : Nat)))).drop (i + 1)) σ' H' := by
      funext σ' H'
      exact propext ⟨fun z => z.2, fun z => ⟨trivial, z⟩⟩
    rw [e] at this
    exact this
  · rw [List.drop_of_length_le (by simp)] at p
    exact p
theorem r_ulNil (q : Q (.ref E) H) : UnL G g tt te vs σ Q E [] H := q
theorem r_ulCons (q : g x (wipe σ vs) H fun σ2 H2 => wipe σ2 vs = wipe σ vs ∧ tt σ2 H2 fun b H3 => if b = true then te σ2 H3 (AppK E (UnLK G g tt te vs σ Q E r)) else UnLK G g tt te vs σ Q E r H3) : UnL G g tt te vs σ Q E (x :: r) H := q
theorem r_ulKL (h : SqL K H a xs) (q : UnL (GL K a xs) g tt te vs σ Q E r H) : UnLK (GL K a xs) g tt te vs σ Q E r H := ⟨h, q⟩
theorem r_ulKT (h : SqT K H a xs) (q : UnL (GT K a xs) g tt te vs σ Q E r H) : UnLK (GT K a xs) g tt te vs σ Q E r H := ⟨h, q⟩
theorem r_ulKR (q : UnL GR g tt te vs σ Q E r H) : UnLK GR g tt te vs σ Q E r H := ⟨trivial, q⟩
theorem ul_step {i : Nat} (hx : xs[i]? = some x) (q : UnL G g tt te vs σ Q E (xs.drop i) H) : g x (wipe σ vs) H fun σ2 H2 => wipe σ2 vs = wipe σ vs ∧ tt σ2 H2 fun b H3 => if b = true then te σ2 H3 (AppK E fun H' => G H' ∧ UnL G g tt te vs σ Q E (xs.drop (i + 1)) H') else G H3 ∧ UnL G g tt te vs σ Q E (xs.drop (i + 1)) H3 := by
  obtain ⟨hi, rfl⟩ := List.getElem?_eq_some_iff.mp hx
  rw [List.drop_eq_getElem_cons hi] at q
  exact q
theorem r_ulL (hh : Hd L H) (h : ∀ E H', Hd (pto E (.lst []) :: L) H' → SqL K H' a xs) (q : ∀ E H', Hd (pto E (.lst []) :: L) H' → UnL (GL K a xs) g tt te vs σ Q E xs H') : LcK g tt te vs σ Q (Itl K a) H :=
  r_lcL xs (fun E i H => GL K a xs H ∧ UnL (GL K a xs) g tt te vs σ Q E (xs.drop i) H) hh (fun E H' z => ⟨h E H' z, q E H' z⟩) (fun _ _ _ _ p => p.1) (fun _ _ _ _ hx p => ul_step hx p.2) fun E H p => by
    have := p.2
    rwa [List.drop_length] at this
theorem r_ulT (hh : Hd L H) (h : ∀ E H', Hd (pto E (.lst []) :: L) H' → SqT K H' a xs) (q : ∀ E H', Hd (pto E (.lst []) :: L) H' → UnL (GT K a xs) g tt te vs σ Q E xs H') : LcK g tt te vs σ Q (Itt K a) H :=
  r_lcT xs (fun E i H => GT K a xs H ∧ UnL (GT K a xs) g tt te vs σ Q E (xs.drop i) H) hh (fun E H' z => ⟨h E H' z, q E H' z⟩) (fun _ _ _ _ p => p.1) (fun _ _ _ _ hx p => ul_step hx p.2) fun E H p => by
    have := p.2
    rwa [List.drop_length] at this
end
end Sl
namespace Sl
open PySem L2
theorem r_joinV {α : Type} {B : Prop} {R : α → Hp → Prop} (P : α → Hp → Prop) (f : (∀ x H, P x H → R x H) → B) (a : ∀ x H, P x H → R x H) : B := f a
end Sl

set_option maxRecDepth 100000
set_option maxHeartbeats 1000000
namespace Sl
open PySem L2 PySem.Spec PyProof.Rows
/-! ### an error that is noted: except X as n, and n kept by another name behind the suite -/
/-- an error's object of the class cls -/
def ErrO (cls : Value) (d : Option Addr) (a : Addr) : HO := .ext fun h => ∃ (oe : Obj) (fs : Array Value), h.get? a = some oe ∧ Zc cls d oe ∧ oe.data = .fields fs
section
variable {X : Cx} {pins : List (Addr × Obj)} {σ : L2.St} {H : Hp} {s : Shared}
/-- an object that came up since the def began, and that nobody tracks, is tracked from now on -/
theorem note_err {a : Addr} {oe : Obj} {fs : Array Value} {cls : Value} {d : Option Addr} (I : L2.Inv X pins σ H s) (at_ : s.heap.get? a = some oe) (z : Zc cls d oe) (fd : oe.data = .fields fs) (new : X.s_0.heap.get? a = none) (no : H a = none) (nl : a ≠ X.env.locals)
    (np : ∀ p ∈ X.pn ++ pins, p.1 ≠ a) : L2.Inv X pins σ (upd H a (ErrO cls d a)) s := by
  have cellNo : ∀ x c, X.env.cells.lookup x = some c → c ≠ a := by
    intro x c hc e
    obtain ⟨v, o, e2, w⟩ := I.cell x c hc
    rw [e, at_] at e2
    cases e2
    rw [fd] at w
    cases w
  have h0 : X.s_0.heap.get? a = none := new
  have ne0 : ∀ {b : Addr} {o : Obj}, X.s_0.heap.get? b = some o → b ≠ a := by
    intro b o e q
    rw [q, h0] at e
    cases e
  refine { I with base := ?_, free := ?_, freeC := ?_, pin := ?_, hok := ?_ }
  · refine { I.base with free := ?_, tups := ?_, frzs := ?_, tbls := ?_ }
    · intro b o e n q
      rw [upd_ne (ne0 e)]
      exact I.base.free b o e n q
    · intro b xs e
      have := I.base.tups b xs e
      rw [upd_ne (fun q => by rw [q, no] at this; cases this)]
      exact this
    · intro b o u e
      have := I.base.frzs b o u e
      rw [upd_ne (fun q => by rw [q, no] at this; cases this)]
      exact this
    · intro b ps e
      obtain ⟨more, this⟩ := I.base.tbls b ps e
      exact ⟨more, by rw [upd_ne (fun q => by rw [q, no] at this; cases this)]; exact this⟩
  · rw [upd_ne (Ne.symm nl)]
    exact I.free
  · intro x c hc
    rw [upd_ne (cellNo x c hc)]
    exact I.freeC x c hc
  · intro p hp
    obtain ⟨q1, q2, q3, q4, q5⟩ := I.pin p hp
    exact ⟨q1, by rw [upd_ne (np p hp)]; exact q2, q3, q4, q5⟩
  · intro b o e
    by_cases q : b = a
    · subst q
      rw [upd_same] at e
      cases e
      refine ⟨⟨oe, fs, at_, z, fd⟩, ⟨oe, at_⟩, ?_⟩
      rintro h1 h2 ⟨o1, f1, g1, g2, g3⟩ k
      exact ⟨o1, f1, k _ g1, g2, g3⟩
    · rw [upd_ne q] at e
      refine (I.hok b o e).stay (fun _ _ _ w => w) ?_ ?_
      · intro c e2
        rw [upd_ne (fun q2 => by rw [q2, no] at e2; cases e2)]
        exact e2
      · intro c xs e2
        rw [upd_ne (fun q2 => by rw [q2, no] at e2; cases e2)]
        exact e2
end
/-- what the body's error finds: the suite with the error's own name set, then what follows with the error tracked -/
def wNote (K : PySem.W.Frag) (c : Value) (i : Nat) (ts : Addr → Value → Option Addr → TS) (Wout : WX) (D : Ends) : WX := fun cls d σ H =>
  ∃ b, PySem.W.exmOne K cls c = some b ∧ (b = true → ∀ a, H a = none → ts a cls d { nx := fun τ G => G a = none → D.nx (τ.set i none) (upd G a (ErrO cls d a)), rt := fun _ _ => False, bk := fun _ _ => False, ct := fun _ _ => False } (σ.set i (some (.ref a))) H) ∧ (b = false → Wout cls d σ H)
section
variable {X : Cx} {x n : Str} {c : Value} {i : Nat} {body suite : List Stmt} {st1 : Stmt} {np pos pos' : Pos} {tb : WX → TS} {ts : Addr → Value → Option Addr → TS} {Wout : WX}
theorem ps_tryN (ex0 : X.ex = []) (sk : X.stack = X.env :: X.outer) (fr : X.env.frame = some X.env.locals) (nd : X.N.Nodup) (ix : X.N[i]? = some n) (kd : X.env.kindOf n = some .local) (nm : Names X x c) (tk : Takes X Wout)
    (hb : ∀ (W : WX) (pn : List (Addr × Obj)) (xe : Value → Shared → Prop), Takes (X.tr pn xe) W → PassesOwn (model X.prog X.w) X.A X.env xe → PSs (X.tr pn xe) body (tb W))
    (hsu : ∀ (a : Addr) (oe : Obj) (cls : Value) (d : Option Addr) (pn : List (Addr × Obj)), Zc cls d oe → (∃ fs, oe.data = .fields fs) → PSs (X.suite a ((a, oe) :: pn)) (st1 :: suite) (ts a cls d)) :
    PS X (.Try body [.ExceptHandler (some (.Name x np)) (some n) (st1 :: suite) pos'] [] [] pos) (fun D σ H => tb (wNote X.K c i ts Wout D) D σ H) := by
  constructor
  intro pins s σ H D I0 h
  have ok := I0.ok
  have frames : X.A.frames = some (X.env :: X.outer) := by rw [ok.frames, sk]
  have loc : Loc X.env.scope n := .inl kd
  apply wpAny_Try_except
  have run := (hb (wNote X.K c i ts Wout D) (X.pn ++ pins) (fun e z1 => wpAny (model X.prog X.w) X.A (noteFrame e X.env) (fun _ z2 => wpAny (model X.prog X.w) X.A (setFlight e none) (fun _ z3 =>
    wpAny (model X.prog X.w) X.A (handleBy e X.env [.ExceptHandler (some (.Name x np)) (some n) (st1 :: suite) pos']) (SP X pins D) X.xe z3) X.xe z2) X.xe z1) (fun u z xx => ?air) PassesOwn.looking).run [] s σ H D (I0.toTry _) h
  case air =>
    obtain ⟨a, B, z0, pins', τ, G, cls, d, rfl, J', keep, up, sky, na, os, ag, b, hb1, yes, no⟩ := xx
    have J : L2.Inv X pins τ G z0 := J'.ofTry ok
    have sky2 : Sky B (X.env :: X.outer) a (Zc cls d) X.env.locals z.heap := by rw [← sk]; exact sky
    show wpAny (model X.prog X.w) X.A (noteFrame (.ref a) X.env) _ _ _
    apply Sky.land Zc.steady frames fr sky2
    intro h3 fl3 up3
    have J3 : L2.Inv X pins τ G { z with heap := h3 } := J.landed keep fl3.1 (up.trans up3) os ag
    obtain ⟨oe3, fs3, he3, hz3, hd3⟩ := fl3.there
    have nfr : a ∉ frs (X.env :: X.outer) := by
      intro hm
      obtain ⟨_, o2, e2, hn⟩ := fl3.2.2.1.mem hm
      rw [he3] at e2
      cases e2
      exact hn _ hd3
    have nL : a ≠ X.env.locals := fun q => nfr (List.mem_filterMap.mpr ⟨X.env, List.mem_cons_self, by rw [fr, q]⟩)
    have nF : a ∉ X.fs := by
      intro hm
      obtain ⟨e, he, q⟩ := List.mem_filterMap.mp hm
      exact nfr (List.mem_filterMap.mpr ⟨e, List.mem_cons_of_mem _ he, q⟩)
    -- the error is new
    have new0 : z0.heap.get? a = none := by
      cases q : z0.heap.get? a with
      | none => rfl
      | some o =>
        have := keep a o q (by rw [show frs X.stack = frs (X.env :: X.outer) by rw [sk]]; exact nfr)
        rw [fl3.2.1] at this
        cases this
    have newS : X.s_0.heap.get? a = none := by
      cases q : X.s_0.heap.get? a with
      | none => rfl
      | some o =>
        obtain ⟨o2, e2⟩ := J.base.there a o q (by rw [ex0]; exact List.not_mem_nil)
        rw [new0] at e2
        cases e2
    have newP : ∀ p ∈ X.pn ++ pins, p.1 ≠ a := by
      intro p hp e
      have := (J.pin p hp).1
      rw [e, new0] at this
      cases this
    have S3 := J3.suite he3 hd3 na nL nF
    apply wpAny_handleBy_cons (codeAny_handlers_test ?_) (by intro q; cases q)
    have LT : PySem.W.Looks (model X.prog X.w) h3 (typeOf (.ref a)) cls := fun A Q E s k q => wpAny_typeOf_ref (k _ _ he3) (by rw [hz3.1]; exact q)
    have LM := PySem.W.exm_one (M := model X.prog X.w) J3.kIn LT hb1
    have test : ∀ {Q : Value → Shared → Prop} {E : Value → Shared → Prop}, Q c { z with heap := h3 } → wpAny (model X.prog X.w) (X.A.mark (some (.ref a))) (eval (.Name x np) X.env) Q E { z with heap := h3 } := by
      intro Q E q
      obtain ⟨hg, hdbg, hm⟩ := nm
      rcases hm with hm | ⟨hm, hv, hnn⟩
      · exact ld_glob (X := X.suite a ((a, oe3) :: (X.pn ++ pins))) S3 hg hm q hdbg
      · exact ld_blt (X := X.suite a ((a, oe3) :: (X.pn ++ pins))) S3 hg hm hv q hnn hdbg
    apply test
    apply LM.here
    cases b with
    | true =>
      apply codeAny_handlers_suite_as
      apply HandSPX.lands_againZ fl3
      intro h4 fl4 up4
      have J4 : L2.Inv X pins τ G { z with heap := h4 } := J.landed keep fl4.1 ((up.trans up3).trans up4) os ag
      obtain ⟨oe4, fs4, he4, hz4, hd4⟩ := fl4.there
      have S4 := J4.suite he4 hd4 na nL nF
      refine store_ok (X := X.suite a ((a, oe4) :: (X.pn ++ pins))) (v := .ref a) S4 nd ix loc rfl (fun z5 S5 => ?_) (.inr kd)
      refine wpAny_mono ((hsu a oe4 cls d (X.pn ++ pins) hz4 ⟨_, hd4⟩).run [] z5 _ G _ S5 (yes rfl a na)) ?_ (fun _ _ w => False.elim w)
      intro f z6 done
      match f, done with
      | .next, ⟨τ6, G6, S6, q6⟩ =>
        have p6 := S6.pin (a, oe4) (List.mem_append.mpr (.inl List.mem_cons_self))
        have J6 := note_err (S6.unsuite ok) p6.1 hz4 hd4 newS p6.2.1 nL newP
        exact gone_ok J6 nd ix kd fun z7 J7 => ⟨_, _, J7, q6 p6.2.1⟩
      | .brk, ⟨_, _, _, q6⟩ => exact False.elim q6
      | .cont, ⟨_, _, _, q6⟩ => exact False.elim q6
      | .ret u, ⟨_, _, _, _, _, q6⟩ => exact False.elim q6
    | false =>
      show wpAny _ X.A (handleBy (.ref a) X.env []) _ _ _
      apply wpAny_handleBy_nil
      obtain ⟨k1, k2, k3, oe, fs, T, oT, ts', he, hz, hd, h1, hr⟩ := id fl3
      unfold PySem.passOn
      apply wpAny_bind (wpAny_field he hd h1 ?_)
      rw [if_neg (show ¬ ((Value.ref T == Value.none) = true) from by simp)]
      have fin : wpAny (model X.prog X.w) X.A (setFlight (.ref a) X.env.frame) (fun _ z4 => wpAny (model X.prog X.w) X.A (throw (.ref a) : Sem Flow) (SP X pins D) X.xe z4) X.xe { z with heap := h3 } := by
        rw [fr]
        apply HandSPX.setFlight_upZ fl3
        intro h4 hh4 up4
        apply wpAny_throw
        exact tk _ _ ⟨a, B, z0, pins, τ, G, cls, d, rfl, J, keep, (up.trans up3).trans up4, .inr (.inr (by rw [sk]; exact hh4)), na, os, ag, no rfl⟩
      first
        | exact wpAny_bind (wpAny_pure (wpAny_bind fin))
        | exact wpAny_bind fin
  refine wpAny_mono run ?_ (fun e z1 he => he)
  intro f z1 done
  match f, done with
  | .next, ⟨τ, G, J, q⟩ => exact wpAny_execs_nil ⟨τ, G, J.ofTry ok, q⟩
  | .brk, ⟨τ, G, J, q⟩ => exact ⟨τ, G, J.ofTry ok, q⟩
  | .cont, ⟨τ, G, J, q⟩ => exact ⟨τ, G, J.ofTry ok, q⟩
  | .ret u, ⟨v, τ, G, J, r, q⟩ => exact ⟨v, τ, G, J.ofTry ok, r, q⟩
end
/-- isinstance of a noted error -/
def rIsErr (K : PySem.W.Frag) : List V → Hp → VK → Prop := fun xs H Q => ∃ (a D : Addr) (c : V) (cv : Value) (b : Bool), xs = [.ref a, c] ∧ H a = some (ErrO (.ref D) none a) ∧ ExcC K D ∧ (∀ u, RelV c u → u = cv) ∧ PySem.W.kitOne K (.ref D) cv = some b ∧ Q (.bl b) H
theorem call_isErr {X : Cx} : CallR X (.builtin "isinstance") (rIsErr X.K) := by
  intro pins s σ H xs us Q I r h
  obtain ⟨a, D, c, cv, b, rfl, ha, C, hc, e, q⟩ := h
  obtain ⟨u, w', rfl, rx, rc⟩ := vals2 r
  obtain rfl : u = Value.ref a := rx
  have ec := hc _ rc
  subst ec
  obtain ⟨⟨oe, fs, g, z, dd⟩, -, -⟩ := I.hok a _ ha
  have J : PySem.W.InstAt s.heap a oe D none := by
    obtain ⟨oc, od, oda, osl⟩ := oe
    obtain ⟨h1, h2⟩ := z
    dsimp only at h1 h2 dd
    subst h1 h2 dd
    exact ⟨g, rfl, rfl, trivial⟩
  exact PySem.W.kia_one (PySem.W.handS_kitx_exc C.hg C.hk C.hs C.hd C.ha C.hn C.ht C.hm) I.kIn J e (fun z => nomatch z) fun tk => ⟨.bl b, H, I.kept (t' := tk) fun _ _ z => z, rfl, q⟩
end Sl

set_option maxRecDepth 100000
set_option maxHeartbeats 1000000
namespace Sl
open PySem L2 PySem.Spec PyProof.Rows
/-! ### raise; what is called within a try -/
def tRaise (C : Addr) (W : WX) : TS := fun _ σ H => W (.ref C) none σ H
/-- the facts of an error's class over ValueError -/
structure ErrC (K : PySem.W.Frag) (mg : Str → Option Value) (x : Str) (C : Addr) : Prop where
  g : mg x = some (.ref C)
  x : PySem.W.excIn K C [.type "ValueError", .type "Exception", .type "BaseException", .type "object"] "ValueError.__new__" = true
  k : PySem.W.keepIn K (.ref C) = true
  b : PySem.W.subIn K (.ref C) (.type "BaseException") = some true
  t : PySem.W.typeIn K (.ref C) = some (.type "type")
section
variable {X : Cx} {C f : Addr} {x m : Str} {j k : Nat} {p p2 pos pos2 apos : Pos} {CX : CXT} {fd : FuncData} {ps : List Str} {sp : Sp} {E : L2.St → XK} {e o : Expr} {es : List Expr} {ta : TE} {t : TA}
theorem ps_raiseE {W : WX} (hc : X.calm = true) (tk : Takes X W) (c : ErrC X.K X.mg x C) (hg : Gl X x) (hdb : (x == ("__debug__" : Str)) = false := by decide) :
    PS X (.Raise (some (.Call (.Name x p) [.Constant (.str m) j p2] [] pos)) none pos2) (tRaise C W) :=
  ps_raise hc tk (pmk_own PySem.F.excBase_ValueError c.x c.g c.k (raises_own c.b c.t) hg hdb)
theorem r_raise {W : WX} {D : Ends} {σ : L2.St} {H : Hp} (q : W (.ref C) none σ H) : tRaise C W D σ H := q
/-- o.m(e, ..) within a try: what it raises is wished for at the slots as they stand -/
def tMethS (C : Addr) (m : Str) (sp : Sp) (E : L2.St → XK) (ta : TE) (t : TA) : TE := fun σ H Q => ta σ H (MethK C m fun x H1 => t σ H1 fun vs H2 => sp (x :: vs) H2 Q (E σ))
theorem pe_methS {pl : Sem Bool} (he : PE X o ta) (c : Cls X.K C) (hm : Meth X.K C m f) (F : FnOk X.prog X.w X.K X.mg X.base CX k f fd ps sp) (hr : Room k X.A) (hb : Binds X.K fd ps []) (hx : ∀ σ, PassesAt CX X σ (E σ)) (ha : PA X (e :: es) t)
    (hst : starEach (e :: es) X.env = (false, eval e X.env) :: starEach es X.env := by rfl) (hpl : (backTo pos (starEach es X.env)).any (·.1) = false := by rfl)
    (ht : eval (.Call (.Attribute o m apos) (e :: es) [] pos) X.env = (do
      let ov ← eval o X.env
      standAt apos.atName
      let (f, first) ← holding [ov] (getMethod ov m pl)
      callWith pos f first (backTo pos (starEach (e :: es) X.env)) (backToKw pos (keywordEach [] X.env))) := by rfl) :
    PE X (.Call (.Attribute o m apos) (e :: es) [] pos) (tMethS C m sp E ta t) := by
  refine ⟨fun pn s τ G Q I h => ?_⟩
  refine PySem.W.methodCall_KW (pl := pl) (thn (he.run pn s τ G _ I h) fun u s1 ⟨x, H1, I1, rx, a, dx, fs, ex, ea, l, q⟩ => ?_) ht
  subst ex
  obtain rfl : u = Value.ref a := rx
  refine getmeth_ok I1 ea c hm l ?_
  refine PySem.W.callWith_K (first := [.ref a]) (h₀ := X.base) I.ok.mod.kin hm.kp (thn (ha.run pos pn s1 τ H1 _ I1 q) fun us s2 ⟨vs, H2, I2, r, q2⟩ => ⟨I2.kIn, ?_⟩) hst hpl
  exact run_fnS (us := .ref a :: us) (vs := .ref a :: vs) F hr hb (hx τ) I2 (.cons rfl r) q2
def tMethS0 (C : Addr) (m : Str) (sp : Sp) (E : L2.St → XK) (ta : TE) : TE := fun σ H Q => ta σ H (MethK C m fun x H1 => sp [x] H1 Q (E σ))
theorem pe_methS0 {pl : Sem Bool} (he : PE X o ta) (c : Cls X.K C) (hm : Meth X.K C m f) (F : FnOk X.prog X.w X.K X.mg X.base CX k f fd ps sp) (hr : Room k X.A) (hb : Binds X.K fd ps []) (hx : ∀ σ, PassesAt CX X σ (E σ))
    (ht : eval (.Call (.Attribute o m apos) [] [] pos) X.env = (do
      let ov ← eval o X.env
      standAt apos.atName
      let (f, first) ← holding [ov] (getMethod ov m pl)
      callWith pos f first (backTo pos (starEach [] X.env)) (backToKw pos (keywordEach [] X.env))) := by rfl) :
    PE X (.Call (.Attribute o m apos) [] [] pos) (tMethS0 C m sp E ta) := by
  refine ⟨fun pn s τ G Q I h => ?_⟩
  refine PySem.W.methodCall_KW (pl := pl) (thn (he.run pn s τ G _ I h) fun u s1 ⟨x, H1, I1, rx, a, dx, fs, ex, ea, l, q⟩ => ?_) ht
  subst ex
  obtain rfl : u = Value.ref a := rx
  refine getmeth_ok I1 ea c hm l ?_
  exact PySem.W.callWith_K0 (first := [.ref a]) I1.kIn hm.kp (run_fnS (us := [.ref a]) (vs := [.ref a]) F hr hb (hx τ) I1 (.cons rfl .nil) q)
end
section
variable {K : PySem.W.Frag} {C : Addr} {m : Str} {sp : Sp} {E : L2.St → XK} {ta : TE} {t : TA} {σ τ : L2.St} {H G : Hp} {Q : VK} {L : List SA} {a D : Addr} {cls : Value} {d : Option Addr}
theorem r_callS (q : t σ H fun vs H1 => sp vs H1 Q (E σ)) : tCallS sp E t σ H Q := q
theorem r_methS (q : ta σ H (MethK C m fun x H1 => t σ H1 fun vs H2 => sp (x :: vs) H2 Q (E σ))) : tMethS C m sp E ta t σ H Q := q
theorem r_methS0 (q : ta σ H (MethK C m fun x H1 => sp [x] H1 Q (E σ))) : tMethS0 C m sp E ta σ H Q := q
theorem r_note {c : Value} {i : Nat} {ts : Addr → Value → Option Addr → TS} {Wout : WX} {D : Ends} (h : PySem.W.exmOne K cls c = some true)
    (q : ∀ a, ts a cls d { nx := fun τ G => G a = none → D.nx (τ.set i none) (upd G a (ErrO cls d a)), rt := fun _ _ => False, bk := fun _ _ => False, ct := fun _ _ => False } (σ.set i (some (.ref a))) H) : WE (wNote K c i ts Wout D) σ cls d H := ⟨true, h, fun _ a _ => q a, fun z => nomatch z⟩
theorem r_noteEnd {R : Hp → Prop} (hs : Hd L G) (q : ∀ G', Hd (pto a (ErrO cls d a) :: L) G' → R G') : G a = none → R (upd G a (ErrO cls d a)) := fun n => q _ (hs.new n)
/-- isinstance of a noted error and classes in a tuple -/
def rIsErrTu (K : PySem.W.Frag) : List V → Hp → VK → Prop := fun xs H Q => ∃ (a D tp : Addr) (cs : List V) (us : List Value) (b : Bool), xs = [.ref a, .ref tp] ∧ H a = some (ErrO (.ref D) none a) ∧ ExcC K D ∧ H tp = some (.tup cs) ∧ Paired ClsV cs us ∧ PySem.W.kitAny K (.ref D) us = some b ∧ Q (.bl b) H
theorem call_isErrTu {X : Cx} : CallR X (.builtin "isinstance") (rIsErrTu X.K) := by
  intro pn s τ G xs us Q I r h
  obtain ⟨a, D, tp, cs, ws, b, rfl, ha, C, hT, pr, e, q⟩ := h
  obtain ⟨u, w', rfl, rx, rc⟩ := vals2 r
  obtain rfl : u = Value.ref a := rx
  obtain rfl : w' = Value.ref tp := rc
  obtain ⟨⟨oe, fs, g, z, dd⟩, -, -⟩ := I.hok a _ ha
  have J : PySem.W.InstAt s.heap a oe D none := by
    obtain ⟨oc, od, oda, osl⟩ := oe
    obtain ⟨h1, h2⟩ := z
    dsimp only at h1 h2 dd
    subst h1 h2 dd
    exact ⟨g, rfl, rfl, trivial⟩
  obtain ⟨-, its, rv, o, h1, h2, n, h3⟩ := (show ObjOk X.prog X.w G s.heap tp (.tup cs) from I.hok tp _ hT)
  have e3 := ClsV.all pr rv
  subst e3
  obtain ⟨oc, od, dt, sl⟩ := o
  simp only at h2 h3
  subst h2 h3
  exact PySem.W.kia_tup (PySem.W.handS_kitx_exc C.hg C.hk C.hs C.hd C.ha C.hn C.ht C.hm) I.kIn J h1 e (fun z => nomatch z) fun tk => ⟨.bl b, G, I.kept (t' := tk) fun _ _ z => z, rfl, q⟩
/-- isinstance of anything -/
def rIsA (K : PySem.W.Frag) : List V → Hp → VK → Prop := fun xs H Q => rIsiU K xs H Q ∨ rIsErr K xs H Q ∨ rIsErrTu K xs H Q
theorem k_isA {X : Cx} (h : X.K = K) : CallR X (.builtin "isinstance") (rIsA K) := h ▸ u_isi.or (call_isErr.or call_isErrTu)
theorem own_all {cs : List Addr} : Paired ClsV (cs.map V.ref) (cs.map Value.ref) := by
  induction cs with
  | nil => exact .nil
  | cons c cs ih => exact .cons (.own c) ih
theorem r_isErrN {tp : Addr} {cs : List Addr} (h : H a = some (ErrO (.ref D) none a)) (C : ExcC K D) (hT : H tp = some (.tup (cs.map V.ref))) (no : ∀ c ∈ cs, PySem.W.kitOne K (.ref D) (.ref c) = some false) (q : Q (.bl false) H) : rIsA K [.ref a, .ref tp] H Q := by
  refine .inr (.inr ⟨a, D, tp, cs.map V.ref, cs.map Value.ref, false, rfl, h, C, hT, own_all, ?_, q⟩)
  clear hT
  induction cs with
  | nil => rfl
  | cons c cs ih => exact kitAny_cons (no c List.mem_cons_self) (fun _ => ih fun x hx => no x (List.mem_cons_of_mem _ hx)) fun z => nomatch z
theorem r_isAU {xs : List V} (q : rIsiU K xs H Q) : rIsA K xs H Q := .inl q
theorem r_isErr {b : Bool} (h : H a = some (ErrO (.ref D) none a)) (C : ExcC K D) {c : Addr} (e : PySem.W.kitOne K (.ref D) (.ref c) = some b) (q : Q (.bl b) H) : rIsA K [.ref a, .ref c] H Q := .inr (.inl ⟨a, D, .ref c, .ref c, b, rfl, h, C, fun _ r => r, e, q⟩)
theorem r_isErrT {b : Bool} (h : H a = some (ErrO (.ref D) none a)) (C : ExcC K D) {n : String} (e : PySem.W.kitOne K (.ref D) (.type n) = some b) (q : Q (.bl b) H) : rIsA K [.ref a, .ty n] H Q := .inr (.inl ⟨a, D, .ty n, .type n, b, rfl, h, C, fun _ r => r, e, q⟩)
end
theorem passF {X : Cx} : Passes (L2.CX X.prog X.w) X E0 := by
  rintro pn τ G z e z2 J ⟨a, B, G2, cls, d, h1, h2, h3, h4, h5, h6, h7, h8⟩
  exact False.elim h8
section
variable {X : Cx} {C f : Addr} {x : Str} {k : Nat} {p pos : Pos} {CX : CXT} {fd : FuncData} {ps : List Str} {sp : Sp} {E : L2.St → XK} {e : Expr} {es : List Expr} {t : TA}
/-- C(e, ..) within a try -/
def tMakeS (C : Addr) (sp : Sp) (E : L2.St → XK) (t : TA) : TE := fun σ H Q => t σ H (MakeK C sp [] (E σ) Q)
theorem made_s {pn : List (Addr × Obj)} {τ : L2.St} {G : Hp} {z : Shared} {R : VK} {ws : List Value} {xs : List V} (M : Mk X.K C f) (F : FnOk X.prog X.w X.K X.mg X.base CX k f fd ps sp) (hr : Room (k + 1) X.A) (bd : Binds X.K fd ps []) (ex : ∀ σ, PassesAt CX X σ (E σ))
    (J : L2.Inv X pn τ G z) (rv : Vals xs ws) (q : MakeK C sp [] (E τ) R xs G) : wpAny (model X.prog X.w) X.A (call (.ref C) ws) (EP X pn τ R) X.xe z := by
  have q2 := q (z.heap.objs.size + 1) z.heap.objs.size (J.hok.fresh (Nat.le_succ _)) (J.hok.fresh (Nat.le_refl _)) (Nat.ne_of_lt (Nat.lt_succ_self _))
  rw [List.append_nil] at q2
  have J2 := Inv.made (C := C) J
  have rv2 : Vals (V.ref (z.heap.objs.size + 1) :: xs) (Value.ref (z.heap.objs.size + 1) :: ws) := .cons rfl rv
  have ll : (Value.ref (z.heap.objs.size + 1) :: ws).length = ps.length := rv2.length.symm.trans (F.len _ _ _ _ q2)
  have bd2 := bd _ (Value.ref (z.heap.objs.size + 1) :: ws) J2.kIn (by rw [List.append_nil]; exact ll)
  rw [List.append_nil] at bd2
  have run := F.run _ X.stack _ _ ⟨Value.ref (z.heap.objs.size + 1) :: ws, []⟩ (Value.ref (z.heap.objs.size + 1) :: ws) _ _ (E τ) (hr.make C ws []) (J2.env0.make C ws []) bd2 rv2 q2
  apply wpAny_call (make_map (f := f) J.kIn M.makes M.init (beq_iff_eq.mp M.fn) (codeAny_mono run ?_))
  intro out z2 done
  match out, done with
  | .error er, done => exact ex τ pn _ _ er z2 J2 done
  | .ok (.ret u), done =>
    obtain ⟨v, G2, J3, rv3, ev, q3⟩ := J2.after done
    subst ev
    exact ⟨rv3, ⟨V.ref (z.heap.objs.size + 1), G2, J3, rfl, q3⟩⟩
theorem pe_makeS (M : Mk X.K C f) (F : FnOk X.prog X.w X.K X.mg X.base CX k f fd ps sp) (hr : Room (k + 1) X.A) (gl : Gl X x) (at_ : X.mg x = some (.ref C)) (bd : Binds X.K fd ps []) (ex : ∀ σ, PassesAt CX X σ (E σ))
    (as_ : PA X (e :: es) t) (ndb : (x == ("__debug__" : Str)) = false := by decide) (st : starEach (e :: es) X.env = (false, eval e X.env) :: starEach es X.env := by rfl) (np : (backTo pos (starEach es X.env)).any (·.1) = false := by rfl) :
    PE X (.Call (.Name x p) (e :: es) [] pos) (tMakeS C sp E t) :=
  ⟨fun pn z τ G R J q => wpAny_Call_Name_kw (ld_glob J gl at_
    (PySem.W.callWith_K (h₀ := X.base) J.ok.mod.kin M.kp (thn (as_.run pos pn z τ G _ J q) fun _ _ ⟨_, _, J2, rv, q2⟩ => ⟨J2.kIn, made_s M F hr bd ex J2 rv q2⟩) st np) ndb)⟩
end
theorem r_makeS {C : Addr} {sp : Sp} {E : L2.St → XK} {t : TA} {σ : L2.St} {H : Hp} {Q : VK} (q : t σ H (MakeK C sp [] (E σ) Q)) : tMakeS C sp E t σ H Q := q
theorem kit_ref {K : PySem.W.Frag} {D C : Addr} {b : Bool} (hd : PySem.W.hasDictIn K C = true) (ht : PySem.W.typeIn K (.ref C) = some (.type "type")) (self : PySem.W.subIn K (.ref D) (.ref D) = some true) (h : PySem.W.subIn K (.ref D) (.ref C) = some b) : PySem.W.kitOne K (.ref D) (.ref C) = some b := by
  unfold PySem.W.kitOne
  by_cases e : D = C
  · subst e
    rw [self] at h
    rw [if_pos (by simp)]
    exact h
  · rw [if_neg (by simpa using e)]
    obtain ⟨cd, hc, _⟩ := PySem.W.any_some hd
    have e2 : ((PySem.W.clsIn K C).isSome && PySem.W.typeIn K (.ref C) == some (.type "type")) = true := by rw [hc, ht]; rfl
    show (if ((PySem.W.clsIn K C).isSome && PySem.W.typeIn K (.ref C) == some (.type "type")) = true then PySem.W.subIn K (.ref D) (.ref C) else none) = some b
    rw [if_pos e2]
    exact h
theorem kit_VE {K : PySem.W.Frag} {D : Addr} (h : PySem.W.subIn K (.ref D) (.type "ValueError") = some true) : PySem.W.kitOne K (.ref D) (.type "ValueError") = some true := by
  unfold PySem.W.kitOne
  rw [if_neg (by simp)]
  show (if PySem.W.kitMeta "ValueError" = true then PySem.W.subIn K (.ref D) (.type "ValueError") else none) = some true
  rw [if_pos (by decide +kernel)]
  exact h
theorem r_isBl {H : Hp} {Q : VK} {a b : Bool} (q : Q (.bl (decide (a = b))) H) : rIsB (.bl a) (.bl b) H Q := ⟨a, b, rfl, rfl, q⟩
theorem r_notBl {H : Hp} {Q : VK} {a b : Bool} (q : Q (.bl (!decide (a = b))) H) : rNotB (.bl a) (.bl b) H Q := ⟨a, b, rfl, rfl, q⟩
end Sl

set_option linter.all false
set_option maxRecDepth 100000
set_option maxHeartbeats 1000000
/-! == and != of nested lists, tuples and dicts that are equal -/
namespace Zq
open PySem PySem.SeqAt
open AutoSeq1 (wpAny_loadPart')
open MeetsSeq MeetsSeq2 MeetsSeq3 SeqRoads2
section
variable {prog : Program} {w : World}
/-- != of lists of equal items -/
theorem ne_turns (l b : Addr) (us ws : Array Value) (n m : Nat) (d1 d2 : Option Addr) (o1 o2 : Array (Option Value)) (same : us.size = ws.size) (k : Nat) :
    ∀ i : Nat, us.size - i = k → MeetsIn prog w (Builtin.«list.__eq__.loop» ⟨[.ref l, .ref b, rawInt i, rawInt 3], []⟩)
      (fun A R s => s.heap.get? l = some { cls := .type "list", dict := d1, data := .seq us n, slots := o1 } ∧ s.heap.get? b = some { cls := .type "list", dict := d2, data := .seq ws m, slots := o2 } ∧
        (∀ j (h1 : j < us.size) (h2 : j < ws.size), EqIn prog w A.in1 s us[j] ws[j] true) ∧ R (.ok (.ret (.bool false))) s) := by
  induction k with
  | zero =>
    intro i hk A R s z
    obtain ⟨hp, g, d, tk, os⟩ := s
    obtain ⟨hl, hb, he, z⟩ := z
    wp_walk using wpAny_loadPart' hl, wpAny_loadPart' hb
    have no1 : us[((i : Nat) : Int).toNat]? = none := by simp; omega
    have no2 : ws[((i : Nat) : Int).toNat]? = none := by simp; omega
    rw [no1, no2]
    wp_walk using wpAny_loadPart' hl, wpAny_loadPart' hb
    show R (.ok (.ret (.bool (us.size != ws.size)))) _
    rw [same]
    simpa using z
  | succ k ih =>
    intro i hk A R s z
    obtain ⟨hp, g, d, tk, os⟩ := s
    obtain ⟨hl, hb, he, z⟩ := z
    wp_walk using wpAny_loadPart' hl, wpAny_loadPart' hb
    have lt1 : i < us.size := by omega
    have lt2 : i < ws.size := by omega
    have at1 : us[((i : Nat) : Int).toNat]? = some us[i] := by simp [lt1]
    have at2 : ws[((i : Nat) : Int).toNat]? = some ws[i] := by simp [lt2]
    have up : ((i : Int) + 1) = ((i + 1 : Nat) : Int) := by push_cast; rfl
    rw [at1, at2]
    refine wpAny_bind (he i lt1 lt2 _ _ ?_)
    wp_walk
    rw [up]
    refine ⟨plainId_quiet plain_eq_loop _, codeAny_builtin entry_eq_loop ?_⟩
    rw [Around.under_plainId plain_eq_loop _]
    exact ih (i + 1) (by omega) A R _ ⟨hl, hb, he, z⟩
theorem ne_lists (l b : Addr) (us ws : Array Value) (n m : Nat) (d1 d2 : Option Addr) (o1 o2 : Array (Option Value)) (same : us.size = ws.size) :
    MeetsIn prog w (Builtin.«list.__ne__» ⟨[.ref l, .ref b], []⟩)
      (fun A R s => s.heap.get? l = some { cls := .type "list", dict := d1, data := .seq us n, slots := o1 } ∧ s.heap.get? b = some { cls := .type "list", dict := d2, data := .seq ws m, slots := o2 } ∧
        (∀ j (h1 : j < us.size) (h2 : j < ws.size), EqIn prog w A.in1 s us[j] ws[j] true) ∧ R (.ok (.ret (.bool false))) s) := by
  intro A R s z
  obtain ⟨hp, g, d, tk, os⟩ := s
  obtain ⟨hl, hb, he, z⟩ := z
  have sub := AutoSeq1.sub_list_list
  have no : ¬ (us.size != ws.size) = true := by simp [same]
  wp_walk using wpAny_loadPart' hl, wpAny_loadPart' hb
  refine ⟨plainId_quiet plain_eq_loop _, codeAny_builtin entry_eq_loop ?_⟩
  rw [Around.under_plainId plain_eq_loop _]
  exact ne_turns l b us ws n m d1 d2 o1 o2 same _ 0 rfl A R _ ⟨hl, hb, he, z⟩
theorem rcNe_lists {A : Around} {s : Shared} {E Q : Value → Shared → Prop} {l b : Addr} {us ws : Array Value} (hl : s.heap.IsList l us) (hb : s.heap.IsList b ws) (same : us.size = ws.size) (hu : A.units < cLine)
    (he : ∀ j (h1 : j < us.size) (h2 : j < ws.size), EqIn prog w A.in1 s us[j] ws[j] true) (z : Q (.bool false) s) : wpAny (model prog w) A (richCompare .NotEq (.ref l) (.ref b)) Q E s := by
  obtain ⟨⟨c1, d1, t1, o1⟩, x1, y1, n, z1⟩ := hl
  obtain ⟨⟨c2, d2, t2, o2⟩, x2, y2, m, z2⟩ := hb
  simp only at y1 z1 y2 z2
  subst y1 z1 y2 z2
  have ta : s.TypeIs (.ref l) "list" := ⟨_, x1, rfl⟩
  have tb : s.TypeIs (.ref b) "list" := ⟨_, x2, rfl⟩
  refine wpAny_richCompare_same_room (op := .NotEq) ta tb F.slot_list_ne ?_ hu
  exact call_meetsIn F.slot_list_ne ta F.entry_list_ne (F.args_list_ne_2 _ _) (ne_lists l b us ws n m d1 d2 o1 o2 same) ⟨x1, x2, he, show Value.bool false ≠ Value.notImplemented ∧ Q (.bool false) s from ⟨(fun x => nomatch x), z⟩⟩
end
end Zq
namespace Sl
open PySem PySem.Spec PyProof.Rows L2
/-- two lists, two tuples of equal items; two dicts of the same keys, their values equal -/
def EqRW (K : PySem.W.Frag) (H : Hp) (E : V → V → Prop) (x y : V) : Prop :=
  EqR K H E x y ∨ ∃ a b xs ys, x = .ref a ∧ y = .ref b ∧ SqT K H a xs ∧ SqT K H b ys ∧ Paired E xs ys
/-- equal, of nesting below n -/
def EqW (K : PySem.W.Frag) (H : Hp) : Nat → V → V → Prop
  | 0 => fun _ _ => False
  | n + 1 => fun x y => (x = y ∧ flatB x = true) ∨ (∃ a, x = .ref a ∧ y = .ref a) ∨ EqRW K H (EqW K H n) x y
section
variable {X : Cx} {pins : List (Addr × Obj)} {σ : L2.St} {H : Hp} {s : Shared}
theorem eqRW_run (I : L2.Inv X pins σ H s) {A : Around} {F : V → V → Prop} (hu : A.units < cLine) (ih : ∀ x y v u, F x y → RelV x v → RelV y u → SeqAt.EqP X.prog X.w A.in1 s v u true) {x y : V} {v u : Value} (h : EqRW X.K H F x y) (rx : RelV x v) (ry : RelV y u)
    (E Q : Value → Shared → Prop) (q : Q (.bool true) s) : wpAny (model X.prog X.w) A (richCompare .Eq v u) Q E s := by
  rcases h with h | ⟨a, b, xs, ys, rfl, rfl, ha, hb, hp⟩
  · exact eqR_run I hu ih h rx ry E Q q
  · cases (show v = Value.ref a from rx)
    cases (show u = Value.ref b from ry)
    obtain ⟨us, r1, p1, _⟩ := I.tuple ha
    obtain ⟨ws, r2, p2, _⟩ := I.tuple hb
    have hsz : us.toArray.size = ws.toArray.size := by
      rw [List.size_toArray, List.size_toArray, ← r1.length, ← r2.length]
      exact Paired.length hp
    refine SeqAt.rcIn_tuples (e := fun _ => true) p1 p2 hu (fun j h1 h2 => ?_) ?_
    · have k := items_run ih hp r1 r2 j (by simpa using h1) (by simpa using h2)
      show SeqAt.EqP X.prog X.w A.in1 s us.toArray[j] ws.toArray[j] true
      simpa using k
    · rw [show ((List.range (min us.toArray.size ws.toArray.size)).all fun _ => true) = true from List.all_eq_true.mpr fun _ _ => rfl, hsz]
      simpa using q
theorem eqW_run (I : L2.Inv X pins σ H s) : ∀ (n : Nat) (A : Around), A.units + n < cLine → ∀ (x y : V) (v u : Value), EqW X.K H n x y → RelV x v → RelV y u → SeqAt.EqP X.prog X.w A s v u true
  | 0, _, _, _, _, _, _, h, _, _ => (show False from h).elim
  | n + 1, A, hu, x, y, v, u, h, rx, ry => by
    rcases h with ⟨rfl, f⟩ | ⟨a, rfl, rfl⟩ | h
    · exact (eqAt_same rx ry f).eqP
    · cases (show v = Value.ref a from rx)
      cases (show u = Value.ref a from ry)
      exact (SeqAt.EqAt.same _).eqP
    · have go := eqRW_run I (A := A) (by omega) (eqW_run I n A.in1 (by show A.units + 1 + n < cLine; omega)) h rx ry
      obtain ⟨a, b, rfl, rfl⟩ : ∃ a b, x = .ref a ∧ y = .ref b := by
        rcases h with (⟨a, b, _, _, e1, e2, _⟩ | ⟨a, b, _, _, e1, e2, _⟩) | ⟨a, b, _, _, e1, e2, _⟩
        · exact ⟨a, b, e1, e2⟩
        · exact ⟨a, b, e1, e2⟩
        · exact ⟨a, b, e1, e2⟩
      cases (show v = Value.ref a from rx)
      cases (show u = Value.ref b from ry)
      by_cases e : a = b
      · subst e
        exact (SeqAt.EqAt.same _).eqP
      · exact SeqAt.eqP_refs e go
end
section
variable {X : Cx} {K : PySem.W.Frag}
def rEqW (K : PySem.W.Frag) : R2 := fun x y H Q => ∃ n, n ≤ 60 ∧ EqRW K H (EqW K H n) x y ∧ Q (.bl true) H
def rNeW (K : PySem.W.Frag) : R2 := fun x y H Q => ∃ n a b xs ys, n ≤ 60 ∧ x = .ref a ∧ y = .ref b ∧ SqL K H a xs ∧ SqL K H b ys ∧ Paired (EqW K H n) xs ys ∧ Q (.bl false) H
theorem op_eqW (hu : X.A.units + 64 < cLine) : OpR X (compareOp .Eq) (rEqW X.K) := by
  intro pins s σ H x y v u Q I rx ry h
  obtain ⟨n, hn, h, q⟩ := h
  exact eqRW_run I (A := X.A) (by omega) (eqW_run I n X.A.in1 (by show X.A.units + 1 + n < cLine; omega)) h rx ry _ _ ⟨.bl true, H, I, rfl, q⟩
theorem op_neW (hu : X.A.units + 64 < cLine) : OpR X (compareOp .NotEq) (rNeW X.K) := by
  intro pins s σ H x y v u Q I rx ry h
  obtain ⟨n, a, b, xs, ys, hn, rfl, rfl, ha, hb, hp, q⟩ := h
  cases (show v = Value.ref a from rx)
  cases (show u = Value.ref b from ry)
  obtain ⟨us, r1, p1, _⟩ := I.list ha
  obtain ⟨ws, r2, p2, _⟩ := I.list hb
  have hsz : us.toArray.size = ws.toArray.size := by
    rw [List.size_toArray, List.size_toArray, ← r1.length, ← r2.length]
    exact Paired.length hp
  refine Zq.rcNe_lists p1.isList p2.isList hsz (by omega) (fun j h1 h2 => ?_) ⟨.bl false, H, I, rfl, q⟩
  have k := items_run (eqW_run I n X.A.in1 (by show X.A.units + 1 + n < cLine; omega)) hp r1 r2 j (by simpa using h1) (by simpa using h2)
  show SeqAt.EqP X.prog X.w X.A.in1 s us.toArray[j] ws.toArray[j] true
  simpa using k
theorem k_eqW (h : X.K = K) (hu : X.A.units + 64 < cLine) : OpR X (compareOp .Eq) (rEqW K) := h ▸ op_eqW hu
theorem k_neW (h : X.K = K) (hu : X.A.units + 64 < cLine) : OpR X (compareOp .NotEq) (rNeW K) := h ▸ op_neW hu
end
section
variable {K : PySem.W.Frag} {H : Hp} {Q : VK} {x y : V} {a b : Addr} {n : Nat}
theorem eqW_flat {v : V} (f : flatB v = true) : EqW K H (n + 1) v v := .inl ⟨rfl, f⟩
theorem eqW_ref : EqW K H (n + 1) (.ref a) (.ref a) := .inr (.inl ⟨a, rfl, rfl⟩)
theorem eqW_lst {xs ys : List V} (h1 : SqL K H a xs) (h2 : SqL K H b ys) (p : Paired (EqW K H n) xs ys) : EqW K H (n + 1) (.ref a) (.ref b) := .inr (.inr (.inl (.inl ⟨a, b, xs, ys, rfl, rfl, h1, h2, p⟩)))
theorem eqW_tup {xs ys : List V} (h1 : SqT K H a xs) (h2 : SqT K H b ys) (p : Paired (EqW K H n) xs ys) : EqW K H (n + 1) (.ref a) (.ref b) := .inr (.inr (.inr ⟨a, b, xs, ys, rfl, rfl, h1, h2, p⟩))
theorem eqW_dK {ks ls : List (Key × V)} (h1 : H a = some (.dK ks)) (h2 : H b = some (.dK ls)) (l : ks.length = ls.length) (p : ∀ p ∈ ks, ∃ u, valV ls p.1 = some u ∧ EqW K H n p.2 u) : EqW K H (n + 1) (.ref a) (.ref b) := .inr (.inr (.inl (.inr ⟨a, b, ks, ls, rfl, rfl, h1, h2, l, p⟩)))
theorem paired_flat : ∀ {xs : List V}, xs.all flatB = true → Paired (EqW K H (n + 1)) xs xs
  | [], _ => .nil
  | x :: xs, h => by
    rw [List.all_cons, Bool.and_eq_true] at h
    exact .cons (eqW_flat h.1) (paired_flat h.2)
theorem paired_ints (ns : List Int) : Paired (EqW K H (n + 1)) (ns.map V.int) (ns.map V.int) := paired_flat (by
  rw [List.all_map]
  exact List.all_eq_true.mpr fun _ _ => rfl)
theorem r_eqWT {xs ys : List V} (hn : n ≤ 60) (h1 : SqT K H a xs) (h2 : SqT K H b ys) (p : Paired (EqW K H n) xs ys) (q : Q (.bl true) H) : rEqW K (.ref a) (.ref b) H Q := ⟨n, hn, .inr ⟨a, b, xs, ys, rfl, rfl, h1, h2, p⟩, q⟩
theorem r_eqWL {xs ys : List V} (hn : n ≤ 60) (h1 : SqL K H a xs) (h2 : SqL K H b ys) (p : Paired (EqW K H n) xs ys) (q : Q (.bl true) H) : rEqW K (.ref a) (.ref b) H Q := ⟨n, hn, .inl (.inl ⟨a, b, xs, ys, rfl, rfl, h1, h2, p⟩), q⟩
theorem r_eqWD {ks ls : List (Key × V)} (hn : n ≤ 60) (h1 : H a = some (.dK ks)) (h2 : H b = some (.dK ls)) (l : ks.length = ls.length) (p : ∀ p ∈ ks, ∃ u, valV ls p.1 = some u ∧ EqW K H n p.2 u) (q : Q (.bl true) H) : rEqW K (.ref a) (.ref b) H Q := ⟨n, hn, .inl (.inr ⟨a, b, ks, ls, rfl, rfl, h1, h2, l, p⟩), q⟩
theorem r_neWL {xs ys : List V} (hn : n ≤ 60) (h1 : SqL K H a xs) (h2 : SqL K H b ys) (p : Paired (EqW K H n) xs ys) (q : Q (.bl false) H) : rNeW K (.ref a) (.ref b) H Q := ⟨n, a, b, xs, ys, hn, rfl, rfl, h1, h2, p, q⟩
end
end Sl

set_option linter.all false
set_option maxRecDepth 100000
set_option maxHeartbeats 1000000
namespace Sl
open PySem L2
/-! ### loops over a dict, locked meanwhile (for laws without lambdas) -/
theorem r_lockX {D : Ends} {σ : L2.St} {H : Hp} {d : Addr} {kvs : List (Key × V)} {L : List SA} {wi : TI} {g : TG} {tb : TS} (hs : Hd (pto d (.dK kvs) :: L) H)
    (q : ∀ od H', Hd (pto d (.frz od (.dK kvs)) :: L) H' → wi σ H' (ForK g tb ⟨UnlS d od (.dK kvs) D.nx, UnlK d od (.dK kvs) D.rt, UnlS d od (.dK kvs) D.bk, UnlS d od (.dK kvs) D.ct⟩ σ)) : tLock (tFor wi g tb) D σ H :=
  ⟨d, .dK kvs, hs.get .here, trivial, fun od => q od _ (hs.set .here fun z => z)⟩
section
variable {σ : L2.St} {H : Hp} {D : Ends} {tb : TS} {g : TG} {a : Addr} {o : Obj} {α : Type} {f : α → V}
theorem r_forKX (d : List (Int × α)) (P : Nat → L2.St → Hp → Prop) (h0 : P 0 σ H) (hl : ∀ i σ H, P i σ H → H a = some (.frz o (.dK (dM f d))))
    (step : ∀ i e σ H, d[i]? = some e → P i σ H → g (.int e.1) σ H fun σ2 H2 => tb { D with nx := P (i + 1), ct := P (i + 1), bk := D.nx } σ2 H2)
    (done : ∀ σ H, P d.length σ H → D.nx σ H) : ForK g tb D σ (Itk a o (dM f d)) H := by
  refine r_forW walk_keys P h0 (fun i σ H _ h => hl i σ H h) (fun i x σ H H' hi h y => ?_) ?_
  · obtain ⟨e1, k, v, y, ex⟩ := y
    subst e1 ex
    unfold dM at y
    rw [List.getElem?_map] at y
    obtain ⟨e, hx2, ek⟩ := Option.map_eq_some_iff.mp y
    cases ek
    exact step i e σ _ hx2 h
  · intro σ H h
    rw [len_dM] at h
    exact done σ H h
end
/-- max(list of numbers) -/
theorem r_maxL {K : PySem.W.Frag} {H : Hp} {Q : VK} {a : Addr} {ns : List Int} (h : SqL K H a (ns.map V.int)) (ne : ns ≠ []) (q : ∀ m, m ∈ ns → (∀ y, y ∈ ns → y ≤ m) → Q (.int m) H) : rMax K [.ref a] H Q :=
  ⟨a, ns, rfl, h, List.length_pos_iff.mpr ne, q⟩
theorem r_minL {K : PySem.W.Frag} {H : Hp} {Q : VK} {a : Addr} {ns : List Int} (h : SqL K H a (ns.map V.int)) (ne : ns ≠ []) (q : ∀ m, m ∈ ns → (∀ y, y ∈ ns → m ≤ y) → Q (.int m) H) : rMin K [.ref a] H Q :=
  ⟨a, ns, rfl, h, List.length_pos_iff.mpr ne, q⟩
end Sl

set_option linter.all false
set_option maxRecDepth 100000
set_option maxHeartbeats 1000000
namespace Sl
open PySem PySem.Spec L2
/-! ### d[k] op= e -/
def rGetD : V → V → Hp → VK → Prop := fun x y H Q => ∃ a v, x = V.ref a ∧ DGet H a y (some v) ∧ Q v H
theorem get_dict {X : Cx} (hu : X.A.units + 1 < cLine) : PGet X rGetD := by
  intro pins s σ H x y v u Q I rx ry h
  obtain ⟨a, w, rfl, g, q⟩ := h
  cases rx
  exact d_getItem hu I g ry fun w' s' I' r => ⟨w, H, I', r, q⟩
theorem r_getD {H : Hp} {Q : VK} {a : Addr} {i : Int} {v : V} {kvs : List (Key × V)} (h : H a = some (.dK kvs)) (hi : valV kvs (.inl i) = some v) (q : Q v H) : rGetD (.ref a) (.int i) H Q :=
  ⟨a, v, rfl, .inl ⟨kvs, .inl i, .inl h, rfl, hi.symm⟩, q⟩
/-! ### dicts of tuples -/
def tupX {β : Type} (f : β → List V) (g : List (Int × (Addr × β))) : SA := fun H => ∀ e ∈ g, H e.2.1 = some (.tup (f e.2.2))
section
variable {β : Type} {f : β → List V} {g : List (Int × (Addr × β))} {n k : Int} {t : Addr} {x : β} {L L' : List SA} {H : Hp}
theorem up_tupX : Up (tupX f g) := fun _ _ s h e m => s _ _ (h e m)
theorem tupX_nil (h : Hd L H) : Hd (tupX f [] :: L) H := ⟨fun _ => none, H, fun _ _ _ h => (nomatch h), fun _ _ h => (nomatch h), Sub.refl _, fun _ m => (nomatch m), h⟩
theorem tupX_put (h : Hd (pto t (.tup (f x)) :: tupX f g :: L) H) : Hd (tupX f (putM g n (t, x)) :: L) H :=
  Hd.join (up_pto _ _) up_tupX h fun _ z1 z2 e m => by
    rcases mem_putM m with y | y
    · exact z2 e y
    · subst y
      exact z1
theorem tupX_drop (h : Hd (tupX f g :: L) H) : Hd (tupX f (dropM g n) :: L) H := h.imp fun _ z e m => z e (List.mem_filter.mp m).1
theorem tupX_get (h : Hd L H) (p : Pull (tupX f g) L L') (e : getM g k = some (t, x)) : H t = some (.tup (f x)) := (h.at up_tupX p) _ (getM_some e)
theorem tupX_mem {e : Int × (Addr × β)} (h : Hd L H) (p : Pull (tupX f g) L L') (m : e ∈ g) : H e.2.1 = some (.tup (f e.2.2)) := (h.at up_tupX p) _ m
end
theorem nd_inj {α : Type} {d : List (Int × α)} {x : Int} {a b : α} (nd : (keysM d).Nodup) (h1 : (x, a) ∈ d) (h2 : (x, b) ∈ d) : a = b := by
  have e1 := getM_at nd h1
  rw [getM_at nd h2] at e1
  exact (Option.some.inj e1).symm
theorem big_drop {α : Type} {F : Int × α → SA} {G : List (Int × α)} {k : Int} {L : List SA} {H : Hp} (nd : (keysM G).Nodup) (h : Hd (big F G :: L) H) : Hd (big F (dropM G k) :: L) H := by
  cases g : getM G k with
  | some x => exact Hd.mt (.drop .refl) (big_get nd g h)
  | none =>
    rw [drop_none (fun m => by rw [mem_keysM, g] at m; cases m)]
    exact h
end Sl
namespace Sl
open PySem PySem.Spec L2
/-- dict of pairs with unlike keys -/
theorem putM_new {α : Type} {d : List (Int × α)} {k : Int} {x : α} (h : k ∉ keysM d) : putM d k x = d ++ [(k, x)] := by
  unfold putM
  rw [if_neg]
  intro z
  obtain ⟨e, he, ek⟩ := List.any_eq_true.mp z
  exact h (List.mem_map.mpr ⟨e, he, of_decide_eq_true ek⟩)
theorem mergeK_dM {α : Type} {f : α → V} : ∀ (b a : List (Int × α)), (keysM (a ++ b)).Nodup → mergeK (dM f a) (dM f b) = dM f (a ++ b)
  | [], a, _ => by rw [List.append_nil]; rfl
  | (k, x) :: r, a, h => by
    have h1 : k ∉ keysM a := fun z => by
      unfold keysM at h z
      rw [List.map_append, List.map_cons] at h
      exact (List.nodup_append.mp h).2.2 k z k (List.mem_cons_self ..) rfl
    show mergeK (putK (dM f a) (.inl k) (f x)) (dM f r) = _
    rw [putK_dM, putM_new h1, mergeK_dM r (a ++ [(k, x)]) (by rw [List.append_assoc]; exact h), List.append_assoc]
    rfl
theorem merge_new {α : Type} {f : α → V} {b : List (Int × α)} (h : (keysM b).Nodup) : mergeK [] (dM f b) = dM f b := mergeK_dM b [] h
end Sl

set_option linter.all false
set_option maxRecDepth 100000
set_option maxHeartbeats 1000000
namespace Sl
open PySem L2 PyProof.Rows
/-! ### l.count(y) of flat things -/
theorem cnt_vals2 {y : V} : ∀ {ys : List V} {us : List Value}, Vals ys us → ys.all flatV = true → us.countP (eqU y) = ys.countP fun z => eqV z y
  | _, _, .nil, _ => rfl
  | _, _, .cons r rt, f => by
    rw [List.all_cons, Bool.and_eq_true] at f
    rw [List.countP_cons, List.countP_cons, cnt_vals2 rt f.2, eqU_of r f.1]
def rCntG (K : PySem.W.Frag) : V → List V → Hp → VK → Prop := fun x xs H Q => ∃ (a : Addr) (ys : List V) (y : V), x = V.ref a ∧ xs = [y] ∧ SqL K H a ys ∧ flatV y = true ∧ ys.all flatV = true ∧ Q (.int ((ys.countP fun z => eqV z y : Nat))) H
section
variable {X : Cx}
theorem mt_cntG : MtR X "list.count" (rCntG X.K) := by
  intro pins s σ H x xs v us Q I rx rxs h
  obtain ⟨a, ys, y, rfl, rfl, hs, fy, fys, q⟩ := h
  cases rx
  cases rxs with
  | cons ry rt =>
    rename_i uy ut
    cases rt
    obtain ⟨its, rv, ⟨⟨cls, dd, data, sl⟩, n, ho, hc, hdn, hd⟩, hlen⟩ := I.list hs
    simp only at hc hd
    subst hc hd
    refine call_meets PySem.F.slot_list_count ⟨_, ho, rfl⟩ PySem.F.entry_list_count (PySem.F.args_list_count_2 _ _)
      (SeqAt.list_countAt a its.toArray n dd sl uy (eqU y)) ⟨ho, fun u' hu' => mem_eqAt ry fy rv fys u' (by simpa using hu'), ?_⟩
    have ec : its.toArray.toList.countP (eqU y) = ys.countP fun z => eqV z y := cnt_vals2 rv fys
    refine ⟨.int ((ys.countP fun z => eqV z y : Nat)), H, I.tok _, ⟨s.toks, ?_⟩, q⟩
    show Value.int ((its.toArray.toList.countP (eqU y) : Nat) : Int) s.toks = Value.int ((ys.countP fun z => eqV z y : Nat) : Int) s.toks
    rw [ec]
theorem k_mtCntG {K : PySem.W.Frag} (h : X.K = K) : MtR X "list.count" (rCntG K) := h ▸ mt_cntG
end
theorem r_cntG {K : PySem.W.Frag} {H : Hp} {Q : VK} {a : Addr} {ys : List V} {y : V} {n : Nat} (h : SqL K H a ys) (fy : flatV y = true) (fys : ys.all flatV = true) (e : (ys.countP fun z => eqV z y) = n) (q : Q (.int (n : Nat)) H) : rCntG K (.ref a) [y] H Q :=
  ⟨a, ys, y, rfl, rfl, h, fy, fys, by rw [e]; exact q⟩
end Sl

set_option linter.all false
set_option maxRecDepth 100000
set_option maxHeartbeats 1000000
/-! a tuple's items put behind a list's; names set from a list; a list over the values of a dict -/
namespace Zx
open PySem PySem.SeqAt PySem.W PyProof.Rows
open AutoSeq1
theorem extend_tup (l : Addr) (items : Array Value) (n : Nat) (b : Addr) (items2 : Array Value) (n2 : Nat) (d2 : Option Addr) (o2 : Array (Option Value)) (hs0 : ¬(!items.isEmpty && Builtin.List.listTooLong (items.size + items2.size)) = true) (hs1 : items.size ≤ sizeLine) (hs2 : items.size + items2.size ≤ sizeLine + 1) :
    Meets (Builtin.«list.extend» ⟨[.ref l, .ref b], []⟩) (fun _ R s => s.heap.get? l = some { cls := .type "list", dict := none, data := .seq items n, slots := #[] } ∧ s.heap.get? b = some { cls := .type "tuple", dict := d2, data := .seq items2 n2, slots := o2 } ∧ R (.ok (.ret Value.none)) { s with heap := s.heap.update l (Obj.mapSeq fun x => x ++ items2), toks := s.toks }) :=
  .of_wp fun prog w A R s h => by
    obtain ⟨hp, g, d, tk, os⟩ := s; obtain ⟨hl, hb, h⟩ := h; have f1 := idx_int; have f2 := AutoSeq1.sub_tuple_tuple; have f3 := AutoSeq1.sub_list_list; have f4 := AutoSeq1.sub_tuple_list; have f5 := AutoSeq1.sub_list_tuple;
    have hz' : (items ++ items2).size ≤ sizeLine + 1 := by rw [Array.size_append]; exact hs2
    wp_walk using (wpAny_updateSeq hl rfl (hz := hs1) (_hz' := hz')), wpAny_loadPart' hl, wpAny_loadPart' hb; exact ⟨_, rfl, h⟩
section
variable {prog : Program} {w : World} {A : Around} {E : Value → Shared → Prop} {s : Shared} {env : Env}
theorem assign_list {elts : List Expr} {k : Nat} {pos : Pos} {l : Addr} {items : Array Value} {Q : Unit → Shared → Prop} (hh : A.handled = none) (hl : s.heap.IsList l items) (hn : (assignEach elts env).length = items.size)
    (hstar : (assignEach elts env).findIdx? (·.1) = none) (h : ∀ h', Heap.ExtBut s.heap.objs.size s.heap h' → wpAny (model prog w) A (assignInOrder ((assignEach elts env).map (·.2)) items.toList) Q E { s with heap := h' }) :
    wpAny (model prog w) A (assign (.Tuple elts k pos) env (.ref l)) Q E s := by
  rw [assign_Tuple]
  refine wpAny_bind (wpAny_standAt ?_)
  unfold unpack
  rw [hn, hstar]
  exact wpAny_bind (wpAny_holding (kun_itemsOf hh hl h))
end
end Zx
namespace Sl
open PySem L2 PyProof.Rows
def rExtT (K : PySem.W.Frag) : V → List V → Hp → VK → Prop := fun x vs H Q => ∃ l b xs zs, x = .ref l ∧ vs = [.ref b] ∧ H l = some (.lst xs) ∧ SqT K H b zs ∧ xs.length + zs.length ≤ sizeLine ∧ Q .non (upd H l (.lst (xs ++ zs)))
/-- a, b, ..: from a list of that length -/
def gLst (K : PySem.W.Frag) (n : Nat) (t : TGs) : TG := fun v σ H Q => ∃ a xs, v = .ref a ∧ SqL K H a xs ∧ xs.length = n ∧ t xs σ H Q
section
variable {X : Cx} {pos : Pos}
theorem mt_extT : MtM X "list.extend" (rExtT X.K) := by
  intro pins s σ H x vs v us Q I rx rv h
  obtain ⟨l, b, xs, zs, rfl, rfl, hH, hB, hz, q⟩ := h
  cases rx
  obtain ⟨u, rfl, ru⟩ := rv.one
  cases ru
  obtain ⟨z, its, n, r, hl, e⟩ := I.lstM hH
  obtain ⟨its2, r2, ⟨⟨cls, dd, data, sl⟩, ho, hc, n2, hd⟩, z2⟩ := I.tuple hB
  simp only at hc hd
  subst hc hd
  have hl2 := r2.length
  have hsz : its.toArray.size + its2.toArray.size ≤ sizeLine := by rw [List.size_toArray, List.size_toArray]; omega
  have hlong : ¬ (!its.toArray.isEmpty && Builtin.List.listTooLong (its.toArray.size + its2.toArray.size)) = true := by
    rw [notLongL hsz, Bool.and_false]
    exact Bool.false_ne_true
  refine call_meets PySem.F.slot_list_extend ⟨_, e, rfl⟩ PySem.F.entry_list_extend (PySem.F.args_list_extend_2 _ _)
    (Zx.extend_tup l its.toArray n b its2.toArray n2 dd sl hlong (by rw [List.size_toArray]; omega) (by omega)) ⟨e, ho, ?_⟩
  refine ⟨.non, _, I.lset (its' := its ++ its2) hH e (by simp) (r.append r2) ?_, rfl, q⟩
  rw [List.length_append]
  omega
theorem k_mtExtT {K : PySem.W.Frag} (h : X.K = K) : MtM X "list.extend" (rExtT K) := h ▸ mt_extT
theorem pg_tupL {es : List Expr} {k : Nat} {t : TGs} {n : Nat} (hc : X.calm = true) (h : PGs X es t)
    (hn : (assignEach es X.env).length = n := by rfl) (hst : (assignEach es X.env).findIdx? (·.1) = none := by rfl) : PG X (.Tuple es k pos) (gLst X.K n t) := by
  refine ⟨fun pins s σ H v u Q I r hw => ?_⟩
  obtain ⟨a, xs, e1, hq, hl, hw⟩ := hw
  subst e1
  cases r
  obtain ⟨its, rv, ht, hz⟩ := I.list hq
  refine Zx.assign_list (I.ok.hd hc) ht.isList (by simp [hn, ← hl, rv.length]) hst fun h' hx => ?_
  have I1 : L2.Inv X pins σ H { s with heap := h' } := I.kept (t' := s.toks) fun b o e => hx b o (Nat.ne_of_lt (Heap.lt_size e)) e
  exact h.run pins _ σ H xs _ Q I1 (by simpa using rv) hw
theorem k_gLst {K : PySem.W.Frag} {es : List Expr} {k : Nat} {t : TGs} {n : Nat} {pos : Pos} (h : X.K = K) (p : PG X (.Tuple es k pos) (gLst X.K n t)) : PG X (.Tuple es k pos) (gLst K n t) := h ▸ p
end
section
variable {H : Hp} {L L' M : List SA} {Q : VK} {a b : Addr} {xs zs : List V} {K : PySem.W.Frag}
theorem r_extT {N : List SA} (hs : Hd L H) (p : Put (pto a (.lst xs)) (pto a (.lst (xs ++ zs))) L N) (h : SqT K H b zs) (hz : xs.length + zs.length ≤ sizeLine) (q : ∀ H', Hd N H' → Q .non H') : rExtT K (.ref a) [.ref b] H Q := by
  obtain ⟨M, pa, _⟩ := p.pulls
  exact ⟨a, b, xs, zs, rfl, rfl, hs.get pa, h, hz, q _ (hs.set p fun z => z)⟩
theorem r_gLst {σ : L2.St} {N : L2.St → Hp → Prop} {t : TGs} {n : Nat} (h : SqL K H a xs) (e : xs.length = n) (q : t xs σ H N) : gLst K n t (.ref a) σ H N := ⟨a, xs, rfl, h, e, q⟩
end
end Sl

set_option linter.all false
set_option maxRecDepth 100000
set_option maxHeartbeats 1000000
namespace Sd
open PySem L2 PyProof.Rows Sl
theorem emp_in {A : SA} {L : List SA} {H : Hp} (h : Hd L H) (k : ∀ H, A H) : Hd (A :: L) H := ⟨fun _ => none, H, fun _ _ _ z => (nomatch z), (fun _ _ z => nomatch z), Sub.refl _, k _, h⟩
/-! ### lists of anything, as data -/
theorem rd_up {H H' : Hp} {a : Addr} {u : HO} (s : Sub H H') (h : Rd H a u) : Rd H' a u := h.elim (fun h => .inl (s _ _ h)) fun ⟨o, h⟩ => .inr ⟨o, s _ _ h⟩
theorem sql_up {K : PySem.W.Frag} {H H' : Hp} {a : Addr} {xs : List V} (s : Sub H H') (h : SqL K H a xs) : SqL K H' a xs := h.elim (fun h => .inl (rd_up s h)) .inr
theorem sqt_up {K : PySem.W.Frag} {H H' : Hp} {a : Addr} {xs : List V} (s : Sub H H') (h : SqT K H a xs) : SqT K H' a xs := h.elim (fun h => .inl (rd_up s h)) .inr
mutual
theorem dp_up {K : PySem.W.Frag} {H H' : Hp} (s : Sub H H') : ∀ {v : V} {d : PyData}, Dp K H v d → Dp K H' v d
  | _, _, .non => .non
  | _, _, .bl b => .bl b
  | _, _, .int i => .int i
  | _, _, .str x => .str x
  | _, _, .lst h a => .lst (sql_up s h) (dpa_up s a)
  | _, _, .tup h a => .tup (sqt_up s h) (dpa_up s a)
theorem dpa_up {K : PySem.W.Frag} {H H' : Hp} (s : Sub H H') : ∀ {vs : List V} {ds : List PyData}, DpAll K H vs ds → DpAll K H' vs ds
  | _, _, .nil => .nil
  | _, _, .cons h a => .cons (dp_up s h) (dpa_up s a)
end
theorem dpa_len {K : PySem.W.Frag} {H : Hp} : ∀ {vs : List V} {ds : List PyData}, DpAll K H vs ds → vs.length = ds.length
  | _, _, .nil => rfl
  | _, _, .cons _ a => congrArg (· + 1) (dpa_len a)
theorem dpa_snoc {K : PySem.W.Frag} {H : Hp} {v : V} {d : PyData} (h : Dp K H v d) : ∀ {vs : List V} {ds : List PyData}, DpAll K H vs ds → DpAll K H (vs ++ [v]) (ds ++ [d])
  | _, _, .nil => .cons h .nil
  | _, _, .cons g a => .cons g (dpa_snoc h a)
/-- what stands in these is that -/
def dsA (K : PySem.W.Frag) (xs : List V) (ds : List PyData) : SA := fun H => DpAll K H xs ds
def dpA (K : PySem.W.Frag) (v : V) (d : PyData) : SA := fun H => Dp K H v d
section
variable {K : PySem.W.Frag} {xs ys : List V} {ds es : List PyData} {v : V} {d : PyData} {L L' : List SA} {H : Hp} {A : SA} {D : Addr}
theorem up_ds : Up (dsA K xs ds) := fun _ _ s h => dpa_up s h
theorem up_dp : Up (dpA K v d) := fun _ _ s h => dp_up s h
theorem ds_nil (h : Hd L H) : Hd (dsA K [] [] :: L) H := emp_in h fun _ => .nil
theorem ds_snoc (u : Up A) (f : ∀ G, A G → Dp K G v d) (h : Hd (A :: dsA K xs ds :: L) H) : Hd (dsA K (xs ++ [v]) (ds ++ [d]) :: L) H :=
  Hd.join u up_ds h fun G z1 z2 => dpa_snoc (f G z1) z2
theorem dp_lst (h : Hd (pto D (.lst xs) :: dsA K xs ds :: L) H) : Hd (dpA K (.ref D) (.list ds) :: L) H :=
  Hd.join (up_pto _ _) up_ds h fun G z1 z2 => .lst (SqL.of z1) z2
theorem ds_list (h : Hd (pto D (.lst ys) :: dsA K ys es :: dsA K xs ds :: L) H) : Hd (dsA K (xs ++ [.ref D]) (ds ++ [.list es]) :: L) H :=
  ds_snoc (A := dpA K (.ref D) (.list es)) up_dp (fun _ z => z) (dp_lst h)
theorem ds_dup (h : Hd L H) (p : Pull (dsA K xs ds) L L') : DpAll K H xs ds := h.at up_ds p
theorem ds_len (h : Hd L H) (p : Pull (dsA K xs ds) L L') : xs.length = ds.length := dpa_len (h.at up_ds p)
end
end Sd

set_option linter.all false
set_option maxRecDepth 100000
set_option maxHeartbeats 1000000
/-! `x not in [a, b]` of two lists told as data -/
namespace Sl
open PySem L2 PyProof.Rows
def rNin2 (K : PySem.W.Frag) : R2 := fun x y H Q => ∃ p a b da db d, y = .ref p ∧ SqL K H p [.ref a, .ref b] ∧ (a = b → da = db) ∧ (Dp K H (.ref a) da ∧ Dp K H (.ref b) db ∧ Dp K H x d) ∧ (da.canLay0 = true ∧ db.canLay0 = true ∧ d.canLay0 = true ∧ d.depth ≤ 60) ∧ Q (.bl (!(PyData.eqv da d || PyData.eqv db d))) H
section
variable {X : Cx}
theorem op_nin2 (hu : X.A.units + 64 < cLine) : OpR X (compareOp .NotIn) (rNin2 X.K) := by
  intro pins s σ H x y v u Q I rx ry h
  obtain ⟨p, a, b, da, db, d, rfl, hq, hab, ⟨ha, hb, hd⟩, ⟨ca, cb, cd, dd⟩, q⟩ := h
  cases ry
  obtain ⟨its, r, pl, hz⟩ := I.list hq
  obtain ⟨va, vb, rfl, ra, rb⟩ : ∃ va vb, its = [va, vb] ∧ RelV (.ref a) va ∧ RelV (.ref b) vb := by
    cases r with
    | cons r1 t =>
      cases t with
      | cons r2 t2 =>
        cases t2
        exact ⟨_, _, rfl, r1, r2⟩
  cases ra
  cases rb
  obtain ⟨as, ea⟩ := Dp.reads I da (.ref a) (.ref a) ha rfl
  obtain ⟨bs, eb⟩ := Dp.reads I db (.ref b) (.ref b) hb rfl
  obtain ⟨ds, ed⟩ := Dp.reads I d x v hd rx
  have qa := SeqAt.eqAt_reads da d X.A.in1 s _ _ _ _ ea ed ca cd (by show X.A.units + 1 + _ < cLine; omega)
  have qb := SeqAt.eqAt_reads db d X.A.in1 s _ _ _ _ eb ed cb cd (by show X.A.units + 1 + _ < cLine; omega)
  let e : Value → Bool := fun w => match w with
    | .ref l => if l = a then PyData.eqv da d else PyData.eqv db d
    | _ => false
  have e1 : e (.ref a) = PyData.eqv da d := if_pos rfl
  have e2 : e (.ref b) = PyData.eqv db d := by
    show (if b = a then PyData.eqv da d else PyData.eqv db d) = _
    by_cases z : b = a
    · rw [if_pos z, hab z.symm]
    · rw [if_neg z]
  refine SeqAt.notIn_listAt e pl.isList (fun w hw => ?_) ⟨.bl _, H, I, rfl, ?_⟩
  · have hw2 : w = .ref a ∨ w = .ref b := by simpa using hw
    rcases hw2 with rfl | rfl
    · rw [e1]
      exact qa
    · rw [e2]
      exact qb
  · have gen : ∀ its : List Value, its.toArray.any e = its.any e := fun its => by simp
    rw [gen, List.any_cons, List.any_cons, List.any_nil, Bool.or_false, e1, e2]
    exact q
theorem k_nin2 {K : PySem.W.Frag} (h : X.K = K) (hu : X.A.units + 64 < cLine) : OpR X (compareOp .NotIn) (rNin2 K) := h ▸ op_nin2 hu
end
end Sl

namespace My
open PySem L2 Sl
def top (i : Nat) : Stmt := PySem.Challenge.pw_keelroom_k45_whole_behind_any_stop.main.body.getD i (.Pass ⟨0, 0, 0, 0⟩)
abbrev s_is_whole : Stmt := top 12
abbrev s_is_among : Stmt := top 13
abbrev s_is_word : Stmt := top 14
abbrev s_need_word : Stmt := top 15
abbrev s_wrapped : Stmt := top 16
abbrev s_Disk_init : Stmt := inClass (top 20) 0
abbrev s_Disk_block : Stmt := inClass (top 20) 1
abbrev s_Disk_write : Stmt := inClass (top 20) 2
abbrev s_Disk_stop : Stmt := inClass (top 20) 3
abbrev s_Disk_go : Stmt := inClass (top 20) 4
abbrev s_Disk_writes : Stmt := inClass (top 20) 5
abbrev s_words_of : Stmt := top 21
abbrev s_sure : Stmt := top 22
abbrev s_rise : Stmt := top 23
abbrev s_blocks_for : Stmt := top 30
abbrev s_File_init : Stmt := inClass (top 31) 0
abbrev s_Files_init : Stmt := inClass (top 32) 0
abbrev s_Files_many : Stmt := inClass (top 32) 1
abbrev s_Files_names : Stmt := inClass (top 32) 2
abbrev s_Files_file_of : Stmt := inClass (top 32) 3
abbrev s_Files_make : Stmt := inClass (top 32) 4
abbrev s_Files_remove : Stmt := inClass (top 32) 5
abbrev s_Files_go_idle : Stmt := inClass (top 32) 6
abbrev s_Files_give_back : Stmt := inClass (top 32) 7
abbrev s_Files_files : Stmt := inClass (top 32) 8
abbrev s_Files_found : Stmt := inClass (top 32) 9
abbrev s_Files_name : Stmt := inClass (top 32) 10
abbrev s_Files_hold : Stmt := inClass (top 32) 11
abbrev s_Files_held : Stmt := inClass (top 32) 13
abbrev s_Files_length : Stmt := inClass (top 32) 14
abbrev s_Files_read : Stmt := inClass (top 32) 15
abbrev s_Files_put : Stmt := inClass (top 32) 16
abbrev s_Files_cut : Stmt := inClass (top 32) 17
abbrev s_Files_blocks : Stmt := inClass (top 32) 18
abbrev s_Files_free : Stmt := inClass (top 32) 19
abbrev s_law_cell_at : Stmt := top 34
abbrev s_law_mixed : Stmt := top 35
abbrev s_law_row : Stmt := top 36
abbrev s_law_next : Stmt := top 37
abbrev s_law_wants : Stmt := top 38
abbrev s_law_deed : Stmt := top 39
abbrev s_law_told : Stmt := top 40
abbrev s_law_stopped : Stmt := top 41
abbrev s_law : Stmt := top 42
theorem sc_is_whole : FnScope ["thing"] ["thing"] (defScope s_is_whole) := ⟨rfl, rfl, rfl, by decide +kernel, rfl, by decide +kernel, by decide +kernel⟩
theorem sc_is_among : FnScope ["thing", "least", "most"] ["thing", "least", "most"] (defScope s_is_among) := ⟨rfl, rfl, rfl, by decide +kernel, rfl, by decide +kernel, by decide +kernel⟩
theorem sc_is_word : FnScope ["thing"] ["thing"] (defScope s_is_word) := ⟨rfl, rfl, rfl, by decide +kernel, rfl, by decide +kernel, by decide +kernel⟩
theorem sc_need_word : FnScope ["thing"] ["thing"] (defScope s_need_word) := ⟨rfl, rfl, rfl, by decide +kernel, rfl, by decide +kernel, by decide +kernel⟩
theorem sc_wrapped : FnScope ["number"] ["number"] (defScope s_wrapped) := ⟨rfl, rfl, rfl, by decide +kernel, rfl, by decide +kernel, by decide +kernel⟩
theorem sc_Disk_init : FnScope ["self"] ["self"] (defScope s_Disk_init) := ⟨rfl, rfl, rfl, by decide +kernel, rfl, by decide +kernel, by decide +kernel⟩
theorem sc_Disk_block : FnScope ["self", "number"] ["self", "number"] (defScope s_Disk_block) := ⟨rfl, rfl, rfl, by decide +kernel, rfl, by decide +kernel, by decide +kernel⟩
theorem sc_Disk_write : FnScope ["self", "number", "words"] ["self", "number", "words"] (defScope s_Disk_write) := ⟨rfl, rfl, rfl, by decide +kernel, rfl, by decide +kernel, by decide +kernel⟩
theorem sc_Disk_stop : FnScope ["self", "many"] ["self", "many"] (defScope s_Disk_stop) := ⟨rfl, rfl, rfl, by decide +kernel, rfl, by decide +kernel, by decide +kernel⟩
theorem sc_Disk_go : FnScope ["self"] ["self"] (defScope s_Disk_go) := ⟨rfl, rfl, rfl, by decide +kernel, rfl, by decide +kernel, by decide +kernel⟩
theorem sc_Disk_writes : FnScope ["self"] ["self"] (defScope s_Disk_writes) := ⟨rfl, rfl, rfl, by decide +kernel, rfl, by decide +kernel, by decide +kernel⟩
theorem sc_words_of : FnScope ["files", "found", "name", "file", "long"] ["files"] (defScope s_words_of) := ⟨rfl, rfl, rfl, by decide +kernel, rfl, by decide +kernel, by decide +kernel⟩
theorem sc_sure : FnScope ["disk", "files", "half", "words", "many", "total", "place", "block"] ["disk", "files"] (defScope s_sure) := ⟨rfl, rfl, rfl, by decide +kernel, rfl, by decide +kernel, by decide +kernel⟩
theorem sc_rise : FnScope ["disk", "half", "many", "words", "place", "found", "at", "turn", "name", "long"] ["disk"] (defScope s_rise) := ⟨rfl, rfl, rfl, by decide +kernel, rfl, by decide +kernel, by decide +kernel⟩
theorem sc_blocks_for : FnScope ["many"] ["many"] (defScope s_blocks_for) := ⟨rfl, rfl, rfl, by decide +kernel, rfl, by decide +kernel, by decide +kernel⟩
theorem sc_File_init : FnScope ["self", "title"] ["self", "title"] (defScope s_File_init) := ⟨rfl, rfl, rfl, by decide +kernel, rfl, by decide +kernel, by decide +kernel⟩
theorem sc_Files_init : FnScope ["self", "blocks"] ["self", "blocks"] (defScope s_Files_init) := ⟨rfl, rfl, rfl, by decide +kernel, rfl, by decide +kernel, by decide +kernel⟩
theorem sc_Files_many : FnScope ["self"] ["self"] (defScope s_Files_many) := ⟨rfl, rfl, rfl, by decide +kernel, rfl, by decide +kernel, by decide +kernel⟩
theorem sc_Files_names : FnScope ["self"] ["self"] (defScope s_Files_names) := ⟨rfl, rfl, rfl, by decide +kernel, rfl, by decide +kernel, by decide +kernel⟩
theorem sc_Files_file_of : FnScope ["self", "name"] ["self", "name"] (defScope s_Files_file_of) := ⟨rfl, rfl, rfl, by decide +kernel, rfl, by decide +kernel, by decide +kernel⟩
theorem sc_Files_make : FnScope ["self", "name", "number"] ["self", "name"] (defScope s_Files_make) := ⟨rfl, rfl, rfl, by decide +kernel, rfl, by decide +kernel, by decide +kernel⟩
theorem sc_Files_remove : FnScope ["self", "name", "number"] ["self", "name"] (defScope s_Files_remove) := ⟨rfl, rfl, rfl, by decide +kernel, rfl, by decide +kernel, by decide +kernel⟩
theorem sc_Files_go_idle : FnScope ["self", "number", "one"] ["self", "number"] (defScope s_Files_go_idle) := ⟨rfl, rfl, rfl, by decide +kernel, rfl, by decide +kernel, by decide +kernel⟩
theorem sc_Files_give_back : FnScope ["self", "one"] ["self", "one"] (defScope s_Files_give_back) := ⟨rfl, rfl, rfl, by decide +kernel, rfl, by decide +kernel, by decide +kernel⟩
theorem sc_Files_files : FnScope ["self"] ["self"] (defScope s_Files_files) := ⟨rfl, rfl, rfl, by decide +kernel, rfl, by decide +kernel, by decide +kernel⟩
theorem sc_Files_found : FnScope ["self", "file"] ["self", "file"] (defScope s_Files_found) := ⟨rfl, rfl, rfl, by decide +kernel, rfl, by decide +kernel, by decide +kernel⟩
theorem sc_Files_name : FnScope ["self", "file"] ["self", "file"] (defScope s_Files_name) := ⟨rfl, rfl, rfl, by decide +kernel, rfl, by decide +kernel, by decide +kernel⟩
theorem sc_Files_hold : FnScope ["self", "file", "one"] ["self", "file"] (defScope s_Files_hold) := ⟨rfl, rfl, rfl, by decide +kernel, rfl, by decide +kernel, by decide +kernel⟩
theorem sc_Files_held : FnScope ["self", "file"] ["self", "file"] (defScope s_Files_held) := ⟨rfl, rfl, rfl, by decide +kernel, rfl, by decide +kernel, by decide +kernel⟩
theorem sc_Files_length : FnScope ["self", "file"] ["self", "file"] (defScope s_Files_length) := ⟨rfl, rfl, rfl, by decide +kernel, rfl, by decide +kernel, by decide +kernel⟩
theorem sc_Files_read : FnScope ["self", "file", "place", "count"] ["self", "file", "place", "count"] (defScope s_Files_read) := ⟨rfl, rfl, rfl, by decide +kernel, rfl, by decide +kernel, by decide +kernel⟩
theorem sc_Files_put : FnScope ["self", "file", "place", "words", "one", "size", "lacking", "wider"] ["self", "file", "place", "words"] (defScope s_Files_put) := ⟨rfl, rfl, rfl, by decide +kernel, rfl, by decide +kernel, by decide +kernel⟩
theorem sc_Files_cut : FnScope ["self", "file", "one"] ["self", "file"] (defScope s_Files_cut) := ⟨rfl, rfl, rfl, by decide +kernel, rfl, by decide +kernel, by decide +kernel⟩
theorem sc_Files_blocks : FnScope ["self", "file"] ["self", "file"] (defScope s_Files_blocks) := ⟨rfl, rfl, rfl, by decide +kernel, rfl, by decide +kernel, by decide +kernel⟩
theorem sc_Files_free : FnScope ["self"] ["self"] (defScope s_Files_free) := ⟨rfl, rfl, rfl, by decide +kernel, rfl, by decide +kernel, by decide +kernel⟩
theorem sc_law_cell_at : FnScope ["_law_script", "_law_k"] ["_law_script", "_law_k"] (defScope s_law_cell_at) := ⟨rfl, rfl, rfl, by decide +kernel, rfl, by decide +kernel, by decide +kernel⟩
theorem sc_law_mixed : FnScope ["_law_cell", "_law_k", "_law_number"] ["_law_cell", "_law_k"] (defScope s_law_mixed) := ⟨rfl, rfl, rfl, by decide +kernel, rfl, by decide +kernel, by decide +kernel⟩
theorem sc_law_row : FnScope ["_law_script", "_law_k", "_law_cell"] ["_law_script", "_law_k"] (defScope s_law_row) := ⟨rfl, rfl, rfl, by decide +kernel, rfl, by decide +kernel, by decide +kernel⟩
theorem sc_law_next : FnScope ["_law_row_here", "_law_many", "_law_found"] ["_law_row_here", "_law_many"] (defScope s_law_next) := ⟨rfl, rfl, rfl, by decide +kernel, rfl, by decide +kernel, by decide +kernel⟩
theorem sc_law_wants : FnScope ["_law_m", "_law_words"] ["_law_m"] (defScope s_law_wants) := ⟨rfl, rfl, rfl, by decide +kernel, rfl, by decide +kernel, by decide +kernel⟩
theorem sc_law_deed : FnScope ["_law_files", "_law_m", "_law_row_here", "_law_names", "_law_way", "_law_name", "_law_old", "_law_place", "_law_words", "_law_k", "_law_fresh", "_law_more"] ["_law_files", "_law_m", "_law_row_here"] (defScope s_law_deed) := ⟨rfl, rfl, rfl, by decide +kernel, rfl, by decide +kernel, by decide +kernel⟩
theorem sc_law_told : FnScope ["_law_m", "_law_name"] ["_law_m"] (defScope s_law_told) := ⟨rfl, rfl, rfl, by decide +kernel, rfl, by decide +kernel, by decide +kernel⟩
theorem sc_law_stopped : FnScope ["_law_disk", "_law_files", "_law_m", "_law_row_here", "_law_done", "_law_left", "_law_turn", "_law_ahead", "_law_many", "_law_told_here", "_law_due"] ["_law_disk", "_law_files", "_law_m", "_law_row_here", "_law_done"] (defScope s_law_stopped) := ⟨rfl, rfl, rfl, by decide +kernel, rfl, by decide +kernel, by decide +kernel⟩
theorem sc_law : FnScope ["_law_script", "_law_row_here", "_law_m", "_law_files", "_law_disk", "_law_done", "_law_k", "_law_turn"] ["_law_script"] (defScope s_law) := ⟨rfl, rfl, rfl, by decide +kernel, rfl, by decide +kernel, by decide +kernel⟩
def fs_Disk (x0 : V) (x1 : V) (x2 : V) : List (Str × V) := [(("written" : Str), x0), (("tally" : Str), x1), (("spare" : Str), x2)]
theorem lk_Disk_written {x0 : V} {x1 : V} {x2 : V} : (fs_Disk x0 x1 x2).lookup ("written" : Str) = some x0 := by kernel_rfl
theorem pf_Disk_written {x0 : V} {x1 : V} {x2 : V} {y : V} : putF "written" y (fs_Disk x0 x1 x2) = fs_Disk y x1 x2 := by kernel_rfl
theorem pi_Disk_written {x0 : V} : putF "written" x0 ([] : List (Str × V)) = [(("written" : Str), x0)] := by kernel_rfl
theorem lk_Disk_tally {x0 : V} {x1 : V} {x2 : V} : (fs_Disk x0 x1 x2).lookup ("tally" : Str) = some x1 := by kernel_rfl
theorem pf_Disk_tally {x0 : V} {x1 : V} {x2 : V} {y : V} : putF "tally" y (fs_Disk x0 x1 x2) = fs_Disk x0 y x2 := by kernel_rfl
theorem pi_Disk_tally {x0 : V} {x1 : V} : putF "tally" x1 ([(("written" : Str), x0)] : List (Str × V)) = [(("written" : Str), x0), (("tally" : Str), x1)] := by kernel_rfl
theorem lk_Disk_spare {x0 : V} {x1 : V} {x2 : V} : (fs_Disk x0 x1 x2).lookup ("spare" : Str) = some x2 := by kernel_rfl
theorem pf_Disk_spare {x0 : V} {x1 : V} {x2 : V} {y : V} : putF "spare" y (fs_Disk x0 x1 x2) = fs_Disk x0 x1 y := by kernel_rfl
theorem pi_Disk_spare {x0 : V} {x1 : V} {x2 : V} : putF "spare" x2 ([(("written" : Str), x0), (("tally" : Str), x1)] : List (Str × V)) = fs_Disk x0 x1 x2 := by kernel_rfl
theorem ln_Disk {x0 : V} {x1 : V} {x2 : V} : (fs_Disk x0 x1 x2).length < 1000 := by show 3 < 1000; decide
theorem lm_Disk_block {x0 : V} {x1 : V} {x2 : V} : (fs_Disk x0 x1 x2).lookup ("block" : Str) = none := by kernel_rfl
theorem lm_Disk_write {x0 : V} {x1 : V} {x2 : V} : (fs_Disk x0 x1 x2).lookup ("write" : Str) = none := by kernel_rfl
theorem lm_Disk_stop {x0 : V} {x1 : V} {x2 : V} : (fs_Disk x0 x1 x2).lookup ("stop" : Str) = none := by kernel_rfl
theorem lm_Disk_go {x0 : V} {x1 : V} {x2 : V} : (fs_Disk x0 x1 x2).lookup ("go" : Str) = none := by kernel_rfl
theorem lm_Disk_writes {x0 : V} {x1 : V} {x2 : V} : (fs_Disk x0 x1 x2).lookup ("writes" : Str) = none := by kernel_rfl
def fs_File (x0 : V) (x1 : V) (x2 : V) (x3 : V) : List (Str × V) := [(("title" : Str), x0), (("holders" : Str), x1), (("content" : Str), x2), (("loans" : Str), x3)]
theorem lk_File_title {x0 : V} {x1 : V} {x2 : V} {x3 : V} : (fs_File x0 x1 x2 x3).lookup ("title" : Str) = some x0 := by kernel_rfl
theorem pf_File_title {x0 : V} {x1 : V} {x2 : V} {x3 : V} {y : V} : putF "title" y (fs_File x0 x1 x2 x3) = fs_File y x1 x2 x3 := by kernel_rfl
theorem pi_File_title {x0 : V} : putF "title" x0 ([] : List (Str × V)) = [(("title" : Str), x0)] := by kernel_rfl
theorem lk_File_holders {x0 : V} {x1 : V} {x2 : V} {x3 : V} : (fs_File x0 x1 x2 x3).lookup ("holders" : Str) = some x1 := by kernel_rfl
theorem pf_File_holders {x0 : V} {x1 : V} {x2 : V} {x3 : V} {y : V} : putF "holders" y (fs_File x0 x1 x2 x3) = fs_File x0 y x2 x3 := by kernel_rfl
theorem pi_File_holders {x0 : V} {x1 : V} : putF "holders" x1 ([(("title" : Str), x0)] : List (Str × V)) = [(("title" : Str), x0), (("holders" : Str), x1)] := by kernel_rfl
theorem lk_File_content {x0 : V} {x1 : V} {x2 : V} {x3 : V} : (fs_File x0 x1 x2 x3).lookup ("content" : Str) = some x2 := by kernel_rfl
theorem pf_File_content {x0 : V} {x1 : V} {x2 : V} {x3 : V} {y : V} : putF "content" y (fs_File x0 x1 x2 x3) = fs_File x0 x1 y x3 := by kernel_rfl
theorem pi_File_content {x0 : V} {x1 : V} {x2 : V} : putF "content" x2 ([(("title" : Str), x0), (("holders" : Str), x1)] : List (Str × V)) = [(("title" : Str), x0), (("holders" : Str), x1), (("content" : Str), x2)] := by kernel_rfl
theorem lk_File_loans {x0 : V} {x1 : V} {x2 : V} {x3 : V} : (fs_File x0 x1 x2 x3).lookup ("loans" : Str) = some x3 := by kernel_rfl
theorem pf_File_loans {x0 : V} {x1 : V} {x2 : V} {x3 : V} {y : V} : putF "loans" y (fs_File x0 x1 x2 x3) = fs_File x0 x1 x2 y := by kernel_rfl
theorem pi_File_loans {x0 : V} {x1 : V} {x2 : V} {x3 : V} : putF "loans" x3 ([(("title" : Str), x0), (("holders" : Str), x1), (("content" : Str), x2)] : List (Str × V)) = fs_File x0 x1 x2 x3 := by kernel_rfl
theorem ln_File {x0 : V} {x1 : V} {x2 : V} {x3 : V} : (fs_File x0 x1 x2 x3).length < 1000 := by show 4 < 1000; decide
def fs_Files (x0 : V) (x1 : V) (x2 : V) (x3 : V) (x4 : V) : List (Str × V) := [(("bag" : Str), x0), (("loose" : Str), x1), (("known" : Str), x2), (("titled" : Str), x3), (("newest" : Str), x4)]
theorem lk_Files_bag {x0 : V} {x1 : V} {x2 : V} {x3 : V} {x4 : V} : (fs_Files x0 x1 x2 x3 x4).lookup ("bag" : Str) = some x0 := by kernel_rfl
theorem pf_Files_bag {x0 : V} {x1 : V} {x2 : V} {x3 : V} {x4 : V} {y : V} : putF "bag" y (fs_Files x0 x1 x2 x3 x4) = fs_Files y x1 x2 x3 x4 := by kernel_rfl
theorem pi_Files_bag {x0 : V} : putF "bag" x0 ([] : List (Str × V)) = [(("bag" : Str), x0)] := by kernel_rfl
theorem lk_Files_loose {x0 : V} {x1 : V} {x2 : V} {x3 : V} {x4 : V} : (fs_Files x0 x1 x2 x3 x4).lookup ("loose" : Str) = some x1 := by kernel_rfl
theorem pf_Files_loose {x0 : V} {x1 : V} {x2 : V} {x3 : V} {x4 : V} {y : V} : putF "loose" y (fs_Files x0 x1 x2 x3 x4) = fs_Files x0 y x2 x3 x4 := by kernel_rfl
theorem pi_Files_loose {x0 : V} {x1 : V} : putF "loose" x1 ([(("bag" : Str), x0)] : List (Str × V)) = [(("bag" : Str), x0), (("loose" : Str), x1)] := by kernel_rfl
theorem lk_Files_known {x0 : V} {x1 : V} {x2 : V} {x3 : V} {x4 : V} : (fs_Files x0 x1 x2 x3 x4).lookup ("known" : Str) = some x2 := by kernel_rfl
theorem pf_Files_known {x0 : V} {x1 : V} {x2 : V} {x3 : V} {x4 : V} {y : V} : putF "known" y (fs_Files x0 x1 x2 x3 x4) = fs_Files x0 x1 y x3 x4 := by kernel_rfl
theorem pi_Files_known {x0 : V} {x1 : V} {x2 : V} : putF "known" x2 ([(("bag" : Str), x0), (("loose" : Str), x1)] : List (Str × V)) = [(("bag" : Str), x0), (("loose" : Str), x1), (("known" : Str), x2)] := by kernel_rfl
theorem lk_Files_titled {x0 : V} {x1 : V} {x2 : V} {x3 : V} {x4 : V} : (fs_Files x0 x1 x2 x3 x4).lookup ("titled" : Str) = some x3 := by kernel_rfl
theorem pf_Files_titled {x0 : V} {x1 : V} {x2 : V} {x3 : V} {x4 : V} {y : V} : putF "titled" y (fs_Files x0 x1 x2 x3 x4) = fs_Files x0 x1 x2 y x4 := by kernel_rfl
theorem pi_Files_titled {x0 : V} {x1 : V} {x2 : V} {x3 : V} : putF "titled" x3 ([(("bag" : Str), x0), (("loose" : Str), x1), (("known" : Str), x2)] : List (Str × V)) = [(("bag" : Str), x0), (("loose" : Str), x1), (("known" : Str), x2), (("titled" : Str), x3)] := by kernel_rfl
theorem lk_Files_newest {x0 : V} {x1 : V} {x2 : V} {x3 : V} {x4 : V} : (fs_Files x0 x1 x2 x3 x4).lookup ("newest" : Str) = some x4 := by kernel_rfl
theorem pf_Files_newest {x0 : V} {x1 : V} {x2 : V} {x3 : V} {x4 : V} {y : V} : putF "newest" y (fs_Files x0 x1 x2 x3 x4) = fs_Files x0 x1 x2 x3 y := by kernel_rfl
theorem pi_Files_newest {x0 : V} {x1 : V} {x2 : V} {x3 : V} {x4 : V} : putF "newest" x4 ([(("bag" : Str), x0), (("loose" : Str), x1), (("known" : Str), x2), (("titled" : Str), x3)] : List (Str × V)) = fs_Files x0 x1 x2 x3 x4 := by kernel_rfl
theorem ln_Files {x0 : V} {x1 : V} {x2 : V} {x3 : V} {x4 : V} : (fs_Files x0 x1 x2 x3 x4).length < 1000 := by show 5 < 1000; decide
theorem lm_Files_many {x0 : V} {x1 : V} {x2 : V} {x3 : V} {x4 : V} : (fs_Files x0 x1 x2 x3 x4).lookup ("many" : Str) = none := by kernel_rfl
theorem lm_Files_names {x0 : V} {x1 : V} {x2 : V} {x3 : V} {x4 : V} : (fs_Files x0 x1 x2 x3 x4).lookup ("names" : Str) = none := by kernel_rfl
theorem lm_Files_file_of {x0 : V} {x1 : V} {x2 : V} {x3 : V} {x4 : V} : (fs_Files x0 x1 x2 x3 x4).lookup ("file_of" : Str) = none := by kernel_rfl
theorem lm_Files_make {x0 : V} {x1 : V} {x2 : V} {x3 : V} {x4 : V} : (fs_Files x0 x1 x2 x3 x4).lookup ("make" : Str) = none := by kernel_rfl
theorem lm_Files_remove {x0 : V} {x1 : V} {x2 : V} {x3 : V} {x4 : V} : (fs_Files x0 x1 x2 x3 x4).lookup ("remove" : Str) = none := by kernel_rfl
theorem lm_Files_go_idle {x0 : V} {x1 : V} {x2 : V} {x3 : V} {x4 : V} : (fs_Files x0 x1 x2 x3 x4).lookup ("go_idle" : Str) = none := by kernel_rfl
theorem lm_Files_give_back {x0 : V} {x1 : V} {x2 : V} {x3 : V} {x4 : V} : (fs_Files x0 x1 x2 x3 x4).lookup ("give_back" : Str) = none := by kernel_rfl
theorem lm_Files_files {x0 : V} {x1 : V} {x2 : V} {x3 : V} {x4 : V} : (fs_Files x0 x1 x2 x3 x4).lookup ("files" : Str) = none := by kernel_rfl
theorem lm_Files_found {x0 : V} {x1 : V} {x2 : V} {x3 : V} {x4 : V} : (fs_Files x0 x1 x2 x3 x4).lookup ("found" : Str) = none := by kernel_rfl
theorem lm_Files_name {x0 : V} {x1 : V} {x2 : V} {x3 : V} {x4 : V} : (fs_Files x0 x1 x2 x3 x4).lookup ("name" : Str) = none := by kernel_rfl
theorem lm_Files_hold {x0 : V} {x1 : V} {x2 : V} {x3 : V} {x4 : V} : (fs_Files x0 x1 x2 x3 x4).lookup ("hold" : Str) = none := by kernel_rfl
theorem lm_Files_held {x0 : V} {x1 : V} {x2 : V} {x3 : V} {x4 : V} : (fs_Files x0 x1 x2 x3 x4).lookup ("held" : Str) = none := by kernel_rfl
theorem lm_Files_length {x0 : V} {x1 : V} {x2 : V} {x3 : V} {x4 : V} : (fs_Files x0 x1 x2 x3 x4).lookup ("length" : Str) = none := by kernel_rfl
theorem lm_Files_read {x0 : V} {x1 : V} {x2 : V} {x3 : V} {x4 : V} : (fs_Files x0 x1 x2 x3 x4).lookup ("read" : Str) = none := by kernel_rfl
theorem lm_Files_put {x0 : V} {x1 : V} {x2 : V} {x3 : V} {x4 : V} : (fs_Files x0 x1 x2 x3 x4).lookup ("put" : Str) = none := by kernel_rfl
theorem lm_Files_cut {x0 : V} {x1 : V} {x2 : V} {x3 : V} {x4 : V} : (fs_Files x0 x1 x2 x3 x4).lookup ("cut" : Str) = none := by kernel_rfl
theorem lm_Files_blocks {x0 : V} {x1 : V} {x2 : V} {x3 : V} {x4 : V} : (fs_Files x0 x1 x2 x3 x4).lookup ("blocks" : Str) = none := by kernel_rfl
theorem lm_Files_free {x0 : V} {x1 : V} {x2 : V} {x3 : V} {x4 : V} : (fs_Files x0 x1 x2 x3 x4).lookup ("free" : Str) = none := by kernel_rfl
def stK (x0 : V) (x1 : V) (x2 : V) (x3 : V) : List (Key × V) := [(Sum.inr ("free" : Str), x0), (Sum.inr ("left" : Str), x1), (Sum.inr ("seed" : Str), x2), (Sum.inr ("at" : Str), x3)]
theorem stK_len {x0 : V} {x1 : V} {x2 : V} {x3 : V} : (stK x0 x1 x2 x3).length < sizeLine := szlt (by show 4 < 100000; decide)
theorem stK_disp {x0 : V} {x1 : V} {x2 : V} {x3 : V} : mergeK [] ([(Sum.inr ("free" : Str), x0), (Sum.inr ("left" : Str), x1), (Sum.inr ("seed" : Str), x2), (Sum.inr ("at" : Str), x3)] : List (Key × V)) = stK x0 x1 x2 x3 := by kernel_rfl
theorem stK_g_free {x0 : V} {x1 : V} {x2 : V} {x3 : V} : valV (stK x0 x1 x2 x3) (.inr "free") = some x0 := by kernel_rfl
theorem stK_p_free {x0 : V} {x1 : V} {x2 : V} {x3 : V} {y : V} : putK (stK x0 x1 x2 x3) (.inr "free") y = stK y x1 x2 x3 := by kernel_rfl
theorem stK_g_left {x0 : V} {x1 : V} {x2 : V} {x3 : V} : valV (stK x0 x1 x2 x3) (.inr "left") = some x1 := by kernel_rfl
theorem stK_p_left {x0 : V} {x1 : V} {x2 : V} {x3 : V} {y : V} : putK (stK x0 x1 x2 x3) (.inr "left") y = stK x0 y x2 x3 := by kernel_rfl
theorem stK_g_seed {x0 : V} {x1 : V} {x2 : V} {x3 : V} : valV (stK x0 x1 x2 x3) (.inr "seed") = some x2 := by kernel_rfl
theorem stK_p_seed {x0 : V} {x1 : V} {x2 : V} {x3 : V} {y : V} : putK (stK x0 x1 x2 x3) (.inr "seed") y = stK x0 x1 y x3 := by kernel_rfl
theorem stK_g_at {x0 : V} {x1 : V} {x2 : V} {x3 : V} : valV (stK x0 x1 x2 x3) (.inr "at") = some x3 := by kernel_rfl
theorem stK_p_at {x0 : V} {x1 : V} {x2 : V} {x3 : V} {y : V} : putK (stK x0 x1 x2 x3) (.inr "at") y = stK x0 x1 x2 y := by kernel_rfl
def mmK (x0 : V) (x1 : V) (x2 : V) : List (Key × V) := [(Sum.inr ("files" : Str), x0), (Sum.inr ("held" : Str), x1), (Sum.inr ("many" : Str), x2)]
theorem mmK_len {x0 : V} {x1 : V} {x2 : V} : (mmK x0 x1 x2).length < sizeLine := szlt (by show 3 < 100000; decide)
theorem mmK_disp {x0 : V} {x1 : V} {x2 : V} : mergeK [] ([(Sum.inr ("files" : Str), x0), (Sum.inr ("held" : Str), x1), (Sum.inr ("many" : Str), x2)] : List (Key × V)) = mmK x0 x1 x2 := by kernel_rfl
theorem mmK_g_files {x0 : V} {x1 : V} {x2 : V} : valV (mmK x0 x1 x2) (.inr "files") = some x0 := by kernel_rfl
theorem mmK_p_files {x0 : V} {x1 : V} {x2 : V} {y : V} : putK (mmK x0 x1 x2) (.inr "files") y = mmK y x1 x2 := by kernel_rfl
theorem mmK_g_held {x0 : V} {x1 : V} {x2 : V} : valV (mmK x0 x1 x2) (.inr "held") = some x1 := by kernel_rfl
theorem mmK_p_held {x0 : V} {x1 : V} {x2 : V} {y : V} : putK (mmK x0 x1 x2) (.inr "held") y = mmK x0 y x2 := by kernel_rfl
theorem mmK_g_many {x0 : V} {x1 : V} {x2 : V} : valV (mmK x0 x1 x2) (.inr "many") = some x2 := by kernel_rfl
theorem mmK_p_many {x0 : V} {x1 : V} {x2 : V} {y : V} : putK (mmK x0 x1 x2) (.inr "many") y = mmK x0 x1 y := by kernel_rfl
structure Txt (K : PySem.W.Frag) (mg : Str → Option Value) where
  C_Disk : Addr
  cl_Disk : Cls K C_Disk
  g_Disk : mg "Disk" = some (.ref C_Disk)
  n_Disk_written : NoAttr K C_Disk "written"
  n_Disk_tally : NoAttr K C_Disk "tally"
  n_Disk_spare : NoAttr K C_Disk "spare"
  C_File : Addr
  cl_File : Cls K C_File
  g_File : mg "File" = some (.ref C_File)
  n_File_title : NoAttr K C_File "title"
  n_File_holders : NoAttr K C_File "holders"
  n_File_content : NoAttr K C_File "content"
  n_File_loans : NoAttr K C_File "loans"
  C_Files : Addr
  cl_Files : Cls K C_Files
  g_Files : mg "Files" = some (.ref C_Files)
  n_Files_bag : NoAttr K C_Files "bag"
  n_Files_loose : NoAttr K C_Files "loose"
  n_Files_known : NoAttr K C_Files "known"
  n_Files_titled : NoAttr K C_Files "titled"
  n_Files_newest : NoAttr K C_Files "newest"
  x_NoWord : Addr
  gx_NoWord : mg "NoWord" = some (.ref x_NoWord)
  x_BadSize : Addr
  gx_BadSize : mg "BadSize" = some (.ref x_BadSize)
  x_Full : Addr
  gx_Full : mg "Full" = some (.ref x_Full)
  x_NoName : Addr
  gx_NoName : mg "NoName" = some (.ref x_NoName)
  x_NoSpace : Addr
  gx_NoSpace : mg "NoSpace" = some (.ref x_NoSpace)
  x_TooLong : Addr
  gx_TooLong : mg "TooLong" = some (.ref x_TooLong)
  x_NoFile : Addr
  gx_NoFile : mg "NoFile" = some (.ref x_NoFile)
  a_is_whole : Addr
  d_is_whole : FuncData
  f_is_whole : Fun K "is_whole" "is_whole" s_is_whole a_is_whole d_is_whole
  b_is_whole : Binds K d_is_whole ["thing"] []
  g_is_whole : mg "is_whole" = some (.ref a_is_whole)
  a_is_among : Addr
  d_is_among : FuncData
  f_is_among : Fun K "is_among" "is_among" s_is_among a_is_among d_is_among
  b_is_among : Binds K d_is_among ["thing", "least", "most"] []
  g_is_among : mg "is_among" = some (.ref a_is_among)
  a_is_word : Addr
  d_is_word : FuncData
  f_is_word : Fun K "is_word" "is_word" s_is_word a_is_word d_is_word
  b_is_word : Binds K d_is_word ["thing"] []
  g_is_word : mg "is_word" = some (.ref a_is_word)
  a_need_word : Addr
  d_need_word : FuncData
  f_need_word : Fun K "need_word" "need_word" s_need_word a_need_word d_need_word
  b_need_word : Binds K d_need_word ["thing"] []
  g_need_word : mg "need_word" = some (.ref a_need_word)
  a_wrapped : Addr
  d_wrapped : FuncData
  f_wrapped : Fun K "wrapped" "wrapped" s_wrapped a_wrapped d_wrapped
  b_wrapped : Binds K d_wrapped ["number"] []
  g_wrapped : mg "wrapped" = some (.ref a_wrapped)
  a_Disk_init : Addr
  d_Disk_init : FuncData
  f_Disk_init : Fun K "__init__" "Disk.__init__" s_Disk_init a_Disk_init d_Disk_init
  b_Disk_init : Binds K d_Disk_init ["self"] []
  mk_Disk : Mk K C_Disk a_Disk_init
  a_Disk_block : Addr
  d_Disk_block : FuncData
  f_Disk_block : Fun K "block" "Disk.block" s_Disk_block a_Disk_block d_Disk_block
  b_Disk_block : Binds K d_Disk_block ["self", "number"] []
  m_Disk_block : Meth K C_Disk "block" a_Disk_block
  a_Disk_write : Addr
  d_Disk_write : FuncData
  f_Disk_write : Fun K "write" "Disk.write" s_Disk_write a_Disk_write d_Disk_write
  b_Disk_write : Binds K d_Disk_write ["self", "number", "words"] []
  m_Disk_write : Meth K C_Disk "write" a_Disk_write
  a_Disk_stop : Addr
  d_Disk_stop : FuncData
  f_Disk_stop : Fun K "stop" "Disk.stop" s_Disk_stop a_Disk_stop d_Disk_stop
  b_Disk_stop : Binds K d_Disk_stop ["self", "many"] []
  m_Disk_stop : Meth K C_Disk "stop" a_Disk_stop
  a_Disk_go : Addr
  d_Disk_go : FuncData
  f_Disk_go : Fun K "go" "Disk.go" s_Disk_go a_Disk_go d_Disk_go
  b_Disk_go : Binds K d_Disk_go ["self"] []
  m_Disk_go : Meth K C_Disk "go" a_Disk_go
  a_Disk_writes : Addr
  d_Disk_writes : FuncData
  f_Disk_writes : Fun K "writes" "Disk.writes" s_Disk_writes a_Disk_writes d_Disk_writes
  b_Disk_writes : Binds K d_Disk_writes ["self"] []
  m_Disk_writes : Meth K C_Disk "writes" a_Disk_writes
  a_words_of : Addr
  d_words_of : FuncData
  f_words_of : Fun K "words_of" "words_of" s_words_of a_words_of d_words_of
  b_words_of : Binds K d_words_of ["files"] []
  g_words_of : mg "words_of" = some (.ref a_words_of)
  a_sure : Addr
  d_sure : FuncData
  f_sure : Fun K "sure" "sure" s_sure a_sure d_sure
  b_sure : Binds K d_sure ["disk", "files"] []
  g_sure : mg "sure" = some (.ref a_sure)
  a_rise : Addr
  d_rise : FuncData
  f_rise : Fun K "rise" "rise" s_rise a_rise d_rise
  b_rise : Binds K d_rise ["disk"] []
  g_rise : mg "rise" = some (.ref a_rise)
  a_blocks_for : Addr
  d_blocks_for : FuncData
  f_blocks_for : Fun K "blocks_for" "blocks_for" s_blocks_for a_blocks_for d_blocks_for
  b_blocks_for : Binds K d_blocks_for ["many"] []
  g_blocks_for : mg "blocks_for" = some (.ref a_blocks_for)
  a_File_init : Addr
  d_File_init : FuncData
  f_File_init : Fun K "__init__" "File.__init__" s_File_init a_File_init d_File_init
  b_File_init : Binds K d_File_init ["self", "title"] []
  mk_File : Mk K C_File a_File_init
  a_Files_init : Addr
  d_Files_init : FuncData
  f_Files_init : Fun K "__init__" "Files.__init__" s_Files_init a_Files_init d_Files_init
  b_Files_init : Binds K d_Files_init ["self", "blocks"] []
  mk_Files : Mk K C_Files a_Files_init
  a_Files_many : Addr
  d_Files_many : FuncData
  f_Files_many : Fun K "many" "Files.many" s_Files_many a_Files_many d_Files_many
  b_Files_many : Binds K d_Files_many ["self"] []
  m_Files_many : Meth K C_Files "many" a_Files_many
  a_Files_names : Addr
  d_Files_names : FuncData
  f_Files_names : Fun K "names" "Files.names" s_Files_names a_Files_names d_Files_names
  b_Files_names : Binds K d_Files_names ["self"] []
  m_Files_names : Meth K C_Files "names" a_Files_names
  a_Files_file_of : Addr
  d_Files_file_of : FuncData
  f_Files_file_of : Fun K "file_of" "Files.file_of" s_Files_file_of a_Files_file_of d_Files_file_of
  b_Files_file_of : Binds K d_Files_file_of ["self", "name"] []
  m_Files_file_of : Meth K C_Files "file_of" a_Files_file_of
  a_Files_make : Addr
  d_Files_make : FuncData
  f_Files_make : Fun K "make" "Files.make" s_Files_make a_Files_make d_Files_make
  b_Files_make : Binds K d_Files_make ["self", "name"] []
  m_Files_make : Meth K C_Files "make" a_Files_make
  a_Files_remove : Addr
  d_Files_remove : FuncData
  f_Files_remove : Fun K "remove" "Files.remove" s_Files_remove a_Files_remove d_Files_remove
  b_Files_remove : Binds K d_Files_remove ["self", "name"] []
  m_Files_remove : Meth K C_Files "remove" a_Files_remove
  a_Files_go_idle : Addr
  d_Files_go_idle : FuncData
  f_Files_go_idle : Fun K "go_idle" "Files.go_idle" s_Files_go_idle a_Files_go_idle d_Files_go_idle
  b_Files_go_idle : Binds K d_Files_go_idle ["self", "number"] []
  m_Files_go_idle : Meth K C_Files "go_idle" a_Files_go_idle
  a_Files_give_back : Addr
  d_Files_give_back : FuncData
  f_Files_give_back : Fun K "give_back" "Files.give_back" s_Files_give_back a_Files_give_back d_Files_give_back
  b_Files_give_back : Binds K d_Files_give_back ["self", "one"] []
  m_Files_give_back : Meth K C_Files "give_back" a_Files_give_back
  a_Files_files : Addr
  d_Files_files : FuncData
  f_Files_files : Fun K "files" "Files.files" s_Files_files a_Files_files d_Files_files
  b_Files_files : Binds K d_Files_files ["self"] []
  m_Files_files : Meth K C_Files "files" a_Files_files
  a_Files_found : Addr
  d_Files_found : FuncData
  f_Files_found : Fun K "found" "Files.found" s_Files_found a_Files_found d_Files_found
  b_Files_found : Binds K d_Files_found ["self", "file"] []
  m_Files_found : Meth K C_Files "found" a_Files_found
  a_Files_name : Addr
  d_Files_name : FuncData
  f_Files_name : Fun K "name" "Files.name" s_Files_name a_Files_name d_Files_name
  b_Files_name : Binds K d_Files_name ["self", "file"] []
  m_Files_name : Meth K C_Files "name" a_Files_name
  a_Files_hold : Addr
  d_Files_hold : FuncData
  f_Files_hold : Fun K "hold" "Files.hold" s_Files_hold a_Files_hold d_Files_hold
  b_Files_hold : Binds K d_Files_hold ["self", "file"] []
  m_Files_hold : Meth K C_Files "hold" a_Files_hold
  a_Files_held : Addr
  d_Files_held : FuncData
  f_Files_held : Fun K "held" "Files.held" s_Files_held a_Files_held d_Files_held
  b_Files_held : Binds K d_Files_held ["self", "file"] []
  m_Files_held : Meth K C_Files "held" a_Files_held
  a_Files_length : Addr
  d_Files_length : FuncData
  f_Files_length : Fun K "length" "Files.length" s_Files_length a_Files_length d_Files_length
  b_Files_length : Binds K d_Files_length ["self", "file"] []
  m_Files_length : Meth K C_Files "length" a_Files_length
  a_Files_read : Addr
  d_Files_read : FuncData
  f_Files_read : Fun K "read" "Files.read" s_Files_read a_Files_read d_Files_read
  b_Files_read : Binds K d_Files_read ["self", "file", "place", "count"] []
  m_Files_read : Meth K C_Files "read" a_Files_read
  a_Files_put : Addr
  d_Files_put : FuncData
  f_Files_put : Fun K "put" "Files.put" s_Files_put a_Files_put d_Files_put
  b_Files_put : Binds K d_Files_put ["self", "file", "place", "words"] []
  m_Files_put : Meth K C_Files "put" a_Files_put
  a_Files_cut : Addr
  d_Files_cut : FuncData
  f_Files_cut : Fun K "cut" "Files.cut" s_Files_cut a_Files_cut d_Files_cut
  b_Files_cut : Binds K d_Files_cut ["self", "file"] []
  m_Files_cut : Meth K C_Files "cut" a_Files_cut
  a_Files_blocks : Addr
  d_Files_blocks : FuncData
  f_Files_blocks : Fun K "blocks" "Files.blocks" s_Files_blocks a_Files_blocks d_Files_blocks
  b_Files_blocks : Binds K d_Files_blocks ["self", "file"] []
  m_Files_blocks : Meth K C_Files "blocks" a_Files_blocks
  a_Files_free : Addr
  d_Files_free : FuncData
  f_Files_free : Fun K "free" "Files.free" s_Files_free a_Files_free d_Files_free
  b_Files_free : Binds K d_Files_free ["self"] []
  m_Files_free : Meth K C_Files "free" a_Files_free
  a_law_cell_at : Addr
  d_law_cell_at : FuncData
  f_law_cell_at : Fun K "_law_cell_at" "_law_cell_at" s_law_cell_at a_law_cell_at d_law_cell_at
  b_law_cell_at : Binds K d_law_cell_at ["_law_script", "_law_k"] []
  g_law_cell_at : mg "_law_cell_at" = some (.ref a_law_cell_at)
  a_law_mixed : Addr
  d_law_mixed : FuncData
  f_law_mixed : Fun K "_law_mixed" "_law_mixed" s_law_mixed a_law_mixed d_law_mixed
  b_law_mixed : Binds K d_law_mixed ["_law_cell", "_law_k"] []
  g_law_mixed : mg "_law_mixed" = some (.ref a_law_mixed)
  a_law_row : Addr
  d_law_row : FuncData
  f_law_row : Fun K "_law_row" "_law_row" s_law_row a_law_row d_law_row
  b_law_row : Binds K d_law_row ["_law_script", "_law_k"] []
  g_law_row : mg "_law_row" = some (.ref a_law_row)
  a_law_next : Addr
  d_law_next : FuncData
  f_law_next : Fun K "_law_next" "_law_next" s_law_next a_law_next d_law_next
  b_law_next : Binds K d_law_next ["_law_row_here", "_law_many"] []
  g_law_next : mg "_law_next" = some (.ref a_law_next)
  a_law_wants : Addr
  d_law_wants : FuncData
  f_law_wants : Fun K "_law_wants" "_law_wants" s_law_wants a_law_wants d_law_wants
  b_law_wants : Binds K d_law_wants ["_law_m"] []
  g_law_wants : mg "_law_wants" = some (.ref a_law_wants)
  a_law_deed : Addr
  d_law_deed : FuncData
  f_law_deed : Fun K "_law_deed" "_law_deed" s_law_deed a_law_deed d_law_deed
  b_law_deed : Binds K d_law_deed ["_law_files", "_law_m", "_law_row_here"] []
  g_law_deed : mg "_law_deed" = some (.ref a_law_deed)
  a_law_told : Addr
  d_law_told : FuncData
  f_law_told : Fun K "_law_told" "_law_told" s_law_told a_law_told d_law_told
  b_law_told : Binds K d_law_told ["_law_m"] []
  g_law_told : mg "_law_told" = some (.ref a_law_told)
  a_law_stopped : Addr
  d_law_stopped : FuncData
  f_law_stopped : Fun K "_law_stopped" "_law_stopped" s_law_stopped a_law_stopped d_law_stopped
  b_law_stopped : Binds K d_law_stopped ["_law_disk", "_law_files", "_law_m", "_law_row_here", "_law_done"] []
  g_law_stopped : mg "_law_stopped" = some (.ref a_law_stopped)
  a_law : Addr
  d_law : FuncData
  f_law : Fun K "law" "law" s_law a_law d_law
  b_law : Binds K d_law ["_law_script"] []
  g_law : mg "law" = some (.ref a_law)
  g_BLOCK_disk : ∃ t, mg "BLOCK_disk" = some (.int 8 t)
  g_BLOCK_files : ∃ t, mg "BLOCK_files" = some (.int 8 t)
  a_FIRSTS : Addr
  g_FIRSTS : mg "FIRSTS" = some (.ref a_FIRSTS)
  t_FIRSTS : ∀ H : Hp, SqT K H a_FIRSTS [.int 1, .int 200]
  g_LEAST_BLOCKS : ∃ t, mg "LEAST_BLOCKS" = some (.int 8 t)
  g_MOST_BLOCKS : ∃ t, mg "MOST_BLOCKS" = some (.int 128 t)
  g_MOST_NAMES : ∃ t, mg "MOST_NAMES" = some (.int 24 t)
  g_MOST_WORDS : ∃ t, mg "MOST_WORDS" = some (.int 512 t)
  g_WORDS : ∃ t, mg "WORDS" = some (.int 65536 t)
  n_bool : mg "bool" = none
  n_int : mg "int" = none
  n_isinstance : mg "isinstance" = none
  n_len : mg "len" = none
  n_list : mg "list" = none
  n_max : mg "max" = none
  n_range : mg "range" = none
  n_sorted : mg "sorted" = none
  n_sum : mg "sum" = none
  n_tuple : mg "tuple" = none
set_option hygiene false in
local macro_rules | `(tactic| walk_at "pull") => `(tactic| first | with_reducible exact Sl.Pull.here | (with_reducible apply Sl.Pull.there; walk_at "pull"))
set_option hygiene false in
local macro_rules | `(tactic| walk_at "put") => `(tactic| first | with_reducible exact Sl.Put.here | (with_reducible apply Sl.Put.there; walk_at "put"))
set_option hygiene false in
local macro_rules | `(tactic| walk_at "mt") => `(tactic| first | with_reducible exact Sl.Mt.refl | with_reducible exact Sl.Mt.nil | ((with_reducible show Sl.Mt (_ :: _) _); with_reducible apply Sl.Mt.cons; (focus walk_at "pull"); walk_at "mt") | ((fail_if_success (with_reducible show Sl.Mt (_ :: _) _)); with_reducible apply Sl.Mt.drop; walk_at "mt"))
set_option hygiene false in
local macro_rules | `(tactic| walk_at "get") => `(tactic| first | with_reducible assumption | exact Sl.Hd.get hs (by walk_at "pull"))
set_option hygiene false in
local macro_rules | `(tactic| walk_at "sq") => `(tactic| first | with_reducible assumption | exact Sl.Hd.sq hs (by walk_at "pull") | exact Sl.Hd.sql hs (by walk_at "pull"))
set_option hygiene false in
local macro_rules | `(tactic| walk_at "sqt") => `(tactic| first | with_reducible assumption | exact Sl.Hd.st hs (by walk_at "pull"))
set_option hygiene false in
local macro_rules | `(tactic| walk_at "cls") => `(tactic| first | with_reducible exact T.cl_Disk | with_reducible exact T.cl_File | with_reducible exact T.cl_Files)
set_option hygiene false in
local macro_rules | `(tactic| walk_at "noattr") => `(tactic| first | with_reducible exact T.n_Disk_written | with_reducible exact T.n_Disk_tally | with_reducible exact T.n_Disk_spare | with_reducible exact T.n_File_title | with_reducible exact T.n_File_holders | with_reducible exact T.n_File_content | with_reducible exact T.n_File_loans | with_reducible exact T.n_Files_bag | with_reducible exact T.n_Files_loose | with_reducible exact T.n_Files_known | with_reducible exact T.n_Files_titled | with_reducible exact T.n_Files_newest)
set_option hygiene false in
local macro_rules | `(tactic| walk_at "look") => `(tactic| first | with_reducible exact lk_Disk_written | with_reducible exact lk_Disk_tally | with_reducible exact lk_Disk_spare | with_reducible exact lm_Disk_block | with_reducible exact lm_Disk_write | with_reducible exact lm_Disk_stop | with_reducible exact lm_Disk_go | with_reducible exact lm_Disk_writes | with_reducible exact lk_File_title | with_reducible exact lk_File_holders | with_reducible exact lk_File_content | with_reducible exact lk_File_loans | with_reducible exact lk_Files_bag | with_reducible exact lk_Files_loose | with_reducible exact lk_Files_known | with_reducible exact lk_Files_titled | with_reducible exact lk_Files_newest | with_reducible exact lm_Files_many | with_reducible exact lm_Files_names | with_reducible exact lm_Files_file_of | with_reducible exact lm_Files_make | with_reducible exact lm_Files_remove | with_reducible exact lm_Files_go_idle | with_reducible exact lm_Files_give_back | with_reducible exact lm_Files_files | with_reducible exact lm_Files_found | with_reducible exact lm_Files_name | with_reducible exact lm_Files_hold | with_reducible exact lm_Files_held | with_reducible exact lm_Files_length | with_reducible exact lm_Files_read | with_reducible exact lm_Files_put | with_reducible exact lm_Files_cut | with_reducible exact lm_Files_blocks | with_reducible exact lm_Files_free)
set_option hygiene false in
local macro_rules | `(tactic| walk_at "putf") => `(tactic| first | with_reducible exact pf_Disk_written | with_reducible exact pi_Disk_written | with_reducible exact pf_Disk_tally | with_reducible exact pi_Disk_tally | with_reducible exact pf_Disk_spare | with_reducible exact pi_Disk_spare | with_reducible exact pf_File_title | with_reducible exact pi_File_title | with_reducible exact pf_File_holders | with_reducible exact pi_File_holders | with_reducible exact pf_File_content | with_reducible exact pi_File_content | with_reducible exact pf_File_loans | with_reducible exact pi_File_loans | with_reducible exact pf_Files_bag | with_reducible exact pi_Files_bag | with_reducible exact pf_Files_loose | with_reducible exact pi_Files_loose | with_reducible exact pf_Files_known | with_reducible exact pi_Files_known | with_reducible exact pf_Files_titled | with_reducible exact pi_Files_titled | with_reducible exact pf_Files_newest | with_reducible exact pi_Files_newest)
set_option hygiene false in
local macro_rules | `(tactic| walk_at "flen") => `(tactic| first | (first | with_reducible exact ln_Disk | with_reducible exact ln_File | with_reducible exact ln_Files) | (simp; done))
set_option hygiene false in
local macro_rules | `(tactic| walk_at "len") => `(tactic| first | with_reducible assumption | exact Sl.sz (by first | decide | omega | (simp only [List.length_cons, List.length_nil, List.length_append, List.length_map, List.length_set, List.length_replicate, List.length_range] <;> omega)))
set_option hygiene false in
local macro_rules | `(tactic| walk_at "lenlt") => `(tactic| first | with_reducible assumption | exact Sl.szlt (by first | decide | omega | (simp only [List.length_cons, List.length_nil, List.length_append, List.length_map, List.length_set, List.length_replicate, List.length_range] <;> omega)))
set_option hygiene false in
local macro_rules | `(tactic| walk_at "dlook") => `(tactic| first | with_reducible assumption | (first | with_reducible exact stK_g_free | with_reducible exact stK_g_left | with_reducible exact stK_g_seed | with_reducible exact stK_g_at | with_reducible exact mmK_g_files | with_reducible exact mmK_g_held | with_reducible exact mmK_g_many))
set_option hygiene false in
local macro_rules | `(tactic| walk_at "dput") => `(tactic| first | with_reducible exact stK_p_free | with_reducible exact stK_p_left | with_reducible exact stK_p_seed | with_reducible exact stK_p_at | with_reducible exact mmK_p_files | with_reducible exact mmK_p_held | with_reducible exact mmK_p_many)
set_option hygiene false in
local macro_rules | `(tactic| walk_at "dlen") => `(tactic| first | (first | with_reducible exact stK_len | with_reducible exact mmK_len) | walk_at "lenlt")
set_option hygiene false in
local macro_rules | `(tactic| walk_at "flat") => `(tactic| first | with_reducible exact Sl.flat_ints _ | rfl | with_reducible assumption)
set_option hygiene false in
local macro_rules | `(tactic| walk_at "disp") => `(tactic| first | fail | (refine Sl.r_dispE hs (by walk_at "put") (kvs := [(.inr "free", _), (.inr "left", _), (.inr "seed", _), (.inr "at", _)]) rfl (Nat.le_of_ble_eq_true rfl) stK_disp ?_; (try clear hs); intro H hs) | (refine Sl.r_dispE hs (by walk_at "put") (kvs := [(.inr "files", _), (.inr "held", _), (.inr "many", _)]) rfl (Nat.le_of_ble_eq_true rfl) mmK_disp ?_; (try clear hs); intro H hs))
set_option hygiene false in
local macro_rules | `(tactic| walk_at "num") => `(tactic| first | decide | omega | assumption)
set_option hygiene false in
local macro_rules | `(tactic| walk_at "rng") => `(tactic| first | omega | (simp only [List.length_map]; omega) | (simp only [List.length_map]; (repeat' split) <;> omega))
set_option hygiene false in
local macro_rules | `(tactic| walk_at "kb") => `(tactic| first | with_reducible exact Sl.kb_int_int | with_reducible exact Sl.kb_int_bool | with_reducible exact Sl.kb_int_str | with_reducible exact Sl.kb_int_list | with_reducible exact Sl.kb_int_tuple | with_reducible exact Sl.kb_int_dict | with_reducible exact Sl.kb_bool_int | with_reducible exact Sl.kb_bool_bool | with_reducible exact Sl.kb_bool_str | with_reducible exact Sl.kb_bool_list | with_reducible exact Sl.kb_bool_tuple | with_reducible exact Sl.kb_bool_dict | with_reducible exact Sl.kb_str_int | with_reducible exact Sl.kb_str_bool | with_reducible exact Sl.kb_str_str | with_reducible exact Sl.kb_str_list | with_reducible exact Sl.kb_str_tuple | with_reducible exact Sl.kb_str_dict | with_reducible exact Sl.kb_list_int | with_reducible exact Sl.kb_list_bool | with_reducible exact Sl.kb_list_str | with_reducible exact Sl.kb_list_list | with_reducible exact Sl.kb_list_tuple | with_reducible exact Sl.kb_list_dict | with_reducible exact Sl.kb_tuple_int | with_reducible exact Sl.kb_tuple_bool | with_reducible exact Sl.kb_tuple_str | with_reducible exact Sl.kb_tuple_list | with_reducible exact Sl.kb_tuple_tuple | with_reducible exact Sl.kb_tuple_dict | with_reducible exact Sl.kb_dict_int | with_reducible exact Sl.kb_dict_bool | with_reducible exact Sl.kb_dict_str | with_reducible exact Sl.kb_dict_list | with_reducible exact Sl.kb_dict_tuple | with_reducible exact Sl.kb_dict_dict | with_reducible exact Sl.kb_NoneType_int | with_reducible exact Sl.kb_NoneType_bool | with_reducible exact Sl.kb_NoneType_str | with_reducible exact Sl.kb_NoneType_list | with_reducible exact Sl.kb_NoneType_tuple | with_reducible exact Sl.kb_NoneType_dict)
set_option hygiene false in
local macro_rules | `(tactic| walk_at "ty") => `(tactic| first | exact .base (.int _) | exact .base .non | exact .base (.bl _) | exact .base (.str _) | exact .base (.lst (by walk_at "get")) | exact .base (.tup (by walk_at "get")) | exact .base (.dK (by walk_at "get")))
set_option hygiene false in
local macro_rules | `(tactic| walk_at "st") => `(tactic| first
  | with_reducible refine Sl.r_seq ?_
  | with_reducible refine Sl.r_asg ?_
  | with_reducible refine Sl.r_gName ?_
  | with_reducible refine Sl.r_cons ?_
  | with_reducible refine Sl.r_nil ?_
  | ((with_reducible show tVar _ _ _ _); refine Sl.r_var rfl ?_)
  | with_reducible refine Sl.r_c ?_
  | with_reducible refine Sl.r_op ?_
  | with_reducible refine Sl.r_ret ?_
  | with_reducible refine Sl.r_drop ?_
  | with_reducible refine Sl.r_ifS ?_
  | with_reducible refine Sl.r_test ?_
  | with_reducible refine Sl.r_tB ?_
  | with_reducible refine Sl.r_isb ?_
  | with_reducible refine Sl.r_call ?_
  | with_reducible refine Sl.r_fld ?_
  | with_reducible refine Sl.r_sFld ?_
  | with_reducible refine Sl.r_meth ?_
  | with_reducible refine Sl.r_make ?_
  | with_reducible refine Sl.r_cB ?_
  | with_reducible refine Sl.r_tup ?_
  | with_reducible refine Sl.r_lst ?_
  | with_reducible refine Sl.r_bm ?_
  | with_reducible refine Sl.r_bm0 ?_
  | with_reducible refine Sl.r_sl ?_
  | with_reducible refine Sl.r_noPart ?_
  | with_reducible refine Sl.r_part ?_
  | with_reducible refine Sl.r_partK ?_
  | with_reducible refine Sl.r_gSub ?_
  | with_reducible refine Sl.r_tAnd ?_
  | with_reducible refine Sl.r_tOr ?_
  | with_reducible refine Sl.r_tNot ?_
  | with_reducible refine Sl.r_tIf ?_
  | with_reducible refine Sl.r_un ?_
  | with_reducible refine Sl.r_rU ?_
  | with_reducible refine Sl.r_andV ?_
  | with_reducible refine Sl.r_andK ?_
  | with_reducible refine Sl.r_orV ?_
  | with_reducible refine Sl.r_orK ?_
  | with_reducible refine Sl.r_notV ?_
  | with_reducible refine Sl.r_notK ?_
  | with_reducible refine Sl.r_iteNT ?_
  | with_reducible refine Sl.r_iteNF ?_
  | ((with_reducible show Sl.rIsiU _ [_, .ty _] _ _); refine Sl.r_isi (.ty _) (by walk_at "ty") (by walk_at "kb") ?_)
  | with_reducible refine Sl.r_iteY ?_
  | with_reducible refine Sl.r_iteZ ?_
  | with_reducible refine Sl.r_next ?_
  | with_reducible refine Sl.r_retN ?_
  | with_reducible refine Sl.r_break ?_
  | with_reducible refine Sl.r_cont ?_
  | with_reducible refine Sl.r_I0 ?_
  | with_reducible refine Sl.r_addI ?_
  | ((with_reducible show Sl.rMulU _ (.int _) (.int _) _ _); refine Sl.r_mulI (by walk_at "mul") ?_)
  | ((with_reducible show Sl.rDivU (.int _) (.int _) _ _); first | refine Sl.r_divI (by first | decide | omega) ?_ | refine Sl.r_divW (by first | decide | omega) ?_)
  | ((with_reducible show rI (fun _ j => 0 < j) _ (.int _) (.int _) _ _); refine Sl.r_modI (by walk_at "num") ?_)
  | ((with_reducible show rI CPow _ (.int _) (.int _) _ _); refine Sl.r_I (by walk_at "pow") ?_)
  | with_reducible refine Sl.r_eqI ?_
  | with_reducible refine Sl.r_neI ?_
  | with_reducible refine Sl.r_eqS ?_
  | with_reducible refine Sl.r_neS ?_
  | with_reducible refine Sl.r_eqB ?_
  | with_reducible refine Sl.r_neB ?_
  | with_reducible refine Sl.r_isN ?_
  | with_reducible refine Sl.r_notN ?_
  | ((with_reducible show Sl.AllocT _ _ _); refine Sl.r_newT hs (by walk_at "len") ?_; (try clear hs); intro q_ H hs)
  | ((with_reducible show Sl.AllocL _ _ _); refine Sl.r_newL hs (by walk_at "len") ?_; (try clear hs); intro q_ H hs)
  | ((with_reducible show Sl.FldK _ _ _ _ _); refine Sl.r_fldK (by walk_at "get") (by walk_at "cls") (by walk_at "noattr") (by walk_at "look") ?_)
  | ((with_reducible show Sl.SFldK _ _ _ _ _ _); refine Sl.r_sFldK hs (by walk_at "put") (by walk_at "putf") (by walk_at "cls") (by walk_at "noattr") (by walk_at "flen") ?_; (try clear hs); intro H hs)
  | ((with_reducible show Sl.MethK _ _ _ _ _); first | refine Sl.r_methK (by walk_at "get") (by walk_at "look") ?_ | walk_at "meth" | (walk_at "ins"; refine Sl.r_methK (by walk_at "get") (by walk_at "look") ?_))
  | ((with_reducible show Sl.MakeK _ _ _ _ _ _ _); refine Sl.r_makeK hs ?_; (try clear hs); intro q_ dx_ H hs)
  | ((with_reducible show tyV _ "list" _ _ ∧ _); refine Sl.r_tyL (by walk_at "sq") ?_)
  | ((with_reducible show tyV _ "dict" _ _ ∧ _); refine Sl.r_tyD (by walk_at "get") ?_)
  | ((with_reducible show rAppend _ _ _ _); refine Sl.r_append hs (by walk_at "put") (by walk_at "lenlt") ?_; (try clear hs); intro H hs)
  | ((with_reducible show rExtend _ _ _ _); refine Sl.r_extend hs (by walk_at "put") (by walk_at "get") (by walk_at "len") ?_; (try clear hs); intro H hs)
  | ((with_reducible show rClear _ _ _ _); refine Sl.r_clear hs (by walk_at "put") ?_; (try clear hs); intro H hs)
  | ((with_reducible show rSlL _ _ _ _ _ _); refine Sl.r_slL hs (by walk_at "sq") ?_; (try clear hs); intro q_ H hs)
  | ((with_reducible show Sl.rAddU _ (.ref _) (.ref _) _ _); refine Sl.r_addL hs (by walk_at "get") (by walk_at "get") (by walk_at "len") ?_; (try clear hs); intro q_ H hs)
  | ((with_reducible show Sl.rMulU _ (.ref _) (.int _) _ _); first | (refine Sl.r_mulL hs (by walk_at "get") (by omega) (by walk_at "len") ?_; (try clear hs); intro q_ H hs) | (refine Sl.r_mulT hs (by walk_at "sqt") (by exact List.cons_ne_nil _ _) (by omega) (by exact Nat.le_of_ble_eq_true rfl) ?_; (try clear hs); intro q_ H hs))
  | ((with_reducible show tDNewK _ _ _); refine Sl.r_dnew hs ?_; (try clear hs); intro q_ H hs)
  | ((with_reducible show tDisp _ _ _ _); refine Sl.r_disp hs ?_; (try clear hs); intro q_ H hs)
  | ((with_reducible show Sl.rIxU _ (.ref _) (.str _) _ _); refine Sl.r_ixDs (by walk_at "get") (by walk_at "dlook") ?_)
  | ((with_reducible show Sl.rIxU _ (.ref _) (.int _) _ _); first | refine Sl.r_ixL (by walk_at "sq") (by first | rfl | exact Sl.atI_head | exact Sl.atI_snd) ?_ | refine Sl.r_ixT (by walk_at "sqt") (by rfl) ?_ | refine Sl.r_ixDi (by walk_at "get") (by with_reducible assumption) ?_)
  | ((with_reducible show Sl.rSetU (.ref _) (.str _) _ _ _); refine Sl.r_setDs hs (by walk_at "put") (by walk_at "dput") (by walk_at "dlen") ?_; (try clear hs); intro H hs)
  | ((with_reducible show Sl.rInU _ false _ (.ref _) _ _); first | refine Sl.r_inL (by walk_at "sq") rfl (by walk_at "flat") ?_ | refine Sl.r_inT (by walk_at "sqt") rfl (by walk_at "flat") ?_ | refine Sl.r_inDi (by walk_at "get") ?_ | refine Sl.r_inDs (by walk_at "get") ?_)
  | ((with_reducible show Sl.rInU _ true _ (.ref _) _ _); first | refine Sl.r_niL (by walk_at "sq") rfl (by walk_at "flat") ?_ | refine Sl.r_niT (by walk_at "sqt") rfl (by walk_at "flat") ?_ | refine Sl.r_niDi (by walk_at "get") ?_ | refine Sl.r_niDs (by walk_at "get") ?_)
  | ((with_reducible show Sl.GetE1 _ _ (.int _) _); refine Sl.r_get1i (by walk_at "get") ?_)
  | ((with_reducible show Sl.GetE2 _ (.int _) _ _ _); refine Sl.r_get2i (by walk_at "get") ?_)
  | ((with_reducible show Sl.DispE _ _ _ _); walk_at "disp")
  | with_reducible refine Sl.r_for ?_
  | with_reducible refine Sl.r_lc ?_
  | with_reducible refine Sl.r_rng1 ?_
  | with_reducible refine Sl.r_rng2 ?_
  | with_reducible refine Sl.r_iList ?_
  | with_reducible refine Sl.r_iTup ?_
  | with_reducible refine Sl.r_iEnum ?_
  | with_reducible refine Sl.r_iZip ?_
  | ((with_reducible show Sl.Rng1K _ _ _); refine Sl.r_rng1K (by walk_at "rng") ?_)
  | ((with_reducible show Sl.Rng2K _ _ _); refine Sl.r_rng2K (by walk_at "rng") ?_)
  | ((with_reducible show Sl.ListK _ _ _ _); refine Sl.r_listK (by walk_at "sq") ?_)
  | ((with_reducible show Sl.TupK _ _ _ _); refine Sl.r_tupK (by walk_at "sqt") ?_)
  | ((with_reducible show Sl.EnumK _ _ _ _); refine Sl.r_enumK (by walk_at "sq") ?_)
  | ((with_reducible show Sl.ZipK _ _ _ _); refine Sl.r_zipK (by walk_at "sq") (by walk_at "sq") ?_)
  | ((with_reducible show gTup _ _ _ (.ref _) _ (upd _ _ _) _); refine Sl.r_gTupNew hs (by with_reducible assumption) rfl ?_; (try clear hs); intro H hs)
  | ((with_reducible show gTup _ _ _ (.ref _) _ _ _); refine Sl.r_gTup (by walk_at "sqt") rfl ?_)
  | with_reducible refine Sl.r_gCons ?_
  | with_reducible refine Sl.r_gNil ?_
  | with_reducible refine Sl.r_yes ?_
  | ((with_reducible show wipe _ _ = wipe _ _ ∧ _); refine ⟨rfl, ?_⟩)
  | ((with_reducible show Sl.AppK _ _ _ _); refine Sl.r_appK hs (by walk_at "put") (by walk_at "lenlt") ?_; (try clear hs); intro H hs)
  | ((with_reducible show Sl.rEqU _ _ _ _ _); refine Sl.r_eqV (by rfl) ?_)
  | ((with_reducible show Sl.rNeU _ _ _ _ _); refine Sl.r_neV (by rfl) ?_)
  | with_reducible refine Sl.r_pairsN ?_
  | with_reducible refine Sl.r_pairsC ?_
  | with_reducible refine Sl.r_dget1 ?_
  | with_reducible refine Sl.r_dget2 ?_
  | ((with_reducible show Sl.IsDK _ _ _); refine Sl.r_isD (by walk_at "get") ?_)
  | ((with_reducible show Sl.rLenU _ _ _ _); first | refine Sl.r_lenL (by walk_at "sq") ?_ | refine Sl.r_lenT (by walk_at "sqt") ?_ | refine Sl.r_lenD (by walk_at "get") ?_)
  | ((with_reducible show Sl.rRepr _ [.int _] _ _); refine Sl.r_reprI (by walk_at "small") ?_)
  | with_reducible refine Sl.r_reprN ?_
  | ((with_reducible show Sl.rIsA _ [_, .ty _] _ _); first | refine Sl.r_isAU (Sl.r_isi (.ty _) (by walk_at "ty") (by walk_at "kb") ?_) | refine Sl.r_isErrT (by walk_at "get") (by walk_at "ec") (by walk_at "ki") ?_)
  | ((with_reducible show Sl.rIsA _ [.non, .ref _] _ _); refine Sl.r_isNonC (by walk_at "kn") ?_)
  | ((with_reducible show Sl.rIsA _ [.ref _, .ref _] _ _); refine Sl.r_isErr (by walk_at "get") (by walk_at "ec") (by walk_at "ki") ?_)
  | with_reducible refine Sl.r_isBl ?_
  | with_reducible refine Sl.r_notBl ?_
  | with_reducible refine Sl.r_raise ?_
  | with_reducible refine Sl.r_callS ?_
  | with_reducible refine Sl.r_methS ?_
  | with_reducible refine Sl.r_methS0 ?_
  | with_reducible refine Sl.r_makeS ?_
  | with_reducible refine Sl.r_lenSet ?_
  | with_reducible refine Sl.r_par2 ?_
  | with_reducible refine Sl.r_parK ?_
  | with_reducible refine Sl.r_chain ?_
  | with_reducible refine Sl.r_chK ?_
  | with_reducible refine Sl.r_augS ?_
  | with_reducible refine Sl.r_ipI ?_
  | with_reducible refine Sl.r_fldaug ?_
  | ((with_reducible show Sl.AugK _ _ _ _ _ _ _ _); refine Sl.r_augK (by walk_at "get") (by walk_at "cls") (by walk_at "noattr") (by walk_at "look") ?_)
  | ((with_reducible show Sl.AugF _ _ _ _ _ _); refine Sl.r_augF hs (by walk_at "put") (by walk_at "putf") (by walk_at "flen") ?_; (try clear hs); intro H hs)
  | with_reducible refine Sl.r_aAdd ?_
  | with_reducible refine Sl.r_aSub ?_
  | with_reducible refine Sl.r_keys ?_
  | ((with_reducible show Sl.KeysK _ _ _); refine Sl.r_keysK (by walk_at "get") ?_)
  | with_reducible refine Sl.r_items ?_
  | ((with_reducible show Sl.ItemIK _ _ _); refine Sl.r_itemsK (by walk_at "get") ?_)
  | with_reducible refine Sl.r_vals ?_
  | ((with_reducible show Sl.ValIK _ _ _); refine Sl.r_valsK (by walk_at "get") ?_)
  | with_reducible refine Sl.r_listItems ?_
  | ((with_reducible show Sl.ItemsK _ _ _); refine Sl.r_listItemsK hs (by walk_at "get") ?_; (try clear hs); intro p_ ts_ H hs)
  | with_reducible refine Sl.r_dpop1 ?_
  | with_reducible refine Sl.r_listRange ?_
  | ((with_reducible show Sl.LRngK _ (.int _) _); refine Sl.r_lRngK' hs (by walk_at "num") (by walk_at "num") ?_; (try clear hs); intro q_ H hs)
  | ((with_reducible show rListD _ _ _); refine Sl.r_listDM hs (by walk_at "get") ?_; (try clear hs); intro q_ H hs)
  | ((with_reducible show rSortedI _ _ _ _); refine Sl.r_srtI hs (by walk_at "sq") ?_; (try clear hs); intro q_ H hs)
  | ((with_reducible show Sl.rSortedDI _ _ _); refine Sl.r_srtD hs (by walk_at "get") (by walk_at "few") ?_; (try clear hs); intro q_ H hs)
  | ((with_reducible show Sl.UnlK _ _ _ _ _ _); refine Sl.r_unl hs (by walk_at "put") ?_; (try clear hs); intro H hs)
  | ((with_reducible show Sl.UnlS _ _ _ _ _ _); refine Sl.r_unlS hs (by walk_at "put") ?_; (try clear hs); intro H hs)
  | with_reducible refine Sl.r_abs ?_
  | with_reducible refine Sl.r_max2 ?_
  | with_reducible refine Sl.r_min2 ?_
  | with_reducible refine Sl.r_int1b ?_
  | with_reducible refine Sl.r_int1 ?_
  | with_reducible refine Sl.r_unCons ?_
  | with_reducible refine Sl.r_unNil ?_
  | ((with_reducible show Sl.UnK (Sl.GL _ _ _) _ _ _ _ _ _); refine Sl.r_unKL (by walk_at "sq") ?_)
  | ((with_reducible show Sl.UnK (Sl.GT _ _ _) _ _ _ _ _ _); refine Sl.r_unKT (by walk_at "sqt") ?_)
  | with_reducible refine Sl.r_unKR ?_
  | with_reducible refine Sl.r_ulCons ?_
  | with_reducible refine Sl.r_ulNil ?_
  | ((with_reducible show Sl.UnLK (Sl.GL _ _ _) _ _ _ _ _ _ _ _ _); refine Sl.r_ulKL (by walk_at "sq") ?_)
  | ((with_reducible show Sl.UnLK (Sl.GT _ _ _) _ _ _ _ _ _ _ _ _); refine Sl.r_ulKT (by walk_at "sqt") ?_)
  | with_reducible refine Sl.r_ulKR ?_
  | ((with_reducible show Sl.rListOf _ _ _ _); first | refine Sl.r_listL hs (by walk_at "sq") fun q_ H hs => ?_ | refine Sl.r_listT hs (by walk_at "sqt") fun q_ H hs => ?_)
  | ((with_reducible show Sl.rTupleOf _ _ _ _); first | refine Sl.r_tupleL hs (by walk_at "sq") fun q_ H hs => ?_ | refine Sl.r_tupleT (by walk_at "sqt") ?_))
set_option hygiene false in
local macro_rules | `(tactic| walk_at "rest") => `(tactic| ((try dsimp only [List.cons_append, List.nil_append]); exact Hd.mt (by walk_at "mt") hs))
set_option hygiene false in
local macro_rules | `(tactic| walk_at "sqA") => `(tactic| ((try dsimp only [List.cons_append, List.nil_append] at hs); exact hs.sq (by walk_at "pull")))
set_option hygiene false in
local macro_rules | `(tactic| walk_at "few") => `(tactic| first | with_reducible assumption | omega | (simp only [List.length_map]; omega))
set_option hygiene false in
local macro_rules | `(tactic| walk_at "mul") => `(tactic| first | (left; constructor <;> omega) | (right; constructor <;> omega))
set_option hygiene false in
local macro_rules | `(tactic| walk_at "pow") => `(tactic| exact ⟨by decide, by decide, by decide⟩)
set_option hygiene false in
local macro_rules | `(tactic| walk_at "run") => `(tactic| repeat walk_at "st")
set_option hygiene false in
local macro_rules | `(tactic| walk_at "runI") => `(tactic| ((repeat ((fail_if_success (with_reducible show tIfS _ _ _ _ _ _)); walk_at "st")); (try (with_reducible show tIfS _ _ _ _ _ _))))
set_option hygiene false in
local macro_rules | `(tactic| walk_at "stm") => `(tactic| (walk_at "st"; repeat ((fail_if_success (with_reducible show tSeq _ _ _ _ _)); walk_at "st")))
set_option hygiene false in
local macro_rules | `(tactic| walk_at "call") => `(tactic| first | refine ⟨_, rfl, ?_, Hd.mt (by walk_at "mt") hs, ?_⟩ | refine ⟨_, _, rfl, ?_, Hd.mt (by walk_at "mt") hs, ?_⟩ | refine ⟨_, _, _, rfl, ?_, Hd.mt (by walk_at "mt") hs, ?_⟩ | refine ⟨_, _, _, _, rfl, ?_, Hd.mt (by walk_at "mt") hs, ?_⟩ | refine ⟨_, _, _, _, _, rfl, ?_, Hd.mt (by walk_at "mt") hs, ?_⟩ | refine ⟨_, _, _, _, _, _, rfl, ?_, Hd.mt (by walk_at "mt") hs, ?_⟩ | refine ⟨_, _, _, _, _, _, _, rfl, ?_, Hd.mt (by walk_at "mt") hs, ?_⟩ | refine ⟨_, _, _, _, _, _, _, _, rfl, ?_, Hd.mt (by walk_at "mt") hs, ?_⟩ | refine ⟨_, _, _, _, _, _, _, _, _, rfl, ?_, Hd.mt (by walk_at "mt") hs, ?_⟩ | refine ⟨_, _, _, _, _, _, _, _, _, _, rfl, ?_, Hd.mt (by walk_at "mt") hs, ?_⟩ | refine ⟨_, _, _, _, _, _, _, _, _, _, _, rfl, ?_, Hd.mt (by walk_at "mt") hs, ?_⟩)
set_option hygiene false in
local macro_rules | `(tactic| walk_at "callN") => `(tactic| first | refine ⟨_, rfl, Hd.mt (by walk_at "mt") hs, ?_⟩ | refine ⟨_, _, rfl, Hd.mt (by walk_at "mt") hs, ?_⟩ | refine ⟨_, _, _, rfl, Hd.mt (by walk_at "mt") hs, ?_⟩ | refine ⟨_, _, _, _, rfl, Hd.mt (by walk_at "mt") hs, ?_⟩ | refine ⟨_, _, _, _, _, rfl, Hd.mt (by walk_at "mt") hs, ?_⟩ | refine ⟨_, _, _, _, _, _, rfl, Hd.mt (by walk_at "mt") hs, ?_⟩ | refine ⟨_, _, _, _, _, _, _, rfl, Hd.mt (by walk_at "mt") hs, ?_⟩ | refine ⟨_, _, _, _, _, _, _, _, rfl, Hd.mt (by walk_at "mt") hs, ?_⟩ | refine ⟨_, _, _, _, _, _, _, _, _, rfl, Hd.mt (by walk_at "mt") hs, ?_⟩)
set_option hygiene false in
local macro_rules | `(tactic| walk_at "side") => `(tactic| first | assumption | omega | (and_intros <;> first | assumption | omega | decide | rfl))
set_option hygiene false in
local macro_rules | `(tactic| walk_at "go") => `(tactic| (walk_at "call"; (focus walk_at "side"); (try clear hs); intro H hs; walk_at "run"))
set_option hygiene false in
local macro_rules | `(tactic| walk_at "goN") => `(tactic| (walk_at "callN"; (try clear hs); intro H hs; walk_at "run"))
set_option hygiene false in
local macro_rules | `(tactic| walk_at "small") => `(tactic| first | with_reducible assumption | omega)
set_option hygiene false in
local macro_rules | `(tactic| walk_at "ec") => `(tactic| first | with_reducible assumption | (fail))
set_option hygiene false in
local macro_rules | `(tactic| walk_at "ki") => `(tactic| first | with_reducible assumption | (fail))
set_option hygiene false in
local macro_rules | `(tactic| walk_at "unL") => `(tactic| first | refine Sl.r_unL (by walk_at "sq") ?_ | refine Sl.r_unT (by walk_at "sqt") ?_ | refine Sl.r_unR (by rfl) ?_)
set_option hygiene false in
local macro_rules | `(tactic| walk_at "ulL") => `(tactic| first | (refine Sl.r_ulL hs (fun E_ H hs => by walk_at "sq") ?_; (try clear hs); intro E_ H hs) | (refine Sl.r_ulT hs (fun E_ H hs => by walk_at "sqt") ?_; (try clear hs); intro E_ H hs))
set_option hygiene false in
local macro_rules | `(tactic| walk_at "runG") => `(tactic| repeat ((fail_if_success (with_reducible show gName _ _ _ _ _)); walk_at "st"))
set_option hygiene false in
local macro_rules | `(tactic| walk_at "kn") => `(tactic| first | with_reducible assumption | (fail))

section
variable {P : Program} {w : World} {K : PySem.W.Frag} {mg : Str → Option Value} {base : Heap}

/-- what draws are taken from; n: how many were drawn at the most -/
def stA (d : Addr) (n : Nat) : SA := fun H => ∃ f l s a, (0 ≤ s ∧ s < 2147483629 ∧ 0 ≤ a ∧ a ≤ (n : Int)) ∧ Hd [pto d (.dK (stK (.bl f) (.int l) (.int s) (.int a)))] H
theorem st_open {d : Addr} {n : Nat} {L : List SA} {H : Hp} (h : Hd (stA d n :: L) H) : ∃ f l s a, (0 ≤ s ∧ s < 2147483629 ∧ 0 ≤ a ∧ a ≤ (n : Int)) ∧ Hd (pto d (.dK (stK (.bl f) (.int l) (.int s) (.int a))) :: L) H := by
  obtain ⟨H1, H2, c, s1, s2, ⟨f, l, s, a, b, p⟩, q⟩ := h
  exact ⟨f, l, s, a, b, Hd.open (M := [_]) ⟨H1, H2, c, s1, s2, p, q⟩⟩
theorem st_close {d : Addr} {n : Nat} {L : List SA} {H : Hp} {f : Bool} {l s a : Int} (b : 0 ≤ s ∧ s < 2147483629 ∧ 0 ≤ a ∧ a ≤ (n : Int)) (h : Hd (pto d (.dK (stK (.bl f) (.int l) (.int s) (.int a))) :: L) H) : Hd (stA d n :: L) H :=
  (Hd.close (M := [_]) h).imp fun _ z => ⟨f, l, s, a, b, z⟩
theorem st_more {d : Addr} {n m : Nat} (hm : n ≤ m) {L : List SA} {H : Hp} (h : Hd (stA d n :: L) H) : Hd (stA d m :: L) H :=
  h.imp fun _ ⟨f, l, s, a, b, z⟩ => ⟨f, l, s, a, ⟨b.1, b.2.1, b.2.2.1, by omega⟩, z⟩

def sp_law_cell_at (T : Txt K mg) : Sp := fun vs H Q _ => ∃ (a : Addr) (ns : List Int) (k : Nat) (L : List SA), vs = [.ref a, .int (k : Int)] ∧ Hd (sql K a (ns.map V.int) :: L) H ∧ ∀ c, Q (.int c) H
theorem ok_law_cell_at (T : Txt K mg) : FnOk P w K mg base CX0 1 T.a_law_cell_at T.d_law_cell_at ["_law_script", "_law_k"] (sp_law_cell_at T) := by
  refine T.f_law_cell_at.ok sc_law_cell_at (fun vs H Q E h => ?_) (fun cdv A outer s H vs Q E hr h => ?_)
  · obtain ⟨a, ns, k, L, rfl, _⟩ := h
    rfl
  · obtain ⟨a, ns, k, L, rfl, h⟩ := h
    refine ⟨_, (pss_cons (ps_if (pt_cmpR op_lt (pv 1) (pe_callB (k_len (K := K) rfl) (by rfl) T.n_len (by decide +kernel) (pa_cons (pv 0) pa_nil)) (nomark _))
        (pss_one (ps_ret (pe_ix (k_ix (K := K) rfl (hu_of hr)) (pv 0) (pv 1) (fun _ _ => rfl))))
        pss_nil)
       (pss_one (ps_ret pe_int))), ?_⟩
    try dsimp only [cxOf]
    obtain ⟨hs, q⟩ := h
    walk_at "run"
    refine Sl.r_iteD (fun h => ?_) (fun h => ?_)
    · walk_at "run"
      have hk : k < ns.length := by simpa using h
      refine Sl.r_ixL (by walk_at "sq") (atI_nat (v := .int ns[k]) (by simp [hk])) ?_
      exact q _
    · walk_at "run"
      exact q _
def sp_law_mixed (T : Txt K mg) : Sp := fun vs H Q _ => ∃ (c k : Int), vs = [.int c, .int k] ∧ (0 ≤ k ∧ k ≤ 1000000) ∧ ∀ r, 0 ≤ r → r < 2147483629 → Q (.int r) H
theorem ok_law_mixed (T : Txt K mg) : FnOk P w K mg base CX0 1 T.a_law_mixed T.d_law_mixed ["_law_cell", "_law_k"] (sp_law_mixed T) := by
  refine T.f_law_mixed.ok sc_law_mixed (fun vs H Q E h => ?_) (fun cdv A outer s H vs Q E hr h => ?_)
  · obtain ⟨c, k, rfl, _⟩ := h
    rfl
  · obtain ⟨c, k, rfl, h⟩ := h
    refine ⟨_, (pss_cons (ps_set (i := 2) sc_law_mixed.nd rfl (by first | exact Or.inl rfl | exact Or.inr rfl) (pe_op (k_mod (K := K) rfl) (pe_op (k_mul (K := K) rfl) (pe_op (k_add (K := K) rfl) (pe_op (k_mod (K := K) rfl) (pv 0) pe_int) pe_int) pe_int) pe_int))
       (pss_one (ps_ret (pe_op (k_mod (K := K) rfl) (pe_op (k_add (K := K) rfl) (pe_op (k_mul (K := K) rfl) (pv 2) (pe_op (k_add (K := K) rfl) (pe_op (k_mul (K := K) rfl) (pe_op (k_mul (K := K) rfl) pe_int (pv 1)) (pv 1)) pe_int)) (pe_op (k_mul (K := K) rfl) (pe_op (k_div (K := K) rfl) (pv 0) pe_int) pe_int)) pe_int)))), ?_⟩
    try dsimp only [cxOf]
    obtain ⟨hk, q⟩ := h
    have hkk : 0 ≤ k * k ∧ k * k ≤ 1000000000000 := ⟨Int.mul_nonneg hk.1 hk.1, Int.le_trans (Int.mul_le_mul hk.2 hk.2 hk.1 (by decide)) (by decide)⟩
    walk_at "run"
    exact q _ (Int.emod_nonneg _ (by decide)) (Int.emod_lt_of_pos _ (by decide))
end
section
variable {P : Program} {w : World} {K : PySem.W.Frag} {mg : Str → Option Value} {base : Heap}
def sp_law_row (T : Txt K mg) : Sp := fun vs H Q _ => ∃ (a : Addr) (ns : List Int) (k : Nat) (L : List SA), vs = [.ref a, .int (k : Int)] ∧ Hd (sql K a (ns.map V.int) :: L) H ∧ ∀ d H', Hd (stA d 0 :: sql K a (ns.map V.int) :: L) H' → Q (.ref d) H'
theorem ok_law_row (T : Txt K mg) : FnOk P w K mg base CX0 2 T.a_law_row T.d_law_row ["_law_script", "_law_k"] (sp_law_row T) := by
  refine T.f_law_row.ok sc_law_row (fun vs H Q E h => ?_) (fun cdv A outer s H vs Q E hr h => ?_)
  · obtain ⟨a, ns, k, L, rfl, _⟩ := h
    rfl
  · obtain ⟨a, ns, k, L, rfl, h⟩ := h
    refine ⟨_, (pss_cons (ps_set (i := 2) sc_law_row.nd rfl (by first | exact Or.inl rfl | exact Or.inr rfl) (pe_call (ok_law_cell_at T) hr (by rfl) T.g_law_cell_at T.f_law_cell_at.kp T.b_law_cell_at .nil pass0 (pa_cons (pv 0) (pa_cons (pv 1) pa_nil))))
       (pss_one (ps_ret (pe_disp (pps_cons pe_str (pe_cmpR (k_eq (K := K) rfl hr.units) (pe_op (k_mod (K := K) rfl) (pe_call (ok_law_cell_at T) hr (by rfl) T.g_law_cell_at T.f_law_cell_at.kp T.b_law_cell_at .nil pass0 (pa_cons (pv 0) (pa_cons pe_int pa_nil))) pe_int) pe_int (nomark _)) (pps_cons pe_str (pv 2) (pps_cons pe_str (pe_call (ok_law_mixed T) hr (by rfl) T.g_law_mixed T.f_law_mixed.kp T.b_law_mixed .nil pass0 (pa_cons (pv 2) (pa_cons (pe_op (k_mod (K := K) rfl) (pv 1) pe_int) pa_nil))) (pps_cons pe_str pe_int pps_nil)))) (by rfl) (by rfl) (fun z => by cases z) (by decide))))), ?_⟩
    try dsimp only [cxOf]
    obtain ⟨hs, q⟩ := h
    walk_at "run"
    refine ⟨a, ns, k, L, rfl, hs, fun c => ?_⟩
    walk_at "run"
    refine ⟨a, ns, 0, _, rfl, Hd.mt (by walk_at "mt") hs, fun c0 => ?_⟩
    walk_at "run"
    refine ⟨c, _, rfl, ⟨by omega, by omega⟩, fun s h1 h2 => ?_⟩
    walk_at "run"
    exact q _ _ (st_close ⟨h1, h2, by decide, by decide⟩ hs)
def sp_law_next (T : Txt K mg) : Sp := fun vs H Q _ => ∃ (d : Addr) (m : Int) (n : Nat) (L : List SA), vs = [.ref d, .int m] ∧ (0 < m ∧ m ≤ 65536 ∧ n ≤ 900000) ∧ Hd (stA d n :: L) H ∧ ∀ r H', 0 ≤ r → r < m → Hd (stA d (n + 1) :: L) H' → Q (.int r) H'
theorem ok_law_next (T : Txt K mg) : FnOk P w K mg base CX0 2 T.a_law_next T.d_law_next ["_law_row_here", "_law_many"] (sp_law_next T) := by
  refine T.f_law_next.ok sc_law_next (fun vs H Q E h => ?_) (fun cdv A outer s H vs Q E hr h => ?_)
  · obtain ⟨d, m, n, L, rfl, _⟩ := h
    rfl
  · obtain ⟨d, m, n, L, rfl, h⟩ := h
    refine ⟨_, (pss_cons (ps_asg (pe_op (k_add (K := K) rfl) (pe_ix (k_ix (K := K) rfl (hu_of hr)) (pv 0) pe_str (fun _ _ => rfl)) pe_int) (pg_sub (pv 0) pe_str (u_set (hu_of hr))))
       (pss_cons (ps_if (PW.pt (pw_and (pt_val (pe_ix (k_ix (K := K) rfl (hu_of hr)) (pv 0) pe_str (fun _ _ => rfl))) (pw_and1 (pt_cmpR (k_notIn (K := K) rfl (hu_of hr)) (pe_ix (k_ix (K := K) rfl (hu_of hr)) (pv 0) pe_str (fun _ _ => rfl)) (pe_tup (pa_cons pe_int (pa_cons (pe_un un_neg pe_int) pa_nil))) (by rfl)))))
        (pss_cons (ps_set (i := 2) sc_law_next.nd rfl (by first | exact Or.inl rfl | exact Or.inr rfl) (pe_op (k_mod (K := K) rfl) (pe_ix (k_ix (K := K) rfl (hu_of hr)) (pv 0) pe_str (fun _ _ => rfl)) (pv 1)))
       (pss_cons (ps_asg (pe_op (k_div (K := K) rfl) (pe_ix (k_ix (K := K) rfl (hu_of hr)) (pv 0) pe_str (fun _ _ => rfl)) (pv 1)) (pg_sub (pv 0) pe_str (u_set (hu_of hr))))
       (pss_one (ps_ret (pv 2)))))
        pss_nil)
       (pss_one (ps_ret (pe_op (k_mod (K := K) rfl) (pe_op (k_div (K := K) rfl) (pe_call (ok_law_mixed T) hr (by rfl) T.g_law_mixed T.f_law_mixed.kp T.b_law_mixed .nil pass0 (pa_cons (pe_call (ok_law_mixed T) hr (by rfl) T.g_law_mixed T.f_law_mixed.kp T.b_law_mixed .nil pass0 (pa_cons (pe_ix (k_ix (K := K) rfl (hu_of hr)) (pv 0) pe_str (fun _ _ => rfl)) (pa_cons (pe_ix (k_ix (K := K) rfl (hu_of hr)) (pv 0) pe_str (fun _ _ => rfl)) pa_nil))) (pa_cons pe_int pa_nil))) pe_int) (pv 1)))))), ?_⟩
    try dsimp only [cxOf]
    obtain ⟨⟨hm, hm2, hn⟩, hs, q⟩ := h
    obtain ⟨f, l, s, a, b, hs⟩ := st_open hs
    walk_at "run"
    apply Sl.r_late hs
    · intro tail
      refine Sl.r_ite (fun hf => ?_) (fun hf => ?_)
      · walk_at "run"
        refine Sl.r_ite (fun h0 => ?_) (fun h0 => ?_)
        · walk_at "run"
          exact q _ _ (Int.emod_nonneg _ (by omega)) (Int.emod_lt_of_pos _ hm) (st_close (n := n + 1) (s := s) (a := a + 1) ⟨b.1, b.2.1, by omega, by omega⟩ (Hd.mt (by walk_at "mt") hs))
        · exact tail _ (Hd.mt (by walk_at "mt") hs)
      · exact tail _ hs
    · clear hs
      intro H hs
      walk_at "run"
      refine ⟨s, a + 1, rfl, ⟨by omega, by omega⟩, fun s1 h1 h2 => ?_⟩
      walk_at "run"
      refine ⟨s1, 50, rfl, ⟨by omega, by omega⟩, fun s2 h3 h4 => ?_⟩
      walk_at "run"
      exact q _ _ (Int.emod_nonneg _ (by omega)) (Int.emod_lt_of_pos _ hm) (st_close (n := n + 1) ⟨b.1, b.2.1, by omega, by omega⟩ hs)
end
section
variable {P : Program} {w : World} {K : PySem.W.Frag} {mg : Str → Option Value} {base : Heap}

structure FileM where
  title : Option Int
  holders : Int
  content : List Int
  loans : List Int
structure FilesM where
  bag : Int
  loose : List Int
  known : List (Int × FileM)
  titled : List (Int × Int)
  newest : Int
def oV : Option Int → V
  | none => .non
  | some n => .int n
def refA {α : Type} (x : Addr × α) : V := .ref x.1
def fileA (CF : Addr) (e : Int × (Addr × FileM)) : SA := fun H => ∃ dx ca la : Addr, Hd [pto e.2.1 (.ins CF dx (fs_File (oV e.2.2.title) (.int e.2.2.holders) (.ref ca) (.ref la))), pto ca (.lst (e.2.2.content.map V.int)), pto la (.lst (e.2.2.loans.map V.int))] H
theorem fi_open {CF a : Addr} {k : Int} {m : FileM} {L : List SA} {H : Hp} (h : Hd (fileA CF (k, (a, m)) :: L) H) : ∃ dx ca la : Addr, Hd (pto a (.ins CF dx (fs_File (oV m.title) (.int m.holders) (.ref ca) (.ref la))) :: pto ca (.lst (m.content.map V.int)) :: pto la (.lst (m.loans.map V.int)) :: L) H := by
  obtain ⟨H1, H2, c, s1, s2, ⟨dx, ca, la, p⟩, q⟩ := h
  exact ⟨dx, ca, la, Hd.open (M := [_, _, _]) ⟨H1, H2, c, s1, s2, p, q⟩⟩
theorem fi_close {CF a dx ca la : Addr} {k : Int} {m : FileM} {L : List SA} {H : Hp} (h : Hd (pto a (.ins CF dx (fs_File (oV m.title) (.int m.holders) (.ref ca) (.ref la))) :: pto ca (.lst (m.content.map V.int)) :: pto la (.lst (m.loans.map V.int)) :: L) H) : Hd (fileA CF (k, (a, m)) :: L) H :=
  (Hd.close (M := [_, _, _]) h).imp fun _ z => ⟨dx, ca, la, z⟩
def filesA (CF C p : Addr) (u : FilesM) : SA := fun H => ∃ (dx lo kn ti : Addr) (G : List (Int × (Addr × FileM))), (keysM G).Nodup ∧ mapM (·.2) G = u.known ∧ Hd [pto p (.ins C dx (fs_Files (.int u.bag) (.ref lo) (.ref kn) (.ref ti) (.int u.newest))), pto lo (.lst (u.loose.map V.int)), pto kn (.dK (dM refA G)), pto ti (.dK (dM V.int u.titled)), big (fileA CF) G] H
theorem fs_open {CF C p : Addr} {u : FilesM} {L : List SA} {H : Hp} (h : Hd (filesA CF C p u :: L) H) : ∃ (dx lo kn ti : Addr) (G : List (Int × (Addr × FileM))), ((keysM G).Nodup ∧ mapM (·.2) G = u.known) ∧ Hd (pto p (.ins C dx (fs_Files (.int u.bag) (.ref lo) (.ref kn) (.ref ti) (.int u.newest))) :: pto lo (.lst (u.loose.map V.int)) :: pto kn (.dK (dM refA G)) :: pto ti (.dK (dM V.int u.titled)) :: big (fileA CF) G :: L) H := by
  obtain ⟨H1, H2, c, s1, s2, ⟨dx, lo, kn, ti, G, e1, e2, p⟩, q⟩ := h
  exact ⟨dx, lo, kn, ti, G, ⟨e1, e2⟩, Hd.open (M := [_, _, _, _, _]) ⟨H1, H2, c, s1, s2, p, q⟩⟩
theorem fs_close {CF C p dx lo kn ti : Addr} {G : List (Int × (Addr × FileM))} {u : FilesM} {L : List SA} {H : Hp} (e : (keysM G).Nodup ∧ mapM (·.2) G = u.known) (h : Hd (pto p (.ins C dx (fs_Files (.int u.bag) (.ref lo) (.ref kn) (.ref ti) (.int u.newest))) :: pto lo (.lst (u.loose.map V.int)) :: pto kn (.dK (dM refA G)) :: pto ti (.dK (dM V.int u.titled)) :: big (fileA CF) G :: L) H) : Hd (filesA CF C p u :: L) H :=
  (Hd.close (M := [_, _, _, _, _]) h).imp fun _ z => ⟨dx, lo, kn, ti, G, e.1, e.2, z⟩
theorem fs_ins {CF C p : Addr} {u : FilesM} {L L' : List SA} {H : Hp} (h : Hd L H) (pl : Pull (filesA CF C p u) L L') : ∃ dx x0 x1 x2 x3 x4, H p = some (.ins C dx (fs_Files x0 x1 x2 x3 x4)) := by
  obtain ⟨dx, lo, kn, ti, G, e, z⟩ := fs_open (h.pull pl)
  exact ⟨dx, _, _, _, _, _, z.get .here⟩
theorem r_methFs {CF C p : Addr} {u : FilesM} {L L' : List SA} {H : Hp} {m : Str} {R : V → Hp → Prop} (h : Hd L H) (pl : Pull (filesA CF C p u) L L') (l : ∀ x0 x1 x2 x3 x4, (fs_Files x0 x1 x2 x3 x4).lookup m = none) (q : R (.ref p) H) : MethK C m R (.ref p) H := by
  obtain ⟨dx, x0, x1, x2, x3, x4, e⟩ := fs_ins h pl
  exact r_methK e (l _ _ _ _ _) q
namespace FilesM
def new (n : Nat) : FilesM := ⟨n, rangeI n, [], [], 0⟩
def make (u : FilesM) (n : Int) : FilesM := { u with known := putM u.known u.newest ⟨some n, 0, [], []⟩, titled := putM u.titled n u.newest, newest := u.newest + 1 }
def idle (u : FilesM) (k : Int) (m : FileM) : FilesM := if m.title = none ∧ m.holders = 0 then { u with loose := srt (u.loose ++ m.loans), known := dropM u.known k } else u
def withM (u : FilesM) (k : Int) (m : FileM) : FilesM := { u with known := putM u.known k m }
def remove (u : FilesM) (n k : Int) (m : FileM) : FilesM := ({ u with titled := dropM u.titled n }.withM k { m with title := none }).idle k { m with title := none }
def hold (u : FilesM) (k : Int) (m : FileM) : FilesM := u.withM k { m with holders := m.holders + 1 }
def letGo (u : FilesM) (k : Int) (m : FileM) : FilesM := (u.withM k { m with holders := m.holders - 1 }).idle k { m with holders := m.holders - 1 }
def cut (u : FilesM) (k : Int) (m : FileM) : FilesM := { u with loose := srt (u.loose ++ m.loans) }.withM k { m with content := [], loans := [] }
def sizeP (m : FileM) (place : Nat) (ws : List Int) : Nat := max m.content.length (place + ws.length)
def lack (m : FileM) (place : Nat) (ws : List Int) : Nat := (sizeP m place ws + 7) / 8 - m.loans.length
def wider (m : FileM) (place : Nat) (ws : List Int) : List Int := m.content ++ List.replicate (sizeP m place ws - m.content.length) 0
def put (u : FilesM) (k : Int) (m : FileM) (place : Nat) (ws : List Int) : FilesM :=
  if ws = [] then u else { u with loose := u.loose.drop (lack m place ws) }.withM k { m with content := (wider m place ws).take place ++ ws ++ (wider m place ws).drop (place + ws.length), loans := m.loans ++ u.loose.take (lack m place ws) }
end FilesM
/-- what holds of files -/
structure WF (u : FilesM) : Prop where
  ndK : (keysM u.known).Nodup
  ndT : (keysM u.titled).Nodup
  tk : ∀ n k, getM u.titled n = some k → ∃ m, getM u.known k = some m ∧ m.title = some n
  kt : ∀ k m n, getM u.known k = some m → m.title = some n → getM u.titled n = some k
  new : ∀ k ∈ keysM u.known, 0 ≤ k ∧ k < u.newest
  hd : ∀ k m, getM u.known k = some m → 0 ≤ m.holders
  lf : u.loose.length ≤ 1000
  lk : u.known.length ≤ 1000
  lt : u.titled.length ≤ 1000
  lc : ∀ k m, getM u.known k = some m → m.content.length ≤ 512 ∧ m.loans.length ≤ 1000

end
set_option hygiene false in
local macro_rules | `(tactic| walk_at "meth") => `(tactic| refine r_methFs hs (by walk_at "pull") (fun _ _ _ _ _ => by walk_at "look") ?_)
set_option hygiene false in
local macro_rules | `(tactic| walk_at "ins") => `(tactic| (have hi := fs_ins hs (by walk_at "pull"); obtain ⟨_, _, _, _, _, _, hi⟩ := hi))

section
variable {P : Program} {w : World} {K : PySem.W.Frag} {mg : Str → Option Value} {base : Heap}
def sp_is_whole (T : Txt K mg) : Sp := fun vs H Q _ => ∃ n : Int, vs = [.int n] ∧ Q (.bl true) H
theorem ok_is_whole (T : Txt K mg) : FnOk P w K mg base CX0 1 T.a_is_whole T.d_is_whole ["thing"] (sp_is_whole T) := by
  refine T.f_is_whole.ok sc_is_whole (fun vs H Q E h => ?_) (fun cdv A outer s H vs Q E hr h => ?_)
  · obtain ⟨n, rfl, _⟩ := h
    rfl
  · obtain ⟨n, rfl, h⟩ := h
    refine ⟨_, (pss_one (ps_ret (pe_and (pe_callB (k_isA (K := K) rfl) (by rfl) T.n_isinstance (by decide +kernel) (pa_cons (pv 0) (pa_cons (pe_bltn (v := .ty "int") (by rfl) T.n_int (by decide +kernel) rfl) pa_nil))) (pe_one (pe_not (pe_callB (k_isA (K := K) rfl) (by rfl) T.n_isinstance (by decide +kernel) (pa_cons (pv 0) (pa_cons (pe_bltn (v := .ty "bool") (by rfl) T.n_bool (by decide +kernel) rfl) pa_nil)))))))), ?_⟩
    try dsimp only [cxOf]
    walk_at "run"
    exact h
def sp_is_among (T : Txt K mg) : Sp := fun vs H Q _ => ∃ n a b : Int, vs = [.int n, .int a, .int b] ∧ (a ≤ n ∧ n ≤ b) ∧ Q (.bl true) H
theorem ok_is_among (T : Txt K mg) : FnOk P w K mg base CX0 2 T.a_is_among T.d_is_among ["thing", "least", "most"] (sp_is_among T) := by
  refine T.f_is_among.ok sc_is_among (fun vs H Q E h => ?_) (fun cdv A outer s H vs Q E hr h => ?_)
  · obtain ⟨n, a, b, rfl, _⟩ := h
    rfl
  · obtain ⟨n, a, b, rfl, h⟩ := h
    refine ⟨_, (pss_one (ps_ret (pe_and (pe_call (ok_is_whole T) hr (by rfl) T.g_is_whole T.f_is_whole.kp T.b_is_whole .nil pass0 (pa_cons (pv 0) pa_nil)) (pe_one (pe_chain op_le op_le (pv 1) (pv 0) (pv 2)))))), ?_⟩
    try dsimp only [cxOf]
    obtain ⟨hr, q⟩ := h
    walk_at "run"
    refine ⟨n, rfl, ?_⟩
    walk_at "run"
    rw [decide_eq_true hr.1]
    walk_at "run"
    rw [decide_eq_true hr.2]
    exact q
def sp_is_word (T : Txt K mg) : Sp := fun vs H Q _ => ∃ n : Int, vs = [.int n] ∧ (0 ≤ n ∧ n ≤ 65535) ∧ Q (.bl true) H
theorem ok_is_word (T : Txt K mg) : FnOk P w K mg base CX0 3 T.a_is_word T.d_is_word ["thing"] (sp_is_word T) := by
  refine T.f_is_word.ok sc_is_word (fun vs H Q E h => ?_) (fun cdv A outer s H vs Q E hr h => ?_)
  · obtain ⟨n, rfl, _⟩ := h
    rfl
  · obtain ⟨n, rfl, h⟩ := h
    refine ⟨_, (pss_one (ps_ret (pe_call (ok_is_among T) hr (by rfl) T.g_is_among T.f_is_among.kp T.b_is_among .nil pass0 (pa_cons (pv 0) (pa_cons pe_int (pa_cons (pe_op (k_sub (K := K) rfl) (pe_glob (v := .int 65536) (by rfl) T.g_WORDS.choose_spec ⟨_, rfl⟩) pe_int) pa_nil)))))), ?_⟩
    try dsimp only [cxOf]
    obtain ⟨hr, q⟩ := h
    walk_at "run"
    exact ⟨n, 0, 65535, rfl, hr, q⟩
def sp_need_word (T : Txt K mg) : Sp := fun vs H Q _ => ∃ n : Int, vs = [.int n] ∧ (0 ≤ n ∧ n ≤ 65535) ∧ Q (.int n) H
theorem ok_need_word (T : Txt K mg) : FnOk P w K mg base CX0 4 T.a_need_word T.d_need_word ["thing"] (sp_need_word T) := by
  refine T.f_need_word.ok sc_need_word (fun vs H Q E h => ?_) (fun cdv A outer s H vs Q E hr h => ?_)
  · obtain ⟨n, rfl, _⟩ := h
    rfl
  · obtain ⟨n, rfl, h⟩ := h
    refine ⟨_, (pss_cons (ps_if (pt_not (pt_val (pe_call (ok_is_word T) hr (by rfl) T.g_is_word T.f_is_word.kp T.b_is_word .nil pass0 (pa_cons (pv 0) pa_nil))))
        (pss_one ps_never)
        pss_nil)
       (pss_one (ps_ret (pv 0)))), ?_⟩
    try dsimp only [cxOf]
    obtain ⟨hr, q⟩ := h
    walk_at "run"
    refine ⟨n, rfl, hr, ?_⟩
    walk_at "run"
    exact q
def sp_blocks_for (T : Txt K mg) : Sp := fun vs H Q _ => ∃ n : Nat, vs = [.int (n : Int)] ∧ Q (.int (((n + 7) / 8 : Nat) : Int)) H
theorem ok_blocks_for (T : Txt K mg) : FnOk P w K mg base CX0 1 T.a_blocks_for T.d_blocks_for ["many"] (sp_blocks_for T) := by
  refine T.f_blocks_for.ok sc_blocks_for (fun vs H Q E h => ?_) (fun cdv A outer s H vs Q E hr h => ?_)
  · obtain ⟨n, rfl, _⟩ := h
    rfl
  · obtain ⟨n, rfl, h⟩ := h
    refine ⟨_, (pss_one (ps_ret (pe_op (k_div (K := K) rfl) (pe_op (k_sub (K := K) rfl) (pe_op (k_add (K := K) rfl) (pv 0) (pe_glob (v := .int 8) (by rfl) T.g_BLOCK_files.choose_spec ⟨_, rfl⟩)) pe_int) (pe_glob (v := .int 8) (by rfl) T.g_BLOCK_files.choose_spec ⟨_, rfl⟩)))), ?_⟩
    try dsimp only [cxOf]
    walk_at "run"
    have e : ((n : Int) + 8 - 1) / 8 = (((n + 7) / 8 : Nat) : Int) := by omega
    rw [e]
    exact h
def sp_File_init (T : Txt K mg) : Sp := fun vs H Q _ => ∃ (p : Addr) (t : Option Int) (dx : Addr) (L : List SA), vs = [.ref p, oV t] ∧ Hd (pto p (.ins T.C_File dx []) :: L) H ∧ ∀ k H', Hd (fileA T.C_File (k, (p, ⟨t, 0, [], []⟩)) :: L) H' → Q .non H'
theorem ok_File_init (T : Txt K mg) : FnOk P w K mg base CX0 1 T.a_File_init T.d_File_init ["self", "title"] (sp_File_init T) := by
  refine T.f_File_init.ok sc_File_init (fun vs H Q E h => ?_) (fun cdv A outer s H vs Q E hr h => ?_)
  · obtain ⟨p, t, dx, L, rfl, _⟩ := h
    rfl
  · obtain ⟨p, t, dx, L, rfl, h⟩ := h
    refine ⟨_, (pss_cons (ps_fld (pv 0) (pv 1) rfl)
       (pss_cons (ps_fld (pv 0) pe_int rfl)
       (pss_cons (ps_fld (pv 0) (pe_lst pa_nil) rfl)
       (pss_one (ps_fld (pv 0) (pe_lst pa_nil) rfl))))), ?_⟩
    try dsimp only [cxOf]
    obtain ⟨hs, q⟩ := h
    walk_at "run"
    exact q 0 _ (fi_close (m := ⟨t, 0, [], []⟩) (by dsimp only [List.map]; walk_at "rest"))
def sp_Files_init (T : Txt K mg) : Sp := fun vs H Q _ => ∃ (p : Addr) (n : Nat) (dx : Addr) (L : List SA), vs = [.ref p, .int (n : Int)] ∧ (8 ≤ n ∧ n ≤ 128) ∧ Hd (pto p (.ins T.C_Files dx []) :: L) H ∧ ∀ H', Hd (filesA T.C_File T.C_Files p (FilesM.new n) :: L) H' → Q .non H'
theorem ok_Files_init (T : Txt K mg) : FnOk P w K mg base CX0 3 T.a_Files_init T.d_Files_init ["self", "blocks"] (sp_Files_init T) := by
  refine T.f_Files_init.ok sc_Files_init (fun vs H Q E h => ?_) (fun cdv A outer s H vs Q E hr h => ?_)
  · obtain ⟨p, n, dx, L, rfl, _⟩ := h
    rfl
  · obtain ⟨p, n, dx, L, rfl, h⟩ := h
    refine ⟨_, (pss_cons (ps_if (pt_not (pt_val (pe_call (ok_is_among T) hr (by rfl) T.g_is_among T.f_is_among.kp T.b_is_among .nil pass0 (pa_cons (pv 1) (pa_cons (pe_glob (v := .int 8) (by rfl) T.g_LEAST_BLOCKS.choose_spec ⟨_, rfl⟩) (pa_cons (pe_glob (v := .int 128) (by rfl) T.g_MOST_BLOCKS.choose_spec ⟨_, rfl⟩) pa_nil))))))
        (pss_one ps_never)
        pss_nil)
       (pss_cons (ps_fld (pv 0) (pv 1) rfl)
       (pss_cons (ps_fld (pv 0) (pe_listRange (by rfl) T.n_list (by rfl) T.n_range (pv 1)) rfl)
       (pss_cons (ps_fld (pv 0) pe_dnewK rfl)
       (pss_cons (ps_fld (pv 0) pe_dnewK rfl)
       (pss_one (ps_fld (pv 0) pe_int rfl))))))), ?_⟩
    try dsimp only [cxOf]
    obtain ⟨hn, hs, q⟩ := h
    walk_at "run"
    refine ⟨n, 8, 128, rfl, by omega, ?_⟩
    walk_at "run"
    rw [Int.toNat_natCast] at hs
    have hs := big_nil (F := fileA T.C_File) hs
    exact q _ (fs_close (u := FilesM.new n) (G := []) ⟨List.nodup_nil, rfl⟩ (by dsimp only [FilesM.new, dM, List.map]; walk_at "rest"))
end
section
variable {P : Program} {w : World} {K : PySem.W.Frag} {mg : Str → Option Value} {base : Heap}
def sp_Files_many (T : Txt K mg) : Sp := fun vs H Q _ => ∃ (p : Addr)  (u : FilesM) (L : List SA), vs = [.ref p] ∧ (True) ∧ Hd (filesA T.C_File T.C_Files p u :: L) H ∧ Q (.int u.bag) H
theorem ok_Files_many (T : Txt K mg) : FnOk P w K mg base CX0 1 T.a_Files_many T.d_Files_many ["self"] (sp_Files_many T) := by
  refine T.f_Files_many.ok sc_Files_many (fun vs H Q E h => ?_) (fun cdv A outer s H vs Q E hr h => ?_)
  · obtain ⟨p, u, L, rfl, _⟩ := h
    rfl
  · obtain ⟨p, u, L, rfl, h⟩ := h
    refine ⟨_, (pss_one (ps_ret (k_fld (K := K) rfl (pv 0) rfl))), ?_⟩
    try dsimp only [cxOf]
    obtain ⟨-, hs, q⟩ := h
    obtain ⟨dx, lo, kn, ti, G, eg, hs⟩ := fs_open hs
    walk_at "run"
    exact q
def sp_Files_names (T : Txt K mg) : Sp := fun vs H Q _ => ∃ (p : Addr)  (u : FilesM) (L : List SA), vs = [.ref p] ∧ (u.titled.length ≤ 1000) ∧ Hd (filesA T.C_File T.C_Files p u :: L) H ∧ ∀ a H', Hd (pto a (.lst ((srt (keysM u.titled)).map V.int)) :: filesA T.C_File T.C_Files p u :: L) H' → Q (.ref a) H'
theorem ok_Files_names (T : Txt K mg) : FnOk P w K mg base CX0 1 T.a_Files_names T.d_Files_names ["self"] (sp_Files_names T) := by
  refine T.f_Files_names.ok sc_Files_names (fun vs H Q E h => ?_) (fun cdv A outer s H vs Q E hr h => ?_)
  · obtain ⟨p, u, L, rfl, _⟩ := h
    rfl
  · obtain ⟨p, u, L, rfl, h⟩ := h
    refine ⟨_, (pss_one (ps_ret (pe_callB (Sl.call_sortedDI rfl) (by rfl) T.n_sorted (by decide +kernel) (pa_cons (k_fld (K := K) rfl (pv 0) rfl) pa_nil)))), ?_⟩
    try dsimp only [cxOf]
    obtain ⟨few, hs, q⟩ := h
    obtain ⟨dx, lo, kn, ti, G, eg, hs⟩ := fs_open hs
    walk_at "run"
    exact q _ H (hs.mono fun _ z => fs_close eg z)
def sp_Files_files (T : Txt K mg) : Sp := fun vs H Q _ => ∃ (p : Addr)  (u : FilesM) (L : List SA), vs = [.ref p] ∧ (u.known.length ≤ 1000) ∧ Hd (filesA T.C_File T.C_Files p u :: L) H ∧ ∀ a H', Hd (pto a (.lst ((srt (keysM u.known)).map V.int)) :: filesA T.C_File T.C_Files p u :: L) H' → Q (.ref a) H'
theorem ok_Files_files (T : Txt K mg) : FnOk P w K mg base CX0 1 T.a_Files_files T.d_Files_files ["self"] (sp_Files_files T) := by
  refine T.f_Files_files.ok sc_Files_files (fun vs H Q E h => ?_) (fun cdv A outer s H vs Q E hr h => ?_)
  · obtain ⟨p, u, L, rfl, _⟩ := h
    rfl
  · obtain ⟨p, u, L, rfl, h⟩ := h
    refine ⟨_, (pss_one (ps_ret (pe_callB (Sl.call_sortedDI rfl) (by rfl) T.n_sorted (by decide +kernel) (pa_cons (k_fld (K := K) rfl (pv 0) rfl) pa_nil)))), ?_⟩
    try dsimp only [cxOf]
    obtain ⟨few, hs, q⟩ := h
    obtain ⟨dx, lo, kn, ti, G, eg, hs⟩ := fs_open hs
    have fg : G.length ≤ 1000 := by rw [← mapM_len (f := (·.2)), eg.2]; exact few
    walk_at "run"
    rw [← mapM_keys (f := (·.2)), eg.2] at hs
    exact q _ H (hs.mono fun _ z => fs_close eg z)
def sp_Files_file_of (T : Txt K mg) : Sp := fun vs H Q _ => ∃ (p : Addr) (n k : Int) (u : FilesM) (L : List SA), vs = [.ref p, .int n] ∧ ((0 ≤ n ∧ n ≤ 65535) ∧ getM u.titled n = some k) ∧ Hd (filesA T.C_File T.C_Files p u :: L) H ∧ Q (.int k) H
theorem ok_Files_file_of (T : Txt K mg) : FnOk P w K mg base CX0 4 T.a_Files_file_of T.d_Files_file_of ["self", "name"] (sp_Files_file_of T) := by
  refine T.f_Files_file_of.ok sc_Files_file_of (fun vs H Q E h => ?_) (fun cdv A outer s H vs Q E hr h => ?_)
  · obtain ⟨p, n, k, u, L, rfl, _⟩ := h
    rfl
  · obtain ⟨p, n, k, u, L, rfl, h⟩ := h
    refine ⟨_, (pss_cons (ps_if (PW.pt (pw_or (pt_not (pt_val (pe_call (ok_is_word T) hr (by rfl) T.g_is_word T.f_is_word.kp T.b_is_word .nil pass0 (pa_cons (pv 1) pa_nil)))) (pw_or1 (pt_cmpR (k_notIn (K := K) rfl (hu_of hr)) (pv 1) (k_fld (K := K) rfl (pv 0) rfl) (by rfl)))))
        (pss_one ps_never)
        pss_nil)
       (pss_one (ps_ret (pe_ix (k_ix (K := K) rfl (hu_of hr)) (k_fld (K := K) rfl (pv 0) rfl) (pv 1) (fun _ _ => rfl))))), ?_⟩
    try dsimp only [cxOf]
    obtain ⟨⟨hn, hk⟩, hs, q⟩ := h
    walk_at "run"
    refine ⟨n, rfl, hn, ?_⟩
    obtain ⟨dx, lo, kn, ti, G, eg, hs⟩ := fs_open hs
    have hm : n ∈ keysM u.titled := mem_keysM.mpr (by rw [hk]; rfl)
    walk_at "run"
    rw [in_dM, decide_eq_true hm]
    walk_at "run"
    exact Sl.r_ixDi (hs.get (by walk_at "pull")) (by rw [valV_dM, hk]; rfl) q
def sp_Files_make (T : Txt K mg) : Sp := fun vs H Q _ => ∃ (p : Addr) (n : Int) (u : FilesM) (L : List SA), vs = [.ref p, .int n] ∧ ((0 ≤ n ∧ n ≤ 65535) ∧ n ∉ keysM u.titled ∧ u.titled.length < 24 ∧ u.known.length ≤ 1000 ∧ u.newest ∉ keysM u.known) ∧ Hd (filesA T.C_File T.C_Files p u :: L) H ∧ ∀ H', Hd (filesA T.C_File T.C_Files p (u.make n) :: L) H' → Q (.int u.newest) H'
theorem ok_Files_make (T : Txt K mg) : FnOk P w K mg base CX0 5 T.a_Files_make T.d_Files_make ["self", "name"] (sp_Files_make T) := by
  refine T.f_Files_make.ok sc_Files_make (fun vs H Q E h => ?_) (fun cdv A outer s H vs Q E hr h => ?_)
  · obtain ⟨p, n, u, L, rfl, _⟩ := h
    rfl
  · obtain ⟨p, n, u, L, rfl, h⟩ := h
    refine ⟨_, (pss_cons (ps_expr (pe_call (ok_need_word T) hr (by rfl) T.g_need_word T.f_need_word.kp T.b_need_word .nil pass0 (pa_cons (pv 1) pa_nil)))
       (pss_cons (ps_if (PW.pt (pw_or (pt_cmpR (k_in (K := K) rfl (hu_of hr)) (pv 1) (k_fld (K := K) rfl (pv 0) rfl) (by rfl)) (pw_or1 (pt_cmpR (k_eq (K := K) rfl hr.units) (pe_callB (k_len (K := K) rfl) (by rfl) T.n_len (by decide +kernel) (pa_cons (k_fld (K := K) rfl (pv 0) rfl) pa_nil)) (pe_glob (v := .int 24) (by rfl) T.g_MOST_NAMES.choose_spec ⟨_, rfl⟩) (nomark _)))))
        (pss_one ps_never)
        pss_nil)
       (pss_cons (ps_set (i := 2) sc_Files_make.nd rfl (by first | exact Or.inl rfl | exact Or.inr rfl) (k_fld (K := K) rfl (pv 0) rfl))
       (pss_cons (ps_fldaug (pv 0) pe_int in_add)
       (pss_cons (ps_asg (pe_make T.mk_File (ok_File_init T) (hr.mono (by decide)) (by rfl) T.g_File T.b_File_init .nil pass0 (pa_cons (pv 1) pa_nil)) (pg_sub (k_fld (K := K) rfl (pv 0) rfl) (pv 2) (u_set (hu_of hr))))
       (pss_cons (ps_asg (pv 2) (pg_sub (k_fld (K := K) rfl (pv 0) rfl) (pv 1) (u_set (hu_of hr))))
       (pss_one (ps_ret (pv 2))))))))), ?_⟩
    try dsimp only [cxOf]
    obtain ⟨⟨hn, hm, few, fk, nw⟩, hs, q⟩ := h
    walk_at "run"
    refine ⟨n, rfl, hn, ?_⟩
    obtain ⟨dx, lo, kn, ti, G, eg, hs⟩ := fs_open hs
    have fg : G.length ≤ 1000 := by rw [← mapM_len (f := (·.2)), eg.2]; exact fk
    have nG : u.newest ∉ keysM G := by rw [← mapM_keys (f := (·.2)), eg.2]; exact nw
    walk_at "run"
    rw [in_dM, decide_eq_false hm]
    walk_at "run"
    rw [len_dM, decide_eq_false (by omega)]
    walk_at "run"
    obtain ⟨f, rfl⟩ : ∃ f, f = q_ := ⟨_, rfl⟩
    refine ⟨f, some n, _, _, rfl, Hd.mt (by walk_at "mt") hs, fun k H hs => ⟨rfl, ?_⟩⟩
    have hs : Hd (fileA T.C_File (u.newest, (f, (⟨some n, 0, [], []⟩ : FileM))) :: _) H := hs
    walk_at "run"
    refine Sl.r_setDi hs (by walk_at "put") (putK_dM (f := refA) (l := (f, (⟨some n, 0, [], []⟩ : FileM))) ..) (Nat.lt_of_le_of_lt (show _ ≤ 1000 by rw [len_dM]; omega) (Nat.le_of_ble_eq_true rfl)) fun H hs => ?_
    walk_at "run"
    refine Sl.r_setDi hs (by walk_at "put") (putK_dM ..) (Nat.lt_of_le_of_lt (show _ ≤ 1000 by rw [len_dM]; omega) (Nat.le_of_ble_eq_true rfl)) fun H hs => ?_
    walk_at "run"
    have hs := big_new (F := fileA T.C_File) (k := u.newest) (x := (f, (⟨some n, 0, [], []⟩ : FileM))) eg.1 nG (Hd.mt (by walk_at "mt") hs : Hd (fileA T.C_File (u.newest, (f, (⟨some n, 0, [], []⟩ : FileM))) :: big (fileA T.C_File) G :: _) H)
    exact q _ (fs_close (u := u.make n) (G := putM G u.newest (f, ⟨some n, 0, [], []⟩)) ⟨nd_put eg.1, by rw [mapM_put, eg.2]; rfl⟩ (by dsimp only [FilesM.make]; walk_at "rest"))
end
section
variable {P : Program} {w : World} {K : PySem.W.Frag} {mg : Str → Option Value} {base : Heap}

theorem fs_open1 {CF C p : Addr} {u : FilesM} {k : Int} {m : FileM} {L : List SA} {H : Hp} (h : Hd (filesA CF C p u :: L) H) (hk : getM u.known k = some m) : ∃ (dx lo kn ti : Addr) (G : List (Int × (Addr × FileM))) (a fx ca la : Addr), (((keysM G).Nodup ∧ mapM (·.2) G = u.known) ∧ getM G k = some (a, m)) ∧
    Hd (pto p (.ins C dx (fs_Files (.int u.bag) (.ref lo) (.ref kn) (.ref ti) (.int u.newest))) :: pto lo (.lst (u.loose.map V.int)) :: pto kn (.dK (dM refA G)) :: pto ti (.dK (dM V.int u.titled)) :: pto a (.ins CF fx (fs_File (oV m.title) (.int m.holders) (.ref ca) (.ref la))) :: pto ca (.lst (m.content.map V.int)) :: pto la (.lst (m.loans.map V.int)) :: big (fileA CF) (dropM G k) :: L) H := by
  obtain ⟨dx, lo, kn, ti, G, eg, hs⟩ := fs_open h
  have g := hk
  rw [← eg.2] at g
  obtain ⟨⟨a, m2⟩, hg, em⟩ := mapM_some g
  dsimp only at em
  subst em
  have hs := big_get eg.1 hg (Hd.mt (by walk_at "mt") hs : Hd (big (fileA CF) G :: _) H)
  obtain ⟨fx, ca, la, hs⟩ := fi_open hs
  exact ⟨dx, lo, kn, ti, G, a, fx, ca, la, ⟨eg, hg⟩, Hd.mt (by walk_at "mt") hs⟩
theorem dM_put_ref {G : List (Int × (Addr × FileM))} {k : Int} {a : Addr} {m m2 : FileM} (nd : (keysM G).Nodup) (hg : getM G k = some (a, m)) : dM refA (putM G k (a, m2)) = dM refA G := by
  rw [← putK_dM (f := refA)]
  show putK (dM refA G) (.inl k) (refA (a, m)) = _
  rw [putK_dM, put_same nd hg]
theorem fs_close1 {CF C p dx lo kn ti a fx ca la : Addr} {G : List (Int × (Addr × FileM))} {u : FilesM} {k : Int} {m m2 : FileM} {L : List SA} {H : Hp} (e : ((keysM G).Nodup ∧ mapM (·.2) G = u.known) ∧ getM G k = some (a, m))
    (h : Hd (pto p (.ins C dx (fs_Files (.int u.bag) (.ref lo) (.ref kn) (.ref ti) (.int u.newest))) :: pto lo (.lst (u.loose.map V.int)) :: pto kn (.dK (dM refA G)) :: pto ti (.dK (dM V.int u.titled)) :: pto a (.ins CF fx (fs_File (oV m2.title) (.int m2.holders) (.ref ca) (.ref la))) :: pto ca (.lst (m2.content.map V.int)) :: pto la (.lst (m2.loans.map V.int)) :: big (fileA CF) (dropM G k) :: L) H) : Hd (filesA CF C p (u.withM k m2) :: L) H := by
  have hs := fi_close (k := k) (m := m2) (Hd.mt (by walk_at "mt") h : Hd (pto a (.ins CF fx (fs_File (oV m2.title) (.int m2.holders) (.ref ca) (.ref la))) :: pto ca (.lst (m2.content.map V.int)) :: pto la (.lst (m2.loans.map V.int)) :: big (fileA CF) (dropM G k) :: _) H)
  have hs := big_put e.1.1 hs
  have hs := (Hd.mt (by walk_at "mt") hs : Hd (pto kn (.dK (dM refA G)) :: _) H)
  rw [← dM_put_ref (m2 := m2) e.1.1 e.2] at hs
  exact fs_close (u := u.withM k m2) (G := putM G k (a, m2)) ⟨nd_put e.1.1, by rw [mapM_put, e.1.2]; rfl⟩ (by dsimp only [FilesM.withM]; walk_at "rest")
theorem with_same {u : FilesM} {k : Int} {m : FileM} (nd : (keysM u.known).Nodup) (h : getM u.known k = some m) : u.withM k m = u := by
  unfold FilesM.withM
  rw [put_same nd h]
theorem fs_same {CF C p dx lo kn ti a fx ca la : Addr} {G : List (Int × (Addr × FileM))} {u : FilesM} {k : Int} {m : FileM} {L : List SA} {H : Hp} (e : ((keysM G).Nodup ∧ mapM (·.2) G = u.known) ∧ getM G k = some (a, m))
    (h : Hd (pto p (.ins C dx (fs_Files (.int u.bag) (.ref lo) (.ref kn) (.ref ti) (.int u.newest))) :: pto lo (.lst (u.loose.map V.int)) :: pto kn (.dK (dM refA G)) :: pto ti (.dK (dM V.int u.titled)) :: pto a (.ins CF fx (fs_File (oV m.title) (.int m.holders) (.ref ca) (.ref la))) :: pto ca (.lst (m.content.map V.int)) :: pto la (.lst (m.loans.map V.int)) :: big (fileA CF) (dropM G k) :: L) H) : Hd (filesA CF C p u :: L) H := by
  have hs := fs_close1 e h
  rwa [with_same (by rw [← e.1.2, mapM_keys]; exact e.1.1) (by rw [← e.1.2, mapM_get, e.2]; rfl)] at hs

def sp_Files_found (T : Txt K mg) : Sp := fun vs H Q _ => ∃ (p dx kn a : Addr) (x0 x1 x3 x4 : V) (k : Int) (G : List (Int × (Addr × FileM))) (m : FileM) (L : List SA), vs = [.ref p, .int k] ∧ getM G k = some (a, m) ∧ Hd (pto p (.ins T.C_Files dx (fs_Files x0 x1 (.ref kn) x3 x4)) :: pto kn (.dK (dM refA G)) :: L) H ∧ Q (.ref a) H
theorem ok_Files_found (T : Txt K mg) : FnOk P w K mg base CX0 2 T.a_Files_found T.d_Files_found ["self", "file"] (sp_Files_found T) := by
  refine T.f_Files_found.ok sc_Files_found (fun vs H Q E h => ?_) (fun cdv A outer s H vs Q E hr h => ?_)
  · obtain ⟨p, dx, kn, a, x0, x1, x3, x4, k, G, m, L, rfl, _⟩ := h
    rfl
  · obtain ⟨p, dx, kn, a, x0, x1, x3, x4, k, G, m, L, rfl, h⟩ := h
    refine ⟨_, (pss_cons (ps_if (PW.pt (pw_or (pt_not (pt_val (pe_call (ok_is_whole T) hr (by rfl) T.g_is_whole T.f_is_whole.kp T.b_is_whole .nil pass0 (pa_cons (pv 1) pa_nil)))) (pw_or1 (pt_cmpR (k_notIn (K := K) rfl (hu_of hr)) (pv 1) (k_fld (K := K) rfl (pv 0) rfl) (by rfl)))))
        (pss_one ps_never)
        pss_nil)
       (pss_one (ps_ret (pe_ix (k_ix (K := K) rfl (hu_of hr)) (k_fld (K := K) rfl (pv 0) rfl) (pv 1) (fun _ _ => rfl))))), ?_⟩
    try dsimp only [cxOf]
    obtain ⟨hg, hs, q⟩ := h
    have hm : k ∈ keysM G := mem_keysM.mpr (by rw [hg]; rfl)
    walk_at "run"
    refine ⟨k, rfl, ?_⟩
    walk_at "run"
    rw [in_dM, decide_eq_true hm]
    walk_at "run"
    exact Sl.r_ixDi (hs.get (by walk_at "pull")) (by rw [valV_dM, hg]; rfl) q
def sp_Files_name (T : Txt K mg) : Sp := fun vs H Q _ => ∃ (p : Addr) (k : Int) (m : FileM) (u : FilesM) (L : List SA), vs = [.ref p, .int k] ∧ (getM u.known k = some m) ∧ Hd (filesA T.C_File T.C_Files p u :: L) H ∧ Q (oV m.title) H
theorem ok_Files_name (T : Txt K mg) : FnOk P w K mg base CX0 3 T.a_Files_name T.d_Files_name ["self", "file"] (sp_Files_name T) := by
  refine T.f_Files_name.ok sc_Files_name (fun vs H Q E h => ?_) (fun cdv A outer s H vs Q E hr h => ?_)
  · obtain ⟨p, k, m, u, L, rfl, _⟩ := h
    rfl
  · obtain ⟨p, k, m, u, L, rfl, h⟩ := h
    refine ⟨_, (pss_one (ps_ret (k_fld (K := K) rfl (pe_meth (pv 0) T.cl_Files T.m_Files_found (ok_Files_found T) hr T.b_Files_found .nil pass0 (pa_cons (pv 1) pa_nil)) rfl))), ?_⟩
    try dsimp only [cxOf]
    obtain ⟨hk, hs, q⟩ := h
    obtain ⟨dx, lo, kn, ti, G, a, fx, ca, la, eg, hs⟩ := fs_open1 hs hk
    walk_at "run"
    refine ⟨p, dx, kn, a, _, _, _, _, k, G, m, _, rfl, eg.2, Hd.mt (by walk_at "mt") hs, ?_⟩
    walk_at "run"
    exact q
def sp_Files_held (T : Txt K mg) : Sp := fun vs H Q _ => ∃ (p : Addr) (k : Int) (m : FileM) (u : FilesM) (L : List SA), vs = [.ref p, .int k] ∧ (getM u.known k = some m) ∧ Hd (filesA T.C_File T.C_Files p u :: L) H ∧ Q (.int m.holders) H
theorem ok_Files_held (T : Txt K mg) : FnOk P w K mg base CX0 3 T.a_Files_held T.d_Files_held ["self", "file"] (sp_Files_held T) := by
  refine T.f_Files_held.ok sc_Files_held (fun vs H Q E h => ?_) (fun cdv A outer s H vs Q E hr h => ?_)
  · obtain ⟨p, k, m, u, L, rfl, _⟩ := h
    rfl
  · obtain ⟨p, k, m, u, L, rfl, h⟩ := h
    refine ⟨_, (pss_one (ps_ret (k_fld (K := K) rfl (pe_meth (pv 0) T.cl_Files T.m_Files_found (ok_Files_found T) hr T.b_Files_found .nil pass0 (pa_cons (pv 1) pa_nil)) rfl))), ?_⟩
    try dsimp only [cxOf]
    obtain ⟨hk, hs, q⟩ := h
    obtain ⟨dx, lo, kn, ti, G, a, fx, ca, la, eg, hs⟩ := fs_open1 hs hk
    walk_at "run"
    refine ⟨p, dx, kn, a, _, _, _, _, k, G, m, _, rfl, eg.2, Hd.mt (by walk_at "mt") hs, ?_⟩
    walk_at "run"
    exact q
def sp_Files_length (T : Txt K mg) : Sp := fun vs H Q _ => ∃ (p : Addr) (k : Int) (m : FileM) (u : FilesM) (L : List SA), vs = [.ref p, .int k] ∧ (getM u.known k = some m) ∧ Hd (filesA T.C_File T.C_Files p u :: L) H ∧ Q (.int (m.content.length : Nat)) H
theorem ok_Files_length (T : Txt K mg) : FnOk P w K mg base CX0 3 T.a_Files_length T.d_Files_length ["self", "file"] (sp_Files_length T) := by
  refine T.f_Files_length.ok sc_Files_length (fun vs H Q E h => ?_) (fun cdv A outer s H vs Q E hr h => ?_)
  · obtain ⟨p, k, m, u, L, rfl, _⟩ := h
    rfl
  · obtain ⟨p, k, m, u, L, rfl, h⟩ := h
    refine ⟨_, (pss_one (ps_ret (pe_callB (k_len (K := K) rfl) (by rfl) T.n_len (by decide +kernel) (pa_cons (k_fld (K := K) rfl (pe_meth (pv 0) T.cl_Files T.m_Files_found (ok_Files_found T) hr T.b_Files_found .nil pass0 (pa_cons (pv 1) pa_nil)) rfl) pa_nil)))), ?_⟩
    try dsimp only [cxOf]
    obtain ⟨hk, hs, q⟩ := h
    obtain ⟨dx, lo, kn, ti, G, a, fx, ca, la, eg, hs⟩ := fs_open1 hs hk
    walk_at "run"
    refine ⟨p, dx, kn, a, _, _, _, _, k, G, m, _, rfl, eg.2, Hd.mt (by walk_at "mt") hs, ?_⟩
    walk_at "run"
    rw [List.length_map]
    exact q
def sp_Files_hold (T : Txt K mg) : Sp := fun vs H Q _ => ∃ (p : Addr) (k : Int) (m : FileM) (u : FilesM) (L : List SA), vs = [.ref p, .int k] ∧ (getM u.known k = some m) ∧ Hd (filesA T.C_File T.C_Files p u :: L) H ∧ ∀ H', Hd (filesA T.C_File T.C_Files p (u.hold k m) :: L) H' → Q .non H'
theorem ok_Files_hold (T : Txt K mg) : FnOk P w K mg base CX0 3 T.a_Files_hold T.d_Files_hold ["self", "file"] (sp_Files_hold T) := by
  refine T.f_Files_hold.ok sc_Files_hold (fun vs H Q E h => ?_) (fun cdv A outer s H vs Q E hr h => ?_)
  · obtain ⟨p, k, m, u, L, rfl, _⟩ := h
    rfl
  · obtain ⟨p, k, m, u, L, rfl, h⟩ := h
    refine ⟨_, (pss_cons (ps_set (i := 2) sc_Files_hold.nd rfl (by first | exact Or.inl rfl | exact Or.inr rfl) (pe_meth (pv 0) T.cl_Files T.m_Files_found (ok_Files_found T) hr T.b_Files_found .nil pass0 (pa_cons (pv 1) pa_nil)))
       (pss_one (ps_fldaug (pv 2) pe_int in_add))), ?_⟩
    try dsimp only [cxOf]
    obtain ⟨hk, hs, q⟩ := h
    obtain ⟨dx, lo, kn, ti, G, a, fx, ca, la, eg, hs⟩ := fs_open1 hs hk
    walk_at "run"
    refine ⟨p, dx, kn, a, _, _, _, _, k, G, m, _, rfl, eg.2, Hd.mt (by walk_at "mt") hs, ?_⟩
    walk_at "run"
    exact q _ (fs_close1 (m2 := { m with holders := m.holders + 1 }) eg (by dsimp only; walk_at "rest"))
def sp_Files_read (T : Txt K mg) : Sp := fun vs H Q _ => ∃ (p : Addr) (k : Int) (i c : Nat) (m : FileM) (u : FilesM) (L : List SA), vs = [.ref p, .int k, .int (i : Int), .int (c : Int)] ∧ (getM u.known k = some m) ∧ Hd (filesA T.C_File T.C_Files p u :: L) H ∧ ∀ a H', Hd (pto a (.lst (((m.content.drop i).take c).map V.int)) :: filesA T.C_File T.C_Files p u :: L) H' → Q (.ref a) H'
theorem ok_Files_read (T : Txt K mg) : FnOk P w K mg base CX0 3 T.a_Files_read T.d_Files_read ["self", "file", "place", "count"] (sp_Files_read T) := by
  refine T.f_Files_read.ok sc_Files_read (fun vs H Q E h => ?_) (fun cdv A outer s H vs Q E hr h => ?_)
  · obtain ⟨p, k, i, c, m, u, L, rfl, _⟩ := h
    rfl
  · obtain ⟨p, k, i, c, m, u, L, rfl, h⟩ := h
    refine ⟨_, (pss_one (ps_ret (pe_slice (k_slL (K := K) rfl) (k_fld (K := K) rfl (pe_meth (pv 0) T.cl_Files T.m_Files_found (ok_Files_found T) hr T.b_Files_found .nil pass0 (pa_cons (pv 1) pa_nil)) rfl) (po_some (pv 2)) (po_some (pe_op (k_add (K := K) rfl) (pv 2) (pv 3)))))), ?_⟩
    try dsimp only [cxOf]
    obtain ⟨hk, hs, q⟩ := h
    obtain ⟨dx, lo, kn, ti, G, a, fx, ca, la, eg, hs⟩ := fs_open1 hs hk
    walk_at "run"
    refine ⟨p, dx, kn, a, _, _, _, _, k, G, m, _, rfl, eg.2, Hd.mt (by walk_at "mt") hs, ?_⟩
    walk_at "run"
    rw [show (i : Int) + (c : Int) = ((i + c : Nat) : Int) by omega, cut_both, show i + c - i = c by omega] at hs
    exact q _ _ (Hd.mt (by walk_at "mt") (fs_same eg (Hd.mt (by walk_at "mt") hs : Hd (_ :: _ :: _ :: _ :: _ :: _ :: _ :: _ :: pto q_ (.lst (((m.content.drop i).take c).map V.int)) :: L) _)))
def sp_Files_blocks (T : Txt K mg) : Sp := fun vs H Q _ => ∃ (p : Addr) (k : Int) (m : FileM) (u : FilesM) (L : List SA), vs = [.ref p, .int k] ∧ (getM u.known k = some m) ∧ Hd (filesA T.C_File T.C_Files p u :: L) H ∧ ∀ a H', Hd (pto a (.lst (m.loans.map V.int)) :: filesA T.C_File T.C_Files p u :: L) H' → Q (.ref a) H'
theorem ok_Files_blocks (T : Txt K mg) : FnOk P w K mg base CX0 3 T.a_Files_blocks T.d_Files_blocks ["self", "file"] (sp_Files_blocks T) := by
  refine T.f_Files_blocks.ok sc_Files_blocks (fun vs H Q E h => ?_) (fun cdv A outer s H vs Q E hr h => ?_)
  · obtain ⟨p, k, m, u, L, rfl, _⟩ := h
    rfl
  · obtain ⟨p, k, m, u, L, rfl, h⟩ := h
    refine ⟨_, (pss_one (ps_ret (pe_callTy (k_list (K := K) rfl) (by rfl) T.n_list (by decide +kernel) (pa_cons (k_fld (K := K) rfl (pe_meth (pv 0) T.cl_Files T.m_Files_found (ok_Files_found T) hr T.b_Files_found .nil pass0 (pa_cons (pv 1) pa_nil)) rfl) pa_nil)))), ?_⟩
    try dsimp only [cxOf]
    obtain ⟨hk, hs, q⟩ := h
    obtain ⟨dx, lo, kn, ti, G, a, fx, ca, la, eg, hs⟩ := fs_open1 hs hk
    walk_at "run"
    refine ⟨p, dx, kn, a, _, _, _, _, k, G, m, _, rfl, eg.2, Hd.mt (by walk_at "mt") hs, ?_⟩
    walk_at "run"
    exact q _ _ (Hd.mt (by walk_at "mt") (fs_same eg (Hd.mt (by walk_at "mt") hs : Hd (_ :: _ :: _ :: _ :: _ :: _ :: _ :: _ :: pto q_ (.lst (m.loans.map V.int)) :: L) _)))
def sp_Files_free (T : Txt K mg) : Sp := fun vs H Q _ => ∃ (p : Addr)  (u : FilesM) (L : List SA), vs = [.ref p] ∧ (True) ∧ Hd (filesA T.C_File T.C_Files p u :: L) H ∧ ∀ a H', Hd (pto a (.lst (u.loose.map V.int)) :: filesA T.C_File T.C_Files p u :: L) H' → Q (.ref a) H'
theorem ok_Files_free (T : Txt K mg) : FnOk P w K mg base CX0 1 T.a_Files_free T.d_Files_free ["self"] (sp_Files_free T) := by
  refine T.f_Files_free.ok sc_Files_free (fun vs H Q E h => ?_) (fun cdv A outer s H vs Q E hr h => ?_)
  · obtain ⟨p, u, L, rfl, _⟩ := h
    rfl
  · obtain ⟨p, u, L, rfl, h⟩ := h
    refine ⟨_, (pss_one (ps_ret (pe_callTy (k_list (K := K) rfl) (by rfl) T.n_list (by decide +kernel) (pa_cons (k_fld (K := K) rfl (pv 0) rfl) pa_nil)))), ?_⟩
    try dsimp only [cxOf]
    obtain ⟨-, hs, q⟩ := h
    obtain ⟨dx, lo, kn, ti, G, eg, hs⟩ := fs_open hs
    walk_at "run"
    exact q _ H (hs.mono fun _ z => fs_close eg z)
def sp_Files_give_back (T : Txt K mg) : Sp := fun vs H Q _ => ∃ (p a dx lo fx la : Addr) (x0 x2 x3 x4 t hh c : V) (lx ly : List Int) (L : List SA), vs = [.ref p, .ref a] ∧ (lx.length ≤ 2000 ∧ ly.length ≤ 2000) ∧ Hd (pto p (.ins T.C_Files dx (fs_Files x0 (.ref lo) x2 x3 x4)) :: pto lo (.lst (lx.map V.int)) :: pto a (.ins T.C_File fx (fs_File t hh c (.ref la))) :: pto la (.lst (ly.map V.int)) :: L) H ∧ ∀ lo2 la2 H', Hd (pto p (.ins T.C_Files dx (fs_Files x0 (.ref lo2) x2 x3 x4)) :: pto lo2 (.lst ((srt (lx ++ ly)).map V.int)) :: pto a (.ins T.C_File fx (fs_File t hh c (.ref la2))) :: pto la2 (.lst []) :: L) H' → Q .non H'
theorem ok_Files_give_back (T : Txt K mg) : FnOk P w K mg base CX0 1 T.a_Files_give_back T.d_Files_give_back ["self", "one"] (sp_Files_give_back T) := by
  refine T.f_Files_give_back.ok sc_Files_give_back (fun vs H Q E h => ?_) (fun cdv A outer s H vs Q E hr h => ?_)
  · obtain ⟨p, a, dx, lo, fx, la, x0, x2, x3, x4, t, hh, c, lx, ly, L, rfl, _⟩ := h
    rfl
  · obtain ⟨p, a, dx, lo, fx, la, x0, x2, x3, x4, t, hh, c, lx, ly, L, rfl, h⟩ := h
    refine ⟨_, (pss_cons (ps_fld (pv 0) (pe_callB (k_sorted (K := K) rfl) (by rfl) T.n_sorted (by decide +kernel) (pa_cons (pe_op (k_add (K := K) rfl) (k_fld (K := K) rfl (pv 0) rfl) (k_fld (K := K) rfl (pv 1) rfl)) pa_nil)) rfl)
       (pss_one (ps_fld (pv 1) (pe_lst pa_nil) rfl))), ?_⟩
    try dsimp only [cxOf]
    obtain ⟨⟨f1, f2⟩, hs, q⟩ := h
    walk_at "run"
    rw [← List.map_append] at hs
    walk_at "run"
    exact q _ _ _ (Hd.mt (by walk_at "mt") hs)
def sp_Files_go_idle (T : Txt K mg) : Sp := fun vs H Q _ => ∃ (p : Addr) (k : Int) (m : FileM) (u : FilesM) (L : List SA), vs = [.ref p, .int k] ∧ (getM u.known k = some m ∧ u.loose.length ≤ 2000 ∧ m.loans.length ≤ 2000) ∧ Hd (filesA T.C_File T.C_Files p u :: L) H ∧ ∀ H', Hd (filesA T.C_File T.C_Files p (u.idle k m) :: L) H' → Q .non H'
theorem ok_Files_go_idle (T : Txt K mg) : FnOk P w K mg base CX0 2 T.a_Files_go_idle T.d_Files_go_idle ["self", "number"] (sp_Files_go_idle T) := by
  refine T.f_Files_go_idle.ok sc_Files_go_idle (fun vs H Q E h => ?_) (fun cdv A outer s H vs Q E hr h => ?_)
  · obtain ⟨p, k, m, u, L, rfl, _⟩ := h
    rfl
  · obtain ⟨p, k, m, u, L, rfl, h⟩ := h
    refine ⟨_, (pss_cons (ps_set (i := 2) sc_Files_go_idle.nd rfl (by first | exact Or.inl rfl | exact Or.inr rfl) (pe_ix (k_ix (K := K) rfl (hu_of hr)) (k_fld (K := K) rfl (pv 0) rfl) (pv 1) (fun _ _ => rfl)))
       (pss_one (ps_if (PW.pt (pw_and (pt_cmpR u_isN (k_fld (K := K) rfl (pv 2) rfl) pe_non (nomark _)) (pw_and1 (pt_cmpR (k_eq (K := K) rfl hr.units) (k_fld (K := K) rfl (pv 2) rfl) pe_int (nomark _)))))
        (pss_cons (ps_expr (pe_meth (pv 0) T.cl_Files T.m_Files_give_back (ok_Files_give_back T) hr T.b_Files_give_back .nil pass0 (pa_cons (pv 2) pa_nil)))
       (pss_one (ps_expr (pe_dpop1 (k_fld (K := K) rfl (pv 0) rfl) (pv 1) ⟨by rfl, by rfl, by rfl, by rfl⟩))))
        pss_nil))), ?_⟩
    try dsimp only [cxOf]
    obtain ⟨⟨hk, f1, f2⟩, hs, q⟩ := h
    obtain ⟨dx, lo, kn, ti, G, a, fx, ca, la, eg, hs⟩ := fs_open1 hs hk
    walk_at "run"
    refine Sl.r_ixDi (hs.get (by walk_at "pull")) (by rw [valV_dM, eg.2]; rfl) ?_
    dsimp only [refA]
    walk_at "run"
    have et : ∀ t : Option Int, decide (oV t = V.non) = decide (t = none) := fun t => by cases t <;> simp [oV]
    rw [et]
    unfold FilesM.idle at q
    refine Sl.r_iteD (fun h1 => ?_) (fun h1 => ?_)
    · walk_at "run"
      refine Sl.r_iteD (fun h2 => ?_) (fun h2 => ?_)
      · rw [if_pos ⟨h1, h2⟩] at q
        walk_at "run"
        refine ⟨p, a, dx, lo, fx, la, _, _, _, _, _, _, _, u.loose, m.loans, _, rfl, ⟨f1, f2⟩, Hd.mt (by walk_at "mt") hs, fun lo2 la2 H hs => ?_⟩
        walk_at "run"
        refine Sl.r_dpopK hs (by walk_at "put") (by rw [valV_dM, eg.2]; rfl) fun H hs => ?_
        rw [dropK_dM] at hs
        walk_at "run"
        exact q _ (fs_close (u := { u with loose := srt (u.loose ++ m.loans), known := dropM u.known k }) (G := dropM G k) ⟨nd_drop eg.1.1, by rw [mapM_drop, eg.1.2]⟩ (by dsimp only; walk_at "rest"))
      · rw [if_neg fun z => h2 z.2] at q
        walk_at "run"
        exact q _ (fs_same eg (Hd.mt (by walk_at "mt") hs))
    · rw [if_neg fun z => h1 z.1] at q
      walk_at "run"
      exact q _ (fs_same eg (Hd.mt (by walk_at "mt") hs))
end
section
variable {P : Program} {w : World} {K : PySem.W.Frag} {mg : Str → Option Value} {base : Heap}
def sp_Files_remove (T : Txt K mg) : Sp := fun vs H Q _ => ∃ (p : Addr) (n k : Int) (m : FileM) (u : FilesM) (L : List SA), vs = [.ref p, .int n] ∧ ((0 ≤ n ∧ n ≤ 65535) ∧ getM u.titled n = some k ∧ getM u.known k = some m ∧ u.loose.length ≤ 2000 ∧ m.loans.length ≤ 2000) ∧ Hd (filesA T.C_File T.C_Files p u :: L) H ∧ ∀ H', Hd (filesA T.C_File T.C_Files p (u.remove n k m) :: L) H' → Q .non H'
theorem ok_Files_remove (T : Txt K mg) : FnOk P w K mg base CX0 5 T.a_Files_remove T.d_Files_remove ["self", "name"] (sp_Files_remove T) := by
  refine T.f_Files_remove.ok sc_Files_remove (fun vs H Q E h => ?_) (fun cdv A outer s H vs Q E hr h => ?_)
  · obtain ⟨p, n, k, m, u, L, rfl, _⟩ := h
    rfl
  · obtain ⟨p, n, k, m, u, L, rfl, h⟩ := h
    refine ⟨_, (pss_cons (ps_set (i := 2) sc_Files_remove.nd rfl (by first | exact Or.inl rfl | exact Or.inr rfl) (pe_meth (pv 0) T.cl_Files T.m_Files_file_of (ok_Files_file_of T) hr T.b_Files_file_of .nil pass0 (pa_cons (pv 1) pa_nil)))
       (pss_cons (ps_expr (pe_dpop1 (k_fld (K := K) rfl (pv 0) rfl) (pv 1) ⟨by rfl, by rfl, by rfl, by rfl⟩))
       (pss_cons (ps_fld (pe_ix (k_ix (K := K) rfl (hu_of hr)) (k_fld (K := K) rfl (pv 0) rfl) (pv 2) (fun _ _ => rfl)) pe_non rfl)
       (pss_one (ps_expr (pe_meth (pv 0) T.cl_Files T.m_Files_go_idle (ok_Files_go_idle T) (hr.mono (by decide)) T.b_Files_go_idle .nil pass0 (pa_cons (pv 2) pa_nil))))))), ?_⟩
    try dsimp only [cxOf]
    obtain ⟨⟨hn, hnk, hk, f1, f2⟩, hs, q⟩ := h
    walk_at "run"
    refine ⟨p, n, k, u, _, rfl, ⟨hn, hnk⟩, Hd.mt (by walk_at "mt") hs, ?_⟩
    obtain ⟨dx, lo, kn, ti, G, a, fx, ca, la, eg, hs⟩ := fs_open1 hs hk
    walk_at "run"
    refine Sl.r_dpopK hs (by walk_at "put") (by rw [valV_dM, hnk]; rfl) fun H hs => ?_
    rw [dropK_dM] at hs
    walk_at "run"
    refine Sl.r_ixDi (hs.get (by walk_at "pull")) (by rw [valV_dM, eg.2]; rfl) ?_
    dsimp only [refA]
    walk_at "run"
    have hs := fs_close1 (u := { u with titled := dropM u.titled n }) (m2 := { m with title := none }) eg (by dsimp only [oV]; walk_at "rest")
    refine ⟨p, k, { m with title := none }, { u with titled := dropM u.titled n }.withM k { m with title := none }, L, rfl, ⟨by show getM (putM u.known k _) k = _; rw [getM_put, if_pos rfl], f1, f2⟩, hs, fun H hs => ?_⟩
    walk_at "run"
    exact q _ hs
def sp_Files_cut (T : Txt K mg) : Sp := fun vs H Q _ => ∃ (p : Addr) (k : Int) (m : FileM) (u : FilesM) (L : List SA), vs = [.ref p, .int k] ∧ (getM u.known k = some m ∧ u.loose.length ≤ 2000 ∧ m.loans.length ≤ 2000) ∧ Hd (filesA T.C_File T.C_Files p u :: L) H ∧ ∀ H', Hd (filesA T.C_File T.C_Files p (u.cut k m) :: L) H' → Q .non H'
theorem ok_Files_cut (T : Txt K mg) : FnOk P w K mg base CX0 3 T.a_Files_cut T.d_Files_cut ["self", "file"] (sp_Files_cut T) := by
  refine T.f_Files_cut.ok sc_Files_cut (fun vs H Q E h => ?_) (fun cdv A outer s H vs Q E hr h => ?_)
  · obtain ⟨p, k, m, u, L, rfl, _⟩ := h
    rfl
  · obtain ⟨p, k, m, u, L, rfl, h⟩ := h
    refine ⟨_, (pss_cons (ps_set (i := 2) sc_Files_cut.nd rfl (by first | exact Or.inl rfl | exact Or.inr rfl) (pe_meth (pv 0) T.cl_Files T.m_Files_found (ok_Files_found T) hr T.b_Files_found .nil pass0 (pa_cons (pv 1) pa_nil)))
       (pss_cons (ps_fld (pv 2) (pe_lst pa_nil) rfl)
       (pss_one (ps_expr (pe_meth (pv 0) T.cl_Files T.m_Files_give_back (ok_Files_give_back T) (hr.mono (by decide)) T.b_Files_give_back .nil pass0 (pa_cons (pv 2) pa_nil)))))), ?_⟩
    try dsimp only [cxOf]
    obtain ⟨⟨hk, f1, f2⟩, hs, q⟩ := h
    obtain ⟨dx, lo, kn, ti, G, a, fx, ca, la, eg, hs⟩ := fs_open1 hs hk
    walk_at "run"
    refine ⟨p, dx, kn, a, _, _, _, _, k, G, m, _, rfl, eg.2, Hd.mt (by walk_at "mt") hs, ?_⟩
    walk_at "run"
    obtain ⟨c2, rfl⟩ : ∃ c2, c2 = q_ := ⟨_, rfl⟩
    refine ⟨p, a, dx, lo, fx, la, _, _, _, _, _, _, _, u.loose, m.loans, _, rfl, ⟨f1, f2⟩, Hd.mt (by walk_at "mt") hs, fun lo2 la2 H hs => ?_⟩
    walk_at "run"
    exact q _ (fs_close1 (u := { u with loose := srt (u.loose ++ m.loans) }) (m2 := { m with content := [], loans := [] }) (ca := c2) eg (by dsimp only [List.map]; walk_at "rest"))
def sp_Files_put (T : Txt K mg) : Sp := fun vs H Q _ => ∃ (p w : Addr) (k : Int) (i : Nat) (ws : List Int) (m : FileM) (u : FilesM) (L : List SA), vs = [.ref p, .int k, .int (i : Int), .ref w] ∧ (getM u.known k = some m ∧ m.content.length ≤ 512 ∧ m.loans.length = (m.content.length + 7) / 8 ∧ (ws ≠ [] → FilesM.sizeP m i ws ≤ 512 ∧ FilesM.lack m i ws ≤ u.loose.length) ∧ i ≤ 100000 ∧ ws.length ≤ 1000 ∧ u.loose.length ≤ 1000) ∧ Hd (filesA T.C_File T.C_Files p u :: pto w (.lst (ws.map V.int)) :: L) H ∧ ∀ H', Hd (filesA T.C_File T.C_Files p (u.put k m i ws) :: pto w (.lst (ws.map V.int)) :: L) H' → Q .non H'
theorem ok_Files_put (T : Txt K mg) : FnOk P w K mg base CX0 3 T.a_Files_put T.d_Files_put ["self", "file", "place", "words"] (sp_Files_put T) := by
  refine T.f_Files_put.ok sc_Files_put (fun vs H Q E h => ?_) (fun cdv A outer s H vs Q E hr h => ?_)
  · obtain ⟨p, w, k, i, ws, m, u, L, rfl, _⟩ := h
    rfl
  · obtain ⟨p, w, k, i, ws, m, u, L, rfl, h⟩ := h
    refine ⟨_, (pss_cons (ps_set (i := 4) sc_Files_put.nd rfl (by first | exact Or.inl rfl | exact Or.inr rfl) (pe_meth (pv 0) T.cl_Files T.m_Files_found (ok_Files_found T) hr T.b_Files_found .nil pass0 (pa_cons (pv 1) pa_nil)))
       (pss_cons (ps_if (pt_cmpR (k_eq (K := K) rfl hr.units) (pv 3) (pe_lst pa_nil) (nomark _))
        (pss_one ps_retN)
        pss_nil)
       (pss_cons (ps_set (i := 5) sc_Files_put.nd rfl (by first | exact Or.inl rfl | exact Or.inr rfl) (pe_callB (u_max2 rfl) (by rfl) T.n_max (by decide +kernel) (pa_cons (pe_callB (k_len (K := K) rfl) (by rfl) T.n_len (by decide +kernel) (pa_cons (k_fld (K := K) rfl (pv 4) rfl) pa_nil)) (pa_cons (pe_op (k_add (K := K) rfl) (pv 2) (pe_callB (k_len (K := K) rfl) (by rfl) T.n_len (by decide +kernel) (pa_cons (pv 3) pa_nil))) pa_nil))))
       (pss_cons (ps_if (pt_cmpR op_gt (pv 5) (pe_glob (v := .int 512) (by rfl) T.g_MOST_WORDS.choose_spec ⟨_, rfl⟩) (nomark _))
        (pss_one ps_never)
        pss_nil)
       (pss_cons (ps_set (i := 6) sc_Files_put.nd rfl (by first | exact Or.inl rfl | exact Or.inr rfl) (pe_op (k_sub (K := K) rfl) (pe_call (ok_blocks_for T) (hr.mono (by decide)) (by rfl) T.g_blocks_for T.f_blocks_for.kp T.b_blocks_for .nil pass0 (pa_cons (pv 5) pa_nil)) (pe_callB (k_len (K := K) rfl) (by rfl) T.n_len (by decide +kernel) (pa_cons (k_fld (K := K) rfl (pv 4) rfl) pa_nil))))
       (pss_cons (ps_if (pt_cmpR op_gt (pv 6) (pe_callB (k_len (K := K) rfl) (by rfl) T.n_len (by decide +kernel) (pa_cons (k_fld (K := K) rfl (pv 0) rfl) pa_nil)) (nomark _))
        (pss_one ps_never)
        pss_nil)
       (pss_cons (ps_expr (k_bm (K := K) rfl (pe_bm PySem.F.plainAttrs_list PySem.F.slot_list_extend PySem.F.type_list_extend mt_extend (k_fld (K := K) rfl (pv 4) rfl) (pa_cons (pe_slice (k_slL (K := K) rfl) (k_fld (K := K) rfl (pv 0) rfl) po_none (po_some (pv 6))) pa_nil))))
       (pss_cons (ps_fld (pv 0) (pe_slice (k_slL (K := K) rfl) (k_fld (K := K) rfl (pv 0) rfl) (po_some (pv 6)) po_none) rfl)
       (pss_cons (ps_set (i := 7) sc_Files_put.nd rfl (by first | exact Or.inl rfl | exact Or.inr rfl) (pe_op (k_add (K := K) rfl) (k_fld (K := K) rfl (pv 4) rfl) (pe_op (k_mul (K := K) rfl) (pe_lst (pa_cons pe_int pa_nil)) (pe_op (k_sub (K := K) rfl) (pv 5) (pe_callB (k_len (K := K) rfl) (by rfl) T.n_len (by decide +kernel) (pa_cons (k_fld (K := K) rfl (pv 4) rfl) pa_nil))))))
       (pss_one (ps_fld (pv 4) (pe_op (k_add (K := K) rfl) (pe_op (k_add (K := K) rfl) (pe_slice (k_slL (K := K) rfl) (pv 7) po_none (po_some (pv 2))) (pe_callTy (k_list (K := K) rfl) (by rfl) T.n_list (by decide +kernel) (pa_cons (pv 3) pa_nil))) (pe_slice (k_slL (K := K) rfl) (pv 7) (po_some (pe_op (k_add (K := K) rfl) (pv 2) (pe_callB (k_len (K := K) rfl) (by rfl) T.n_len (by decide +kernel) (pa_cons (pv 3) pa_nil)))) po_none)) rfl))))))))))), ?_⟩
    try dsimp only [cxOf]
    obtain ⟨⟨hk, f1, f2, f3, f4, f5, f6⟩, hs, q⟩ := h
    obtain ⟨dx, lo, kn, ti, G, a, fx, ca, la, eg, hs⟩ := fs_open1 hs hk
    walk_at "run"
    refine ⟨p, dx, kn, a, _, _, _, _, k, G, m, _, rfl, eg.2, Hd.mt (by walk_at "mt") hs, ?_⟩
    walk_at "run"
    refine Sl.r_eqNil (ns := ws) (hs.sq (a := w) (by walk_at "pull")) (hs.sq (a := q_) (by walk_at "pull")) ?_
    rw [show ws.isEmpty = decide (ws = []) by cases ws <;> simp]
    unfold FilesM.put at q
    walk_at "run"
    refine Sl.r_iteD (fun h1 => ?_) (fun h1 => ?_)
    · rw [if_pos h1] at q
      walk_at "run"
      exact q _ (Hd.mt (by walk_at "mt") (fs_same eg (Hd.mt (by walk_at "mt") hs : Hd (_ :: _ :: _ :: _ :: _ :: _ :: _ :: _ :: pto w (.lst (ws.map V.int)) :: L) _)))
    rw [if_neg h1] at q
    obtain ⟨f7, f8⟩ := f3 h1
    walk_at "run"
    simp only [List.length_map]
    have es : (if (i : Int) + (ws.length : Int) > (m.content.length : Int) then (i : Int) + (ws.length : Int) else (m.content.length : Int)) = ((FilesM.sizeP m i ws : Nat) : Int) := by
      unfold FilesM.sizeP
      split <;> omega
    rw [es]
    walk_at "run"
    rw [decide_eq_false (by omega)]
    walk_at "run"
    refine ⟨FilesM.sizeP m i ws, rfl, ?_⟩
    walk_at "run"
    simp only [List.length_map]
    have el : (((FilesM.sizeP m i ws + 7) / 8 : Nat) : Int) - (m.loans.length : Int) = ((FilesM.lack m i ws : Nat) : Int) := by
      have : m.content.length ≤ FilesM.sizeP m i ws := Nat.le_max_left _ _
      unfold FilesM.lack
      omega
    rw [el, decide_eq_false (by omega)]
    have c1 := cutV_length (u.loose.map V.int) none (some ((FilesM.lack m i ws : Nat) : Int))
    rw [List.length_map] at c1
    iterate 2 walk_at "st"
    walk_at "stm"
    rw [cut_hi, ← List.map_append] at hs
    walk_at "stm"
    rw [cut_lo] at hs
    walk_at "stm"
    have ez : ((FilesM.sizeP m i ws : Nat) : Int) - ((m.content.map V.int).length : Int) = ((FilesM.sizeP m i ws - m.content.length : Nat) : Int) := by
      have : m.content.length ≤ FilesM.sizeP m i ws := Nat.le_max_left _ _
      rw [List.length_map]
      omega
    rw [ez]
    refine Sl.r_mulL hs (by walk_at "get") (by omega) (sz (by rw [Int.toNat_natCast, List.length_singleton]; omega)) fun z H hs => ?_
    rw [Int.toNat_natCast, flat_rep, map_rep] at hs
    walk_at "st"
    rw [← List.map_append] at hs
    have hs : Hd (pto _ (.lst ((FilesM.wider m i ws).map V.int)) :: _) H := hs
    have lw : (FilesM.wider m i ws).length ≤ 512 := by
      have : m.content.length ≤ FilesM.sizeP m i ws := Nat.le_max_left _ _
      unfold FilesM.wider
      rw [List.length_append, List.length_replicate]
      omega
    have c2 := cutV_length ((FilesM.wider m i ws).map V.int) none (some (i : Int))
    have c3 := cutV_length ((FilesM.wider m i ws).map V.int) (some ((i : Int) + ((ws.map V.int).length : Int))) none
    simp only [List.length_map] at c2 c3
    walk_at "run"
    rw [show (i : Int) + ((ws.map V.int).length : Int) = ((i + ws.length : Nat) : Int) by rw [List.length_map]; omega, cut_lo, cut_hi, ← List.map_append, ← List.map_append] at hs
    exact q _ (Hd.mt (by walk_at "mt") (fs_close1 (u := { u with loose := u.loose.drop (FilesM.lack m i ws) }) (m2 := { m with content := (FilesM.wider m i ws).take i ++ ws ++ (FilesM.wider m i ws).drop (i + ws.length), loans := m.loans ++ u.loose.take (FilesM.lack m i ws) }) eg (L := pto w (.lst (ws.map V.int)) :: L) (by dsimp only; walk_at "rest")))
end
section
variable {P : Program} {w : World} {K : PySem.W.Frag} {mg : Str → Option Value} {base : Heap}

/-- eight words -/
def z8 : List Int := [0, 0, 0, 0, 0, 0, 0, 0]
abbrev Blk := Int → Option (List Int)
def blk (M : Blk) (n : Int) : List Int := (M n).getD z8
def putB (M : Blk) (n : Int) (ws : List Int) : Blk := fun m => if m = n then some ws else M m
/-- a dict of blocks at d: M, at most k of them -/
def tblA (d : Addr) (M : Blk) (k : Int) : SA := fun H => ∃ kvs : List (Key × V), H d = some (.dK kvs) ∧ (kvs.length : Int) ≤ k ∧
  ∀ n, (valV kvs (.inl n) = none ∧ M n = none) ∨ ∃ t ws, valV kvs (.inl n) = some (.ref t) ∧ H t = some (.tup (ws.map V.int)) ∧ M n = some ws ∧ ws.length = 8
theorem up_tbl (d : Addr) (M : Blk) (k : Int) : Up (tblA d M k) := fun H H' s ⟨kvs, h1, h2, h3⟩ => ⟨kvs, s _ _ h1, h2, fun n => (h3 n).elim .inl fun ⟨t, ws, a, b, c⟩ => .inr ⟨t, ws, a, s _ _ b, c⟩⟩
theorem tbl_new {d : Addr} {L : List SA} {H : Hp} (h : Hd (pto d (.dK []) :: L) H) : Hd (tblA d (fun _ => none) 0 :: L) H :=
  h.imp fun _ z => ⟨[], z, Int.le_refl 0, fun _ => .inl ⟨rfl, rfl⟩⟩
theorem tbl_put {d t : Addr} {M : Blk} {k n : Int} {ws : List Int} (hw : ws.length = 8) {kvs : List (Key × V)} {L : List SA} {H : Hp} (h : Hd (pto t (.tup (ws.map V.int)) :: tblA d M k :: L) H) (hk : H d = some (.dK kvs)) :
    Hd (tblA d (putB M n ws) (k + 1) :: L) (upd H d (.dK (putK kvs (.inl n) (.ref t)))) := by
  have j := Hd.join (C := fun H => H t = some (.tup (ws.map V.int)) ∧ tblA d M k H) (up_pto _ _) (up_tbl _ _ _) h fun _ a b => ⟨a, b⟩
  have sub : ∀ H1, Sub H1 H → (H1 t = some (.tup (ws.map V.int)) ∧ tblA d M k H1) → H1 d = some (.dK kvs) := fun H1 s z => by
    obtain ⟨_, kvs2, h1, _⟩ := z
    have := s _ _ h1
    rw [hk] at this
    cases this
    exact h1
  obtain ⟨H1, H2, c, s1, s2, p, q⟩ := j
  have hd := sub H1 s1 p
  have j2 : Hd ((fun G => G d = some (.dK kvs) ∧ G t = some (.tup (ws.map V.int)) ∧ tblA d M k G) :: L) H := ⟨H1, H2, c, s1, s2, ⟨hd, p⟩, q⟩
  refine j2.chg (fun G z => ⟨_, z.1, fun z => z⟩) fun G z => ?_
  obtain ⟨z1, z2, kvs2, z3, z4, z5⟩ := z
  rw [z1] at z3
  cases z3
  have ne : ∀ {b : Addr} {xs : List V}, G b = some (.tup xs) → b ≠ d := fun e => ne_of e z1 (fun q => nomatch q)
  refine ⟨_, upd_same, ?_, fun m => ?_⟩
  · have := length_putK kvs (.inl n) (.ref t)
    omega
  · rw [valV_put]
    by_cases e : m = n
    · subst e
      rw [if_pos rfl]
      exact .inr ⟨t, ws, rfl, by rw [upd_ne (ne z2)]; exact z2, by unfold putB; rw [if_pos rfl], hw⟩
    · rw [if_neg (fun q => e (Sum.inl.inj q))]
      unfold putB
      rw [if_neg e]
      exact (z5 m).elim .inl fun ⟨u, us, a, b, c⟩ => .inr ⟨u, us, a, by rw [upd_ne (ne b)]; exact b, c⟩
def spV : Option Int → V
  | none => .non
  | some i => .int i
/-- the disk: its blocks, how many writes were done, how many more are -/
def diskA (C p : Addr) (M : Blk) (k : Int) (sp : Option Int) : SA := fun H => ∃ dx d, Hd [pto p (.ins C dx (fs_Disk (.ref d) (.int k) (spV sp))), tblA d M k] H
theorem disk_open {C p : Addr} {M : Blk} {k : Int} {sp : Option Int} {L : List SA} {H : Hp} (h : Hd (diskA C p M k sp :: L) H) : ∃ dx d, Hd (pto p (.ins C dx (fs_Disk (.ref d) (.int k) (spV sp))) :: tblA d M k :: L) H := by
  obtain ⟨H1, H2, c, s1, s2, ⟨dx, d, p⟩, q⟩ := h
  exact ⟨dx, d, Hd.open (M := [_, _]) ⟨H1, H2, c, s1, s2, p, q⟩⟩
theorem disk_close {C p dx d : Addr} {M : Blk} {k : Int} {sp : Option Int} {L : List SA} {H : Hp} (h : Hd (pto p (.ins C dx (fs_Disk (.ref d) (.int k) (spV sp))) :: tblA d M k :: L) H) : Hd (diskA C p M k sp :: L) H :=
  (Hd.close (M := [_, _]) h).imp fun _ z => ⟨dx, d, z⟩

def sp_Disk_init (T : Txt K mg) : Sp := fun vs H Q _ => ∃ p dx L, vs = [.ref p] ∧ Hd (pto p (.ins T.C_Disk dx []) :: L) H ∧ ∀ H', Hd (diskA T.C_Disk p (fun _ => none) 0 none :: L) H' → Q .non H'
theorem ok_Disk_init (T : Txt K mg) : FnOk P w K mg base CX0 1 T.a_Disk_init T.d_Disk_init ["self"] (sp_Disk_init T) := by
  refine T.f_Disk_init.ok sc_Disk_init (fun vs H Q E h => ?_) (fun cdv A outer s H vs Q E hr h => ?_)
  · obtain ⟨p, dx, L, rfl, _⟩ := h
    rfl
  · obtain ⟨p, dx, L, rfl, h⟩ := h
    refine ⟨_, (pss_cons (ps_fld (pv 0) pe_dnewK rfl)
       (pss_cons (ps_fld (pv 0) pe_int rfl)
       (pss_one (ps_fld (pv 0) pe_non rfl)))), ?_⟩
    try dsimp only [cxOf]
    obtain ⟨hs, q⟩ := h
    walk_at "run"
    exact q _ (disk_close (sp := none) ((tbl_new hs).swap))

/-- the disk behind a write -/
def wrB (M : Blk) (sp : Option Int) (n : Int) (ws : List Int) : Blk := if sp = some 0 then M else putB M n ws
def wrK (k : Int) (sp : Option Int) : Int := if sp = some 0 then k else k + 1
def wrS (sp : Option Int) : Option Int := if sp = some 0 then sp else sp.map fun i => i - 1

def sp_Disk_block (T : Txt K mg) : Sp := fun vs H Q _ => ∃ (p : Addr) (n : Int) (M : Blk) (k : Int) (sp : Option Int) (L : List SA), vs = [.ref p, .int n] ∧ Hd (diskA T.C_Disk p M k sp :: L) H ∧ ∀ t H', Hd (pto t (.tup ((blk M n).map V.int)) :: diskA T.C_Disk p M k sp :: L) H' → Q (.ref t) H'
theorem ok_Disk_block (T : Txt K mg) : FnOk P w K mg base CX0 1 T.a_Disk_block T.d_Disk_block ["self", "number"] (sp_Disk_block T) := by
  refine T.f_Disk_block.ok sc_Disk_block (fun vs H Q E h => ?_) (fun cdv A outer s H vs Q E hr h => ?_)
  · obtain ⟨p, n, M, k, sp, L, rfl, _⟩ := h
    rfl
  · obtain ⟨p, n, M, k, sp, L, rfl, h⟩ := h
    refine ⟨_, (pss_one (ps_ret (pe_dget2 (hu_of hr) (k_fld (K := K) rfl (pv 0) rfl) (pv 1) (pe_op (k_mul (K := K) rfl) (pe_tup (pa_cons pe_int pa_nil)) (pe_glob (v := .int 8) (by rfl) T.g_BLOCK_disk.choose_spec ⟨_, rfl⟩)) ⟨by rfl, by rfl, by rfl, by rfl⟩))), ?_⟩
    try dsimp only [cxOf]
    obtain ⟨hs, q⟩ := h
    obtain ⟨dx, d, hs⟩ := disk_open hs
    obtain ⟨kvs, hd, -, -⟩ := hs.at (up_tbl _ _ _) (by walk_at "pull")
    walk_at "run"
    obtain ⟨kvs, hd, -, hv⟩ := hs.at (up_tbl _ _ _) (by walk_at "pull")
    walk_at "run"
    rcases hv n with ⟨e1, e2⟩ | ⟨t, ws, e1, e2, e3, -⟩
    · rw [e1]
      have e : (List.replicate (8 : Int).toNat [V.int 0]).flatten = (blk M n).map V.int := by
        unfold blk
        rw [e2]
        rfl
      refine q _ _ ?_
      rw [← e]
      exact Hd.mono (Hd.mt (by walk_at "mt") hs) fun _ z => disk_close z
    · rw [e1]
      refine q _ _ ?_
      have e : blk M n = ws := by
        unfold blk
        rw [e3]
        rfl
      rw [e]
      exact Hd.tup (disk_close (Hd.mt (by walk_at "mt") hs)) e2
end
section
variable {P : Program} {w : World} {K : PySem.W.Frag} {mg : Str → Option Value} {base : Heap}
def sp_Disk_stop (T : Txt K mg) : Sp := fun vs H Q _ => ∃ (p : Addr) (i : Int) (M : Blk) (k : Int) (sp : Option Int) (L : List SA), vs = [.ref p, .int i] ∧ Hd (diskA T.C_Disk p M k sp :: L) H ∧ ∀ H', Hd (diskA T.C_Disk p M k (some i) :: L) H' → Q .non H'
theorem ok_Disk_stop (T : Txt K mg) : FnOk P w K mg base CX0 1 T.a_Disk_stop T.d_Disk_stop ["self", "many"] (sp_Disk_stop T) := by
  refine T.f_Disk_stop.ok sc_Disk_stop (fun vs H Q E h => ?_) (fun cdv A outer s H vs Q E hr h => ?_)
  · obtain ⟨p, i, M, k, sp, L, rfl, _⟩ := h
    rfl
  · obtain ⟨p, i, M, k, sp, L, rfl, h⟩ := h
    refine ⟨_, (pss_one (ps_fld (pv 0) (pv 1) rfl)), ?_⟩
    try dsimp only [cxOf]
    obtain ⟨hs, q⟩ := h
    obtain ⟨dx, d, hs⟩ := disk_open hs
    walk_at "run"
    exact q _ (disk_close (sp := some i) hs)
def sp_Disk_go (T : Txt K mg) : Sp := fun vs H Q _ => ∃ (p : Addr)  (M : Blk) (k : Int) (sp : Option Int) (L : List SA), vs = [.ref p] ∧ Hd (diskA T.C_Disk p M k sp :: L) H ∧ ∀ H', Hd (diskA T.C_Disk p M k none :: L) H' → Q .non H'
theorem ok_Disk_go (T : Txt K mg) : FnOk P w K mg base CX0 1 T.a_Disk_go T.d_Disk_go ["self"] (sp_Disk_go T) := by
  refine T.f_Disk_go.ok sc_Disk_go (fun vs H Q E h => ?_) (fun cdv A outer s H vs Q E hr h => ?_)
  · obtain ⟨p, M, k, sp, L, rfl, _⟩ := h
    rfl
  · obtain ⟨p, M, k, sp, L, rfl, h⟩ := h
    refine ⟨_, (pss_one (ps_fld (pv 0) pe_non rfl)), ?_⟩
    try dsimp only [cxOf]
    obtain ⟨hs, q⟩ := h
    obtain ⟨dx, d, hs⟩ := disk_open hs
    walk_at "run"
    exact q _ (disk_close (sp := none) hs)
def sp_Disk_writes (T : Txt K mg) : Sp := fun vs H Q _ => ∃ (p : Addr)  (M : Blk) (k : Int) (sp : Option Int) (L : List SA), vs = [.ref p] ∧ Hd (diskA T.C_Disk p M k sp :: L) H ∧ Q (.int k) H
theorem ok_Disk_writes (T : Txt K mg) : FnOk P w K mg base CX0 1 T.a_Disk_writes T.d_Disk_writes ["self"] (sp_Disk_writes T) := by
  refine T.f_Disk_writes.ok sc_Disk_writes (fun vs H Q E h => ?_) (fun cdv A outer s H vs Q E hr h => ?_)
  · obtain ⟨p, M, k, sp, L, rfl, _⟩ := h
    rfl
  · obtain ⟨p, M, k, sp, L, rfl, h⟩ := h
    refine ⟨_, (pss_one (ps_ret (k_fld (K := K) rfl (pv 0) rfl))), ?_⟩
    try dsimp only [cxOf]
    obtain ⟨hs, q⟩ := h
    obtain ⟨dx, d, hs⟩ := disk_open hs
    walk_at "run"
    exact q

/-- the table gets a block: the rest of a write -/
theorem put_rest {d t : Addr} {M : Blk} {k n : Int} {ws : List Int} (hw : ws.length = 8) (hk : k ≤ 90000) {L : List SA} {H : Hp} {N : Hp → Prop} (h : Hd (pto t (.tup (ws.map V.int)) :: tblA d M k :: L) H) (q : ∀ H', Hd (tblA d (putB M n ws) (k + 1) :: L) H' → N H') : rSetU (.ref d) (.int n) (.ref t) H N := by
  obtain ⟨kvs, h1, h2, -⟩ := h.at (up_tbl d M k) (.there .here)
  exact Sl.r_setDX h1 (szlt (by omega)) (q _ (tbl_put hw h h1))

def sp_Disk_write (T : Txt K mg) : Sp := fun vs H Q _ => ∃ (p : Addr) (n : Int) (a : Addr) (b : Bool) (ws : List Int) (M : Blk) (k : Int) (sp : Option Int) (L : List SA), vs = [.ref p, .int n, .ref a] ∧ (ws.length = 8 ∧ k ≤ 90000) ∧ Hd (diskA T.C_Disk p M k sp :: pto a (seqO b (ws.map V.int)) :: L) H ∧ ∀ H', Hd (diskA T.C_Disk p (wrB M sp n ws) (wrK k sp) (wrS sp) :: pto a (seqO b (ws.map V.int)) :: L) H' → Q .non H'
theorem ok_Disk_write (T : Txt K mg) : FnOk P w K mg base CX0 1 T.a_Disk_write T.d_Disk_write ["self", "number", "words"] (sp_Disk_write T) := by
  refine T.f_Disk_write.ok sc_Disk_write (fun vs H Q E h => ?_) (fun cdv A outer s H vs Q E hr h => ?_)
  · obtain ⟨p, n, a, b, ws, M, k, sp, L, rfl, _⟩ := h
    rfl
  · obtain ⟨p, n, a, b, ws, M, k, sp, L, rfl, h⟩ := h
    refine ⟨_, (pss_cons (ps_if (pt_cmpR (k_eq (K := K) rfl hr.units) (k_fld (K := K) rfl (pv 0) rfl) pe_int (nomark _))
        (pss_one ps_retN)
        pss_nil)
       (pss_cons (ps_if (pt_cmpR u_notN (k_fld (K := K) rfl (pv 0) rfl) pe_non (nomark _))
        (pss_one (ps_fld (pv 0) (pe_op (k_sub (K := K) rfl) (k_fld (K := K) rfl (pv 0) rfl) pe_int) rfl))
        pss_nil)
       (pss_cons (ps_fld (pv 0) (pe_op (k_add (K := K) rfl) (k_fld (K := K) rfl (pv 0) rfl) pe_int) rfl)
       (pss_one (ps_asg (pe_callTy (k_tuple (K := K) rfl) (by rfl) T.n_tuple (by decide +kernel) (pa_cons (pv 2) pa_nil)) (pg_sub (k_fld (K := K) rfl (pv 0) rfl) (pv 1) (u_set (hu_of hr)))))))), ?_⟩
    try dsimp only [cxOf]
    obtain ⟨⟨hw, hk⟩, hs, q⟩ := h
    obtain ⟨dx, d, hs⟩ := disk_open hs
    -- what stands behind the stop's look
    have fin : ∀ (sp' : Option Int) (H1 : Hp), ¬ sp = some 0 → sp' = wrS sp → Hd (tblA d (putB M n ws) (k + 1) :: pto p (.ins T.C_Disk dx (fs_Disk (.ref d) (.int (k + 1)) (spV sp'))) :: pto a (seqO b (ws.map V.int)) :: L) H1 → Q .non H1 := fun sp' H1 h0 e z => by
      have z2 := q H1
      unfold wrB wrK at z2
      rw [if_neg h0, if_neg h0, ← e] at z2
      exact z2 (disk_close z.swap)
    have rest : ∀ (sp' : Option Int) (H1 : Hp), ¬ sp = some 0 → sp' = wrS sp → Hd (pto p (.ins T.C_Disk dx (fs_Disk (.ref d) (.int k) (spV sp'))) :: tblA d M k :: pto a (seqO b (ws.map V.int)) :: L) H1 →
        (tSeq (sFld K (tVar 0) (tOp (rAddU K) (tFld K (tVar 0) "tally") (tC (.int 1))) "tally") (tAsg (tCB (rTupleOf K) (tCons (tVar 2) tNil)) (gSub (tFld K (tVar 0) "written") (tVar 1) rSetU))) { nx := fun _ H' => Q .non H', rt := Q } (L2.start ["self", "number", "words"] [.ref p, .int n, .ref a]) H1 := fun sp' H h0 e hs => by
      cases b with
      | false =>
        dsimp only [seqO] at hs fin
        walk_at "run"
        refine put_rest hw hk (Hd.mt (by walk_at "mt") hs) fun H hs => ?_
        exact fin sp' _ h0 e (Hd.mt (by walk_at "mt") hs)
      | true =>
        dsimp only [seqO] at hs fin
        walk_at "run"
        refine put_rest hw hk (Hd.tup (Hd.mt (by walk_at "mt") hs) (hs.get (by walk_at "pull"))) fun H hs => ?_
        exact fin sp' _ h0 e (Hd.mt (by walk_at "mt") hs)
    cases sp with
    | none =>
      dsimp only [spV] at hs
      walk_at "run"
      refine Sl.r_iteD (fun z => nomatch z) (fun _ => ?_)
      walk_at "run"
      refine Sl.r_iteN (fun z => (z rfl).elim) (fun _ => ?_)
      walk_at "st"
      exact rest none _ (fun z => nomatch z) rfl hs
    | some i =>
      dsimp only [spV] at hs
      walk_at "run"
      refine Sl.r_iteD (fun z => ?_) (fun z => ?_)
      · walk_at "run"
        subst z
        exact q _ (disk_close (sp := some 0) hs)
      · walk_at "run"
        refine Sl.r_iteN (fun _ => ?_) (fun z => nomatch z)
        walk_at "st"
        walk_at "st"
        walk_at "st"
        walk_at "st"
        walk_at "st"
        walk_at "st"
        walk_at "st"
        walk_at "st"
        walk_at "st"
        refine rest (some (i - 1)) _ (fun e => z (Option.some.inj e)) ?_ hs
        unfold wrS
        rw [if_neg (fun e => z (Option.some.inj e))]
        rfl

theorem disk_ins {C p : Addr} {M : Blk} {k : Int} {sp : Option Int} {L L' : List SA} {H : Hp} (h : Hd L H) (pl : Pull (diskA C p M k sp) L L') : ∃ dx x y z, H p = some (.ins C dx (fs_Disk x y z)) := by
  obtain ⟨dx, d, z⟩ := disk_open (h.pull pl)
  exact ⟨dx, _, _, _, z.get .here⟩
theorem r_methDk {C p : Addr} {M : Blk} {k : Int} {sp : Option Int} {L L' : List SA} {H : Hp} {m : Str} {R : V → Hp → Prop} (h : Hd L H) (pl : Pull (diskA C p M k sp) L L') (l : ∀ x y z, (fs_Disk x y z).lookup m = none) (q : R (.ref p) H) : MethK C m R (.ref p) H := by
  obtain ⟨dx, x, y, z, e⟩ := disk_ins h pl
  exact r_methK e (l _ _ _) q

end
set_option hygiene false in
local macro_rules | `(tactic| walk_at "meth") => `(tactic| first | refine r_methFs hs (by walk_at "pull") (fun _ _ _ _ _ => by walk_at "look") ?_ | refine r_methDk hs (by walk_at "pull") (fun _ _ _ => by walk_at "look") ?_)

section
variable {P : Program} {w : World} {K : PySem.W.Frag} {mg : Str → Option Value} {base : Heap}
section
variable {α : Type} {T : List (Int × α)} {k : Int} {x : α}
theorem keysM_drop : keysM (dropM T k) = (keysM T).filter fun j => decide (j ≠ k) := by
  unfold keysM dropM
  rw [List.filter_map]
  rfl
theorem mem_drop {j : Int} : j ∈ keysM (dropM T k) ↔ j ∈ keysM T ∧ j ≠ k := by
  rw [keysM_drop, List.mem_filter]
  exact ⟨fun h => ⟨h.1, of_decide_eq_true h.2⟩, fun h => ⟨h.1, decide_eq_true h.2⟩⟩
theorem mem_put {j : Int} : j ∈ keysM (putM T k x) ↔ j ∈ keysM T ∨ j = k := by
  rw [keys_put]
  split
  · rename_i m
    exact ⟨.inl, fun h => h.elim id fun e => e ▸ m⟩
  · rw [List.mem_append, List.mem_singleton]
theorem at_key (h : k ∈ keysM T) : ∃ x, getM T k = some x := Option.isSome_iff_exists.mp (mem_keysM.mp h)
theorem key_at (h : getM T k = some x) : k ∈ keysM T := mem_keysM.mpr (by rw [h]; rfl)
theorem no_key (h : k ∉ keysM T) : getM T k = none := by
  cases e : getM T k with
  | none => rfl
  | some x => exact (h (key_at e)).elim
end


/-- blocks for so many words -/
def nb (n : Nat) : Nat := (n + 7) / 8
def sumB (N : List (Int × List Int)) : Nat := (N.map fun e => nb e.2.length).sum
theorem sumB_get {N : List (Int × List Int)} {n : Int} {ws : List Int} (nd : (keysM N).Nodup) (h : getM N n = some ws) : sumB N = nb ws.length + sumB (dropM N n) := ((perm_get nd h).map (fun e : Int × List Int => nb e.2.length)).sum_nat
theorem sumB_put {N : List (Int × List Int)} {n : Int} {ws : List Int} (nd : (keysM N).Nodup) : sumB (putM N n ws) = nb ws.length + sumB (dropM N n) := ((perm_put nd).map (fun e : Int × List Int => nb e.2.length)).sum_nat
/-- the law's own files N (by names) and the program's u; h: blocks of files that have no name -/
structure RN (c : Nat) (u : FilesM) (N : List (Int × List Int)) (h : Int) : Prop where
  ndK : (keysM u.known).Nodup
  ndT : (keysM u.titled).Nodup
  ks : keysM N = keysM u.titled
  rd : ∀ n k, getM u.titled n = some k → ∃ m, getM u.known k = some m ∧ m.title = some n ∧ m.holders = 0 ∧ getM N n = some m.content
  nw : ∀ k ∈ keysM u.known, 0 ≤ k ∧ k < u.newest
  n0 : 0 ≤ u.newest
  nn : ∀ n ∈ keysM N, 0 ≤ n ∧ n ≤ 65535
  lo : ∀ k m, getM u.known k = some m → m.content.length ≤ 512 ∧ m.loans.length = nb m.content.length
  sm : (u.loose.length : Int) + h + (sumB N : Int) = u.bag ∧ 8 ≤ u.bag ∧ u.bag ≤ 128
  lc : u.known.length ≤ c
  lt : N.length ≤ 24
  h0 : 0 ≤ h
section
variable {c : Nat} {u : FilesM} {N : List (Int × List Int)} {h : Int} {n k : Int} {m : FileM}
theorem RN.ndN (R : RN c u N h) : (keysM N).Nodup := by rw [R.ks]; exact R.ndT
theorem RN.at (R : RN c u N h) {ws : List Int} (hn : getM N n = some ws) : ∃ k m, getM u.titled n = some k ∧ getM u.known k = some m ∧ m.title = some n ∧ m.holders = 0 ∧ m.content = ws := by
  obtain ⟨k, hk⟩ := at_key (T := u.titled) (k := n) (by rw [← R.ks]; exact key_at hn)
  obtain ⟨m, h1, h2, h3, h4⟩ := R.rd n k hk
  rw [hn] at h4
  cases h4
  exact ⟨k, m, hk, h1, h2, h3, rfl⟩
theorem RN.few (R : RN c u N h) : u.titled.length ≤ 24 ∧ u.titled.length = N.length ∧ u.loose.length ≤ 128 ∧ sumB N ≤ 128 ∧ h ≤ 128 := by
  have e : u.titled.length = N.length := by
    have := congrArg List.length R.ks
    unfold keysM at this
    rw [List.length_map, List.length_map] at this
    exact this.symm
  have := R.lt
  have := R.sm
  have := R.h0
  omega
theorem RN.new {b : Nat} (h8 : 8 ≤ b) (hb : b ≤ 128) : RN 0 (FilesM.new b) [] 0 := by
  refine ⟨List.nodup_nil, List.nodup_nil, rfl, fun _ _ z => ?_, fun _ z => ?_, Int.le_refl _, fun _ z => ?_, fun _ _ z => ?_, ?_, Nat.le_refl _, Nat.zero_le _, Int.le_refl _⟩
  · cases z
  · cases z
  · cases z
  · cases z
  · show (((rangeI b).length : Nat) : Int) + 0 + ((0 : Nat) : Int) = (b : Int) ∧ 8 ≤ (b : Int) ∧ (b : Int) ≤ 128
    unfold rangeI
    rw [List.length_map, List.length_range]
    omega
theorem RN.mono {c2 : Nat} (R : RN c u N h) (hc : c ≤ c2) : RN c2 u N h := ⟨R.ndK, R.ndT, R.ks, R.rd, R.nw, R.n0, R.nn, R.lo, R.sm, Nat.le_trans R.lc hc, R.lt, R.h0⟩
theorem RN.make (R : RN c u N h) (hn : 0 ≤ n ∧ n ≤ 65535) (no : n ∉ keysM N) (lt : N.length < 24) : RN (c + 1) (u.make n) (putM N n []) h := by
  have nk : u.newest ∉ keysM u.known := fun z => by have := R.nw _ z; omega
  have new0 := R.n0
  refine ⟨nd_put R.ndK, nd_put R.ndT, ?_, fun j k e => ?_, fun j mj => ?_, by show 0 ≤ u.newest + 1; omega, fun j mj => ?_, fun k m e => ?_, ⟨?_, R.sm.2⟩, ?_, ?_, R.h0⟩
  · show keysM (putM N n []) = keysM (putM u.titled n u.newest)
    rw [keys_put, keys_put, R.ks]
  · change getM (putM u.titled n u.newest) j = some k at e
    rw [getM_put] at e
    show ∃ m, getM (putM u.known u.newest _) k = some m ∧ _
    by_cases z : j = n
    · rw [if_pos z] at e
      cases e
      subst z
      exact ⟨⟨some j, 0, [], []⟩, by rw [getM_put, if_pos rfl], rfl, rfl, by rw [getM_put, if_pos rfl]⟩
    · rw [if_neg z] at e
      obtain ⟨m, h1, h2, h3, h4⟩ := R.rd j k e
      exact ⟨m, by rw [getM_put, if_neg fun q => nk (by rw [← q]; exact key_at h1)]; exact h1, h2, h3, by rw [getM_put, if_neg z]; exact h4⟩
  · show 0 ≤ j ∧ j < u.newest + 1
    rcases mem_put.mp mj with y | y
    · have := R.nw j y
      omega
    · omega
  · rcases mem_put.mp mj with y | y
    · exact R.nn j y
    · rw [y]
      exact hn
  · change getM (putM u.known u.newest _) k = some m at e
    rw [getM_put] at e
    by_cases z : k = u.newest
    · rw [if_pos z] at e
      cases e
      exact ⟨Nat.zero_le _, show (0 : Nat) = nb 0 from rfl⟩
    · rw [if_neg z] at e
      exact R.lo k m e
  · rw [sumB_put R.ndN, drop_none no]
    have := R.sm.1
    show (u.loose.length : Int) + h + ((nb 0 + sumB N : Nat) : Int) = u.bag
    rw [show nb 0 = 0 from rfl]
    omega
  · have := R.lc
    exact Nat.le_trans (len_putM ..) (by omega)
  · exact Nat.le_trans (len_putM ..) (by omega)

/-- a file's words and blocks otherwise -/
theorem RN.with (R : RN c u N h) {m2 : FileM} {lo2 : List Int} {ws : List Int} (hn : getM u.titled n = some k) (hk : getM u.known k = some m) (e1 : m2.title = m.title) (e2 : m2.holders = m.holders) (e3 : m2.content = ws) (l5 : ws.length ≤ 512) (l6 : m2.loans.length = nb ws.length) (lt : (lo2.length : Int) + m2.loans.length = u.loose.length + m.loans.length) : RN c { u with loose := lo2, known := putM u.known k m2 } (putM N n ws) h := by
  obtain ⟨m0, h1, h2, h3, h4⟩ := R.rd n k hn
  rw [hk] at h1
  cases h1
  have lm := (R.lo k m hk).2
  have kn : n ∈ keysM N := by rw [R.ks]; exact key_at hn
  refine ⟨nd_put R.ndK, R.ndT, ?_, fun j k2 e => ?_, fun j mj => ?_, R.n0, fun j mj => ?_, fun k2 m3 e => ?_, ⟨?_, R.sm.2⟩, ?_, ?_, R.h0⟩
  · rw [keys_put, if_pos kn]
    exact R.ks
  · show ∃ m, getM (putM u.known k m2) k2 = some m ∧ _
    change getM u.titled j = some k2 at e
    obtain ⟨m3, g1, g2, g3, g4⟩ := R.rd j k2 e
    by_cases z : k2 = k
    · subst z
      rw [hk] at g1
      cases g1
      rw [h2] at g2
      cases g2
      exact ⟨m2, by rw [getM_put, if_pos rfl], e1.trans h2, e2.trans h3, by rw [getM_put, if_pos rfl, e3]⟩
    · have nz : j ≠ n := fun y => z (by rw [y, hn] at e; cases e; rfl)
      exact ⟨m3, by rw [getM_put, if_neg z]; exact g1, g2, g3, by rw [getM_put, if_neg nz]; exact g4⟩
  · rcases mem_put.mp mj with y | y
    · exact R.nw j y
    · rw [y]
      exact R.nw k (key_at hk)
  · rcases mem_put.mp mj with y | y
    · exact R.nn j y
    · rw [y]
      exact R.nn n kn
  · change getM (putM u.known k m2) k2 = some m3 at e
    rw [getM_put] at e
    by_cases z : k2 = k
    · rw [if_pos z] at e
      cases e
      rw [e3]
      exact ⟨l5, l6⟩
    · rw [if_neg z] at e
      exact R.lo k2 m3 e
  · have s1 := R.sm.1
    rw [sumB_get R.ndN h4] at s1
    rw [sumB_put R.ndN]
    show (lo2.length : Int) + h + _ = u.bag
    omega
  · have k := keys_put u.known k m2
    rw [if_pos (key_at hk)] at k
    have k := congrArg List.length k
    unfold keysM at k
    rw [List.length_map, List.length_map] at k
    have := R.lc
    show (putM u.known _ m2).length ≤ c
    omega
  · have k := keys_put N n ws
    rw [if_pos kn] at k
    have k := congrArg List.length k
    unfold keysM at k
    rw [List.length_map, List.length_map] at k
    have := R.lt
    omega
theorem RN.cut (R : RN c u N h) (hn : getM u.titled n = some k) (hk : getM u.known k = some m) : RN c (u.cut k m) (putM N n []) h :=
  R.with (m2 := { m with content := [], loans := [] }) (lo2 := srt (u.loose ++ m.loans)) hn hk rfl rfl rfl (Nat.zero_le _) rfl (by
    rw [(srt_perm _).length_eq, List.length_append]
    show ((u.loose.length + m.loans.length : Nat) : Int) + ((0 : Nat) : Int) = _
    omega)
/-- what stands in a file behind a put, as the law has it -/
def freshL (old ws : List Int) (pl : Nat) : List Int := (old ++ List.replicate (pl - old.length) 0).take pl ++ ws ++ (old ++ List.replicate (pl - old.length) 0).drop (pl + ws.length)
theorem fresh_eq {m : FileM} {pl : Nat} {ws : List Int} : (FilesM.wider m pl ws).take pl ++ ws ++ (FilesM.wider m pl ws).drop (pl + ws.length) = freshL m.content ws pl := by
  unfold freshL FilesM.wider FilesM.sizeP
  congr 1
  · congr 1
    apply List.ext_getElem?
    intro i
    rw [List.getElem?_take, List.getElem?_take]
    split
    · rw [List.getElem?_append, List.getElem?_append]
      split
      · rfl
      · rw [List.getElem?_replicate, List.getElem?_replicate, if_pos (by omega), if_pos (by omega)]
    · rfl
  · apply List.ext_getElem?
    intro i
    rw [List.getElem?_drop, List.getElem?_drop, List.getElem?_append, List.getElem?_append]
    split
    · rfl
    · rw [List.getElem?_replicate, List.getElem?_replicate, if_neg (by omega), if_neg (by omega)]
theorem fresh_len (old ws : List Int) (pl : Nat) : (freshL old ws pl).length = max old.length (pl + ws.length) := by
  unfold freshL
  simp only [List.length_append, List.length_take, List.length_drop, List.length_replicate]
  omega
theorem RN.put (R : RN c u N h) {pl : Nat} {ws : List Int} (hn : getM u.titled n = some k) (hk : getM u.known k = some m) (ne : ws ≠ []) (hs : FilesM.sizeP m pl ws ≤ 512) (hl : FilesM.lack m pl ws ≤ u.loose.length) : RN c (u.put k m pl ws) (putM N n (freshL m.content ws pl)) h := by
  have e : u.put k m pl ws = { u with loose := u.loose.drop (FilesM.lack m pl ws) }.withM k { m with content := (FilesM.wider m pl ws).take pl ++ ws ++ (FilesM.wider m pl ws).drop (pl + ws.length), loans := m.loans ++ u.loose.take (FilesM.lack m pl ws) } := if_neg ne
  have lm := (R.lo k m hk).2
  have sz : FilesM.sizeP m pl ws = max m.content.length (pl + ws.length) := rfl
  have la : FilesM.lack m pl ws = nb (FilesM.sizeP m pl ws) - m.loans.length := rfl
  have ge : m.loans.length ≤ nb (FilesM.sizeP m pl ws) := by
    rw [lm, sz]
    unfold nb
    omega
  rw [e]
  refine R.with (m2 := { m with content := (FilesM.wider m pl ws).take pl ++ ws ++ (FilesM.wider m pl ws).drop (pl + ws.length), loans := m.loans ++ u.loose.take (FilesM.lack m pl ws) }) (lo2 := u.loose.drop (FilesM.lack m pl ws)) hn hk rfl rfl fresh_eq (by rw [fresh_len]; omega) ?_ ?_
  · show (m.loans ++ u.loose.take (FilesM.lack m pl ws)).length = _
    rw [List.length_append, List.length_take, fresh_len, ← sz]
    omega
  · show ((u.loose.drop (FilesM.lack m pl ws)).length : Int) + ((m.loans ++ u.loose.take (FilesM.lack m pl ws)).length : Nat) = _
    rw [List.length_append, List.length_take, List.length_drop]
    omega
/-- a name taken away; the file gone, or held still -/
theorem RN.remove (R : RN c u N h) (hn : getM u.titled n = some k) (hk : getM u.known k = some m) : RN c (u.remove n k m) (dropM N n) h := by
  obtain ⟨m0, h1, h2, h3, h4⟩ := R.rd n k hn
  rw [hk] at h1
  cases h1
  have lm := (R.lo k m hk).2
  have e : u.remove n k m = { u with titled := dropM u.titled n, loose := srt (u.loose ++ m.loans), known := dropM u.known k } := by
    unfold FilesM.remove FilesM.idle FilesM.withM
    dsimp only
    rw [if_pos ⟨rfl, h3⟩, drop_put]
  rw [e]
  refine ⟨nd_drop R.ndK, nd_drop R.ndT, ?_, fun j k2 e => ?_, fun j mj => R.nw j (mem_drop.mp mj).1, R.n0, fun j mj => R.nn j (mem_drop.mp mj).1, fun k2 m3 e => ?_, ⟨?_, R.sm.2⟩, ?_, ?_, R.h0⟩
  · show keysM (dropM N n) = keysM (dropM u.titled n)
    rw [keysM_drop, keysM_drop, R.ks]
  · change getM (dropM u.titled n) j = some k2 at e
    rw [getM_drop] at e
    by_cases z : j = n
    · rw [if_pos z] at e
      cases e
    · rw [if_neg z] at e
      obtain ⟨m3, g1, g2, g3, g4⟩ := R.rd j k2 e
      refine ⟨m3, ?_, g2, g3, by rw [getM_drop, if_neg z]; exact g4⟩
      show getM (dropM u.known k) k2 = _
      rw [getM_drop, if_neg ?_]
      · exact g1
      · intro y
        subst y
        rw [hk] at g1
        cases g1
        rw [h2] at g2
        cases g2
        exact z rfl
  · change getM (dropM u.known k) k2 = some m3 at e
    rw [getM_drop] at e
    by_cases z : k2 = k
    · rw [if_pos z] at e
      cases e
    · rw [if_neg z] at e
      exact R.lo k2 m3 e
  · have s1 := R.sm.1
    rw [sumB_get R.ndN h4] at s1
    show ((srt (u.loose ++ m.loans)).length : Int) + h + _ = u.bag
    rw [(srt_perm _).length_eq, List.length_append]
    omega
  · have := (List.length_filter_le (fun e : Int × FileM => decide (e.1 ≠ k)) u.known)
    have := R.lc
    show (dropM u.known k).length ≤ c
    exact Nat.le_trans (by assumption) this
  · have := (perm_get R.ndN h4).length_eq
    have := R.lt
    rw [List.length_cons] at *
    omega
theorem RN.kept (R : RN c u N h) (hn : getM u.titled n = some k) (hk : getM u.known k = some m) : RN c ((u.hold k m).remove n k { m with holders := m.holders + 1 }) (dropM N n) (h + (nb m.content.length : Int)) := by
  obtain ⟨m0, h1, h2, h3, h4⟩ := R.rd n k hn
  rw [hk] at h1
  cases h1
  have lm := (R.lo k m hk).2
  have e : (u.hold k m).remove n k { m with holders := m.holders + 1 } = { u with titled := dropM u.titled n, known := putM (putM u.known k { m with holders := m.holders + 1 }) k { m with holders := m.holders + 1, title := none } } := by
    unfold FilesM.remove FilesM.idle FilesM.hold FilesM.withM
    dsimp only
    rw [if_neg (by rw [h3]; exact fun y => absurd y.2 (by decide))]
  rw [e]
  have gk : ∀ k2, getM (putM (putM u.known k { m with holders := m.holders + 1 }) k { m with holders := m.holders + 1, title := none }) k2 = if k2 = k then some { m with holders := m.holders + 1, title := none } else getM u.known k2 := fun k2 => by
    rw [getM_put, getM_put]
    by_cases z : k2 = k
    · rw [if_pos z, if_pos z]
    · rw [if_neg z, if_neg z, if_neg z]
  have kk : keysM (putM (putM u.known k { m with holders := m.holders + 1 }) k { m with holders := m.holders + 1, title := none }) = keysM u.known := by
    have k1 : keysM (putM u.known k { m with holders := m.holders + 1 }) = keysM u.known := by rw [keys_put, if_pos (key_at hk)]
    rw [keys_put, if_pos (by rw [k1]; exact key_at hk), k1]
  refine ⟨by rw [kk]; exact R.ndK, nd_drop R.ndT, ?_, fun j k2 e => ?_, fun j mj => R.nw j (by rw [← kk]; exact mj), R.n0, fun j mj => R.nn j (mem_drop.mp mj).1, fun k2 m3 e => ?_, ⟨?_, R.sm.2⟩, ?_, ?_, by have := R.h0; omega⟩
  · show keysM (dropM N n) = keysM (dropM u.titled n)
    rw [keysM_drop, keysM_drop, R.ks]
  · change getM (dropM u.titled n) j = some k2 at e
    rw [getM_drop] at e
    by_cases z : j = n
    · rw [if_pos z] at e
      cases e
    · rw [if_neg z] at e
      obtain ⟨m3, g1, g2, g3, g4⟩ := R.rd j k2 e
      refine ⟨m3, ?_, g2, g3, by rw [getM_drop, if_neg z]; exact g4⟩
      dsimp only
      rw [gk, if_neg ?_]
      · exact g1
      · intro y
        subst y
        rw [hk] at g1
        cases g1
        rw [h2] at g2
        cases g2
        exact z rfl
  · dsimp only at e
    rw [gk] at e
    by_cases z : k2 = k
    · rw [if_pos z] at e
      cases e
      exact R.lo k m hk
    · rw [if_neg z] at e
      exact R.lo k2 m3 e
  · have s1 := R.sm.1
    rw [sumB_get R.ndN h4] at s1
    show (u.loose.length : Int) + (h + (nb m.content.length : Int)) + _ = u.bag
    omega
  · have k := congrArg List.length kk
    unfold keysM at k
    rw [List.length_map, List.length_map] at k
    have := R.lc
    dsimp only
    omega
  · have := (perm_get R.ndN h4).length_eq
    have := R.lt
    rw [List.length_cons] at *
    omega
end

end
set_option hygiene false in
local macro_rules | `(tactic| walk_at "szE") => `(tactic| exact (Nat.lt_of_le_of_lt (show _ ≤ 90000 by rw [len_dM]; omega) (Nat.le_of_ble_eq_true rfl)))

set_option hygiene false in
local macro_rules | `(tactic| walk_at "st") => `(tactic| first | ((with_reducible show Sl.gLst _ _ _ (.ref _) _ _ _); refine Sl.r_gLst (by walk_at "sq") rfl ?_) | ((with_reducible show Sl.rExtT _ _ _ _ _); refine Sl.r_extT hs (by walk_at "put") (by walk_at "sqt") (by walk_at "len") ?_; (try clear hs); intro H hs))

set_option hygiene false in
local macro_rules | `(tactic| walk_at "runR") => `(tactic| repeat ((fail_if_success (with_reducible show Sl.Rng1K _ _ _)); walk_at "st"))

section
variable {P : Program} {w : World} {K : PySem.W.Frag} {mg : Str → Option Value} {base : Heap}

/-! ### the picture -/
def encF (e : Int × List Int) : List Int := e.1 :: (e.2.length : Int) :: e.2
def picL (FL : List (Int × List Int)) : List Int := (FL.length : Int) :: FL.flatMap encF
def told (N : List (Int × List Int)) : List (Int × List Int) := (srt (keysM N)).map fun n => (n, (getM N n).getD [])
def pad (ws : List Int) : List Int := ws ++ List.replicate (8 * nb ws.length - ws.length) 0
def chunk (ws : List Int) (i : Nat) : List Int := ((pad ws).drop (8 * i)).take 8
theorem pad_len (ws : List Int) : (pad ws).length = 8 * nb ws.length := by
  unfold pad nb
  rw [List.length_append, List.length_replicate]
  omega
theorem chunk_len {ws : List Int} {i : Nat} (h : i < nb ws.length) : (chunk ws i).length = 8 := by
  unfold chunk
  rw [List.length_take, List.length_drop, pad_len]
  omega
theorem pad_next (ws : List Int) (i : Nat) : (pad ws).take (8 * i) ++ chunk ws i = (pad ws).take (8 * (i + 1)) := by
  unfold chunk
  rw [show 8 * (i + 1) = 8 * i + 8 from rfl, List.take_add]
theorem pad_all (ws : List Int) : (pad ws).take (8 * nb ws.length) = pad ws := by
  rw [← pad_len, List.take_length]
/-- the same block, as the law cuts it -/
theorem chunk_law {ws : List Int} {i : Nat} (h : 8 * i < ws.length) : ((ws.drop (8 * i)) ++ List.replicate 7 0).take 8 = chunk ws i := by
  unfold chunk pad
  apply List.ext_getElem?
  intro j
  rw [List.getElem?_take, List.getElem?_take]
  by_cases hj : j < 8
  · rw [if_pos hj, if_pos hj, List.getElem?_drop, List.getElem?_append, List.getElem?_append, List.length_drop, List.getElem?_drop]
    by_cases h1 : 8 * i + j < ws.length
    · rw [if_pos (by omega), if_pos h1]
    · rw [if_neg (by omega), if_neg h1, List.getElem?_replicate, List.getElem?_replicate, if_pos (by omega), if_pos (by unfold nb; omega)]
  · rw [if_neg hj, if_neg hj]
theorem mem_told {N : List (Int × List Int)} {e : Int × List Int} (h : e ∈ told N) : getM N e.1 = some e.2 := by
  obtain ⟨n, hn, rfl⟩ := List.mem_map.mp h
  obtain ⟨x, hx⟩ := at_key ((srt_perm _).subset hn)
  show getM N n = some ((getM N n).getD [])
  rw [hx]
  rfl
theorem told_len (N : List (Int × List Int)) : (told N).length = N.length := by
  unfold told keysM
  rw [List.length_map, (srt_perm _).length_eq, List.length_map]
theorem told_at {N : List (Int × List Int)} {i : Nat} {n : Int} {ws : List Int} (h : (srt (keysM N))[i]? = some n) (hw : getM N n = some ws) : (told N)[i]? = some (n, ws) := by
  unfold told
  rw [List.getElem?_map, h]
  show some (n, (getM N n).getD []) = _
  rw [hw]
  rfl
theorem flat_len : ∀ (FL : List (Int × List Int)), (FL.flatMap encF).length = 2 * FL.length + (FL.map fun e => e.2.length).sum
  | [] => rfl
  | e :: r => by
    rw [List.flatMap_cons, List.length_append, flat_len r, List.map_cons, List.sum_cons, List.length_cons]
    unfold encF
    rw [List.length_cons, List.length_cons]
    omega
theorem sum_blocks : ∀ (FL : List (Int × List Int)), (FL.map fun e => e.2.length).sum ≤ 8 * (FL.map fun e => nb e.2.length).sum
  | [] => Nat.le_refl _
  | e :: r => by
    have := sum_blocks r
    rw [List.map_cons, List.sum_cons, List.map_cons, List.sum_cons]
    unfold nb at *
    omega
theorem told_sum {N : List (Int × List Int)} (nd : (keysM N).Nodup) : ((told N).map fun e => nb e.2.length).sum = sumB N := by
  have p : (told N).Perm N := by
    have h1 : ((srt (keysM N)).map fun n => (n, (getM N n).getD [])).Perm ((keysM N).map fun n => (n, (getM N n).getD [])) := (srt_perm _).map _
    refine h1.trans ?_
    have e : (keysM N).map (fun n => (n, (getM N n).getD [])) = N := by
      unfold keysM
      rw [List.map_map]
      refine (List.map_congr_left fun e m => ?_).trans (List.map_id N)
      show (e.1, (getM N e.1).getD []) = e
      rw [getM_at nd m]
      rfl
    rw [e]
  exact (p.map (fun e : Int × List Int => nb e.2.length)).sum_nat
theorem RN.pic {c : Nat} {u : FilesM} {N : List (Int × List Int)} {h : Int} (R : RN c u N h) : (picL (told N)).length ≤ 1100 := by
  unfold picL
  rw [List.length_cons, flat_len, told_len]
  have a := sum_blocks (told N)
  rw [told_sum R.ndN] at a
  have := R.few
  have := R.lt
  omega
/-- the files told up to here -/
def picP (FL : List (Int × List Int)) (i : Nat) : List Int := (FL.length : Int) :: (FL.take i).flatMap encF
theorem picP_next {FL : List (Int × List Int)} {i : Nat} {e : Int × List Int} (h : FL[i]? = some e) : picP FL (i + 1) = picP FL i ++ encF e := by
  unfold picP
  rw [List.take_add_one, h]
  simp
theorem picP_all (FL : List (Int × List Int)) : picP FL FL.length = picL FL := by
  unfold picP picL
  rw [List.take_length]
theorem picP_len (FL : List (Int × List Int)) (i : Nat) : (picP FL i).length ≤ (picL FL).length := by
  unfold picP picL
  rw [List.length_cons, List.length_cons]
  have : FL = FL.take i ++ FL.drop i := (List.take_append_drop i FL).symm
  have e : FL.flatMap encF = (FL.take i).flatMap encF ++ (FL.drop i).flatMap encF := by
    conv => lhs; rw [this]
    exact List.flatMap_append
  rw [e, List.length_append]
  omega
theorem r_slT {K : PySem.W.Frag} {H : Hp} {L : List SA} {a : Addr} {xs : List V} {lo hi : Option Int} {Q : VK} (hs : Hd L H) (h : SqT K H a xs) (ne : ¬ (HT.sIx xs.length 0 lo = 0 ∧ HT.sIx xs.length xs.length hi = xs.length)) (q : ∀ p H', Hd (pto p (.tup (cutV xs lo hi)) :: L) H' → Q (.ref p) H') : rSlT K (.ref a) lo hi H Q :=
  ⟨a, xs, rfl, h, ne, fun p n => q p _ (hs.new n)⟩

def sp_wrapped (T : Txt K mg) : Sp := fun vs H Q _ => ∃ (n : Int), vs = [.int n] ∧ Q (.int (n % 65536)) H
theorem ok_wrapped (T : Txt K mg) : FnOk P w K mg base CX0 2 T.a_wrapped T.d_wrapped ["number"] (sp_wrapped T) := by
  refine T.f_wrapped.ok sc_wrapped (fun vs H Q E h => ?_) (fun cdv A outer s H vs Q E hr h => ?_)
  · obtain ⟨n, rfl, _⟩ := h
    rfl
  · obtain ⟨n, rfl, h⟩ := h
    refine ⟨_, (pss_cons (ps_if (pt_not (pt_val (pe_call (ok_is_whole T) hr (by rfl) T.g_is_whole T.f_is_whole.kp T.b_is_whole .nil pass0 (pa_cons (pv 0) pa_nil))))
        (pss_one ps_never)
        pss_nil)
       (pss_one (ps_ret (pe_op (k_mod (K := K) rfl) (pv 0) (pe_glob (v := .int 65536) (by rfl) T.g_WORDS.choose_spec ⟨_, rfl⟩))))), ?_⟩
    try dsimp only [cxOf]
    walk_at "run"
    refine ⟨n, rfl, ?_⟩
    walk_at "run"
    exact h
def sp_words_of (T : Txt K mg) : Sp := fun vs H Q _ => ∃ (p : Addr)  (c : Nat) (u : FilesM) (N : List (Int × List Int)) (hb : Int) (L : List SA), vs = [.ref p] ∧ (RN c u N hb ∧ True) ∧ Hd (filesA T.C_File T.C_Files p u :: L) H ∧ ∀ a H', Hd (pto a (.lst ((picL (told N)).map V.int)) :: filesA T.C_File T.C_Files p u :: L) H' → Q (.ref a) H'
theorem ok_words_of (T : Txt K mg) : FnOk P w K mg base CX0 5 T.a_words_of T.d_words_of ["files"] (sp_words_of T) := by
  refine T.f_words_of.ok sc_words_of (fun vs H Q E h => ?_) (fun cdv A outer s H vs Q E hr h => ?_)
  · obtain ⟨p, c, u, N, h, L, rfl, _⟩ := h
    rfl
  · obtain ⟨p, c, u, N, h, L, rfl, h⟩ := h
    refine ⟨_, (pss_cons (ps_set (i := 1) sc_words_of.nd rfl (by first | exact Or.inl rfl | exact Or.inr rfl) (pe_lst (pa_cons (pe_callB (k_len (K := K) rfl) (by rfl) T.n_len (by decide +kernel) (pa_cons (pe_meth0 (pv 0) T.cl_Files T.m_Files_names (ok_Files_names T) (hr.mono (by decide)) T.b_Files_names .nil pass0) pa_nil)) pa_nil)))
       (pss_cons (ps_for PassesOwn.never rfl (pi_list (pe_meth0 (pv 0) T.cl_Files T.m_Files_names (ok_Files_names T) (hr.mono (by decide)) T.b_Files_names .nil pass0)) (pg_name (i := 2) sc_words_of.nd rfl (by first | exact Or.inl rfl | exact Or.inr rfl))
        (pss_cons (ps_set (i := 3) sc_words_of.nd rfl (by first | exact Or.inl rfl | exact Or.inr rfl) (pe_meth (pv 0) T.cl_Files T.m_Files_file_of (ok_Files_file_of T) hr T.b_Files_file_of .nil pass0 (pa_cons (pv 2) pa_nil)))
       (pss_cons (ps_set (i := 4) sc_words_of.nd rfl (by first | exact Or.inl rfl | exact Or.inr rfl) (pe_meth (pv 0) T.cl_Files T.m_Files_length (ok_Files_length T) (hr.mono (by decide)) T.b_Files_length .nil pass0 (pa_cons (pv 3) pa_nil)))
       (pss_cons (ps_expr (k_bm (K := K) rfl (pe_bm PySem.F.plainAttrs_list PySem.F.slot_list_extend PySem.F.type_list_extend mt_extend (pv 1) (pa_cons (pe_lst (pa_cons (pv 2) (pa_cons (pv 4) pa_nil))) pa_nil))))
       (pss_one (ps_expr (k_bm (K := K) rfl (pe_bm PySem.F.plainAttrs_list PySem.F.slot_list_extend PySem.F.type_list_extend mt_extend (pv 1) (pa_cons (pe_meth (pv 0) T.cl_Files T.m_Files_read (ok_Files_read T) (hr.mono (by decide)) T.b_Files_read .nil pass0 (pa_cons (pv 3) (pa_cons pe_int (pa_cons (pv 4) pa_nil)))) pa_nil)))))))))
       (pss_one (ps_ret (pv 1))))), ?_⟩
    try dsimp only [cxOf]
    obtain ⟨⟨R, -⟩, hs, y⟩ := h
    obtain ⟨f1, f2, f3, f4, f5⟩ := R.few
    have lp := R.pic
    walk_at "run"
    refine ⟨p, u, _, rfl, by omega, hs, fun a1 H hs => ?_⟩
    walk_at "run"
    obtain ⟨D, eD⟩ : ∃ x, x = q_ := ⟨_, rfl⟩
    rw [← eD] at hs ⊢
    refine ⟨p, u, _, rfl, by omega, Hd.mt (by walk_at "mt") hs, fun S H hs => ?_⟩
    rw [List.length_map] at hs
    have lk : (srt (keysM u.titled)).length = u.titled.length := by rw [(srt_perm _).length_eq]; exact List.length_map _
    have e0 : picP (told N) 0 = [((srt (keysM u.titled)).length : Int)] := by
      unfold picP
      rw [told_len, lk, f2]
      rfl
    have hs : Hd (pto D (.lst ((picP (told N) 0).map V.int)) :: pto S (.lst ((srt (keysM u.titled)).map V.int)) :: filesA T.C_File T.C_Files p u :: L) H := by
      rw [e0]
      show Hd (pto D (.lst [.int ((srt (keysM u.titled)).length : Int)]) :: _) H
      exact Hd.mt (by walk_at "mt") hs
    walk_at "run"
    refine Sl.r_forL ((srt (keysM u.titled)).map V.int) (fun i σ H => ∃ (v2 v3 v4 : Option V), σ = [some (.ref p), some (.ref D), v2, v3, v4] ∧ Hd (pto D (.lst ((picP (told N) i).map V.int)) :: pto S (.lst ((srt (keysM u.titled)).map V.int)) :: filesA T.C_File T.C_Files p u :: L) H) ⟨_, _, _, rfl, hs⟩ (fun i σ H _ ⟨_, _, _, _, hs⟩ => hs.sq (by walk_at "pull")) ?_ ?_
    · clear hs
      rintro i x0 σ H hx ⟨v2, v3, v4, rfl, hs⟩
      rw [List.getElem?_map] at hx
      obtain ⟨n, hn, rfl⟩ := Option.map_eq_some_iff.mp hx
      obtain ⟨k, hk⟩ := at_key ((srt_perm _).subset (List.mem_of_getElem? hn))
      obtain ⟨m, h1, h2, h3, h4⟩ := R.rd n k hk
      have n0 := R.nn n (key_at h4)
      have l5 := (R.lo k m h1).1
      have lq := picP_len (told N) i
      walk_at "run"
      refine ⟨p, n, k, u, _, rfl, ⟨n0, hk⟩, Hd.mt (by walk_at "mt") hs, ?_⟩
      walk_at "run"
      refine ⟨p, k, m, u, _, rfl, h1, Hd.mt (by walk_at "mt") hs, ?_⟩
      walk_at "run"
      refine ⟨p, k, 0, m.content.length, m, u, _, rfl, h1, Hd.mt (by walk_at "mt") hs, fun rd H hs => ?_⟩
      rw [List.drop_zero, List.take_length] at hs
      walk_at "run"
      refine ⟨_, _, _, rfl, ?_⟩
      have et : (told N)[i]? = some (n, m.content) := told_at (by rw [R.ks]; exact hn) h4
      rw [picP_next et, List.map_append]
      have ee : (encF (n, m.content)).map V.int = [V.int n, V.int (m.content.length : Int)] ++ m.content.map V.int := rfl
      rw [ee, ← List.append_assoc]
      exact Hd.mt (by walk_at "mt") hs
    clear hs
    rintro σ H ⟨v2, v3, v4, rfl, hs⟩
    rw [List.length_map, lk, f2, ← told_len, picP_all] at hs
    walk_at "run"
    exact y _ _ (Hd.mt (by walk_at "mt") hs)
end
section
variable {P : Program} {w : World} {K : PySem.W.Frag} {mg : Str → Option Value} {base : Heap}

/-! ### sureness -/
abbrev DS := Blk × Int × Option Int
def firstB (hf : Int) : Int := if hf = 1 then 1 else 200
def halfM (M : Blk) : Int := if (blk M 0).headD 0 = 1 then 2 else 1
def wrM (x : DS) (n : Int) (ws : List Int) : DS := (wrB x.1 x.2.2 n ws, wrK x.2.1 x.2.2, wrS x.2.2)
def layS (x : DS) (f : Int) (ws : List Int) : Nat → DS
  | 0 => x
  | i + 1 => if blk (layS x f ws i).1 (f + (i : Int)) = chunk ws i then layS x f ws i else wrM (layS x f ws i) (f + (i : Int)) (chunk ws i)
def headW (M : Blk) (ws : List Int) : List Int := [halfM M, (ws.length : Int), ws.sum % 65536, 0, 0, 0, 0, 0]
def sureM (M : Blk) (k : Int) (sp : Option Int) (ws : List Int) : DS := wrM (layS (M, k, sp) (firstB (halfM M)) ws (nb ws.length)) 0 (headW M ws)
theorem disk_eight {C p : Addr} {M : Blk} {k : Int} {sp : Option Int} {L L' : List SA} {H : Hp} (h : Hd L H) (pl : Pull (diskA C p M k sp) L L') : ∀ n ws, M n = some ws → ws.length = 8 := by
  obtain ⟨dx, d, z⟩ := disk_open (h.pull pl)
  obtain ⟨kvs, -, -, hv⟩ := z.at (up_tbl d M k) (.there .here)
  intro n ws e
  rcases hv n with ⟨-, e2⟩ | ⟨t, ws2, -, -, e2, l⟩
  · rw [e] at e2
    cases e2
  · rw [e] at e2
    cases e2
    exact l
theorem blk_eight {M : Blk} (h : ∀ n ws, M n = some ws → ws.length = 8) (n : Int) : (blk M n).length = 8 := by
  unfold blk
  cases e : M n with
  | none => rfl
  | some ws => exact h n ws e
theorem cons_of {l : List Int} (h : l.length = 8) : ∃ b r, l = b :: r := by
  cases l with
  | nil => cases h
  | cons b r => exact ⟨b, r, rfl⟩
theorem half_of {M : Blk} {b : Int} {r : List Int} (e : blk M 0 = b :: r) : (if b = 1 then (2 : Int) else 1) = halfM M := by
  unfold halfM
  rw [e]
  rfl
theorem half_two (M : Blk) : halfM M = 1 ∨ halfM M = 2 := by
  unfold halfM
  split
  · exact .inr rfl
  · exact .inl rfl
theorem r_pickC {p : Prop} [Decidable p] {a b : Int} {σ : L2.St} {H : Hp} {Q : VK} (q : Q (.int (if p then a else b)) H) : if decide p = true then tC (.int a) σ H Q else tC (.int b) σ H Q := by
  by_cases h : p
  · rw [if_pos (decide_eq_true h)]
    rw [if_pos h] at q
    exact q
  · rw [if_neg (by rw [decide_eq_false h]; decide)]
    rw [if_neg h] at q
    exact q
theorem rep_flat (n : Nat) (x : V) : (List.replicate n [x]).flatten = List.replicate n x := by
  induction n with
  | zero => rfl
  | succ n ih => rw [List.replicate_succ, List.flatten_cons, ih]; rfl
theorem eqv_all : ∀ xs ys : List Int, PyData.eqvAll (xs.map PyData.int) (ys.map PyData.int) = decide (xs = ys)
  | [], [] => rfl
  | [], _ :: _ => rfl
  | _ :: _, [] => rfl
  | x :: xs, y :: ys => by
    rw [List.map_cons, List.map_cons, PyData.eqvAll, eqv_all xs ys]
    by_cases h : x = y
    · subst h
      by_cases h2 : xs = ys
      · subst h2
        simp [PyData.eqv]
      · simp [PyData.eqv, h2]
    · simp [PyData.eqv, h]
theorem r_neTup {K : PySem.W.Frag} {H : Hp} {Q : VK} {a b : Addr} {xs ys : List Int} (h1 : SqT K H a (xs.map V.int)) (h2 : SqT K H b (ys.map V.int)) (q : Q (.bl (!decide (xs = ys))) H) : rNeU K (.ref a) (.ref b) H Q :=
  Sl.r_neD (d := .tuple (xs.map PyData.int)) (e := .tuple (ys.map PyData.int)) (.tup h1 (dp_ints xs)) (.tup h2 (dp_ints ys)) (sh_tupI _) (sh_tupI _) (by rw [show PyData.eqv (.tuple (xs.map PyData.int)) (.tuple (ys.map PyData.int)) = PyData.eqvAll (xs.map PyData.int) (ys.map PyData.int) by rw [PyData.eqv], eqv_all]; exact q)
theorem layS_k (x : DS) (f : Int) (ws : List Int) : ∀ i, x.2.1 ≤ (layS x f ws i).2.1 ∧ (layS x f ws i).2.1 ≤ x.2.1 + (i : Int)
  | 0 => ⟨Int.le_refl _, by show x.2.1 ≤ _; omega⟩
  | i + 1 => by
    have h := layS_k x f ws i
    unfold layS
    split
    · omega
    · show _ ≤ wrK _ _ ∧ wrK _ _ ≤ _
      unfold wrK
      split <;> omega

def sp_sure (T : Txt K mg) : Sp := fun vs H Q _ => ∃ (p d : Addr) (c : Nat) (u : FilesM) (N : List (Int × List Int)) (hb : Int) (M : Blk) (k : Int) (sp : Option Int) (L : List SA), vs = [.ref d, .ref p] ∧ (RN c u N hb ∧ 0 ≤ k ∧ k ≤ 80000) ∧ Hd (filesA T.C_File T.C_Files p u :: diskA T.C_Disk d M k sp :: L) H ∧ ∀ H', Hd (filesA T.C_File T.C_Files p u :: diskA T.C_Disk d (sureM M k sp (picL (told N))).1 (sureM M k sp (picL (told N))).2.1 (sureM M k sp (picL (told N))).2.2 :: L) H' → Q .non H'
theorem ok_sure (T : Txt K mg) : FnOk P w K mg base CX0 6 T.a_sure T.d_sure ["disk", "files"] (sp_sure T) := by
  refine T.f_sure.ok sc_sure (fun vs H Q E h => ?_) (fun cdv A outer s H vs Q E hr h => ?_)
  · obtain ⟨p, d, c, u, N, hb, M, k, sp, L, rfl, _⟩ := h
    rfl
  · obtain ⟨p, d, c, u, N, hb, M, k, sp, L, rfl, h⟩ := h
    refine ⟨_, (pss_cons (ps_set (i := 2) sc_sure.nd rfl (by first | exact Or.inl rfl | exact Or.inr rfl) (pe_ifExp (pt_cmpR (k_eq (K := K) rfl hr.units) (pe_ix (k_ix (K := K) rfl (hu_of hr)) (pe_meth (pv 0) T.cl_Disk T.m_Disk_block (ok_Disk_block T) (hr.mono (by decide)) T.b_Disk_block .nil pass0 (pa_cons pe_int pa_nil)) pe_int (fun _ _ => rfl)) pe_int (nomark _)) pe_int pe_int))
       (pss_cons (ps_set (i := 3) sc_sure.nd rfl (by first | exact Or.inl rfl | exact Or.inr rfl) (pe_call (ok_words_of T) hr (by rfl) T.g_words_of T.f_words_of.kp T.b_words_of .nil pass0 (pa_cons (pv 1) pa_nil)))
       (pss_cons (ps_set (i := 4) sc_sure.nd rfl (by first | exact Or.inl rfl | exact Or.inr rfl) (pe_callB (k_len (K := K) rfl) (by rfl) T.n_len (by decide +kernel) (pa_cons (pv 3) pa_nil)))
       (pss_cons (ps_set (i := 5) sc_sure.nd rfl (by first | exact Or.inl rfl | exact Or.inr rfl) (pe_callB (k_sum (K := K) rfl rfl) (by rfl) T.n_sum (by decide +kernel) (pa_cons (pv 3) pa_nil)))
       (pss_cons (ps_expr (k_bm (K := K) rfl (pe_bm PySem.F.plainAttrs_list PySem.F.slot_list_extend PySem.F.type_list_extend mt_extend (pv 3) (pa_cons (pe_op (k_mul (K := K) rfl) (pe_lst (pa_cons pe_int pa_nil)) (pe_op (k_mod (K := K) rfl) (pe_un un_neg (pv 4)) (pe_glob (v := .int 8) (by rfl) T.g_BLOCK_disk.choose_spec ⟨_, rfl⟩))) pa_nil))))
       (pss_cons (ps_for PassesOwn.never rfl (pi_range1 (by rfl) T.n_range (pa_cons (pe_op (k_div (K := K) rfl) (pe_callB (k_len (K := K) rfl) (by rfl) T.n_len (by decide +kernel) (pa_cons (pv 3) pa_nil)) (pe_glob (v := .int 8) (by rfl) T.g_BLOCK_disk.choose_spec ⟨_, rfl⟩)) pa_nil)) (pg_name (i := 6) sc_sure.nd rfl (by first | exact Or.inl rfl | exact Or.inr rfl))
        (pss_cons (ps_set (i := 7) sc_sure.nd rfl (by first | exact Or.inl rfl | exact Or.inr rfl) (pe_callTy (k_tuple (K := K) rfl) (by rfl) T.n_tuple (by decide +kernel) (pa_cons (pe_slice (k_slL (K := K) rfl) (pv 3) (po_some (pe_op (k_mul (K := K) rfl) (pv 6) (pe_glob (v := .int 8) (by rfl) T.g_BLOCK_disk.choose_spec ⟨_, rfl⟩))) (po_some (pe_op (k_add (K := K) rfl) (pe_op (k_mul (K := K) rfl) (pv 6) (pe_glob (v := .int 8) (by rfl) T.g_BLOCK_disk.choose_spec ⟨_, rfl⟩)) (pe_glob (v := .int 8) (by rfl) T.g_BLOCK_disk.choose_spec ⟨_, rfl⟩)))) pa_nil)))
       (pss_one (ps_if (pt_cmpR (k_ne (K := K) rfl hr.units) (pe_meth (pv 0) T.cl_Disk T.m_Disk_block (ok_Disk_block T) (hr.mono (by decide)) T.b_Disk_block .nil pass0 (pa_cons (pe_op (k_add (K := K) rfl) (pe_ix (k_ix (K := K) rfl (hu_of hr)) (pe_glob (v := .ref T.a_FIRSTS) (by rfl) T.g_FIRSTS rfl) (pe_op (k_sub (K := K) rfl) (pv 2) pe_int) (fun _ _ => rfl)) (pv 6)) pa_nil)) (pv 7) (nomark _))
        (pss_one (ps_expr (pe_meth (pv 0) T.cl_Disk T.m_Disk_write (ok_Disk_write T) (hr.mono (by decide)) T.b_Disk_write .nil pass0 (pa_cons (pe_op (k_add (K := K) rfl) (pe_ix (k_ix (K := K) rfl (hu_of hr)) (pe_glob (v := .ref T.a_FIRSTS) (by rfl) T.g_FIRSTS rfl) (pe_op (k_sub (K := K) rfl) (pv 2) pe_int) (fun _ _ => rfl)) (pv 6)) (pa_cons (pv 7) pa_nil)))))
        pss_nil))))
       (pss_one (ps_expr (pe_meth (pv 0) T.cl_Disk T.m_Disk_write (ok_Disk_write T) (hr.mono (by decide)) T.b_Disk_write .nil pass0 (pa_cons pe_int (pa_cons (pe_tup (pa_cons (pv 2) (pa_cons (pv 4) (pa_cons (pe_call (ok_wrapped T) (hr.mono (by decide)) (by rfl) T.g_wrapped T.f_wrapped.kp T.b_wrapped .nil pass0 (pa_cons (pv 5) pa_nil)) (pa_cons pe_int (pa_cons pe_int (pa_cons pe_int (pa_cons pe_int (pa_cons pe_int pa_nil))))))))) pa_nil))))))))))), ?_⟩
    try dsimp only [cxOf]
    obtain ⟨⟨R, k0, hk⟩, hs, y⟩ := h
    have lp := R.pic
    walk_at "run"
    refine ⟨d, 0, M, k, sp, _, rfl, Hd.mt (by walk_at "mt") hs, fun t H hs => ?_⟩
    walk_at "run"
    have o8 := disk_eight hs (by walk_at "pull")
    obtain ⟨b0, br, eb⟩ := cons_of (blk_eight o8 0)
    refine Sl.r_ixT (hs.st (a := t) (by walk_at "pull")) (show atI ((blk M 0).map V.int) 0 = some (.int b0) from by rw [eb]; exact Sl.atI_head) ?_
    iterate 3 walk_at "st"
    refine r_pickC ?_
    rw [half_of eb]
    walk_at "run"
    refine ⟨p, c, u, N, hb, _, rfl, ⟨R, trivial⟩, Hd.mt (by walk_at "mt") hs, fun W H hs => ?_⟩
    generalize eP : picL (told N) = P at *
    walk_at "run"
    rw [List.length_map]
    refine Sl.r_sum (hs.sq (a := W) (by walk_at "pull")) ?_
    have hz : ((List.replicate (-(P.length : Int) % 8).toNat [V.int 0]).flatten).length ≤ 8 := by
      rw [rep_flat, List.length_replicate]
      omega
    walk_at "runR"
    have ez : List.map V.int P ++ (List.replicate (-(P.length : Int) % 8).toNat [V.int 0]).flatten = (pad P).map V.int := by
      unfold pad nb
      rw [List.map_append, List.map_replicate, rep_flat]
      congr 2
      omega
    rw [ez] at hs ⊢
    rw [List.length_map, pad_len]
    have hb2 : nb P.length ≤ 138 := by
      unfold nb
      omega
    walk_at "run"
    have o9 := half_two M
    refine Sl.r_forR (fun i σ H => ∃ (v6 v7 : Option V), σ = [some (.ref d), some (.ref p), some (.int (halfM M)), some (.ref W), some (.int (P.length : Int)), some (.int P.sum), v6, v7] ∧ Hd (pto W (.lst ((pad P).map V.int)) :: filesA T.C_File T.C_Files p u :: diskA T.C_Disk d (layS (M, k, sp) (firstB (halfM M)) P i).1 (layS (M, k, sp) (firstB (halfM M)) P i).2.1 (layS (M, k, sp) (firstB (halfM M)) P i).2.2 :: L) H) ⟨_, _, rfl, (by show Hd (_ :: _ :: diskA T.C_Disk d M k sp :: L) H; exact Hd.mt (by walk_at "mt") hs)⟩ ?_ ?_
    · clear hs
      rintro i σ H hi ⟨v6, v7, rfl, hs⟩
      have hi : i < nb P.length := by omega
      have lk := layS_k (M, k, sp) (firstB (halfM M)) P i
      have ec : cutV ((pad P).map V.int) (some (((8 * i : Nat)) : Int)) (some (((8 * i + 8 : Nat)) : Int)) = (chunk P i).map V.int := by
        rw [cut_both]
        unfold chunk
        rw [show 8 * i + 8 - 8 * i = 8 by omega]
      have e1 : (0 + (i : Int)) * 8 = ((8 * i : Nat) : Int) := by omega
      have e2 : ((8 * i : Nat) : Int) + 8 = ((8 * i + 8 : Nat) : Int) := by omega
      have e3 : (0 + (i : Int)) = (i : Int) := Int.zero_add _
      walk_at "run"
      rw [e1, e2, ec] at hs
      obtain ⟨B, eB⟩ : ∃ x, x = q_ := ⟨_, rfl⟩
      rw [← eB] at hs ⊢
      have at1 : atI [V.int 1, V.int 200] (halfM M - 1) = some (.int (firstB (halfM M))) := by
        rcases o9 with h | h <;> rw [h] <;> rfl
      refine Sl.r_ixT (T.t_FIRSTS _) at1 ?_
      walk_at "run"
      refine ⟨d, _, _, _, _, _, rfl, Hd.mt (by walk_at "mt") hs, fun t2 H hs => ?_⟩
      rw [e3] at hs ⊢
      walk_at "run"
      refine r_neTup (hs.st (a := t2) (by walk_at "pull")) (hs.st (a := B) (by walk_at "pull")) ?_
      walk_at "st"
      have en : layS (M, k, sp) (firstB (halfM M)) P (i + 1) = if blk (layS (M, k, sp) (firstB (halfM M)) P i).1 (firstB (halfM M) + (i : Int)) = chunk P i then layS (M, k, sp) (firstB (halfM M)) P i else wrM (layS (M, k, sp) (firstB (halfM M)) P i) (firstB (halfM M) + (i : Int)) (chunk P i) := rfl
      refine Sl.r_iteN (fun z => ?_) (fun z => ?_)
      · walk_at "run"
        refine Sl.r_ixT (T.t_FIRSTS _) at1 ?_
        walk_at "run"
        have hs : Hd (pto B (.tup ((chunk P i).map V.int)) :: _) H := hs.pull (by walk_at "pull")
        have hs : Hd (pto B (seqO true ((chunk P i).map V.int)) :: _) H := hs
        dsimp only at lk
        refine ⟨d, firstB (halfM M) + (i : Int), B, true, chunk P i, (layS (M, k, sp) (firstB (halfM M)) P i).1, (layS (M, k, sp) (firstB (halfM M)) P i).2.1, (layS (M, k, sp) (firstB (halfM M)) P i).2.2, _, rfl, ⟨chunk_len hi, by omega⟩, Hd.mt (by walk_at "mt") hs, fun H hs => ?_⟩
        have hs : Hd (diskA T.C_Disk d (wrM (layS (M, k, sp) (firstB (halfM M)) P i) (firstB (halfM M) + (i : Int)) (chunk P i)).1 (wrM (layS (M, k, sp) (firstB (halfM M)) P i) (firstB (halfM M) + (i : Int)) (chunk P i)).2.1 (wrM (layS (M, k, sp) (firstB (halfM M)) P i) (firstB (halfM M) + (i : Int)) (chunk P i)).2.2 :: _) H := hs
        walk_at "run"
        refine ⟨_, _, rfl, ?_⟩
        rw [en, if_neg z]
        exact Hd.mt (by walk_at "mt") hs
      · walk_at "run"
        refine ⟨_, _, rfl, ?_⟩
        rw [en, if_pos z]
        exact Hd.mt (by walk_at "mt") hs
    clear hs
    rintro σ H ⟨v6, v7, rfl, hs⟩
    rw [show (((8 * nb P.length : Nat) : Int) / 8).toNat = nb P.length by omega] at hs
    have lk := layS_k (M, k, sp) (firstB (halfM M)) P (nb P.length)
    walk_at "run"
    refine ⟨P.sum, rfl, ?_⟩
    walk_at "run"
    have hs : Hd (pto q_ (seqO true ((headW M P).map V.int)) :: _) H := hs
    dsimp only at lk
    have e9 : sureM M k sp P = wrM (layS (M, k, sp) (firstB (halfM M)) P (nb P.length)) 0 (headW M P) := rfl
    rw [e9] at y
    generalize layS (M, k, sp) (firstB (halfM M)) P (nb P.length) = Z at *
    refine ⟨d, 0, q_, true, headW M P, Z.1, Z.2.1, Z.2.2, _, rfl, ⟨rfl, by omega⟩, Hd.mt (by walk_at "mt") hs, fun H hs => ?_⟩
    have hs : Hd (diskA T.C_Disk d (wrM Z 0 (headW M P)).1 (wrM Z 0 (headW M P)).2.1 (wrM Z 0 (headW M P)).2.2 :: _) H := hs
    walk_at "run"
    exact y _ (Hd.mt (by walk_at "mt") hs)
end
section
variable {P : Program} {w : World} {K : PySem.W.Frag} {mg : Str → Option Value} {base : Heap}

/-! ### a rise -/
def toldD (e : Int × List Int) : PyData := .tuple [.int e.1, .tuple (e.2.map PyData.int)]
/-- what the disk's head tells: these files -/
def DkOk (M : Blk) (FL : List (Int × List Int)) : Prop :=
  (M 0 = none ∧ FL = []) ∨ ∃ hf tt : Int, (hf = 1 ∨ hf = 2) ∧ blk M 0 = [hf, ((picL FL).length : Int), tt, 0, 0, 0, 0, 0] ∧ (picL FL).length ≤ 1200 ∧ ∀ i : Nat, i < nb (picL FL).length → blk M (firstB hf + (i : Int)) = chunk (picL FL) i
theorem tl_snoc {K : PySem.W.Frag} {H : Hp} {L : List SA} {T t : Addr} {n : Int} {c : List Int} {xs : List V} {ds : List PyData} (h : Hd (pto T (.tup [.int n, .ref t]) :: pto t (.tup (c.map V.int)) :: Sd.dsA K xs ds :: L) H) : Hd (Sd.dsA K (xs ++ [.ref T]) (ds ++ [toldD (n, c)]) :: L) H :=
  Sd.ds_snoc (A := Sd.dpA K (.ref T) (toldD (n, c))) Sd.up_dp (fun _ z => z) (Hd.join (up_pto _ _) (up_pto _ _) h fun G z1 z2 => .tup (SqT.of z1) (.cons (.int _) (.cons (.tup (SqT.of z2) (dp_ints c)) .nil)))
def posF (FL : List (Int × List Int)) (i : Nat) : Nat := 1 + ((FL.take i).flatMap encF).length
theorem posF_next {FL : List (Int × List Int)} {i : Nat} {n : Int} {c : List Int} (h : FL[i]? = some (n, c)) : posF FL (i + 1) = posF FL i + 2 + c.length := by
  unfold posF
  rw [List.take_add_one, h]
  simp [encF]
  omega
theorem flat_split (FL : List (Int × List Int)) (i : Nat) : FL.flatMap encF = (FL.take i).flatMap encF ++ (FL.drop i).flatMap encF := by
  conv => lhs; rw [← List.take_append_drop i FL]
  exact List.flatMap_append
theorem pad_drop {FL : List (Int × List Int)} {i : Nat} {n : Int} {c : List Int} (h : FL[i]? = some (n, c)) : ∃ r, (pad (picL FL)).drop (posF FL i) = n :: (c.length : Int) :: (c ++ r) := by
  have e : FL.drop i = (n, c) :: FL.drop (i + 1) := by
    obtain ⟨hi, hn⟩ := List.getElem?_eq_some_iff.mp h
    rw [List.drop_eq_getElem_cons hi, hn]
  refine ⟨(FL.drop (i + 1)).flatMap encF ++ List.replicate (8 * nb (picL FL).length - (picL FL).length) 0, ?_⟩
  have e2 : pad (picL FL) = ((FL.length : Int) :: (FL.take i).flatMap encF) ++ (n :: (c.length : Int) :: (c ++ ((FL.drop (i + 1)).flatMap encF ++ List.replicate (8 * nb (picL FL).length - (picL FL).length) 0))) := by
    conv => lhs; unfold pad
    rw [show picL FL ++ List.replicate (8 * nb (picL FL).length - (picL FL).length) 0 = (FL.length : Int) :: (FL.flatMap encF ++ List.replicate (8 * nb (picL FL).length - (picL FL).length) 0) from rfl, flat_split FL i, e, List.flatMap_cons]
    simp [encF]
  rw [e2]
  have l : ((FL.length : Int) :: (FL.take i).flatMap encF).length = posF FL i := by
    unfold posF
    rw [List.length_cons]
    omega
  rw [← l, List.drop_left]
theorem posF_le (FL : List (Int × List Int)) (i : Nat) : posF FL i ≤ (picL FL).length := by
  unfold posF picL
  rw [flat_split FL i, List.length_cons, List.length_append]
  omega
theorem pic_files (FL : List (Int × List Int)) : 2 * FL.length + 1 ≤ (picL FL).length := by
  unfold picL
  rw [List.length_cons, flat_len]
  omega

def sp_rise (T : Txt K mg) : Sp := fun vs H Q _ => ∃ (d : Addr) (M : Blk) (k : Int) (sp : Option Int) (FL : List (Int × List Int)) (L : List SA), vs = [.ref d] ∧ DkOk M FL ∧ Hd (diskA T.C_Disk d M k sp :: L) H ∧ ∀ a xs H', Hd (pto a (.lst xs) :: Sd.dsA K xs (FL.map toldD) :: diskA T.C_Disk d M k sp :: L) H' → Q (.ref a) H'
theorem ok_rise (T : Txt K mg) : FnOk P w K mg base CX0 2 T.a_rise T.d_rise ["disk"] (sp_rise T) := by
  refine T.f_rise.ok sc_rise (fun vs H Q E h => ?_) (fun cdv A outer s H vs Q E hr h => ?_)
  · obtain ⟨d, M, k, sp, FL, L, rfl, _⟩ := h
    rfl
  · obtain ⟨d, M, k, sp, FL, L, rfl, h⟩ := h
    refine ⟨_, (pss_cons (ps_asg (pe_slice (k_slT (K := K) rfl) (pe_meth (pv 0) T.cl_Disk T.m_Disk_block (ok_Disk_block T) hr T.b_Disk_block .nil pass0 (pa_cons pe_int pa_nil)) po_none (po_some pe_int)) (k_gTup (K := K) (n := 2) rfl (pg_tup (n := 2) (by rfl) (pgs_cons (pg_name (i := 1) sc_rise.nd rfl (by first | exact Or.inl rfl | exact Or.inr rfl)) (pgs_cons (pg_name (i := 2) sc_rise.nd rfl (by first | exact Or.inl rfl | exact Or.inr rfl)) pgs_nil)))))
       (pss_cons (ps_if (pt_cmpR (k_eq (K := K) rfl hr.units) (pv 1) pe_int (nomark _))
        (pss_one (ps_ret (pe_lst pa_nil)))
        pss_nil)
       (pss_cons (ps_set (i := 3) sc_rise.nd rfl (by first | exact Or.inl rfl | exact Or.inr rfl) (pe_lst pa_nil))
       (pss_cons (ps_for PassesOwn.never rfl (pi_range1 (by rfl) T.n_range (pa_cons (pe_op (k_div (K := K) rfl) (pe_op (k_sub (K := K) rfl) (pe_op (k_add (K := K) rfl) (pv 2) (pe_glob (v := .int 8) (by rfl) T.g_BLOCK_disk.choose_spec ⟨_, rfl⟩)) pe_int) (pe_glob (v := .int 8) (by rfl) T.g_BLOCK_disk.choose_spec ⟨_, rfl⟩)) pa_nil)) (pg_name (i := 4) sc_rise.nd rfl (by first | exact Or.inl rfl | exact Or.inr rfl))
        (pss_one (ps_expr (k_bm (K := K) rfl (pe_bm PySem.F.plainAttrs_list PySem.F.slot_list_extend PySem.F.type_list_extend (Sl.k_mtExtT (K := K) rfl) (pv 3) (pa_cons (pe_meth (pv 0) T.cl_Disk T.m_Disk_block (ok_Disk_block T) hr T.b_Disk_block .nil pass0 (pa_cons (pe_op (k_add (K := K) rfl) (pe_ix (k_ix (K := K) rfl (hu_of hr)) (pe_glob (v := .ref T.a_FIRSTS) (by rfl) T.g_FIRSTS rfl) (pe_op (k_sub (K := K) rfl) (pv 1) pe_int) (fun _ _ => rfl)) (pv 4)) pa_nil)) pa_nil))))))
       (pss_cons (ps_set (i := 5) sc_rise.nd rfl (by first | exact Or.inl rfl | exact Or.inr rfl) (pe_lst pa_nil))
       (pss_cons (ps_set (i := 6) sc_rise.nd rfl (by first | exact Or.inl rfl | exact Or.inr rfl) pe_int)
       (pss_cons (ps_for PassesOwn.never rfl (pi_range1 (by rfl) T.n_range (pa_cons (pe_ix (k_ix (K := K) rfl (hu_of hr)) (pv 3) pe_int (fun _ _ => rfl)) pa_nil)) (pg_name (i := 7) sc_rise.nd rfl (by first | exact Or.inl rfl | exact Or.inr rfl))
        (pss_cons (ps_asg (pe_slice (k_slL (K := K) rfl) (pv 3) (po_some (pv 6)) (po_some (pe_op (k_add (K := K) rfl) (pv 6) pe_int))) (Sl.k_gLst (K := K) (n := 2) rfl (Sl.pg_tupL (n := 2) (by rfl) (pgs_cons (pg_name (i := 8) sc_rise.nd rfl (by first | exact Or.inl rfl | exact Or.inr rfl)) (pgs_cons (pg_name (i := 9) sc_rise.nd rfl (by first | exact Or.inl rfl | exact Or.inr rfl)) pgs_nil)))))
       (pss_cons (ps_expr (k_bm (K := K) rfl (pe_bm PySem.F.plainAttrs_list PySem.F.slot_list_append PySem.F.type_list_append mt_append (pv 5) (pa_cons (pe_tup (pa_cons (pv 8) (pa_cons (pe_callTy (k_tuple (K := K) rfl) (by rfl) T.n_tuple (by decide +kernel) (pa_cons (pe_slice (k_slL (K := K) rfl) (pv 3) (po_some (pe_op (k_add (K := K) rfl) (pv 6) pe_int)) (po_some (pe_op (k_add (K := K) rfl) (pe_op (k_add (K := K) rfl) (pv 6) pe_int) (pv 9)))) pa_nil)) pa_nil))) pa_nil))))
       (pss_one (ps_set (i := 6) sc_rise.nd rfl (by first | exact Or.inl rfl | exact Or.inr rfl) (pe_op (k_add (K := K) rfl) (pe_op (k_add (K := K) rfl) (pv 6) pe_int) (pv 9)))))))
       (pss_one (ps_ret (pv 5)))))))))), ?_⟩
    try dsimp only [cxOf]
    obtain ⟨ok, hs, y⟩ := h
    walk_at "run"
    refine ⟨d, 0, M, k, sp, _, rfl, Hd.mt (by walk_at "mt") hs, fun t H hs => ?_⟩
    have cs : ∀ {a b : Int} {r : List Int}, cutV ((a :: b :: r).map V.int) none (some 2) = [.int a, .int b] := fun {a b r} => by
      show cutV ((a :: b :: r).map V.int) none (some ((2 : Nat) : Int)) = _
      rw [cut_hi]
      rfl
    have o8 := disk_eight hs (by walk_at "pull")
    rcases ok with ⟨e0, rfl⟩ | ⟨hf, tt, hh, eb, lp, hc⟩
    · have ez : blk M 0 = [0, 0, 0, 0, 0, 0, 0, 0] := by
        unfold blk
        rw [e0]
        rfl
      rw [ez] at hs
      walk_at "run"
      refine r_slT hs (hs.st (a := t) (by walk_at "pull")) (by decide) fun q H hs => ?_
      rw [cs] at hs
      walk_at "run"
      rw [decide_eq_true rfl]
      walk_at "run"
      have hs := Sd.ds_nil (K := K) hs
      exact y q_ [] _ (by show Hd (pto q_ (.lst []) :: Sd.dsA K [] [] :: _) _; exact Hd.mt (by walk_at "mt") hs)
    rw [eb] at hs
    walk_at "run"
    refine r_slT (xs := ([hf, (((picL FL).length : Nat) : Int), tt, 0, 0, 0, 0, 0] : List Int).map V.int) hs (hs.st (a := t) (by walk_at "pull")) (fun z => absurd z.2 (show ¬ HT.sIx 8 8 (some 2) = 8 by decide)) fun q H hs => ?_
    rw [cs] at hs
    walk_at "run"
    rw [decide_eq_false (show ¬ hf = 0 by omega)]
    have lf := pic_files FL
    generalize eP : picL FL = P at *
    have hb2 : nb P.length ≤ 150 := by
      unfold nb
      omega
    walk_at "runR"
    rw [show ((P.length : Int) + 8 - 1) / 8 = (nb P.length : Int) by unfold nb; omega]
    obtain ⟨W, eW⟩ : ∃ x, x = q_ := ⟨_, rfl⟩
    rw [← eW] at hs ⊢
    have lpd := pad_len P
    walk_at "run"
    refine Sl.r_forR (fun i σ H => ∃ (v4 : Option V), σ = [some (.ref d), some (.int hf), some (.int (P.length : Int)), some (.ref W), v4, none, none, none, none, none] ∧ Hd (pto W (.lst (((pad P).take (8 * i)).map V.int)) :: diskA T.C_Disk d M k sp :: L) H) ⟨_, rfl, (by show Hd (pto W (.lst []) :: _) _; exact Hd.mt (by walk_at "mt") hs)⟩ ?_ ?_
    · clear hs
      rintro i σ H hi ⟨v4, rfl, hs⟩
      have hi : i < nb P.length := by omega
      have at1 : atI [V.int 1, V.int 200] (hf - 1) = some (.int (firstB hf)) := by
        rcases hh with h | h <;> rw [h] <;> rfl
      walk_at "run"
      refine Sl.r_ixT (T.t_FIRSTS _) at1 ?_
      walk_at "run"
      rw [Int.zero_add]
      refine ⟨d, firstB hf + (i : Int), M, k, sp, _, rfl, Hd.mt (by walk_at "mt") hs, fun t2 H hs => ?_⟩
      rw [hc i hi] at hs
      have lw : ((pad P).take (8 * i)).length ≤ 1300 := by rw [List.length_take]; omega
      have lc := chunk_len hi
      walk_at "run"
      refine ⟨_, rfl, ?_⟩
      rw [← pad_next, List.map_append]
      exact Hd.mt (by walk_at "mt") hs
    clear hs
    rintro σ H ⟨v4, rfl, hs⟩
    rw [Int.toNat_natCast, pad_all] at hs
    walk_at "runR"
    obtain ⟨F, eF⟩ : ∃ x, x = q_ := ⟨_, rfl⟩
    rw [← eF] at hs ⊢
    refine Sl.r_ixL (hs.sq (a := W) (by walk_at "pull")) (show atI ((pad P).map V.int) 0 = some (.int (FL.length : Int)) from by rw [← eP]; exact Sl.atI_head) ?_
    walk_at "run"
    have hs := Sd.ds_nil (K := K) hs
    refine Sl.r_forR (fun i σ H => ∃ (v7 v8 v9 : Option V) (xs : List V), σ = [some (.ref d), some (.int hf), some (.int (P.length : Int)), some (.ref W), v4, some (.ref F), some (.int (posF FL i : Nat)), v7, v8, v9] ∧ Hd (pto F (.lst xs) :: Sd.dsA K xs ((FL.take i).map toldD) :: pto W (.lst ((pad P).map V.int)) :: diskA T.C_Disk d M k sp :: L) H) ⟨_, _, _, [], rfl, (by show Hd (pto F (.lst []) :: Sd.dsA K [] [] :: _) _; exact Hd.mt (by walk_at "mt") hs)⟩ ?_ ?_
    · clear hs
      rintro i σ H hi ⟨v7, v8, v9, xs, rfl, hs⟩
      have hi : i < FL.length := by omega
      obtain ⟨⟨n, c⟩, he⟩ : ∃ e, FL[i]? = some e := ⟨_, List.getElem?_eq_getElem hi⟩
      obtain ⟨r, hr⟩ := pad_drop he
      rw [eP] at hr
      have lx := Sd.ds_len hs (by walk_at "pull")
      rw [List.length_map, List.length_take] at lx
      have lq := posF_le FL i
      have lq2 := posF_le FL (i + 1)
      rw [posF_next he, eP] at lq2
      rw [eP] at lq
      have e1 : (posF FL i : Int) + 2 = ((posF FL i + 2 : Nat) : Int) := by omega
      have e2 : (((posF FL i + 2 : Nat)) : Int) + (c.length : Int) = ((posF FL i + 2 + c.length : Nat) : Int) := by omega
      have c1 : cutV ((pad P).map V.int) (some ((posF FL i : Nat) : Int)) (some ((posF FL i + 2 : Nat) : Int)) = [.int n, .int (c.length : Int)] := by
        rw [cut_both, hr, show posF FL i + 2 - posF FL i = 2 by omega]
        rfl
      have c2 : cutV ((pad P).map V.int) (some ((posF FL i + 2 : Nat) : Int)) (some ((posF FL i + 2 + c.length : Nat) : Int)) = c.map V.int := by
        rw [cut_both, ← List.drop_drop, hr, show posF FL i + 2 + c.length - (posF FL i + 2) = c.length by omega]
        show ((c ++ r).take c.length).map V.int = _
        rw [List.take_left]
      walk_at "run"
      rw [e1, c1] at hs
      walk_at "run"
      rw [e1, e2, c2] at hs
      rename_i tc _ _
      have hs := tl_snoc (T := q_) (t := tc) (n := n) (c := c) (Hd.mt (by walk_at "mt") hs : Hd (pto q_ (.tup [.int n, .ref tc]) :: pto tc (.tup (c.map V.int)) :: Sd.dsA K xs ((FL.take i).map toldD) :: _) H)
      refine ⟨some (.int (0 + (i : Nat))), some (.int n), some (.int (c.length : Int)), xs ++ [V.ref q_], ?_, ?_⟩
      · rw [posF_next he, show ((posF FL i + 2 + c.length : Nat) : Int) = (posF FL i : Int) + 2 + (c.length : Int) by omega]
        rfl
      · rw [List.take_add_one, he, show ((FL.take i) ++ (some (n, c)).toList).map toldD = (FL.take i).map toldD ++ [toldD (n, c)] from List.map_append]
        exact Hd.mt (by walk_at "mt") hs
    clear hs
    rintro σ H ⟨v7, v8, v9, xs, rfl, hs⟩
    rw [Int.toNat_natCast, List.take_length] at hs
    walk_at "run"
    exact y F xs _ (Hd.mt (by walk_at "mt") hs)
end
section
variable {P : Program} {w : World} {K : PySem.W.Frag} {mg : Str → Option Value} {base : Heap}

/-! ### the law's own files -/
abbrev lstT (e : Int × (Addr × List Int)) : SA := pto e.2.1 (.lst (e.2.2.map V.int))
def mA (m : Addr) (N : List (Int × List Int)) (h b : Int) : SA := fun H => ∃ (fd : Addr) (G : List (Int × (Addr × List Int))), ((keysM G).Nodup ∧ mapM (·.2) G = N) ∧ Hd [pto m (.dK (mmK (.ref fd) (.int h) (.int b))), pto fd (.dK (dM refA G)), big lstT G] H
theorem m_open {m : Addr} {N : List (Int × List Int)} {h b : Int} {L : List SA} {H : Hp} (hs : Hd (mA m N h b :: L) H) : ∃ (fd : Addr) (G : List (Int × (Addr × List Int))), ((keysM G).Nodup ∧ mapM (·.2) G = N) ∧ Hd (pto m (.dK (mmK (.ref fd) (.int h) (.int b))) :: pto fd (.dK (dM refA G)) :: big lstT G :: L) H := by
  obtain ⟨H1, H2, c, s1, s2, ⟨fd, G, e, z⟩, y⟩ := hs
  exact ⟨fd, G, e, Hd.open (M := [_, _, _]) ⟨H1, H2, c, s1, s2, z, y⟩⟩
theorem m_close {m fd : Addr} {N : List (Int × List Int)} {G : List (Int × (Addr × List Int))} {h b : Int} {L : List SA} {H : Hp} (e : (keysM G).Nodup ∧ mapM (·.2) G = N) (hs : Hd (pto m (.dK (mmK (.ref fd) (.int h) (.int b))) :: pto fd (.dK (dM refA G)) :: big lstT G :: L) H) : Hd (mA m N h b :: L) H :=
  (Hd.close (M := [_, _, _]) hs).imp fun _ z => ⟨fd, G, e, z⟩
theorem rm_bag (u : FilesM) (n k : Int) (m : FileM) : (u.remove n k m).bag = u.bag := by
  unfold FilesM.remove FilesM.idle
  split <;> rfl
theorem put_bag (u : FilesM) (k : Int) (m : FileM) (pl : Nat) (ws : List Int) : (u.put k m pl ws).bag = u.bag := by
  unfold FilesM.put
  split <;> rfl
theorem pick2 {a b r : Int} (h0 : 0 ≤ r) (h1 : r < 2) (P : Int → Prop) (ha : P a) (hb : P b) : ∃ m, P m ∧ atI [V.int a, .int b] r = some (.int m) := by
  rcases (show r = 0 ∨ r = 1 by omega) with rfl | rfl
  · exact ⟨a, ha, rfl⟩
  · exact ⟨b, hb, rfl⟩
theorem pick3 {a b c r : Int} (h0 : 0 ≤ r) (h1 : r < 3) (P : Int → Prop) (ha : P a) (hb : P b) (hc : P c) : ∃ m, P m ∧ atI [V.int a, .int b, .int c] r = some (.int m) := by
  rcases (show r = 0 ∨ r = 1 ∨ r = 2 by omega) with rfl | rfl | rfl
  · exact ⟨a, ha, rfl⟩
  · exact ⟨b, hb, rfl⟩
  · exact ⟨c, hc, rfl⟩
theorem sum_nb : ∀ (G : List (Int × (Addr × List Int))), (G.map fun e => (nb e.2.2.length : Int)).sum = (sumB (mapM (·.2) G) : Int)
  | [] => rfl
  | e :: r => by
    have h := sum_nb r
    have e2 : sumB (mapM (·.2) (e :: r)) = nb e.2.2.length + sumB (mapM (·.2) r) := rfl
    rw [List.map_cons, List.sum_cons, h, e2]
    omega

def sp_law_wants (T : Txt K mg) : Sp := fun vs H Q _ => ∃ (m fd : Addr) (G : List (Int × (Addr × List Int))) (hb b : Int) (L : List SA), vs = [.ref m] ∧ (G.length ≤ 1000 ∧ (keysM G).Nodup) ∧ Hd (pto m (.dK (mmK (.ref fd) (.int hb) (.int b))) :: pto fd (.dK (dM refA G)) :: big lstT G :: L) H ∧ ∀ H', Hd (pto m (.dK (mmK (.ref fd) (.int hb) (.int b))) :: pto fd (.dK (dM refA G)) :: big lstT G :: L) H' → Q (.int (hb + (sumB (mapM (·.2) G) : Int))) H'
theorem ok_law_wants (T : Txt K mg) : FnOk P w K mg base CX0 1 T.a_law_wants T.d_law_wants ["_law_m"] (sp_law_wants T) := by
  refine T.f_law_wants.ok sc_law_wants (fun vs H Q E h => ?_) (fun cdv A outer s H vs Q E hr h => ?_)
  · obtain ⟨m, fd, G, hb, b, L, rfl, _⟩ := h
    rfl
  · obtain ⟨m, fd, G, hb, b, L, rfl, h⟩ := h
    refine ⟨_, (pss_one (ps_ret (pe_op (k_add (K := K) rfl) (pe_ix (k_ix (K := K) rfl (hu_of hr)) (pv 0) pe_str (fun _ _ => rfl)) (pe_callB (k_sum (K := K) rfl rfl) (by rfl) T.n_sum (by decide +kernel) (pa_cons (pe_lock (pe_lc (own := [("_law_words", 1)]) rfl sc_law_wants.nd (pi_values (pe_ix (k_ix (K := K) rfl (hu_of hr)) (pv 0) pe_str (fun _ _ => rfl))) (blkOk_by (N := ["_law_m", "_law_words"]) (sc := defScope s_law_wants) (by decide +kernel)) (fun _ _ _ _ _ => (pg_name (i := 1) sc_law_wants.nd rfl (by first | exact Or.inl rfl | exact Or.inr rfl))) (fun s_0 H_0 C_0 cl_0 fp_0 => pts_nil) (fun s_0 H_0 C_0 cl_0 fp_0 => (pe_op (k_div (K := K) rfl) (pe_op (k_add (K := K) rfl) (pe_callB (k_len (K := K) rfl) (by rfl) T.n_len (by decide +kernel) (pa_cons (pv 1) pa_nil)) pe_int) pe_int)))) pa_nil))))), ?_⟩
    try dsimp only [cxOf]
    obtain ⟨⟨fg, ndg⟩, hs, y⟩ := h
    walk_at "run"
    refine Sl.r_lock (d := fd) (Hd.mt (by walk_at "mt") hs : Hd (pto fd (.dK (dM refA G)) :: pto m (.dK (mmK (.ref fd) (.int hb) (.int b))) :: big lstT G :: L) _) fun od H hs => ?_
    walk_at "run"
    refine Sl.r_lcDV' (f := refA) G (fun _ => true) (fun e => (nb e.2.2.length : Int)) hs (by omega) (fun H hs => hs.get (by walk_at "pull")) ?_ ?_
    · intro D acc e H N M he hs hN hM
      obtain ⟨n, t, ws⟩ := e
      have hg : getM G n = some (t, ws) := getM_at ndg he
      have hs := big_get (F := lstT) ndg hg (Hd.mt (by walk_at "mt") hs : Hd (big lstT G :: _) H)
      have hs : Hd (pto t (.lst (ws.map V.int)) :: big lstT (dropM G n) :: _) H := hs
      walk_at "run"
      have hs := big_back (F := lstT) ndg hg (Hd.mt (by walk_at "mt") hs : Hd (lstT (n, (t, ws)) :: big lstT (dropM G n) :: _) _)
      rw [List.length_map, show ((ws.length : Int) + 7) / 8 = (nb ws.length : Int) by unfold nb; omega]
      exact hN _ (Hd.mt (by walk_at "mt") hs) rfl
    intro D H hs
    rw [List.filter_eq_self.mpr fun _ _ => rfl] at hs
    walk_at "run"
    refine Sl.r_sum (hs.sq (a := D) (by walk_at "pull")) ?_
    rw [sum_nb]
    walk_at "run"
    exact y _ (Hd.mt (by walk_at "mt") hs)
end
section
variable {P : Program} {w : World} {K : PySem.W.Frag} {mg : Str → Option Value} {base : Heap}
def sp_law_deed (T : Txt K mg) : Sp := fun vs H Q _ => ∃ (p m d : Addr) (n c : Nat) (u : FilesM) (N : List (Int × List Int)) (hb : Int) (L : List SA), vs = [.ref p, .ref m, .ref d] ∧ (RN c u N hb ∧ c ≤ 400 ∧ n ≤ 800000) ∧ Hd (filesA T.C_File T.C_Files p u :: mA m N hb u.bag :: stA d n :: L) H ∧ ∀ u' N' hb', RN (c + 1) u' N' hb' → u'.bag = u.bag → ∀ H', Hd (filesA T.C_File T.C_Files p u' :: mA m N' hb' u.bag :: stA d (n + 600) :: L) H' → Q .non H'
set_option maxHeartbeats 8000000 in
theorem ok_law_deed (T : Txt K mg) : FnOk P w K mg base CX0 6 T.a_law_deed T.d_law_deed ["_law_files", "_law_m", "_law_row_here"] (sp_law_deed T) := by
  refine T.f_law_deed.ok sc_law_deed (fun vs H Q E h => ?_) (fun cdv A outer s H vs Q E hr h => ?_)
  · obtain ⟨p, m, d, n, c, u, N, hb, L, rfl, _⟩ := h
    rfl
  · obtain ⟨p, m, d, n, c, u, N, hb, L, rfl, h⟩ := h
    refine ⟨_, (pss_cons (ps_set (i := 3) sc_law_deed.nd rfl (by first | exact Or.inl rfl | exact Or.inr rfl) (pe_callB (Sl.call_sortedDI rfl) (by rfl) T.n_sorted (by decide +kernel) (pa_cons (pe_ix (k_ix (K := K) rfl (hu_of hr)) (pv 1) pe_str (fun _ _ => rfl)) pa_nil)))
       (pss_cons (ps_set (i := 4) sc_law_deed.nd rfl (by first | exact Or.inl rfl | exact Or.inr rfl) (pe_call (ok_law_next T) (hr.mono (by decide)) (by rfl) T.g_law_next T.f_law_next.kp T.b_law_next .nil pass0 (pa_cons (pv 2) (pa_cons pe_int pa_nil))))
       (pss_cons (ps_if (PW.pt (pw_or (pt_cmpR (k_eq (K := K) rfl hr.units) (pv 4) pe_int (nomark _)) (pw_or1 (pt_cmpR (k_eq (K := K) rfl hr.units) (pv 3) (pe_lst pa_nil) (nomark _)))))
        (pss_cons (ps_set (i := 5) sc_law_deed.nd rfl (by first | exact Or.inl rfl | exact Or.inr rfl) (pe_ix (k_ix (K := K) rfl (hu_of hr)) (pe_lst (pa_cons (pe_call (ok_law_next T) (hr.mono (by decide)) (by rfl) T.g_law_next T.f_law_next.kp T.b_law_next .nil pass0 (pa_cons (pv 2) (pa_cons pe_int pa_nil))) (pa_cons (pe_call (ok_law_next T) (hr.mono (by decide)) (by rfl) T.g_law_next T.f_law_next.kp T.b_law_next .nil pass0 (pa_cons (pv 2) (pa_cons pe_int pa_nil))) pa_nil))) (pe_call (ok_law_next T) (hr.mono (by decide)) (by rfl) T.g_law_next T.f_law_next.kp T.b_law_next .nil pass0 (pa_cons (pv 2) (pa_cons pe_int pa_nil))) (fun _ _ => rfl)))
       (pss_cons (ps_if (PW.pt (pw_and (pt_cmpR (k_notIn (K := K) rfl (hu_of hr)) (pv 5) (pv 3) (by rfl)) (pw_and1 (pt_cmpR op_lt (pe_callB (k_len (K := K) rfl) (by rfl) T.n_len (by decide +kernel) (pa_cons (pv 3) pa_nil)) pe_int (nomark _)))))
        (pss_cons (ps_expr (pe_meth (pv 0) T.cl_Files T.m_Files_make (ok_Files_make T) hr T.b_Files_make .nil pass0 (pa_cons (pv 5) pa_nil)))
       (pss_one (ps_asg (pe_lst pa_nil) (pg_sub (pe_ix (k_ix (K := K) rfl (hu_of hr)) (pv 1) pe_str (fun _ _ => rfl)) (pv 5) (u_set (hu_of hr))))))
        pss_nil)
       (pss_one ps_retN)))
        pss_nil)
       (pss_cons (ps_set (i := 5) sc_law_deed.nd rfl (by first | exact Or.inl rfl | exact Or.inr rfl) (pe_ix (k_ix (K := K) rfl (hu_of hr)) (pv 3) (pe_call (ok_law_next T) (hr.mono (by decide)) (by rfl) T.g_law_next T.f_law_next.kp T.b_law_next .nil pass0 (pa_cons (pv 2) (pa_cons (pe_callB (k_len (K := K) rfl) (by rfl) T.n_len (by decide +kernel) (pa_cons (pv 3) pa_nil)) pa_nil))) (fun _ _ => rfl)))
       (pss_cons (ps_if (pt_cmpR (k_eq (K := K) rfl hr.units) (pv 4) pe_int (nomark _))
        (pss_cons (ps_if (pt_cmpR (k_eq (K := K) rfl hr.units) (pe_call (ok_law_next T) (hr.mono (by decide)) (by rfl) T.g_law_next T.f_law_next.kp T.b_law_next .nil pass0 (pa_cons (pv 2) (pa_cons pe_int pa_nil))) pe_int (nomark _))
        (pss_cons (ps_expr (pe_meth (pv 0) T.cl_Files T.m_Files_hold (ok_Files_hold T) (hr.mono (by decide)) T.b_Files_hold .nil pass0 (pa_cons (pe_meth (pv 0) T.cl_Files T.m_Files_file_of (ok_Files_file_of T) (hr.mono (by decide)) T.b_Files_file_of .nil pass0 (pa_cons (pv 5) pa_nil)) pa_nil)))
       (pss_one (ps_asg (pe_op (k_add (K := K) rfl) (pe_ix (k_ix (K := K) rfl (hu_of hr)) (pv 1) pe_str (fun _ _ => rfl)) (pe_op (k_div (K := K) rfl) (pe_op (k_add (K := K) rfl) (pe_callB (k_len (K := K) rfl) (by rfl) T.n_len (by decide +kernel) (pa_cons (pe_ix (k_ix (K := K) rfl (hu_of hr)) (pe_ix (k_ix (K := K) rfl (hu_of hr)) (pv 1) pe_str (fun _ _ => rfl)) (pv 5) (fun _ _ => rfl)) pa_nil)) pe_int) pe_int)) (pg_sub (pv 1) pe_str (u_set (hu_of hr))))))
        pss_nil)
       (pss_cons (ps_expr (pe_meth (pv 0) T.cl_Files T.m_Files_remove (ok_Files_remove T) hr T.b_Files_remove .nil pass0 (pa_cons (pv 5) pa_nil)))
       (pss_cons (ps_expr (pe_dpop1 (pe_ix (k_ix (K := K) rfl (hu_of hr)) (pv 1) pe_str (fun _ _ => rfl)) (pv 5) ⟨by rfl, by rfl, by rfl, by rfl⟩))
       (pss_one ps_retN))))
        pss_nil)
       (pss_cons (ps_if (pt_cmpR (k_eq (K := K) rfl hr.units) (pv 4) pe_int (nomark _))
        (pss_cons (ps_expr (pe_meth (pv 0) T.cl_Files T.m_Files_cut (ok_Files_cut T) (hr.mono (by decide)) T.b_Files_cut .nil pass0 (pa_cons (pe_meth (pv 0) T.cl_Files T.m_Files_file_of (ok_Files_file_of T) (hr.mono (by decide)) T.b_Files_file_of .nil pass0 (pa_cons (pv 5) pa_nil)) pa_nil)))
       (pss_cons (ps_asg (pe_lst pa_nil) (pg_sub (pe_ix (k_ix (K := K) rfl (hu_of hr)) (pv 1) pe_str (fun _ _ => rfl)) (pv 5) (u_set (hu_of hr))))
       (pss_one ps_retN)))
        pss_nil)
       (pss_cons (ps_set (i := 6) sc_law_deed.nd rfl (by first | exact Or.inl rfl | exact Or.inr rfl) (pe_ix (k_ix (K := K) rfl (hu_of hr)) (pe_ix (k_ix (K := K) rfl (hu_of hr)) (pv 1) pe_str (fun _ _ => rfl)) (pv 5) (fun _ _ => rfl)))
       (pss_cons (ps_set (i := 7) sc_law_deed.nd rfl (by first | exact Or.inl rfl | exact Or.inr rfl) (pe_ix (k_ix (K := K) rfl (hu_of hr)) (pe_lst (pa_cons (pe_call (ok_law_next T) (hr.mono (by decide)) (by rfl) T.g_law_next T.f_law_next.kp T.b_law_next .nil pass0 (pa_cons (pv 2) (pa_cons (pe_op (k_add (K := K) rfl) (pe_callB (k_len (K := K) rfl) (by rfl) T.n_len (by decide +kernel) (pa_cons (pv 6) pa_nil)) pe_int) pa_nil))) (pa_cons (pe_callB (k_len (K := K) rfl) (by rfl) T.n_len (by decide +kernel) (pa_cons (pv 6) pa_nil)) (pa_cons (pe_call (ok_law_next T) (hr.mono (by decide)) (by rfl) T.g_law_next T.f_law_next.kp T.b_law_next .nil pass0 (pa_cons (pv 2) (pa_cons pe_int pa_nil))) pa_nil)))) (pe_call (ok_law_next T) (hr.mono (by decide)) (by rfl) T.g_law_next T.f_law_next.kp T.b_law_next .nil pass0 (pa_cons (pv 2) (pa_cons pe_int pa_nil))) (fun _ _ => rfl)))
       (pss_cons (ps_setLc (i := 8) (own := [("_law_k", 9)]) rfl sc_law_deed.nd rfl rfl (sw_true rfl rfl rfl (by decide +kernel)) (pi_range1 (by rfl) T.n_range (pa_cons (pe_call (ok_law_next T) (hr.mono (by decide)) (by rfl) T.g_law_next T.f_law_next.kp T.b_law_next .nil pass0 (pa_cons (pv 2) (pa_cons (pe_ix (k_ix (K := K) rfl (hu_of hr)) (pe_lst (pa_cons pe_int (pa_cons pe_int pa_nil))) (pe_callTy u_int1 (by rfl) T.n_int (by decide +kernel) (pa_cons (pe_cmpR (k_eq (K := K) rfl hr.units) (pv 4) pe_int (nomark _)) pa_nil)) (fun _ _ => rfl)) pa_nil))) pa_nil)) (blkOk_by (N := ["_law_files", "_law_m", "_law_row_here", "_law_names", "_law_way", "_law_name", "_law_old", "_law_place", "_law_words", "_law_k", "_law_fresh", "_law_more"]) (sc := defScope s_law_deed) (by decide +kernel)) (fun _ _ _ _ _ => (pg_name (i := 9) sc_law_deed.nd rfl (by first | exact Or.inl rfl | exact Or.inr rfl))) (fun s_0 H_0 C_0 cl_0 fp_0 => pts_nil) (fun s_0 H_0 C_0 cl_0 fp_0 => (pe_call (ok_law_next T) (hr.mono (by decide)) (by rfl) T.g_law_next T.f_law_next.kp T.b_law_next .nil pass0 (pa_cons (pv 2) (pa_cons pe_int pa_nil)))))
       (pss_cons (ps_set (i := 10) sc_law_deed.nd rfl (by first | exact Or.inl rfl | exact Or.inr rfl) (pv 6))
       (pss_cons (ps_if (pt_cmpR (k_ne (K := K) rfl hr.units) (pv 8) (pe_lst pa_nil) (nomark _))
        (pss_cons (ps_set (i := 10) sc_law_deed.nd rfl (by first | exact Or.inl rfl | exact Or.inr rfl) (pe_op (k_add (K := K) rfl) (pv 6) (pe_op (k_mul (K := K) rfl) (pe_lst (pa_cons pe_int pa_nil)) (pe_op (k_sub (K := K) rfl) (pv 7) (pe_callB (k_len (K := K) rfl) (by rfl) T.n_len (by decide +kernel) (pa_cons (pv 6) pa_nil))))))
       (pss_one (ps_set (i := 10) sc_law_deed.nd rfl (by first | exact Or.inl rfl | exact Or.inr rfl) (pe_op (k_add (K := K) rfl) (pe_op (k_add (K := K) rfl) (pe_slice (k_slL (K := K) rfl) (pv 10) po_none (po_some (pv 7))) (pv 8)) (pe_slice (k_slL (K := K) rfl) (pv 10) (po_some (pe_op (k_add (K := K) rfl) (pv 7) (pe_callB (k_len (K := K) rfl) (by rfl) T.n_len (by decide +kernel) (pa_cons (pv 8) pa_nil)))) po_none)))))
        pss_nil)
       (pss_cons (ps_set (i := 11) sc_law_deed.nd rfl (by first | exact Or.inl rfl | exact Or.inr rfl) (pe_op (k_sub (K := K) rfl) (pe_op (k_div (K := K) rfl) (pe_op (k_add (K := K) rfl) (pe_callB (k_len (K := K) rfl) (by rfl) T.n_len (by decide +kernel) (pa_cons (pv 10) pa_nil)) pe_int) pe_int) (pe_op (k_div (K := K) rfl) (pe_op (k_add (K := K) rfl) (pe_callB (k_len (K := K) rfl) (by rfl) T.n_len (by decide +kernel) (pa_cons (pv 6) pa_nil)) pe_int) pe_int)))
       (pss_one (ps_if (PW.pt (pw_and (pt_cmpR op_le (pe_callB (k_len (K := K) rfl) (by rfl) T.n_len (by decide +kernel) (pa_cons (pv 10) pa_nil)) pe_int (nomark _)) (pw_and1 (pt_cmpR op_le (pe_op (k_add (K := K) rfl) (pe_call (ok_law_wants T) (hr.mono (by decide)) (by rfl) T.g_law_wants T.f_law_wants.kp T.b_law_wants .nil pass0 (pa_cons (pv 1) pa_nil)) (pv 11)) (pe_ix (k_ix (K := K) rfl (hu_of hr)) (pv 1) pe_str (fun _ _ => rfl)) (nomark _)))))
        (pss_cons (ps_expr (pe_meth (pv 0) T.cl_Files T.m_Files_put (ok_Files_put T) (hr.mono (by decide)) T.b_Files_put .nil pass0 (pa_cons (pe_meth (pv 0) T.cl_Files T.m_Files_file_of (ok_Files_file_of T) (hr.mono (by decide)) T.b_Files_file_of .nil pass0 (pa_cons (pv 5) pa_nil)) (pa_cons (pv 7) (pa_cons (pv 8) pa_nil)))))
       (pss_one (ps_asg (pv 10) (pg_sub (pe_ix (k_ix (K := K) rfl (hu_of hr)) (pv 1) pe_str (fun _ _ => rfl)) (pv 5) (u_set (hu_of hr))))))
        pss_nil)))))))))))))), ?_⟩
    try dsimp only [cxOf]
    obtain ⟨⟨R, hc, hn⟩, hs, y⟩ := h
    obtain ⟨f1, f2, f3, f4, f5⟩ := R.few
    obtain ⟨fd, G, eg, hs⟩ := m_open (Hd.mt (by walk_at "mt") hs : Hd (mA m N hb u.bag :: filesA T.C_File T.C_Files p u :: stA d n :: L) H)
    have lG : G.length = N.length := by rw [← eg.2]; exact (mapM_len ..).symm
    have lN := R.lt
    have kG : keysM G = keysM N := by rw [← eg.2, mapM_keys]
    have lk : (srt (keysM G)).length = G.length := by rw [(srt_perm _).length_eq]; exact List.length_map _
    walk_at "run"
    obtain ⟨NM, eNM⟩ : ∃ x, x = q_ := ⟨_, rfl⟩
    rw [← eNM] at hs ⊢
    refine ⟨d, 8, n, _, rfl, ⟨by omega, by omega, by omega⟩, Hd.mt (by walk_at "mt") hs, fun way H w0 w1 hs => ?_⟩
    walk_at "runI"
    have fin : ∀ {u' : FilesM} {N' : List (Int × List Int)} {hb' : Int} {n' : Nat} {H' : Hp}, RN (c + 1) u' N' hb' → u'.bag = u.bag → Hd (filesA T.C_File T.C_Files p u' :: mA m N' hb' u.bag :: stA d n' :: L) H' → n' ≤ n + 600 → Q .non H' := fun R' b' z l => y _ _ _ R' b' _ (Hd.mt (by walk_at "mt") (st_more l (Hd.mt (by walk_at "mt") z : Hd (stA d _ :: filesA T.C_File T.C_Files p _ :: mA m _ _ u.bag :: L) _)))
    refine Sl.r_ifT (fun H2 => Hd (stA d (n + 1) :: pto NM (.lst ((srt (keysM G)).map V.int)) :: pto m (.dK (mmK (.ref fd) (.int hb) (.int u.bag))) :: pto fd (.dK (dM refA G)) :: big lstT G :: filesA T.C_File T.C_Files p u :: L) H2) (fun H2 => (way ≠ 0 ∧ G ≠ []) ∧ Hd (stA d (n + 1) :: pto NM (.lst ((srt (keysM G)).map V.int)) :: pto m (.dK (mmK (.ref fd) (.int hb) (.int u.bag))) :: pto fd (.dK (dM refA G)) :: big lstT G :: filesA T.C_File T.C_Files p u :: L) H2) (fun QT ht hf => ?_) ?_ ?_
    · walk_at "run"
      refine Sl.r_iteD (fun z => ?_) (fun z => ?_)
      · exact ht _ (Hd.mt (by walk_at "mt") hs)
      · walk_at "run"
        refine Sl.r_eqNil (ns := srt (keysM G)) (hs.sq (a := NM) (by walk_at "pull")) (hs.sq (a := q_) (by walk_at "pull")) ?_
        by_cases e0 : G = []
        · rw [show (srt (keysM G)).isEmpty = true by rw [e0]; rfl]
          walk_at "run"
          exact ht _ (Hd.mt (by walk_at "mt") hs)
        · have e1 : (srt (keysM G)).isEmpty = false := by
            cases e2 : srt (keysM G) with
            | nil =>
              rw [e2] at lk
              exact (e0 (List.length_eq_zero_iff.mp lk.symm)).elim
            | cons _ _ => rfl
          rw [e1]
          walk_at "run"
          exact hf _ ⟨⟨z, e0⟩, Hd.mt (by walk_at "mt") hs⟩
    · clear hs
      intro H hs
      walk_at "run"
      refine ⟨d, 65536, n + 1, _, rfl, ⟨by omega, by omega, by omega⟩, Hd.mt (by walk_at "mt") hs, fun a1 H a10 a11 hs => ?_⟩
      walk_at "run"
      refine ⟨d, 8, n + 1 + 1, _, rfl, ⟨by omega, by omega, by omega⟩, Hd.mt (by walk_at "mt") hs, fun a2 H a20 a21 hs => ?_⟩
      walk_at "run"
      refine ⟨d, 2, n + 1 + 1 + 1, _, rfl, ⟨by omega, by omega, by omega⟩, Hd.mt (by walk_at "mt") hs, fun a3 H a30 a31 hs => ?_⟩
      walk_at "run"
      obtain ⟨nm, hm, em⟩ := pick2 a30 a31 (fun m : Int => 0 ≤ m ∧ m ≤ 65535) (a := a1) (b := a2) ⟨a10, by omega⟩ ⟨a20, by omega⟩
      refine Sl.r_ixL (hs.sq (a := q_) (by walk_at "pull")) em ?_
      walk_at "runI"
      refine Sl.r_ifT (fun H2 => (nm ∉ keysM N ∧ N.length < 24) ∧ Hd (stA d (n + 4) :: pto NM (.lst ((srt (keysM G)).map V.int)) :: pto m (.dK (mmK (.ref fd) (.int hb) (.int u.bag))) :: pto fd (.dK (dM refA G)) :: big lstT G :: filesA T.C_File T.C_Files p u :: L) H2) (fun H2 => Hd (stA d (n + 4) :: pto NM (.lst ((srt (keysM G)).map V.int)) :: pto m (.dK (mmK (.ref fd) (.int hb) (.int u.bag))) :: pto fd (.dK (dM refA G)) :: big lstT G :: filesA T.C_File T.C_Files p u :: L) H2) (fun QT ht hf => ?_) ?_ ?_
      · walk_at "run"
        rw [inV_ints]
        by_cases e1 : nm ∈ srt (keysM G)
        · rw [decide_eq_true e1]
          walk_at "run"
          exact hf _ (Hd.mt (by walk_at "mt") hs)
        · rw [decide_eq_false e1]
          walk_at "run"
          rw [List.length_map, lk]
          by_cases e2 : (G.length : Int) < 24
          · rw [decide_eq_true e2]
            exact ht _ ⟨⟨fun z => e1 ((srt_perm _).mem_iff.mpr (by rw [kG]; exact z)), by omega⟩, Hd.mt (by walk_at "mt") hs⟩
          · rw [decide_eq_false e2]
            exact hf _ (Hd.mt (by walk_at "mt") hs)
      · clear hs
        rintro H ⟨⟨no, l24⟩, hs⟩
        walk_at "run"
        refine ⟨p, nm, u, _, rfl, ⟨hm, by rw [← R.ks]; exact no, by omega, by have := R.lc; omega, fun z => by have := R.nw _ z; omega⟩, Hd.mt (by walk_at "mt") hs, fun H hs => ?_⟩
        walk_at "run"
        obtain ⟨nl, enl⟩ : ∃ x, x = q_ := ⟨_, rfl⟩
        rw [← enl] at hs ⊢
        refine Sl.r_setDi hs (by walk_at "put") (putK_dM (f := refA) (l := (nl, ([] : List Int))) ..) (by walk_at "szE") fun H hs => ?_
        walk_at "run"
        have hs := big_new (F := lstT) (k := nm) (x := (nl, [])) eg.1 (by rw [kG]; exact no) (Hd.mt (by walk_at "mt") hs : Hd (pto nl (.lst []) :: big lstT G :: _) H)
        have hs := m_close (G := putM G nm (nl, [])) ⟨nd_put eg.1, by rw [mapM_put, eg.2]⟩ (Hd.mt (by walk_at "mt") hs : Hd (pto m (.dK (mmK (.ref fd) (.int hb) (.int u.bag))) :: pto fd (.dK (dM refA (putM G nm (nl, [])))) :: big lstT (putM G nm (nl, [])) :: stA d (n + 4) :: filesA T.C_File T.C_Files p (u.make nm) :: L) _)
        exact fin (R.make hm no l24) rfl (Hd.mt (by walk_at "mt") hs) (by omega)
      · clear hs
        intro H hs
        walk_at "run"
        have hs := m_close eg (Hd.mt (by walk_at "mt") hs : Hd (pto m (.dK (mmK (.ref fd) (.int hb) (.int u.bag))) :: pto fd (.dK (dM refA G)) :: big lstT G :: stA d (n + 4) :: filesA T.C_File T.C_Files p u :: L) _)
        exact fin (R.mono (Nat.le_succ c)) rfl (Hd.mt (by walk_at "mt") hs) (by omega)
    clear hs
    rintro H ⟨⟨w2, nG⟩, hs⟩
    have pG : 0 < G.length := List.length_pos_iff.mpr nG
    walk_at "run"
    rw [List.length_map, lk]
    refine ⟨d, (G.length : Int), n + 1, _, rfl, ⟨by omega, by omega, by omega⟩, Hd.mt (by walk_at "mt") hs, fun iv H iv0 iv1 hs => ?_⟩
    obtain ⟨nm, -, nm0, hat⟩ := atI_pick (ns := srt (keysM G)) (r := iv) iv0 (by rw [lk]; omega)
    obtain ⟨⟨t, ws⟩, hg⟩ := at_key ((srt_perm _).subset nm0)
    have hN : getM N nm = some ws := by rw [← eg.2, mapM_get, hg]; rfl
    have hm := R.nn nm (key_at hN)
    obtain ⟨k, fm, hn1, hk, ft, fh, fc⟩ := R.at hN
    obtain ⟨lc1, lc2⟩ := R.lo k fm hk
    rw [fc] at lc1 lc2
    walk_at "run"
    refine Sl.r_ixL (hs.sq (a := NM) (by walk_at "pull")) hat ?_
    walk_at "run"
    have hs := big_get (F := lstT) eg.1 hg (Hd.mt (by walk_at "mt") hs : Hd (big lstT G :: stA d (n + 1 + 1) :: pto m (.dK (mmK (.ref fd) (.int hb) (.int u.bag))) :: pto fd (.dK (dM refA G)) :: filesA T.C_File T.C_Files p u :: L) _)
    have hs : Hd (pto t (.lst (ws.map V.int)) :: big lstT (dropM G nm) :: _) _ := hs
    have vF : valV (dM refA G) (.inl nm) = some (.ref t) := by rw [valV_dM, hg]; rfl
    refine Sl.r_iteD (fun z1 => ?_) (fun z1 => ?_)
    · walk_at "run"
      refine ⟨d, 3, n + 1 + 1, _, rfl, ⟨by omega, by omega, by omega⟩, Hd.mt (by walk_at "mt") hs, fun v3 H v30 v31 hs => ?_⟩
      walk_at "run"
      refine Sl.r_iteD (fun z2 => ?_) (fun z2 => ?_)
      · walk_at "run"
        refine ⟨p, nm, k, u, _, rfl, ⟨hm, hn1⟩, Hd.mt (by walk_at "mt") hs, ?_⟩
        walk_at "run"
        refine ⟨p, k, fm, u, _, rfl, hk, Hd.mt (by walk_at "mt") hs, fun H hs => ?_⟩
        walk_at "run"
        rw [List.length_map] at hs
        have hk2 : getM (u.hold k fm).known k = some { fm with holders := fm.holders + 1 } := by
          show getM (putM u.known k _) k = _
          rw [getM_put, if_pos rfl]
        refine ⟨p, nm, k, { fm with holders := fm.holders + 1 }, u.hold k fm, _, rfl, ⟨hm, hn1, hk2, by show u.loose.length ≤ _; omega, by show fm.loans.length ≤ _; rw [lc2]; unfold nb; omega⟩, Hd.mt (by walk_at "mt") hs, fun H hs => ?_⟩
        walk_at "run"
        refine Sl.r_dpopK hs (by walk_at "put") vF fun H hs => ?_
        rw [dropK_dM] at hs
        walk_at "run"
        rw [show hb + ((ws.length : Int) + 7) / 8 = hb + (nb fm.content.length : Int) by rw [fc]; unfold nb; omega] at hs
        have hs := m_close (N := dropM N nm) (G := dropM G nm) ⟨nd_drop eg.1, by rw [mapM_drop, eg.2]⟩ (Hd.mt (by walk_at "mt") hs : Hd (pto m (.dK (mmK (.ref fd) (.int (hb + (nb fm.content.length : Int))) (.int u.bag))) :: pto fd (.dK (dM refA (dropM G nm))) :: big lstT (dropM G nm) :: stA d (n + 1 + 1 + 1) :: filesA T.C_File T.C_Files p ((u.hold k fm).remove nm k { fm with holders := fm.holders + 1 }) :: L) _)
        exact fin ((R.kept hn1 hk).mono (Nat.le_succ c)) (rm_bag _ _ _ _) (Hd.mt (by walk_at "mt") hs) (by omega)
      · walk_at "run"
        refine ⟨p, nm, k, fm, u, _, rfl, ⟨hm, hn1, hk, by omega, by rw [lc2]; unfold nb; omega⟩, Hd.mt (by walk_at "mt") hs, fun H hs => ?_⟩
        walk_at "run"
        refine Sl.r_dpopK hs (by walk_at "put") vF fun H hs => ?_
        rw [dropK_dM] at hs
        walk_at "run"
        have hs := m_close (N := dropM N nm) (G := dropM G nm) ⟨nd_drop eg.1, by rw [mapM_drop, eg.2]⟩ (Hd.mt (by walk_at "mt") hs : Hd (pto m (.dK (mmK (.ref fd) (.int hb) (.int u.bag))) :: pto fd (.dK (dM refA (dropM G nm))) :: big lstT (dropM G nm) :: stA d (n + 1 + 1 + 1) :: filesA T.C_File T.C_Files p (u.remove nm k fm) :: L) _)
        exact fin ((R.remove hn1 hk).mono (Nat.le_succ c)) (rm_bag _ _ _ _) (Hd.mt (by walk_at "mt") hs) (by omega)
    walk_at "run"
    refine Sl.r_iteD (fun z2 => ?_) (fun z2 => ?_)
    · walk_at "run"
      refine ⟨p, nm, k, u, _, rfl, ⟨hm, hn1⟩, Hd.mt (by walk_at "mt") hs, ?_⟩
      walk_at "run"
      refine ⟨p, k, fm, u, _, rfl, ⟨hk, by omega, by rw [lc2]; unfold nb; omega⟩, Hd.mt (by walk_at "mt") hs, fun H hs => ?_⟩
      walk_at "run"
      obtain ⟨nl, enl⟩ : ∃ x, x = q_ := ⟨_, rfl⟩
      rw [← enl] at hs ⊢
      refine Sl.r_setDi hs (by walk_at "put") (putK_dM (f := refA) (l := (nl, ([] : List Int))) ..) (by walk_at "szE") fun H hs => ?_
      walk_at "run"
      have hs := big_put (F := lstT) (k := nm) (x := (nl, [])) eg.1 (Hd.mt (by walk_at "mt") hs : Hd (pto nl (.lst []) :: big lstT (dropM G nm) :: _) H)
      have hs := m_close (G := putM G nm (nl, [])) ⟨nd_put eg.1, by rw [mapM_put, eg.2]⟩ (Hd.mt (by walk_at "mt") hs : Hd (pto m (.dK (mmK (.ref fd) (.int hb) (.int u.bag))) :: pto fd (.dK (dM refA (putM G nm (nl, [])))) :: big lstT (putM G nm (nl, [])) :: stA d (n + 1 + 1) :: filesA T.C_File T.C_Files p (u.cut k fm) :: L) _)
      exact fin ((R.cut hn1 hk).mono (Nat.le_succ c)) rfl (Hd.mt (by walk_at "mt") hs) (by omega)
    walk_at "run"
    rw [List.length_map]
    refine ⟨d, (ws.length : Int) + 1, n + 1 + 1, _, rfl, ⟨by omega, by omega, by omega⟩, Hd.mt (by walk_at "mt") hs, fun p1 H p10 p11 hs => ?_⟩
    walk_at "run"
    refine ⟨d, 60, n + 1 + 1 + 1, _, rfl, ⟨by omega, by omega, by omega⟩, Hd.mt (by walk_at "mt") hs, fun p3 H p30 p31 hs => ?_⟩
    walk_at "run"
    rw [List.length_map] at hs
    refine ⟨d, 3, n + 1 + 1 + 1 + 1, _, rfl, ⟨by omega, by omega, by omega⟩, Hd.mt (by walk_at "mt") hs, fun p4 H p40 p41 hs => ?_⟩
    walk_at "run"
    obtain ⟨pl, hp, ep⟩ := pick3 p40 p41 (fun m : Int => 0 ≤ m ∧ m ≤ 600) (a := p1) (b := (ws.length : Int)) (c := p3) ⟨p10, by omega⟩ ⟨by omega, by omega⟩ ⟨p30, by omega⟩
    refine Sl.r_ixL (hs.sq (a := q_) (by walk_at "pull")) ep ?_
    obtain ⟨pl, rfl⟩ := Int.eq_ofNat_of_zero_le hp.1
    have hp2 : pl ≤ 600 := by omega
    walk_at "run"
    obtain ⟨ct, hct, ect⟩ := pick2 (r := if decide (way = 7) = true then 1 else 0) (by split <;> omega) (by split <;> omega) (fun m : Int => 12 ≤ m ∧ m ≤ 513) (a := 12) (b := 513) ⟨by omega, by omega⟩ ⟨by omega, by omega⟩
    refine Sl.r_ixL (hs.sq (a := q_) (by walk_at "pull")) ect ?_
    walk_at "run"
    refine ⟨d, ct, n + 1 + 1 + 1 + 1 + 1, _, rfl, ⟨by omega, by omega, by omega⟩, Hd.mt (by walk_at "mt") hs, fun cn H cn0 cn1 hs => ?_⟩
    obtain ⟨cn, rfl⟩ := Int.eq_ofNat_of_zero_le cn0
    walk_at "run"
    rw [Int.toNat_natCast]
    have hs : Hd (stA d (n + 6) :: pto t (.lst (ws.map V.int)) :: big lstT (dropM G nm) :: pto m (.dK (mmK (.ref fd) (.int hb) (.int u.bag))) :: pto fd (.dK (dM refA G)) :: filesA T.C_File T.C_Files p u :: L) _ := Hd.mt (by walk_at "mt") hs
    refine Sl.r_lcR (fun D j H => ∃ us : List Int, us.length = j ∧ Hd (pto D (.lst (us.map V.int)) :: stA d (n + 6 + j) :: pto t (.lst (ws.map V.int)) :: big lstT (dropM G nm) :: pto m (.dK (mmK (.ref fd) (.int hb) (.int u.bag))) :: pto fd (.dK (dM refA G)) :: filesA T.C_File T.C_Files p u :: L) H) hs (fun D H hs => ⟨[], rfl, hs⟩) ?_ ?_
    · clear hs
      rintro D j H hj ⟨us, lu, hs⟩
      walk_at "run"
      refine ⟨d, 65536, n + 6 + j, _, rfl, ⟨by omega, by omega, by omega⟩, Hd.mt (by walk_at "mt") hs, fun z H z0 z1 hs => ?_⟩
      walk_at "run"
      refine ⟨us ++ [z], by rw [List.length_append, lu]; rfl, ?_⟩
      rw [List.map_append, List.map_cons, List.map_nil, show n + 6 + (j + 1) = n + 6 + j + 1 from rfl]
      exact Hd.mt (by walk_at "mt") hs
    clear hs
    rintro W H ⟨us, lu, hs⟩
    walk_at "run"
    refine Sl.r_neNil (ns := us) (hs.sq (a := W) (by walk_at "pull")) (hs.sq (a := q_) (by walk_at "pull")) ?_
    have sm := R.sm
    by_cases e0 : us = []
    · rw [show us.isEmpty = true by rw [e0]; rfl]
      walk_at "run"
      have hs := big_back (F := lstT) eg.1 hg (Hd.mt (by walk_at "mt") hs : Hd (lstT (nm, (t, ws)) :: big lstT (dropM G nm) :: _) _)
      rw [if_pos (decide_eq_true (by rw [List.length_map]; omega))]
      walk_at "run"
      refine ⟨m, fd, G, hb, u.bag, _, rfl, ⟨by omega, eg.1⟩, Hd.mt (by walk_at "mt") hs, fun H hs => ?_⟩
      walk_at "run"
      rw [eg.2, if_pos (decide_eq_true (by rw [List.length_map]; omega))]
      walk_at "run"
      refine ⟨p, nm, k, u, _, rfl, ⟨hm, hn1⟩, Hd.mt (by walk_at "mt") hs, ?_⟩
      walk_at "run"
      refine ⟨p, W, k, pl, us, fm, u, _, rfl, ⟨hk, by rw [fc]; exact lc1, by rw [lc2, fc]; rfl, fun z => (z e0).elim, by omega, by omega, by omega⟩, Hd.mt (by walk_at "mt") hs, fun H hs => ?_⟩
      rw [show u.put k fm pl us = u from if_pos e0] at hs
      walk_at "run"
      refine Sl.r_setDi hs (by walk_at "put") (putK_dM (f := refA) (l := (t, ws)) ..) (by walk_at "szE") fun H hs => ?_
      rw [put_same eg.1 hg] at hs
      walk_at "run"
      have hs := m_close eg (Hd.mt (by walk_at "mt") hs : Hd (pto m (.dK (mmK (.ref fd) (.int hb) (.int u.bag))) :: pto fd (.dK (dM refA G)) :: big lstT G :: stA d (n + 6 + cn) :: filesA T.C_File T.C_Files p u :: L) _)
      exact fin (R.mono (Nat.le_succ c)) rfl (Hd.mt (by walk_at "mt") hs) (by omega)
    rw [show us.isEmpty = false by cases us with | nil => exact (e0 rfl).elim | cons _ _ => rfl]
    have ex : (List.replicate ((pl : Int) - (ws.length : Int)).toNat [V.int 0]).flatten = (List.replicate (pl - ws.length) (0 : Int)).map V.int := by
      rw [rep_flat, List.map_replicate]
      congr 1
      omega
    have hzl : ((List.replicate ((pl : Int) - (ws.length : Int)).toNat [V.int 0]).flatten).length ≤ 600 := by
      rw [ex, List.length_map, List.length_replicate]
      omega
    have hzn : (1 : Nat) * ((pl : Int) - (ws.length : Int)).toNat ≤ 600 := by omega
    have c1 : cutV (ws.map V.int ++ (List.replicate ((pl : Int) - (ws.length : Int)).toNat [V.int 0]).flatten) none (some (pl : Int)) = ((ws ++ List.replicate (pl - ws.length) 0).take pl).map V.int := by
      rw [ex, ← List.map_append, cut_hi]
    have c2 : cutV (ws.map V.int ++ (List.replicate ((pl : Int) - (ws.length : Int)).toNat [V.int 0]).flatten) (some ((pl : Int) + ((us.map V.int).length : Int))) none = ((ws ++ List.replicate (pl - ws.length) 0).drop (pl + us.length)).map V.int := by
      rw [ex, ← List.map_append, List.length_map, show (pl : Int) + (us.length : Int) = ((pl + us.length : Nat) : Int) by omega, cut_lo]
    have h1 : (cutV (ws.map V.int ++ (List.replicate ((pl : Int) - (ws.length : Int)).toNat [V.int 0]).flatten) none (some (pl : Int))).length ≤ 600 := by
      rw [c1, List.length_map, List.length_take]
      omega
    have h2 : (cutV (ws.map V.int ++ (List.replicate ((pl : Int) - (ws.length : Int)).toNat [V.int 0]).flatten) (some ((pl : Int) + ((us.map V.int).length : Int))) none).length ≤ 1200 := by
      rw [c2, List.length_map, List.length_drop, List.length_append, List.length_replicate]
      omega
    have h3 := h2
    rw [List.length_map] at h3
    walk_at "run"
    rw [List.length_map]
    walk_at "run"
    rw [c1, c2, ← List.map_append, ← List.map_append] at hs ⊢
    have ef : freshL ws us pl = (ws ++ List.replicate (pl - ws.length) 0).take pl ++ us ++ (ws ++ List.replicate (pl - ws.length) 0).drop (pl + us.length) := rfl
    rw [← ef] at hs ⊢
    obtain ⟨F, eF⟩ : ∃ x, x = q_ := ⟨_, rfl⟩
    rw [← eF] at hs ⊢
    have fl := fresh_len ws us pl
    have hs : Hd (pto F (.lst ((freshL ws us pl).map V.int)) :: pto W (.lst (us.map V.int)) :: stA d (n + 6 + cn) :: pto t (.lst (ws.map V.int)) :: big lstT (dropM G nm) :: pto m (.dK (mmK (.ref fd) (.int hb) (.int u.bag))) :: pto fd (.dK (dM refA G)) :: filesA T.C_File T.C_Files p u :: L) H := Hd.mt (by walk_at "mt") hs
    have out : ∀ H, Hd (pto F (.lst ((freshL ws us pl).map V.int)) :: pto W (.lst (us.map V.int)) :: stA d (n + 6 + cn) :: big lstT G :: pto m (.dK (mmK (.ref fd) (.int hb) (.int u.bag))) :: pto fd (.dK (dM refA G)) :: filesA T.C_File T.C_Files p u :: L) H → Q .non H := fun H hs => by
      have hs := m_close eg (Hd.mt (by walk_at "mt") hs : Hd (pto m (.dK (mmK (.ref fd) (.int hb) (.int u.bag))) :: pto fd (.dK (dM refA G)) :: big lstT G :: stA d (n + 6 + cn) :: filesA T.C_File T.C_Files p u :: L) _)
      exact fin (R.mono (Nat.le_succ c)) rfl (Hd.mt (by walk_at "mt") hs) (by omega)
    have hs := big_back (F := lstT) eg.1 hg (Hd.mt (by walk_at "mt") hs : Hd (lstT (nm, (t, ws)) :: big lstT (dropM G nm) :: _) _)
    refine Sl.r_iteD (fun z1 => ?_) (fun z1 => ?_)
    · rw [List.length_map] at z1
      walk_at "run"
      refine ⟨m, fd, G, hb, u.bag, _, rfl, ⟨by omega, eg.1⟩, Hd.mt (by walk_at "mt") hs, fun H hs => ?_⟩
      walk_at "run"
      rw [eg.2]
      refine Sl.r_iteD (fun z2 => ?_) (fun z2 => ?_)
      · rw [List.length_map, List.length_map] at z2
        have sz : FilesM.sizeP fm pl us ≤ 512 ∧ FilesM.lack fm pl us ≤ u.loose.length := by
          have e1 : FilesM.sizeP fm pl us = max fm.content.length (pl + us.length) := rfl
          have e2 : FilesM.lack fm pl us = nb (FilesM.sizeP fm pl us) - fm.loans.length := rfl
          rw [e2, e1, lc2, fc]
          unfold nb
          omega
        walk_at "run"
        refine ⟨p, nm, k, u, _, rfl, ⟨hm, hn1⟩, Hd.mt (by walk_at "mt") hs, ?_⟩
        walk_at "run"
        refine ⟨p, W, k, pl, us, fm, u, _, rfl, ⟨hk, by rw [fc]; exact lc1, by rw [lc2, fc]; rfl, fun _ => sz, by omega, by omega, by omega⟩, Hd.mt (by walk_at "mt") hs, fun H hs => ?_⟩
        walk_at "run"
        refine Sl.r_setDi hs (by walk_at "put") (putK_dM (f := refA) (l := (F, freshL ws us pl)) ..) (by walk_at "szE") fun H hs => ?_
        walk_at "run"
        have hs := big_get (F := lstT) eg.1 hg (Hd.mt (by walk_at "mt") hs : Hd (big lstT G :: pto F (.lst ((freshL ws us pl).map V.int)) :: stA d (n + 6 + cn) :: pto m (.dK (mmK (.ref fd) (.int hb) (.int u.bag))) :: pto fd (.dK (dM refA (putM G nm (F, freshL ws us pl)))) :: filesA T.C_File T.C_Files p (u.put k fm pl us) :: L) _)
        have hs := big_put (F := lstT) (k := nm) (x := (F, freshL ws us pl)) eg.1 (Hd.mt (by walk_at "mt") hs : Hd (pto F (.lst ((freshL ws us pl).map V.int)) :: big lstT (dropM G nm) :: _) H)
        have hs := m_close (G := putM G nm (F, freshL ws us pl)) ⟨nd_put eg.1, by rw [mapM_put, eg.2]⟩ (Hd.mt (by walk_at "mt") hs : Hd (pto m (.dK (mmK (.ref fd) (.int hb) (.int u.bag))) :: pto fd (.dK (dM refA (putM G nm (F, freshL ws us pl)))) :: big lstT (putM G nm (F, freshL ws us pl)) :: stA d (n + 6 + cn) :: filesA T.C_File T.C_Files p (u.put k fm pl us) :: L) _)
        have Rp := R.put hn1 hk e0 sz.1 sz.2
        rw [fc] at Rp
        exact fin (Rp.mono (Nat.le_succ c)) (put_bag _ _ _ _ _) (Hd.mt (by walk_at "mt") hs) (by omega)
      · walk_at "run"
        exact out _ (Hd.mt (by walk_at "mt") hs)
    · walk_at "run"
      exact out _ (Hd.mt (by walk_at "mt") hs)
end
section
variable {P : Program} {w : World} {K : PySem.W.Frag} {mg : Str → Option Value} {base : Heap}

/-- what the law's own table tells where nothing is written -/
theorem tbl_get2 {d z : Addr} {M : Blk} {k n : Int} {L : List SA} {H : Hp} (h : Hd (pto z (.tup [V.int 0]) :: tblA d M k :: L) H) : ∃ kvs, H d = some (.dK kvs) ∧ ∃ (t : Addr) (b0 : Int) (r : List Int), (valV kvs (.inl n)).getD (.ref z) = .ref t ∧ (blk M n).headD 0 = b0 ∧ Hd (pto t (.tup ((b0 :: r).map V.int)) :: tblA d M k :: L) H := by
  obtain ⟨kvs, h1, -, hv⟩ := h.at (up_tbl d M k) (.there .here)
  refine ⟨kvs, h1, ?_⟩
  unfold blk
  rcases hv n with ⟨e1, e2⟩ | ⟨t, ws, e1, e2, e3, l8⟩
  · rw [e1, e2]
    exact ⟨z, 0, [], rfl, rfl, h⟩
  · rw [e1, e3]
    obtain ⟨b, r, rfl⟩ := cons_of l8
    exact ⟨t, b, r, rfl, rfl, h.tl.tup e2⟩
theorem tbl_get {d z : Addr} {M : Blk} {k n : Int} {L : List SA} {H : Hp} (h : Hd (pto z (.tup (z8.map V.int)) :: tblA d M k :: L) H) : ∃ kvs, H d = some (.dK kvs) ∧ ∃ t, (valV kvs (.inl n)).getD (.ref z) = .ref t ∧ Hd (pto t (.tup ((blk M n).map V.int)) :: tblA d M k :: L) H := by
  obtain ⟨kvs, h1, -, hv⟩ := h.at (up_tbl d M k) (.there .here)
  refine ⟨kvs, h1, ?_⟩
  unfold blk
  rcases hv n with ⟨e1, e2⟩ | ⟨t, ws, e1, e2, e3, -⟩
  · rw [e1, e2]
    exact ⟨z, rfl, h⟩
  · rw [e1, e3]
    exact ⟨t, rfl, h.tl.tup e2⟩

def sp_law_told (T : Txt K mg) : Sp := fun vs H Q _ => ∃ (m : Addr) (c : Nat) (u : FilesM) (N : List (Int × List Int)) (hb b : Int) (L : List SA), vs = [.ref m] ∧ RN c u N hb ∧ Hd (mA m N hb b :: L) H ∧ ∀ a xs H', Hd (pto a (.lst xs) :: Sd.dsA K xs ((told N).map toldD) :: mA m N hb b :: L) H' → Q (.ref a) H'
theorem ok_law_told (T : Txt K mg) : FnOk P w K mg base CX0 1 T.a_law_told T.d_law_told ["_law_m"] (sp_law_told T) := by
  refine T.f_law_told.ok sc_law_told (fun vs H Q E h => ?_) (fun cdv A outer s H vs Q E hr h => ?_)
  · obtain ⟨m, c, u, N, hb, b, L, rfl, _⟩ := h
    rfl
  · obtain ⟨m, c, u, N, hb, b, L, rfl, h⟩ := h
    refine ⟨_, (pss_one (ps_ret (pe_lc (own := [("_law_name", 1)]) rfl sc_law_told.nd (pi_list (pe_callB (Sl.call_sortedDI rfl) (by rfl) T.n_sorted (by decide +kernel) (pa_cons (pe_ix (k_ix (K := K) rfl (hu_of hr)) (pv 0) pe_str (fun _ _ => rfl)) pa_nil))) (blkOk_by (N := ["_law_m", "_law_name"]) (sc := defScope s_law_told) (by decide +kernel)) (fun _ _ _ _ _ => (pg_name (i := 1) sc_law_told.nd rfl (by first | exact Or.inl rfl | exact Or.inr rfl))) (fun s_0 H_0 C_0 cl_0 fp_0 => pts_nil) (fun s_0 H_0 C_0 cl_0 fp_0 => (pe_tup (pa_cons (pv 1) (pa_cons (pe_callTy (k_tuple (K := K) rfl) (by rfl) T.n_tuple (by decide +kernel) (pa_cons (pe_ix (k_ix (K := K) rfl (hu_of hr)) (pe_ix (k_ix (K := K) rfl (hu_of hr)) (pv 0) pe_str (fun _ _ => rfl)) (pv 1) (fun _ _ => rfl)) pa_nil)) pa_nil))))))), ?_⟩
    try dsimp only [cxOf]
    obtain ⟨R, hs, y⟩ := h
    obtain ⟨f1, f2, f3, f4, f5⟩ := R.few
    have lN := R.lt
    obtain ⟨fd, G, eg, hs⟩ := m_open hs
    have lG : G.length = N.length := by rw [← eg.2]; exact (mapM_len ..).symm
    have kG : keysM G = keysM N := by rw [← eg.2, mapM_keys]
    have lk : (srt (keysM G)).length = G.length := by rw [(srt_perm _).length_eq]; exact List.length_map _
    walk_at "run"
    obtain ⟨S, eS⟩ : ∃ x, x = q_ := ⟨_, rfl⟩
    rw [← eS] at hs ⊢
    refine Sl.r_lcL ((srt (keysM G)).map V.int) (fun D i H => ∃ xs : List V, Hd (pto D (.lst xs) :: Sd.dsA K xs (((told N).take i).map toldD) :: pto S (.lst ((srt (keysM G)).map V.int)) :: pto m (.dK (mmK (.ref fd) (.int hb) (.int b))) :: pto fd (.dK (dM refA G)) :: big lstT G :: L) H) hs (fun D H hs => ⟨[], by show Hd (pto D (.lst []) :: Sd.dsA K [] [] :: _) _; exact Hd.mt (by walk_at "mt") (Sd.ds_nil (K := K) hs)⟩) (fun D i H _ ⟨_, hs⟩ => hs.sq (by walk_at "pull")) ?_ ?_
    · clear hs
      rintro D i x0 H hx ⟨xs, hs⟩
      rw [List.getElem?_map] at hx
      obtain ⟨n, hn, rfl⟩ := Option.map_eq_some_iff.mp hx
      obtain ⟨⟨t, ws⟩, hg⟩ := at_key ((srt_perm _).subset (List.mem_of_getElem? hn))
      have hN : getM N n = some ws := by rw [← eg.2, mapM_get, hg]; rfl
      obtain ⟨k, fm, hn1, hk, ft, fh, fc⟩ := R.at hN
      have l5 := (R.lo k fm hk).1
      rw [fc] at l5
      have lx := Sd.ds_len hs (by walk_at "pull")
      rw [List.length_map, List.length_take, told_len] at lx
      have hs := big_get (F := lstT) eg.1 hg (Hd.mt (by walk_at "mt") hs : Hd (big lstT G :: pto D (.lst xs) :: Sd.dsA K xs (((told N).take i).map toldD) :: pto S (.lst ((srt (keysM G)).map V.int)) :: pto m (.dK (mmK (.ref fd) (.int hb) (.int b))) :: pto fd (.dK (dM refA G)) :: L) _)
      have hs : Hd (pto t (.lst (ws.map V.int)) :: big lstT (dropM G n) :: _) _ := hs
      have vF : valV (dM refA G) (.inl n) = some (.ref t) := by rw [valV_dM, hg]; rfl
      walk_at "run"
      rename_i tc _ _
      have hs := big_back (F := lstT) eg.1 hg (Hd.mt (by walk_at "mt") hs : Hd (lstT (n, (t, ws)) :: big lstT (dropM G n) :: _) _)
      have hs := tl_snoc (T := q_) (t := tc) (n := n) (c := ws) (Hd.mt (by walk_at "mt") hs : Hd (pto q_ (.tup [.int n, .ref tc]) :: pto tc (.tup (ws.map V.int)) :: Sd.dsA K xs (((told N).take i).map toldD) :: _) _)
      refine ⟨xs ++ [V.ref q_], ?_⟩
      rw [List.take_add_one, told_at (by rw [← kG]; exact hn) hN, show ((told N).take i ++ (some (n, ws)).toList).map toldD = ((told N).take i).map toldD ++ [toldD (n, ws)] from List.map_append]
      exact Hd.mt (by walk_at "mt") hs
    clear hs
    rintro D H ⟨xs, hs⟩
    rw [List.length_map, lk, lG, ← told_len, List.take_length] at hs
    walk_at "run"
    have hs := m_close eg (Hd.mt (by walk_at "mt") hs : Hd (pto m (.dK (mmK (.ref fd) (.int hb) (.int b))) :: pto fd (.dK (dM refA G)) :: big lstT G :: _) _)
    exact y D xs _ (Hd.mt (by walk_at "mt") hs)
end
section
variable {P : Program} {w : World} {K : PySem.W.Frag} {mg : Str → Option Value} {base : Heap}

theorem wr_sp {x : DS} {k lf : Int} (h : x.2.2 = some (lf - (x.2.1 - k)) ∧ x.2.1 - k ≤ lf) (n : Int) (ws : List Int) : (wrM x n ws).2.2 = some (lf - ((wrM x n ws).2.1 - k)) ∧ (wrM x n ws).2.1 - k ≤ lf := by
  show wrS x.2.2 = some (lf - (wrK x.2.1 x.2.2 - k)) ∧ wrK x.2.1 x.2.2 - k ≤ lf
  unfold wrK wrS
  by_cases e : x.2.2 = some 0
  · rw [if_pos e, if_pos e]
    exact h
  · rw [if_neg e, if_neg e]
    have e2 : ¬ lf - (x.2.1 - k) = 0 := fun z => e (by rw [h.1, z])
    rw [h.1]
    exact ⟨congrArg some (by show lf - (x.2.1 - k) - 1 = _; omega), by omega⟩
theorem wr_on {x : DS} {k lf : Int} (h : x.2.2 = some (lf - (x.2.1 - k)) ∧ x.2.1 - k ≤ lf) (lt : x.2.1 - k < lf) (n : Int) (ws : List Int) : (wrM x n ws).1 = putB x.1 n ws ∧ (wrM x n ws).2.1 = x.2.1 + 1 := by
  have e : ¬ x.2.2 = some 0 := fun z => by
    rw [h.1] at z
    have := Option.some.inj z
    omega
  exact ⟨if_neg e, if_neg e⟩
theorem wr_off {x : DS} {k lf : Int} (h : x.2.2 = some (lf - (x.2.1 - k)) ∧ x.2.1 - k ≤ lf) (lt : ¬ x.2.1 - k < lf) (n : Int) (ws : List Int) : wrM x n ws = x := by
  have e : x.2.2 = some 0 := by
    rw [h.1]
    exact congrArg some (by omega)
  unfold wrM wrB wrK wrS
  rw [if_pos e, if_pos e, if_pos e]
theorem lay_sp {M : Blk} {k lf : Int} (l0 : 0 ≤ lf) (f : Int) (ws : List Int) : ∀ i, (layS (M, k, some lf) f ws i).2.2 = some (lf - ((layS (M, k, some lf) f ws i).2.1 - k)) ∧ (layS (M, k, some lf) f ws i).2.1 - k ≤ lf
  | 0 => ⟨congrArg some (by show lf = lf - (k - k); omega), by show k - k ≤ lf; omega⟩
  | i + 1 => by
    have h := lay_sp l0 f ws (M := M) (k := k) i
    unfold layS
    split
    · exact h
    · exact wr_sp h _ _


theorem cl_told : ∀ FL : List (Int × List Int), PyData.canLayAll0 (FL.map toldD) = true
  | [] => rfl
  | e :: r => by
    rw [List.map_cons, PyData.canLayAll0, cl_told r]
    unfold toldD
    rw [PyData.canLay0, PyData.canLayAll0, PyData.canLayAll0, PyData.canLay0, PyData.canLay0, cl_ints]
    rfl
theorem dt_told : ∀ FL : List (Int × List Int), PyData.depthAll (FL.map toldD) ≤ 3
  | [] => by simp [PyData.depthAll]
  | e :: r => by
    have b := dt_told r
    have c : (toldD e).depth ≤ 3 := by
      have a := dt_ints e.2
      unfold toldD
      rw [PyData.depth, PyData.depthAll, PyData.depthAll, PyData.depth, PyData.depth]
      simp only [PyData.depthAll]
      omega
    rw [List.map_cons, PyData.depthAll]
    omega
theorem sh_told (FL : List (Int × List Int)) : SeqAt.shaped (.list (FL.map toldD)) = true := by
  have b := dt_told FL
  unfold SeqAt.shaped
  rw [PyData.canLay0, cl_told, PyData.depth, Bool.true_and]
  apply decide_eq_true
  omega
theorem r_neTold {K : PySem.W.Frag} {H : Hp} {Q : VK} {a b : Addr} {xs ys : List V} {FL : List (Int × List Int)} {L L1 L2 L3 L4 : List SA} (hs : Hd L H) (p1 : Pull (pto a (.lst xs)) L L1) (p2 : Pull (Sd.dsA K xs (FL.map toldD)) L L2) (p3 : Pull (pto b (.lst ys)) L L3) (p4 : Pull (Sd.dsA K ys (FL.map toldD)) L L4) (q : Q (.bl false) H) : rNeU K (.ref a) (.ref b) H Q :=
  Sl.r_neSame (d := .list (FL.map toldD)) (.lst (hs.sq p1) (Sd.ds_dup hs p2)) (.lst (hs.sq p3) (Sd.ds_dup hs p4)) (sh_told FL) (SeqAt.eqv_refl _ (SeqAt.canLay_of_shaped (sh_told FL))) q
/-! ### sureness keeps what a rise tells -/
theorem first_pos {h : Int} : 1 ≤ firstB h := by
  unfold firstB
  split <;> omega
theorem lay_out {M : Blk} {k : Int} {sp : Option Int} {F : Int} {P : List Int} : ∀ (i : Nat) (n : Int), (n < F ∨ F + (i : Int) ≤ n) → (layS (M, k, sp) F P i).1 n = M n
  | 0, _, _ => rfl
  | i + 1, n, h => by
    have ih := lay_out (M := M) (k := k) (sp := sp) (F := F) (P := P) i n (by omega)
    have nn : ¬ n = F + (i : Int) := by omega
    unfold layS
    split
    · exact ih
    · show wrB _ _ _ _ n = M n
      unfold wrB putB
      split
      · exact ih
      · dsimp only
        rw [if_neg nn]
        exact ih
theorem lay_in {M : Blk} {k lf : Int} (l0 : 0 ≤ lf) {F : Int} {P : List Int} : ∀ (i : Nat), (layS (M, k, some lf) F P i).2.1 - k < lf → ∀ j : Nat, j < i → blk (layS (M, k, some lf) F P i).1 (F + (j : Int)) = chunk P j
  | 0, _, _, h => absurd h (Nat.not_lt_zero _)
  | i + 1, h, j, hj => by
    have sp := lay_sp (M := M) (k := k) l0 F P i
    have ih := lay_in (M := M) (k := k) l0 (F := F) (P := P) i
    have en : layS (M, k, some lf) F P (i + 1) = if blk (layS (M, k, some lf) F P i).1 (F + (i : Int)) = chunk P i then layS (M, k, some lf) F P i else wrM (layS (M, k, some lf) F P i) (F + (i : Int)) (chunk P i) := rfl
    rw [en] at h ⊢
    generalize layS (M, k, some lf) F P i = X at *
    by_cases e : blk X.1 (F + (i : Int)) = chunk P i
    · rw [if_pos e] at h ⊢
      by_cases ej : j = i
      · rw [ej]
        exact e
      · exact ih h j (by omega)
    · rw [if_neg e] at h ⊢
      by_cases lt : X.2.1 - k < lf
      · obtain ⟨g1, g2⟩ := wr_on sp lt (F + (i : Int)) (chunk P i)
        rw [g1]
        by_cases ej : j = i
        · rw [ej]
          unfold blk putB
          rw [if_pos rfl]
          rfl
        · have := ih lt j (by omega)
          unfold blk putB at *
          rw [if_neg (by omega)]
          exact this
      · rw [wr_off sp lt] at h
        exact (lt h).elim
theorem nb_mono {a b : Nat} (h : a ≤ b) : nb a ≤ nb b := by
  unfold nb
  omega
theorem sure_ok {M : Blk} {k lf : Int} (l0 : 0 ≤ lf) {FL FN : List (Int × List Int)} (ok : DkOk M FL) (lp : (picL FN).length ≤ 1100) : ∃ FL', DkOk (sureM M k (some lf) (picL FN)).1 FL' ∧ ((sureM M k (some lf) (picL FN)).2.1 - k < lf → FL' = FN) := by
  have z9 : sureM M k (some lf) (picL FN) = wrM (layS (M, k, some lf) (firstB (halfM M)) (picL FN) (nb (picL FN).length)) 0 (headW M (picL FN)) := rfl
  rw [z9]
  have hF := first_pos (h := halfM M)
  have sp := lay_sp (M := M) (k := k) l0 (firstB (halfM M)) (picL FN) (nb (picL FN).length)
  have out := lay_out (M := M) (k := k) (sp := some lf) (F := firstB (halfM M)) (P := picL FN) (nb (picL FN).length)
  have inn := lay_in (M := M) (k := k) l0 (F := firstB (halfM M)) (P := picL FN) (nb (picL FN).length)
  generalize layS (M, k, some lf) (firstB (halfM M)) (picL FN) (nb (picL FN).length) = X at *
  by_cases lt : X.2.1 - k < lf
  · obtain ⟨g1, g2⟩ := wr_on sp lt 0 (headW M (picL FN))
    refine ⟨FN, ?_, fun _ => rfl⟩
    rw [g1]
    refine .inr ⟨halfM M, (picL FN).sum % 65536, half_two M, ?_, by omega, fun i hi => ?_⟩
    · unfold blk putB
      rw [if_pos rfl]
      rfl
    · have := inn lt i hi
      unfold blk putB at *
      rw [if_neg (by omega)]
      exact this
  · rw [wr_off sp lt]
    refine ⟨FL, ?_, fun z => (lt z).elim⟩
    rcases ok with ⟨e0, rfl⟩ | ⟨hf, tt, hh, eb, lq, hc⟩
    · exact .inl ⟨(out 0 (by omega)).trans e0, rfl⟩
    · refine .inr ⟨hf, tt, hh, ?_, lq, fun i hi => ?_⟩
      · rw [← eb]
        unfold blk
        rw [out 0 (by omega)]
      · rw [← hc i hi]
        unfold blk
        rw [out _ ?_]
        have hM : halfM M = if hf = 1 then 2 else 1 := by
          unfold halfM
          rw [eb]
          rfl
        have n1 : nb (picL FL).length ≤ 150 := Nat.le_trans (nb_mono lq) (Nat.le_of_ble_eq_true rfl)
        have n2 : nb (picL FN).length ≤ 138 := Nat.le_trans (nb_mono lp) (Nat.le_of_ble_eq_true rfl)
        rw [hM]
        rcases hh with rfl | rfl
        · rw [if_pos rfl]
          have a : firstB 1 = 1 := rfl
          have b : firstB 2 = 200 := rfl
          rw [a, b]
          omega
        · rw [if_neg (by decide)]
          have a : firstB 1 = 1 := rfl
          have b : firstB 2 = 200 := rfl
          rw [a, b]
          omega
theorem sure_k {M : Blk} {k lf : Int} {P : List Int} (lp : P.length ≤ 1100) : k ≤ (sureM M k (some lf) P).2.1 ∧ (sureM M k (some lf) P).2.1 ≤ k + 139 := by
  have z9 : (sureM M k (some lf) P).2.1 = wrK (layS (M, k, some lf) (firstB (halfM M)) P (nb P.length)).2.1 (layS (M, k, some lf) (firstB (halfM M)) P (nb P.length)).2.2 := rfl
  have lk := layS_k (M, k, some lf) (firstB (halfM M)) P (nb P.length)
  have n2 : nb P.length ≤ 138 := Nat.le_trans (nb_mono lp) (Nat.le_of_ble_eq_true rfl)
  dsimp only at lk
  rw [z9]
  unfold wrK
  split <;> omega


theorem sure_done {M : Blk} {k lf : Int} (l0 : 0 ≤ lf) {FN : List (Int × List Int)} (lp : (picL FN).length ≤ 1100) (lt : (layS (M, k, some lf) (firstB (halfM M)) (picL FN) (nb (picL FN).length)).2.1 - k < lf) : DkOk (sureM M k (some lf) (picL FN)).1 FN := by
  have z9 : sureM M k (some lf) (picL FN) = wrM (layS (M, k, some lf) (firstB (halfM M)) (picL FN) (nb (picL FN).length)) 0 (headW M (picL FN)) := rfl
  rw [z9]
  have hF := first_pos (h := halfM M)
  have sp := lay_sp (M := M) (k := k) l0 (firstB (halfM M)) (picL FN) (nb (picL FN).length)
  have inn := lay_in (M := M) (k := k) l0 (F := firstB (halfM M)) (P := picL FN) (nb (picL FN).length)
  generalize layS (M, k, some lf) (firstB (halfM M)) (picL FN) (nb (picL FN).length) = X at *
  obtain ⟨g1, g2⟩ := wr_on sp lt 0 (headW M (picL FN))
  rw [g1]
  refine .inr ⟨halfM M, (picL FN).sum % 65536, half_two M, ?_, by omega, fun i hi => ?_⟩
  · unfold blk putB
    rw [if_pos rfl]
    rfl
  · have := inn lt i hi
    unfold blk putB at *
    rw [if_neg (by omega)]
    exact this
theorem sure_not {M : Blk} {k lf : Int} (l0 : 0 ≤ lf) {FL FN : List (Int × List Int)} (ok : DkOk M FL) (lp : (picL FN).length ≤ 1100) (lt : ¬ (layS (M, k, some lf) (firstB (halfM M)) (picL FN) (nb (picL FN).length)).2.1 - k < lf) : DkOk (sureM M k (some lf) (picL FN)).1 FL := by
  have z9 : sureM M k (some lf) (picL FN) = wrM (layS (M, k, some lf) (firstB (halfM M)) (picL FN) (nb (picL FN).length)) 0 (headW M (picL FN)) := rfl
  rw [z9]
  have hF := first_pos (h := halfM M)
  have sp := lay_sp (M := M) (k := k) l0 (firstB (halfM M)) (picL FN) (nb (picL FN).length)
  have out := lay_out (M := M) (k := k) (sp := some lf) (F := firstB (halfM M)) (P := picL FN) (nb (picL FN).length)
  generalize layS (M, k, some lf) (firstB (halfM M)) (picL FN) (nb (picL FN).length) = X at *
  rw [wr_off sp lt]
  rcases ok with ⟨e0, rfl⟩ | ⟨hf, tt, hh, eb, lq, hc⟩
  · exact .inl ⟨(out 0 (by omega)).trans e0, rfl⟩
  · refine .inr ⟨hf, tt, hh, ?_, lq, fun i hi => ?_⟩
    · rw [← eb]
      unfold blk
      rw [out 0 (by omega)]
    · rw [← hc i hi]
      unfold blk
      rw [out _ ?_]
      have hM : halfM M = if hf = 1 then 2 else 1 := by
        unfold halfM
        rw [eb]
        rfl
      have n1 : nb (picL FL).length ≤ 150 := Nat.le_trans (nb_mono lq) (Nat.le_of_ble_eq_true rfl)
      have n2 : nb (picL FN).length ≤ 138 := Nat.le_trans (nb_mono lp) (Nat.le_of_ble_eq_true rfl)
      rw [hM]
      rcases hh with rfl | rfl
      · rw [if_pos rfl]
        have a : firstB 1 = 1 := rfl
        have b : firstB 2 = 200 := rfl
        rw [a, b]
        omega
      · rw [if_neg (by decide)]
        have a : firstB 1 = 1 := rfl
        have b : firstB 2 = 200 := rfl
        rw [a, b]
        omega


theorem lst_ne {a b : Addr} {xs ys : List V} {L : List SA} {H : Hp} (h : Hd (pto a (.lst xs) :: pto b (.lst ys) :: L) H) : a ≠ b := by
  obtain ⟨H1, H2, c, -, -, p, H3, H4, -, s3, -, p2, -⟩ := h
  intro e
  subst e
  exact (c _ _ _ p (s3 _ _ p2)).2
theorem sure_ok2 {M : Blk} {k lf : Int} (l0 : 0 ≤ lf) {FL FN : List (Int × List Int)} (ok : DkOk M FL) (lp : (picL FN).length ≤ 1100) : ∃ FL', DkOk (sureM M k (some lf) (picL FN)).1 FL' ∧ ((sureM M k (some lf) (picL FN)).2.1 - k < lf → FL' = FN) ∧ ((sureM M k (some lf) (picL FN)).2.1 - k = 0 → FL' = FL) ∧ (FL' = FL ∨ FL' = FN) ∧ (sureM M k (some lf) (picL FN)).2.2 = some (lf - ((sureM M k (some lf) (picL FN)).2.1 - k)) ∧ (sureM M k (some lf) (picL FN)).2.1 - k ≤ lf := by
  obtain ⟨FL2, h1, h2⟩ := sure_ok (k := k) l0 ok lp
  have z9 : sureM M k (some lf) (picL FN) = wrM (layS (M, k, some lf) (firstB (halfM M)) (picL FN) (nb (picL FN).length)) 0 (headW M (picL FN)) := rfl
  have sp := lay_sp (M := M) (k := k) l0 (firstB (halfM M)) (picL FN) (nb (picL FN).length)
  have lk := layS_k (M, k, some lf) (firstB (halfM M)) (picL FN) (nb (picL FN).length)
  have s2 := wr_sp sp 0 (headW M (picL FN))
  rw [← z9] at s2
  by_cases lt : (layS (M, k, some lf) (firstB (halfM M)) (picL FN) (nb (picL FN).length)).2.1 - k < lf
  · obtain ⟨g1, g2⟩ := wr_on sp lt 0 (headW M (picL FN))
    rw [← z9] at g1 g2
    have ok2 := sure_done l0 (k := k) (M := M) (FN := FN) lp lt
    refine ⟨FN, ok2, fun _ => rfl, fun z => ?_, .inr rfl, s2⟩
    dsimp only at lk
    omega
  · have e := wr_off sp lt 0 (headW M (picL FN))
    rw [← z9] at e
    have ok2 := sure_not l0 (k := k) ok lp lt
    refine ⟨FL, ok2, fun z => ?_, fun _ => rfl, .inl rfl, s2⟩
    rw [e] at z
    exact (lt z).elim
theorem lay_none {M : Blk} {k : Int} {F : Int} {P : List Int} : ∀ (i : Nat), (layS (M, k, none) F P i).2.2 = none ∧ ∀ j : Nat, j < i → blk (layS (M, k, none) F P i).1 (F + (j : Int)) = chunk P j
  | 0 => ⟨rfl, fun _ h => absurd h (Nat.not_lt_zero _)⟩
  | i + 1 => by
    have ih := lay_none (M := M) (k := k) (F := F) (P := P) i
    have en : layS (M, k, none) F P (i + 1) = if blk (layS (M, k, none) F P i).1 (F + (i : Int)) = chunk P i then layS (M, k, none) F P i else wrM (layS (M, k, none) F P i) (F + (i : Int)) (chunk P i) := rfl
    rw [en]
    generalize layS (M, k, none) F P i = X at *
    obtain ⟨i1, ih⟩ := ih
    by_cases e : blk X.1 (F + (i : Int)) = chunk P i
    · rw [if_pos e]
      refine ⟨i1, fun j hj => ?_⟩
      by_cases ej : j = i
      · rw [ej]
        exact e
      · exact ih j (by omega)
    · rw [if_neg e]
      have n0 : ¬ X.2.2 = some 0 := by rw [i1]; exact fun z => nomatch z
      have g1 : (wrM X (F + (i : Int)) (chunk P i)).1 = putB X.1 (F + (i : Int)) (chunk P i) := if_neg n0
      have g2 : (wrM X (F + (i : Int)) (chunk P i)).2.2 = none := by
        show wrS X.2.2 = none
        rw [i1]
        rfl
      refine ⟨g2, fun j hj => ?_⟩
      rw [g1]
      by_cases ej : j = i
      · rw [ej]
        unfold blk putB
        rw [if_pos rfl]
        rfl
      · have := ih j (by omega)
        unfold blk putB at *
        rw [if_neg (by omega)]
        exact this
theorem sure_none {M : Blk} {k : Int} {FN : List (Int × List Int)} (lp : (picL FN).length ≤ 1100) : DkOk (sureM M k none (picL FN)).1 FN ∧ (sureM M k none (picL FN)).2.2 = none ∧ k ≤ (sureM M k none (picL FN)).2.1 ∧ (sureM M k none (picL FN)).2.1 ≤ k + 139 := by
  have z9 : sureM M k none (picL FN) = wrM (layS (M, k, none) (firstB (halfM M)) (picL FN) (nb (picL FN).length)) 0 (headW M (picL FN)) := rfl
  have hF := first_pos (h := halfM M)
  have lk := layS_k (M, k, none) (firstB (halfM M)) (picL FN) (nb (picL FN).length)
  have n2 : nb (picL FN).length ≤ 138 := Nat.le_trans (nb_mono lp) (Nat.le_of_ble_eq_true rfl)
  obtain ⟨i1, inn⟩ := lay_none (M := M) (k := k) (F := firstB (halfM M)) (P := picL FN) (nb (picL FN).length)
  dsimp only at lk
  rw [z9]
  generalize layS (M, k, none) (firstB (halfM M)) (picL FN) (nb (picL FN).length) = X at *
  have n0 : ¬ X.2.2 = some 0 := by rw [i1]; exact fun z => nomatch z
  have g1 : (wrM X 0 (headW M (picL FN))).1 = putB X.1 0 (headW M (picL FN)) := if_neg n0
  have g2 : (wrM X 0 (headW M (picL FN))).2.2 = none := by
    show wrS X.2.2 = none
    rw [i1]
    rfl
  have g3 : (wrM X 0 (headW M (picL FN))).2.1 = X.2.1 + 1 := if_neg n0
  refine ⟨?_, g2, by omega, by omega⟩
  rw [g1]
  refine .inr ⟨halfM M, (picL FN).sum % 65536, half_two M, ?_, by omega, fun i hi => ?_⟩
  · unfold blk putB
    rw [if_pos rfl]
    rfl
  · have := inn i hi
    unfold blk putB at *
    rw [if_neg (by omega)]
    exact this
theorem told_depth (FL : List (Int × List Int)) : (PyData.list (FL.map toldD)).depth ≤ 60 := by
  have := dt_told FL
  rw [PyData.depth]
  omega
theorem told_lay (FL : List (Int × List Int)) : (PyData.list (FL.map toldD)).canLay0 = true := SeqAt.canLay_of_shaped (sh_told FL)
theorem told_refl (FL : List (Int × List Int)) : PyData.eqv (.list (FL.map toldD)) (.list (FL.map toldD)) = true := SeqAt.eqv_refl _ (told_lay FL)
theorem dp_told {K : PySem.W.Frag} {H : Hp} {a : Addr} {xs : List V} {FL : List (Int × List Int)} {L L1 L2 : List SA} (hs : Hd L H) (p1 : Pull (pto a (.lst xs)) L L1) (p2 : Pull (Sd.dsA K xs (FL.map toldD)) L L2) : Dp K H (.ref a) (.list (FL.map toldD)) := .lst (hs.sq p1) (Sd.ds_dup hs p2)
theorem r_eqTold {K : PySem.W.Frag} {H : Hp} {Q : VK} {a b : Addr} {xs ys : List V} {FL : List (Int × List Int)} {L L1 L2 L3 L4 : List SA} (hs : Hd L H) (p1 : Pull (pto a (.lst xs)) L L1) (p2 : Pull (Sd.dsA K xs (FL.map toldD)) L L2) (p3 : Pull (pto b (.lst ys)) L L3) (p4 : Pull (Sd.dsA K ys (FL.map toldD)) L L4) (q : Q (.bl true) H) : rEqU K (.ref a) (.ref b) H Q :=
  Sl.r_eqSame (d := .list (FL.map toldD)) (.lst (hs.sq p1) (Sd.ds_dup hs p2)) (.lst (hs.sq p3) (Sd.ds_dup hs p4)) (sh_told FL) (told_refl FL) q


theorem law_in {K : PySem.W.Frag} {H : Hp} {a : Addr} {ns : List Int} {Q : VK} {E : XK} (hl : ns.length ≤ 63) (hS : SqL K H a (ns.map V.int)) (q : ∀ H', Q (.bl true) H') :
  ∃ (a' : Addr) (ns : List Int), [V.ref a] = [.ref a'] ∧ ns.length ≤ 63 ∧ Hd [sql K a' (ns.map V.int)] H ∧ ∀ H', Q (.bl true) H' := ⟨a, ns, rfl, hl, Hd.one hS, q⟩

def sp_law_stopped (T : Txt K mg) : Sp := fun vs H Q _ => ∃ (d p m r Dn : Addr) (n0 c0 : Nat) (u : FilesM) (N : List (Int × List Int)) (hb : Int) (M : Blk) (k0 : Int) (FL : List (Int × List Int)) (xs : List V) (L : List SA), vs = [.ref d, .ref p, .ref m, .ref r, .ref Dn] ∧ (RN c0 u N hb ∧ c0 ≤ 390 ∧ n0 ≤ 700000 ∧ 0 ≤ k0 ∧ k0 ≤ 60000 ∧ DkOk M FL) ∧ Hd (pto Dn (.lst xs) :: Sd.dsA K xs (FL.map toldD) :: mA m N hb u.bag :: filesA T.C_File T.C_Files p u :: stA r n0 :: diskA T.C_Disk d M k0 none :: L) H ∧ ∀ D2 ys c u N hb M k FL H', RN c u N hb → c ≤ c0 + 3 → 0 ≤ k → k ≤ k0 + 417 → DkOk M FL → Hd (pto D2 (.lst ys) :: Sd.dsA K ys (FL.map toldD) :: mA m N hb u.bag :: filesA T.C_File T.C_Files p u :: stA r (n0 + 2000) :: diskA T.C_Disk d M k none :: L) H' → Q (.ref D2) H'
theorem ok_law_stopped (T : Txt K mg) : FnOk P w K mg base CX0 7 T.a_law_stopped T.d_law_stopped ["_law_disk", "_law_files", "_law_m", "_law_row_here", "_law_done"] (sp_law_stopped T) := by
  refine T.f_law_stopped.ok sc_law_stopped (fun vs H Q E h => ?_) (fun cdv A outer s H vs Q E hr h => ?_)
  · obtain ⟨d, p, m, r, Dn, n0, c0, u, N, hb, M, k0, FL, xs, L, rfl, _⟩ := h
    rfl
  · obtain ⟨d, p, m, r, Dn, n0, c0, u, N, hb, M, k0, FL, xs, L, rfl, h⟩ := h
    refine ⟨_, (pss_cons (ps_set (i := 5) sc_law_stopped.nd rfl (by first | exact Or.inl rfl | exact Or.inr rfl) (pe_call (ok_law_next T) (hr.mono (by decide)) (by rfl) T.g_law_next T.f_law_next.kp T.b_law_next .nil pass0 (pa_cons (pv 3) (pa_cons (pe_ix (k_ix (K := K) rfl (hu_of hr)) (pe_lst (pa_cons pe_int (pa_cons pe_int pa_nil))) (pe_call (ok_law_next T) (hr.mono (by decide)) (by rfl) T.g_law_next T.f_law_next.kp T.b_law_next .nil pass0 (pa_cons (pv 3) (pa_cons pe_int pa_nil))) (fun _ _ => rfl)) pa_nil))))
       (pss_cons (ps_expr (pe_meth (pv 0) T.cl_Disk T.m_Disk_stop (ok_Disk_stop T) (hr.mono (by decide)) T.b_Disk_stop .nil pass0 (pa_cons (pv 5) pa_nil)))
       (pss_cons (ps_for PassesOwn.never rfl (pi_range1 (by rfl) T.n_range (pa_cons (pe_op (k_add (K := K) rfl) pe_int (pe_call (ok_law_next T) (hr.mono (by decide)) (by rfl) T.g_law_next T.f_law_next.kp T.b_law_next .nil pass0 (pa_cons (pv 3) (pa_cons pe_int pa_nil)))) pa_nil)) (pg_name (i := 6) sc_law_stopped.nd rfl (by first | exact Or.inl rfl | exact Or.inr rfl))
        (pss_cons (ps_set (i := 7) sc_law_stopped.nd rfl (by first | exact Or.inl rfl | exact Or.inr rfl) (pe_meth0 (pv 0) T.cl_Disk T.m_Disk_writes (ok_Disk_writes T) (hr.mono (by decide)) T.b_Disk_writes .nil pass0))
       (pss_cons (ps_expr (pe_call (ok_sure T) hr (by rfl) T.g_sure T.f_sure.kp T.b_sure .nil pass0 (pa_cons (pv 0) (pa_cons (pv 1) pa_nil))))
       (pss_cons (ps_set (i := 8) sc_law_stopped.nd rfl (by first | exact Or.inl rfl | exact Or.inr rfl) (pe_op (k_sub (K := K) rfl) (pe_meth0 (pv 0) T.cl_Disk T.m_Disk_writes (ok_Disk_writes T) (hr.mono (by decide)) T.b_Disk_writes .nil pass0) (pv 7)))
       (pss_cons (ps_set (i := 9) sc_law_stopped.nd rfl (by first | exact Or.inl rfl | exact Or.inr rfl) (pe_call (ok_rise T) (hr.mono (by decide)) (by rfl) T.g_rise T.f_rise.kp T.b_rise .nil pass0 (pa_cons (pv 0) pa_nil)))
       (pss_cons (ps_set (i := 10) sc_law_stopped.nd rfl (by first | exact Or.inl rfl | exact Or.inr rfl) (pe_lst (pa_cons (pv 4) (pa_cons (pe_call (ok_law_told T) (hr.mono (by decide)) (by rfl) T.g_law_told T.f_law_told.kp T.b_law_told .nil pass0 (pa_cons (pv 2) pa_nil)) pa_nil))))
       (pss_cons (ps_if (PW.pt (pw_or (pt_cmpR op_gt (pv 8) (pv 5) (nomark _)) (pw_or1 (pt_cmpR (Sl.k_nin2 (K := K) rfl hr.units) (pv 9) (pv 10) (by rfl)))))
        (pss_one (ps_ret pe_non))
        pss_nil)
       (pss_cons (ps_if (PW.pt (pw_and (pt_cmpR op_lt (pv 8) (pv 5) (nomark _)) (pw_and1 (pt_cmpR (k_ne (K := K) rfl hr.units) (pv 9) (pe_ix (k_ix (K := K) rfl (hu_of hr)) (pv 10) pe_int (fun _ _ => rfl)) (nomark _)))))
        (pss_one (ps_ret pe_non))
        pss_nil)
       (pss_cons (ps_if (PW.pt (pw_and (pt_cmpR (k_eq (K := K) rfl hr.units) (pv 8) pe_int (nomark _)) (pw_and1 (pt_cmpR (k_ne (K := K) rfl hr.units) (pv 9) (pv 4) (nomark _)))))
        (pss_one (ps_ret pe_non))
        pss_nil)
       (pss_cons (ps_set (i := 4) sc_law_stopped.nd rfl (by first | exact Or.inl rfl | exact Or.inr rfl) (pv 9))
       (pss_cons (ps_set (i := 5) sc_law_stopped.nd rfl (by first | exact Or.inl rfl | exact Or.inr rfl) (pe_op (k_sub (K := K) rfl) (pv 5) (pv 8)))
       (pss_one (ps_expr (pe_call (ok_law_deed T) hr (by rfl) T.g_law_deed T.f_law_deed.kp T.b_law_deed .nil pass0 (pa_cons (pv 1) (pa_cons (pv 2) (pa_cons (pv 3) pa_nil)))))))))))))))))
       (pss_cons (ps_expr (pe_meth0 (pv 0) T.cl_Disk T.m_Disk_go (ok_Disk_go T) (hr.mono (by decide)) T.b_Disk_go .nil pass0))
       (pss_one (ps_ret (pv 4))))))), ?_⟩
    try dsimp only [cxOf]
    obtain ⟨⟨R, hc, hn, hk0, hk, ok⟩, hs, y⟩ := h
    walk_at "run"
    refine ⟨r, 2, n0, _, rfl, ⟨by omega, by omega, by omega⟩, Hd.mt (by walk_at "mt") hs, fun l1 H l10 l11 hs => ?_⟩
    walk_at "run"
    obtain ⟨ct, hct, ect⟩ := pick2 l10 l11 (fun m : Int => 4 ≤ m ∧ m ≤ 31) (a := 4) (b := 31) ⟨by omega, by omega⟩ ⟨by omega, by omega⟩
    refine Sl.r_ixL (hs.sq (a := q_) (by walk_at "pull")) ect ?_
    walk_at "run"
    refine ⟨r, ct, n0 + 1, _, rfl, ⟨by omega, by omega, by omega⟩, Hd.mt (by walk_at "mt") hs, fun lf H lf0 lf1 hs => ?_⟩
    walk_at "run"
    refine ⟨d, lf, M, k0, none, _, rfl, Hd.mt (by walk_at "mt") hs, fun H hs => ?_⟩
    walk_at "run"
    refine ⟨r, 3, n0 + 1 + 1, _, rfl, ⟨by omega, by omega, by omega⟩, Hd.mt (by walk_at "mt") hs, fun tr H tr0 tr1 hs => ?_⟩
    walk_at "run"
    refine Sl.r_forR (fun j σ H => ∃ (v6 v7 v8 v9 v10 : Option V) (Dn : Addr) (xs : List V) (lf : Int) (c : Nat) (u : FilesM) (N : List (Int × List Int)) (hb : Int) (M : Blk) (kk : Int) (FL : List (Int × List Int)), σ = [some (.ref d), some (.ref p), some (.ref m), some (.ref r), some (.ref Dn), some (.int lf), v6, v7, v8, v9, v10] ∧ (RN c u N hb ∧ c ≤ c0 + j ∧ 0 ≤ lf ∧ 0 ≤ kk ∧ kk ≤ k0 + 139 * (j : Int) ∧ DkOk M FL) ∧ Hd (pto Dn (.lst xs) :: Sd.dsA K xs (FL.map toldD) :: mA m N hb u.bag :: filesA T.C_File T.C_Files p u :: stA r (n0 + 3 + 600 * j) :: diskA T.C_Disk d M kk (some lf) :: L) H) ⟨none, none, none, none, none, Dn, xs, lf, c0, u, N, hb, M, k0, FL, rfl, ⟨R, by omega, lf0, hk0, by omega, ok⟩, (Hd.mt (by walk_at "mt") hs : Hd (pto Dn (.lst xs) :: Sd.dsA K xs (FL.map toldD) :: mA m N hb u.bag :: filesA T.C_File T.C_Files p u :: stA r (n0 + 1 + 1 + 1) :: diskA T.C_Disk d M k0 (some lf) :: L) H)⟩ ?_ ?_
    · clear hs R ok lf0 lf1
      rintro j σ H hj ⟨v6, v7, v8, v9, v10, Dn, xs, lf, c, u, N, hb, M, kk, FL, rfl, ⟨R, hc2, l0, kk0, hkk, ok⟩, hs⟩
      have hj : j < 3 := by omega
      walk_at "run"
      refine ⟨d, M, kk, some lf, _, rfl, Hd.mt (by walk_at "mt") hs, ?_⟩
      walk_at "run"
      refine ⟨p, d, c, u, N, hb, M, kk, some lf, _, rfl, ⟨R, by omega, by omega⟩, Hd.mt (by walk_at "mt") hs, fun H hs => ?_⟩
      obtain ⟨FL2, ok2, hF1, hF2, hF3, hsp, hle⟩ := sure_ok2 (k := kk) l0 ok R.pic
      obtain ⟨g1, g2⟩ := sure_k (M := M) (k := kk) (lf := lf) R.pic
      generalize sureM M kk (some lf) (picL (told N)) = Z at *
      walk_at "run"
      refine ⟨d, Z.1, Z.2.1, Z.2.2, _, rfl, Hd.mt (by walk_at "mt") hs, ?_⟩
      walk_at "run"
      refine ⟨d, Z.1, Z.2.1, Z.2.2, FL2, _, rfl, ok2, Hd.mt (by walk_at "mt") hs, fun T1 ys H hs => ?_⟩
      walk_at "run"
      refine ⟨m, c, u, N, hb, u.bag, _, rfl, R, Hd.mt (by walk_at "mt") hs, fun T2 zs H hs => ?_⟩
      walk_at "runI"
      obtain ⟨DU, eDU⟩ : ∃ x, x = q_ := ⟨_, rfl⟩
      rw [← eDU] at hs ⊢
      have nab : Dn ≠ T2 := lst_ne (Hd.mt (by walk_at "mt") hs : Hd (pto Dn (.lst xs) :: pto T2 (.lst zs) :: L) H)
      refine Sl.r_ifT (fun _ => False) (fun H2 => Hd (pto DU (.lst [.ref Dn, .ref T2]) :: pto T2 (.lst zs) :: Sd.dsA K zs ((told N).map toldD) :: pto T1 (.lst ys) :: Sd.dsA K ys (FL2.map toldD) :: pto Dn (.lst xs) :: Sd.dsA K xs (FL.map toldD) :: mA m N hb u.bag :: filesA T.C_File T.C_Files p u :: stA r (n0 + 3 + 600 * j) :: diskA T.C_Disk d Z.1 Z.2.1 Z.2.2 :: L) H2) (fun QT ht hf => ?_) (fun _ z => z.elim) ?_
      · walk_at "run"
        refine Sl.r_iteD (fun z => (by omega : False).elim) (fun _ => ?_)
        walk_at "run"
        refine ⟨DU, Dn, T2, _, _, _, rfl, hs.sq (a := DU) (by walk_at "pull"), fun e => (nab e).elim, ⟨dp_told (xs := xs) (FL := FL) hs (by walk_at "pull") (by walk_at "pull"), dp_told (xs := zs) (FL := told N) hs (by walk_at "pull") (by walk_at "pull"), dp_told (xs := ys) (FL := FL2) hs (by walk_at "pull") (by walk_at "pull")⟩, ⟨told_lay _, told_lay _, told_lay _, told_depth _⟩, ?_⟩
        have ev : (PyData.eqv (.list (FL.map toldD)) (.list (FL2.map toldD)) || PyData.eqv (.list ((told N).map toldD)) (.list (FL2.map toldD))) = true := by
          rcases hF3 with e | e
          · rw [e, told_refl, Bool.true_or]
          · rw [e, told_refl, Bool.or_true]
        rw [ev]
        walk_at "run"
        exact hf _ (Hd.mt (by walk_at "mt") hs)
      clear hs
      intro H hs
      walk_at "runI"
      refine Sl.r_ifT (fun _ => False) (fun H2 => Hd (pto DU (.lst [.ref Dn, .ref T2]) :: pto T2 (.lst zs) :: Sd.dsA K zs ((told N).map toldD) :: pto T1 (.lst ys) :: Sd.dsA K ys (FL2.map toldD) :: pto Dn (.lst xs) :: Sd.dsA K xs (FL.map toldD) :: mA m N hb u.bag :: filesA T.C_File T.C_Files p u :: stA r (n0 + 3 + 600 * j) :: diskA T.C_Disk d Z.1 Z.2.1 Z.2.2 :: L) H2) (fun QT ht hf => ?_) (fun _ z => z.elim) ?_
      · walk_at "run"
        refine Sl.r_iteD (fun z => ?_) (fun _ => ?_)
        · walk_at "run"
          rw [hF1 z] at hs hf
          refine r_neTold (FL := told N) (a := T1) (b := T2) (xs := ys) (ys := zs) hs (by walk_at "pull") (by walk_at "pull") (by walk_at "pull") (by walk_at "pull") ?_
          walk_at "run"
          exact hf _ (Hd.mt (by walk_at "mt") hs)
        · walk_at "run"
          exact hf _ (Hd.mt (by walk_at "mt") hs)
      clear hs
      intro H hs
      walk_at "runI"
      refine Sl.r_ifT (fun _ => False) (fun H2 => Hd (pto DU (.lst [.ref Dn, .ref T2]) :: pto T2 (.lst zs) :: Sd.dsA K zs ((told N).map toldD) :: pto T1 (.lst ys) :: Sd.dsA K ys (FL2.map toldD) :: pto Dn (.lst xs) :: Sd.dsA K xs (FL.map toldD) :: mA m N hb u.bag :: filesA T.C_File T.C_Files p u :: stA r (n0 + 3 + 600 * j) :: diskA T.C_Disk d Z.1 Z.2.1 Z.2.2 :: L) H2) (fun QT ht hf => ?_) (fun _ z => z.elim) ?_
      · walk_at "run"
        refine Sl.r_iteD (fun z => ?_) (fun _ => ?_)
        · walk_at "run"
          rw [hF2 z] at hs hf
          refine r_neTold (FL := FL) (a := T1) (b := Dn) (xs := ys) (ys := xs) hs (by walk_at "pull") (by walk_at "pull") (by walk_at "pull") (by walk_at "pull") ?_
          walk_at "run"
          exact hf _ (Hd.mt (by walk_at "mt") hs)
        · walk_at "run"
          exact hf _ (Hd.mt (by walk_at "mt") hs)
      clear hs
      intro H hs
      rw [hsp] at hs
      walk_at "run"
      refine ⟨p, m, r, n0 + 3 + 600 * j, c, u, N, hb, _, rfl, ⟨R, by omega, by omega⟩, Hd.mt (by walk_at "mt") hs, fun u' N' hb' R' bg H hs => ?_⟩
      rw [← bg] at hs
      walk_at "run"
      exact ⟨_, _, _, _, _, T1, ys, lf - (Z.2.1 - kk), c + 1, u', N', hb', Z.1, Z.2.1, FL2, rfl, ⟨R', by omega, by omega, by omega, by omega, ok2⟩, (Hd.mt (by walk_at "mt") hs : Hd (pto T1 (.lst ys) :: Sd.dsA K ys (FL2.map toldD) :: mA m N' hb' u'.bag :: filesA T.C_File T.C_Files p u' :: stA r (n0 + 3 + 600 * j + 600) :: diskA T.C_Disk d Z.1 Z.2.1 (some (lf - (Z.2.1 - kk))) :: L) _)⟩
    clear hs R ok lf0 lf1
    rintro σ H ⟨v6, v7, v8, v9, v10, Dn, xs, lf, c, u, N, hb, M, kk, FL, rfl, ⟨R, hc2, l0, kk0, hkk, ok⟩, hs⟩
    walk_at "run"
    refine ⟨d, M, kk, some lf, _, rfl, Hd.mt (by walk_at "mt") hs, fun H hs => ?_⟩
    walk_at "run"
    have hs := st_more (m := n0 + 2000) (n := n0 + 3 + 600 * (1 + tr).toNat) (by omega) (Hd.mt (by walk_at "mt") hs : Hd (stA r (n0 + 3 + 600 * (1 + tr).toNat) :: pto Dn (.lst xs) :: Sd.dsA K xs (FL.map toldD) :: mA m N hb u.bag :: filesA T.C_File T.C_Files p u :: diskA T.C_Disk d M kk none :: L) _)
    exact y Dn xs c u N hb M kk FL _ R (by omega) kk0 (by omega) ok (Hd.mt (by walk_at "mt") hs)
end
section
variable {P : Program} {w : World} {K : PySem.W.Frag} {mg : Str → Option Value} {base : Heap}
def sp_law (K : PySem.W.Frag) : Sp := fun vs H Q _ => ∃ (a : Addr) (ns : List Int), vs = [.ref a] ∧ ns.length ≤ 63 ∧ Hd [sql K a (ns.map V.int)] H ∧ ∀ H', Q (.bl true) H'
theorem ok_law (T : Txt K mg) : FnOk P w K mg base CX0 8 T.a_law T.d_law ["_law_script"] (sp_law K) := by
  refine T.f_law.ok sc_law (fun vs H Q E h => ?_) (fun cdv A outer s H vs Q E hr h => ?_)
  · obtain ⟨a, ns, rfl, _⟩ := h
    rfl
  · obtain ⟨a, ns, rfl, h⟩ := h
    refine ⟨_, (pss_cons (ps_set (i := 1) sc_law.nd rfl (by first | exact Or.inl rfl | exact Or.inr rfl) (pe_call (ok_law_row T) (hr.mono (by decide)) (by rfl) T.g_law_row T.f_law_row.kp T.b_law_row .nil pass0 (pa_cons (pv 0) (pa_cons pe_int pa_nil))))
       (pss_cons (ps_set (i := 2) sc_law.nd rfl (by first | exact Or.inl rfl | exact Or.inr rfl) (pe_disp (pps_cons pe_str pe_dnewK (pps_cons pe_str pe_int (pps_cons pe_str (pe_op (k_add (K := K) rfl) pe_int (pe_call (ok_law_next T) (hr.mono (by decide)) (by rfl) T.g_law_next T.f_law_next.kp T.b_law_next .nil pass0 (pa_cons (pv 1) (pa_cons pe_int pa_nil)))) pps_nil))) (by rfl) (by rfl) (fun z => by cases z) (by decide)))
       (pss_cons (ps_set (i := 3) sc_law.nd rfl (by first | exact Or.inl rfl | exact Or.inr rfl) (pe_make T.mk_Files (ok_Files_init T) (hr.mono (by decide)) (by rfl) T.g_Files T.b_Files_init .nil pass0 (pa_cons (pe_ix (k_ix (K := K) rfl (hu_of hr)) (pv 2) pe_str (fun _ _ => rfl)) pa_nil)))
       (pss_cons (ps_set (i := 4) sc_law.nd rfl (by first | exact Or.inl rfl | exact Or.inr rfl) (pe_make0 T.mk_Disk (ok_Disk_init T) (hr.mono (by decide)) (by rfl) T.g_Disk T.b_Disk_init .nil pass0))
       (pss_cons (ps_set (i := 5) sc_law.nd rfl (by first | exact Or.inl rfl | exact Or.inr rfl) (pe_lst pa_nil))
       (pss_cons (ps_for PassesOwn.never rfl (pi_range2 (by rfl) T.n_range (pa_cons pe_int (pa_cons (pe_callB (u_max2 rfl) (by rfl) T.n_max (by decide +kernel) (pa_cons pe_int (pa_cons (pe_callB (k_len (K := K) rfl) (by rfl) T.n_len (by decide +kernel) (pa_cons (pv 0) pa_nil)) pa_nil))) pa_nil))) (pg_name (i := 6) sc_law.nd rfl (by first | exact Or.inl rfl | exact Or.inr rfl))
        (pss_cons (ps_set (i := 1) sc_law.nd rfl (by first | exact Or.inl rfl | exact Or.inr rfl) (pe_call (ok_law_row T) (hr.mono (by decide)) (by rfl) T.g_law_row T.f_law_row.kp T.b_law_row .nil pass0 (pa_cons (pv 0) (pa_cons (pv 6) pa_nil))))
       (pss_cons (ps_for PassesOwn.never rfl (pi_range1 (by rfl) T.n_range (pa_cons (pe_call (ok_law_next T) (hr.mono (by decide)) (by rfl) T.g_law_next T.f_law_next.kp T.b_law_next .nil pass0 (pa_cons (pv 1) (pa_cons pe_int pa_nil))) pa_nil)) (pg_name (i := 7) sc_law.nd rfl (by first | exact Or.inl rfl | exact Or.inr rfl))
        (pss_one (ps_expr (pe_call (ok_law_deed T) (hr.mono (by decide)) (by rfl) T.g_law_deed T.f_law_deed.kp T.b_law_deed .nil pass0 (pa_cons (pv 3) (pa_cons (pv 2) (pa_cons (pv 1) pa_nil)))))))
       (pss_cons (ps_if (pt_cmpR (k_eq (K := K) rfl hr.units) (pe_call (ok_law_next T) (hr.mono (by decide)) (by rfl) T.g_law_next T.f_law_next.kp T.b_law_next .nil pass0 (pa_cons (pv 1) (pa_cons pe_int pa_nil))) pe_int (nomark _))
        (pss_cons (ps_expr (pe_call (ok_sure T) (hr.mono (by decide)) (by rfl) T.g_sure T.f_sure.kp T.b_sure .nil pass0 (pa_cons (pv 4) (pa_cons (pv 3) pa_nil))))
       (pss_one (ps_set (i := 5) sc_law.nd rfl (by first | exact Or.inl rfl | exact Or.inr rfl) (pe_call (ok_law_told T) (hr.mono (by decide)) (by rfl) T.g_law_told T.f_law_told.kp T.b_law_told .nil pass0 (pa_cons (pv 2) pa_nil)))))
        (pss_one (ps_set (i := 5) sc_law.nd rfl (by first | exact Or.inl rfl | exact Or.inr rfl) (pe_call (ok_law_stopped T) hr (by rfl) T.g_law_stopped T.f_law_stopped.kp T.b_law_stopped .nil pass0 (pa_cons (pv 4) (pa_cons (pv 3) (pa_cons (pv 2) (pa_cons (pv 1) (pa_cons (pv 5) pa_nil)))))))))
       (pss_one (ps_if (PW.pt (pw_or (pt_cmpR u_isN (pv 5) pe_non (nomark _)) (pw_or1 (pt_cmpR (k_ne (K := K) rfl hr.units) (pe_call (ok_rise T) (hr.mono (by decide)) (by rfl) T.g_rise T.f_rise.kp T.b_rise .nil pass0 (pa_cons (pv 4) pa_nil)) (pv 5) (nomark _)))))
        (pss_one (ps_ret pe_bl))
        pss_nil))))))
       (pss_cons (ps_expr (pe_call (ok_sure T) (hr.mono (by decide)) (by rfl) T.g_sure T.f_sure.kp T.b_sure .nil pass0 (pa_cons (pv 4) (pa_cons (pv 3) pa_nil))))
       (pss_one (ps_ret (pe_cmpR (k_eq (K := K) rfl hr.units) (pe_call (ok_rise T) (hr.mono (by decide)) (by rfl) T.g_rise T.f_rise.kp T.b_rise .nil pass0 (pa_cons (pv 4) pa_nil)) (pe_call (ok_law_told T) (hr.mono (by decide)) (by rfl) T.g_law_told T.f_law_told.kp T.b_law_told .nil pass0 (pa_cons (pv 2) pa_nil)) (nomark _))))))))))), ?_⟩
    try dsimp only [cxOf]
    obtain ⟨hl, hs, y⟩ := h
    walk_at "run"
    refine ⟨a, ns, 1, _, rfl, Hd.mt (by walk_at "mt") hs, fun d0 H hs => ?_⟩
    walk_at "run"
    refine ⟨d0, 121, 0, _, rfl, ⟨by omega, by omega, by omega⟩, Hd.mt (by walk_at "mt") hs, fun bi H b0 b1 hs => ?_⟩
    obtain ⟨b, rfl⟩ := Int.eq_ofNat_of_zero_le b0
    walk_at "run"
    rename_i m _ fd _ _ _ _
    rw [show (8 : Int) + (b : Int) = ((8 + b : Nat) : Int) by omega] at hs ⊢
    obtain ⟨p, ep⟩ : ∃ x, x = q_ := ⟨_, rfl⟩
    rw [← ep] at hs ⊢
    refine ⟨p, 8 + b, dx_, _, rfl, by omega, Hd.mt (by walk_at "mt") hs, fun H hs => ⟨rfl, ?_⟩⟩
    walk_at "run"
    obtain ⟨d, ed⟩ : ∃ x, x = q_ := ⟨_, rfl⟩
    rw [← ed] at hs ⊢
    refine ⟨d, dx_, _, rfl, Hd.mt (by walk_at "mt") hs, fun H hs => ⟨rfl, ?_⟩⟩
    walk_at "run"
    obtain ⟨D0, eB⟩ : ∃ x, x = q_ := ⟨_, rfl⟩
    rw [← eB] at hs ⊢
    have hs := big_nil (F := lstT) hs
    have hs : Hd (pto fd (.dK (dM refA ([] : List (Int × (Addr × List Int))))) :: _) H := (Hd.mt (by walk_at "mt") hs : Hd (pto fd (.dK []) :: big lstT [] :: pto D0 (.lst []) :: diskA T.C_Disk d (fun _ => none) 0 none :: filesA T.C_File T.C_Files p (FilesM.new (8 + b)) :: pto m (.dK (mmK (.ref fd) (.int 0) (.int ((8 + b : Nat) : Int)))) :: [sql K a (ns.map V.int)]) H)
    have hs := m_close (N := []) (G := []) ⟨List.nodup_nil, rfl⟩ (Hd.mt (by walk_at "mt") hs : Hd (pto m (.dK (mmK (.ref fd) (.int 0) (.int ((8 + b : Nat) : Int)))) :: pto fd (.dK (dM refA [])) :: big lstT [] :: _) H)
    have hs : Hd (mA m [] 0 (FilesM.new (8 + b)).bag :: _) H := hs
    have R0 := RN.new (b := 8 + b) (by omega) (by omega)
    have ok0 : DkOk (fun _ => none) [] := .inl ⟨rfl, rfl⟩
    generalize FilesM.new (8 + b) = u0 at *
    have hs := Sd.ds_nil (K := K) hs
    have hs : Hd (Sd.dsA K [] (([] : List (Int × List Int)).map toldD) :: _) H := hs
    refine Sl.r_forR (fun i σ H => ∃ (v1 v6 v7 : Option V) (Dn : Addr) (xs : List V) (c : Nat) (u : FilesM) (N : List (Int × List Int)) (hb : Int) (M : Blk) (kk : Int) (FL : List (Int × List Int)), σ = [some (.ref a), v1, some (.ref m), some (.ref p), some (.ref d), some (.ref Dn), v6, v7] ∧ (RN c u N hb ∧ c ≤ 6 * i ∧ 0 ≤ kk ∧ kk ≤ 417 * (i : Int) ∧ DkOk M FL) ∧ Hd (pto Dn (.lst xs) :: Sd.dsA K xs (FL.map toldD) :: mA m N hb u.bag :: filesA T.C_File T.C_Files p u :: diskA T.C_Disk d M kk none :: [sql K a (ns.map V.int)]) H) ⟨some (.ref d0), none, none, D0, [], 0, u0, [], 0, fun _ => none, 0, [], rfl, ⟨R0, by omega, by omega, by omega, ok0⟩, Hd.mt (by walk_at "mt") hs⟩ ?_ ?_
    · clear hs R0 ok0
      rintro i σ H hi ⟨v1, v6, v7, Dn, xs, c, u, N, hb, M, kk, FL, rfl, ⟨R, hc, k0, hk, ok⟩, hs⟩
      have hi : i < 63 := by
        simp only [List.length_map] at hi
        first | omega | (split at hi <;> omega)
      walk_at "run"
      refine ⟨a, ns, i + 2, _, congrArg (fun z : Int => [V.ref a, V.int z]) (by omega), Hd.mt (by walk_at "mt") hs, fun r H hs => ?_⟩
      walk_at "run"
      refine ⟨r, 4, 0, _, rfl, ⟨by decide, by decide, by omega⟩, Hd.mt (by walk_at "mt") hs, fun tr H t1 t2 hs => ?_⟩
      walk_at "run"
      refine Sl.r_forR (fun j σ H => ∃ (v7 : Option V) (c : Nat) (u : FilesM) (N : List (Int × List Int)) (hb : Int), σ = [some (.ref a), some (.ref r), some (.ref m), some (.ref p), some (.ref d), some (.ref Dn), some (.int (2 + (i : Nat))), v7] ∧ (RN c u N hb ∧ c ≤ 6 * i + j) ∧ Hd (stA r (1 + 600 * j) :: pto Dn (.lst xs) :: Sd.dsA K xs (FL.map toldD) :: mA m N hb u.bag :: filesA T.C_File T.C_Files p u :: diskA T.C_Disk d M kk none :: [sql K a (ns.map V.int)]) H) ⟨v7, c, u, N, hb, rfl, ⟨R, by omega⟩, (Hd.mt (by walk_at "mt") hs : Hd (stA r (0 + 1) :: pto Dn (.lst xs) :: Sd.dsA K xs (FL.map toldD) :: mA m N hb u.bag :: filesA T.C_File T.C_Files p u :: diskA T.C_Disk d M kk none :: [sql K a (ns.map V.int)]) H)⟩ ?_ ?_
      · clear hs R hc
        rintro j σ H hj ⟨v7, c, u, N, hb, rfl, ⟨R, hc⟩, hs⟩
        have hj : j < 4 := by omega
        walk_at "run"
        refine ⟨p, m, r, 1 + 600 * j, c, u, N, hb, _, rfl, ⟨R, by omega, by omega⟩, Hd.mt (by walk_at "mt") hs, fun u' N' hb' R' bg H hs => ?_⟩
        rw [← bg] at hs
        walk_at "run"
        exact ⟨_, c + 1, u', N', hb', rfl, ⟨R', by omega⟩, (Hd.mt (by walk_at "mt") hs : Hd (stA r (1 + 600 * j + 600) :: pto Dn (.lst xs) :: Sd.dsA K xs (FL.map toldD) :: mA m N' hb' u'.bag :: filesA T.C_File T.C_Files p u' :: diskA T.C_Disk d M kk none :: [sql K a (ns.map V.int)]) _)⟩
      clear hs R hc
      rintro σ H ⟨v7, c, u, N, hb, rfl, ⟨R, hc⟩, hs⟩
      have hj : tr.toNat ≤ 3 := by omega
      walk_at "runI"
      refine Sl.r_ifTJ (fun H2 => Hd (stA r (1 + 600 * tr.toNat + 1) :: pto Dn (.lst xs) :: Sd.dsA K xs (FL.map toldD) :: mA m N hb u.bag :: filesA T.C_File T.C_Files p u :: diskA T.C_Disk d M kk none :: [sql K a (ns.map V.int)]) H2) (fun H2 => Hd (stA r (1 + 600 * tr.toNat + 1) :: pto Dn (.lst xs) :: Sd.dsA K xs (FL.map toldD) :: mA m N hb u.bag :: filesA T.C_File T.C_Files p u :: diskA T.C_Disk d M kk none :: [sql K a (ns.map V.int)]) H2) (fun σ H2 => ∃ (Dn : Addr) (xs : List V) (c : Nat) (u : FilesM) (N : List (Int × List Int)) (hb : Int) (M : Blk) (kk : Int) (FL : List (Int × List Int)), σ = [some (.ref a), some (.ref r), some (.ref m), some (.ref p), some (.ref d), some (.ref Dn), some (.int (2 + (i : Nat))), v7] ∧ (RN c u N hb ∧ c ≤ 6 * (i + 1) ∧ 0 ≤ kk ∧ kk ≤ 417 * ((i : Int) + 1) ∧ DkOk M FL) ∧ Hd (pto Dn (.lst xs) :: Sd.dsA K xs (FL.map toldD) :: mA m N hb u.bag :: filesA T.C_File T.C_Files p u :: diskA T.C_Disk d M kk none :: [sql K a (ns.map V.int)]) H2) (fun QT ht hf => ?_) ?_ ?_ ?_
      · walk_at "run"
        refine ⟨r, 3, 1 + 600 * tr.toNat, _, rfl, ⟨by decide, by decide, by omega⟩, Hd.mt (by walk_at "mt") hs, fun w H _ _ hs => ?_⟩
        walk_at "run"
        by_cases w0 : w = 0
        · rw [decide_eq_true w0]
          exact ht _ (Hd.mt (by walk_at "mt") hs)
        · rw [decide_eq_false w0]
          exact hf _ (Hd.mt (by walk_at "mt") hs)
      · clear hs
        intro N' hN H hs
        walk_at "run"
        refine ⟨p, d, c, u, N, hb, M, kk, none, _, rfl, ⟨R, by omega, by omega⟩, Hd.mt (by walk_at "mt") hs, fun H hs => ?_⟩
        obtain ⟨ok2, e2, g1, g2⟩ := sure_none (M := M) (k := kk) R.pic
        generalize sureM M kk none (picL (told N)) = Z at *
        rw [e2] at hs
        walk_at "run"
        refine ⟨m, c, u, N, hb, u.bag, _, rfl, R, Hd.mt (by walk_at "mt") hs, fun T2 zs H hs => ?_⟩
        walk_at "run"
        exact hN _ _ ⟨T2, zs, c, u, N, hb, Z.1, Z.2.1, told N, rfl, ⟨R, by omega, by omega, by omega, ok2⟩, Hd.mt (by walk_at "mt") hs⟩
      · clear hs
        intro N' hN H hs
        walk_at "run"
        refine ⟨d, p, m, r, Dn, 1 + 600 * tr.toNat + 1, c, u, N, hb, M, kk, FL, xs, _, rfl, ⟨R, by omega, by omega, k0, by omega, ok⟩, Hd.mt (by walk_at "mt") hs, fun D2 ys c2 u2 N2 hb2 M2 k2 FL2 H R2 hc2 k20 hk2 ok2 hs => ?_⟩
        walk_at "run"
        exact hN _ _ ⟨D2, ys, c2, u2, N2, hb2, M2, k2, FL2, rfl, ⟨R2, by omega, k20, by omega, ok2⟩, Hd.mt (by walk_at "mt") hs⟩
      clear hs R hc
      rintro σ H ⟨Dn, xs, c, u, N, hb, M, kk, FL, rfl, ⟨R, hc, k0, hk, ok⟩, hs⟩
      walk_at "run"
      refine Sl.r_iteD (fun z => nomatch z) (fun _ => ?_)
      walk_at "run"
      refine ⟨d, M, kk, none, FL, _, rfl, ok, Hd.mt (by walk_at "mt") hs, fun T3 ys H hs => ?_⟩
      walk_at "run"
      refine r_neTold (FL := FL) (a := T3) (b := Dn) (xs := ys) (ys := xs) hs (by walk_at "pull") (by walk_at "pull") (by walk_at "pull") (by walk_at "pull") ?_
      walk_at "run"
      exact ⟨_, _, _, Dn, xs, c, u, N, hb, M, kk, FL, rfl, ⟨R, by omega, k0, by omega, ok⟩, Hd.mt (by walk_at "mt") hs⟩
    clear hs R0 ok0
    rintro σ H ⟨v1, v6, v7, Dn, xs, c, u, N, hb, M, kk, FL, rfl, ⟨R, hc, k0, hk, ok⟩, hs⟩
    walk_at "run"
    refine ⟨p, d, c, u, N, hb, M, kk, none, _, rfl, ⟨R, by omega, by first | omega | (simp only [List.length_map] at hk; split at hk <;> omega)⟩, Hd.mt (by walk_at "mt") hs, fun H hs => ?_⟩
    obtain ⟨ok2, e2, g1, g2⟩ := sure_none (M := M) (k := kk) R.pic
    generalize sureM M kk none (picL (told N)) = Z at *
    walk_at "run"
    refine ⟨d, Z.1, Z.2.1, Z.2.2, told N, _, rfl, ok2, Hd.mt (by walk_at "mt") hs, fun T1 ys H hs => ?_⟩
    walk_at "run"
    refine ⟨m, c, u, N, hb, u.bag, _, rfl, R, Hd.mt (by walk_at "mt") hs, fun T2 zs H hs => ?_⟩
    refine r_eqTold (FL := told N) (a := T1) (b := T2) (xs := ys) (ys := zs) hs (by walk_at "pull") (by walk_at "pull") (by walk_at "pull") (by walk_at "pull") ?_
    walk_at "run"
    exact y _
end
theorem all_mk {l : PySem.W.OpenLaw} {w : World} {K : PySem.W.Frag} {h : Heap} {mg : Str → Option Value} {fa : Addr} (X : K.In h) (G : h.Ns mainGlobals mg) (hfa : mg "law" = some (.ref fa))
    {C_Disk : Addr} {C_File : Addr} {C_Files : Addr} {x_NoWord : Addr} {x_BadSize : Addr} {x_Full : Addr} {x_NoName : Addr} {x_NoSpace : Addr} {x_TooLong : Addr} {x_NoFile : Addr} {a_is_whole : Addr} {od_is_whole an_is_whole : Option Addr} {sl_is_whole : Array (Option Value)} {oc_is_whole kV_is_whole dc_is_whole pm_is_whole cd_is_whole ct_is_whole : Value} {a_is_among : Addr} {od_is_among an_is_among : Option Addr} {sl_is_among : Array (Option Value)} {oc_is_among kV_is_among dc_is_among pm_is_among cd_is_among ct_is_among : Value} {a_is_word : Addr} {od_is_word an_is_word : Option Addr} {sl_is_word : Array (Option Value)} {oc_is_word kV_is_word dc_is_word pm_is_word cd_is_word ct_is_word : Value} {a_need_word : Addr} {od_need_word an_need_word : Option Addr} {sl_need_word : Array (Option Value)} {oc_need_word kV_need_word dc_need_word pm_need_word cd_need_word ct_need_word : Value} {a_wrapped : Addr} {od_wrapped an_wrapped : Option Addr} {sl_wrapped : Array (Option Value)} {oc_wrapped kV_wrapped dc_wrapped pm_wrapped cd_wrapped ct_wrapped : Value} {a_Disk_init : Addr} {od_Disk_init an_Disk_init : Option Addr} {sl_Disk_init : Array (Option Value)} {oc_Disk_init kV_Disk_init dc_Disk_init pm_Disk_init cd_Disk_init ct_Disk_init : Value} {a_Disk_block : Addr} {od_Disk_block an_Disk_block : Option Addr} {sl_Disk_block : Array (Option Value)} {oc_Disk_block kV_Disk_block dc_Disk_block pm_Disk_block cd_Disk_block ct_Disk_block : Value} {a_Disk_write : Addr} {od_Disk_write an_Disk_write : Option Addr} {sl_Disk_write : Array (Option Value)} {oc_Disk_write kV_Disk_write dc_Disk_write pm_Disk_write cd_Disk_write ct_Disk_write : Value} {a_Disk_stop : Addr} {od_Disk_stop an_Disk_stop : Option Addr} {sl_Disk_stop : Array (Option Value)} {oc_Disk_stop kV_Disk_stop dc_Disk_stop pm_Disk_stop cd_Disk_stop ct_Disk_stop : Value} {a_Disk_go : Addr} {od_Disk_go an_Disk_go : Option Addr} {sl_Disk_go : Array (Option Value)} {oc_Disk_go kV_Disk_go dc_Disk_go pm_Disk_go cd_Disk_go ct_Disk_go : Value} {a_Disk_writes : Addr} {od_Disk_writes an_Disk_writes : Option Addr} {sl_Disk_writes : Array (Option Value)} {oc_Disk_writes kV_Disk_writes dc_Disk_writes pm_Disk_writes cd_Disk_writes ct_Disk_writes : Value} {a_words_of : Addr} {od_words_of an_words_of : Option Addr} {sl_words_of : Array (Option Value)} {oc_words_of kV_words_of dc_words_of pm_words_of cd_words_of ct_words_of : Value} {a_sure : Addr} {od_sure an_sure : Option Addr} {sl_sure : Array (Option Value)} {oc_sure kV_sure dc_sure pm_sure cd_sure ct_sure : Value} {a_rise : Addr} {od_rise an_rise : Option Addr} {sl_rise : Array (Option Value)} {oc_rise kV_rise dc_rise pm_rise cd_rise ct_rise : Value} {a_blocks_for : Addr} {od_blocks_for an_blocks_for : Option Addr} {sl_blocks_for : Array (Option Value)} {oc_blocks_for kV_blocks_for dc_blocks_for pm_blocks_for cd_blocks_for ct_blocks_for : Value} {a_File_init : Addr} {od_File_init an_File_init : Option Addr} {sl_File_init : Array (Option Value)} {oc_File_init kV_File_init dc_File_init pm_File_init cd_File_init ct_File_init : Value} {a_Files_init : Addr} {od_Files_init an_Files_init : Option Addr} {sl_Files_init : Array (Option Value)} {oc_Files_init kV_Files_init dc_Files_init pm_Files_init cd_Files_init ct_Files_init : Value} {a_Files_many : Addr} {od_Files_many an_Files_many : Option Addr} {sl_Files_many : Array (Option Value)} {oc_Files_many kV_Files_many dc_Files_many pm_Files_many cd_Files_many ct_Files_many : Value} {a_Files_names : Addr} {od_Files_names an_Files_names : Option Addr} {sl_Files_names : Array (Option Value)} {oc_Files_names kV_Files_names dc_Files_names pm_Files_names cd_Files_names ct_Files_names : Value} {a_Files_file_of : Addr} {od_Files_file_of an_Files_file_of : Option Addr} {sl_Files_file_of : Array (Option Value)} {oc_Files_file_of kV_Files_file_of dc_Files_file_of pm_Files_file_of cd_Files_file_of ct_Files_file_of : Value} {a_Files_make : Addr} {od_Files_make an_Files_make : Option Addr} {sl_Files_make : Array (Option Value)} {oc_Files_make kV_Files_make dc_Files_make pm_Files_make cd_Files_make ct_Files_make : Value} {a_Files_remove : Addr} {od_Files_remove an_Files_remove : Option Addr} {sl_Files_remove : Array (Option Value)} {oc_Files_remove kV_Files_remove dc_Files_remove pm_Files_remove cd_Files_remove ct_Files_remove : Value} {a_Files_go_idle : Addr} {od_Files_go_idle an_Files_go_idle : Option Addr} {sl_Files_go_idle : Array (Option Value)} {oc_Files_go_idle kV_Files_go_idle dc_Files_go_idle pm_Files_go_idle cd_Files_go_idle ct_Files_go_idle : Value} {a_Files_give_back : Addr} {od_Files_give_back an_Files_give_back : Option Addr} {sl_Files_give_back : Array (Option Value)} {oc_Files_give_back kV_Files_give_back dc_Files_give_back pm_Files_give_back cd_Files_give_back ct_Files_give_back : Value} {a_Files_files : Addr} {od_Files_files an_Files_files : Option Addr} {sl_Files_files : Array (Option Value)} {oc_Files_files kV_Files_files dc_Files_files pm_Files_files cd_Files_files ct_Files_files : Value} {a_Files_found : Addr} {od_Files_found an_Files_found : Option Addr} {sl_Files_found : Array (Option Value)} {oc_Files_found kV_Files_found dc_Files_found pm_Files_found cd_Files_found ct_Files_found : Value} {a_Files_name : Addr} {od_Files_name an_Files_name : Option Addr} {sl_Files_name : Array (Option Value)} {oc_Files_name kV_Files_name dc_Files_name pm_Files_name cd_Files_name ct_Files_name : Value} {a_Files_hold : Addr} {od_Files_hold an_Files_hold : Option Addr} {sl_Files_hold : Array (Option Value)} {oc_Files_hold kV_Files_hold dc_Files_hold pm_Files_hold cd_Files_hold ct_Files_hold : Value} {a_Files_held : Addr} {od_Files_held an_Files_held : Option Addr} {sl_Files_held : Array (Option Value)} {oc_Files_held kV_Files_held dc_Files_held pm_Files_held cd_Files_held ct_Files_held : Value} {a_Files_length : Addr} {od_Files_length an_Files_length : Option Addr} {sl_Files_length : Array (Option Value)} {oc_Files_length kV_Files_length dc_Files_length pm_Files_length cd_Files_length ct_Files_length : Value} {a_Files_read : Addr} {od_Files_read an_Files_read : Option Addr} {sl_Files_read : Array (Option Value)} {oc_Files_read kV_Files_read dc_Files_read pm_Files_read cd_Files_read ct_Files_read : Value} {a_Files_put : Addr} {od_Files_put an_Files_put : Option Addr} {sl_Files_put : Array (Option Value)} {oc_Files_put kV_Files_put dc_Files_put pm_Files_put cd_Files_put ct_Files_put : Value} {a_Files_cut : Addr} {od_Files_cut an_Files_cut : Option Addr} {sl_Files_cut : Array (Option Value)} {oc_Files_cut kV_Files_cut dc_Files_cut pm_Files_cut cd_Files_cut ct_Files_cut : Value} {a_Files_blocks : Addr} {od_Files_blocks an_Files_blocks : Option Addr} {sl_Files_blocks : Array (Option Value)} {oc_Files_blocks kV_Files_blocks dc_Files_blocks pm_Files_blocks cd_Files_blocks ct_Files_blocks : Value} {a_Files_free : Addr} {od_Files_free an_Files_free : Option Addr} {sl_Files_free : Array (Option Value)} {oc_Files_free kV_Files_free dc_Files_free pm_Files_free cd_Files_free ct_Files_free : Value} {a_law_cell_at : Addr} {od_law_cell_at an_law_cell_at : Option Addr} {sl_law_cell_at : Array (Option Value)} {oc_law_cell_at kV_law_cell_at dc_law_cell_at pm_law_cell_at cd_law_cell_at ct_law_cell_at : Value} {a_law_mixed : Addr} {od_law_mixed an_law_mixed : Option Addr} {sl_law_mixed : Array (Option Value)} {oc_law_mixed kV_law_mixed dc_law_mixed pm_law_mixed cd_law_mixed ct_law_mixed : Value} {a_law_row : Addr} {od_law_row an_law_row : Option Addr} {sl_law_row : Array (Option Value)} {oc_law_row kV_law_row dc_law_row pm_law_row cd_law_row ct_law_row : Value} {a_law_next : Addr} {od_law_next an_law_next : Option Addr} {sl_law_next : Array (Option Value)} {oc_law_next kV_law_next dc_law_next pm_law_next cd_law_next ct_law_next : Value} {a_law_wants : Addr} {od_law_wants an_law_wants : Option Addr} {sl_law_wants : Array (Option Value)} {oc_law_wants kV_law_wants dc_law_wants pm_law_wants cd_law_wants ct_law_wants : Value} {a_law_deed : Addr} {od_law_deed an_law_deed : Option Addr} {sl_law_deed : Array (Option Value)} {oc_law_deed kV_law_deed dc_law_deed pm_law_deed cd_law_deed ct_law_deed : Value} {a_law_told : Addr} {od_law_told an_law_told : Option Addr} {sl_law_told : Array (Option Value)} {oc_law_told kV_law_told dc_law_told pm_law_told cd_law_told ct_law_told : Value} {a_law_stopped : Addr} {od_law_stopped an_law_stopped : Option Addr} {sl_law_stopped : Array (Option Value)} {oc_law_stopped kV_law_stopped dc_law_stopped pm_law_stopped cd_law_stopped ct_law_stopped : Value} {a_law : Addr} {od_law an_law : Option Addr} {sl_law : Array (Option Value)} {oc_law kV_law dc_law pm_law cd_law ct_law : Value} {t_BLOCK_disk : Tok} {t_BLOCK_files : Tok} {a_FIRSTS : Addr} {n_FIRSTS : Nat} {t0_FIRSTS : Tok} {t1_FIRSTS : Tok} {t_LEAST_BLOCKS : Tok} {t_MOST_BLOCKS : Tok} {t_MOST_NAMES : Tok} {t_MOST_WORDS : Tok} {t_WORDS : Tok}
    (h1_Disk : PySem.W.nsIn K mainGlobals "Disk" = some (some (.ref C_Disk)))
    (h2_Disk : PySem.W.plainGet K C_Disk Str.empty = true)
    (h3_Disk : PySem.W.hasDictIn K C_Disk = true)
    (h4_Disk : PySem.W.plainOver K C_Disk = true)
    (h5_Disk : PySem.W.findIn K (.ref C_Disk) "__setattr__" = some (some (.builtin "object.__setattr__")))
    (h6_Disk : PySem.W.makesIn K C_Disk = true)
    (h7_Disk : PySem.W.keepIn K (.ref C_Disk) = true)
    (n_Disk_written : PySem.W.findIn K (.ref C_Disk) "written" = some none)
    (n_Disk_tally : PySem.W.findIn K (.ref C_Disk) "tally" = some none)
    (n_Disk_spare : PySem.W.findIn K (.ref C_Disk) "spare" = some none)
    (h1_File : PySem.W.nsIn K mainGlobals "File" = some (some (.ref C_File)))
    (h2_File : PySem.W.plainGet K C_File Str.empty = true)
    (h3_File : PySem.W.hasDictIn K C_File = true)
    (h4_File : PySem.W.plainOver K C_File = true)
    (h5_File : PySem.W.findIn K (.ref C_File) "__setattr__" = some (some (.builtin "object.__setattr__")))
    (h6_File : PySem.W.makesIn K C_File = true)
    (h7_File : PySem.W.keepIn K (.ref C_File) = true)
    (n_File_title : PySem.W.findIn K (.ref C_File) "title" = some none)
    (n_File_holders : PySem.W.findIn K (.ref C_File) "holders" = some none)
    (n_File_content : PySem.W.findIn K (.ref C_File) "content" = some none)
    (n_File_loans : PySem.W.findIn K (.ref C_File) "loans" = some none)
    (h1_Files : PySem.W.nsIn K mainGlobals "Files" = some (some (.ref C_Files)))
    (h2_Files : PySem.W.plainGet K C_Files Str.empty = true)
    (h3_Files : PySem.W.hasDictIn K C_Files = true)
    (h4_Files : PySem.W.plainOver K C_Files = true)
    (h5_Files : PySem.W.findIn K (.ref C_Files) "__setattr__" = some (some (.builtin "object.__setattr__")))
    (h6_Files : PySem.W.makesIn K C_Files = true)
    (h7_Files : PySem.W.keepIn K (.ref C_Files) = true)
    (n_Files_bag : PySem.W.findIn K (.ref C_Files) "bag" = some none)
    (n_Files_loose : PySem.W.findIn K (.ref C_Files) "loose" = some none)
    (n_Files_known : PySem.W.findIn K (.ref C_Files) "known" = some none)
    (n_Files_titled : PySem.W.findIn K (.ref C_Files) "titled" = some none)
    (n_Files_newest : PySem.W.findIn K (.ref C_Files) "newest" = some none)
    (gx_NoWord : PySem.W.nsIn K mainGlobals "NoWord" = some (some (.ref x_NoWord)))
    (gx_BadSize : PySem.W.nsIn K mainGlobals "BadSize" = some (some (.ref x_BadSize)))
    (gx_Full : PySem.W.nsIn K mainGlobals "Full" = some (some (.ref x_Full)))
    (gx_NoName : PySem.W.nsIn K mainGlobals "NoName" = some (some (.ref x_NoName)))
    (gx_NoSpace : PySem.W.nsIn K mainGlobals "NoSpace" = some (some (.ref x_NoSpace)))
    (gx_TooLong : PySem.W.nsIn K mainGlobals "TooLong" = some (some (.ref x_TooLong)))
    (gx_NoFile : PySem.W.nsIn K mainGlobals "NoFile" = some (some (.ref x_NoFile)))
    (g_is_whole : PySem.W.nsIn K mainGlobals "is_whole" = some (some (.ref a_is_whole)))
    (l_is_whole : K.lookup a_is_whole = some ⟨oc_is_whole, od_is_whole, .func (PySem.W.fnOf "is_whole" "is_whole" (defArgs s_is_whole) (defBody s_is_whole) (defScope s_is_whole) .none kV_is_whole dc_is_whole pm_is_whole an_is_whole cd_is_whole ct_is_whole), sl_is_whole⟩)
    (c_is_whole : PySem.W.codeIn K cd_is_whole "is_whole" = true)
    (k_is_whole : PySem.W.keepIn K (.ref a_is_whole) = true)
    (g_is_among : PySem.W.nsIn K mainGlobals "is_among" = some (some (.ref a_is_among)))
    (l_is_among : K.lookup a_is_among = some ⟨oc_is_among, od_is_among, .func (PySem.W.fnOf "is_among" "is_among" (defArgs s_is_among) (defBody s_is_among) (defScope s_is_among) .none kV_is_among dc_is_among pm_is_among an_is_among cd_is_among ct_is_among), sl_is_among⟩)
    (c_is_among : PySem.W.codeIn K cd_is_among "is_among" = true)
    (k_is_among : PySem.W.keepIn K (.ref a_is_among) = true)
    (g_is_word : PySem.W.nsIn K mainGlobals "is_word" = some (some (.ref a_is_word)))
    (l_is_word : K.lookup a_is_word = some ⟨oc_is_word, od_is_word, .func (PySem.W.fnOf "is_word" "is_word" (defArgs s_is_word) (defBody s_is_word) (defScope s_is_word) .none kV_is_word dc_is_word pm_is_word an_is_word cd_is_word ct_is_word), sl_is_word⟩)
    (c_is_word : PySem.W.codeIn K cd_is_word "is_word" = true)
    (k_is_word : PySem.W.keepIn K (.ref a_is_word) = true)
    (g_need_word : PySem.W.nsIn K mainGlobals "need_word" = some (some (.ref a_need_word)))
    (l_need_word : K.lookup a_need_word = some ⟨oc_need_word, od_need_word, .func (PySem.W.fnOf "need_word" "need_word" (defArgs s_need_word) (defBody s_need_word) (defScope s_need_word) .none kV_need_word dc_need_word pm_need_word an_need_word cd_need_word ct_need_word), sl_need_word⟩)
    (c_need_word : PySem.W.codeIn K cd_need_word "need_word" = true)
    (k_need_word : PySem.W.keepIn K (.ref a_need_word) = true)
    (g_wrapped : PySem.W.nsIn K mainGlobals "wrapped" = some (some (.ref a_wrapped)))
    (l_wrapped : K.lookup a_wrapped = some ⟨oc_wrapped, od_wrapped, .func (PySem.W.fnOf "wrapped" "wrapped" (defArgs s_wrapped) (defBody s_wrapped) (defScope s_wrapped) .none kV_wrapped dc_wrapped pm_wrapped an_wrapped cd_wrapped ct_wrapped), sl_wrapped⟩)
    (c_wrapped : PySem.W.codeIn K cd_wrapped "wrapped" = true)
    (k_wrapped : PySem.W.keepIn K (.ref a_wrapped) = true)
    (g_Disk_init : PySem.W.findIn K (.ref C_Disk) "__init__" = some (some (.ref a_Disk_init)))
    (i_Disk_init : PySem.W.isFn K (.ref a_Disk_init) = true)
    (l_Disk_init : K.lookup a_Disk_init = some ⟨oc_Disk_init, od_Disk_init, .func (PySem.W.fnOf "__init__" "Disk.__init__" (defArgs s_Disk_init) (defBody s_Disk_init) (defScope s_Disk_init) .none kV_Disk_init dc_Disk_init pm_Disk_init an_Disk_init cd_Disk_init ct_Disk_init), sl_Disk_init⟩)
    (c_Disk_init : PySem.W.codeIn K cd_Disk_init "Disk.__init__" = true)
    (k_Disk_init : PySem.W.keepIn K (.ref a_Disk_init) = true)
    (g_Disk_block : PySem.W.findIn K (.ref C_Disk) "block" = some (some (.ref a_Disk_block)))
    (i_Disk_block : PySem.W.isFn K (.ref a_Disk_block) = true)
    (l_Disk_block : K.lookup a_Disk_block = some ⟨oc_Disk_block, od_Disk_block, .func (PySem.W.fnOf "block" "Disk.block" (defArgs s_Disk_block) (defBody s_Disk_block) (defScope s_Disk_block) .none kV_Disk_block dc_Disk_block pm_Disk_block an_Disk_block cd_Disk_block ct_Disk_block), sl_Disk_block⟩)
    (c_Disk_block : PySem.W.codeIn K cd_Disk_block "Disk.block" = true)
    (k_Disk_block : PySem.W.keepIn K (.ref a_Disk_block) = true)
    (g_Disk_write : PySem.W.findIn K (.ref C_Disk) "write" = some (some (.ref a_Disk_write)))
    (i_Disk_write : PySem.W.isFn K (.ref a_Disk_write) = true)
    (l_Disk_write : K.lookup a_Disk_write = some ⟨oc_Disk_write, od_Disk_write, .func (PySem.W.fnOf "write" "Disk.write" (defArgs s_Disk_write) (defBody s_Disk_write) (defScope s_Disk_write) .none kV_Disk_write dc_Disk_write pm_Disk_write an_Disk_write cd_Disk_write ct_Disk_write), sl_Disk_write⟩)
    (c_Disk_write : PySem.W.codeIn K cd_Disk_write "Disk.write" = true)
    (k_Disk_write : PySem.W.keepIn K (.ref a_Disk_write) = true)
    (g_Disk_stop : PySem.W.findIn K (.ref C_Disk) "stop" = some (some (.ref a_Disk_stop)))
    (i_Disk_stop : PySem.W.isFn K (.ref a_Disk_stop) = true)
    (l_Disk_stop : K.lookup a_Disk_stop = some ⟨oc_Disk_stop, od_Disk_stop, .func (PySem.W.fnOf "stop" "Disk.stop" (defArgs s_Disk_stop) (defBody s_Disk_stop) (defScope s_Disk_stop) .none kV_Disk_stop dc_Disk_stop pm_Disk_stop an_Disk_stop cd_Disk_stop ct_Disk_stop), sl_Disk_stop⟩)
    (c_Disk_stop : PySem.W.codeIn K cd_Disk_stop "Disk.stop" = true)
    (k_Disk_stop : PySem.W.keepIn K (.ref a_Disk_stop) = true)
    (g_Disk_go : PySem.W.findIn K (.ref C_Disk) "go" = some (some (.ref a_Disk_go)))
    (i_Disk_go : PySem.W.isFn K (.ref a_Disk_go) = true)
    (l_Disk_go : K.lookup a_Disk_go = some ⟨oc_Disk_go, od_Disk_go, .func (PySem.W.fnOf "go" "Disk.go" (defArgs s_Disk_go) (defBody s_Disk_go) (defScope s_Disk_go) .none kV_Disk_go dc_Disk_go pm_Disk_go an_Disk_go cd_Disk_go ct_Disk_go), sl_Disk_go⟩)
    (c_Disk_go : PySem.W.codeIn K cd_Disk_go "Disk.go" = true)
    (k_Disk_go : PySem.W.keepIn K (.ref a_Disk_go) = true)
    (g_Disk_writes : PySem.W.findIn K (.ref C_Disk) "writes" = some (some (.ref a_Disk_writes)))
    (i_Disk_writes : PySem.W.isFn K (.ref a_Disk_writes) = true)
    (l_Disk_writes : K.lookup a_Disk_writes = some ⟨oc_Disk_writes, od_Disk_writes, .func (PySem.W.fnOf "writes" "Disk.writes" (defArgs s_Disk_writes) (defBody s_Disk_writes) (defScope s_Disk_writes) .none kV_Disk_writes dc_Disk_writes pm_Disk_writes an_Disk_writes cd_Disk_writes ct_Disk_writes), sl_Disk_writes⟩)
    (c_Disk_writes : PySem.W.codeIn K cd_Disk_writes "Disk.writes" = true)
    (k_Disk_writes : PySem.W.keepIn K (.ref a_Disk_writes) = true)
    (g_words_of : PySem.W.nsIn K mainGlobals "words_of" = some (some (.ref a_words_of)))
    (l_words_of : K.lookup a_words_of = some ⟨oc_words_of, od_words_of, .func (PySem.W.fnOf "words_of" "words_of" (defArgs s_words_of) (defBody s_words_of) (defScope s_words_of) .none kV_words_of dc_words_of pm_words_of an_words_of cd_words_of ct_words_of), sl_words_of⟩)
    (c_words_of : PySem.W.codeIn K cd_words_of "words_of" = true)
    (k_words_of : PySem.W.keepIn K (.ref a_words_of) = true)
    (g_sure : PySem.W.nsIn K mainGlobals "sure" = some (some (.ref a_sure)))
    (l_sure : K.lookup a_sure = some ⟨oc_sure, od_sure, .func (PySem.W.fnOf "sure" "sure" (defArgs s_sure) (defBody s_sure) (defScope s_sure) .none kV_sure dc_sure pm_sure an_sure cd_sure ct_sure), sl_sure⟩)
    (c_sure : PySem.W.codeIn K cd_sure "sure" = true)
    (k_sure : PySem.W.keepIn K (.ref a_sure) = true)
    (g_rise : PySem.W.nsIn K mainGlobals "rise" = some (some (.ref a_rise)))
    (l_rise : K.lookup a_rise = some ⟨oc_rise, od_rise, .func (PySem.W.fnOf "rise" "rise" (defArgs s_rise) (defBody s_rise) (defScope s_rise) .none kV_rise dc_rise pm_rise an_rise cd_rise ct_rise), sl_rise⟩)
    (c_rise : PySem.W.codeIn K cd_rise "rise" = true)
    (k_rise : PySem.W.keepIn K (.ref a_rise) = true)
    (g_blocks_for : PySem.W.nsIn K mainGlobals "blocks_for" = some (some (.ref a_blocks_for)))
    (l_blocks_for : K.lookup a_blocks_for = some ⟨oc_blocks_for, od_blocks_for, .func (PySem.W.fnOf "blocks_for" "blocks_for" (defArgs s_blocks_for) (defBody s_blocks_for) (defScope s_blocks_for) .none kV_blocks_for dc_blocks_for pm_blocks_for an_blocks_for cd_blocks_for ct_blocks_for), sl_blocks_for⟩)
    (c_blocks_for : PySem.W.codeIn K cd_blocks_for "blocks_for" = true)
    (k_blocks_for : PySem.W.keepIn K (.ref a_blocks_for) = true)
    (g_File_init : PySem.W.findIn K (.ref C_File) "__init__" = some (some (.ref a_File_init)))
    (i_File_init : PySem.W.isFn K (.ref a_File_init) = true)
    (l_File_init : K.lookup a_File_init = some ⟨oc_File_init, od_File_init, .func (PySem.W.fnOf "__init__" "File.__init__" (defArgs s_File_init) (defBody s_File_init) (defScope s_File_init) .none kV_File_init dc_File_init pm_File_init an_File_init cd_File_init ct_File_init), sl_File_init⟩)
    (c_File_init : PySem.W.codeIn K cd_File_init "File.__init__" = true)
    (k_File_init : PySem.W.keepIn K (.ref a_File_init) = true)
    (g_Files_init : PySem.W.findIn K (.ref C_Files) "__init__" = some (some (.ref a_Files_init)))
    (i_Files_init : PySem.W.isFn K (.ref a_Files_init) = true)
    (l_Files_init : K.lookup a_Files_init = some ⟨oc_Files_init, od_Files_init, .func (PySem.W.fnOf "__init__" "Files.__init__" (defArgs s_Files_init) (defBody s_Files_init) (defScope s_Files_init) .none kV_Files_init dc_Files_init pm_Files_init an_Files_init cd_Files_init ct_Files_init), sl_Files_init⟩)
    (c_Files_init : PySem.W.codeIn K cd_Files_init "Files.__init__" = true)
    (k_Files_init : PySem.W.keepIn K (.ref a_Files_init) = true)
    (g_Files_many : PySem.W.findIn K (.ref C_Files) "many" = some (some (.ref a_Files_many)))
    (i_Files_many : PySem.W.isFn K (.ref a_Files_many) = true)
    (l_Files_many : K.lookup a_Files_many = some ⟨oc_Files_many, od_Files_many, .func (PySem.W.fnOf "many" "Files.many" (defArgs s_Files_many) (defBody s_Files_many) (defScope s_Files_many) .none kV_Files_many dc_Files_many pm_Files_many an_Files_many cd_Files_many ct_Files_many), sl_Files_many⟩)
    (c_Files_many : PySem.W.codeIn K cd_Files_many "Files.many" = true)
    (k_Files_many : PySem.W.keepIn K (.ref a_Files_many) = true)
    (g_Files_names : PySem.W.findIn K (.ref C_Files) "names" = some (some (.ref a_Files_names)))
    (i_Files_names : PySem.W.isFn K (.ref a_Files_names) = true)
    (l_Files_names : K.lookup a_Files_names = some ⟨oc_Files_names, od_Files_names, .func (PySem.W.fnOf "names" "Files.names" (defArgs s_Files_names) (defBody s_Files_names) (defScope s_Files_names) .none kV_Files_names dc_Files_names pm_Files_names an_Files_names cd_Files_names ct_Files_names), sl_Files_names⟩)
    (c_Files_names : PySem.W.codeIn K cd_Files_names "Files.names" = true)
    (k_Files_names : PySem.W.keepIn K (.ref a_Files_names) = true)
    (g_Files_file_of : PySem.W.findIn K (.ref C_Files) "file_of" = some (some (.ref a_Files_file_of)))
    (i_Files_file_of : PySem.W.isFn K (.ref a_Files_file_of) = true)
    (l_Files_file_of : K.lookup a_Files_file_of = some ⟨oc_Files_file_of, od_Files_file_of, .func (PySem.W.fnOf "file_of" "Files.file_of" (defArgs s_Files_file_of) (defBody s_Files_file_of) (defScope s_Files_file_of) .none kV_Files_file_of dc_Files_file_of pm_Files_file_of an_Files_file_of cd_Files_file_of ct_Files_file_of), sl_Files_file_of⟩)
    (c_Files_file_of : PySem.W.codeIn K cd_Files_file_of "Files.file_of" = true)
    (k_Files_file_of : PySem.W.keepIn K (.ref a_Files_file_of) = true)
    (g_Files_make : PySem.W.findIn K (.ref C_Files) "make" = some (some (.ref a_Files_make)))
    (i_Files_make : PySem.W.isFn K (.ref a_Files_make) = true)
    (l_Files_make : K.lookup a_Files_make = some ⟨oc_Files_make, od_Files_make, .func (PySem.W.fnOf "make" "Files.make" (defArgs s_Files_make) (defBody s_Files_make) (defScope s_Files_make) .none kV_Files_make dc_Files_make pm_Files_make an_Files_make cd_Files_make ct_Files_make), sl_Files_make⟩)
    (c_Files_make : PySem.W.codeIn K cd_Files_make "Files.make" = true)
    (k_Files_make : PySem.W.keepIn K (.ref a_Files_make) = true)
    (g_Files_remove : PySem.W.findIn K (.ref C_Files) "remove" = some (some (.ref a_Files_remove)))
    (i_Files_remove : PySem.W.isFn K (.ref a_Files_remove) = true)
    (l_Files_remove : K.lookup a_Files_remove = some ⟨oc_Files_remove, od_Files_remove, .func (PySem.W.fnOf "remove" "Files.remove" (defArgs s_Files_remove) (defBody s_Files_remove) (defScope s_Files_remove) .none kV_Files_remove dc_Files_remove pm_Files_remove an_Files_remove cd_Files_remove ct_Files_remove), sl_Files_remove⟩)
    (c_Files_remove : PySem.W.codeIn K cd_Files_remove "Files.remove" = true)
    (k_Files_remove : PySem.W.keepIn K (.ref a_Files_remove) = true)
    (g_Files_go_idle : PySem.W.findIn K (.ref C_Files) "go_idle" = some (some (.ref a_Files_go_idle)))
    (i_Files_go_idle : PySem.W.isFn K (.ref a_Files_go_idle) = true)
    (l_Files_go_idle : K.lookup a_Files_go_idle = some ⟨oc_Files_go_idle, od_Files_go_idle, .func (PySem.W.fnOf "go_idle" "Files.go_idle" (defArgs s_Files_go_idle) (defBody s_Files_go_idle) (defScope s_Files_go_idle) .none kV_Files_go_idle dc_Files_go_idle pm_Files_go_idle an_Files_go_idle cd_Files_go_idle ct_Files_go_idle), sl_Files_go_idle⟩)
    (c_Files_go_idle : PySem.W.codeIn K cd_Files_go_idle "Files.go_idle" = true)
    (k_Files_go_idle : PySem.W.keepIn K (.ref a_Files_go_idle) = true)
    (g_Files_give_back : PySem.W.findIn K (.ref C_Files) "give_back" = some (some (.ref a_Files_give_back)))
    (i_Files_give_back : PySem.W.isFn K (.ref a_Files_give_back) = true)
    (l_Files_give_back : K.lookup a_Files_give_back = some ⟨oc_Files_give_back, od_Files_give_back, .func (PySem.W.fnOf "give_back" "Files.give_back" (defArgs s_Files_give_back) (defBody s_Files_give_back) (defScope s_Files_give_back) .none kV_Files_give_back dc_Files_give_back pm_Files_give_back an_Files_give_back cd_Files_give_back ct_Files_give_back), sl_Files_give_back⟩)
    (c_Files_give_back : PySem.W.codeIn K cd_Files_give_back "Files.give_back" = true)
    (k_Files_give_back : PySem.W.keepIn K (.ref a_Files_give_back) = true)
    (g_Files_files : PySem.W.findIn K (.ref C_Files) "files" = some (some (.ref a_Files_files)))
    (i_Files_files : PySem.W.isFn K (.ref a_Files_files) = true)
    (l_Files_files : K.lookup a_Files_files = some ⟨oc_Files_files, od_Files_files, .func (PySem.W.fnOf "files" "Files.files" (defArgs s_Files_files) (defBody s_Files_files) (defScope s_Files_files) .none kV_Files_files dc_Files_files pm_Files_files an_Files_files cd_Files_files ct_Files_files), sl_Files_files⟩)
    (c_Files_files : PySem.W.codeIn K cd_Files_files "Files.files" = true)
    (k_Files_files : PySem.W.keepIn K (.ref a_Files_files) = true)
    (g_Files_found : PySem.W.findIn K (.ref C_Files) "found" = some (some (.ref a_Files_found)))
    (i_Files_found : PySem.W.isFn K (.ref a_Files_found) = true)
    (l_Files_found : K.lookup a_Files_found = some ⟨oc_Files_found, od_Files_found, .func (PySem.W.fnOf "found" "Files.found" (defArgs s_Files_found) (defBody s_Files_found) (defScope s_Files_found) .none kV_Files_found dc_Files_found pm_Files_found an_Files_found cd_Files_found ct_Files_found), sl_Files_found⟩)
    (c_Files_found : PySem.W.codeIn K cd_Files_found "Files.found" = true)
    (k_Files_found : PySem.W.keepIn K (.ref a_Files_found) = true)
    (g_Files_name : PySem.W.findIn K (.ref C_Files) "name" = some (some (.ref a_Files_name)))
    (i_Files_name : PySem.W.isFn K (.ref a_Files_name) = true)
    (l_Files_name : K.lookup a_Files_name = some ⟨oc_Files_name, od_Files_name, .func (PySem.W.fnOf "name" "Files.name" (defArgs s_Files_name) (defBody s_Files_name) (defScope s_Files_name) .none kV_Files_name dc_Files_name pm_Files_name an_Files_name cd_Files_name ct_Files_name), sl_Files_name⟩)
    (c_Files_name : PySem.W.codeIn K cd_Files_name "Files.name" = true)
    (k_Files_name : PySem.W.keepIn K (.ref a_Files_name) = true)
    (g_Files_hold : PySem.W.findIn K (.ref C_Files) "hold" = some (some (.ref a_Files_hold)))
    (i_Files_hold : PySem.W.isFn K (.ref a_Files_hold) = true)
    (l_Files_hold : K.lookup a_Files_hold = some ⟨oc_Files_hold, od_Files_hold, .func (PySem.W.fnOf "hold" "Files.hold" (defArgs s_Files_hold) (defBody s_Files_hold) (defScope s_Files_hold) .none kV_Files_hold dc_Files_hold pm_Files_hold an_Files_hold cd_Files_hold ct_Files_hold), sl_Files_hold⟩)
    (c_Files_hold : PySem.W.codeIn K cd_Files_hold "Files.hold" = true)
    (k_Files_hold : PySem.W.keepIn K (.ref a_Files_hold) = true)
    (g_Files_held : PySem.W.findIn K (.ref C_Files) "held" = some (some (.ref a_Files_held)))
    (i_Files_held : PySem.W.isFn K (.ref a_Files_held) = true)
    (l_Files_held : K.lookup a_Files_held = some ⟨oc_Files_held, od_Files_held, .func (PySem.W.fnOf "held" "Files.held" (defArgs s_Files_held) (defBody s_Files_held) (defScope s_Files_held) .none kV_Files_held dc_Files_held pm_Files_held an_Files_held cd_Files_held ct_Files_held), sl_Files_held⟩)
    (c_Files_held : PySem.W.codeIn K cd_Files_held "Files.held" = true)
    (k_Files_held : PySem.W.keepIn K (.ref a_Files_held) = true)
    (g_Files_length : PySem.W.findIn K (.ref C_Files) "length" = some (some (.ref a_Files_length)))
    (i_Files_length : PySem.W.isFn K (.ref a_Files_length) = true)
    (l_Files_length : K.lookup a_Files_length = some ⟨oc_Files_length, od_Files_length, .func (PySem.W.fnOf "length" "Files.length" (defArgs s_Files_length) (defBody s_Files_length) (defScope s_Files_length) .none kV_Files_length dc_Files_length pm_Files_length an_Files_length cd_Files_length ct_Files_length), sl_Files_length⟩)
    (c_Files_length : PySem.W.codeIn K cd_Files_length "Files.length" = true)
    (k_Files_length : PySem.W.keepIn K (.ref a_Files_length) = true)
    (g_Files_read : PySem.W.findIn K (.ref C_Files) "read" = some (some (.ref a_Files_read)))
    (i_Files_read : PySem.W.isFn K (.ref a_Files_read) = true)
    (l_Files_read : K.lookup a_Files_read = some ⟨oc_Files_read, od_Files_read, .func (PySem.W.fnOf "read" "Files.read" (defArgs s_Files_read) (defBody s_Files_read) (defScope s_Files_read) .none kV_Files_read dc_Files_read pm_Files_read an_Files_read cd_Files_read ct_Files_read), sl_Files_read⟩)
    (c_Files_read : PySem.W.codeIn K cd_Files_read "Files.read" = true)
    (k_Files_read : PySem.W.keepIn K (.ref a_Files_read) = true)
    (g_Files_put : PySem.W.findIn K (.ref C_Files) "put" = some (some (.ref a_Files_put)))
    (i_Files_put : PySem.W.isFn K (.ref a_Files_put) = true)
    (l_Files_put : K.lookup a_Files_put = some ⟨oc_Files_put, od_Files_put, .func (PySem.W.fnOf "put" "Files.put" (defArgs s_Files_put) (defBody s_Files_put) (defScope s_Files_put) .none kV_Files_put dc_Files_put pm_Files_put an_Files_put cd_Files_put ct_Files_put), sl_Files_put⟩)
    (c_Files_put : PySem.W.codeIn K cd_Files_put "Files.put" = true)
    (k_Files_put : PySem.W.keepIn K (.ref a_Files_put) = true)
    (g_Files_cut : PySem.W.findIn K (.ref C_Files) "cut" = some (some (.ref a_Files_cut)))
    (i_Files_cut : PySem.W.isFn K (.ref a_Files_cut) = true)
    (l_Files_cut : K.lookup a_Files_cut = some ⟨oc_Files_cut, od_Files_cut, .func (PySem.W.fnOf "cut" "Files.cut" (defArgs s_Files_cut) (defBody s_Files_cut) (defScope s_Files_cut) .none kV_Files_cut dc_Files_cut pm_Files_cut an_Files_cut cd_Files_cut ct_Files_cut), sl_Files_cut⟩)
    (c_Files_cut : PySem.W.codeIn K cd_Files_cut "Files.cut" = true)
    (k_Files_cut : PySem.W.keepIn K (.ref a_Files_cut) = true)
    (g_Files_blocks : PySem.W.findIn K (.ref C_Files) "blocks" = some (some (.ref a_Files_blocks)))
    (i_Files_blocks : PySem.W.isFn K (.ref a_Files_blocks) = true)
    (l_Files_blocks : K.lookup a_Files_blocks = some ⟨oc_Files_blocks, od_Files_blocks, .func (PySem.W.fnOf "blocks" "Files.blocks" (defArgs s_Files_blocks) (defBody s_Files_blocks) (defScope s_Files_blocks) .none kV_Files_blocks dc_Files_blocks pm_Files_blocks an_Files_blocks cd_Files_blocks ct_Files_blocks), sl_Files_blocks⟩)
    (c_Files_blocks : PySem.W.codeIn K cd_Files_blocks "Files.blocks" = true)
    (k_Files_blocks : PySem.W.keepIn K (.ref a_Files_blocks) = true)
    (g_Files_free : PySem.W.findIn K (.ref C_Files) "free" = some (some (.ref a_Files_free)))
    (i_Files_free : PySem.W.isFn K (.ref a_Files_free) = true)
    (l_Files_free : K.lookup a_Files_free = some ⟨oc_Files_free, od_Files_free, .func (PySem.W.fnOf "free" "Files.free" (defArgs s_Files_free) (defBody s_Files_free) (defScope s_Files_free) .none kV_Files_free dc_Files_free pm_Files_free an_Files_free cd_Files_free ct_Files_free), sl_Files_free⟩)
    (c_Files_free : PySem.W.codeIn K cd_Files_free "Files.free" = true)
    (k_Files_free : PySem.W.keepIn K (.ref a_Files_free) = true)
    (g_law_cell_at : PySem.W.nsIn K mainGlobals "_law_cell_at" = some (some (.ref a_law_cell_at)))
    (l_law_cell_at : K.lookup a_law_cell_at = some ⟨oc_law_cell_at, od_law_cell_at, .func (PySem.W.fnOf "_law_cell_at" "_law_cell_at" (defArgs s_law_cell_at) (defBody s_law_cell_at) (defScope s_law_cell_at) .none kV_law_cell_at dc_law_cell_at pm_law_cell_at an_law_cell_at cd_law_cell_at ct_law_cell_at), sl_law_cell_at⟩)
    (c_law_cell_at : PySem.W.codeIn K cd_law_cell_at "_law_cell_at" = true)
    (k_law_cell_at : PySem.W.keepIn K (.ref a_law_cell_at) = true)
    (g_law_mixed : PySem.W.nsIn K mainGlobals "_law_mixed" = some (some (.ref a_law_mixed)))
    (l_law_mixed : K.lookup a_law_mixed = some ⟨oc_law_mixed, od_law_mixed, .func (PySem.W.fnOf "_law_mixed" "_law_mixed" (defArgs s_law_mixed) (defBody s_law_mixed) (defScope s_law_mixed) .none kV_law_mixed dc_law_mixed pm_law_mixed an_law_mixed cd_law_mixed ct_law_mixed), sl_law_mixed⟩)
    (c_law_mixed : PySem.W.codeIn K cd_law_mixed "_law_mixed" = true)
    (k_law_mixed : PySem.W.keepIn K (.ref a_law_mixed) = true)
    (g_law_row : PySem.W.nsIn K mainGlobals "_law_row" = some (some (.ref a_law_row)))
    (l_law_row : K.lookup a_law_row = some ⟨oc_law_row, od_law_row, .func (PySem.W.fnOf "_law_row" "_law_row" (defArgs s_law_row) (defBody s_law_row) (defScope s_law_row) .none kV_law_row dc_law_row pm_law_row an_law_row cd_law_row ct_law_row), sl_law_row⟩)
    (c_law_row : PySem.W.codeIn K cd_law_row "_law_row" = true)
    (k_law_row : PySem.W.keepIn K (.ref a_law_row) = true)
    (g_law_next : PySem.W.nsIn K mainGlobals "_law_next" = some (some (.ref a_law_next)))
    (l_law_next : K.lookup a_law_next = some ⟨oc_law_next, od_law_next, .func (PySem.W.fnOf "_law_next" "_law_next" (defArgs s_law_next) (defBody s_law_next) (defScope s_law_next) .none kV_law_next dc_law_next pm_law_next an_law_next cd_law_next ct_law_next), sl_law_next⟩)
    (c_law_next : PySem.W.codeIn K cd_law_next "_law_next" = true)
    (k_law_next : PySem.W.keepIn K (.ref a_law_next) = true)
    (g_law_wants : PySem.W.nsIn K mainGlobals "_law_wants" = some (some (.ref a_law_wants)))
    (l_law_wants : K.lookup a_law_wants = some ⟨oc_law_wants, od_law_wants, .func (PySem.W.fnOf "_law_wants" "_law_wants" (defArgs s_law_wants) (defBody s_law_wants) (defScope s_law_wants) .none kV_law_wants dc_law_wants pm_law_wants an_law_wants cd_law_wants ct_law_wants), sl_law_wants⟩)
    (c_law_wants : PySem.W.codeIn K cd_law_wants "_law_wants" = true)
    (k_law_wants : PySem.W.keepIn K (.ref a_law_wants) = true)
    (g_law_deed : PySem.W.nsIn K mainGlobals "_law_deed" = some (some (.ref a_law_deed)))
    (l_law_deed : K.lookup a_law_deed = some ⟨oc_law_deed, od_law_deed, .func (PySem.W.fnOf "_law_deed" "_law_deed" (defArgs s_law_deed) (defBody s_law_deed) (defScope s_law_deed) .none kV_law_deed dc_law_deed pm_law_deed an_law_deed cd_law_deed ct_law_deed), sl_law_deed⟩)
    (c_law_deed : PySem.W.codeIn K cd_law_deed "_law_deed" = true)
    (k_law_deed : PySem.W.keepIn K (.ref a_law_deed) = true)
    (g_law_told : PySem.W.nsIn K mainGlobals "_law_told" = some (some (.ref a_law_told)))
    (l_law_told : K.lookup a_law_told = some ⟨oc_law_told, od_law_told, .func (PySem.W.fnOf "_law_told" "_law_told" (defArgs s_law_told) (defBody s_law_told) (defScope s_law_told) .none kV_law_told dc_law_told pm_law_told an_law_told cd_law_told ct_law_told), sl_law_told⟩)
    (c_law_told : PySem.W.codeIn K cd_law_told "_law_told" = true)
    (k_law_told : PySem.W.keepIn K (.ref a_law_told) = true)
    (g_law_stopped : PySem.W.nsIn K mainGlobals "_law_stopped" = some (some (.ref a_law_stopped)))
    (l_law_stopped : K.lookup a_law_stopped = some ⟨oc_law_stopped, od_law_stopped, .func (PySem.W.fnOf "_law_stopped" "_law_stopped" (defArgs s_law_stopped) (defBody s_law_stopped) (defScope s_law_stopped) .none kV_law_stopped dc_law_stopped pm_law_stopped an_law_stopped cd_law_stopped ct_law_stopped), sl_law_stopped⟩)
    (c_law_stopped : PySem.W.codeIn K cd_law_stopped "_law_stopped" = true)
    (k_law_stopped : PySem.W.keepIn K (.ref a_law_stopped) = true)
    (g_law : PySem.W.nsIn K mainGlobals "law" = some (some (.ref a_law)))
    (l_law : K.lookup a_law = some ⟨oc_law, od_law, .func (PySem.W.fnOf "law" "law" (defArgs s_law) (defBody s_law) (defScope s_law) .none kV_law dc_law pm_law an_law cd_law ct_law), sl_law⟩)
    (c_law : PySem.W.codeIn K cd_law "law" = true)
    (k_law : PySem.W.keepIn K (.ref a_law) = true)
    (g_BLOCK_disk : PySem.W.nsIn K mainGlobals "BLOCK_disk" = some (some (.int 8 t_BLOCK_disk)))
    (g_BLOCK_files : PySem.W.nsIn K mainGlobals "BLOCK_files" = some (some (.int 8 t_BLOCK_files)))
    (g_FIRSTS : PySem.W.nsIn K mainGlobals "FIRSTS" = some (some (.ref a_FIRSTS)))
    (l_FIRSTS : K.lookup a_FIRSTS = some ⟨.type "tuple", none, .seq #[.int 1 t0_FIRSTS, .int 200 t1_FIRSTS] n_FIRSTS, #[]⟩)
    (g_LEAST_BLOCKS : PySem.W.nsIn K mainGlobals "LEAST_BLOCKS" = some (some (.int 8 t_LEAST_BLOCKS)))
    (g_MOST_BLOCKS : PySem.W.nsIn K mainGlobals "MOST_BLOCKS" = some (some (.int 128 t_MOST_BLOCKS)))
    (g_MOST_NAMES : PySem.W.nsIn K mainGlobals "MOST_NAMES" = some (some (.int 24 t_MOST_NAMES)))
    (g_MOST_WORDS : PySem.W.nsIn K mainGlobals "MOST_WORDS" = some (some (.int 512 t_MOST_WORDS)))
    (g_WORDS : PySem.W.nsIn K mainGlobals "WORDS" = some (some (.int 65536 t_WORDS)))
    (n_bool : PySem.W.nsIn K mainGlobals "bool" = some none)
    (n_int : PySem.W.nsIn K mainGlobals "int" = some none)
    (n_isinstance : PySem.W.nsIn K mainGlobals "isinstance" = some none)
    (n_len : PySem.W.nsIn K mainGlobals "len" = some none)
    (n_list : PySem.W.nsIn K mainGlobals "list" = some none)
    (n_max : PySem.W.nsIn K mainGlobals "max" = some none)
    (n_range : PySem.W.nsIn K mainGlobals "range" = some none)
    (n_sorted : PySem.W.nsIn K mainGlobals "sorted" = some none)
    (n_sum : PySem.W.nsIn K mainGlobals "sum" = some none)
    (n_tuple : PySem.W.nsIn K mainGlobals "tuple" = some none) :
    ∃ fd : FuncData, (∀ (s : Shared) (v : Value), BindsTo s fd ⟨[v], []⟩ [("_law_script", v)]) ∧ ∀ base : Heap, K.In base → base.Ns mainGlobals mg → FnOk l.prog w K mg base CX0 8 fa fd ["_law_script"] (sp_law K) := by
  have e := hfa.symm.trans (PySem.W.mg_of X G g_law)
  cases e
  have T : ∃ T : Txt K mg, T.a_law = fa ∧ T.d_law = (PySem.W.fnOf "law" "law" (defArgs s_law) (defBody s_law) (defScope s_law) .none kV_law dc_law pm_law an_law cd_law ct_law) := ⟨{
    C_Disk := C_Disk,
    cl_Disk := ⟨h2_Disk, h3_Disk, h4_Disk, h5_Disk⟩,
    g_Disk := PySem.W.mg_of X G h1_Disk,
    n_Disk_written := n_Disk_written,
    n_Disk_tally := n_Disk_tally,
    n_Disk_spare := n_Disk_spare,
    C_File := C_File,
    cl_File := ⟨h2_File, h3_File, h4_File, h5_File⟩,
    g_File := PySem.W.mg_of X G h1_File,
    n_File_title := n_File_title,
    n_File_holders := n_File_holders,
    n_File_content := n_File_content,
    n_File_loans := n_File_loans,
    C_Files := C_Files,
    cl_Files := ⟨h2_Files, h3_Files, h4_Files, h5_Files⟩,
    g_Files := PySem.W.mg_of X G h1_Files,
    n_Files_bag := n_Files_bag,
    n_Files_loose := n_Files_loose,
    n_Files_known := n_Files_known,
    n_Files_titled := n_Files_titled,
    n_Files_newest := n_Files_newest,
    x_NoWord := x_NoWord,
    gx_NoWord := PySem.W.mg_of X G gx_NoWord,
    x_BadSize := x_BadSize,
    gx_BadSize := PySem.W.mg_of X G gx_BadSize,
    x_Full := x_Full,
    gx_Full := PySem.W.mg_of X G gx_Full,
    x_NoName := x_NoName,
    gx_NoName := PySem.W.mg_of X G gx_NoName,
    x_NoSpace := x_NoSpace,
    gx_NoSpace := PySem.W.mg_of X G gx_NoSpace,
    x_TooLong := x_TooLong,
    gx_TooLong := PySem.W.mg_of X G gx_TooLong,
    x_NoFile := x_NoFile,
    gx_NoFile := PySem.W.mg_of X G gx_NoFile,
    a_is_whole := a_is_whole,
    d_is_whole := (PySem.W.fnOf "is_whole" "is_whole" (defArgs s_is_whole) (defBody s_is_whole) (defScope s_is_whole) .none kV_is_whole dc_is_whole pm_is_whole an_is_whole cd_is_whole ct_is_whole),
    f_is_whole := fun_mk (st := s_is_whole) l_is_whole c_is_whole k_is_whole,
    b_is_whole := (fun_mk (st := s_is_whole) l_is_whole c_is_whole k_is_whole).binds (ps := ["thing"]) fun _ _ _ _ _ _ us hl => match us, hl with | [_], _ => rfl,
    g_is_whole := PySem.W.mg_of X G g_is_whole,
    a_is_among := a_is_among,
    d_is_among := (PySem.W.fnOf "is_among" "is_among" (defArgs s_is_among) (defBody s_is_among) (defScope s_is_among) .none kV_is_among dc_is_among pm_is_among an_is_among cd_is_among ct_is_among),
    f_is_among := fun_mk (st := s_is_among) l_is_among c_is_among k_is_among,
    b_is_among := (fun_mk (st := s_is_among) l_is_among c_is_among k_is_among).binds (ps := ["thing", "least", "most"]) fun _ _ _ _ _ _ us hl => match us, hl with | [_, _, _], _ => rfl,
    g_is_among := PySem.W.mg_of X G g_is_among,
    a_is_word := a_is_word,
    d_is_word := (PySem.W.fnOf "is_word" "is_word" (defArgs s_is_word) (defBody s_is_word) (defScope s_is_word) .none kV_is_word dc_is_word pm_is_word an_is_word cd_is_word ct_is_word),
    f_is_word := fun_mk (st := s_is_word) l_is_word c_is_word k_is_word,
    b_is_word := (fun_mk (st := s_is_word) l_is_word c_is_word k_is_word).binds (ps := ["thing"]) fun _ _ _ _ _ _ us hl => match us, hl with | [_], _ => rfl,
    g_is_word := PySem.W.mg_of X G g_is_word,
    a_need_word := a_need_word,
    d_need_word := (PySem.W.fnOf "need_word" "need_word" (defArgs s_need_word) (defBody s_need_word) (defScope s_need_word) .none kV_need_word dc_need_word pm_need_word an_need_word cd_need_word ct_need_word),
    f_need_word := fun_mk (st := s_need_word) l_need_word c_need_word k_need_word,
    b_need_word := (fun_mk (st := s_need_word) l_need_word c_need_word k_need_word).binds (ps := ["thing"]) fun _ _ _ _ _ _ us hl => match us, hl with | [_], _ => rfl,
    g_need_word := PySem.W.mg_of X G g_need_word,
    a_wrapped := a_wrapped,
    d_wrapped := (PySem.W.fnOf "wrapped" "wrapped" (defArgs s_wrapped) (defBody s_wrapped) (defScope s_wrapped) .none kV_wrapped dc_wrapped pm_wrapped an_wrapped cd_wrapped ct_wrapped),
    f_wrapped := fun_mk (st := s_wrapped) l_wrapped c_wrapped k_wrapped,
    b_wrapped := (fun_mk (st := s_wrapped) l_wrapped c_wrapped k_wrapped).binds (ps := ["number"]) fun _ _ _ _ _ _ us hl => match us, hl with | [_], _ => rfl,
    g_wrapped := PySem.W.mg_of X G g_wrapped,
    a_Disk_init := a_Disk_init,
    d_Disk_init := (PySem.W.fnOf "__init__" "Disk.__init__" (defArgs s_Disk_init) (defBody s_Disk_init) (defScope s_Disk_init) .none kV_Disk_init dc_Disk_init pm_Disk_init an_Disk_init cd_Disk_init ct_Disk_init),
    f_Disk_init := fun_mk (st := s_Disk_init) l_Disk_init c_Disk_init k_Disk_init,
    b_Disk_init := (fun_mk (st := s_Disk_init) l_Disk_init c_Disk_init k_Disk_init).binds (ps := ["self"]) fun _ _ _ _ _ _ us hl => match us, hl with | [_], _ => rfl,
    mk_Disk := ⟨h6_Disk, g_Disk_init, i_Disk_init, h7_Disk⟩,
    a_Disk_block := a_Disk_block,
    d_Disk_block := (PySem.W.fnOf "block" "Disk.block" (defArgs s_Disk_block) (defBody s_Disk_block) (defScope s_Disk_block) .none kV_Disk_block dc_Disk_block pm_Disk_block an_Disk_block cd_Disk_block ct_Disk_block),
    f_Disk_block := fun_mk (st := s_Disk_block) l_Disk_block c_Disk_block k_Disk_block,
    b_Disk_block := (fun_mk (st := s_Disk_block) l_Disk_block c_Disk_block k_Disk_block).binds (ps := ["self", "number"]) fun _ _ _ _ _ _ us hl => match us, hl with | [_, _], _ => rfl,
    m_Disk_block := ⟨g_Disk_block, i_Disk_block, k_Disk_block⟩,
    a_Disk_write := a_Disk_write,
    d_Disk_write := (PySem.W.fnOf "write" "Disk.write" (defArgs s_Disk_write) (defBody s_Disk_write) (defScope s_Disk_write) .none kV_Disk_write dc_Disk_write pm_Disk_write an_Disk_write cd_Disk_write ct_Disk_write),
    f_Disk_write := fun_mk (st := s_Disk_write) l_Disk_write c_Disk_write k_Disk_write,
    b_Disk_write := (fun_mk (st := s_Disk_write) l_Disk_write c_Disk_write k_Disk_write).binds (ps := ["self", "number", "words"]) fun _ _ _ _ _ _ us hl => match us, hl with | [_, _, _], _ => rfl,
    m_Disk_write := ⟨g_Disk_write, i_Disk_write, k_Disk_write⟩,
    a_Disk_stop := a_Disk_stop,
    d_Disk_stop := (PySem.W.fnOf "stop" "Disk.stop" (defArgs s_Disk_stop) (defBody s_Disk_stop) (defScope s_Disk_stop) .none kV_Disk_stop dc_Disk_stop pm_Disk_stop an_Disk_stop cd_Disk_stop ct_Disk_stop),
    f_Disk_stop := fun_mk (st := s_Disk_stop) l_Disk_stop c_Disk_stop k_Disk_stop,
    b_Disk_stop := (fun_mk (st := s_Disk_stop) l_Disk_stop c_Disk_stop k_Disk_stop).binds (ps := ["self", "many"]) fun _ _ _ _ _ _ us hl => match us, hl with | [_, _], _ => rfl,
    m_Disk_stop := ⟨g_Disk_stop, i_Disk_stop, k_Disk_stop⟩,
    a_Disk_go := a_Disk_go,
    d_Disk_go := (PySem.W.fnOf "go" "Disk.go" (defArgs s_Disk_go) (defBody s_Disk_go) (defScope s_Disk_go) .none kV_Disk_go dc_Disk_go pm_Disk_go an_Disk_go cd_Disk_go ct_Disk_go),
    f_Disk_go := fun_mk (st := s_Disk_go) l_Disk_go c_Disk_go k_Disk_go,
    b_Disk_go := (fun_mk (st := s_Disk_go) l_Disk_go c_Disk_go k_Disk_go).binds (ps := ["self"]) fun _ _ _ _ _ _ us hl => match us, hl with | [_], _ => rfl,
    m_Disk_go := ⟨g_Disk_go, i_Disk_go, k_Disk_go⟩,
    a_Disk_writes := a_Disk_writes,
    d_Disk_writes := (PySem.W.fnOf "writes" "Disk.writes" (defArgs s_Disk_writes) (defBody s_Disk_writes) (defScope s_Disk_writes) .none kV_Disk_writes dc_Disk_writes pm_Disk_writes an_Disk_writes cd_Disk_writes ct_Disk_writes),
    f_Disk_writes := fun_mk (st := s_Disk_writes) l_Disk_writes c_Disk_writes k_Disk_writes,
    b_Disk_writes := (fun_mk (st := s_Disk_writes) l_Disk_writes c_Disk_writes k_Disk_writes).binds (ps := ["self"]) fun _ _ _ _ _ _ us hl => match us, hl with | [_], _ => rfl,
    m_Disk_writes := ⟨g_Disk_writes, i_Disk_writes, k_Disk_writes⟩,
    a_words_of := a_words_of,
    d_words_of := (PySem.W.fnOf "words_of" "words_of" (defArgs s_words_of) (defBody s_words_of) (defScope s_words_of) .none kV_words_of dc_words_of pm_words_of an_words_of cd_words_of ct_words_of),
    f_words_of := fun_mk (st := s_words_of) l_words_of c_words_of k_words_of,
    b_words_of := (fun_mk (st := s_words_of) l_words_of c_words_of k_words_of).binds (ps := ["files"]) fun _ _ _ _ _ _ us hl => match us, hl with | [_], _ => rfl,
    g_words_of := PySem.W.mg_of X G g_words_of,
    a_sure := a_sure,
    d_sure := (PySem.W.fnOf "sure" "sure" (defArgs s_sure) (defBody s_sure) (defScope s_sure) .none kV_sure dc_sure pm_sure an_sure cd_sure ct_sure),
    f_sure := fun_mk (st := s_sure) l_sure c_sure k_sure,
    b_sure := (fun_mk (st := s_sure) l_sure c_sure k_sure).binds (ps := ["disk", "files"]) fun _ _ _ _ _ _ us hl => match us, hl with | [_, _], _ => rfl,
    g_sure := PySem.W.mg_of X G g_sure,
    a_rise := a_rise,
    d_rise := (PySem.W.fnOf "rise" "rise" (defArgs s_rise) (defBody s_rise) (defScope s_rise) .none kV_rise dc_rise pm_rise an_rise cd_rise ct_rise),
    f_rise := fun_mk (st := s_rise) l_rise c_rise k_rise,
    b_rise := (fun_mk (st := s_rise) l_rise c_rise k_rise).binds (ps := ["disk"]) fun _ _ _ _ _ _ us hl => match us, hl with | [_], _ => rfl,
    g_rise := PySem.W.mg_of X G g_rise,
    a_blocks_for := a_blocks_for,
    d_blocks_for := (PySem.W.fnOf "blocks_for" "blocks_for" (defArgs s_blocks_for) (defBody s_blocks_for) (defScope s_blocks_for) .none kV_blocks_for dc_blocks_for pm_blocks_for an_blocks_for cd_blocks_for ct_blocks_for),
    f_blocks_for := fun_mk (st := s_blocks_for) l_blocks_for c_blocks_for k_blocks_for,
    b_blocks_for := (fun_mk (st := s_blocks_for) l_blocks_for c_blocks_for k_blocks_for).binds (ps := ["many"]) fun _ _ _ _ _ _ us hl => match us, hl with | [_], _ => rfl,
    g_blocks_for := PySem.W.mg_of X G g_blocks_for,
    a_File_init := a_File_init,
    d_File_init := (PySem.W.fnOf "__init__" "File.__init__" (defArgs s_File_init) (defBody s_File_init) (defScope s_File_init) .none kV_File_init dc_File_init pm_File_init an_File_init cd_File_init ct_File_init),
    f_File_init := fun_mk (st := s_File_init) l_File_init c_File_init k_File_init,
    b_File_init := (fun_mk (st := s_File_init) l_File_init c_File_init k_File_init).binds (ps := ["self", "title"]) fun _ _ _ _ _ _ us hl => match us, hl with | [_, _], _ => rfl,
    mk_File := ⟨h6_File, g_File_init, i_File_init, h7_File⟩,
    a_Files_init := a_Files_init,
    d_Files_init := (PySem.W.fnOf "__init__" "Files.__init__" (defArgs s_Files_init) (defBody s_Files_init) (defScope s_Files_init) .none kV_Files_init dc_Files_init pm_Files_init an_Files_init cd_Files_init ct_Files_init),
    f_Files_init := fun_mk (st := s_Files_init) l_Files_init c_Files_init k_Files_init,
    b_Files_init := (fun_mk (st := s_Files_init) l_Files_init c_Files_init k_Files_init).binds (ps := ["self", "blocks"]) fun _ _ _ _ _ _ us hl => match us, hl with | [_, _], _ => rfl,
    mk_Files := ⟨h6_Files, g_Files_init, i_Files_init, h7_Files⟩,
    a_Files_many := a_Files_many,
    d_Files_many := (PySem.W.fnOf "many" "Files.many" (defArgs s_Files_many) (defBody s_Files_many) (defScope s_Files_many) .none kV_Files_many dc_Files_many pm_Files_many an_Files_many cd_Files_many ct_Files_many),
    f_Files_many := fun_mk (st := s_Files_many) l_Files_many c_Files_many k_Files_many,
    b_Files_many := (fun_mk (st := s_Files_many) l_Files_many c_Files_many k_Files_many).binds (ps := ["self"]) fun _ _ _ _ _ _ us hl => match us, hl with | [_], _ => rfl,
    m_Files_many := ⟨g_Files_many, i_Files_many, k_Files_many⟩,
    a_Files_names := a_Files_names,
    d_Files_names := (PySem.W.fnOf "names" "Files.names" (defArgs s_Files_names) (defBody s_Files_names) (defScope s_Files_names) .none kV_Files_names dc_Files_names pm_Files_names an_Files_names cd_Files_names ct_Files_names),
    f_Files_names := fun_mk (st := s_Files_names) l_Files_names c_Files_names k_Files_names,
    b_Files_names := (fun_mk (st := s_Files_names) l_Files_names c_Files_names k_Files_names).binds (ps := ["self"]) fun _ _ _ _ _ _ us hl => match us, hl with | [_], _ => rfl,
    m_Files_names := ⟨g_Files_names, i_Files_names, k_Files_names⟩,
    a_Files_file_of := a_Files_file_of,
    d_Files_file_of := (PySem.W.fnOf "file_of" "Files.file_of" (defArgs s_Files_file_of) (defBody s_Files_file_of) (defScope s_Files_file_of) .none kV_Files_file_of dc_Files_file_of pm_Files_file_of an_Files_file_of cd_Files_file_of ct_Files_file_of),
    f_Files_file_of := fun_mk (st := s_Files_file_of) l_Files_file_of c_Files_file_of k_Files_file_of,
    b_Files_file_of := (fun_mk (st := s_Files_file_of) l_Files_file_of c_Files_file_of k_Files_file_of).binds (ps := ["self", "name"]) fun _ _ _ _ _ _ us hl => match us, hl with | [_, _], _ => rfl,
    m_Files_file_of := ⟨g_Files_file_of, i_Files_file_of, k_Files_file_of⟩,
    a_Files_make := a_Files_make,
    d_Files_make := (PySem.W.fnOf "make" "Files.make" (defArgs s_Files_make) (defBody s_Files_make) (defScope s_Files_make) .none kV_Files_make dc_Files_make pm_Files_make an_Files_make cd_Files_make ct_Files_make),
    f_Files_make := fun_mk (st := s_Files_make) l_Files_make c_Files_make k_Files_make,
    b_Files_make := (fun_mk (st := s_Files_make) l_Files_make c_Files_make k_Files_make).binds (ps := ["self", "name"]) fun _ _ _ _ _ _ us hl => match us, hl with | [_, _], _ => rfl,
    m_Files_make := ⟨g_Files_make, i_Files_make, k_Files_make⟩,
    a_Files_remove := a_Files_remove,
    d_Files_remove := (PySem.W.fnOf "remove" "Files.remove" (defArgs s_Files_remove) (defBody s_Files_remove) (defScope s_Files_remove) .none kV_Files_remove dc_Files_remove pm_Files_remove an_Files_remove cd_Files_remove ct_Files_remove),
    f_Files_remove := fun_mk (st := s_Files_remove) l_Files_remove c_Files_remove k_Files_remove,
    b_Files_remove := (fun_mk (st := s_Files_remove) l_Files_remove c_Files_remove k_Files_remove).binds (ps := ["self", "name"]) fun _ _ _ _ _ _ us hl => match us, hl with | [_, _], _ => rfl,
    m_Files_remove := ⟨g_Files_remove, i_Files_remove, k_Files_remove⟩,
    a_Files_go_idle := a_Files_go_idle,
    d_Files_go_idle := (PySem.W.fnOf "go_idle" "Files.go_idle" (defArgs s_Files_go_idle) (defBody s_Files_go_idle) (defScope s_Files_go_idle) .none kV_Files_go_idle dc_Files_go_idle pm_Files_go_idle an_Files_go_idle cd_Files_go_idle ct_Files_go_idle),
    f_Files_go_idle := fun_mk (st := s_Files_go_idle) l_Files_go_idle c_Files_go_idle k_Files_go_idle,
    b_Files_go_idle := (fun_mk (st := s_Files_go_idle) l_Files_go_idle c_Files_go_idle k_Files_go_idle).binds (ps := ["self", "number"]) fun _ _ _ _ _ _ us hl => match us, hl with | [_, _], _ => rfl,
    m_Files_go_idle := ⟨g_Files_go_idle, i_Files_go_idle, k_Files_go_idle⟩,
    a_Files_give_back := a_Files_give_back,
    d_Files_give_back := (PySem.W.fnOf "give_back" "Files.give_back" (defArgs s_Files_give_back) (defBody s_Files_give_back) (defScope s_Files_give_back) .none kV_Files_give_back dc_Files_give_back pm_Files_give_back an_Files_give_back cd_Files_give_back ct_Files_give_back),
    f_Files_give_back := fun_mk (st := s_Files_give_back) l_Files_give_back c_Files_give_back k_Files_give_back,
    b_Files_give_back := (fun_mk (st := s_Files_give_back) l_Files_give_back c_Files_give_back k_Files_give_back).binds (ps := ["self", "one"]) fun _ _ _ _ _ _ us hl => match us, hl with | [_, _], _ => rfl,
    m_Files_give_back := ⟨g_Files_give_back, i_Files_give_back, k_Files_give_back⟩,
    a_Files_files := a_Files_files,
    d_Files_files := (PySem.W.fnOf "files" "Files.files" (defArgs s_Files_files) (defBody s_Files_files) (defScope s_Files_files) .none kV_Files_files dc_Files_files pm_Files_files an_Files_files cd_Files_files ct_Files_files),
    f_Files_files := fun_mk (st := s_Files_files) l_Files_files c_Files_files k_Files_files,
    b_Files_files := (fun_mk (st := s_Files_files) l_Files_files c_Files_files k_Files_files).binds (ps := ["self"]) fun _ _ _ _ _ _ us hl => match us, hl with | [_], _ => rfl,
    m_Files_files := ⟨g_Files_files, i_Files_files, k_Files_files⟩,
    a_Files_found := a_Files_found,
    d_Files_found := (PySem.W.fnOf "found" "Files.found" (defArgs s_Files_found) (defBody s_Files_found) (defScope s_Files_found) .none kV_Files_found dc_Files_found pm_Files_found an_Files_found cd_Files_found ct_Files_found),
    f_Files_found := fun_mk (st := s_Files_found) l_Files_found c_Files_found k_Files_found,
    b_Files_found := (fun_mk (st := s_Files_found) l_Files_found c_Files_found k_Files_found).binds (ps := ["self", "file"]) fun _ _ _ _ _ _ us hl => match us, hl with | [_, _], _ => rfl,
    m_Files_found := ⟨g_Files_found, i_Files_found, k_Files_found⟩,
    a_Files_name := a_Files_name,
    d_Files_name := (PySem.W.fnOf "name" "Files.name" (defArgs s_Files_name) (defBody s_Files_name) (defScope s_Files_name) .none kV_Files_name dc_Files_name pm_Files_name an_Files_name cd_Files_name ct_Files_name),
    f_Files_name := fun_mk (st := s_Files_name) l_Files_name c_Files_name k_Files_name,
    b_Files_name := (fun_mk (st := s_Files_name) l_Files_name c_Files_name k_Files_name).binds (ps := ["self", "file"]) fun _ _ _ _ _ _ us hl => match us, hl with | [_, _], _ => rfl,
    m_Files_name := ⟨g_Files_name, i_Files_name, k_Files_name⟩,
    a_Files_hold := a_Files_hold,
    d_Files_hold := (PySem.W.fnOf "hold" "Files.hold" (defArgs s_Files_hold) (defBody s_Files_hold) (defScope s_Files_hold) .none kV_Files_hold dc_Files_hold pm_Files_hold an_Files_hold cd_Files_hold ct_Files_hold),
    f_Files_hold := fun_mk (st := s_Files_hold) l_Files_hold c_Files_hold k_Files_hold,
    b_Files_hold := (fun_mk (st := s_Files_hold) l_Files_hold c_Files_hold k_Files_hold).binds (ps := ["self", "file"]) fun _ _ _ _ _ _ us hl => match us, hl with | [_, _], _ => rfl,
    m_Files_hold := ⟨g_Files_hold, i_Files_hold, k_Files_hold⟩,
    a_Files_held := a_Files_held,
    d_Files_held := (PySem.W.fnOf "held" "Files.held" (defArgs s_Files_held) (defBody s_Files_held) (defScope s_Files_held) .none kV_Files_held dc_Files_held pm_Files_held an_Files_held cd_Files_held ct_Files_held),
    f_Files_held := fun_mk (st := s_Files_held) l_Files_held c_Files_held k_Files_held,
    b_Files_held := (fun_mk (st := s_Files_held) l_Files_held c_Files_held k_Files_held).binds (ps := ["self", "file"]) fun _ _ _ _ _ _ us hl => match us, hl with | [_, _], _ => rfl,
    m_Files_held := ⟨g_Files_held, i_Files_held, k_Files_held⟩,
    a_Files_length := a_Files_length,
    d_Files_length := (PySem.W.fnOf "length" "Files.length" (defArgs s_Files_length) (defBody s_Files_length) (defScope s_Files_length) .none kV_Files_length dc_Files_length pm_Files_length an_Files_length cd_Files_length ct_Files_length),
    f_Files_length := fun_mk (st := s_Files_length) l_Files_length c_Files_length k_Files_length,
    b_Files_length := (fun_mk (st := s_Files_length) l_Files_length c_Files_length k_Files_length).binds (ps := ["self", "file"]) fun _ _ _ _ _ _ us hl => match us, hl with | [_, _], _ => rfl,
    m_Files_length := ⟨g_Files_length, i_Files_length, k_Files_length⟩,
    a_Files_read := a_Files_read,
    d_Files_read := (PySem.W.fnOf "read" "Files.read" (defArgs s_Files_read) (defBody s_Files_read) (defScope s_Files_read) .none kV_Files_read dc_Files_read pm_Files_read an_Files_read cd_Files_read ct_Files_read),
    f_Files_read := fun_mk (st := s_Files_read) l_Files_read c_Files_read k_Files_read,
    b_Files_read := (fun_mk (st := s_Files_read) l_Files_read c_Files_read k_Files_read).binds (ps := ["self", "file", "place", "count"]) fun _ _ _ _ _ _ us hl => match us, hl with | [_, _, _, _], _ => rfl,
    m_Files_read := ⟨g_Files_read, i_Files_read, k_Files_read⟩,
    a_Files_put := a_Files_put,
    d_Files_put := (PySem.W.fnOf "put" "Files.put" (defArgs s_Files_put) (defBody s_Files_put) (defScope s_Files_put) .none kV_Files_put dc_Files_put pm_Files_put an_Files_put cd_Files_put ct_Files_put),
    f_Files_put := fun_mk (st := s_Files_put) l_Files_put c_Files_put k_Files_put,
    b_Files_put := (fun_mk (st := s_Files_put) l_Files_put c_Files_put k_Files_put).binds (ps := ["self", "file", "place", "words"]) fun _ _ _ _ _ _ us hl => match us, hl with | [_, _, _, _], _ => rfl,
    m_Files_put := ⟨g_Files_put, i_Files_put, k_Files_put⟩,
    a_Files_cut := a_Files_cut,
    d_Files_cut := (PySem.W.fnOf "cut" "Files.cut" (defArgs s_Files_cut) (defBody s_Files_cut) (defScope s_Files_cut) .none kV_Files_cut dc_Files_cut pm_Files_cut an_Files_cut cd_Files_cut ct_Files_cut),
    f_Files_cut := fun_mk (st := s_Files_cut) l_Files_cut c_Files_cut k_Files_cut,
    b_Files_cut := (fun_mk (st := s_Files_cut) l_Files_cut c_Files_cut k_Files_cut).binds (ps := ["self", "file"]) fun _ _ _ _ _ _ us hl => match us, hl with | [_, _], _ => rfl,
    m_Files_cut := ⟨g_Files_cut, i_Files_cut, k_Files_cut⟩,
    a_Files_blocks := a_Files_blocks,
    d_Files_blocks := (PySem.W.fnOf "blocks" "Files.blocks" (defArgs s_Files_blocks) (defBody s_Files_blocks) (defScope s_Files_blocks) .none kV_Files_blocks dc_Files_blocks pm_Files_blocks an_Files_blocks cd_Files_blocks ct_Files_blocks),
    f_Files_blocks := fun_mk (st := s_Files_blocks) l_Files_blocks c_Files_blocks k_Files_blocks,
    b_Files_blocks := (fun_mk (st := s_Files_blocks) l_Files_blocks c_Files_blocks k_Files_blocks).binds (ps := ["self", "file"]) fun _ _ _ _ _ _ us hl => match us, hl with | [_, _], _ => rfl,
    m_Files_blocks := ⟨g_Files_blocks, i_Files_blocks, k_Files_blocks⟩,
    a_Files_free := a_Files_free,
    d_Files_free := (PySem.W.fnOf "free" "Files.free" (defArgs s_Files_free) (defBody s_Files_free) (defScope s_Files_free) .none kV_Files_free dc_Files_free pm_Files_free an_Files_free cd_Files_free ct_Files_free),
    f_Files_free := fun_mk (st := s_Files_free) l_Files_free c_Files_free k_Files_free,
    b_Files_free := (fun_mk (st := s_Files_free) l_Files_free c_Files_free k_Files_free).binds (ps := ["self"]) fun _ _ _ _ _ _ us hl => match us, hl with | [_], _ => rfl,
    m_Files_free := ⟨g_Files_free, i_Files_free, k_Files_free⟩,
    a_law_cell_at := a_law_cell_at,
    d_law_cell_at := (PySem.W.fnOf "_law_cell_at" "_law_cell_at" (defArgs s_law_cell_at) (defBody s_law_cell_at) (defScope s_law_cell_at) .none kV_law_cell_at dc_law_cell_at pm_law_cell_at an_law_cell_at cd_law_cell_at ct_law_cell_at),
    f_law_cell_at := fun_mk (st := s_law_cell_at) l_law_cell_at c_law_cell_at k_law_cell_at,
    b_law_cell_at := (fun_mk (st := s_law_cell_at) l_law_cell_at c_law_cell_at k_law_cell_at).binds (ps := ["_law_script", "_law_k"]) fun _ _ _ _ _ _ us hl => match us, hl with | [_, _], _ => rfl,
    g_law_cell_at := PySem.W.mg_of X G g_law_cell_at,
    a_law_mixed := a_law_mixed,
    d_law_mixed := (PySem.W.fnOf "_law_mixed" "_law_mixed" (defArgs s_law_mixed) (defBody s_law_mixed) (defScope s_law_mixed) .none kV_law_mixed dc_law_mixed pm_law_mixed an_law_mixed cd_law_mixed ct_law_mixed),
    f_law_mixed := fun_mk (st := s_law_mixed) l_law_mixed c_law_mixed k_law_mixed,
    b_law_mixed := (fun_mk (st := s_law_mixed) l_law_mixed c_law_mixed k_law_mixed).binds (ps := ["_law_cell", "_law_k"]) fun _ _ _ _ _ _ us hl => match us, hl with | [_, _], _ => rfl,
    g_law_mixed := PySem.W.mg_of X G g_law_mixed,
    a_law_row := a_law_row,
    d_law_row := (PySem.W.fnOf "_law_row" "_law_row" (defArgs s_law_row) (defBody s_law_row) (defScope s_law_row) .none kV_law_row dc_law_row pm_law_row an_law_row cd_law_row ct_law_row),
    f_law_row := fun_mk (st := s_law_row) l_law_row c_law_row k_law_row,
    b_law_row := (fun_mk (st := s_law_row) l_law_row c_law_row k_law_row).binds (ps := ["_law_script", "_law_k"]) fun _ _ _ _ _ _ us hl => match us, hl with | [_, _], _ => rfl,
    g_law_row := PySem.W.mg_of X G g_law_row,
    a_law_next := a_law_next,
    d_law_next := (PySem.W.fnOf "_law_next" "_law_next" (defArgs s_law_next) (defBody s_law_next) (defScope s_law_next) .none kV_law_next dc_law_next pm_law_next an_law_next cd_law_next ct_law_next),
    f_law_next := fun_mk (st := s_law_next) l_law_next c_law_next k_law_next,
    b_law_next := (fun_mk (st := s_law_next) l_law_next c_law_next k_law_next).binds (ps := ["_law_row_here", "_law_many"]) fun _ _ _ _ _ _ us hl => match us, hl with | [_, _], _ => rfl,
    g_law_next := PySem.W.mg_of X G g_law_next,
    a_law_wants := a_law_wants,
    d_law_wants := (PySem.W.fnOf "_law_wants" "_law_wants" (defArgs s_law_wants) (defBody s_law_wants) (defScope s_law_wants) .none kV_law_wants dc_law_wants pm_law_wants an_law_wants cd_law_wants ct_law_wants),
    f_law_wants := fun_mk (st := s_law_wants) l_law_wants c_law_wants k_law_wants,
    b_law_wants := (fun_mk (st := s_law_wants) l_law_wants c_law_wants k_law_wants).binds (ps := ["_law_m"]) fun _ _ _ _ _ _ us hl => match us, hl with | [_], _ => rfl,
    g_law_wants := PySem.W.mg_of X G g_law_wants,
    a_law_deed := a_law_deed,
    d_law_deed := (PySem.W.fnOf "_law_deed" "_law_deed" (defArgs s_law_deed) (defBody s_law_deed) (defScope s_law_deed) .none kV_law_deed dc_law_deed pm_law_deed an_law_deed cd_law_deed ct_law_deed),
    f_law_deed := fun_mk (st := s_law_deed) l_law_deed c_law_deed k_law_deed,
    b_law_deed := (fun_mk (st := s_law_deed) l_law_deed c_law_deed k_law_deed).binds (ps := ["_law_files", "_law_m", "_law_row_here"]) fun _ _ _ _ _ _ us hl => match us, hl with | [_, _, _], _ => rfl,
    g_law_deed := PySem.W.mg_of X G g_law_deed,
    a_law_told := a_law_told,
    d_law_told := (PySem.W.fnOf "_law_told" "_law_told" (defArgs s_law_told) (defBody s_law_told) (defScope s_law_told) .none kV_law_told dc_law_told pm_law_told an_law_told cd_law_told ct_law_told),
    f_law_told := fun_mk (st := s_law_told) l_law_told c_law_told k_law_told,
    b_law_told := (fun_mk (st := s_law_told) l_law_told c_law_told k_law_told).binds (ps := ["_law_m"]) fun _ _ _ _ _ _ us hl => match us, hl with | [_], _ => rfl,
    g_law_told := PySem.W.mg_of X G g_law_told,
    a_law_stopped := a_law_stopped,
    d_law_stopped := (PySem.W.fnOf "_law_stopped" "_law_stopped" (defArgs s_law_stopped) (defBody s_law_stopped) (defScope s_law_stopped) .none kV_law_stopped dc_law_stopped pm_law_stopped an_law_stopped cd_law_stopped ct_law_stopped),
    f_law_stopped := fun_mk (st := s_law_stopped) l_law_stopped c_law_stopped k_law_stopped,
    b_law_stopped := (fun_mk (st := s_law_stopped) l_law_stopped c_law_stopped k_law_stopped).binds (ps := ["_law_disk", "_law_files", "_law_m", "_law_row_here", "_law_done"]) fun _ _ _ _ _ _ us hl => match us, hl with | [_, _, _, _, _], _ => rfl,
    g_law_stopped := PySem.W.mg_of X G g_law_stopped,
    a_law := fa,
    d_law := (PySem.W.fnOf "law" "law" (defArgs s_law) (defBody s_law) (defScope s_law) .none kV_law dc_law pm_law an_law cd_law ct_law),
    f_law := fun_mk (st := s_law) l_law c_law k_law,
    b_law := (fun_mk (st := s_law) l_law c_law k_law).binds (ps := ["_law_script"]) fun _ _ _ _ _ _ us hl => match us, hl with | [_], _ => rfl,
    g_law := PySem.W.mg_of X G g_law,
    g_BLOCK_disk := ⟨_, PySem.W.mg_of X G g_BLOCK_disk⟩,
    g_BLOCK_files := ⟨_, PySem.W.mg_of X G g_BLOCK_files⟩,
    a_FIRSTS := a_FIRSTS,
    g_FIRSTS := PySem.W.mg_of X G g_FIRSTS,
    t_FIRSTS := fun H => sqT_K l_FIRSTS (by decide) (.cons ⟨_, rfl⟩ (.cons ⟨_, rfl⟩ .nil)),
    g_LEAST_BLOCKS := ⟨_, PySem.W.mg_of X G g_LEAST_BLOCKS⟩,
    g_MOST_BLOCKS := ⟨_, PySem.W.mg_of X G g_MOST_BLOCKS⟩,
    g_MOST_NAMES := ⟨_, PySem.W.mg_of X G g_MOST_NAMES⟩,
    g_MOST_WORDS := ⟨_, PySem.W.mg_of X G g_MOST_WORDS⟩,
    g_WORDS := ⟨_, PySem.W.mg_of X G g_WORDS⟩,
    n_bool := PySem.W.mg_none_of X G n_bool,
    n_int := PySem.W.mg_none_of X G n_int,
    n_isinstance := PySem.W.mg_none_of X G n_isinstance,
    n_len := PySem.W.mg_none_of X G n_len,
    n_list := PySem.W.mg_none_of X G n_list,
    n_max := PySem.W.mg_none_of X G n_max,
    n_range := PySem.W.mg_none_of X G n_range,
    n_sorted := PySem.W.mg_none_of X G n_sorted,
    n_sum := PySem.W.mg_none_of X G n_sum,
    n_tuple := PySem.W.mg_none_of X G n_tuple
    }, rfl, rfl⟩
  obtain ⟨T, e1, e2⟩ := T
  refine ⟨PySem.W.fnOf "law" "law" (defArgs s_law) (defBody s_law) (defScope s_law) .none kV_law dc_law pm_law an_law cd_law ct_law, fun s v => .of_eq rfl, fun base _ _ => ?_⟩
  have z := ok_law (P := l.prog) (w := w) (base := base) T
  rw [e1, e2] at z
  exact z
theorem walk {l : PySem.W.OpenLaw} {q : Program} {loose : List Str} {XP : (Str → Option Value) → Heap → Prop} {YP : World → Heap → Prop} {d : DefRec} {K : Params → PySem.W.Frag} (hn : l.most = some 63) (hdf : d.params.defaults = [])
    (hY : ∀ (w : World) (h : Heap), YP w h → (K w.params).In h)
    (F : ∀ (w : World) (mg : Str → Option Value) (fa : Addr) (h : Heap), (K w.params).In h → h.Ns mainGlobals mg → mg d.name = some (.ref fa) →
      ∃ fd : FuncData, (∀ (s : Shared) (u : Value), BindsTo s fd ⟨[u], []⟩ [("_law_script", u)]) ∧ ∀ base : Heap, (K w.params).In base → base.Ns mainGlobals mg → FnOk l.prog w (K w.params) mg base CX0 8 fa fd ["_law_script"] (sp_law (K w.params))) :
    PySem.W.WalkO q loose XP YP l.row.toRowW d [] (fun f vs => PySem.call f vs) :=
  L2.walk_of (n := 63) (k := 8) (x := "_law_script") (CX := fun _ => CX0) (sp := fun w => sp_law (K w.params)) hn (by decide) hdf ⟨rfl, by decide, by decide⟩ hY F (fun _ _ a ns hl _ hS => ⟨a, ns, rfl, hl, Hd.one hS, fun _ => rfl⟩) fun _ _ _ _ _ z => z
end My
open PySem PySem.W PyProof.Rows in
set_option maxRecDepth 100000 in
set_option maxHeartbeats 0 in
theorem PySem.Challenge.cw_keelroom_k45_whole_behind_any_stop_holds : PySem.Challenge.rw_keelroom_k45_whole_behind_any_stop.Holds := by
  w_on; o_law; k_head; (case hw => w_witness2)
  k_fill
  refine My.walk (l := PySem.Challenge.rw_keelroom_k45_whole_behind_any_stop) rfl rfl (fun w h Y => PySem.W.kIn_of Y) ?F
  case F =>
    intro w mg fa h KX G hmg
    refine' My.all_mk KX G hmg ?h1_Disk ?h2_Disk ?h3_Disk ?h4_Disk ?h5_Disk ?h6_Disk ?h7_Disk ?n_Disk_written ?n_Disk_tally ?n_Disk_spare ?h1_File ?h2_File ?h3_File ?h4_File ?h5_File ?h6_File ?h7_File ?n_File_title ?n_File_holders ?n_File_content ?n_File_loans ?h1_Files ?h2_Files ?h3_Files ?h4_Files ?h5_Files ?h6_Files ?h7_Files ?n_Files_bag ?n_Files_loose ?n_Files_known ?n_Files_titled ?n_Files_newest ?gx_NoWord ?gx_BadSize ?gx_Full ?gx_NoName ?gx_NoSpace ?gx_TooLong ?gx_NoFile ?g_is_whole ?l_is_whole ?c_is_whole ?k_is_whole ?g_is_among ?l_is_among ?c_is_among ?k_is_among ?g_is_word ?l_is_word ?c_is_word ?k_is_word ?g_need_word ?l_need_word ?c_need_word ?k_need_word ?g_wrapped ?l_wrapped ?c_wrapped ?k_wrapped ?g_Disk_init ?i_Disk_init ?l_Disk_init ?c_Disk_init ?k_Disk_init ?g_Disk_block ?i_Disk_block ?l_Disk_block ?c_Disk_block ?k_Disk_block ?g_Disk_write ?i_Disk_write ?l_Disk_write ?c_Disk_write ?k_Disk_write ?g_Disk_stop ?i_Disk_stop ?l_Disk_stop ?c_Disk_stop ?k_Disk_stop ?g_Disk_go ?i_Disk_go ?l_Disk_go ?c_Disk_go ?k_Disk_go ?g_Disk_writes ?i_Disk_writes ?l_Disk_writes ?c_Disk_writes ?k_Disk_writes ?g_words_of ?l_words_of ?c_words_of ?k_words_of ?g_sure ?l_sure ?c_sure ?k_sure ?g_rise ?l_rise ?c_rise ?k_rise ?g_blocks_for ?l_blocks_for ?c_blocks_for ?k_blocks_for ?g_File_init ?i_File_init ?l_File_init ?c_File_init ?k_File_init ?g_Files_init ?i_Files_init ?l_Files_init ?c_Files_init ?k_Files_init ?g_Files_many ?i_Files_many ?l_Files_many ?c_Files_many ?k_Files_many ?g_Files_names ?i_Files_names ?l_Files_names ?c_Files_names ?k_Files_names ?g_Files_file_of ?i_Files_file_of ?l_Files_file_of ?c_Files_file_of ?k_Files_file_of ?g_Files_make ?i_Files_make ?l_Files_make ?c_Files_make ?k_Files_make ?g_Files_remove ?i_Files_remove ?l_Files_remove ?c_Files_remove ?k_Files_remove ?g_Files_go_idle ?i_Files_go_idle ?l_Files_go_idle ?c_Files_go_idle ?k_Files_go_idle ?g_Files_give_back ?i_Files_give_back ?l_Files_give_back ?c_Files_give_back ?k_Files_give_back ?g_Files_files ?i_Files_files ?l_Files_files ?c_Files_files ?k_Files_files ?g_Files_found ?i_Files_found ?l_Files_found ?c_Files_found ?k_Files_found ?g_Files_name ?i_Files_name ?l_Files_name ?c_Files_name ?k_Files_name ?g_Files_hold ?i_Files_hold ?l_Files_hold ?c_Files_hold ?k_Files_hold ?g_Files_held ?i_Files_held ?l_Files_held ?c_Files_held ?k_Files_held ?g_Files_length ?i_Files_length ?l_Files_length ?c_Files_length ?k_Files_length ?g_Files_read ?i_Files_read ?l_Files_read ?c_Files_read ?k_Files_read ?g_Files_put ?i_Files_put ?l_Files_put ?c_Files_put ?k_Files_put ?g_Files_cut ?i_Files_cut ?l_Files_cut ?c_Files_cut ?k_Files_cut ?g_Files_blocks ?i_Files_blocks ?l_Files_blocks ?c_Files_blocks ?k_Files_blocks ?g_Files_free ?i_Files_free ?l_Files_free ?c_Files_free ?k_Files_free ?g_law_cell_at ?l_law_cell_at ?c_law_cell_at ?k_law_cell_at ?g_law_mixed ?l_law_mixed ?c_law_mixed ?k_law_mixed ?g_law_row ?l_law_row ?c_law_row ?k_law_row ?g_law_next ?l_law_next ?c_law_next ?k_law_next ?g_law_wants ?l_law_wants ?c_law_wants ?k_law_wants ?g_law_deed ?l_law_deed ?c_law_deed ?k_law_deed ?g_law_told ?l_law_told ?c_law_told ?k_law_told ?g_law_stopped ?l_law_stopped ?c_law_stopped ?k_law_stopped ?g_law ?l_law ?c_law ?k_law ?g_BLOCK_disk ?g_BLOCK_files ?g_FIRSTS ?l_FIRSTS ?g_LEAST_BLOCKS ?g_MOST_BLOCKS ?g_MOST_NAMES ?g_MOST_WORDS ?g_WORDS ?n_bool ?n_int ?n_isinstance ?n_len ?n_list ?n_max ?n_range ?n_sorted ?n_sum ?n_tuple
    (case h1_Disk => k_is)
    (case h2_Disk => k_is)
    (case h3_Disk => k_is)
    (case h4_Disk => k_is)
    (case h5_Disk => k_is)
    (case h6_Disk => k_is)
    (case h7_Disk => k_is)
    (case n_Disk_written => k_is)
    (case n_Disk_tally => k_is)
    (case n_Disk_spare => k_is)
    (case h1_File => k_is)
    (case h2_File => k_is)
    (case h3_File => k_is)
    (case h4_File => k_is)
    (case h5_File => k_is)
    (case h6_File => k_is)
    (case h7_File => k_is)
    (case n_File_title => k_is)
    (case n_File_holders => k_is)
    (case n_File_content => k_is)
    (case n_File_loans => k_is)
    (case h1_Files => k_is)
    (case h2_Files => k_is)
    (case h3_Files => k_is)
    (case h4_Files => k_is)
    (case h5_Files => k_is)
    (case h6_Files => k_is)
    (case h7_Files => k_is)
    (case n_Files_bag => k_is)
    (case n_Files_loose => k_is)
    (case n_Files_known => k_is)
    (case n_Files_titled => k_is)
    (case n_Files_newest => k_is)
    (case gx_NoWord => k_is)
    (case gx_BadSize => k_is)
    (case gx_Full => k_is)
    (case gx_NoName => k_is)
    (case gx_NoSpace => k_is)
    (case gx_TooLong => k_is)
    (case gx_NoFile => k_is)
    (case g_is_whole => k_is)
    (case l_is_whole => k_is)
    (case c_is_whole => k_is)
    (case k_is_whole => k_is)
    (case g_is_among => k_is)
    (case l_is_among => k_is)
    (case c_is_among => k_is)
    (case k_is_among => k_is)
    (case g_is_word => k_is)
    (case l_is_word => k_is)
    (case c_is_word => k_is)
    (case k_is_word => k_is)
    (case g_need_word => k_is)
    (case l_need_word => k_is)
    (case c_need_word => k_is)
    (case k_need_word => k_is)
    (case g_wrapped => k_is)
    (case l_wrapped => k_is)
    (case c_wrapped => k_is)
    (case k_wrapped => k_is)
    (case g_Disk_init => k_is)
    (case i_Disk_init => k_is)
    (case l_Disk_init => k_is)
    (case c_Disk_init => k_is)
    (case k_Disk_init => k_is)
    (case g_Disk_block => k_is)
    (case i_Disk_block => k_is)
    (case l_Disk_block => k_is)
    (case c_Disk_block => k_is)
    (case k_Disk_block => k_is)
    (case g_Disk_write => k_is)
    (case i_Disk_write => k_is)
    (case l_Disk_write => k_is)
    (case c_Disk_write => k_is)
    (case k_Disk_write => k_is)
    (case g_Disk_stop => k_is)
    (case i_Disk_stop => k_is)
    (case l_Disk_stop => k_is)
    (case c_Disk_stop => k_is)
    (case k_Disk_stop => k_is)
    (case g_Disk_go => k_is)
    (case i_Disk_go => k_is)
    (case l_Disk_go => k_is)
    (case c_Disk_go => k_is)
    (case k_Disk_go => k_is)
    (case g_Disk_writes => k_is)
    (case i_Disk_writes => k_is)
    (case l_Disk_writes => k_is)
    (case c_Disk_writes => k_is)
    (case k_Disk_writes => k_is)
    (case g_words_of => k_is)
    (case l_words_of => k_is)
    (case c_words_of => k_is)
    (case k_words_of => k_is)
    (case g_sure => k_is)
    (case l_sure => k_is)
    (case c_sure => k_is)
    (case k_sure => k_is)
    (case g_rise => k_is)
    (case l_rise => k_is)
    (case c_rise => k_is)
    (case k_rise => k_is)
    (case g_blocks_for => k_is)
    (case l_blocks_for => k_is)
    (case c_blocks_for => k_is)
    (case k_blocks_for => k_is)
    (case g_File_init => k_is)
    (case i_File_init => k_is)
    (case l_File_init => k_is)
    (case c_File_init => k_is)
    (case k_File_init => k_is)
    (case g_Files_init => k_is)
    (case i_Files_init => k_is)
    (case l_Files_init => k_is)
    (case c_Files_init => k_is)
    (case k_Files_init => k_is)
    (case g_Files_many => k_is)
    (case i_Files_many => k_is)
    (case l_Files_many => k_is)
    (case c_Files_many => k_is)
    (case k_Files_many => k_is)
    (case g_Files_names => k_is)
    (case i_Files_names => k_is)
    (case l_Files_names => k_is)
    (case c_Files_names => k_is)
    (case k_Files_names => k_is)
    (case g_Files_file_of => k_is)
    (case i_Files_file_of => k_is)
    (case l_Files_file_of => k_is)
    (case c_Files_file_of => k_is)
    (case k_Files_file_of => k_is)
    (case g_Files_make => k_is)
    (case i_Files_make => k_is)
    (case l_Files_make => k_is)
    (case c_Files_make => k_is)
    (case k_Files_make => k_is)
    (case g_Files_remove => k_is)
    (case i_Files_remove => k_is)
    (case l_Files_remove => k_is)
    (case c_Files_remove => k_is)
    (case k_Files_remove => k_is)
    (case g_Files_go_idle => k_is)
    (case i_Files_go_idle => k_is)
    (case l_Files_go_idle => k_is)
    (case c_Files_go_idle => k_is)
    (case k_Files_go_idle => k_is)
    (case g_Files_give_back => k_is)
    (case i_Files_give_back => k_is)
    (case l_Files_give_back => k_is)
    (case c_Files_give_back => k_is)
    (case k_Files_give_back => k_is)
    (case g_Files_files => k_is)
    (case i_Files_files => k_is)
    (case l_Files_files => k_is)
    (case c_Files_files => k_is)
    (case k_Files_files => k_is)
    (case g_Files_found => k_is)
    (case i_Files_found => k_is)
    (case l_Files_found => k_is)
    (case c_Files_found => k_is)
    (case k_Files_found => k_is)
    (case g_Files_name => k_is)
    (case i_Files_name => k_is)
    (case l_Files_name => k_is)
    (case c_Files_name => k_is)
    (case k_Files_name => k_is)
    (case g_Files_hold => k_is)
    (case i_Files_hold => k_is)
    (case l_Files_hold => k_is)
    (case c_Files_hold => k_is)
    (case k_Files_hold => k_is)
    (case g_Files_held => k_is)
    (case i_Files_held => k_is)
    (case l_Files_held => k_is)
    (case c_Files_held => k_is)
    (case k_Files_held => k_is)
    (case g_Files_length => k_is)
    (case i_Files_length => k_is)
    (case l_Files_length => k_is)
    (case c_Files_length => k_is)
    (case k_Files_length => k_is)
    (case g_Files_read => k_is)
    (case i_Files_read => k_is)
    (case l_Files_read => k_is)
    (case c_Files_read => k_is)
    (case k_Files_read => k_is)
    (case g_Files_put => k_is)
    (case i_Files_put => k_is)
    (case l_Files_put => k_is)
    (case c_Files_put => k_is)
    (case k_Files_put => k_is)
    (case g_Files_cut => k_is)
    (case i_Files_cut => k_is)
    (case l_Files_cut => k_is)
    (case c_Files_cut => k_is)
    (case k_Files_cut => k_is)
    (case g_Files_blocks => k_is)
    (case i_Files_blocks => k_is)
    (case l_Files_blocks => k_is)
    (case c_Files_blocks => k_is)
    (case k_Files_blocks => k_is)
    (case g_Files_free => k_is)
    (case i_Files_free => k_is)
    (case l_Files_free => k_is)
    (case c_Files_free => k_is)
    (case k_Files_free => k_is)
    (case g_law_cell_at => k_is)
    (case l_law_cell_at => k_is)
    (case c_law_cell_at => k_is)
    (case k_law_cell_at => k_is)
    (case g_law_mixed => k_is)
    (case l_law_mixed => k_is)
    (case c_law_mixed => k_is)
    (case k_law_mixed => k_is)
    (case g_law_row => k_is)
    (case l_law_row => k_is)
    (case c_law_row => k_is)
    (case k_law_row => k_is)
    (case g_law_next => k_is)
    (case l_law_next => k_is)
    (case c_law_next => k_is)
    (case k_law_next => k_is)
    (case g_law_wants => k_is)
    (case l_law_wants => k_is)
    (case c_law_wants => k_is)
    (case k_law_wants => k_is)
    (case g_law_deed => k_is)
    (case l_law_deed => k_is)
    (case c_law_deed => k_is)
    (case k_law_deed => k_is)
    (case g_law_told => k_is)
    (case l_law_told => k_is)
    (case c_law_told => k_is)
    (case k_law_told => k_is)
    (case g_law_stopped => k_is)
    (case l_law_stopped => k_is)
    (case c_law_stopped => k_is)
    (case k_law_stopped => k_is)
    (case g_law => k_is)
    (case l_law => k_is)
    (case c_law => k_is)
    (case k_law => k_is)
    (case g_BLOCK_disk => k_is)
    (case g_BLOCK_files => k_is)
    (case g_FIRSTS => k_is)
    (case l_FIRSTS => k_is)
    (case g_LEAST_BLOCKS => k_is)
    (case g_MOST_BLOCKS => k_is)
    (case g_MOST_NAMES => k_is)
    (case g_MOST_WORDS => k_is)
    (case g_WORDS => k_is)
    (case n_bool => k_is)
    (case n_int => k_is)
    (case n_isinstance => k_is)
    (case n_len => k_is)
    (case n_list => k_is)
    (case n_max => k_is)
    (case n_range => k_is)
    (case n_sorted => k_is)
    (case n_sum => k_is)
    (case n_tuple => k_is)
#print axioms PySem.Challenge.cw_keelroom_k45_whole_behind_any_stop_holds
