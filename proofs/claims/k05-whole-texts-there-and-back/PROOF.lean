import PyProof.Rows.All
import Wide.All
import OpenK.AllK
import Wide.FinOn
import PyProof.SumWalkG
import PyProof.ReprRoads
import PyProof.ReprLen
import HandS.ForMost
import HandS.Walk
import HandS.Flow
import HandS.IsInst
import HandS.Conv
import HandS.Zip
import HandS.SetFor
import HandS.SortInts
import HandS.ListItems
import HandS.TupAny
import HandS.TupMul
import HandS.Wide
import HandS.More
import HandS.ForExc
import HandS.ExcIs
import HandS.Style
import PySem.Challenge.RW_keelroom_k05_whole_texts_there_and_back
import HandS.DictEq
import HandS.Exc
import HandS.ExcOwn
import HandS.WordsExc
import PyProof.ZipIter
import PyProof.StrLoop
import PyProof.Draws
import HandS.Zip0
import HandS.Iter
import HandS.TryMany
import HandS.Replace
import PyProof.DictUpdate
import HandS.Dict
import HandS.Text
import HandS.List
import HandS.RaiseMore
import KE.KxText
import PyProof.StrOps2
set_option Elab.async false
set_option maxRecDepth 100000
set_option maxHeartbeats 1000000
set_option linter.unusedVariables false
set_option maxRecDepth 100000
namespace Sl
open PySem L2

/-! ### heaps in pieces -/
abbrev SA := Hp → Prop
def Imm : HO → Prop
  | .tup _ => True
  | _ => False
def Cmp (H1 H2 : Hp) : Prop := ∀ a o1 o2, H1 a = some o1 → H2 a = some o2 → o1 = o2 ∧ Imm o1
def Sub (H1 H2 : Hp) : Prop := ∀ a o, H1 a = some o → H2 a = some o
theorem Sub.refl (H : Hp) : Sub H H := fun _ _ h => h
theorem Sub.trans {H1 H2 H3 : Hp} (a : Sub H1 H2) (b : Sub H2 H3) : Sub H1 H3 := fun x o h => b x o (a x o h)
theorem Cmp.symm {H1 H2 : Hp} (c : Cmp H1 H2) : Cmp H2 H1 := fun a o1 o2 h1 h2 => by
  obtain ⟨e, i⟩ := c a o2 o1 h2 h1
  subst e
  exact ⟨rfl, i⟩
theorem Cmp.sub {H1 H2 G1 G2 : Hp} (c : Cmp H1 H2) (a : Sub G1 H1) (b : Sub G2 H2) : Cmp G1 G2 := fun x o1 o2 h1 h2 => c x o1 o2 (a x o1 h1) (b x o2 h2)
def uni (H1 H2 : Hp) : Hp := fun a => match H1 a with
  | some o => some o
  | none => H2 a
theorem uni_l (H1 H2 : Hp) : Sub H1 (uni H1 H2) := fun a o h => by
  unfold uni
  rw [h]
theorem uni_r {H1 H2 : Hp} (c : Cmp H1 H2) : Sub H2 (uni H1 H2) := fun a o h => by
  unfold uni
  cases e : H1 a with
  | none => exact h
  | some o1 =>
    obtain ⟨e2, _⟩ := c a o1 o e h
    rw [e2]
theorem uni_or {H1 H2 : Hp} {a : Addr} {o : HO} (h : uni H1 H2 a = some o) : H1 a = some o ∨ H2 a = some o := by
  unfold uni at h
  cases e : H1 a with
  | none =>
    rw [e] at h
    exact .inr h
  | some o1 =>
    rw [e] at h
    exact .inl h
theorem uni_sub {H1 H2 H : Hp} (a : Sub H1 H) (b : Sub H2 H) : Sub (uni H1 H2) H := fun x o h => (uni_or h).elim (a x o) (b x o)
theorem uni_cmp {H1 H2 H : Hp} (a : Cmp H H1) (b : Cmp H H2) : Cmp H (uni H1 H2) := fun x o1 o2 h1 h2 => (uni_or h2).elim (a x o1 o2 h1) (b x o1 o2 h1)

/-- the heap bears these, each in a piece of its own (tuples may be shared), and more -/
def Hd : List SA → Hp → Prop
  | [], _ => True
  | A :: L, H => ∃ H1 H2, Cmp H1 H2 ∧ Sub H1 H ∧ Sub H2 H ∧ A H1 ∧ Hd L H2
theorem Hd.up {H H' : Hp} : ∀ {L : List SA}, Sub H H' → Hd L H → Hd L H'
  | [], _, _ => trivial
  | _ :: _, s, ⟨H1, H2, c, a, b, p, q⟩ => ⟨H1, H2, c, a.trans s, b.trans s, p, q⟩
theorem Hd.tl {A : SA} {L : List SA} {H : Hp} (h : Hd (A :: L) H) : Hd L H := by
  obtain ⟨H1, H2, _, _, b, _, q⟩ := h
  exact q.up b
theorem Hd.mono {A : SA} {L L' : List SA} {H : Hp} (h : Hd (A :: L) H) (f : ∀ H, Hd L H → Hd L' H) : Hd (A :: L') H := by
  obtain ⟨H1, H2, c, a, b, p, q⟩ := h
  exact ⟨H1, H2, c, a, b, p, f _ q⟩
theorem Hd.imp {A B : SA} {L : List SA} {H : Hp} (h : Hd (A :: L) H) (f : ∀ H, A H → B H) : Hd (B :: L) H := by
  obtain ⟨H1, H2, c, a, b, p, q⟩ := h
  exact ⟨H1, H2, c, a, b, f _ p, q⟩
theorem Hd.swap {A B : SA} {L : List SA} {H : Hp} (h : Hd (A :: B :: L) H) : Hd (B :: A :: L) H := by
  obtain ⟨H1, H2, c, a, b, p, H3, H4, c2, a2, b2, p2, q⟩ := h
  have c13 : Cmp H1 H3 := c.sub (Sub.refl _) a2
  have c14 : Cmp H1 H4 := c.sub (Sub.refl _) b2
  exact ⟨H3, uni H1 H4, uni_cmp c13.symm c2, a2.trans b, uni_sub a (b2.trans b), p2, H1, H4, c14, uni_l _ _, uni_r c14, p, q⟩
/-- A stands in L, the others are L' -/
inductive Pull : SA → List SA → List SA → Prop
  | here {A : SA} {L : List SA} : Pull A (A :: L) L
  | there {A B : SA} {L L' : List SA} : Pull A L L' → Pull A (B :: L) (B :: L')
theorem Hd.pull {A : SA} {L L' : List SA} (p : Pull A L L') : ∀ {H : Hp}, Hd L H → Hd (A :: L') H := by
  induction p with
  | here => exact fun h => h
  | there _ ih => exact fun h => (h.mono fun _ => ih).swap
theorem Hd.push {A : SA} {L L' : List SA} (p : Pull A L L') : ∀ {H : Hp}, Hd (A :: L') H → Hd L H := by
  induction p with
  | here => exact fun h => h
  | there _ ih => exact fun h => h.swap.mono fun _ => ih
/-- A in L is exchanged for B -/
inductive Put : SA → SA → List SA → List SA → Prop
  | here {A B : SA} {L : List SA} : Put A B (A :: L) (B :: L)
  | there {A B C : SA} {L L' : List SA} : Put A B L L' → Put A B (C :: L) (C :: L')
theorem Put.pulls {A B : SA} {L L' : List SA} (p : Put A B L L') : ∃ M, Pull A L M ∧ Pull B L' M := by
  induction p with
  | here => exact ⟨_, .here, .here⟩
  | there _ ih =>
    obtain ⟨M, a, b⟩ := ih
    exact ⟨_, .there a, .there b⟩
/-- L bears M (in any order; more in L is let fall) -/
inductive Mt : List SA → List SA → Prop
  | nil {L : List SA} : Mt [] L
  | refl {L : List SA} : Mt L L
  | cons {A : SA} {L L' M : List SA} : Pull A L L' → Mt M L' → Mt (A :: M) L
  | drop {A : SA} {L M : List SA} : Mt M L → Mt M (A :: L)
theorem Hd.mt {M L : List SA} (m : Mt M L) : ∀ {H : Hp}, Hd L H → Hd M H := by
  induction m with
  | nil => exact fun _ => trivial
  | refl => exact fun h => h
  | cons p _ ih => exact fun h => (h.pull p).mono fun _ => ih
  | drop _ ih => exact fun h => ih h.tl

/-! ### what stands at an address -/
def pto (a : Addr) (o : HO) : SA := fun H => H a = some o
theorem Hd.get {a : Addr} {o : HO} {L L' : List SA} {H : Hp} (h : Hd L H) (p : Pull (pto a o) L L') : H a = some o := by
  obtain ⟨H1, H2, _, s, _, e, _⟩ := h.pull p
  exact s a o e
def one (a : Addr) (o : HO) : Hp := fun b => if b = a then some o else none
theorem one_at {a : Addr} {o : HO} : one a o a = some o := if_pos rfl
theorem of_one {a b : Addr} {o u : HO} (h : one a o b = some u) : b = a ∧ u = o := by
  unfold one at h
  split at h
  · rename_i e
    exact ⟨e, (Option.some.inj h).symm⟩
  · cases h
theorem one_cmp {a : Addr} {o : HO} {H : Hp} (n : H a = none) : Cmp (one a o) H := fun b o1 o2 h1 h2 => by
  obtain ⟨rfl, rfl⟩ := of_one h1
  rw [n] at h2
  cases h2
theorem one_sub {a : Addr} {o : HO} {H : Hp} (n : H a = some o) : Sub (one a o) H := fun b u h => by
  obtain ⟨rfl, rfl⟩ := of_one h
  exact n
theorem Hd.new {a : Addr} {o : HO} {L : List SA} {H : Hp} (h : Hd L H) (n : H a = none) : Hd (pto a o :: L) (upd H a o) :=
  ⟨one a o, H, one_cmp n, one_sub upd_same, fun b u e => by
    rw [upd_ne (ne_of_none e n)]
    exact e, one_at, h⟩
theorem Hd.set {a : Addr} {o o' : HO} {L L' : List SA} {H : Hp} (h : Hd L H) (p : Put (pto a o) (pto a o') L L') (m : ¬ Imm o) : Hd L' (upd H a o') := by
  obtain ⟨M, pa, pb⟩ := p.pulls
  refine Hd.push pb ?_
  obtain ⟨H1, H2, c, s1, s2, e, q⟩ := h.pull pa
  have n : H2 a = none := by
    cases z : H2 a with
    | none => rfl
    | some u => exact (m (c a o u e z).2).elim
  exact ⟨one a o', H2, one_cmp n, one_sub upd_same, fun b u e => by
    rw [upd_ne (ne_of_none e n)]
    exact s2 _ _ e, one_at, q⟩
/-- a tuple is shared -/
theorem Hd.dup {a : Addr} {xs : List V} {L L' : List SA} {H : Hp} (h : Hd L H) (p : Pull (pto a (.tup xs)) L L') : Hd (pto a (.tup xs) :: L) H :=
  ⟨one a (.tup xs), H, fun b o1 o2 h1 h2 => by
    obtain ⟨rfl, rfl⟩ := of_one h1
    rw [h.get p] at h2
    cases h2
    exact ⟨rfl, trivial⟩, one_sub (h.get p), Sub.refl _, one_at, h⟩
/-- words over pieces -/
theorem Hd.ex {α : Type} {A : α → SA} {L : List SA} {H : Hp} (h : Hd ((fun H => ∃ x, A x H) :: L) H) : ∃ x, Hd (A x :: L) H := by
  obtain ⟨H1, H2, c, s1, s2, ⟨x, e⟩, q⟩ := h
  exact ⟨x, H1, H2, c, s1, s2, e, q⟩
theorem Hd.pure {p : Prop} {A : SA} {L : List SA} {H : Hp} (h : Hd ((fun H => p ∧ A H) :: L) H) : p ∧ Hd (A :: L) H := by
  obtain ⟨H1, H2, c, s1, s2, ⟨x, e⟩, q⟩ := h
  exact ⟨x, H1, H2, c, s1, s2, e, q⟩
theorem Hd.open {M : List SA} : ∀ {L : List SA} {H : Hp}, Hd (Hd M :: L) H → Hd (M ++ L) H := by
  induction M with
  | nil => exact fun h => h.tl
  | cons A M ih =>
    rintro L H ⟨H1, H2, c, s1, s2, ⟨H3, H4, c2, s3, s4, p, q⟩, r⟩
    have c32 := c.sub s3 (Sub.refl _)
    have c42 := c.sub s4 (Sub.refl _)
    exact ⟨H3, uni H4 H2, uni_cmp c2 c32, s3.trans s1, uni_sub (s4.trans s1) s2, p, ih ⟨H4, H2, c42, uni_l _ _, uni_r c42, q, r⟩⟩
theorem Hd.close {M : List SA} : ∀ {L : List SA} {H : Hp}, Hd (M ++ L) H → Hd (Hd M :: L) H := by
  induction M with
  | nil => exact fun {L H} h => ⟨fun _ => none, H, fun _ _ _ h => (nomatch h), fun _ _ h => (nomatch h), Sub.refl _, trivial, h⟩
  | cons A M ih =>
    rintro L H ⟨H1, H2, c, s1, s2, p, q⟩
    obtain ⟨H3, H4, c2, s3, s4, p2, q2⟩ := ih q
    have c13 := c.sub (Sub.refl _) s3
    have c14 := c.sub (Sub.refl _) s4
    exact ⟨uni H1 H3, H4, (uni_cmp c14.symm c2.symm).symm, uni_sub s1 (s3.trans s2), s4.trans s2, ⟨H1, H3, c13, uni_l _ _, uni_r c13, p, p2⟩, q2⟩
/-- a list that is read only -/
def sql (K : PySem.W.Frag) (a : Addr) (xs : List V) : SA := fun H => SqL K H a xs
theorem Hd.sql {K : PySem.W.Frag} {a : Addr} {xs : List V} {L L' : List SA} {H : Hp} (h : Hd L H) (p : Pull (sql K a xs) L L') : SqL K H a xs := by
  obtain ⟨H1, H2, _, s, _, e, _⟩ := h.pull p
  exact Same.seq s e
theorem Hd.sq {K : PySem.W.Frag} {a : Addr} {xs : List V} {L L' : List SA} {H : Hp} (h : Hd L H) (p : Pull (pto a (.lst xs)) L L') : SqL K H a xs := SqL.of (h.get p)
theorem Hd.st {K : PySem.W.Frag} {a : Addr} {xs : List V} {L L' : List SA} {H : Hp} (h : Hd L H) (p : Pull (pto a (.tup xs)) L L') : SqT K H a xs := SqT.of (h.get p)
end Sl

set_option maxRecDepth 100000
set_option maxHeartbeats 1000000
namespace Sl
open PySem L2

/-! ### operators of several kinds at once -/
def rDG : R2 := fun x y H Q => ∃ a v, x = .ref a ∧ DGet H a y (some v) ∧ Q v H
def rDIn (neg : Bool) : R2 := fun y x H Q => ∃ a o, x = .ref a ∧ DGet H a y o ∧ Q (.bl (if neg then !o.isSome else o.isSome)) H
def rAddS : R2 := fun x y H Q => ∃ i j, x = .str i ∧ y = .str j ∧ i.length + j.length ≤ sizeLine ∧ Q (.str (i ++ j)) H
def rAddU (K : PySem.W.Frag) : R2 := fun x y H Q => rI0 (fun i j => .int (i + j)) x y H Q ∨ rCat x y H Q ∨ rAddS x y H Q ∨ rCatA K x y H Q
def rMulU (K : PySem.W.Frag) : R2 := fun x y H Q => rI CMul (fun i j => .int (i * j)) x y H Q ∨ rRep x y H Q ∨ rRepT K x y H Q
def rDivU : R2 := fun x y H Q => rI CDiv (fun i j => .int (i / j)) x y H Q ∨ rI CDivW (fun i j => .int (i / j)) x y H Q
def rEqU (K : PySem.W.Frag) : R2 := fun x y H Q => rEq x y H Q ∨ rEqD K x y H Q
def rNeU (K : PySem.W.Frag) : R2 := fun x y H Q => rNe x y H Q ∨ rNeD K x y H Q
def rInU (K : PySem.W.Frag) (neg : Bool) : R2 := fun x y H Q => rIn K neg x y H Q ∨ rDIn neg x y H Q
def rIxU (K : PySem.W.Frag) : R2 := fun x y H Q => rIx K x y H Q ∨ rDG x y H Q
def rIsN' : R2 := fun x y H Q => y = .non ∧ Q (.bl (decide (x = .non))) H
def rNotN' : R2 := fun x y H Q => y = .non ∧ Q (.bl (!decide (x = .non))) H
section
variable {X : Cx}
theorem u_add : OpR X (binaryOp .Add) (rAddU X.K) := op_add.or (op_cat.or (op_add_str.or op_catA))
theorem u_sub : OpR X (binaryOp .Sub) (rI0 fun i j => .int (i - j)) := op_sub
theorem u_mul : OpR X (binaryOp .Mult) (rMulU X.K) := op_mul.or (op_rep.or op_repT)
theorem u_div : OpR X (binaryOp .FloorDiv) rDivU := op_fdiv.or op_fdivW
theorem u_mod : OpR X (binaryOp .Mod) (rI (fun _ j => 0 < j) fun i j => .int (i % j)) := op_mod
theorem u_pow : OpR X (binaryOp .Pow) (rI CPow fun i j => .int (i ^ j.toNat)) := op_pow
theorem u_eq (hu : X.A.units + 64 < cLine) : OpR X (compareOp .Eq) (rEqU X.K) := op_eq.or (op_eqD hu)
theorem u_ne (hu : X.A.units + 64 < cLine) : OpR X (compareOp .NotEq) (rNeU X.K) := op_ne.or (op_neD hu)
theorem op_dIn (hu : X.A.units + 1 < cLine) : OpR X (compareOp .In) (rDIn false) := by
  intro pins s σ H x y v u Q I rx ry h
  obtain ⟨a, o, rfl, g, q⟩ := h
  cases ry
  exact d_in hu I g rx fun s3 I3 => ⟨.bl o.isSome, H, I3, rfl, q⟩
theorem op_dNotIn (hu : X.A.units + 1 < cLine) : OpR X (compareOp .NotIn) (rDIn true) := by
  intro pins s σ H x y v u Q I rx ry h
  obtain ⟨a, o, rfl, g, q⟩ := h
  cases ry
  exact d_notIn hu I g rx fun s3 I3 => ⟨.bl (!o.isSome), H, I3, rfl, q⟩
theorem u_in (hu : X.A.units + 1 < cLine) : OpR X (compareOp .In) (rInU X.K false) := op_in_seq.or (op_dIn hu)
theorem u_notIn (hu : X.A.units + 1 < cLine) : OpR X (compareOp .NotIn) (rInU X.K true) := op_notIn_seq.or (op_dNotIn hu)
theorem u_isN : OpR X (compareOp .Is) rIsN' := op_isN
theorem u_notN : OpR X (compareOp .IsNot) rNotN' := op_notN
theorem ix_dict (hu : X.A.units + 1 < cLine) : IxR X rDG := by
  intro value slice pins s σ H x y v u Q I rx ry h hs
  obtain ⟨a, w, rfl, g, q⟩ := h
  cases rx
  exact PyProof.Rows.tail_any (dict_typeIs I g) PySem.F.slot_dict_getitem.lookup (d_getItem hu I g ry fun w' s3 I3 rw' => ⟨w, H, I3, rw', q⟩) hs
end
end Sl

set_option maxRecDepth 100000
set_option maxHeartbeats 1000000
namespace Sl
open PySem L2

/-! ### subscripts stored -/
def rSetD : TSet := fun o i v H Q => ∃ a H', o = .ref a ∧ DPut H a i v H' ∧ Q H'
def rSetU : TSet := fun o i v H Q => rSetL o i v H Q ∨ rSetD o i v H Q
section
variable {X : Cx}
theorem set_dict (hu : X.A.units + 1 < cLine) : PSet X rSetD := by
  intro pins s σ H o i v ov iv u Q I ro ri rv h
  obtain ⟨a, H', rfl, g, q⟩ := h
  cases ro
  exact d_setItem hu I g ri rv fun s' I' => ⟨H', I', q⟩
theorem u_set (hu : X.A.units + 1 < cLine) : PSet X rSetU := by
  intro pins s σ H o i v ov iv u Q I ro ri rv h
  rcases h with h | h
  · exact set_list pins s σ H o i v ov iv u Q I ro ri rv h
  · exact set_dict hu pins s σ H o i v ov iv u Q I ro ri rv h
end

/-! ### built-ins, their readings named -/
def rLenU (K : PySem.W.Frag) : List V → Hp → VK → Prop := fun xs H Q => (∃ x n, xs = [x] ∧ LenV K x H n ∧ Q (.int (n : Nat)) H) ∨ ∃ a kvs, xs = [V.ref a] ∧ H a = some (.dK kvs) ∧ Q (.int (kvs.length : Nat)) H
def rAbs : List V → Hp → VK → Prop := fun xs H Q => ∃ i, xs = [.int i] ∧ Q (.int (if i < 0 then -i else i)) H
def rMax2 : List V → Hp → VK → Prop := fun xs H Q => ∃ i j, xs = [.int i, .int j] ∧ Q (.int (if j > i then j else i)) H
def rMin2 : List V → Hp → VK → Prop := fun xs H Q => ∃ i j, xs = [.int i, .int j] ∧ Q (.int (if j < i then j else i)) H
def rInt1 : List V → Hp → VK → Prop := fun xs H Q => (∃ i, xs = [.int i] ∧ Q (.int i) H) ∨ ∃ k, xs = [.bl k] ∧ Q (.int (if k then 1 else 0)) H
def rListOf (K : PySem.W.Frag) : List V → Hp → VK → Prop := fun xs H Q => ∃ p ys, xs = [.ref p] ∧ (SqL K H p ys ∨ SqT K H p ys) ∧ ∀ l, H l = none → Q (.ref l) (upd H l (.lst ys))
def rTupleOf (K : PySem.W.Frag) : List V → Hp → VK → Prop := fun xs H Q => ∃ p ys, xs = [.ref p] ∧ ((SqL K H p ys ∧ ∀ l, H l = none → Q (.ref l) (upd H l (.tup ys))) ∨ (SqT K H p ys ∧ Q (.ref p) H))
def rIsiU (K : PySem.W.Frag) : List V → Hp → VK → Prop := fun xs H Q => rIsi K xs H Q ∨ rIsiT K xs H Q
section
variable {X : Cx}
theorem u_len : CallR X (.builtin "len") (rLenU X.K) := call_len.or call_lenD
theorem u_abs : CallR X (.builtin "abs") rAbs := call_abs
theorem u_max2 (hc : X.calm = true) : CallR X (.builtin "max") rMax2 := call_max2 hc
theorem u_min2 (hc : X.calm = true) : CallR X (.builtin "min") rMin2 := call_min2 hc
theorem u_int1 : CallR X (.type "int") rInt1 := call_int1
theorem u_list : CallR X (.type "list") (rListOf X.K) := call_list_of
theorem u_tuple : CallR X (.type "tuple") (rTupleOf X.K) := call_tuple_of
theorem u_isi : CallR X (.builtin "isinstance") (rIsiU X.K) := call_isi.or call_isiT
theorem u_ix (hu : X.A.units + 1 < cLine) : IxR X (rIxU X.K) := ix_seq.or (ix_dict hu)
end

/-! ### what stands at the leaves of a reading, named -/
def AllocT (Q : VK) (xs : List V) (H : Hp) : Prop := xs.length ≤ sizeLine ∧ ∀ p, H p = none → Q (.ref p) (upd H p (.tup xs))
def AllocL (Q : VK) (xs : List V) (H : Hp) : Prop := xs.length ≤ sizeLine ∧ ∀ p, H p = none → Q (.ref p) (upd H p (.lst xs))
def IsB (QT : Bool → Hp → Prop) (x : V) (H : Hp) : Prop := ∃ k, x = .bl k ∧ QT k H
def AndK (tb : TE) (σ : L2.St) (Q : VK) (x : V) (H : Hp) : Prop := ∃ c, x = .bl c ∧ if c = true then tb σ H Q else Q (.bl false) H
def OrK (tb : TE) (σ : L2.St) (Q : VK) (x : V) (H : Hp) : Prop := ∃ c, x = .bl c ∧ if c = true then Q (.bl true) H else tb σ H Q
def NotK (Q : VK) (x : V) (H : Hp) : Prop := ∃ c, x = .bl c ∧ Q (.bl (!c)) H
def FldK (K : PySem.W.Frag) (f : Str) (Q : VK) (x : V) (H : Hp) : Prop := ∃ a C dx fs v, x = .ref a ∧ H a = some (.ins C dx fs) ∧ Cls K C ∧ NoAttr K C f ∧ fs.lookup f = some v ∧ Q v H
def SFldK (K : PySem.W.Frag) (f : Str) (N : Hp → Prop) (y x : V) (H : Hp) : Prop := ∃ a C dx fs, x = .ref a ∧ H a = some (.ins C dx fs) ∧ Cls K C ∧ NoAttr K C f ∧ fs.length < 1000 ∧ N (upd H a (.ins C dx (putF f y fs)))
def MethK (C : Addr) (m : Str) (R : V → Hp → Prop) (x : V) (H : Hp) : Prop := ∃ a dx fs, x = .ref a ∧ H a = some (.ins C dx fs) ∧ fs.lookup m = none ∧ R x H
def MakeK (C : Addr) (sp : Sp) (dvs : List V) (E : XK) (Q : VK) (vs : List V) (H : Hp) : Prop := ∀ x dx, H x = none → H dx = none → dx ≠ x → sp (.ref x :: (vs ++ dvs)) (upd (upd H dx (.own x)) x (.ins C dx [])) (fun v H2 => v = .non ∧ Q (.ref x) H2) E
def PartK (QO : Option Int → Hp → Prop) (x : V) (H : Hp) : Prop := ∃ i, x = .int i ∧ QO (some i) H
def DispE (p : Addr) (Q : VK) (ps : List (V × V)) (H : Hp) : Prop := H p = some (.dK []) ∧ ∃ kvs : List (Key × V), ps = kvs.map (fun kv => (kV kv.1, kv.2)) ∧ kvs.length ≤ 15 ∧ Q (.ref p) (upd H p (.dK (mergeK [] kvs)))
def GetE1 (a : Addr) (Q : VK) (y : V) (H : Hp) : Prop := ∃ o, DGet H a y o ∧ Q (o.getD .non) H
def GetE2 (a : Addr) (y : V) (Q : VK) (z : V) (H : Hp) : Prop := ∃ o, DGet H a y o ∧ Q (o.getD z) H
def IsDK (R : Addr → Hp → Prop) (x : V) (H : Hp) : Prop := ∃ a, x = .ref a ∧ IsD H a ∧ R a H

/-! ### readings, one construct after the other -/
section
variable {K : PySem.W.Frag} {σ : L2.St} {H : Hp} {D : Ends} {t u tw : TS} {te ta tb tx : TE} {tr : TA} {tt tu : TT} {g : TG} {gs : TGs} {Q : VK} {QA : List V → Hp → Prop} {QT : Bool → Hp → Prop} {v x y : V} {i j k : Int} {b c : Bool} {n : Nat}
  {L L' : List SA} {a p : Addr} {xs ys zs : List V} {r : R2} {N : Hp → Prop}
theorem r_seq (q : t { D with nx := u D } σ H) : tSeq t u D σ H := q
theorem r_next (q : D.nx σ H) : tNext D σ H := q
theorem r_asg (q : te σ H fun x H1 => g x σ H1 D.nx) : tAsg te g D σ H := q
theorem r_gName {QS : L2.St → Hp → Prop} (q : QS (σ.set n (some v)) H) : gName n v σ H QS := q
theorem r_drop (q : te σ H fun _ H1 => D.nx σ H1) : tDrop te D σ H := q
theorem r_ret (q : te σ H D.rt) : tRet te D σ H := q
theorem r_retN (q : D.rt .non H) : tRetN D σ H := q
theorem r_break (q : D.bk σ H) : tBreak D σ H := q
theorem r_cont (q : D.ct σ H) : tCont D σ H := q
theorem r_ifS (q : tt σ H fun b H1 => if b = true then t D σ H1 else u D σ H1) : tIfS tt t u D σ H := q
theorem r_test (q : te σ H (IsB QT)) : tTest te σ H QT := q
theorem r_tB (q : te σ H (IsB QT)) : tB te σ H QT := q
theorem r_isb (q : QT b H) : IsB QT (.bl b) H := ⟨b, rfl, q⟩
theorem r_tAnd (q : tt σ H fun c H1 => if c = true then tu σ H1 QT else QT false H1) : tAnd tt tu σ H QT := q
theorem r_tOr (q : tt σ H fun c H1 => if c = true then QT true H1 else tu σ H1 QT) : tOr tt tu σ H QT := q
theorem r_tNot (q : tt σ H fun c H1 => QT (!c) H1) : tNot tt σ H QT := q
theorem r_var (h : σ[n]? = some (some v)) (q : Q v H) : tVar n σ H Q := ⟨v, h, q⟩
theorem r_c (q : Q v H) : tC v σ H Q := q
theorem r_op (q : ta σ H fun x H1 => tb σ H1 fun y H2 => r x y H2 Q) : tOp r ta tb σ H Q := q
theorem r_un {ru : V → Hp → VK → Prop} (q : ta σ H fun x H1 => ru x H1 Q) : tUn ru ta σ H Q := q
theorem r_rU {f : Int → V} (q : Q (f i) H) : rU f (.int i) H Q := ⟨i, rfl, q⟩
theorem r_andV (q : ta σ H (AndK tb σ Q)) : tAndV ta tb σ H Q := q
theorem r_andK (q : if b = true then tb σ H Q else Q (.bl false) H) : AndK tb σ Q (.bl b) H := ⟨b, rfl, q⟩
theorem r_orV (q : ta σ H (OrK tb σ Q)) : tOrV ta tb σ H Q := q
theorem r_orK (q : if b = true then Q (.bl true) H else tb σ H Q) : OrK tb σ Q (.bl b) H := ⟨b, rfl, q⟩
theorem r_notV (q : ta σ H (NotK Q)) : tNotV ta σ H Q := q
theorem r_notK (q : Q (.bl (!b)) H) : NotK Q (.bl b) H := ⟨b, rfl, q⟩
theorem r_tIf (q : tt σ H fun c H1 => if c = true then ta σ H1 Q else tb σ H1 Q) : tIf tt ta tb σ H Q := q
theorem r_ite {A B : Prop} (h1 : b = true → A) (h2 : b = false → B) : if b = true then A else B := by
  cases b with
  | true => exact h1 rfl
  | false => exact h2 rfl
theorem r_iteD {P A B : Prop} [Decidable P] (h1 : P → A) (h2 : ¬ P → B) : if decide P = true then A else B := ite2 (fun h => h1 (of_decide_eq_true h)) fun h => h2 fun z => h (decide_eq_true z)
theorem r_iteN {P A B : Prop} [Decidable P] (h1 : ¬ P → A) (h2 : P → B) : if (!decide P) = true then A else B := by
  by_cases h : P
  · rw [decide_eq_true h]
    exact iteF (h2 h)
  · rw [decide_eq_false h]
    exact iteT (h1 h)
theorem r_iteB {A B : Prop} (h1 : b = false → A) (h2 : b = true → B) : if (!b) = true then A else B := by
  cases b with
  | true => exact iteF (h2 rfl)
  | false => exact iteT (h1 rfl)
theorem r_iteY {A B : Prop} (h : A) : if true = true then A else B := iteT h
theorem r_iteZ {A B : Prop} (h : B) : if false = true then A else B := iteF h
theorem r_nil (q : QA [] H) : tNil σ H QA := q
theorem r_cons (q : ta σ H fun x H1 => tr σ H1 fun xs H2 => QA (x :: xs) H2) : tCons ta tr σ H QA := q
theorem r_call {sp : Sp} {dvs : List V} {E : XK} (q : tr σ H fun vs H1 => sp (vs ++ dvs) H1 Q E) : tCall sp dvs E tr σ H Q := q
theorem r_cB {rc : List V → Hp → VK → Prop} (q : tr σ H fun vs H1 => rc vs H1 Q) : tCB rc tr σ H Q := q
theorem r_tup (q : tr σ H (AllocT Q)) : tTup tr σ H Q := q
theorem r_lst (q : tr σ H (AllocL Q)) : tLst tr σ H Q := q
theorem r_newT (hs : Hd L H) (hl : xs.length ≤ sizeLine) (q : ∀ p H', Hd (pto p (.tup xs) :: L) H' → Q (.ref p) H') : AllocT Q xs H := ⟨hl, fun p n => q p _ (hs.new n)⟩
theorem r_newL (hs : Hd L H) (hl : xs.length ≤ sizeLine) (q : ∀ p H', Hd (pto p (.lst xs) :: L) H' → Q (.ref p) H') : AllocL Q xs H := ⟨hl, fun p n => q p _ (hs.new n)⟩
/-! #### operators -/
theorem r_I0 {f : Int → Int → V} (q : Q (f i j) H) : rI0 f (.int i) (.int j) H Q := ⟨i, j, rfl, rfl, q⟩
theorem r_I {C : Int → Int → Prop} {f : Int → Int → V} (h : C i j) (q : Q (f i j) H) : rI C f (.int i) (.int j) H Q := ⟨i, j, rfl, rfl, h, q⟩
theorem r_addI (q : Q (.int (i + j)) H) : rAddU K (.int i) (.int j) H Q := .inl ⟨i, j, rfl, rfl, q⟩
theorem r_addL {b : Addr} (hs : Hd L H) (h1 : H a = some (.lst xs)) (h2 : H b = some (.lst ys)) (hl : xs.length + ys.length ≤ sizeLine) (q : ∀ p H', Hd (pto p (.lst (xs ++ ys)) :: L) H' → Q (.ref p) H') : rAddU K (.ref a) (.ref b) H Q :=
  .inr (.inl ⟨a, b, xs, ys, rfl, rfl, h1, h2, hl, fun p n => q p _ (hs.new n)⟩)
theorem r_addS {z w : Str} (h : z.length + w.length ≤ sizeLine) (q : Q (.str (z ++ w)) H) : rAddU K (.str z) (.str w) H Q := .inr (.inr (.inl ⟨z, w, rfl, rfl, h, q⟩))
theorem r_mulI (h : CMul i j) (q : Q (.int (i * j)) H) : rMulU K (.int i) (.int j) H Q := .inl ⟨i, j, rfl, rfl, h, q⟩
theorem r_mulL (hs : Hd L H) (h1 : H a = some (.lst xs)) (h : -(2 ^ 63) ≤ k ∧ k < 2 ^ 63) (hl : xs.length * k.toNat ≤ sizeLine) (q : ∀ p H', Hd (pto p (.lst (List.replicate k.toNat xs).flatten) :: L) H' → Q (.ref p) H') : rMulU K (.ref a) (.int k) H Q :=
  .inr (.inl ⟨a, k, xs, rfl, rfl, h1, h.1, h.2, hl, fun p n => q p _ (hs.new n)⟩)
theorem r_divI (h : 0 < j ∧ j < 1073741824) (q : Q (.int (i / j)) H) : rDivU (.int i) (.int j) H Q := .inl ⟨i, j, rfl, rfl, h, q⟩
theorem r_divW (h : 0 < j ∧ j.natAbs.log2 < 9000) (q : Q (.int (i / j)) H) : rDivU (.int i) (.int j) H Q := .inr ⟨i, j, rfl, rfl, h, q⟩
theorem r_modI (h : 0 < j) (q : Q (.int (i % j)) H) : rI (fun _ j => 0 < j) (fun i j => .int (i % j)) (.int i) (.int j) H Q := ⟨i, j, rfl, rfl, h, q⟩
theorem r_eqI (q : Q (.bl (decide (i = j))) H) : rEqU K (.int i) (.int j) H Q := .inl ⟨rfl, by
  have e : decide (V.int i = V.int j) = decide (i = j) := by simp
  rw [e]
  exact q⟩
theorem r_neI (q : Q (.bl (!decide (i = j))) H) : rNeU K (.int i) (.int j) H Q := .inl ⟨rfl, by
  have e : decide (V.int i = V.int j) = decide (i = j) := by simp
  rw [e]
  exact q⟩
theorem r_eqS {z w : Str} (q : Q (.bl (decide (z = w))) H) : rEqU K (.str z) (.str w) H Q := .inl ⟨rfl, by
  have e : decide (V.str z = V.str w) = decide (z = w) := by simp
  rw [e]
  exact q⟩
theorem r_neS {z w : Str} (q : Q (.bl (!decide (z = w))) H) : rNeU K (.str z) (.str w) H Q := .inl ⟨rfl, by
  have e : decide (V.str z = V.str w) = decide (z = w) := by simp
  rw [e]
  exact q⟩
theorem r_eqB (q : Q (.bl (decide (b = c))) H) : rEqU K (.bl b) (.bl c) H Q := .inl ⟨rfl, by
  have e : decide (V.bl b = V.bl c) = decide (b = c) := by simp
  rw [e]
  exact q⟩
theorem r_neB (q : Q (.bl (!decide (b = c))) H) : rNeU K (.bl b) (.bl c) H Q := .inl ⟨rfl, by
  have e : decide (V.bl b = V.bl c) = decide (b = c) := by simp
  rw [e]
  exact q⟩
theorem r_eqV (h : scal x y = true) (q : Q (.bl (decide (x = y))) H) : rEqU K x y H Q := .inl ⟨h, q⟩
theorem r_neV (h : scal x y = true) (q : Q (.bl (!decide (x = y))) H) : rNeU K x y H Q := .inl ⟨h, q⟩
theorem r_eqD {d e : PyData} (h1 : Dp K H x d) (h2 : Dp K H y e) (s1 : SeqAt.shaped d = true) (s2 : SeqAt.shaped e = true) (q : Q (.bl (PyData.eqv d e)) H) : rEqU K x y H Q := .inr ⟨d, e, h1, h2, s1, s2, q⟩
theorem r_neD {d e : PyData} (h1 : Dp K H x d) (h2 : Dp K H y e) (s1 : SeqAt.shaped d = true) (s2 : SeqAt.shaped e = true) (q : Q (.bl (!PyData.eqv d e)) H) : rNeU K x y H Q := .inr ⟨d, e, h1, h2, s1, s2, q⟩
theorem r_isN (q : Q (.bl (decide (x = .non))) H) : rIsN' x .non H Q := ⟨rfl, q⟩
theorem r_notN (q : Q (.bl (!decide (x = .non))) H) : rNotN' x .non H Q := ⟨rfl, q⟩
theorem r_inL (h : SqL K H a xs) (h1 : flatV x = true) (h2 : xs.all flatV = true) (q : Q (.bl (inV x xs)) H) : rInU K false x (.ref a) H Q := .inl ⟨a, xs, rfl, .inl h, h1, h2, q⟩
theorem r_inT (h : SqT K H a xs) (h1 : flatV x = true) (h2 : xs.all flatV = true) (q : Q (.bl (inV x xs)) H) : rInU K false x (.ref a) H Q := .inl ⟨a, xs, rfl, .inr h, h1, h2, q⟩
theorem r_niL (h : SqL K H a xs) (h1 : flatV x = true) (h2 : xs.all flatV = true) (q : Q (.bl (!inV x xs)) H) : rInU K true x (.ref a) H Q := .inl ⟨a, xs, rfl, .inl h, h1, h2, q⟩
theorem r_niT (h : SqT K H a xs) (h1 : flatV x = true) (h2 : xs.all flatV = true) (q : Q (.bl (!inV x xs)) H) : rInU K true x (.ref a) H Q := .inl ⟨a, xs, rfl, .inr h, h1, h2, q⟩
theorem r_inDi {kvs : List (Key × V)} (h : H a = some (.dK kvs)) (q : Q (.bl (valV kvs (.inl i)).isSome) H) : rInU K false (.int i) (.ref a) H Q := .inr ⟨a, _, rfl, DGet.k (k := .inl i) h, q⟩
theorem r_niDi {kvs : List (Key × V)} (h : H a = some (.dK kvs)) (q : Q (.bl (!(valV kvs (.inl i)).isSome)) H) : rInU K true (.int i) (.ref a) H Q := .inr ⟨a, _, rfl, DGet.k (k := .inl i) h, q⟩
theorem r_inDs {z : Str} {kvs : List (Key × V)} (h : H a = some (.dK kvs)) (q : Q (.bl (valV kvs (.inr z)).isSome) H) : rInU K false (.str z) (.ref a) H Q := .inr ⟨a, _, rfl, DGet.k (k := .inr z) h, q⟩
theorem r_niDs {z : Str} {kvs : List (Key × V)} (h : H a = some (.dK kvs)) (q : Q (.bl (!(valV kvs (.inr z)).isSome)) H) : rInU K true (.str z) (.ref a) H Q := .inr ⟨a, _, rfl, DGet.k (k := .inr z) h, q⟩
theorem r_ixL (h : SqL K H a xs) (hi : atI xs i = some v) (q : Q v H) : rIxU K (.ref a) (.int i) H Q := .inl (.inl ⟨a, xs, i, v, rfl, rfl, h, hi, q⟩)
theorem r_ixT (h : SqT K H a xs) (hi : atI xs i = some v) (q : Q v H) : rIxU K (.ref a) (.int i) H Q := .inl (.inr (.inl ⟨a, xs, i, v, rfl, rfl, h, hi, q⟩))
theorem r_ixDi {kvs : List (Key × V)} (h : H a = some (.dK kvs)) (hi : valV kvs (.inl i) = some v) (q : Q v H) : rIxU K (.ref a) (.int i) H Q := .inr ⟨a, v, rfl, by
  have g := DGet.k (k := .inl i) h
  rw [hi] at g
  exact g, q⟩
theorem r_ixDs {z : Str} {kvs : List (Key × V)} (h : H a = some (.dK kvs)) (hi : valV kvs (.inr z) = some v) (q : Q v H) : rIxU K (.ref a) (.str z) H Q := .inr ⟨a, v, rfl, by
  have g := DGet.k (k := .inr z) h
  rw [hi] at g
  exact g, q⟩
/-! #### what is stored at a subscript -/
theorem r_gSub {QS : L2.St → Hp → Prop} {ts : TSet} (q : ta σ H fun o H1 => tb σ H1 fun i H2 => ts o i v H2 fun H3 => QS σ H3) : gSub ta tb ts v σ H QS := q
theorem r_setL {QH : Hp → Prop} (hs : Hd L H) (p : Put (pto a (.lst xs)) (pto a (.lst (xs.set n v))) L L') (hn : n < xs.length) (q : ∀ H', Hd L' H' → QH H') : rSetU (.ref a) (.int (n : Int)) v H QH := by
  obtain ⟨M, pa, _⟩ := p.pulls
  refine .inl ⟨a, xs, (n : Int), n, rfl, rfl, hs.get pa, ?_, q _ (hs.set p (fun z => z))⟩
  unfold ixN
  rw [if_pos (Int.natCast_nonneg n), if_pos (by omega), Int.toNat_natCast]
theorem r_setDi {QH : Hp → Prop} {kvs kvs' : List (Key × V)} (hs : Hd L H) (p : Put (pto a (.dK kvs)) (pto a (.dK kvs')) L L') (e : putK kvs (.inl i) v = kvs') (hl : kvs.length < sizeLine) (q : ∀ H', Hd L' H' → QH H') : rSetU (.ref a) (.int i) v H QH := by
  obtain ⟨M, pa, _⟩ := p.pulls
  subst e
  exact .inr ⟨a, _, rfl, DPut.k (k := .inl i) (hs.get pa) hl, q _ (hs.set p (fun z => z))⟩
theorem r_setDs {QH : Hp → Prop} {z : Str} {kvs kvs' : List (Key × V)} (hs : Hd L H) (p : Put (pto a (.dK kvs)) (pto a (.dK kvs')) L L') (e : putK kvs (.inr z) v = kvs') (hl : kvs.length < sizeLine) (q : ∀ H', Hd L' H' → QH H') : rSetU (.ref a) (.str z) v H QH := by
  obtain ⟨M, pa, _⟩ := p.pulls
  subst e
  exact .inr ⟨a, _, rfl, DPut.k (k := .inr z) (hs.get pa) hl, q _ (hs.set p (fun z => z))⟩
/-! #### fields -/
theorem r_fld {f : Str} (q : ta σ H (FldK K f Q)) : tFld K ta f σ H Q := q
theorem r_fldK {C dx : Addr} {fs : List (Str × V)} {f : Str} (h : H a = some (.ins C dx fs)) (c : Cls K C) (nf : NoAttr K C f) (l : fs.lookup f = some v) (q : Q v H) : FldK K f Q (.ref a) H := ⟨a, C, dx, fs, v, rfl, h, c, nf, l, q⟩
theorem r_sFld {f : Str} (q : te σ H fun y H1 => ta σ H1 (SFldK K f (D.nx σ) y)) : sFld K ta te f D σ H := q
theorem r_sFldK {C dx : Addr} {fs fs' : List (Str × V)} {f : Str} (hs : Hd L H) (p : Put (pto a (.ins C dx fs)) (pto a (.ins C dx fs')) L L') (e : putF f y fs = fs') (c : Cls K C) (nf : NoAttr K C f) (hl : fs.length < 1000) (q : ∀ H', Hd L' H' → N H') : SFldK K f N y (.ref a) H := by
  obtain ⟨M, pa, _⟩ := p.pulls
  subst e
  exact ⟨a, C, dx, fs, rfl, hs.get pa, c, nf, hl, q _ (hs.set p (fun z => z))⟩
/-! #### calls of methods -/
theorem r_meth {C : Addr} {m : Str} {sp : Sp} {dvs : List V} {E : XK} (q : ta σ H (MethK C m fun x H1 => tr σ H1 fun vs H2 => sp (x :: (vs ++ dvs)) H2 Q E)) : tMeth C m sp dvs E ta tr σ H Q := q
theorem r_methK {C dx : Addr} {fs : List (Str × V)} {m : Str} {R : V → Hp → Prop} (h : H a = some (.ins C dx fs)) (l : fs.lookup m = none) (q : R (.ref a) H) : MethK C m R (.ref a) H := ⟨a, dx, fs, rfl, h, l, q⟩
theorem r_make {C : Addr} {sp : Sp} {dvs : List V} {E : XK} (q : tr σ H (MakeK C sp dvs E Q)) : tMake C sp dvs E tr σ H Q := q
theorem r_makeK {C : Addr} {sp : Sp} {dvs vs : List V} {E : XK} (hs : Hd L H) (q : ∀ x dx H', Hd (pto x (.ins C dx []) :: L) H' → sp (.ref x :: (vs ++ dvs)) H' (fun v H2 => v = .non ∧ Q (.ref x) H2) E) : MakeK C sp dvs E Q vs H := fun x dx nx nd ne =>
  q x dx _ ((hs.new nd).tl.new (by rw [upd_ne ne.symm]; exact nx))
theorem r_bm {T : String} {rm : V → List V → Hp → VK → Prop} (q : ta σ H fun x H1 => tyV K T x H1 ∧ tr σ H1 fun xs H2 => rm x xs H2 Q) : tBM K T rm ta tr σ H Q := q
theorem r_bm0 {T : String} {rm : V → List V → Hp → VK → Prop} (q : ta σ H fun x H1 => tyV K T x H1 ∧ rm x [] H1 Q) : tBM0 K T rm ta σ H Q := q
theorem r_tyL {R : Prop} (h : SqL K H a xs) (q : R) : tyV K "list" (.ref a) H ∧ R := ⟨.inl ⟨rfl, _, h⟩, q⟩
theorem r_tyD {kvs : List (Key × V)} {R : Prop} (h : H a = some (.dK kvs)) (q : R) : tyV K "dict" (.ref a) H ∧ R := ⟨.inr (.inr (.inl ⟨rfl, .inl ⟨_, h⟩⟩)), q⟩
theorem r_tyS {z : Str} {R : Prop} (q : R) : tyV K "str" (.str z) H ∧ R := ⟨rfl, q⟩
theorem r_append (hs : Hd L H) (p : Put (pto a (.lst xs)) (pto a (.lst (xs ++ [y]))) L L') (hl : xs.length < sizeLine) (q : ∀ H', Hd L' H' → Q .non H') : rAppend (.ref a) [y] H Q := by
  obtain ⟨M, pa, _⟩ := p.pulls
  exact ⟨a, xs, y, rfl, rfl, hs.get pa, hl, q _ (hs.set p (fun z => z))⟩
theorem r_extend {c : Addr} (hs : Hd L H) (p : Put (pto a (.lst xs)) (pto a (.lst (xs ++ ys))) L L') (hb : H c = some (.lst ys)) (hl : xs.length + ys.length ≤ sizeLine) (q : ∀ H', Hd L' H' → Q .non H') : rExtend (.ref a) [.ref c] H Q := by
  obtain ⟨M, pa, _⟩ := p.pulls
  exact ⟨a, c, xs, ys, rfl, rfl, hs.get pa, hb, hl, q _ (hs.set p (fun z => z))⟩
theorem r_pop (hs : Hd L H) (p : Put (pto a (.lst xs)) (pto a (.lst xs.dropLast)) L L') (hy : xs[xs.length - 1]? = some y) (q : ∀ H', Hd L' H' → Q y H') : rPop (.ref a) [] H Q := by
  obtain ⟨M, pa, _⟩ := p.pulls
  exact ⟨a, xs, y, rfl, rfl, hs.get pa, hy, q _ (hs.set p (fun z => z))⟩
theorem r_popAt (hs : Hd L H) (p : Put (pto a (.lst xs)) (pto a (.lst (xs.eraseIdx n))) L L') (hz : xs.length ≤ sizeLine) (hy : xs[n]? = some y) (q : ∀ H', Hd L' H' → Q y H') : rPopAt (.ref a) [.int (n : Int)] H Q := by
  obtain ⟨M, pa, _⟩ := p.pulls
  have hn := (List.getElem?_eq_some_iff.mp hy).1
  have e := sizeLine_eq
  have g : seqIndex? (n : Int) xs.length = some n := by
    have := (ixN_seq (n := xs.length) (i := (n : Int)) (j := n) (by
      unfold ixN
      rw [if_pos (Int.natCast_nonneg n), if_pos (by omega), Int.toNat_natCast])).1
    exact this
  exact ⟨a, xs, (n : Int), n, y, rfl, rfl, hs.get pa, by omega, by omega, g, hy, q _ (hs.set p (fun z => z))⟩
theorem r_clear (hs : Hd L H) (p : Put (pto a (.lst xs)) (pto a (.lst [])) L L') (q : ∀ H', Hd L' H' → Q .non H') : rClear (.ref a) [] H Q := by
  obtain ⟨M, pa, _⟩ := p.pulls
  exact ⟨a, xs, rfl, rfl, hs.get pa, q _ (hs.set p (fun z => z))⟩
/-! #### slices -/
theorem r_sl {rs : V → Option Int → Option Int → Hp → VK → Prop} {tl th : TO} (q : te σ H fun x H1 => tl σ H1 fun l H2 => th σ H2 fun u H3 => rs x l u H3 Q) : tSl rs te tl th σ H Q := q
theorem r_noPart {QO : Option Int → Hp → Prop} (q : QO none H) : tNoPart σ H QO := q
theorem r_part {QO : Option Int → Hp → Prop} (q : te σ H (PartK QO)) : tPart te σ H QO := q
theorem r_partK {QO : Option Int → Hp → Prop} (q : QO (some i) H) : PartK QO (.int i) H := ⟨i, rfl, q⟩
theorem r_slL {lo hi : Option Int} (hs : Hd L H) (h : SqL K H a xs) (q : ∀ p H', Hd (pto p (.lst (cutV xs lo hi)) :: L) H' → Q (.ref p) H') : rSlL K (.ref a) lo hi H Q := ⟨a, xs, rfl, h, fun p n => q p _ (hs.new n)⟩
/-! #### dicts -/
theorem r_dnew (hs : Hd L H) (q : ∀ p H', Hd (pto p (.dK []) :: L) H' → Q (.ref p) H') : tDNewK σ H Q := fun p n => q p _ (hs.new n)
theorem r_disp {trs : List (TE × TE)} (hs : Hd L H) (q : ∀ p H', Hd (pto p (.dK []) :: L) H' → tPairs trs σ H' (DispE p Q)) : tDisp trs σ H Q := fun p n => q p _ (hs.new n)
theorem r_pairsN {QP : List (V × V) → Hp → Prop} (q : QP [] H) : tPairs [] σ H QP := q
theorem r_pairsC {QP : List (V × V) → Hp → Prop} {trs : List (TE × TE)} (q : ta σ H fun x H1 => tb σ H1 fun y H2 => tPairs trs σ H2 fun ps H3 => QP ((x, y) :: ps) H3) : tPairs ((ta, tb) :: trs) σ H QP := q
theorem r_dispE {ps : List (V × V)} {kvs kvs' : List (Key × V)} (hs : Hd L H) (p' : Put (pto p (.dK [])) (pto p (.dK kvs')) L L') (e : ps = kvs.map (fun kv => (kV kv.1, kv.2))) (hl : kvs.length ≤ 15) (e2 : mergeK [] kvs = kvs') (q : ∀ H', Hd L' H' → Q (.ref p) H') : DispE p Q ps H := by
  obtain ⟨M, pa, _⟩ := p'.pulls
  subst e2
  exact ⟨hs.get pa, kvs, e, hl, q _ (hs.set p' (fun z => z))⟩
theorem r_dget1 (q : ta σ H (IsDK fun a H1 => tb σ H1 (GetE1 a Q))) : tDGet1 ta tb σ H Q := q
theorem r_dget2 (q : ta σ H (IsDK fun a H1 => tb σ H1 fun y H2 => tx σ H2 (GetE2 a y Q))) : tDGet2 ta tb tx σ H Q := q
theorem r_isD {kvs : List (Key × V)} {R : Addr → Hp → Prop} (h : H a = some (.dK kvs)) (q : R a H) : IsDK R (.ref a) H := ⟨a, rfl, .inl ⟨_, .inl h⟩, q⟩
theorem r_get1i {kvs : List (Key × V)} (h : H a = some (.dK kvs)) (q : Q ((valV kvs (.inl i)).getD .non) H) : GetE1 a Q (.int i) H := ⟨_, DGet.k (k := .inl i) h, q⟩
theorem r_get1s {z : Str} {kvs : List (Key × V)} (h : H a = some (.dK kvs)) (q : Q ((valV kvs (.inr z)).getD .non) H) : GetE1 a Q (.str z) H := ⟨_, DGet.k (k := .inr z) h, q⟩
theorem r_get2i {kvs : List (Key × V)} (h : H a = some (.dK kvs)) (q : Q ((valV kvs (.inl i)).getD x) H) : GetE2 a (.int i) Q x H := ⟨_, DGet.k (k := .inl i) h, q⟩
theorem r_get2s {z : Str} {kvs : List (Key × V)} (h : H a = some (.dK kvs)) (q : Q ((valV kvs (.inr z)).getD x) H) : GetE2 a (.str z) Q x H := ⟨_, DGet.k (k := .inr z) h, q⟩
/-! #### calls of built-ins -/
theorem r_lenL (h : SqL K H a xs) (q : Q (.int xs.length) H) : rLenU K [.ref a] H Q := .inl ⟨_, _, rfl, .inl ⟨_, h, rfl⟩, q⟩
theorem r_lenT (h : SqT K H a xs) (q : Q (.int xs.length) H) : rLenU K [.ref a] H Q := .inl ⟨_, _, rfl, .inr ⟨_, h, rfl⟩, q⟩
theorem r_lenS {z : Str} (h : z.length ≤ sizeLine) (q : Q (.int z.length) H) : rLenU K [.str z] H Q := .inl ⟨_, _, rfl, ⟨h, rfl⟩, q⟩
theorem r_lenD {kvs : List (Key × V)} (h : H a = some (.dK kvs)) (q : Q (.int kvs.length) H) : rLenU K [.ref a] H Q := .inr ⟨_, _, rfl, h, q⟩
theorem r_abs (q : Q (.int (if i < 0 then -i else i)) H) : rAbs [.int i] H Q := ⟨_, rfl, q⟩
theorem r_max2 (q : Q (.int (if j > i then j else i)) H) : rMax2 [.int i, .int j] H Q := ⟨_, _, rfl, q⟩
theorem r_min2 (q : Q (.int (if j < i then j else i)) H) : rMin2 [.int i, .int j] H Q := ⟨_, _, rfl, q⟩
theorem r_int1b (q : Q (.int (if b then 1 else 0)) H) : rInt1 [.bl b] H Q := .inr ⟨_, rfl, q⟩
theorem r_int1 (q : Q (.int i) H) : rInt1 [.int i] H Q := .inl ⟨_, rfl, q⟩
theorem r_listL (hs : Hd L H) (h : SqL K H a xs) (q : ∀ p H', Hd (pto p (.lst xs) :: L) H' → Q (.ref p) H') : rListOf K [.ref a] H Q := ⟨a, xs, rfl, .inl h, fun p n => q p _ (hs.new n)⟩
theorem r_listT (hs : Hd L H) (h : SqT K H a xs) (q : ∀ p H', Hd (pto p (.lst xs) :: L) H' → Q (.ref p) H') : rListOf K [.ref a] H Q := ⟨a, xs, rfl, .inr h, fun p n => q p _ (hs.new n)⟩
theorem r_tupleL (hs : Hd L H) (h : SqL K H a xs) (q : ∀ p H', Hd (pto p (.tup xs) :: L) H' → Q (.ref p) H') : rTupleOf K [.ref a] H Q := ⟨a, xs, rfl, .inl ⟨h, fun p n => q p _ (hs.new n)⟩⟩
theorem r_tupleT (h : SqT K H a xs) (q : Q (.ref a) H) : rTupleOf K [.ref a] H Q := ⟨a, xs, rfl, .inr ⟨h, q⟩⟩
theorem r_sum {ns : List Int} (h : SqL K H a (ns.map V.int)) (q : Q (.int ns.sum) H) : rSum K [.ref a] H Q := ⟨a, ns, rfl, h, q⟩
theorem r_all {bs : List Bool} (h : SqL K H a (bs.map V.bl)) (q : Q (.bl (bs.all id)) H) : rAll K [.ref a] H Q := ⟨a, bs, rfl, h, q⟩
theorem r_isi {c : V} {t u : Value} (hc : ClsV c u) (ty : TyX K H x t) (e : PySem.W.kitOne K t u = some b) (q : Q (.bl b) H) : rIsiU K [x, c] H Q := .inl ⟨x, c, t, u, b, rfl, hc, ty, e, q⟩
end
end Sl
namespace Sl
open PySem L2
theorem sz {n : Nat} (h : n ≤ 100000) : n ≤ sizeLine := Nat.le_trans h (by decide)
theorem szlt {n : Nat} (h : n < 100000) : n < sizeLine := Nat.lt_of_lt_of_le h (by decide)
theorem sqT_K {K : PySem.W.Frag} {a : Addr} {xs : List V} {us : List Value} {n : Nat} {H : Hp} (h : K.lookup a = some ⟨.type "tuple", none, .seq us.toArray n, #[]⟩) (hl : xs.length ≤ sizeLine) (r : Vals xs us) : SqT K H a xs :=
  .inr ⟨_, us.toArray, n, h, rfl, rfl, by rw [List.size_toArray, ← r.length]; exact hl, by simpa using r⟩
end Sl
namespace Sl
open PySem L2
theorem Hd.one {A : SA} {H : Hp} (h : A H) : Hd [A] H := ⟨H, fun _ => none, fun _ _ _ _ h => (nomatch h), Sub.refl _, fun _ _ h => (nomatch h), h, trivial⟩
/-- an atom that is true of greater heaps, too -/
def Up (A : SA) : Prop := ∀ H H', Sub H H' → A H → A H'
theorem Hd.at {A : SA} {L L' : List SA} {H : Hp} (u : Up A) (h : Hd L H) (p : Pull A L L') : A H := by
  obtain ⟨H1, H2, _, s, _, e, _⟩ := h.pull p
  exact u _ _ s e
theorem up_pto (a : Addr) (o : HO) : Up (pto a o) := fun _ _ s h => s _ _ h
/-- two atoms made one -/
theorem Hd.join {A B C : SA} {L : List SA} {H : Hp} (ua : Up A) (ub : Up B) (h : Hd (A :: B :: L) H) (f : ∀ H, A H → B H → C H) : Hd (C :: L) H := by
  obtain ⟨H1, H2, c, s1, s2, p, H3, H4, c2, s3, s4, q, r⟩ := h
  have c13 := c.sub (Sub.refl _) s3
  have c14 := c.sub (Sub.refl _) s4
  exact ⟨uni H1 H3, H4, (uni_cmp c14.symm c2.symm).symm, uni_sub s1 (s3.trans s2), s4.trans s2, f _ (ua _ _ (uni_l _ _) p) (ub _ _ (uni_r c13) q), r⟩
/-- an object of an atom is changed -/
theorem Hd.chg {A B : SA} {L : List SA} {H : Hp} {d : Addr} {o' : HO} (h : Hd (A :: L) H) (m : ∀ H, A H → ∃ o, H d = some o ∧ ¬ Imm o) (f : ∀ H, A H → B (upd H d o')) : Hd (B :: L) (upd H d o') := by
  obtain ⟨H1, H2, c, s1, s2, p, q⟩ := h
  obtain ⟨o, ho, hm⟩ := m _ p
  have n : H2 d = none := by
    cases z : H2 d with
    | none => rfl
    | some u => exact (hm (c d o u ho z).2).elim
  refine ⟨upd H1 d o', H2, fun b o1 o2 h1 h2 => ?_, fun b u e => ?_, fun b u e => ?_, f _ p, q⟩
  · by_cases z : b = d
    · subst z
      rw [n] at h2
      cases h2
    · rw [upd_ne z] at h1
      exact c b o1 o2 h1 h2
  · by_cases z : b = d
    · subst z
      rw [upd_same] at e ⊢
      exact e
    · rw [upd_ne z] at e ⊢
      exact s1 b u e
  · have z : b ≠ d := fun z => by
      subst z
      rw [n] at e
      cases e
    rw [upd_ne z]
    exact s2 b u e
/-- what is true at all greater heaps of A's piece may be carried beside it -/
theorem Hd.also {A B : SA} {L : List SA} {H : Hp} (h : Hd (A :: L) H) (f : ∀ H, A H → B H) : Hd (B :: L) H := h.imp f
end Sl
namespace Sl
open PySem L2
theorem flat_ints (ns : List Int) : (ns.map V.int).all flatV = true := by
  rw [List.all_map, List.all_eq_true]
  exact fun _ _ => rfl
end Sl
namespace Sl
open PySem L2
/-- what stands behind several ways is shown once: tail at each of them, then its proof -/
theorem r_late {L : List SA} {H : Hp} {B : Prop} {R : Hp → Prop} (_ : Hd L H) (f : (∀ H, Hd L H → R H) → B) (a : ∀ H, Hd L H → R H) : B := f a
end Sl

set_option maxRecDepth 100000
set_option maxHeartbeats 1000000
namespace Sl
open PySem L2
/-! ### what is walked -/
def Rng1K (R : It → Hp → Prop) (vs : List V) (H : Hp) : Prop := ∃ j : Int, vs = [.int j] ∧ -(2 ^ 62) ≤ j ∧ j < 2 ^ 62 ∧ R (Itr 0 j.toNat) H
def Rng2K (R : It → Hp → Prop) (vs : List V) (H : Hp) : Prop := ∃ i j : Int, vs = [.int i, .int j] ∧ (-(2 ^ 62) ≤ i ∧ i < 2 ^ 62 ∧ -(2 ^ 62) ≤ j ∧ j < 2 ^ 62) ∧ R (Itr i (j - i).toNat) H
def ListK (K : PySem.W.Frag) (R : It → Hp → Prop) (x : V) (H : Hp) : Prop := ∃ a, x = .ref a ∧ (∃ xs, SqL K H a xs) ∧ R (Itl K a) H
def TupK (K : PySem.W.Frag) (R : It → Hp → Prop) (x : V) (H : Hp) : Prop := ∃ a, x = .ref a ∧ (∃ xs, SqT K H a xs) ∧ R (Itt K a) H
def EnumK (K : PySem.W.Frag) (R : It → Hp → Prop) (vs : List V) (H : Hp) : Prop := ∃ a xs, vs = [.ref a] ∧ SqL K H a xs ∧ R (Ite K a) H
def ZipK (K : PySem.W.Frag) (R : It → Hp → Prop) (vs : List V) (H : Hp) : Prop := ∃ a b xs ys, vs = [.ref a, .ref b] ∧ SqL K H a xs ∧ SqL K H b ys ∧ R (Itz K a b) H
/-- a loop's turns; a comprehension's -/
def ForK (g : TG) (tb : TS) (D : Ends) (σ : L2.St) (J : It) (H : Hp) : Prop := ∃ W : Nat → Nat → L2.St → Hp → Prop, (∃ m, W 0 m σ H) ∧ ∀ i m σ H, W i m σ H →
  (J.stop i H ∧ D.nx σ H) ∨ (J.go i H ∧ ∃ N : L2.St → Hp → Prop, (∀ σ' H', N σ' H' → ∃ m', m' < m ∧ W (i + 1) m' σ' H') ∧ ∀ x H', J.yld i H x H' → g x σ H' fun σ2 H2 => tb { D with nx := N, ct := N, bk := D.nx } σ2 H2)
def LcK (g : TG) (tt : TT) (te : TE) (vs : List Nat) (σ : L2.St) (Q : VK) (J : It) (H1 : Hp) : Prop := ∀ D, H1 D = none → ∃ W : Nat → Nat → Hp → Prop, (∃ m, W 0 m (upd H1 D (.lst []))) ∧ ∀ i m H, W i m H →
  (J.stop i H ∧ Q (.ref D) H) ∨ (J.go i H ∧ ∃ Nx : Hp → Prop, (∀ H', Nx H' → ∃ m', m' < m ∧ W (i + 1) m' H') ∧ ∀ x H', J.yld i H x H' → g x (wipe σ vs) H' fun σ2 H2 => wipe σ2 vs = wipe σ vs ∧ tt σ2 H2 fun b H3 =>
    if b = true then te σ2 H3 fun y H4 => ∃ acc, H4 D = some (.lst acc) ∧ acc.length < sizeLine ∧ Nx (upd H4 D (.lst (acc ++ [y]))) else Nx H3)
def AppK (D : Addr) (N : Hp → Prop) (y : V) (H : Hp) : Prop := ∃ acc, H D = some (.lst acc) ∧ acc.length < sizeLine ∧ N (upd H D (.lst (acc ++ [y])))
section
variable {K : PySem.W.Frag} {σ : L2.St} {H : Hp} {D : Ends} {t u tb : TS} {te : TE} {tr : TA} {tt : TT} {wi : TI} {g : TG} {gs : TGs} {Q : VK} {R : It → Hp → Prop} {v x y : V} {i j k : Int} {n : Nat}
  {L L' : List SA} {a b p T : Addr} {xs ys : List V} {vs : List Nat} {QS : L2.St → Hp → Prop}
theorem r_for (q : wi σ H (ForK g tb D σ)) : tFor wi g tb D σ H := q
theorem r_lc (q : wi σ H (LcK g tt te vs σ Q)) : tLc wi g tt te vs σ H Q := q
theorem r_rng1 (q : tr σ H (Rng1K R)) : iRng1 tr σ H R := q
theorem r_rng2 (q : tr σ H (Rng2K R)) : iRng2 tr σ H R := q
theorem r_iList (q : te σ H (ListK K R)) : iList K te σ H R := q
theorem r_iTup (q : te σ H (TupK K R)) : iTup K te σ H R := q
theorem r_iEnum (q : tr σ H (EnumK K R)) : iEnum K tr σ H R := q
theorem r_iZip (q : tr σ H (ZipK K R)) : iZip K tr σ H R := q
theorem r_rng1K (h : -4000000000000000000 ≤ j ∧ j ≤ 4000000000000000000) (q : R (Itr 0 j.toNat) H) : Rng1K R [.int j] H := ⟨j, rfl, by omega, by omega, q⟩
theorem r_rng2K (h : -4000000000000000000 ≤ i ∧ i ≤ 4000000000000000000 ∧ -4000000000000000000 ≤ j ∧ j ≤ 4000000000000000000) (q : R (Itr i (j - i).toNat) H) : Rng2K R [.int i, .int j] H := ⟨i, j, rfl, ⟨by omega, by omega, by omega, by omega⟩, q⟩
theorem r_listK (h : SqL K H a xs) (q : R (Itl K a) H) : ListK K R (.ref a) H := ⟨a, rfl, ⟨xs, h⟩, q⟩
theorem r_tupK (h : SqT K H a xs) (q : R (Itt K a) H) : TupK K R (.ref a) H := ⟨a, rfl, ⟨xs, h⟩, q⟩
theorem r_enumK (h : SqL K H a xs) (q : R (Ite K a) H) : EnumK K R [.ref a] H := ⟨a, xs, rfl, h, q⟩
theorem r_zipK (h : SqL K H a xs) (h2 : SqL K H b ys) (q : R (Itz K a b) H) : ZipK K R [.ref a, .ref b] H := ⟨a, b, xs, ys, rfl, h, h2, q⟩
theorem r_gTup {k : Nat} (h : SqT K H a xs) (hl : xs.length = k) (q : gs xs σ H QS) : gTup K k gs (.ref a) σ H QS := ⟨a, xs, rfl, h, hl, q⟩
theorem r_gTupNew {k : Nat} (hs : Hd L H) (hT : H T = none) (hl : xs.length = k) (q : ∀ H', Hd (pto T (.tup xs) :: L) H' → gs xs σ H' QS) : gTup K k gs (.ref T) σ (upd H T (.tup xs)) QS :=
  ⟨T, xs, rfl, SqT.of upd_same, hl, q _ (hs.new hT)⟩
theorem r_gCons {xs : List V} (q : g x σ H fun σ' H' => gs xs σ' H' QS) : gCons g gs (x :: xs) σ H QS := ⟨x, xs, rfl, q⟩
theorem r_gNil (q : QS σ H) : gNil [] σ H QS := ⟨rfl, q⟩
theorem r_yes {QT : Bool → Hp → Prop} (q : QT true H) : tYes σ H QT := q
theorem r_appK {acc : List V} {D : Addr} {N : Hp → Prop} (hs : Hd L H) (p : Put (pto D (.lst acc)) (pto D (.lst (acc ++ [y]))) L L') (hl : acc.length < sizeLine) (q : ∀ H', Hd L' H' → N H') : AppK D N y H := by
  obtain ⟨M, pa, _⟩ := p.pulls
  exact ⟨acc, hs.get pa, hl, q _ (hs.set p (fun z => z))⟩
theorem r_par {i j : Nat} (q : tr σ H fun vs H1 => ∃ v w, vs = [v, w] ∧ D.nx ((σ.set i (some v)).set j (some w)) H1) : tPar i j tr D σ H := q
theorem r_mulT (hs : Hd L H) (h : SqT K H a xs) (hx : xs ≠ []) (hk : 2 ≤ k ∧ k ≤ 1000) (hl : xs.length ≤ 1000) (q : ∀ p H', Hd (pto p (.tup (List.replicate k.toNat xs).flatten) :: L) H' → Q (.ref p) H') : rMulU K (.ref a) (.int k) H Q :=
  .inr (.inr ⟨a, k, xs, rfl, rfl, h, hx, hk.1, hk.2, hl, fun p n => q p _ (hs.new n)⟩)
/-! #### loops by an invariant -/
theorem r_forW {J : It} {G : Hp → Prop} {Y : Nat → Hp → V → Hp → Prop} (w : Walk J n G Y) (P : Nat → L2.St → Hp → Prop) (h0 : P 0 σ H) (hG : ∀ i σ H, i ≤ n → P i σ H → G H)
    (hs : ∀ i x σ H H', i < n → P i σ H → Y i H x H' → g x σ H' fun σ2 H2 => tb { D with nx := P (i + 1), ct := P (i + 1), bk := D.nx } σ2 H2) (hd : ∀ σ H, P n σ H → D.nx σ H) : ForK g tb D σ J H := for_it w P h0 hG hs hd
theorem r_forR {lo : Int} (P : Nat → L2.St → Hp → Prop) (h0 : P 0 σ H)
    (hs : ∀ i σ H, i < n → P i σ H → g (.int (lo + (i : Nat))) σ H fun σ2 H2 => tb { D with nx := P (i + 1), ct := P (i + 1), bk := D.nx } σ2 H2) (hd : ∀ σ H, P n σ H → D.nx σ H) : ForK g tb D σ (Itr lo n) H :=
  r_forW walk_range P h0 (fun _ _ _ _ _ => trivial) (fun i x σ H H' hi p y => by
    obtain ⟨e, y⟩ := y
    subst e y
    exact hs i σ _ hi p) hd
theorem r_forL (xs : List V) (P : Nat → L2.St → Hp → Prop) (h0 : P 0 σ H) (hl : ∀ i σ H, i ≤ xs.length → P i σ H → SqL K H a xs)
    (hs : ∀ i x σ H, xs[i]? = some x → P i σ H → g x σ H fun σ2 H2 => tb { D with nx := P (i + 1), ct := P (i + 1), bk := D.nx } σ2 H2) (hd : ∀ σ H, P xs.length σ H → D.nx σ H) : ForK g tb D σ (Itl K a) H :=
  r_forW walk_list P h0 hl (fun i x σ H H' hi p y => by
    obtain ⟨e, y⟩ := y
    subst e
    exact hs i x σ _ y p) hd
theorem r_forT (xs : List V) (P : Nat → L2.St → Hp → Prop) (h0 : P 0 σ H) (hl : ∀ i σ H, i ≤ xs.length → P i σ H → SqT K H a xs)
    (hs : ∀ i x σ H, xs[i]? = some x → P i σ H → g x σ H fun σ2 H2 => tb { D with nx := P (i + 1), ct := P (i + 1), bk := D.nx } σ2 H2) (hd : ∀ σ H, P xs.length σ H → D.nx σ H) : ForK g tb D σ (Itt K a) H :=
  r_forW walk_tup P h0 hl (fun i x σ H H' hi p y => by
    obtain ⟨e, y⟩ := y
    subst e
    exact hs i x σ _ y p) hd
theorem r_forE (xs : List V) (P : Nat → L2.St → Hp → Prop) (h0 : P 0 σ H) (hl : ∀ i σ H, i ≤ xs.length → P i σ H → SqL K H a xs)
    (hs : ∀ i x T σ H, xs[i]? = some x → P i σ H → H T = none → g (.ref T) σ (upd H T (.tup [.int (i : Nat), x])) fun σ2 H2 => tb { D with nx := P (i + 1), ct := P (i + 1), bk := D.nx } σ2 H2) (hd : ∀ σ H, P xs.length σ H → D.nx σ H) : ForK g tb D σ (Ite K a) H :=
  r_forW walk_enum P h0 hl (fun i x σ H H' hi p y => by
    obtain ⟨T, z, w, rfl, hT, rfl, e1, e2⟩ := y
    cases e1
    exact hs i w T σ _ e2 p hT) hd
theorem r_forZ (xs ys : List V) (hn : n = min xs.length ys.length) (P : Nat → L2.St → Hp → Prop) (h0 : P 0 σ H) (hl : ∀ i σ H, i ≤ n → P i σ H → SqL K H a xs ∧ SqL K H b ys)
    (hs : ∀ i x y T σ H, xs[i]? = some x → ys[i]? = some y → P i σ H → H T = none → g (.ref T) σ (upd H T (.tup [x, y])) fun σ2 H2 => tb { D with nx := P (i + 1), ct := P (i + 1), bk := D.nx } σ2 H2) (hd : ∀ σ H, P n σ H → D.nx σ H) : ForK g tb D σ (Itz K a b) H :=
  r_forW (walk_zip hn) P h0 hl (fun i x σ H H' hi p y => by
    obtain ⟨T, z, w, rfl, hT, rfl, e1, e2⟩ := y
    exact hs i z w T σ _ e1 e2 p hT) hd
/-! #### comprehensions: P D i: what holds behind i turns, the new list at D -/
theorem r_lcW {J : It} {G : Hp → Prop} {Y : Nat → Hp → V → Hp → Prop} (w : Walk J n G Y) (P : Addr → Nat → Hp → Prop) (hh : Hd L H) (h0 : ∀ D H', Hd (pto D (.lst []) :: L) H' → P D 0 H') (hG : ∀ D i H, i ≤ n → P D i H → G H)
    (hs : ∀ D i x H H', i < n → P D i H → Y i H x H' → g x (wipe σ vs) H' fun σ2 H2 => wipe σ2 vs = wipe σ vs ∧ tt σ2 H2 fun b H3 => if b = true then te σ2 H3 (AppK D (P D (i + 1))) else P D (i + 1) H3)
    (hd : ∀ D H, P D n H → Q (.ref D) H) : LcK g tt te vs σ Q J H := fun D hD =>
  lc_it w (P D) (h0 D _ (hh.new hD)) (hG D) (fun i x H H' hi p y => hs D i x H H' hi p y) (hd D)
theorem r_lcR {lo : Int} (P : Addr → Nat → Hp → Prop) (hh : Hd L H) (h0 : ∀ D H', Hd (pto D (.lst []) :: L) H' → P D 0 H')
    (hs : ∀ D i H, i < n → P D i H → g (.int (lo + (i : Nat))) (wipe σ vs) H fun σ2 H2 => wipe σ2 vs = wipe σ vs ∧ tt σ2 H2 fun b H3 => if b = true then te σ2 H3 (AppK D (P D (i + 1))) else P D (i + 1) H3)
    (hd : ∀ D H, P D n H → Q (.ref D) H) : LcK g tt te vs σ Q (Itr lo n) H :=
  r_lcW walk_range P hh h0 (fun _ _ _ _ _ => trivial) (fun D i x H H' hi p y => by
    obtain ⟨e, y⟩ := y
    subst e y
    exact hs D i _ hi p) hd
theorem r_lcL (xs : List V) (P : Addr → Nat → Hp → Prop) (hh : Hd L H) (h0 : ∀ D H', Hd (pto D (.lst []) :: L) H' → P D 0 H') (hl : ∀ D i H, i ≤ xs.length → P D i H → SqL K H a xs)
    (hs : ∀ D i x H, xs[i]? = some x → P D i H → g x (wipe σ vs) H fun σ2 H2 => wipe σ2 vs = wipe σ vs ∧ tt σ2 H2 fun b H3 => if b = true then te σ2 H3 (AppK D (P D (i + 1))) else P D (i + 1) H3)
    (hd : ∀ D H, P D xs.length H → Q (.ref D) H) : LcK g tt te vs σ Q (Itl K a) H :=
  r_lcW walk_list P hh h0 hl (fun D i x H H' hi p y => by
    obtain ⟨e, y⟩ := y
    subst e
    exact hs D i x _ y p) hd
theorem r_lcT (xs : List V) (P : Addr → Nat → Hp → Prop) (hh : Hd L H) (h0 : ∀ D H', Hd (pto D (.lst []) :: L) H' → P D 0 H') (hl : ∀ D i H, i ≤ xs.length → P D i H → SqT K H a xs)
    (hs : ∀ D i x H, xs[i]? = some x → P D i H → g x (wipe σ vs) H fun σ2 H2 => wipe σ2 vs = wipe σ vs ∧ tt σ2 H2 fun b H3 => if b = true then te σ2 H3 (AppK D (P D (i + 1))) else P D (i + 1) H3)
    (hd : ∀ D H, P D xs.length H → Q (.ref D) H) : LcK g tt te vs σ Q (Itt K a) H :=
  r_lcW walk_tup P hh h0 hl (fun D i x H H' hi p y => by
    obtain ⟨e, y⟩ := y
    subst e
    exact hs D i x _ y p) hd
theorem r_lcE (xs : List V) (P : Addr → Nat → Hp → Prop) (hh : Hd L H) (h0 : ∀ D H', Hd (pto D (.lst []) :: L) H' → P D 0 H') (hl : ∀ D i H, i ≤ xs.length → P D i H → SqL K H a xs)
    (hs : ∀ D i x T H, xs[i]? = some x → P D i H → H T = none → g (.ref T) (wipe σ vs) (upd H T (.tup [.int (i : Nat), x])) fun σ2 H2 => wipe σ2 vs = wipe σ vs ∧ tt σ2 H2 fun b H3 => if b = true then te σ2 H3 (AppK D (P D (i + 1))) else P D (i + 1) H3)
    (hd : ∀ D H, P D xs.length H → Q (.ref D) H) : LcK g tt te vs σ Q (Ite K a) H :=
  r_lcW walk_enum P hh h0 hl (fun D i x H H' hi p y => by
    obtain ⟨T, z, w, rfl, hT, rfl, e1, e2⟩ := y
    cases e1
    exact hs D i w T _ e2 p hT) hd
end
theorem Hd.tup {L : List SA} {H : Hp} {t : Addr} {xs : List V} (h : Hd L H) (e : H t = some (.tup xs)) : Hd (pto t (.tup xs) :: L) H :=
  ⟨Sl.one t (.tup xs), H, fun b o1 o2 h1 h2 => by
    obtain ⟨rfl, rfl⟩ := of_one h1
    rw [e] at h2
    cases h2
    exact ⟨rfl, trivial⟩, one_sub e, Sub.refl _, one_at, h⟩
theorem cl_ints : ∀ ns : List Int, PyData.canLayAll0 (ns.map PyData.int) = true
  | [] => rfl
  | n :: r => by rw [List.map_cons, PyData.canLayAll0, cl_ints r]; rfl
theorem dt_ints : ∀ ns : List Int, PyData.depthAll (ns.map PyData.int) ≤ 1
  | [] => by decide
  | n :: r => by
    have h := dt_ints r
    rw [List.map_cons, PyData.depthAll]
    simp only [PyData.depth]
    omega
theorem sh_listI (ns : List Int) : SeqAt.shaped (.list (ns.map PyData.int)) = true := by
  have h := dt_ints ns
  unfold SeqAt.shaped
  rw [PyData.canLay0, cl_ints, Bool.true_and]
  apply decide_eq_true
  rw [PyData.depth]
  omega
theorem sh_tupI (ns : List Int) : SeqAt.shaped (.tuple (ns.map PyData.int)) = true := by
  have h := dt_ints ns
  unfold SeqAt.shaped
  rw [PyData.canLay0, cl_ints, Bool.true_and]
  apply decide_eq_true
  rw [PyData.depth]
  omega
/-- a list, or a tuple -/
def seqO : Bool → List V → HO
  | true, xs => .tup xs
  | false, xs => .lst xs
theorem r_setDX {v : V} {i : Int} {a : Addr} {H : Hp} {N : Hp → Prop} {kvs : List (Key × V)} (h : H a = some (.dK kvs)) (hl : kvs.length < sizeLine) (q : N (upd H a (.dK (putK kvs (.inl i) v)))) : rSetU (.ref a) (.int i) v H N := .inr ⟨a, _, rfl, DPut.k (k := .inl i) h hl, q⟩
theorem dp_ints {K : PySem.W.Frag} {H : Hp} : ∀ ns : List Int, DpAll K H (ns.map V.int) (ns.map PyData.int)
  | [] => .nil
  | n :: r => .cons (.int n) (dp_ints r)
theorem r_eqSame {K : PySem.W.Frag} {H : Hp} {x y : V} {Q : VK} {d : PyData} (h1 : Dp K H x d) (h2 : Dp K H y d) (s1 : SeqAt.shaped d = true) (e : PyData.eqv d d = true) (q : Q (.bl true) H) : rEqU K x y H Q := r_eqD h1 h2 s1 s1 (by rw [e]; exact q)
theorem r_neSame {K : PySem.W.Frag} {H : Hp} {x y : V} {Q : VK} {d : PyData} (h1 : Dp K H x d) (h2 : Dp K H y d) (s1 : SeqAt.shaped d = true) (e : PyData.eqv d d = true) (q : Q (.bl false) H) : rNeU K x y H Q := r_neD h1 h2 s1 s1 (by rw [e]; exact q)
end Sl
namespace Sl
open PySem L2
/-! ### the same rules, the written part named by a letter (within a comprehension's block) -/
section
variable {X : Cx} {K : PySem.W.Frag}
theorem k_add (h : X.K = K) : OpR X (binaryOp .Add) (rAddU K) := h ▸ u_add
theorem k_sub (_ : X.K = K) : OpR X (binaryOp .Sub) (rI0 fun i j => .int (i - j)) := u_sub
theorem k_mul (h : X.K = K) : OpR X (binaryOp .Mult) (rMulU K) := h ▸ u_mul
theorem k_div (_ : X.K = K) : OpR X (binaryOp .FloorDiv) rDivU := u_div
theorem k_mod (_ : X.K = K) : OpR X (binaryOp .Mod) (rI (fun _ j => 0 < j) fun i j => .int (i % j)) := u_mod
theorem k_pow (_ : X.K = K) : OpR X (binaryOp .Pow) (rI CPow fun i j => .int (i ^ j.toNat)) := u_pow
theorem k_eq (h : X.K = K) (hu : X.A.units + 64 < cLine) : OpR X (compareOp .Eq) (rEqU K) := h ▸ u_eq hu
theorem k_ne (h : X.K = K) (hu : X.A.units + 64 < cLine) : OpR X (compareOp .NotEq) (rNeU K) := h ▸ u_ne hu
theorem k_in (h : X.K = K) (hu : X.A.units + 1 < cLine) : OpR X (compareOp .In) (rInU K false) := h ▸ u_in hu
theorem k_notIn (h : X.K = K) (hu : X.A.units + 1 < cLine) : OpR X (compareOp .NotIn) (rInU K true) := h ▸ u_notIn hu
theorem k_ix (h : X.K = K) (hu : X.A.units + 1 < cLine) : IxR X (rIxU K) := h ▸ u_ix hu
theorem k_len (h : X.K = K) : CallR X (.builtin "len") (rLenU K) := h ▸ u_len
theorem k_list (h : X.K = K) : CallR X (.type "list") (rListOf K) := h ▸ u_list
theorem k_tuple (h : X.K = K) : CallR X (.type "tuple") (rTupleOf K) := h ▸ u_tuple
theorem k_isi (h : X.K = K) : CallR X (.builtin "isinstance") (rIsiU K) := h ▸ u_isi
theorem k_sum (h : X.K = K) (hc : X.calm = true) : CallR X (.builtin "sum") (rSum K) := h ▸ cr_sum hc
theorem k_all (h : X.K = K) (hc : X.calm = true) : CallR X (.builtin "all") (rAll K) := h ▸ cr_all hc
theorem k_any (h : X.K = K) (hc : X.calm = true) : CallR X (.builtin "any") (rAny K) := h ▸ cr_any hc
theorem k_sorted (h : X.K = K) : CallR X (.builtin "sorted") (rSortedI K) := h ▸ cr_sortedI
theorem k_max (h : X.K = K) (hc : X.calm = true) : CallR X (.builtin "max") (rMax K) := h ▸ cr_max hc
theorem k_min (h : X.K = K) (hc : X.calm = true) : CallR X (.builtin "min") (rMin K) := h ▸ cr_min hc
theorem k_slL (h : X.K = K) : SlR X (rSlL K) := h ▸ sl_list
theorem k_slT (h : X.K = K) : SlR X (rSlT K) := h ▸ sl_tup
theorem k_mtIndex (h : X.K = K) : MtR X "list.index" (rIndex K) := h ▸ mt_index
theorem k_mtCount (h : X.K = K) : MtR X "list.count" (rCntI K) := h ▸ mt_lcount
theorem k_fld {e : Expr} {ta : TE} {f : Str} {pos : Pos} (h : X.K = K) (he : PE X e ta) (hb : attributeBase e f X.env (eval e X.env) = eval e X.env) : PE X (.Attribute e f pos) (tFld K ta f) := h ▸ pe_fld he hb
theorem k_bm0 {o : Expr} {to : TE} {name : Str} {apos cpos : Pos} {T : String} {r : V → List V → Hp → VK → Prop} (h : X.K = K) (p : PE X (.Call (.Attribute o name apos) [] [] cpos) (tBM0 X.K T r to)) : PE X (.Call (.Attribute o name apos) [] [] cpos) (tBM0 K T r to) := h ▸ p
theorem k_bm {o e : Expr} {es : List Expr} {to : TE} {t : TA} {name : Str} {apos cpos : Pos} {T : String} {r : V → List V → Hp → VK → Prop} (h : X.K = K) (p : PE X (.Call (.Attribute o name apos) (e :: es) [] cpos) (tBM X.K T r to t)) : PE X (.Call (.Attribute o name apos) (e :: es) [] cpos) (tBM K T r to t) := h ▸ p
theorem k_gTup {es : List Expr} {k : Nat} {t : TGs} {n : Nat} {pos : Pos} (h : X.K = K) (p : PG X (.Tuple es k pos) (gTup X.K n t)) : PG X (.Tuple es k pos) (gTup K n t) := h ▸ p
end
end Sl
namespace Sl
open PySem L2
theorem kb_int_int {K : PySem.W.Frag} : PySem.W.kitOne K (.type "int") (.type "int") = some true := kit_ty (by decide +kernel)
theorem kb_int_bool {K : PySem.W.Frag} : PySem.W.kitOne K (.type "int") (.type "bool") = some false := kit_ty (by decide +kernel)
theorem kb_int_str {K : PySem.W.Frag} : PySem.W.kitOne K (.type "int") (.type "str") = some false := kit_ty (by decide +kernel)
theorem kb_int_list {K : PySem.W.Frag} : PySem.W.kitOne K (.type "int") (.type "list") = some false := kit_ty (by decide +kernel)
theorem kb_int_tuple {K : PySem.W.Frag} : PySem.W.kitOne K (.type "int") (.type "tuple") = some false := kit_ty (by decide +kernel)
theorem kb_int_dict {K : PySem.W.Frag} : PySem.W.kitOne K (.type "int") (.type "dict") = some false := kit_ty (by decide +kernel)
theorem kb_bool_int {K : PySem.W.Frag} : PySem.W.kitOne K (.type "bool") (.type "int") = some true := kit_ty (by decide +kernel)
theorem kb_bool_bool {K : PySem.W.Frag} : PySem.W.kitOne K (.type "bool") (.type "bool") = some true := kit_ty (by decide +kernel)
theorem kb_bool_str {K : PySem.W.Frag} : PySem.W.kitOne K (.type "bool") (.type "str") = some false := kit_ty (by decide +kernel)
theorem kb_bool_list {K : PySem.W.Frag} : PySem.W.kitOne K (.type "bool") (.type "list") = some false := kit_ty (by decide +kernel)
theorem kb_bool_tuple {K : PySem.W.Frag} : PySem.W.kitOne K (.type "bool") (.type "tuple") = some false := kit_ty (by decide +kernel)
theorem kb_bool_dict {K : PySem.W.Frag} : PySem.W.kitOne K (.type "bool") (.type "dict") = some false := kit_ty (by decide +kernel)
theorem kb_str_int {K : PySem.W.Frag} : PySem.W.kitOne K (.type "str") (.type "int") = some false := kit_ty (by decide +kernel)
theorem kb_str_bool {K : PySem.W.Frag} : PySem.W.kitOne K (.type "str") (.type "bool") = some false := kit_ty (by decide +kernel)
theorem kb_str_str {K : PySem.W.Frag} : PySem.W.kitOne K (.type "str") (.type "str") = some true := kit_ty (by decide +kernel)
theorem kb_str_list {K : PySem.W.Frag} : PySem.W.kitOne K (.type "str") (.type "list") = some false := kit_ty (by decide +kernel)
theorem kb_str_tuple {K : PySem.W.Frag} : PySem.W.kitOne K (.type "str") (.type "tuple") = some false := kit_ty (by decide +kernel)
theorem kb_str_dict {K : PySem.W.Frag} : PySem.W.kitOne K (.type "str") (.type "dict") = some false := kit_ty (by decide +kernel)
theorem kb_list_int {K : PySem.W.Frag} : PySem.W.kitOne K (.type "list") (.type "int") = some false := kit_ty (by decide +kernel)
theorem kb_list_bool {K : PySem.W.Frag} : PySem.W.kitOne K (.type "list") (.type "bool") = some false := kit_ty (by decide +kernel)
theorem kb_list_str {K : PySem.W.Frag} : PySem.W.kitOne K (.type "list") (.type "str") = some false := kit_ty (by decide +kernel)
theorem kb_list_list {K : PySem.W.Frag} : PySem.W.kitOne K (.type "list") (.type "list") = some true := kit_ty (by decide +kernel)
theorem kb_list_tuple {K : PySem.W.Frag} : PySem.W.kitOne K (.type "list") (.type "tuple") = some false := kit_ty (by decide +kernel)
theorem kb_list_dict {K : PySem.W.Frag} : PySem.W.kitOne K (.type "list") (.type "dict") = some false := kit_ty (by decide +kernel)
theorem kb_tuple_int {K : PySem.W.Frag} : PySem.W.kitOne K (.type "tuple") (.type "int") = some false := kit_ty (by decide +kernel)
theorem kb_tuple_bool {K : PySem.W.Frag} : PySem.W.kitOne K (.type "tuple") (.type "bool") = some false := kit_ty (by decide +kernel)
theorem kb_tuple_str {K : PySem.W.Frag} : PySem.W.kitOne K (.type "tuple") (.type "str") = some false := kit_ty (by decide +kernel)
theorem kb_tuple_list {K : PySem.W.Frag} : PySem.W.kitOne K (.type "tuple") (.type "list") = some false := kit_ty (by decide +kernel)
theorem kb_tuple_tuple {K : PySem.W.Frag} : PySem.W.kitOne K (.type "tuple") (.type "tuple") = some true := kit_ty (by decide +kernel)
theorem kb_tuple_dict {K : PySem.W.Frag} : PySem.W.kitOne K (.type "tuple") (.type "dict") = some false := kit_ty (by decide +kernel)
theorem kb_dict_int {K : PySem.W.Frag} : PySem.W.kitOne K (.type "dict") (.type "int") = some false := kit_ty (by decide +kernel)
theorem kb_dict_bool {K : PySem.W.Frag} : PySem.W.kitOne K (.type "dict") (.type "bool") = some false := kit_ty (by decide +kernel)
theorem kb_dict_str {K : PySem.W.Frag} : PySem.W.kitOne K (.type "dict") (.type "str") = some false := kit_ty (by decide +kernel)
theorem kb_dict_list {K : PySem.W.Frag} : PySem.W.kitOne K (.type "dict") (.type "list") = some false := kit_ty (by decide +kernel)
theorem kb_dict_tuple {K : PySem.W.Frag} : PySem.W.kitOne K (.type "dict") (.type "tuple") = some false := kit_ty (by decide +kernel)
theorem kb_dict_dict {K : PySem.W.Frag} : PySem.W.kitOne K (.type "dict") (.type "dict") = some true := kit_ty (by decide +kernel)
theorem kb_NoneType_int {K : PySem.W.Frag} : PySem.W.kitOne K (.type "NoneType") (.type "int") = some false := kit_ty (by decide +kernel)
theorem kb_NoneType_bool {K : PySem.W.Frag} : PySem.W.kitOne K (.type "NoneType") (.type "bool") = some false := kit_ty (by decide +kernel)
theorem kb_NoneType_str {K : PySem.W.Frag} : PySem.W.kitOne K (.type "NoneType") (.type "str") = some false := kit_ty (by decide +kernel)
theorem kb_NoneType_list {K : PySem.W.Frag} : PySem.W.kitOne K (.type "NoneType") (.type "list") = some false := kit_ty (by decide +kernel)
theorem kb_NoneType_tuple {K : PySem.W.Frag} : PySem.W.kitOne K (.type "NoneType") (.type "tuple") = some false := kit_ty (by decide +kernel)
theorem kb_NoneType_dict {K : PySem.W.Frag} : PySem.W.kitOne K (.type "NoneType") (.type "dict") = some false := kit_ty (by decide +kernel)
theorem r_iteNT {A B : Prop} (h : B) : if (!true) = true then A else B := iteF h
theorem r_iteNF {A B : Prop} (h : A) : if (!false) = true then A else B := iteT h
end Sl

set_option maxRecDepth 100000
set_option maxHeartbeats 1000000
namespace Sl
open PySem L2
/-! ### many lists -/
/-- at the addresses ls stand the lists q -/
def rowsA (ls : List Addr) (q : List (List V)) : SA := fun H => ls.Nodup ∧ ls.length = q.length ∧ ∀ (i : Nat) a r, ls[i]? = some a → q[i]? = some r → H a = some (.lst r)
theorem up_rows (ls : List Addr) (q : List (List V)) : Up (rowsA ls q) := fun _ _ s h => ⟨h.1, h.2.1, fun i a r h1 h2 => s _ _ (h.2.2 i a r h1 h2)⟩
theorem rows_nil {L : List SA} {H : Hp} (h : Hd L H) : Hd (rowsA [] [] :: L) H :=
  ⟨fun _ => none, H, fun _ _ _ h => (nomatch h), fun _ _ h => (nomatch h), Sub.refl _, ⟨List.nodup_nil, rfl, fun _ _ _ h => by simp at h⟩, h⟩
theorem rows_get {ls : List Addr} {q : List (List V)} {L L' : List SA} {H : Hp} (h : Hd L H) (p : Pull (rowsA ls q) L L') {i : Nat} {a : Addr} {r : List V} (h1 : ls[i]? = some a) (h2 : q[i]? = some r) : H a = some (.lst r) :=
  (h.at (up_rows ls q) p).2.2 i a r h1 h2
theorem rows_len {ls : List Addr} {q : List (List V)} {L L' : List SA} {H : Hp} (h : Hd L H) (p : Pull (rowsA ls q) L L') : ls.length = q.length := (h.at (up_rows ls q) p).2.1
theorem rows_at {ls : List Addr} {q : List (List V)} {L L' : List SA} {H : Hp} (h : Hd L H) (p : Pull (rowsA ls q) L L') {i : Nat} (hi : i < q.length) : ∃ a, ls[i]? = some a ∧ H a = some (.lst q[i]) := by
  have e := rows_len h p
  have hi' : i < ls.length := by omega
  exact ⟨ls[i], by simp [hi'], rows_get h p (i := i) (by simp [hi']) (by simp [hi])⟩
theorem rows_set {ls : List Addr} {q : List (List V)} {L : List SA} {H : Hp} (h : Hd (rowsA ls q :: L) H) {i : Nat} {a : Addr} (h1 : ls[i]? = some a) (r : List V) : Hd (rowsA ls (q.set i r) :: L) (upd H a (.lst r)) := by
  refine h.chg (fun G z => ?_) fun G z => ?_
  · have hi : i < q.length := by
      rw [← z.2.1]
      exact (List.getElem?_eq_some_iff.mp h1).1
    exact ⟨_, z.2.2 i a q[i] h1 (by simp [hi]), fun z => z⟩
  · refine ⟨z.1, by rw [List.length_set]; exact z.2.1, fun j b s e1 e2 => ?_⟩
    by_cases e : j = i
    · subst e
      rw [h1] at e1
      cases e1
      have hj : j < q.length := by
        rw [← z.2.1]
        exact (List.getElem?_eq_some_iff.mp h1).1
      rw [List.getElem?_set_self hj] at e2
      cases e2
      exact upd_same
    · rw [List.getElem?_set_ne (Ne.symm e)] at e2
      have nb : b ≠ a := fun z2 => by
        subst z2
        exact e (nd_ix z.1 e1 h1)
      rw [upd_ne nb]
      exact z.2.2 j b s e1 e2
/-- a list of its own is no one of the rows -/
theorem rows_out {ls : List Addr} {q : List (List V)} {L : List SA} {H : Hp} {a : Addr} {r : List V} (h : Hd (pto a (.lst r) :: rowsA ls q :: L) H) : a ∉ ls := fun m => by
  obtain ⟨H1, H2, c, s1, s2, p, H3, H4, c2, s3, s4, p2, q2⟩ := h
  obtain ⟨i, hi, e⟩ := List.mem_iff_getElem.mp m
  have hq : i < q.length := by
    rw [← p2.2.1]
    exact hi
  have h3 := p2.2.2 i a q[i] (by rw [← e]; simp [hi]) (by simp [hq])
  exact (c a _ _ p (s3 _ _ h3)).2
theorem rows_snoc {ls : List Addr} {q : List (List V)} {L : List SA} {H : Hp} {a : Addr} {r : List V} (h : Hd (pto a (.lst r) :: rowsA ls q :: L) H) : Hd (rowsA (ls ++ [a]) (q ++ [r]) :: L) H := by
  have no := rows_out h
  refine Hd.join (up_pto _ _) (up_rows _ _) h fun G z1 z2 => ⟨?_, by simp [z2.2.1], fun i b s e1 e2 => ?_⟩
  · exact nd_snoc z2.1 no
  · by_cases hi : i < ls.length
    · rw [List.getElem?_append_left hi] at e1
      rw [List.getElem?_append_left (by rw [← z2.2.1]; exact hi)] at e2
      exact z2.2.2 i b s e1 e2
    · have hi2 : i < (ls ++ [a]).length := (List.getElem?_eq_some_iff.mp e1).1
      have hi3 : i = ls.length := by
        rw [List.length_append, List.length_singleton] at hi2
        omega
      subst hi3
      rw [List.getElem?_append_right (Nat.le_refl _), Nat.sub_self] at e1
      rw [z2.2.1, List.getElem?_append_right (Nat.le_refl _), Nat.sub_self] at e2
      cases e1
      cases e2
      exact z1
theorem nd_set : ∀ {ls : List Addr} {a : Addr} {i : Nat}, ls.Nodup → a ∉ ls → (ls.set i a).Nodup
  | [], _, _, h, _ => h
  | b :: r, a, 0, h, n => by
    rw [List.set_cons_zero]
    exact List.nodup_cons.mpr ⟨fun m => n (List.mem_cons_of_mem _ m), (List.nodup_cons.mp h).2⟩
  | b :: r, a, i + 1, h, n => by
    rw [List.set_cons_succ]
    refine List.nodup_cons.mpr ⟨fun m => ?_, nd_set (List.nodup_cons.mp h).2 fun m => n (List.mem_cons_of_mem _ m)⟩
    rcases List.mem_or_eq_of_mem_set m with m | m
    · exact (List.nodup_cons.mp h).1 m
    · exact n (by rw [m]; exact List.mem_cons_self)
/-- a row is exchanged for a list of its own -/
theorem rows_repl {ls : List Addr} {q : List (List V)} {L : List SA} {H : Hp} {a : Addr} {r : List V} {i : Nat} (h : Hd (pto a (.lst r) :: rowsA ls q :: L) H) : Hd (rowsA (ls.set i a) (q.set i r) :: L) H := by
  have no := rows_out h
  refine Hd.join (up_pto _ _) (up_rows _ _) h fun G z1 z2 => ⟨?_, by simp [z2.2.1], fun j b s e1 e2 => ?_⟩
  · exact nd_set z2.1 no
  · by_cases e : j = i
    · subst e
      have hj : j < ls.length := by
        have := (List.getElem?_eq_some_iff.mp e1).1
        rw [List.length_set] at this
        exact this
      rw [List.getElem?_set_self hj] at e1
      rw [List.getElem?_set_self (by rw [← z2.2.1]; exact hj)] at e2
      cases e1
      cases e2
      exact z1
    · rw [List.getElem?_set_ne (Ne.symm e)] at e1 e2
      exact z2.2.2 j b s e1 e2
/-! ### a dict of numbers by numbers -/
def dI (d : List (Int × Int)) : List (Key × V) := d.map fun e => (.inl e.1, .int e.2)
def getI (d : List (Int × Int)) (n : Int) : Option Int := (d.find? fun e => decide (e.1 = n)).map (·.2)
def putI (d : List (Int × Int)) (n l : Int) : List (Int × Int) := if d.any fun e => decide (e.1 = n) then d.map fun e => if e.1 = n then (e.1, l) else e else d ++ [(n, l)]
def dropI (d : List (Int × Int)) (n : Int) : List (Int × Int) := d.filter fun e => decide (e.1 ≠ n)
theorem dec_inl (a b : Int) : decide ((Sum.inl a : Key) = Sum.inl b) = decide (a = b) := by
  by_cases e : a = b
  · subst e
    simp
  · have h : ¬ (Sum.inl a : Key) = Sum.inl b := fun q => e (Sum.inl.inj q)
    rw [decide_eq_false h, decide_eq_false e]
theorem valV_dI (d : List (Int × Int)) (n : Int) : valV (dI d) (.inl n) = (getI d n).map V.int := by
  induction d with
  | nil => rfl
  | cons e r ih =>
    by_cases h : e.1 = n
    · rw [show dI (e :: r) = (.inl e.1, .int e.2) :: dI r from rfl, valV_pos (by rw [h])]
      simp [getI, List.find?_cons, h]
    · rw [show dI (e :: r) = (.inl e.1, .int e.2) :: dI r from rfl, valV_neg (fun q => h (Sum.inl.inj q)), ih]
      simp [getI, List.find?_cons, h]
theorem any_dI (d : List (Int × Int)) (n : Int) : ((dI d).any fun kv => decide (kv.1 = (Sum.inl n : Key))) = d.any fun e => decide (e.1 = n) := by
  unfold dI
  rw [List.any_map]
  congr 1
  funext e
  exact dec_inl _ _
theorem putK_dI (d : List (Int × Int)) (n l : Int) : putK (dI d) (.inl n) (.int l) = dI (putI d n l) := by
  unfold putK putI
  rw [any_dI]
  by_cases h : (d.any fun e => decide (e.1 = n)) = true
  · rw [if_pos h, if_pos h]
    unfold dI
    rw [List.map_map, List.map_map]
    congr 1
    funext e
    show (if (Sum.inl e.1 : Key) = Sum.inl n then _ else _) = _
    by_cases q : e.1 = n
    · rw [if_pos (by rw [q])]
      show _ = (Sum.inl (if e.1 = n then (e.1, l) else e).1, V.int (if e.1 = n then (e.1, l) else e).2)
      rw [if_pos q]
    · rw [if_neg (fun z => q (Sum.inl.inj z))]
      show _ = (Sum.inl (if e.1 = n then (e.1, l) else e).1, V.int (if e.1 = n then (e.1, l) else e).2)
      rw [if_neg q]
  · rw [if_neg h, if_neg h]
    unfold dI
    rw [List.map_append]
    rfl
theorem dropK_dI (d : List (Int × Int)) (n : Int) : dropK (dI d) (.inl n) = dI (dropI d n) := by
  unfold dropK dropI dI
  rw [List.filter_map]
  congr 1
  congr 1
  funext e
  by_cases q : e.1 = n
  · simp [q]
  · simp [q]
theorem getI_put (d : List (Int × Int)) (n m l : Int) : getI (putI d n l) m = if m = n then some l else getI d m := by
  have h := valV_put (dI d) (.inl n) (.inl m) (.int l)
  rw [putK_dI, valV_dI, valV_dI] at h
  by_cases e : m = n
  · subst e
    rw [if_pos rfl] at h ⊢
    cases q : getI (putI d m l) m with
    | none =>
      rw [q] at h
      cases h
    | some x =>
      rw [q] at h
      injection h with h
      injection h with h
      rw [h]
  · rw [if_neg (fun z => e (Sum.inl.inj z))] at h
    rw [if_neg e]
    cases q : getI (putI d n l) m <;> cases q2 : getI d m <;> rw [q, q2] at h <;> first | rfl | (cases h; done) | (injection h with h; injection h with h; rw [h])
theorem len_dI (d : List (Int × Int)) : (dI d).length = d.length := by
  unfold dI
  rw [List.length_map]
theorem len_putI (d : List (Int × Int)) (n l : Int) : (putI d n l).length ≤ d.length + 1 := by
  unfold putI
  split
  · rw [List.length_map]
    omega
  · simp
theorem len_dropI (d : List (Int × Int)) (n : Int) : (dropI d n).length ≤ d.length := List.length_filter_le _ _
theorem getI_drop (d : List (Int × Int)) (n m : Int) : getI (dropI d n) m = if m = n then none else getI d m := by
  induction d with
  | nil =>
    split <;> rfl
  | cons e r ih =>
    unfold dropI at ih ⊢
    by_cases h : e.1 = n
    · rw [List.filter_cons, if_neg (by simp [h]), ih]
      by_cases q : m = n
      · rw [if_pos q, if_pos q]
      · rw [if_neg q, if_neg q]
        simp only [getI, List.find?_cons]
        rw [decide_eq_false (fun z => q (z.symm.trans h))]
    · rw [List.filter_cons, if_pos (by simp [h])]
      by_cases q : e.1 = m
      · subst q
        rw [if_neg h]
        simp [getI, List.find?_cons]
      · have a1 : getI (e :: List.filter (fun e => decide (e.1 ≠ n)) r) m = getI (List.filter (fun e => decide (e.1 ≠ n)) r) m := by
          simp only [getI, List.find?_cons]
          rw [decide_eq_false q]
        have a2 : getI (e :: r) m = getI r m := by
          simp only [getI, List.find?_cons]
          rw [decide_eq_false q]
        rw [a1, a2, ih]
/-! ### more rules: objects within atoms -/
section
variable {K : PySem.W.Frag} {H : Hp} {Q : VK} {a c : Addr} {xs ys : List V} {y v : V} {i n : Int} {k : Nat} {N : Hp → Prop}
theorem r_appendX (h : H a = some (.lst xs)) (hl : xs.length < sizeLine) (q : Q .non (upd H a (.lst (xs ++ [y])))) : rAppend (.ref a) [y] H Q := ⟨a, xs, y, rfl, rfl, h, hl, q⟩
theorem r_extendX (h : H a = some (.lst xs)) (h2 : H c = some (.lst ys)) (hl : xs.length + ys.length ≤ sizeLine) (q : Q .non (upd H a (.lst (xs ++ ys)))) : rExtend (.ref a) [.ref c] H Q := ⟨a, c, xs, ys, rfl, rfl, h, h2, hl, q⟩
theorem r_setLX (h : H a = some (.lst xs)) (hk : k < xs.length) (q : N (upd H a (.lst (xs.set k v)))) : rSetU (.ref a) (.int (k : Int)) v H N := by
  refine .inl ⟨a, xs, (k : Int), k, rfl, rfl, h, ?_, q⟩
  unfold ixN
  rw [if_pos (Int.natCast_nonneg k), if_pos (by omega), Int.toNat_natCast]
theorem erase_at : ∀ {ns : List Int} {k : Int} {j : Nat}, ns[j]? = some k → (∀ m : Nat, m < j → ns[m]? ≠ some k) → ns.eraseIdx j = ns.erase k
  | [], _, _, h, _ => by simp at h
  | a :: r, k, 0, h, _ => by
    have e : a = k := Option.some.inj h
    subst e
    simp
  | a :: r, k, j + 1, h, hm => by
    have na : a ≠ k := fun e => hm 0 (Nat.succ_pos _) (by rw [e]; rfl)
    rw [List.eraseIdx_cons_succ, List.erase_cons_tail (by simpa using na), erase_at (ns := r) (k := k) (j := j) h fun m hl => hm (m + 1) (Nat.succ_lt_succ hl)]
theorem first_at : ∀ {ns : List Int} {k : Int}, k ∈ ns → ∃ j : Nat, ns[j]? = some k ∧ ∀ m : Nat, m < j → ns[m]? ≠ some k
  | a :: r, k, h => by
    by_cases e : a = k
    · exact ⟨0, by rw [e]; rfl, fun m hm => by omega⟩
    · obtain ⟨j, h1, h2⟩ := first_at (ns := r) ((List.mem_cons.mp h).resolve_left fun z => e z.symm)
      refine ⟨j + 1, h1, fun m hm => ?_⟩
      cases m with
      | zero => exact fun z => e (Option.some.inj z)
      | succ m => exact h2 m (by omega)
theorem r_removeX {ns : List Int} (h : H a = some (.lst (ns.map V.int))) (hm : n ∈ ns) (q : Q .non (upd H a (.lst ((ns.erase n).map V.int)))) : rRemI (.ref a) [.int n] H Q := by
  obtain ⟨j, h1, h2⟩ := first_at hm
  refine ⟨a, ns, n, j, rfl, rfl, h, h1, h2, ?_⟩
  rw [erase_at h1 h2]
  exact q
theorem r_popDX {kvs : List (Key × V)} (h : H a = some (.dK kvs)) (hv : valV kvs (.inl n) = some v) (q : Q v (upd H a (.dK (dropK kvs (.inl n))))) : ∃ kvs k v, H a = some (.dK kvs) ∧ V.int n = kV k ∧ valV kvs k = some v ∧ Q v (upd H a (.dK (dropK kvs k))) := ⟨kvs, .inl n, v, h, rfl, hv, q⟩
/-- a list of numbers against the empty one -/
theorem eqv_nil (ns : List Int) : PyData.eqv (.list (ns.map PyData.int)) (.list []) = ns.isEmpty := by
  cases ns with
  | nil => rfl
  | cons a r =>
    rw [PyData.eqv, List.map_cons]
    rfl
theorem r_neNil {ns : List Int} (h : SqL K H a (ns.map V.int)) (h2 : SqL K H c []) (q : Q (.bl (!ns.isEmpty)) H) : rNeU K (.ref a) (.ref c) H Q :=
  r_neD (.lst h (dp_ints ns)) (.lst h2 .nil) (sh_listI ns) (by decide) (by rw [eqv_nil]; exact q)
theorem r_eqNil {ns : List Int} (h : SqL K H a (ns.map V.int)) (h2 : SqL K H c []) (q : Q (.bl ns.isEmpty) H) : rEqU K (.ref a) (.ref c) H Q :=
  r_eqD (.lst h (dp_ints ns)) (.lst h2 .nil) (sh_listI ns) (by decide) (by rw [eqv_nil]; exact q)
end
/-! #### o.f += e -/
def AugF (a C : Addr) (f : Str) (N : Hp → Prop) (z : V) (H : Hp) : Prop := ∃ dx' fs', H a = some (.ins C dx' fs') ∧ fs'.length < 1000 ∧ N (upd H a (.ins C dx' (putF f z fs')))
def AugK (K : PySem.W.Frag) (tv : TE) (rd : V → V → Hp → VK → Prop) (f : Str) (σ : L2.St) (N : Hp → Prop) (x : V) (H : Hp) : Prop := ∃ a C dx fs v, x = .ref a ∧ H a = some (.ins C dx fs) ∧ Cls K C ∧ NoAttr K C f ∧ fs.lookup f = some v ∧
  tv σ H fun y H2 => rd v y H2 (AugF a C f N)
def KeysK (R : It → Hp → Prop) (x : V) (H : Hp) : Prop := ∃ d o, x = .ref d ∧ ((∃ kvs, H d = some (.frz o (.dK kvs)) ∧ R (Itk d o kvs) H) ∨ ∃ kvs, H d = some (.frz o (.dT kvs)) ∧ R (Itkt d o kvs) H)
def DPopK (a : Addr) (Q : VK) (y : V) (H : Hp) : Prop := ∃ kvs k v, H a = some (.dK kvs) ∧ y = kV k ∧ valV kvs k = some v ∧ Q v (upd H a (.dK (dropK kvs k)))
def UnlK (d : Addr) (o : Obj) (u : HO) (Q : VK) (v : V) (H : Hp) : Prop := H d = some (.frz o u) ∧ Q v (upd H d u)
section
variable {K : PySem.W.Frag} {σ : L2.St} {H : Hp} {D : Ends} {te ta tb tv : TE} {g : TG} {tt : TT} {Q : VK} {R : It → Hp → Prop} {v x y z : V} {i j n : Int} {L L' : List SA} {a d C dx : Addr} {o : Obj} {kvs : List (Key × V)} {vs : List Nat} {N : Hp → Prop}
theorem r_fldaug {rd : V → V → Hp → VK → Prop} {f : Str} (q : ta σ H (AugK K tv rd f σ (D.nx σ))) : sFldAug K ta tv rd f D σ H := q
theorem r_augK {rd : V → V → Hp → VK → Prop} {f : Str} {fs : List (Str × V)} (h : H a = some (.ins C dx fs)) (c : Cls K C) (nf : NoAttr K C f) (l : fs.lookup f = some v) (q : tv σ H fun y H2 => rd v y H2 (AugF a C f N)) : AugK K tv rd f σ N (.ref a) H := ⟨a, C, dx, fs, v, rfl, h, c, nf, l, q⟩
theorem r_augF {f : Str} {fs fs' : List (Str × V)} (hs : Hd L H) (p : Put (pto a (.ins C dx fs)) (pto a (.ins C dx fs')) L L') (e : putF f z fs = fs') (hl : fs.length < 1000) (q : ∀ H', Hd L' H' → N H') : AugF a C f N z H := by
  obtain ⟨M, pa, _⟩ := p.pulls
  subst e
  exact ⟨dx, fs, hs.get pa, hl, q _ (hs.set p (fun z => z))⟩
theorem r_aAdd (q : Q (.int (i + j)) H) : rAdd (.int i) (.int j) H Q := ⟨i, j, rfl, rfl, q⟩
theorem r_aSub (q : Q (.int (i - j)) H) : rSub (.int i) (.int j) H Q := ⟨i, j, rfl, rfl, q⟩
theorem r_keys (q : te σ H (KeysK R)) : iKeys te σ H R := q
theorem r_keysK (h : H d = some (.frz o (.dK kvs))) (q : R (Itk d o kvs) H) : KeysK R (.ref d) H := ⟨d, o, rfl, .inl ⟨kvs, h, q⟩⟩
theorem r_dpop1 (q : ta σ H (IsDK fun a H1 => tb σ H1 (DPopK a Q))) : tDPop1 ta tb σ H Q := q
theorem r_dpopK (hs : Hd L H) (p : Put (pto a (.dK kvs)) (pto a (.dK (dropK kvs (.inl n)))) L L') (hv : valV kvs (.inl n) = some v) (q : ∀ H', Hd L' H' → Q v H') : DPopK a Q (.int n) H := by
  obtain ⟨M, pa, _⟩ := p.pulls
  exact ⟨kvs, .inl n, v, hs.get pa, rfl, hv, q _ (hs.set p (fun z => z))⟩
theorem r_lock (hs : Hd (pto d (.dK kvs) :: L) H) (q : ∀ od H', Hd (pto d (.frz od (.dK kvs)) :: L) H' → te σ H' (UnlK d od (.dK kvs) Q)) : tLockE te σ H Q :=
  ⟨d, .dK kvs, hs.get .here, trivial, fun od => q od _ (hs.set .here fun z => z)⟩
theorem r_unl {u : HO} (hs : Hd L H) (p : Put (pto d (.frz o u)) (pto d u) L L') (q : ∀ H', Hd L' H' → Q v H') : UnlK d o u Q v H := by
  obtain ⟨M, pa, _⟩ := p.pulls
  exact ⟨hs.get pa, q _ (hs.set p fun z => z)⟩
theorem r_lcK (P : Addr → Nat → Hp → Prop) (hh : Hd L H) (h0 : ∀ D H', Hd (pto D (.lst []) :: L) H' → P D 0 H') (hl : ∀ D i H, i ≤ kvs.length → P D i H → H d = some (.frz o (.dK kvs)))
    (hs : ∀ D i k v H, kvs[i]? = some (k, v) → P D i H → g (kV k) (wipe σ vs) H fun σ2 H2 => wipe σ2 vs = wipe σ vs ∧ tt σ2 H2 fun b H3 => if b = true then te σ2 H3 (AppK D (P D (i + 1))) else P D (i + 1) H3)
    (hd : ∀ D H, P D kvs.length H → Q (.ref D) H) : LcK g tt te vs σ Q (Itk d o kvs) H :=
  r_lcW walk_keys P hh h0 hl (fun D i x H H' hi p y => by
    obtain ⟨e, k, v, y, ex⟩ := y
    subst e ex
    exact hs D i k v _ y p) hd
end
/-- dict(xs) of pairs -/
def rDictP (K : PySem.W.Frag) : List V → Hp → VK → Prop := fun xs H Q => ∃ (a : Addr) (ps : List Addr) (kvs : List (Key × V)), xs = [.ref a] ∧ SqL K H a (ps.map V.ref) ∧ Paired (fun p kv => SqT K H p [kV kv.1, kv.2]) ps kvs ∧
    ∀ p, H p = none → Q (.ref p) (upd H p (.dK (mergeK [] kvs)))
theorem k_dictP {X : Cx} {K : PySem.W.Frag} (h : X.K = K) (hc : X.calm = true) : CallR X (.type "dict") (rDictP K) := h ▸ call_dictP hc
/-- many pairs: a key and what stands for it, tuples at ps -/
def pairsA (ps : List Addr) (kvs : List (Key × V)) : SA := fun H => Paired (fun p kv => H p = some (.tup [kV kv.1, kv.2])) ps kvs
theorem pr_mono {α β : Type} {R S : α → β → Prop} (f : ∀ a b, R a b → S a b) {xs : List α} {ys : List β} (h : Paired R xs ys) : Paired S xs ys := by
  induction h with
  | nil => exact .nil
  | cons a _ ih => exact .cons (f _ _ a) ih
theorem pr_snoc {α β : Type} {R : α → β → Prop} {a : α} {b : β} {xs : List α} {ys : List β} (h : Paired R xs ys) (r : R a b) : Paired R (xs ++ [a]) (ys ++ [b]) := by
  induction h with
  | nil => exact .cons r .nil
  | cons a _ ih => exact .cons a ih
theorem up_pairs (ps : List Addr) (kvs : List (Key × V)) : Up (pairsA ps kvs) := fun _ _ s h => pr_mono (fun _ _ z => s _ _ z) h
theorem pairs_nil {L : List SA} {H : Hp} (h : Hd L H) : Hd (pairsA [] [] :: L) H := ⟨fun _ => none, H, fun _ _ _ h => (nomatch h), fun _ _ h => (nomatch h), Sub.refl _, .nil, h⟩
theorem pairs_snoc {L : List SA} {H : Hp} {t : Addr} {k : Key} {v : V} {ps : List Addr} {kvs : List (Key × V)} (h : Hd (pto t (.tup [kV k, v]) :: pairsA ps kvs :: L) H) : Hd (pairsA (ps ++ [t]) (kvs ++ [(k, v)]) :: L) H :=
  Hd.join (up_pto _ _) (up_pairs _ _) h fun _ z1 z2 => pr_snoc z2 z1
theorem r_dictP {K : PySem.W.Frag} {H : Hp} {Q : VK} {a : Addr} {ps : List Addr} {kvs : List (Key × V)} {L L' : List SA} (hs : Hd L H) (h : SqL K H a (ps.map V.ref)) (p : Pull (pairsA ps kvs) L L') (q : ∀ p H', Hd (pto p (.dK (mergeK [] kvs)) :: L) H' → Q (.ref p) H') : rDictP K [.ref a] H Q :=
  ⟨a, ps, kvs, rfl, h, pr_mono (fun _ _ z => SqT.of z) (hs.at (up_pairs ps kvs) p), fun p n => q p _ (hs.new n)⟩
end Sl

set_option maxRecDepth 100000
set_option maxHeartbeats 1000000
namespace Sl
open PySem L2
/-! ### turns -/
def mI (a b : List (Int × Int)) : List (Int × Int) := b.foldl (fun acc e => putI acc e.1 e.2) a
theorem mergeK_dI : ∀ (b a : List (Int × Int)), mergeK (dI a) (dI b) = dI (mI a b)
  | [], _ => rfl
  | e :: r, a => by
    show mergeK (putK (dI a) (.inl e.1) (.int e.2)) (dI r) = dI (mI (putI a e.1 e.2) r)
    rw [putK_dI]
    exact mergeK_dI r _
def zI (d : List (Int × Int)) : List (Int × Int) := mI [] (d.map fun e => (e.1, 0))
theorem len_mI : ∀ (b a : List (Int × Int)), (mI a b).length ≤ a.length + b.length
  | [], a => by simp [mI]
  | e :: r, a => by
    have h := len_mI r (putI a e.1 e.2)
    have h2 := len_putI a e.1 e.2
    show (mI (putI a e.1 e.2) r).length ≤ _
    rw [List.length_cons]
    omega
theorem len_zI (d : List (Int × Int)) : (zI d).length ≤ d.length := by
  have h := len_mI (d.map fun e => (e.1, (0 : Int))) []
  rw [List.length_map] at h
  simpa [zI] using h
theorem getI_cons (e : Int × Int) (r : List (Int × Int)) (m : Int) : getI (e :: r) m = if e.1 = m then some e.2 else getI r m := by
  by_cases h : e.1 = m
  · rw [if_pos h]
    simp [getI, h]
  · rw [if_neg h]
    simp [getI, h]
theorem getI_mz : ∀ (d a : List (Int × Int)) (m : Int), getI (mI a (d.map fun e => (e.1, 0))) m = if (getI d m).isSome then some 0 else getI a m
  | [], _, _ => rfl
  | e :: r, a, m => by
    show getI (mI (putI a e.1 0) (r.map fun e => (e.1, 0))) m = _
    rw [getI_mz r, getI_put, getI_cons]
    by_cases h : e.1 = m
    · rw [if_pos h, if_pos h.symm]
      simp
    · rw [if_neg h, if_neg (show ¬ m = e.1 from fun z => h z.symm)]
theorem getI_z (d : List (Int × Int)) (m : Int) : getI (zI d) m = (getI d m).map fun _ => 0 := by
  unfold zI
  rw [getI_mz]
  cases getI d m <;> rfl
structure TU where
  q : List (List Int)
  dep : List (Int × Int)
  runs : Option Int
  rest : Int
  steps : Int
def runV : Option Int → V
  | none => .non
  | some n => .int n
def sliceOf (l : Nat) : Int := [2, 4, 8, 16].getD l 0
namespace TU
def new : TU := ⟨[[], [], [], []], [], none, 0, 0⟩
def row (u : TU) (l : Nat) : List Int := u.q.getD l []
def stand (u : TU) (n : Int) (l : Nat) : TU := { u with q := u.q.set l (u.row l ++ [n]), dep := putI u.dep n l }
def over (u : TU) (n : Int) (l : Nat) : TU := { u with q := u.q.set l ((u.row l).erase n), runs := none, rest := 0 }
def lev (u : TU) (n : Int) : Nat := ((getI u.dep n).getD 0).toNat
def next (u : TU) : TU := match u.runs with
  | some _ => u
  | none => match u.q.flatten.head? with
    | none => { u with rest := 0 }
    | some n => { u with runs := some n, rest := sliceOf (u.lev n) }
def lift (u : TU) : TU := ⟨[u.q.flatten, [], [], []], zI u.dep, none, 0, u.steps + 1⟩
def counted (u : TU) : TU := if (u.steps + 1) % 64 > 0 then { u with steps := u.steps + 1 } else u.lift
def wentN (u : TU) (n : Int) : TU := if u.rest - 1 = 0 then ((u.over n (u.lev n)).stand n (min 3 (u.lev n + 1))) else { u with rest := u.rest - 1 }
def passN (u : TU) (n : Int) : TU := (u.over n (u.lev n)).stand n (u.lev n)
def waitN (u : TU) (n : Int) : TU := u.over n (u.lev n)
def endN (u : TU) (n : Int) : TU := { u.over n (u.lev n) with dep := dropI u.dep n }
/-- all is as it should be -/
structure Ok (u : TU) : Prop where
  four : u.q.length = 4
  at_ : ∀ (l : Nat) (r : List Int) (n : Int), u.q[l]? = some r → n ∈ r → getI u.dep n = some (l : Int)
  lv : ∀ n l, getI u.dep n = some l → 0 ≤ l ∧ l < 4
  run : ∀ n, u.runs = some n → n ∈ u.q.flatten ∧ 1 ≤ u.rest
  nd : u.q.flatten.Nodup
end TU
/-! #### rows and their sum -/
theorem fl_snoc : ∀ {q : List (List Int)} {l : Nat} {r : List Int} {n : Int}, q[l]? = some r → (q.set l (r ++ [n])).flatten.Perm (n :: q.flatten)
  | [], _, _, _, h => by simp at h
  | a :: q, 0, r, n, h => by
    have e : a = r := Option.some.inj h
    subst e
    rw [List.set_cons_zero, List.flatten_cons, List.flatten_cons, List.append_assoc]
    exact List.perm_middle
  | a :: q, l + 1, r, n, h => by
    rw [List.set_cons_succ, List.flatten_cons, List.flatten_cons]
    exact (List.Perm.append_left a (fl_snoc (q := q) (l := l) h)).trans List.perm_middle
theorem fl_erase : ∀ {q : List (List Int)} {l : Nat} {r : List Int} {n : Int}, q[l]? = some r → n ∈ r → (n :: (q.set l (r.erase n)).flatten).Perm q.flatten
  | [], _, _, _, h, _ => by simp at h
  | a :: q, 0, r, n, h, m => by
    have e : a = r := Option.some.inj h
    subst e
    rw [List.set_cons_zero, List.flatten_cons, List.flatten_cons]
    exact (List.Perm.append_right _ (List.perm_cons_erase m).symm : ((n :: a.erase n) ++ _).Perm _)
  | a :: q, l + 1, r, n, h, m => by
    rw [List.set_cons_succ, List.flatten_cons, List.flatten_cons]
    exact (List.perm_middle.symm).trans (List.Perm.append_left a (fl_erase (q := q) (l := l) h m))
theorem row_at {u : TU} {l : Nat} {r : List Int} (h : u.q[l]? = some r) : u.row l = r := by
  unfold TU.row
  rw [List.getD_eq_getElem?_getD, h]
  rfl
theorem mem_fl {q : List (List Int)} {l : Nat} {r : List Int} {n : Int} (h : q[l]? = some r) (m : n ∈ r) : n ∈ q.flatten := List.mem_flatten.mpr ⟨r, List.mem_of_getElem? h, m⟩
theorem of_fl {q : List (List Int)} {n : Int} (m : n ∈ q.flatten) : ∃ (l : Nat) (r : List Int), q[l]? = some r ∧ n ∈ r := by
  obtain ⟨r, hr, hn⟩ := List.mem_flatten.mp m
  obtain ⟨l, hl⟩ := List.mem_iff_getElem?.mp hr
  exact ⟨l, r, hl, hn⟩
theorem len_row : ∀ {q : List (List Int)} {l : Nat} {r : List Int}, q[l]? = some r → r.length ≤ q.flatten.length
  | [], _, _, h => by simp at h
  | a :: q, 0, r, h => by
    have e : a = r := Option.some.inj h
    subst e
    rw [List.flatten_cons, List.length_append]
    omega
  | a :: q, l + 1, r, h => by
    have := len_row (q := q) (l := l) h
    rw [List.flatten_cons, List.length_append]
    omega
def rowsV (q : List (List Int)) : List (List V) := q.map fun r => r.map V.int
theorem rows_in {ls : List Addr} {q : List (List Int)} {L L' : List SA} {H : Hp} (h : Hd L H) (p : Pull (rowsA ls (rowsV q)) L L') {l : Nat} {r : List Int} (e : q[l]? = some r) : ∃ a, ls[l]? = some a ∧ H a = some (.lst (r.map V.int)) := by
  have hl : l < (rowsV q).length := by
    rw [rowsV, List.length_map]
    exact (List.getElem?_eq_some_iff.mp e).1
  obtain ⟨a, h1, h2⟩ := rows_at h p (i := l) hl
  refine ⟨a, h1, ?_⟩
  rw [h2]
  congr 2
  obtain ⟨hq, e⟩ := List.getElem?_eq_some_iff.mp e
  simp [rowsV, e]
theorem rows_put {ls : List Addr} {q : List (List Int)} {L : List SA} {H : Hp} (h : Hd (rowsA ls (rowsV q) :: L) H) {l : Nat} {a : Addr} (e : ls[l]? = some a) (r : List Int) : Hd (rowsA ls (rowsV (q.set l r)) :: L) (upd H a (.lst (r.map V.int))) := by
  have z := rows_set h e (r.map V.int)
  have e2 : (rowsV q).set l (r.map V.int) = rowsV (q.set l r) := by simp [rowsV, List.map_set]
  rw [e2] at z
  exact z
theorem rows_count {ls : List Addr} {q : List (List Int)} {L L' : List SA} {H : Hp} (h : Hd L H) (p : Pull (rowsA ls (rowsV q)) L L') : ls.length = q.length := by
  rw [rows_len h p, rowsV, List.length_map]
theorem atI_ref {ls : List Addr} {l : Nat} {a : Addr} (e : ls[l]? = some a) : atI (ls.map V.ref) (l : Int) = some (.ref a) := atI_nat (by simp [e])
theorem rows_cons {ls : List Addr} {q : List (List V)} {L : List SA} {H : Hp} {a : Addr} {r : List V} (h : Hd (pto a (.lst r) :: rowsA ls q :: L) H) : Hd (rowsA (a :: ls) (r :: q) :: L) H := by
  have no := rows_out h
  refine Hd.join (up_pto _ _) (up_rows _ _) h fun G z1 z2 => ⟨List.nodup_cons.mpr ⟨no, z2.1⟩, by simp [z2.2.1], fun i b s e1 e2 => ?_⟩
  cases i with
  | zero =>
    cases e1
    cases e2
    exact z1
  | succ i => exact z2.2.2 i b s e1 e2
theorem head_fl : ∀ {q : List (List Int)} {i : Nat} {h : Int} {t : List Int}, (∀ j : Nat, j < i → q[j]? = some []) → q[i]? = some (h :: t) → q.flatten.head? = some h
  | [], _, _, _, _, e => by simp at e
  | a :: q, 0, h, t, _, e => by
    have e := Option.some.inj e
    rw [e]
    rfl
  | a :: q, i + 1, h, t, z, e => by
    have e0 : a = [] := Option.some.inj (z 0 (Nat.succ_pos _))
    rw [e0]
    exact head_fl (q := q) (i := i) (fun j hj => z (j + 1) (by omega)) e
theorem none_fl : ∀ {q : List (List Int)}, (∀ j : Nat, j < q.length → q[j]? = some []) → q.flatten = []
  | [], _ => rfl
  | a :: q, z => by
    have e0 : a = [] := Option.some.inj (z 0 (Nat.succ_pos _))
    rw [e0]
    exact none_fl (q := q) fun j hj => z (j + 1) (by rw [List.length_cons]; omega)
theorem take_fl {q : List (List Int)} {i : Nat} {r : List Int} (e : q[i]? = some r) : (q.take i).flatten ++ r = (q.take (i + 1)).flatten := by
  rw [List.take_add_one, e, List.flatten_append]
  simp
theorem len_take_fl (q : List (List Int)) (i : Nat) : (q.take i).flatten.length ≤ q.flatten.length := by
  have : q.flatten = (q.take i).flatten ++ (q.drop i).flatten := by rw [← List.flatten_append, List.take_append_drop]
  rw [this, List.length_append]
  omega
theorem sl_at {l : Nat} (h : l < 4) : atI [V.int 2, V.int 4, V.int 8, V.int 16] (l : Int) = some (V.int (sliceOf l)) := by
  have e : l = 0 ∨ l = 1 ∨ l = 2 ∨ l = 3 := by omega
  rcases e with rfl | rfl | rfl | rfl <;> rfl
theorem lev_at {u : TU} {n : Int} {l : Nat} (h : getI u.dep n = some (l : Int)) : u.lev n = l := by
  unfold TU.lev
  rw [h]
  rfl
theorem len_over {u : TU} {n : Int} {l : Nat} {r : List Int} (h : u.q[l]? = some r) (m : n ∈ r) : (u.over n l).q.flatten.length + 1 = u.q.flatten.length := by
  have := (fl_erase h m).length_eq
  rw [List.length_cons] at this
  unfold TU.over
  rw [row_at h]
  exact this
theorem len_stand {u : TU} {n : Int} {l : Nat} (h : l < u.q.length) : (u.stand n l).q.flatten.length = u.q.flatten.length + 1 := by
  have hr : u.q[l]? = some u.q[l] := by simp [h]
  have := (fl_snoc (n := n) hr).length_eq
  rw [List.length_cons] at this
  unfold TU.stand
  rw [row_at hr]
  exact this
theorem four_over {u : TU} {n : Int} {l : Nat} : (u.over n l).q.length = u.q.length := List.length_set
theorem four_stand {u : TU} {n : Int} {l : Nat} : (u.stand n l).q.length = u.q.length := List.length_set
end Sl

set_option maxRecDepth 100000
set_option maxHeartbeats 1000000
namespace Sl
open PySem L2
/-! ### turns: the plain law -/
theorem getI_old {d : List (Int × Int)} {n l0 l : Int} (h : getI d n = some l0) : (putI d n l).length = d.length := by
  have e : (d.any fun e => decide (e.1 = n)) = true := by
    rw [List.any_eq_true]
    unfold getI at h
    obtain ⟨e, he, _⟩ := Option.map_eq_some_iff.mp h
    exact ⟨e, List.mem_of_find?_eq_some he, by simpa using List.find?_some he⟩
  unfold putI
  rw [if_pos e, List.length_map]
theorem TU.Ok.rest {u : TU} (o : u.Ok) (r : Int) (h : u.runs = none ∨ 1 ≤ r) : ({ u with rest := r } : TU).Ok :=
  ⟨o.four, o.at_, o.lv, fun n e => ⟨(o.run n e).1, h.elim (fun z => by have e : u.runs = some n := e; rw [z] at e; cases e) id⟩, o.nd⟩
theorem sl_pos {l : Nat} (h : l < 4) : 2 ≤ sliceOf l := by
  have e : l = 0 ∨ l = 1 ∨ l = 2 ∨ l = 3 := by omega
  rcases e with rfl | rfl | rfl | rfl <;> decide
theorem TU.Ok.next {u : TU} (o : u.Ok) : u.next.Ok := by
  unfold TU.next
  cases hr : u.runs with
  | some n => exact o
  | none =>
    cases hh : u.q.flatten.head? with
    | none =>
      have z := o.rest 0 (.inl hr)
      dsimp only at z ⊢
      rw [hr] at z
      exact z
    | some n =>
      have hm := List.mem_of_mem_head? hh
      obtain ⟨l, r, e, m⟩ := of_fl hm
      have hg := o.at_ l r n e m
      have hl := o.lv n _ hg
      have hs := sl_pos (l := l) (by omega)
      refine ⟨o.four, o.at_, o.lv, fun k e => ?_, o.nd⟩
      cases e
      refine ⟨hm, ?_⟩
      show 1 ≤ sliceOf (u.lev n)
      rw [lev_at hg]
      omega
theorem TU.Ok.over {u : TU} {n : Int} {l : Nat} {r : List Int} (o : u.Ok) (h : u.q[l]? = some r) (m : n ∈ r) : (u.over n l).Ok := by
  have p := fl_erase h m
  have e : u.over n l = { u with q := u.q.set l (r.erase n), runs := none, rest := 0 } := by
    unfold TU.over
    rw [row_at h]
  rw [e]
  refine ⟨by rw [List.length_set]; exact o.four, fun j s x e1 e2 => ?_, o.lv, fun _ e => (nomatch e), ?_⟩
  · by_cases z : j = l
    · subst z
      rw [List.getElem?_set_self (List.getElem?_eq_some_iff.mp h).1] at e1
      cases e1
      exact o.at_ j r x h (List.mem_of_mem_erase e2)
    · rw [List.getElem?_set_ne (Ne.symm z)] at e1
      exact o.at_ j s x e1 e2
  · exact (List.nodup_cons.mp ((List.Perm.nodup_iff p).mpr o.nd)).2
theorem out_over {u : TU} {n : Int} {l : Nat} {r : List Int} (o : u.Ok) (h : u.q[l]? = some r) (m : n ∈ r) : n ∉ (u.over n l).q.flatten := by
  have p := fl_erase h m
  unfold TU.over
  rw [row_at h]
  exact (List.nodup_cons.mp ((List.Perm.nodup_iff p).mpr o.nd)).1
theorem pm_over {u : TU} {n : Int} {l : Nat} {r : List Int} (h : u.q[l]? = some r) (m : n ∈ r) : (n :: (u.over n l).q.flatten).Perm u.q.flatten := by
  have p := fl_erase h m
  unfold TU.over
  rw [row_at h]
  exact p
theorem pm_stand {u : TU} {n : Int} {l : Nat} (h : l < u.q.length) : (u.stand n l).q.flatten.Perm (n :: u.q.flatten) := by
  have hr : u.q[l]? = some u.q[l] := by simp [h]
  unfold TU.stand
  rw [row_at hr]
  exact fl_snoc hr
theorem TU.Ok.stand {u : TU} {n : Int} {l : Nat} (o : u.Ok) (hl : l < 4) (no : n ∉ u.q.flatten) : (u.stand n l).Ok := by
  have hq : l < u.q.length := by rw [o.four]; exact hl
  have hr : u.q[l]? = some u.q[l] := by simp [hq]
  have p := pm_stand (u := u) (n := n) hq
  refine ⟨by rw [four_stand]; exact o.four, fun j s x e1 e2 => ?_, fun x k e => ?_, fun x e => ?_, (List.Perm.nodup_iff p).mpr (List.nodup_cons.mpr ⟨no, o.nd⟩)⟩
  · unfold TU.stand at e1 ⊢
    rw [row_at hr] at e1
    show getI (putI u.dep n l) x = _
    rw [getI_put]
    have old : ∀ (j : Nat) s, u.q[j]? = some s → x ∈ s → (if x = n then some (l : Int) else getI u.dep x) = some (j : Int) := fun j s e1 e2 => by
      have nx : x ≠ n := fun z => no (z ▸ mem_fl e1 e2)
      rw [if_neg nx]
      exact o.at_ j s x e1 e2
    by_cases z : j = l
    · subst z
      rw [List.getElem?_set_self hq] at e1
      cases e1
      rcases List.mem_append.mp e2 with e2 | e2
      · exact old j _ hr e2
      · rw [if_pos (List.mem_singleton.mp e2)]
    · rw [List.getElem?_set_ne (Ne.symm z)] at e1
      exact old j s e1 e2
  · have e : getI (putI u.dep n l) x = some k := e
    rw [getI_put] at e
    split at e
    · cases e
      omega
    · exact o.lv x k e
  · have z := o.run x e
    exact ⟨p.symm.subset (List.mem_cons_of_mem _ z.1), z.2⟩
theorem TU.Ok.drop {u : TU} {n : Int} (o : u.Ok) (no : n ∉ u.q.flatten) : ({ u with dep := dropI u.dep n } : TU).Ok := by
  refine ⟨o.four, fun j s x e1 e2 => ?_, fun x k e => ?_, o.run, o.nd⟩
  · show getI (dropI u.dep n) x = _
    rw [getI_drop, if_neg (fun z => by subst z; exact no (mem_fl e1 e2))]
    exact o.at_ j s x e1 e2
  · have e : getI (dropI u.dep n) x = some k := e
    rw [getI_drop] at e
    split at e
    · cases e
    · exact o.lv x k e
theorem fl_lift (f : List Int) : [f, [], [], []].flatten = f := by simp
theorem fl_counted (u : TU) : u.counted.q.flatten = u.q.flatten := by
  unfold TU.counted
  split
  · rfl
  · exact fl_lift _
theorem TU.Ok.counted {u : TU} (o : u.Ok) : u.counted.Ok := by
  unfold TU.counted
  split
  · exact ⟨o.four, o.at_, o.lv, o.run, o.nd⟩
  · refine ⟨rfl, fun j s x e1 e2 => ?_, fun x k e => ?_, fun _ e => (nomatch e), by show [u.q.flatten, [], [], []].flatten.Nodup; rw [fl_lift]; exact o.nd⟩
    · have e1 : [u.q.flatten, [], [], []][j]? = some s := e1
      show getI (zI u.dep) x = _
      have hj : j < 4 := (List.getElem?_eq_some_iff.mp e1).1
      have ej : j = 0 ∨ j = 1 ∨ j = 2 ∨ j = 3 := by omega
      rcases ej with rfl | rfl | rfl | rfl
      · cases e1
        obtain ⟨l, r, h1, h2⟩ := of_fl e2
        rw [getI_z, o.at_ l r x h1 h2]
        rfl
      · cases e1
        cases e2
      · cases e1
        cases e2
      · cases e1
        cases e2
    · have e : getI (zI u.dep) x = some k := e
      rw [getI_z] at e
      obtain ⟨_, _, e⟩ := Option.map_eq_some_iff.mp e
      omega
theorem dp_counted (u : TU) : u.counted.dep.length ≤ u.dep.length := by
  unfold TU.counted
  split
  · exact Nat.le_refl _
  · exact len_zI _
theorem gt_counted {u : TU} {n l : Int} (h : getI u.dep n = some l) : ∃ l', getI u.counted.dep n = some l' := by
  unfold TU.counted
  split
  · exact ⟨l, h⟩
  · exact ⟨0, by show getI (zI u.dep) n = _; rw [getI_z, h]; rfl⟩
/-! #### one step, told as a relation -/
inductive StepR (v : TU) (R Wt : List Int) (h : Int) : TU → List Int → List Int → Prop
  | went : StepR v R Wt h (v.wentN h).counted R Wt
  | pass : StepR v R Wt h (v.passN h).counted R Wt
  | wait : 1 < R.length → StepR v R Wt h (v.waitN h).counted (R.erase h) (Wt ++ [h])
  | gone : 1 < R.length → StepR v R Wt h (v.endN h).counted (R.erase h) Wt
structure Inv (u : TU) (R Wt : List Int) (last : Int) : Prop where
  ok : u.Ok
  pm : u.q.flatten.Perm R
  nd : (R ++ Wt).Nodup
  le : ∀ x ∈ R ++ Wt, x ≤ last
  wd : ∀ x ∈ Wt, ∃ l, getI u.dep x = some l
  ne : R ≠ []
  few : R.length + Wt.length ≤ 16
  dp : (u.dep.length : Int) ≤ last
theorem lev_of {u : TU} {h : Int} (o : u.Ok) (m : h ∈ u.q.flatten) : ∃ (l : Nat) (r : List Int), getI u.dep h = some (l : Int) ∧ u.q[l]? = some r ∧ h ∈ r ∧ l < 4 := by
  obtain ⟨l, r, e, m⟩ := of_fl m
  have hg := o.at_ l r h e m
  have := o.lv h _ hg
  exact ⟨l, r, hg, e, m, by omega⟩
/-- what the four steps are before they are counted -/
theorem went_fl {v : TU} {h : Int} (o : v.Ok) (hr : v.runs = some h) : (v.wentN h).Ok ∧ (v.wentN h).q.flatten.Perm v.q.flatten ∧ (v.wentN h).dep.length = v.dep.length ∧ (∀ x l, getI v.dep x = some l → ∃ l', getI (v.wentN h).dep x = some l') := by
  obtain ⟨l, r, hg, e, m, hl⟩ := lev_of o (o.run h hr).1
  unfold TU.wentN
  rw [lev_at hg]
  split
  · refine ⟨(o.over e m).stand (by omega) (out_over o e m), ?_, getI_old hg, fun x k ex => ?_⟩
    · exact (pm_stand (u := v.over h l) (by rw [four_over, o.four]; omega)).trans (pm_over e m)
    · show ∃ l', getI (putI v.dep h _) x = some l'
      rw [getI_put]
      split
      · exact ⟨_, rfl⟩
      · exact ⟨k, ex⟩
  · rename_i z
    have := (o.run h hr).2
    exact ⟨o.rest _ (.inr (by omega)), .refl _, rfl, fun x k ex => ⟨k, ex⟩⟩
theorem pass_fl {v : TU} {h : Int} (o : v.Ok) (hr : v.runs = some h) : (v.passN h).Ok ∧ (v.passN h).q.flatten.Perm v.q.flatten ∧ (v.passN h).dep.length = v.dep.length ∧ (∀ x l, getI v.dep x = some l → ∃ l', getI (v.passN h).dep x = some l') := by
  obtain ⟨l, r, hg, e, m, hl⟩ := lev_of o (o.run h hr).1
  unfold TU.passN
  rw [lev_at hg]
  refine ⟨(o.over e m).stand (by omega) (out_over o e m), ?_, getI_old hg, fun x k ex => ?_⟩
  · exact (pm_stand (u := v.over h l) (by rw [four_over, o.four]; omega)).trans (pm_over e m)
  · show ∃ l', getI (putI v.dep h _) x = some l'
    rw [getI_put]
    split
    · exact ⟨_, rfl⟩
    · exact ⟨k, ex⟩
theorem wait_fl {v : TU} {h : Int} (o : v.Ok) (hr : v.runs = some h) : (v.waitN h).Ok ∧ (h :: (v.waitN h).q.flatten).Perm v.q.flatten ∧ h ∉ (v.waitN h).q.flatten ∧ (v.waitN h).dep = v.dep := by
  obtain ⟨l, r, hg, e, m, hl⟩ := lev_of o (o.run h hr).1
  unfold TU.waitN
  rw [lev_at hg]
  exact ⟨o.over e m, pm_over e m, out_over o e m, rfl⟩
theorem next_same (u : TU) : u.next.q = u.q ∧ u.next.dep = u.dep ∧ u.next.steps = u.steps := by
  unfold TU.next
  split
  · exact ⟨rfl, rfl, rfl⟩
  · split <;> exact ⟨rfl, rfl, rfl⟩
theorem Inv.next {u : TU} {R Wt : List Int} {last : Int} (i : Inv u R Wt last) : Inv u.next R Wt last ∧ ∃ h, u.next.runs = some h ∧ h ∈ R := by
  obtain ⟨e1, e2, e3⟩ := next_same u
  refine ⟨⟨i.ok.next, by rw [e1]; exact i.pm, i.nd, i.le, by rw [e2]; exact i.wd, i.ne, i.few, by rw [e2]; exact i.dp⟩, ?_⟩
  unfold TU.next
  cases hr : u.runs with
  | some h => exact ⟨h, hr, i.pm.subset (i.ok.run h hr).1⟩
  | none =>
    cases hh : u.q.flatten.head? with
    | none =>
      rw [List.head?_eq_none_iff] at hh
      have := i.pm
      rw [hh] at this
      exact (i.ne (List.nil_perm.mp this)).elim
    | some n => exact ⟨n, rfl, i.pm.subset (List.mem_of_mem_head? hh)⟩
theorem inv_step {v u' : TU} {R Wt R' Wt' : List Int} {last h : Int} (i : Inv v R Wt last) (hr : v.runs = some h) (s : StepR v R Wt h u' R' Wt') : Inv u' R' Wt' last := by
  have hm : h ∈ R := i.pm.subset (i.ok.run h hr).1
  have hc : ∀ u : TU, u.dep.length ≤ v.dep.length → ((u.counted.dep.length : Nat) : Int) ≤ last := fun u hl => by
    have := dp_counted u
    have := i.dp
    omega
  have pe : (R ++ Wt).Perm (h :: (R.erase h ++ Wt)) := List.Perm.append_right Wt (List.perm_cons_erase hm)
  have el : (R.erase h).length + 1 = R.length := by
    have := (List.perm_cons_erase hm).length_eq
    rw [List.length_cons] at this
    exact this.symm
  have ndr : (R ++ Wt).Nodup := i.nd
  have nd2 := List.nodup_cons.mp ((List.Perm.nodup_iff pe).mp i.nd)
  cases s with
  | went =>
    obtain ⟨a, b, c, d⟩ := went_fl i.ok hr
    refine ⟨a.counted, by rw [fl_counted]; exact b.trans i.pm, i.nd, i.le, fun x hx => ?_, i.ne, i.few, hc _ (Nat.le_of_eq c)⟩
    obtain ⟨l, e⟩ := i.wd x hx
    obtain ⟨l2, e2⟩ := d x l e
    exact gt_counted e2
  | pass =>
    obtain ⟨a, b, c, d⟩ := pass_fl i.ok hr
    refine ⟨a.counted, by rw [fl_counted]; exact b.trans i.pm, i.nd, i.le, fun x hx => ?_, i.ne, i.few, hc _ (Nat.le_of_eq c)⟩
    obtain ⟨l, e⟩ := i.wd x hx
    obtain ⟨l2, e2⟩ := d x l e
    exact gt_counted e2
  | wait hl =>
    obtain ⟨a, b, c, d⟩ := wait_fl i.ok hr
    have pw : (R.erase h ++ (Wt ++ [h])).Perm (R ++ Wt) := by
      rw [← List.append_assoc]
      exact (List.perm_append_comm).trans pe.symm
    refine ⟨a.counted, ?_, (List.Perm.nodup_iff pw).mpr i.nd, fun x hx => i.le x (pw.subset hx), fun x hx => ?_, fun z => ?_, ?_, hc _ (Nat.le_of_eq (by rw [d]))⟩
    · rw [fl_counted]
      exact (List.Perm.cons_inv (b.trans (i.pm.trans (List.perm_cons_erase hm))))
    · rcases List.mem_append.mp hx with hx | hx
      · obtain ⟨l, e⟩ := i.wd x hx
        exact gt_counted (by rw [d]; exact e)
      · obtain ⟨l, r, hg, _⟩ := lev_of i.ok (i.ok.run h hr).1
        rw [List.mem_singleton.mp hx]
        exact gt_counted (by rw [d]; exact hg)
    · rw [z] at el
      simp at el
      omega
    · have := i.few
      rw [List.length_append, List.length_singleton]
      omega
  | gone hl =>
    obtain ⟨a, b, c, d⟩ := wait_fl i.ok hr
    have ho : (v.endN h).Ok := by
      have z := a.drop c
      rw [d] at z
      exact z
    refine ⟨ho.counted, ?_, nd2.2, fun x hx => i.le x (pe.symm.subset (List.mem_cons_of_mem _ hx)), fun x hx => ?_, fun z => ?_, ?_, hc _ (len_dropI _ _)⟩
    · rw [fl_counted]
      exact (List.Perm.cons_inv (b.trans (i.pm.trans (List.perm_cons_erase hm))))
    · obtain ⟨l, e⟩ := i.wd x hx
      refine gt_counted (l := l) ?_
      show getI (dropI v.dep h) x = some l
      rw [getI_drop, if_neg (fun z => ?_)]
      · exact e
      · subst z
        exact nd2.1 (List.mem_append_right _ hx)
    · rw [z] at el
      simp at el
      omega
    · have := i.few
      omega
theorem inv_stand {u : TU} {R Wt R' Wt' : List Int} {last last' n : Int} {l : Nat} (i : Inv u R Wt last) (hl : l < 4) (no : n ∉ R) (er : R' = R ++ [n]) (pw : (R' ++ Wt').Nodup) (le : ∀ x ∈ R' ++ Wt', x ≤ last') (sw : ∀ x ∈ Wt', x ∈ Wt) (few : R'.length + Wt'.length ≤ 16) (dp : ((putI u.dep n l).length : Int) ≤ last') : Inv (u.stand n l) R' Wt' last' := by
  subst er
  have nf : n ∉ u.q.flatten := fun z => no (i.pm.subset z)
  refine ⟨i.ok.stand hl nf, ?_, pw, le, fun x hx => ?_, by simp, few, dp⟩
  · exact ((pm_stand (by rw [i.ok.four]; exact hl)).trans (i.pm.cons n)).trans (List.perm_append_comm (l₁ := [n]) (l₂ := R))
  · obtain ⟨k, e⟩ := i.wd x (sw x hx)
    show ∃ l', getI (putI u.dep n l) x = some l'
    rw [getI_put]
    split
    · exact ⟨_, rfl⟩
    · exact ⟨k, e⟩
end Sl

set_option maxRecDepth 100000
set_option maxHeartbeats 1000000
namespace Sl
open PySem L2 PyProof PyProof.Rows
/-! ### x[i] op= e -/
/-- an item of a list at a place from the front -/
def rGetL (K : PySem.W.Frag) : V → V → Hp → VK → Prop := fun x y H Q => ∃ p xs i z, x = V.ref p ∧ y = .int i ∧ 0 ≤ i ∧ SqL K H p xs ∧ atI xs i = some z ∧ Q z H
theorem get_list {X : Cx} : PGet X (rGetL X.K) := by
  intro pins s σ H x y v u Q I rx ry h
  obtain ⟨p, xs, i, z, rfl, rfl, h0, hq, he, q⟩ := h
  cases rx
  obtain ⟨t, rfl⟩ := ry
  obtain ⟨its, r, pl, hz⟩ := I.list hq
  obtain ⟨j, h1, h2, h3, h4, h5⟩ := atI_get he
  obtain ⟨w, ew, rw'⟩ := r.get h2
  have hl := r.length
  have hn := line63
  have fin : EP X pins σ Q w s := ⟨z, H, I, rw', q⟩
  have hj : i.toNat = j := by
    rw [seqIndex_of h0 h5] at h1
    exact Option.some.inj h1
  exact wpAny_getItem_list pl.isList h0 (by omega) (by rw [hj]; simpa using ew) fin
theorem k_getL {X : Cx} {K : PySem.W.Frag} (h : X.K = K) : PGet X (rGetL K) := h ▸ get_list
section
variable {K : PySem.W.Frag} {σ : L2.St} {H : Hp} {D : Ends} {to ti te : TE} {Q : VK} {i j : Int} {a : Addr} {xs : List V} {z : V}
theorem r_augS {tget : V → V → Hp → VK → Prop} {tip : TIp} {tset : TSet} (q : to σ H fun o H1 => ti σ H1 fun i H2 => tget o i H2 fun x H3 => te σ H3 fun y H4 => tip x y H4 fun z H5 => tset o i z H5 fun H6 => D.nx σ H6) : tAugS to ti te tget tip tset D σ H := q
theorem r_ipI {f : Int → Int → Int} (q : Q (.int (f i j)) H) : ipI f (.int i) (.int j) H Q := ⟨i, j, rfl, rfl, q⟩
theorem r_getL (h : SqL K H a xs) (h0 : 0 ≤ i) (hi : atI xs i = some z) (q : Q z H) : rGetL K (.ref a) (.int i) H Q := ⟨a, xs, i, z, rfl, rfl, h0, h, hi, q⟩
theorem r_setLH {L L' : List SA} {N : Hp → Prop} {n : Nat} {v : V} (hs : Hd L H) (p : Put (pto a (.lst xs)) (pto a (.lst (xs.set n v))) L L') (hn : n < xs.length) (q : ∀ H', Hd L' H' → N H') : rSetU (.ref a) (.int (n : Int)) v H N := r_setL hs p hn q
end
/-! ### chains -/
def ChK (tc : TE) (r' : R2) (y : V) (σ : L2.St) (Q : VK) (z : V) (H : Hp) : Prop := ∃ k, z = .bl k ∧ (if k = true then tc σ H fun w' H4 => r' y w' H4 Q else Q (.bl false) H)
section
variable {σ : L2.St} {H : Hp} {ta tb tc : TE} {r r' : R2} {Q : VK} {b : Bool} {y : V}
theorem r_chain (q : ta σ H fun x H1 => tb σ H1 fun y H2 => r x y H2 (ChK tc r' y σ Q)) : tChain r r' ta tb tc σ H Q := q
theorem r_chK (q : if b = true then tc σ H fun w' H4 => r' y w' H4 Q else Q (.bl false) H) : ChK tc r' y σ Q (.bl b) H := ⟨b, rfl, q⟩
end
/-! ### the first place of a number -/
theorem r_indexI {K : PySem.W.Frag} {H : Hp} {Q : VK} {a : Addr} {ns : List Int} {n : Int} (h : SqL K H a (ns.map V.int)) (hm : n ∈ ns) (q : ∀ j : Nat, ns[j]? = some n → (∀ m : Nat, m < j → ns[m]? ≠ some n) → Q (.int (j : Nat)) H) : rIndex K (.ref a) [.int n] H Q := by
  obtain ⟨j, h1, h2⟩ := first_at hm
  refine ⟨a, ns.map V.int, .int n, j, .int n, rfl, rfl, h, rfl, flat_ints ns, by simp [h1], by simp [eqV], fun m z hm2 hz => ?_, q j h1 h2⟩
  rw [List.getElem?_map] at hz
  obtain ⟨k, hk, rfl⟩ := Option.map_eq_some_iff.mp hz
  have ne : k ≠ n := fun e => h2 m hm2 (by rw [hk, e])
  simp [eqV, ne]
theorem inV_ints (n : Int) (ns : List Int) : inV (.int n) (ns.map V.int) = decide (n ∈ ns) := by
  unfold inV
  rw [List.any_map]
  by_cases m : n ∈ ns
  · rw [decide_eq_true m, List.any_eq_true]
    exact ⟨n, m, by simp [eqV]⟩
  · rw [decide_eq_false m, List.any_eq_false]
    intro k hk
    have ne : k ≠ n := fun e => m (e ▸ hk)
    simp [eqV, ne]
/-! ### lists at addresses, or none -/
def orA (xs : List V) (ws : List (Option (List Int))) : SA := fun H => xs.length = ws.length ∧ ∀ (i : Nat) w, ws[i]? = some w → match w with
  | none => xs[i]? = some .non
  | some r => ∃ a, xs[i]? = some (.ref a) ∧ H a = some (.lst (r.map V.int))
theorem up_or (xs : List V) (ws : List (Option (List Int))) : Up (orA xs ws) := fun _ _ s h => ⟨h.1, fun i w e => by
  have z := h.2 i w e
  cases w with
  | none => exact z
  | some r =>
    obtain ⟨a, z1, z2⟩ := z
    exact ⟨a, z1, s _ _ z2⟩⟩
theorem or_nones {L : List SA} {H : Hp} (h : Hd L H) (n : Nat) : Hd (orA (List.replicate n .non) (List.replicate n none) :: L) H := by
  refine ⟨fun _ => none, H, fun _ _ _ h => (nomatch h), fun _ _ h => (nomatch h), Sub.refl _, ⟨by simp, fun i w e => ?_⟩, h⟩
  rw [List.getElem?_replicate] at e ⊢
  split at e
  · cases e
    rename_i hi
    show (if i < n then some V.non else none) = some .non
    rw [if_pos hi]
  · cases e
theorem or_len {xs : List V} {ws : List (Option (List Int))} {L L' : List SA} {H : Hp} (h : Hd L H) (p : Pull (orA xs ws) L L') : xs.length = ws.length := (h.at (up_or xs ws) p).1
theorem or_at {xs : List V} {ws : List (Option (List Int))} {L L' : List SA} {H : Hp} (h : Hd L H) (p : Pull (orA xs ws) L L') {i : Nat} {r : List Int} (e : ws[i]? = some (some r)) : ∃ a, xs[i]? = some (.ref a) ∧ H a = some (.lst (r.map V.int)) := (h.at (up_or xs ws) p).2 i _ e
theorem or_set {xs : List V} {ws : List (Option (List Int))} {L : List SA} {H : Hp} {a : Addr} {r : List Int} {i : Nat} (h : Hd (pto a (.lst (r.map V.int)) :: orA xs ws :: L) H) (hi : i < ws.length) : Hd (orA (xs.set i (.ref a)) (ws.set i (some r)) :: L) H := by
  refine Hd.join (up_pto _ _) (up_or _ _) h fun G z1 z2 => ⟨by simp [z2.1], fun j w e => ?_⟩
  by_cases q : j = i
  · subst q
    rw [List.getElem?_set_self hi] at e
    cases e
    exact ⟨a, List.getElem?_set_self (by rw [z2.1]; exact hi), z1⟩
  · rw [List.getElem?_set_ne (Ne.symm q)] at e
    rw [List.getElem?_set_ne (Ne.symm q)]
    exact z2.2 j w e
theorem or_snoc {xs : List V} {ws : List (Option (List Int))} {L : List SA} {H : Hp} {a : Addr} {r : List Int} (h : Hd (pto a (.lst (r.map V.int)) :: orA xs ws :: L) H) : Hd (orA (xs ++ [.ref a]) (ws ++ [some r]) :: L) H := by
  refine Hd.join (up_pto _ _) (up_or _ _) h fun G z1 z2 => ⟨by simp [z2.1], fun j w e => ?_⟩
  by_cases q : j < ws.length
  · rw [List.getElem?_append_left q] at e
    rw [List.getElem?_append_left (by rw [z2.1]; exact q)]
    exact z2.2 j w e
  · have hj : j < (ws ++ [some r]).length := (List.getElem?_eq_some_iff.mp e).1
    have ej : j = ws.length := by
      rw [List.length_append, List.length_singleton] at hj
      omega
    subst ej
    rw [List.getElem?_append_right (Nat.le_refl _), Nat.sub_self] at e
    cases e
    exact ⟨a, by rw [List.getElem?_append_right (Nat.le_of_eq z2.1), z2.1, Nat.sub_self]; rfl, z1⟩
end Sl

set_option maxRecDepth 100000
set_option maxHeartbeats 1000000
namespace PySem
open Sem (wp)
/-! ### sum(lists, []) -/
section
variable {prog : Program} {w : World} {A : Around} {R : Result → Shared → Prop} {I : Addr} {fp wr : List Addr} {n : Nat} {P : Nat → Value → Prop} {St : Nat → Heap → Prop}
/-- what the lists hold, one behind the other -/
def catTo (cont : Nat → List Value) : Nat → List Value
  | 0 => []
  | i + 1 => catTo cont i ++ cont i
theorem codeAny_sum_loopL (W : Walks prog w A.in1 I fp wr n P St) (hb : Heap) (ads : Nat → Addr) (cont : Nat → List Value) (hval : ∀ i v, P i v → v = .ref (ads i))
    (hcont : ∀ i, i < n → ∃ c, hb.get? (ads i) = some { cls := .type "list", dict := none, data := .seq (cont i).toArray c, slots := #[] }) (hsz : ∀ i, i ≤ n → (catTo cont i).length ≤ sizeLine)
    (S : Addr) (hSf : S ∉ fp) (hSb : hb.objs.size ≤ S) (hwr : ∀ b ∈ wr, hb.objs.size ≤ b) (hwS : ∀ b ∈ wr, b ≤ S) :
    ∀ (k i : Nat) (s : Shared) (tot : Addr) (c ct : Nat), n - i = k → i ≤ n → St i s.heap → (∀ b o, hb.get? b = some o → s.heap.get? b = some o) → s.heap.get? S = some { cls := .type "list", dict := none, data := .seq #[.ref tot] c, slots := #[] } →
    s.heap.get? tot = some { cls := .type "list", dict := none, data := .seq (catTo cont i).toArray ct, slots := #[] } → tot ∉ wr → tot ≠ S →
    (∀ h' tk tot' ct', (∀ b o, hb.get? b = some o → h'.get? b = some o) → h'.get? tot' = some { cls := .type "list", dict := none, data := .seq (catTo cont n).toArray ct', slots := #[] } → ((tot' = tot ∧ i = n) ∨ hb.objs.size ≤ tot') → R (.ok (.ret (.ref tot'))) { s with heap := h', toks := tk }) →
    codeAny (model prog w) A (.builtin "sum.loop" ⟨[.ref I, .ref S, rawInt 2, rawInt 0], []⟩) R s := by
  have hSw : S ∉ wr := fun h => hSf (W.sub _ h)
  have old : ∀ {b : Addr} {o : Obj}, hb.get? b = some o → b < hb.objs.size := fun e => Heap.lt_size e
  intro k
  induction k with
  | zero =>
    intro i s tot c ct hk hi hst hkeep hS hT hTw hTS hR
    have hin : i = n := by omega
    subst hin
    refine codeAny_builtin F.entry_sum_loop ?_
    rw [Around.under_plainId F.plain_sum_loop _]
    show wpAny _ A.in1 (seqItems? (.ref S) >>= _) _ _ s
    refine wpAny_bind (wpAny_seqItems hS rfl ?_)
    show wpAny _ A.in1 (tryCatch (pyNext (.ref I)) _ >>= _) _ _ s
    refine wpAny_bind (wpAny_tryCatch (W.done s _ _ hst fun h' tk hk' => ?_))
    exact wpAny_pure (hR h' tk tot ct (fun b o e => hk' b o (fun m => absurd (hwr b m) (Nat.not_le.mpr (Heap.lt_size e))) (hkeep b o e)) (hk' tot _ hTw hT) (.inl ⟨rfl, rfl⟩))
  | succ k ih =>
    intro i s tot c ct hk hi hst hkeep hS hT hTw hTS hR
    have hlt : i < n := by omega
    refine codeAny_builtin F.entry_sum_loop ?_
    rw [Around.under_plainId F.plain_sum_loop _]
    show wpAny _ A.in1 (seqItems? (.ref S) >>= _) _ _ s
    refine wpAny_bind (wpAny_seqItems hS rfl ?_)
    show wpAny _ A.in1 (tryCatch (pyNext (.ref I)) _ >>= _) _ _ s
    refine wpAny_bind (wpAny_tryCatch (W.item i s _ _ hlt hst fun v h' tk hP hst' hk' => ?_))
    obtain rfl := hval i v hP
    have hS' := hk' S _ hSw hS
    have hT' := hk' tot _ hTw hT
    obtain ⟨cc, hc⟩ := hcont i hlt
    have hC' := hk' _ _ (fun m => absurd (hwr _ m) (Nat.not_le.mpr (Heap.lt_size hc))) (hkeep _ _ hc)
    have hl := hsz (i + 1) hlt
    show wpAny _ A.in1 ((holding [Value.ref (ads i)] (binaryOp .Add (.ref tot) (.ref (ads i)))).attempt >>= _) _ _ _
    refine wpAny_bind (wpAny_attempt (wpAny_holding (PySem.P.add_list hT' hC' ?_ (by
      rw [List.size_toArray, List.size_toArray]
      have e : (catTo cont (i + 1)).length = (catTo cont i).length + (cont i).length := by rw [catTo, List.length_append]
      omega))))
    have ea : (catTo cont i).toArray ++ (cont i).toArray = (catTo cont (i + 1)).toArray := by rw [catTo]; simp
    rw [ea]
    have hSlt : S < h'.objs.size := Heap.lt_size hS'
    have pu : ∀ b o, h'.get? b = some o → (h'.push { cls := .type "list", data := .seq (catTo cont (i + 1)).toArray }).get? b = some o := fun b o e => Heap.get?_push_of_some _ e
    have hS2 := pu _ _ hS'
    have hN : (h'.push { cls := .type "list", data := .seq (catTo cont (i + 1)).toArray }).get? h'.objs.size = some { cls := .type "list", data := .seq (catTo cont (i + 1)).toArray } := Heap.get?_push_size _ rfl
    have neN : S ≠ h'.objs.size := Nat.ne_of_lt hSlt
    show wpAny _ A.in1 (updateSeq S (fun _ => #[.ref h'.objs.size]) >>= _) _ _ _
    refine wpAny_bind ?_
    refine wpAny_updateSeq hS2 rfl ?_
    have hS3 := Heap.get?_update_self (Obj.mapSeq fun _ => #[Value.ref h'.objs.size]) hS2 rfl
    refine wpAny_bind (wpAny_letGo ?_)
    refine wpAny_bind ?_
    have oth : ∀ b o, S ≠ b → h'.get? b = some o → (((h'.push { cls := .type "list", data := .seq (catTo cont (i + 1)).toArray }).update S (Obj.mapSeq fun _ => #[Value.ref h'.objs.size])).update S (Obj.mapSeq fun _ => #[Value.ref h'.objs.size])).get? b = some o := fun b o ne e =>
      (Heap.get?_update_other _ _ ne).trans ((Heap.get?_update_other _ _ ne).trans (pu b o e))
    have kb : ∀ b o, hb.get? b = some o → h'.get? b = some o := fun b o e => hk' b o (fun m => absurd (hwr b m) (Nat.not_le.mpr (Heap.lt_size e))) (hkeep b o e)
    refine wpAny_updateSeq hS3 rfl (wpAny_pure ⟨plainId_quiet F.plain_sum_loop _, ih (i + 1) _ h'.objs.size _ _ (by omega) hlt (W.frame _ _ _ hst' fun b hbf o e => oth b o (fun z => hSf (z ▸ hbf)) e)
      (fun b o e => oth b o (fun z => absurd hSb (Nat.not_le.mpr (z ▸ Heap.lt_size e))) (kb b o e)) (Heap.get?_update_self _ hS3 rfl) ((Heap.get?_update_other _ _ neN).trans ((Heap.get?_update_other _ _ neN).trans hN))
      (fun m => absurd (hwS _ m) (Nat.not_le.mpr hSlt)) (Ne.symm neN) fun h'' tk'' tot' ct' k2 hT2 ho => hR h'' tk'' tot' ct' k2 hT2 (.inr ?_)⟩)
    rcases ho with ⟨z, -⟩ | z
    · rw [z]
      exact Nat.le_trans hSb (Nat.le_of_lt hSlt)
    · exact z
end

section
variable {prog : Program} {w : World} {A : Around} {E : Value → Shared → Prop} {s : Shared}
theorem args_sum2 (a b : Value) : argsOk "sum" ⟨[a, b], []⟩ := by unfold argsOk; kernel_rfl
theorem call_sum_walkL {x : Value} {st : Addr} {cs : Nat} {Q : Value → Shared → Prop} (hst0 : s.heap.get? st = some { cls := .type "list", dict := none, data := .seq #[] cs, slots := #[] })
    (h : wpAny (model prog w) A.in1 (pyIter x) (fun it s₂ => ∃ (fp : List Addr) (n : Nat) (P : Nat → Value → Prop) (St : Nat → Heap → Prop) (ads : Nat → Addr) (cont : Nat → List Value), it = .ref s.heap.objs.size ∧ Walks prog w A.in1 s.heap.objs.size fp [s.heap.objs.size] n P St ∧ St 0 s₂.heap ∧ (∀ b ∈ fp, b < s₂.heap.objs.size) ∧ s.heap.objs.size < s₂.heap.objs.size ∧
      (∀ i v, P i v → v = .ref (ads i)) ∧ (∀ b o, s.heap.get? b = some o → s₂.heap.get? b = some o) ∧
      (∀ i, i < n → ∃ c, s.heap.get? (ads i) = some { cls := .type "list", dict := none, data := .seq (cont i).toArray c, slots := #[] }) ∧ (∀ i, i ≤ n → (catTo cont i).length ≤ sizeLine) ∧
      ∀ h' tk tot' ct', (∀ b o, s.heap.get? b = some o → h'.get? b = some o) → h'.get? tot' = some { cls := .type "list", dict := none, data := .seq (catTo cont n).toArray ct', slots := #[] } → ((tot' = st ∧ 0 = n) ∨ s.heap.objs.size ≤ tot') → Q (.ref tot') { s₂ with heap := h', toks := tk }) E s) :
    wpAny (model prog w) A (call (.builtin "sum") [x, .ref st]) Q E s := by
  refine call_function_tree F.kind_sum F.plain_sum F.entry_sum (args_sum2 _ _) ?_
  unfold Builtin.«sum»
  simp only [List.length_cons, List.length_nil]
  rw [if_neg (by decide)]
  refine wpAny_bind (wpAny_of_eq (show Builtin.Builtins.bindParams "sum" ["start"] 0 { pos := [.ref st] } = pure [some (.ref st)] from rfl) ?_)
  refine wpAny_bind (wpAny_mono h (fun it s₂ h₂ => ?_) fun _ _ e => e)
  obtain ⟨fp, n, P, St, ads, cont, rfl, W, hst, hfp, hI, hval, hkeep, hcont, hsz, hQ⟩ := h₂
  have ty : s₂.TypeIs (.ref st) "list" := ⟨_, hkeep _ _ hst0, rfl⟩
  refine wpAny_bind (wpAny_pure ?_)
  simp only [List.forIn_cons, List.forIn_nil]
  refine wpAny_bind (wpAny_bind (wpAny_bind (wpAny_isInstance (T := "list") (b := false) ty F.sub_list_str ?_)))
  simp only [Bool.false_eq_true, if_false]
  refine wpAny_pure (wpAny_bind (wpAny_bind (wpAny_isInstance (T := "list") (b := false) ty F.sub_list_bytes ?_)))
  simp only [Bool.false_eq_true, if_false]
  refine wpAny_pure (wpAny_bind (wpAny_bind (wpAny_isInstance (T := "list") (b := false) ty F.sub_list_bytearray ?_)))
  simp only [Bool.false_eq_true, if_false]
  refine wpAny_pure (wpAny_pure ?_)
  refine wpAny_bind (wpAny_newObj_type ?_)
  have hSf : s₂.heap.objs.size ∉ fp := fun hm => Nat.lt_irrefl _ (hfp _ hm)
  have hstl := Heap.lt_size hst0
  refine wpAny_pure ⟨plainId_quiet F.plain_sum_loop _, codeAny_sum_loopL W s.heap ads cont hval hcont hsz s₂.heap.objs.size hSf (Nat.le_of_lt hI) (fun b hb => by rw [List.mem_singleton.mp hb]; exact Nat.le_refl _) (fun b hb => by rw [List.mem_singleton.mp hb]; exact Nat.le_of_lt hI)
    n 0 _ st _ cs rfl (Nat.zero_le _) (W.frame _ _ _ hst fun b _ o e => Heap.get?_push_of_some _ e) (fun b o e => Heap.get?_push_of_some _ (hkeep b o e)) (Heap.get?_push_size _ rfl) (Heap.get?_push_of_some _ (hkeep _ _ hst0)) (fun m => absurd (List.mem_singleton.mp m) (Nat.ne_of_lt hstl)) (Nat.ne_of_lt (Nat.lt_trans hstl hI)) fun h' tk tot' ct' k2 hT ho => ?_⟩
  exact hQ h' tk tot' ct' k2 hT ho
end
end PySem
namespace Sl
open PySem L2 PyProof PyProof.Rows
/-- sum(lists, []) of a list or tuple of one or more lists -/
def rSumL (K : PySem.W.Frag) : List V → Hp → VK → Prop := fun xs H Q => ∃ (a st : Addr) (ls : List Addr) (q : List (List V)), xs = [.ref a, .ref st] ∧ (SqL K H a (ls.map V.ref) ∨ SqT K H a (ls.map V.ref)) ∧ H st = some (.lst []) ∧ ls.length = q.length ∧
  (∀ (i : Nat) b r, ls[i]? = some b → q[i]? = some r → H b = some (.lst r)) ∧ q ≠ [] ∧ q.flatten.length ≤ sizeLine ∧ ∀ p, H p = none → Q (.ref p) (upd H p (.lst q.flatten))
def contOf (h : Heap) (ls : List Addr) (i : Nat) : List Value := match ls[i]? with
  | some a => match h.get? a with
    | some o => match o.data with
      | .seq xs _ => xs.toList
      | _ => []
    | none => []
  | none => []
theorem vals_cat {q : List (List V)} {cont : Nat → List Value} (h : ∀ (i : Nat) r, q[i]? = some r → Vals r (cont i)) : ∀ i, i ≤ q.length → Vals (q.take i).flatten (catTo cont i)
  | 0, _ => by
    rw [List.take_zero]
    exact .nil
  | i + 1, hi => by
    have e : q[i]? = some q[i] := by simp [show i < q.length from hi]
    rw [List.take_add_one, e, List.flatten_append, catTo]
    have z := (vals_cat h i (by omega)).append (h i _ e)
    simpa using z
theorem cr_sumL {X : Cx} (hc : X.calm = true) : CallR X (.builtin "sum") (rSumL X.K) := by
  intro pins s σ H xs us Q I r h
  obtain ⟨a, st, ls, q, rfl, hq, hst, hlen, hrow, hne, hsz, qq⟩ := h
  obtain ⟨u, u2, rfl, rx, ry⟩ := vals2 r
  cases rx
  cases ry
  obtain ⟨-, its0, cs, r0, -, e0⟩ := I.lstM hst
  cases r0
  have hcv : ∀ (i : Nat) r, q[i]? = some r → Vals r (contOf s.heap ls i) ∧ ∃ c, s.heap.get? (ls.getD i 0) = some { cls := .type "list", dict := none, data := .seq (contOf s.heap ls i).toArray c, slots := #[] } := fun i r hr => by
    have hi : i < ls.length := by rw [hlen]; exact (List.getElem?_eq_some_iff.mp hr).1
    have hb : ls[i]? = some ls[i] := by simp [hi]
    obtain ⟨-, its, n, rv, -, e⟩ := I.lstM (hrow i _ r hb hr)
    have ec : contOf s.heap ls i = its := by
      unfold contOf
      rw [hb]
      dsimp only
      rw [e]
    rw [ec, List.getD_eq_getElem?_getD, hb]
    exact ⟨rv, n, e⟩
  have vt : ∀ i, i ≤ q.length → Vals (q.take i).flatten (catTo (contOf s.heap ls) i) := vals_cat fun i r hr => (hcv i r hr).1
  have hs2 : ∀ i, i ≤ q.length → (catTo (contOf s.heap ls) i).length ≤ sizeLine := fun i hi => by
    rw [← (vt i hi).length]
    have e : q.flatten = (q.take i).flatten ++ (q.drop i).flatten := by rw [← List.flatten_append, List.take_append_drop]
    rw [e, List.length_append] at hsz
    omega
  have hc2 : ∀ i, i < q.length → ∃ c, s.heap.get? (ls.getD i 0) = some { cls := .type "list", dict := none, data := .seq (contOf s.heap ls i).toArray c, slots := #[] } := fun i hi => (hcv i q[i] (by simp [hi])).2
  have qpos : 0 < q.length := List.length_pos_iff.mpr hne
  have fin : ∀ h' tk tot' ct', (∀ b o, s.heap.get? b = some o → h'.get? b = some o) → h'.get? tot' = some { cls := .type "list", dict := none, data := .seq (catTo (contOf s.heap ls) q.length).toArray ct', slots := #[] } → ((tot' = st ∧ 0 = q.length) ∨ s.heap.objs.size ≤ tot') → EP X pins σ Q (.ref tot') { s with heap := h', toks := tk } := fun h' tk tot' ct' k hT ho => by
    have ho : s.heap.objs.size ≤ tot' := ho.elim (fun z => by omega) id
    have hv := vt q.length (Nat.le_refl _)
    rw [List.take_length] at hv
    exact ⟨.ref tot', upd H tot' (.lst q.flatten), I.laid (t' := tk) k ho (show ObjOk X.prog X.w _ _ _ (.lst q.flatten) from ⟨hsz, _, ct', hv, hT⟩), rfl, qq _ (I.hok.fresh ho)⟩
  have items : ∀ (i : Nat) (v : Value), (ls.map Value.ref).toArray[i]? = some v → v = .ref (ls.getD i 0) := fun i v e => by
    rw [List.getElem?_toArray, List.getElem?_map] at e
    obtain ⟨b, hb, rfl⟩ := Option.map_eq_some_iff.mp e
    rw [List.getD_eq_getElem?_getD, hb]
    rfl
  have hn : (ls.map Value.ref).toArray.size = q.length := by rw [List.size_toArray, List.length_map, hlen]
  rcases hq with hq | hq
  · obtain ⟨its, rv, pl, hz⟩ := I.list hq
    have ei := refs_at rv
    subst ei
    have il := pl.isList
    have hlt : a < s.heap.objs.size := by obtain ⟨_, e, _⟩ := il; exact Heap.lt_size e
    refine call_sum_walkL e0 (wpAny_pyIter_list il ?_)
    refine ⟨_, _, _, _, fun i => ls.getD i 0, contOf s.heap ls, rfl, Walks.list (A := X.A.in1) (I.ok.hd hc) _ a (Nat.ne_of_lt hlt) (ls.map Value.ref).toArray, ⟨⟨_, Heap.get?_push_size _ rfl, rfl, rfl⟩, il.push _⟩, fun b hb => ?_, ?_, items, fun b o e => Heap.get?_push_of_some _ e, ?_, ?_, ?_⟩
    · show b < (s.heap.push _).objs.size
      rw [Heap.size_push]
      rcases List.mem_cons.mp hb with rfl | hb
      · exact Nat.lt_succ_self _
      · rw [List.mem_singleton.mp hb]
        exact Nat.lt_succ_of_lt hlt
    · show _ < (s.heap.push _).objs.size
      rw [Heap.size_push]
      exact Nat.lt_succ_self _
    · rw [hn]
      exact hc2
    · rw [hn]
      exact hs2
    · rw [hn]
      exact fin
  · obtain ⟨its, rv, pl, hz⟩ := I.tuple hq
    have ei := refs_at rv
    subst ei
    have hlt : a < s.heap.objs.size := by obtain ⟨_, e, _⟩ := id pl; exact Heap.lt_size e
    refine call_sum_walkL e0 (wpAny_pyIter_tuple (show s.heap.IsTuple a (ls.map Value.ref).toArray from pl) ?_)
    refine ⟨_, _, _, _, fun i => ls.getD i 0, contOf s.heap ls, rfl, Walks.tuple (A := X.A.in1) (I.ok.hd hc) _ a (Nat.ne_of_lt hlt) (ls.map Value.ref).toArray, ⟨⟨_, Heap.get?_push_size _ rfl, rfl, rfl⟩, ?_⟩, fun b hb => ?_, ?_, items, fun b o e => Heap.get?_push_of_some _ e, ?_, ?_, ?_⟩
    · obtain ⟨o, e, z⟩ := id pl
      exact ⟨o, Heap.get?_push_of_some _ e, z⟩
    · show b < (s.heap.push _).objs.size
      rw [Heap.size_push]
      rcases List.mem_cons.mp hb with rfl | hb
      · exact Nat.lt_succ_self _
      · rw [List.mem_singleton.mp hb]
        exact Nat.lt_succ_of_lt hlt
    · show _ < (s.heap.push _).objs.size
      rw [Heap.size_push]
      exact Nat.lt_succ_self _
    · rw [hn]
      exact hc2
    · rw [hn]
      exact hs2
    · rw [hn]
      exact fin
theorem k_sumL {X : Cx} {K : PySem.W.Frag} (h : X.K = K) (hc : X.calm = true) : CallR X (.builtin "sum") (rSumL K) := h ▸ cr_sumL hc
end Sl

set_option maxRecDepth 100000
set_option maxHeartbeats 1000000
namespace Sl
open PySem L2
theorem flat_rows (q : List (List Int)) : (rowsV q).flatten = q.flatten.map V.int := by
  unfold rowsV
  rw [List.map_flatten]
theorem r_sumL {K : PySem.W.Frag} {H : Hp} {Q : VK} {a st : Addr} {ls : List Addr} {q : List (List Int)} {L L1 L2 : List SA} (hs : Hd L H) (h : SqL K H a (ls.map V.ref) ∨ SqT K H a (ls.map V.ref)) (p1 : Pull (pto st (.lst [])) L L1) (p2 : Pull (rowsA ls (rowsV q)) L L2) (hne : q ≠ []) (hsz : q.flatten.length ≤ 100000)
    (qq : ∀ p H', Hd (pto p (.lst (q.flatten.map V.int)) :: L) H' → Q (.ref p) H') : rSumL K [.ref a, .ref st] H Q := by
  refine ⟨a, st, ls, rowsV q, rfl, h, hs.get p1, rows_len hs p2, fun i b r h1 h2 => rows_get hs p2 h1 h2, fun e => hne ?_, ?_, fun p n => ?_⟩
  · unfold rowsV at e
    simpa using e
  · rw [flat_rows, List.length_map]
    exact sz hsz
  · rw [flat_rows]
    exact qq p _ (hs.new n)
end Sl

set_option maxRecDepth 100000
set_option maxHeartbeats 1000000
namespace Sl
open PySem L2
theorem filter_out {n : Int} : ∀ {r : List Int}, n ∉ r → r.filter (fun x => !decide (x = n)) = r
  | [], _ => rfl
  | a :: r, h => by
    have ha : a ≠ n := fun e => h (e ▸ List.mem_cons_self)
    rw [List.filter_cons, if_pos (by simp [ha]), filter_out fun m => h (List.mem_cons_of_mem _ m)]
theorem erase_filter {n : Int} : ∀ {r : List Int}, r.Nodup → r.erase n = r.filter (fun x => !decide (x = n))
  | [], _ => rfl
  | a :: r, h => by
    have hc := List.nodup_cons.mp h
    by_cases e : a = n
    · subst e
      rw [List.erase_cons_head, List.filter_cons, if_neg (by simp), filter_out hc.1]
    · rw [List.erase_cons_tail (by simpa using e), List.filter_cons, if_pos (by simp [e]), erase_filter hc.2]
theorem fl_filter {n : Int} : ∀ {q : List (List Int)} {l : Nat} {r : List Int}, q.flatten.Nodup → q[l]? = some r → n ∈ r → (q.set l (r.erase n)).flatten = q.flatten.filter (fun x => !decide (x = n))
  | [], _, _, _, h, _ => by simp at h
  | a :: q, 0, r, nd, h, m => by
    have e : a = r := Option.some.inj h
    subst e
    rw [List.flatten_cons] at nd
    have z := List.nodup_append.mp nd
    rw [List.set_cons_zero, List.flatten_cons, List.flatten_cons, List.filter_append, erase_filter z.1, filter_out (r := q.flatten) fun m2 => z.2.2 n m n m2 rfl]
  | a :: q, l + 1, r, nd, h, m => by
    rw [List.flatten_cons] at nd
    have z := List.nodup_append.mp nd
    have hm : n ∈ q.flatten := mem_fl (q := q) (l := l) h m
    rw [List.set_cons_succ, List.flatten_cons, List.flatten_cons, List.filter_append, fl_filter (q := q) (l := l) z.2.1 h m, filter_out (r := a) fun m2 => z.2.2 n m2 n hm rfl]
end Sl

set_option maxRecDepth 100000
set_option maxHeartbeats 1000000
namespace Sl
open PySem L2 PySem.Spec PyProof.Rows
/-! ### defs that are called while no text of an object is under way (then repr of lists is known) -/
structure FnG (P : Program) (w : World) (K : PySem.W.Frag) (mg : Str → Option Value) (base : Heap) (C : CXT) (k : Nat) (f : Addr) (fd : FuncData) (ps : List Str) (sp : Sp) : Prop where
  lenG : ∀ xs G R F, sp xs G R F → xs.length = ps.length
  runG : ∀ (B : Around) (out : List Env) (z : Shared) (G : Hp) (ar : Args) (ws : List Value) (xs : List V) (R : VK) (F : XK), B.guards = some [] → Room k B →
    Env0 P w K mg base B out z G → BindsTo z fd ar (ps.zip ws) → Vals xs ws → sp xs G R F → codeAny (model P w) B (.call (.ref f) ar) (CR C out P w G z R F) z
theorem FnG.of {P : Program} {w : World} {K : PySem.W.Frag} {mg : Str → Option Value} {base : Heap} {C : CXT} {k : Nat} {f : Addr} {fd : FuncData} {ps : List Str} {sp : Sp} (F : FnOk P w K mg base C k f fd ps sp) : FnG P w K mg base C k f fd ps sp :=
  ⟨F.len, fun B out z G ar ws xs R E _ hr => F.run B out z G ar ws xs R E hr⟩
section
variable {X : Cx} {C : CXT} {k : Nat} {f : Addr} {fd : FuncData} {ps : List Str} {sp : Sp} {dvs : List V} {ds : List Value} {E : XK} {x : Str} {p pos : Pos} {e : Expr} {es : List Expr} {t : TA}
theorem runs_g {pn : List (Addr × Obj)} {τ : L2.St} {G : Hp} {z : Shared} {R : VK} {ws : List Value} {xs : List V} (F : FnG X.prog X.w X.K X.mg X.base C k f fd ps sp) (gd : X.A.guards = some []) (hr : Room k X.A) (bd : Binds X.K fd ps ds) (dv : Vals dvs ds) (ex : Passes C X E)
    (J : L2.Inv X pn τ G z) (rv : Vals xs ws) (q : sp (xs ++ dvs) G R E) : wpAny (model X.prog X.w) X.A (call (.ref f) ws) (EP X pn τ R) X.xe z := by
  have rv2 := rv.append dv
  have hl : (ws ++ ds).length = ps.length := rv2.length.symm.trans (F.lenG _ _ _ _ q)
  have run := F.runG X.A X.stack z G ⟨ws, []⟩ (ws ++ ds) (xs ++ dvs) R E gd hr J.env0 (bd z ws J.kIn hl) rv2 q
  refine wpAny_call (codeAny_mono run ?_)
  intro out z2 done
  match out, done with
  | .error er, done => exact ex pn τ G z er z2 J done
  | .ok (.ret u), done => exact J.after done
theorem pe_callG (F : FnG X.prog X.w X.K X.mg X.base C k f fd ps sp) (gd : X.A.guards = some []) (hr : Room k X.A) (gl : Gl X x) (at_ : X.mg x = some (.ref f)) (kp : PySem.W.keepIn X.K (.ref f) = true) (bd : Binds X.K fd ps ds) (dv : Vals dvs ds) (ex : Passes C X E)
    (as_ : PA X (e :: es) t) (ndb : (x == ("__debug__" : Str)) = false := by decide) (st : starEach (e :: es) X.env = (false, eval e X.env) :: starEach es X.env := by rfl) (np : (backTo pos (starEach es X.env)).any (·.1) = false := by rfl) :
    PE X (.Call (.Name x p) (e :: es) [] pos) (tCall sp dvs E t) :=
  ⟨fun pn z τ G R J q => wpAny_Call_Name_kw (ld_glob J gl at_
    (PySem.W.callWith_K (h₀ := X.base) J.ok.mod.kin kp (thn (as_.run pos pn z τ G _ J q) fun _ _ ⟨_, _, J2, rv, q2⟩ => ⟨J2.kIn, runs_g F gd hr bd dv ex J2 rv q2⟩) st np) ndb)⟩
theorem pe_callG0 (F : FnG X.prog X.w X.K X.mg X.base C k f fd ps sp) (gd : X.A.guards = some []) (hr : Room k X.A) (gl : Gl X x) (at_ : X.mg x = some (.ref f)) (kp : PySem.W.keepIn X.K (.ref f) = true) (bd : Binds X.K fd ps ds) (dv : Vals dvs ds) (ex : Passes C X E)
    (ndb : (x == ("__debug__" : Str)) = false := by decide) : PE X (.Call (.Name x p) [] [] pos) (tCall sp dvs E tNil) :=
  ⟨fun _ _ _ _ _ J q => wpAny_Call_Name_kw (ld_glob J gl at_ (PySem.W.callWith_K0 J.kIn kp (runs_g (ws := []) F gd hr bd dv ex J .nil q)) ndb)⟩
/-! #### repr -/
def rRepr (K : PySem.W.Frag) : List V → Hp → VK → Prop := fun xs H Q => (∃ i, xs = [.int i] ∧ i.natAbs.log2 < 1920 ∧ Q (.str (toString i)) H) ∨
  (xs = [.non] ∧ Q (.str "None") H) ∨ ∃ a d, xs = [.ref a] ∧ Dp K H (.ref a) d ∧ SeqAt.shaped d = true ∧ d.showable = true ∧ d.shown.length ≤ sizeLine ∧ Q (.str d.shown) H
theorem u_repr (gd : X.A.guards = some []) (hu : X.A.units + 66 < cLine) : CallR X (.builtin "repr") (rRepr X.K) := by
  intro pn z τ G xs ws R J rv q
  rcases q with ⟨i, rfl, hi, q⟩ | ⟨rfl, q⟩ | ⟨a, d, rfl, hd, sd, sh, hl, q⟩
  · obtain ⟨u, rfl, t, rfl⟩ := vals1 rv
    exact PySem.P.repr_of_int hi ⟨.str _, G, J.tok _, ⟨_, rfl⟩, q⟩
  · obtain ⟨u, rfl, r2⟩ := vals1 rv
    obtain rfl : u = Value.none := r2
    exact PySem.P.repr_of_none ⟨.str _, G, J.tok _, ⟨_, rfl⟩, q⟩
  · obtain ⟨u, rfl, r⟩ := vals1 rv
    obtain rfl : u = Value.ref a := r
    obtain ⟨as_, rd⟩ := Dp.reads J d (.ref a) (.ref a) hd rfl
    have dp := SeqAt.depth_of_shaped sd
    have hy : d.hasDict = false := PyData.hasDict_of_canLay _ (SeqAt.canLay_of_shaped sd)
    exact repr_of_reads' rd sh (PyData.noDict_hsm hy) gd (by omega) (fun _ _ e => e) (fun h2 u tk kp => ⟨.str _, G, J.kept kp, ⟨_, rfl⟩, q⟩) hl
theorem k_repr {K : PySem.W.Frag} (e : X.K = K) (gd : X.A.guards = some []) (hu : X.A.units + 66 < cLine) : CallR X (.builtin "repr") (rRepr K) := e ▸ u_repr gd hu
end
/-! #### the walk of a def -/
theorem okG {P : Program} {w : World} {K : PySem.W.Frag} {mg : Str → Option Value} {base : Heap} {x qual : Str} {st : Stmt} {f : Addr} {fd : FuncData} {N ps : List Str} {k : Nat} {sp : Sp} (F : Fun K x qual st f fd) (S : FnScope N ps (defScope st)) (len : ∀ xs G R E, sp xs G R E → xs.length = ps.length)
    (walk : ∀ (cv : Value) (B : Around) (out : List Env) (z : Shared) (G : Hp) (xs : List V) (R : VK) (E : XK), (B.deeper (envOfC qual (defScope st) z.heap.objs.size f cv)).guards = some [] → Room k (B.deeper (envOfC qual (defScope st) z.heap.objs.size f cv)) → sp xs G R E →
      ∃ t, PSs (cxOf CX0 P w K mg base N qual (defScope st) f cv B out z G E).nox (defBody st) t ∧ t { nx := fun _ G' => R .non G', rt := R } (start N xs) G) : FnG P w K mg base CX0 (k + 1) f fd ps sp := by
  obtain ⟨oc, od, kV, doc, pm, an, cv, ct, osl, rfl, lk, hcd⟩ := F.ex
  constructor
  · exact len
  intro B out z G ar ws xs R E gd hr e0 bd rv q
  have ll := len xs G R E q
  have kz : K.In z.heap := e0.mod.kin.keeps fun b o e => (e0.bs b o e).1
  have lm : z.heap.NoLimit := e0.mod.nolimit.keeps fun b o e => (e0.bs b o e).1
  have knd : ∀ y ∈ ps.zip ws, (defScope st).names.lookup y.1 = some .local ∨ ((defScope st).names.lookup y.1 = some .cell ∧ ((cellsFrom (z.heap.objs.size + 1) (defScope st).names []).lookup y.1).isSome = true) := by
    intro y hy
    obtain ⟨n, v⟩ := y
    cases S.par n (List.of_mem_zip hy).1 with
    | inl q => exact Or.inl q
    | inr q => exact Or.inr ⟨q, PySem.W.cellsFrom_some _ _ _ (Or.inl q)⟩
  apply codeAny_call_function hr.depth (kz _ _ lk) rfl S.co S.gen rfl (PySem.W.codeRec_of kz hcd) (bd _ _ _ _ ?_)
  apply wpAny_newFunctionEnv_cells S.kind knd
  intro env he z1 mk
  subst he
  refine ⟨lm.keeps mk.toInCall.keep, codeAny_func ?_⟩
  obtain ⟨t, ht, tq⟩ := walk cv B out z G xs R E gd (hr.deeper _) q
  have J := inv_start (CX := CX0) (E := E) S hr.hd e0 ll rv mk
  refine wpAny_mono (ht.nox.run [] z1 (start N xs) G _ J tq) ?_ (fun _ _ hs => hs)
  intro fl z2 hs
  match fl, hs with
  | .ret u, ⟨v, τ, G2, J2, rv2, q2⟩ => exact ⟨v, G2, J2.os, J2.bare, J2.base, J2.hok, rv2, q2⟩
  | .next, ⟨τ, G2, J2, q2⟩ => exact ⟨V.non, G2, J2.os, J2.bare, J2.base, J2.hok, rfl, q2⟩
  | .brk, ⟨_, _, _, q2⟩ => exact False.elim q2
  | .cont, ⟨_, _, _, q2⟩ => exact False.elim q2
/-! #### the law's own call -/
theorem lawG {P : Program} {w : World} {K : PySem.W.Frag} {mg mb : Str → Option Value} {k : Nat} {fa a : Addr} {fd : FuncData} {x : Str} {sp : Sp} {z : Shared} {us : List Value} {ns : List Int}
    (kz : K.In z.heap) (gns : z.heap.Ns mainGlobals mg) (bns : z.heap.Ns builtinsNs mb) (bt : ∀ y : Str, y ≠ "__name__" → mb y = bootBuiltins y) (lm : z.heap.NoLimit) (g0 : z.gens = #[])
    (at_ : z.heap.get? a = some { cls := .type "list", data := .seq us.toArray }) (ia : IntsAre us ns) (few : ns.length ≤ sizeLine) (room : Room k callerA)
    (F : ∀ base : Heap, K.In base → base.Ns mainGlobals mg → FnG P w K mg base CX0 k fa fd [x] sp) (bd : ∀ (s : Shared) (u : Value), BindsTo s fd ⟨[u], []⟩ [(x, u)])
    (start : ∀ G : Hp, Only G → SqL K G a (ns.map V.int) → sp [.ref a] G (fun v _ => v = .bl true) fun _ _ _ => False) :
    codeAny (model P w) callerA (.call (.ref fa) ⟨[.ref a], []⟩) (fun r s' => r = .ok (.ret (.bool true)) ∧ OldK z.heap s'.heap ∧ s'.os = z.os ∧ AllBare s'.gens) z := by
  have rv := vals_ints ia
  have cnt := ia.length
  have main : ∀ G : Hp, Only G → SqL K G a (ns.map V.int) → HOk P w G z.heap → (∀ b, G b ≠ none → b = a) → (G a ≠ none → K.lookup a = none) →
      codeAny (model P w) callerA (.call (.ref fa) ⟨[.ref a], []⟩) (fun r s' => r = .ok (.ret (.bool true)) ∧ OldK z.heap s'.heap ∧ s'.os = z.os ∧ AllBare s'.gens) z := by
    intro G only sq ok own free
    have low : ∀ {b : Addr} {o : Obj}, z.heap.get? b = some o → G b = none → (hidT z.heap G).get? b = some o := fun e n => hidT_get e n
    have noDict : ∀ {b : Addr} {o : Obj} {es : Array DictEntry} {ep : Nat}, z.heap.get? b = some o → o.data = .dict es ep → G b = none := by
      intro b o es ep e d
      apply Classical.byContradiction
      intro q
      cases own b q
      rw [at_] at e
      cases e
      cases d
    have low2 : ∀ {ad : Addr} {m : Str → Option Value}, z.heap.Ns ad m → (hidT z.heap G).Ns ad m := fun hm => by
      obtain ⟨o, es, ep, e, d, r⟩ := hm
      exact ⟨o, es, ep, low e (noDict e d), d, r⟩
    have kb : K.In (hidT z.heap G) := by
      intro b o e
      refine low (kz b o e) (Classical.byContradiction fun q => ?_)
      cases own b q
      rw [free q] at e
      cases e
    have md : Mod K mg (hidT z.heap G) := ⟨kb, low2 gns, ⟨mb, low2 bns, bt⟩, let ⟨mc, h1, h2⟩ := lm; ⟨mc, low2 h1, h2⟩⟩
    have e0 : Env0 P w K mg (hidT z.heap G) callerA [] z G :=
      ⟨rfl, md, fun _ _ e => of_hidT e, Nat.le_of_eq (hidT_size _ _), trivial, fun b hb => (nomatch (show b ∈ ([] : List Addr) from hb)), ok, .of_eq g0⟩
    have run := (F _ kb (low2 gns)).runG callerA [] z G ⟨[.ref a], []⟩ [.ref a] [.ref a] _ _ rfl room e0 (bd z (.ref a)) (.cons rfl .nil) (start G only sq)
    refine codeAny_mono run ?_
    intro r s2 done
    match r, done with
    | .error e, done => exact (show False from done).elim
    | .ok (.ret u), ⟨v, G2, os, bare, un, ok2, rv2, q⟩ =>
      cases (show v = .bl true from q)
      cases (show u = Value.bool true from rv2)
      refine ⟨rfl, OldK.of_keep ?_, os, bare⟩
      intro b o e
      cases q : G b with
      | none => exact un.keep b o e q (fun i => nomatch (show b ∈ ([] : List Addr) from i)) (by simp)
      | some u =>
        cases only b with
        | inl n => rw [q] at n; cases n
        | inr n =>
          obtain ⟨ob, xs, n⟩ := n
          have n2 := un.frzs b ob _ n
          obtain ⟨e1, _⟩ := ok b _ n
          obtain ⟨e2, _⟩ := ok2 b _ n2
          rw [e] at e1
          cases e1
          exact e2
  cases hk : K.lookup a with
  | some o =>
    have e := kz a o hk
    rw [at_] at e
    cases e
    exact main (fun _ => none) (fun _ => .inl rfl) (.inr ⟨_, us.toArray, _, hk, rfl, rfl, rfl, by rw [List.size_toArray, cnt]; exact few, by simpa using rv⟩) (fun b u q => nomatch (show (none : Option HO) = some u from q)) (fun b q => absurd rfl q) fun q => absurd rfl q
  | none =>
    have at1 : ∀ b u, (if b = a then some (HO.frz { cls := .type "list", data := .seq us.toArray } (.lst (ns.map V.int))) else none) = some u → b = a ∧ u = .frz { cls := .type "list", data := .seq us.toArray } (.lst (ns.map V.int)) := by
      intro b u q
      split at q
      · rename_i e
        exact ⟨e, (Option.some.inj q).symm⟩
      · cases q
    refine main (fun b => if b = a then some (.frz { cls := .type "list", data := .seq us.toArray } (.lst (ns.map V.int))) else none) ?_ (.inl (.inr ⟨{ cls := .type "list", data := .seq us.toArray }, if_pos rfl⟩)) ?_ ?_ fun _ => hk
    · intro b
      by_cases e : b = a
      · exact .inr ⟨_, _, if_pos e⟩
      · exact .inl (if_neg e)
    · intro b u q
      obtain ⟨rfl, rfl⟩ := at1 b u q
      exact ⟨at_, by rw [List.length_map]; exact few, us, _, rv, at_⟩
    · intro b q
      apply Classical.byContradiction
      intro e
      exact q (if_neg e)
theorem walkG {l : PySem.W.OpenLaw} {n k : Nat} {q : Program} {loose : List Str} {XP : (Str → Option Value) → Heap → Prop} {YP : World → Heap → Prop} {d : DefRec} {K : Params → PySem.W.Frag} {sp : PySem.W.Frag → Sp} {x : Str}
    (most : l.most = some n) (le : n ≤ sizeLine) (nod : d.params.defaults = []) (room : Room k callerA) (y : ∀ (w : World) (h : Heap), YP w h → (K w.params).In h)
    (F : ∀ (w : World) (mg : Str → Option Value) (fa : Addr) (h : Heap), (K w.params).In h → h.Ns mainGlobals mg → mg d.name = some (.ref fa) →
      ∃ fd : FuncData, (∀ (s : Shared) (u : Value), BindsTo s fd ⟨[u], []⟩ [(x, u)]) ∧ ∀ base : Heap, (K w.params).In base → base.Ns mainGlobals mg → FnG l.prog w (K w.params) mg base CX0 k fa fd [x] (sp (K w.params)))
    (go : ∀ (K : PySem.W.Frag) (G : Hp) (a : Addr) (ns : List Int), ns.length ≤ n → Only G → SqL K G a (ns.map V.int) → sp K [.ref a] G (fun v _ => v = .bl true) fun _ _ _ => False) :
    PySem.W.WalkO q loose XP YP l.row.toRowW d [] (fun f vs => PySem.call f vs) :=
  Att.attach_call most nod fun w _ z mg _ fa _ _ _ _ a _ ns G Y _ _ _ at_ ob ia few g0 =>
    have ⟨_, bd, F2⟩ := F w mg fa _ (y w _ Y) G.T.g at_
    lawG (y w _ Y) G.T.g G.T.b G.T.builtins G.T.nolimit g0 ob ia (Nat.le_trans few le) room F2 bd fun H o s => go _ H a ns few o s
end Sl

set_option maxRecDepth 100000
set_option maxHeartbeats 1000000
namespace Sl
open PySem L2
/-! ### turns of which few steps are done (no lift) -/
theorem counted_no {u : TU} (h0 : 0 ≤ u.steps) (h : u.steps < 62) : u.counted = { u with steps := u.steps + 1 } := if_pos (by omega)
structure W34 (u : TU) (ws : List Int) (last : Int) (cnt st : Nat) : Prop where
  ok : u.Ok
  nd : (u.q.flatten ++ ws).Nodup
  le : ∀ x ∈ u.q.flatten ++ ws, x ≤ last
  wd : ∀ x ∈ ws, ∃ l : Nat, l < 4 ∧ getI u.dep x = some (l : Int)
  few : u.q.flatten.length + ws.length ≤ cnt
  dp : u.dep.length ≤ cnt
  s0 : 0 ≤ u.steps
  st : u.steps ≤ (st : Int)
section
variable {u : TU} {ws : List Int} {last : Int} {cnt st : Nat} {n : Int}
theorem W34.new : W34 TU.new [] 0 0 0 := by
  refine ⟨⟨rfl, fun l r n e m => ?_, fun n l e => (nomatch e), fun n e => (nomatch e), (by decide : ([[], [], [], []] : List (List Int)).flatten.Nodup)⟩, by decide, fun x hx => (nomatch hx), fun x hx => (nomatch hx), by decide, by decide, by decide, by decide⟩
  have e : ([[], [], [], []] : List (List Int))[l]? = some r := e
  have hl : l < 4 := (List.getElem?_eq_some_iff.mp e).1
  have el : l = 0 ∨ l = 1 ∨ l = 2 ∨ l = 3 := by omega
  rcases el with rfl | rfl | rfl | rfl <;> (cases e; cases m)
theorem W34.more {last' : Int} {cnt' st' : Nat} (w : W34 u ws last cnt st) (a : last ≤ last') (b : cnt ≤ cnt') (c : st ≤ st') : W34 u ws last' cnt' st' :=
  ⟨w.ok, w.nd, fun x hx => Int.le_trans (w.le x hx) a, w.wd, Nat.le_trans w.few b, Nat.le_trans w.dp b, w.s0, by have := w.st; omega⟩
theorem W34.next (w : W34 u ws last cnt st) : W34 u.next ws last cnt st := by
  obtain ⟨e1, e2, e3⟩ := next_same u
  exact ⟨w.ok.next, by rw [e1]; exact w.nd, by rw [e1]; exact w.le, by rw [e2]; exact w.wd, by rw [e1]; exact w.few, by rw [e2]; exact w.dp, by rw [e3]; exact w.s0, by rw [e3]; exact w.st⟩
theorem next_runs (o : u.Ok) (ne : u.q.flatten ≠ []) : ∃ h, u.next.runs = some h := by
  unfold TU.next
  cases hr : u.runs with
  | some h => exact ⟨h, hr⟩
  | none =>
    cases hh : u.q.flatten.head? with
    | none => exact (ne (List.head?_eq_none_iff.mp hh)).elim
    | some n => exact ⟨n, rfl⟩
theorem getI_put_self (d : List (Int × Int)) (n l : Int) : getI (putI d n l) n = some l := by rw [getI_put, if_pos rfl]
/-- one stands -/
theorem W34.stand (w : W34 u ws last cnt st) {l : Nat} (hl : l < 4) (hn : last < n) : W34 (u.stand n l) ws n (cnt + 1) st := by
  have no : n ∉ u.q.flatten := fun m => by have := w.le n (List.mem_append_left _ m); omega
  have now : n ∉ ws := fun m => by have := w.le n (List.mem_append_right _ m); omega
  have pm := pm_stand (u := u) (n := n) (l := l) (by rw [w.ok.four]; exact hl)
  have pm2 : ((u.stand n l).q.flatten ++ ws).Perm (n :: (u.q.flatten ++ ws)) := List.Perm.append_right ws pm
  refine ⟨w.ok.stand hl no, (List.Perm.nodup_iff pm2).mpr (List.nodup_cons.mpr ⟨fun m => (List.mem_append.mp m).elim no now, w.nd⟩), fun x hx => ?_, fun x hx => ?_, ?_, ?_, w.s0, w.st⟩
  · rcases List.mem_cons.mp (pm2.subset hx) with e | e
    · omega
    · have := w.le x e; omega
  · obtain ⟨k, hk, e⟩ := w.wd x hx
    refine ⟨k, hk, ?_⟩
    show getI (putI u.dep n _) x = _
    rw [getI_put, if_neg (fun e2 : x = n => now (by rw [← e2]; exact hx))]
    exact e
  · have := pm.length_eq
    rw [List.length_cons] at this
    have := w.few
    omega
  · have := len_putI u.dep n (l : Int)
    have := w.dp
    exact Nat.le_trans (len_putI u.dep n (l : Int)) (by omega)
/-- one that waits stands again -/
theorem W34.wake (w : W34 u ws last cnt st) {l : Nat} (hn : n ∈ ws) (hg : getI u.dep n = some (l : Int)) : W34 (u.stand n l) (ws.erase n) last cnt st := by
  have hl := w.ok.lv n _ hg
  have nd := List.nodup_append.mp w.nd
  have no : n ∉ u.q.flatten := fun m => nd.2.2 n m n hn rfl
  have pm := pm_stand (u := u) (n := n) (l := l) (by rw [w.ok.four]; omega)
  have pk : (n :: ws.erase n).Perm ws := (List.perm_cons_erase hn).symm
  have pm2 : ((u.stand n l).q.flatten ++ ws.erase n).Perm (u.q.flatten ++ ws) := (List.Perm.append_right _ pm).trans ((List.perm_middle.symm).trans (List.Perm.append_left _ pk))
  refine ⟨w.ok.stand (by omega) no, (List.Perm.nodup_iff pm2).mpr w.nd, fun x hx => w.le x (pm2.subset hx), fun x hx => ?_, ?_, ?_, w.s0, w.st⟩
  · obtain ⟨k, hk, e⟩ := w.wd x (List.mem_of_mem_erase hx)
    refine ⟨k, hk, ?_⟩
    show getI (putI u.dep n _) x = _
    rw [getI_put]
    split
    · rename_i e2
      subst e2
      rw [hg] at e
      exact e
    · exact e
  · have := pm2.length_eq
    rw [List.length_append, List.length_append] at this
    have := w.few
    omega
  · show (putI u.dep n _).length ≤ _
    rw [getI_old hg]
    exact w.dp
theorem W34.wait (w : W34 u ws last cnt st) (hr : u.runs = some n) (hs : st < 62) : W34 (u.waitN n).counted (ws ++ [n]) last cnt (st + 1) := by
  obtain ⟨o, pm, no, dp⟩ := wait_fl w.ok hr
  have hst : (u.waitN n).steps = u.steps := rfl
  have e := counted_no (u := u.waitN n) (by rw [hst]; exact w.s0) (by rw [hst]; have := w.st; omega)
  obtain ⟨l, r, hg, _, m, hl⟩ := lev_of w.ok (w.ok.run n hr).1
  have pm2 : ((u.waitN n).q.flatten ++ (ws ++ [n])).Perm (u.q.flatten ++ ws) := by
    rw [← List.append_assoc]
    exact (List.perm_append_comm.trans (List.Perm.append_right ws pm))
  have fl := fl_counted (u.waitN n)
  refine ⟨o.counted, by rw [fl]; exact (List.Perm.nodup_iff pm2).mpr w.nd, fun x hx => w.le x (pm2.subset (by rw [fl] at hx; exact hx)), fun x hx => ?_, ?_, ?_, ?_, ?_⟩
  · rw [e]
    show ∃ l : Nat, l < 4 ∧ getI (u.waitN n).dep x = some (l : Int)
    rw [dp]
    rcases List.mem_append.mp hx with hx | hx
    · exact w.wd x hx
    · rw [List.mem_singleton.mp hx]
      exact ⟨l, hl, hg⟩
  · rw [fl]
    have := pm2.length_eq
    rw [List.length_append] at this
    rw [this, List.length_append]
    exact w.few
  · exact Nat.le_trans (dp_counted _) (by rw [dp]; exact w.dp)
  · rw [e]
    show 0 ≤ u.steps + 1
    have := w.s0
    omega
  · rw [e]
    show u.steps + 1 ≤ _
    have := w.st
    omega
theorem W34.step (w : W34 u ws last cnt st) (hs : st < 62) {v : TU} (o : v.Ok) (pm : v.q.flatten.Perm u.q.flatten) (dl : v.dep.length = u.dep.length) (ds : ∀ x l, getI u.dep x = some l → ∃ l', getI v.dep x = some l') (es : v.steps = u.steps) : W34 v.counted ws last cnt (st + 1) := by
  have e := counted_no (u := v) (by rw [es]; exact w.s0) (by rw [es]; have := w.st; omega)
  have pm2 : (v.q.flatten ++ ws).Perm (u.q.flatten ++ ws) := List.Perm.append_right ws pm
  have fl := fl_counted v
  refine ⟨o.counted, by rw [fl]; exact (List.Perm.nodup_iff pm2).mpr w.nd, fun x hx => w.le x (pm2.subset (by rw [fl] at hx; exact hx)), fun x hx => ?_, ?_, ?_, ?_, ?_⟩
  · obtain ⟨l, hl, hg⟩ := w.wd x hx
    obtain ⟨l', hg'⟩ := ds x _ hg
    have := o.lv x l' hg'
    rw [e]
    exact ⟨l'.toNat, by omega, by show getI v.dep x = _; rw [hg']; congr 1; omega⟩
  · rw [fl, pm.length_eq]
    exact w.few
  · exact Nat.le_trans (dp_counted _) (by rw [dl]; exact w.dp)
  · rw [e]
    show 0 ≤ v.steps + 1
    rw [es]
    have := w.s0
    omega
  · rw [e]
    show v.steps + 1 ≤ _
    rw [es]
    have := w.st
    omega
theorem went_steps (u : TU) (n : Int) : (u.wentN n).steps = u.steps := by
  unfold TU.wentN
  split <;> rfl
theorem W34.went (w : W34 u ws last cnt st) (hr : u.runs = some n) (hs : st < 62) : W34 (u.wentN n).counted ws last cnt (st + 1) := by
  obtain ⟨a, b, c, d⟩ := went_fl w.ok hr
  exact w.step hs a b c d (went_steps u n)
theorem W34.pass (w : W34 u ws last cnt st) (hr : u.runs = some n) (hs : st < 62) : W34 (u.passN n).counted ws last cnt (st + 1) := by
  obtain ⟨a, b, c, d⟩ := pass_fl w.ok hr
  exact w.step hs a b c d rfl
/-- the row of a level behind a standing -/
theorem row_stand {l : Nat} {r : List Int} (h : u.q[l]? = some r) : (u.stand n l).q[l]? = some (r ++ [n]) := by
  have hl := (List.getElem?_eq_some_iff.mp h).1
  show (u.q.set l (u.row l ++ [n]))[l]? = _
  rw [row_at h, List.getElem?_set_self hl]
theorem row_over {l : Nat} {r : List Int} (h : u.q[l]? = some r) : (u.over n l).q[l]? = some (r.erase n) := by
  have hl := (List.getElem?_eq_some_iff.mp h).1
  show (u.q.set l ((u.row l).erase n))[l]? = _
  rw [row_at h, List.getElem?_set_self hl]
theorem row_nd (o : u.Ok) {l : Nat} {r : List Int} (h : u.q[l]? = some r) : r.Nodup := by
  have : r.Sublist u.q.flatten := List.sublist_flatten_of_mem (List.mem_of_getElem? h)
  exact o.nd.sublist this
theorem next_stand {l : Nat} (o : u.Ok) (ne : u.q.flatten ≠ []) : (u.next.stand n l).next = u.next.stand n l := by
  obtain ⟨h, e⟩ := next_runs o ne
  have e2 : (u.next.stand n l).runs = some h := e
  show (match (u.next.stand n l).runs with
    | some _ => u.next.stand n l
    | none => _) = _
  rw [e2]
theorem runs_none (o : u.Ok) (e : u.q.flatten = []) : u.runs = none := by
  cases hr : u.runs with
  | none => rfl
  | some h =>
    have := (o.run h hr).1
    rw [e] at this
    cases this
theorem next_first {l : Nat} (o : u.Ok) (e : u.q.flatten = []) (hl : l < 4) : (u.stand n l).next.runs = some n ∧ (u.stand n l).next.rest = sliceOf l := by
  have pm := pm_stand (u := u) (n := n) (l := l) (by rw [o.four]; exact hl)
  rw [e] at pm
  have e1 : (u.stand n l).q.flatten = [n] := List.perm_singleton.mp pm
  have e2 : (u.stand n l).runs = none := (show (u.stand n l).runs = u.runs from rfl).trans (runs_none o e)
  have e3 : (u.stand n l).lev n = l := lev_at (getI_put_self _ _ _)
  unfold TU.next
  rw [e2]
  dsimp only
  rw [e1, List.head?_cons]
  dsimp only
  rw [e3]
  exact ⟨rfl, rfl⟩
theorem stand_ne {l : Nat} (o : u.Ok) (hl : l < 4) : (u.stand n l).q.flatten ≠ [] := fun e => by
  have pm := pm_stand (u := u) (n := n) (l := l) (by rw [o.four]; exact hl)
  rw [e] at pm
  have := pm.length_eq
  simp at this
theorem went_ne (o : u.Ok) (hr : u.runs = some n) : (u.wentN n).counted.q.flatten ≠ [] := fun e => by
  have pm := (went_fl o hr).2.1
  rw [fl_counted] at e
  rw [e] at pm
  have := (o.run n hr).1
  rw [List.nil_perm.mp pm] at this
  cases this
end
end Sl

set_option maxRecDepth 100000
set_option maxHeartbeats 1000000
namespace Sl
open PySem L2
/-! ### comprehensions whose turns change nothing else -/
section
variable {K : PySem.W.Frag} {σ : L2.St} {H : Hp} {te : TE} {tt : TT} {g : TG} {Q : VK} {L : List SA} {a : Addr} {vs : List Nat}
/-- over values -/
theorem r_lcV (xs : List V) (p : V → Bool) (f : V → V) (hh : Hd L H) (hz : xs.length < 100000) (hl : ∀ H, Hd L H → SqL K H a xs)
    (step : ∀ (D : Addr) (acc : List V) (x : V) H (N : V → Hp → Prop) (M : Hp → Prop), x ∈ xs → Hd (pto D (.lst acc) :: L) H → (p x = true → N (f x) H) → (p x = false → M H) →
      g x (wipe σ vs) H fun σ2 H2 => wipe σ2 vs = wipe σ vs ∧ tt σ2 H2 fun b H3 => if b = true then te σ2 H3 N else M H3)
    (hd : ∀ D H, Hd (pto D (.lst ((xs.filter p).map f)) :: L) H → Q (.ref D) H) : LcK g tt te vs σ Q (Itl K a) H := by
  refine r_lcL xs (fun D i H => Hd (pto D (.lst (((xs.take i).filter p).map f)) :: L) H) hh (fun D H h => h) (fun D i H _ h => hl H h.tl) (fun D i x H hx h => ?_) (fun D H h => ?_)
  · have e : xs.take (i + 1) = xs.take i ++ [x] := by rw [List.take_add_one, hx]; rfl
    refine step D _ x H _ _ (List.mem_of_getElem? hx) h (fun pt => ?_) (fun pf => ?_)
    · refine ⟨_, h.get .here, ?_, ?_⟩
      · refine szlt ?_
        rw [List.length_map]
        exact Nat.lt_of_le_of_lt (List.length_filter_le _ _) (Nat.lt_of_le_of_lt (List.length_take_le' _ _) (by omega))
      · rw [e, List.filter_append, List.map_append, List.filter_cons, if_pos pt]
        exact h.set .here fun z => z
    · rw [e, List.filter_append, List.filter_cons, if_neg (by rw [pf]; exact Bool.false_ne_true)]
      simpa using h
  · rw [List.take_length] at h
    exact hd D H h
/-- over numbers -/
theorem r_lcI (ns : List Int) (p : Int → Bool) (f : Int → V) (hh : Hd L H) (hz : ns.length < 100000) (hl : ∀ H, Hd L H → SqL K H a (ns.map V.int))
    (step : ∀ (D : Addr) (acc : List V) (n : Int) H (N : V → Hp → Prop) (M : Hp → Prop), n ∈ ns → Hd (pto D (.lst acc) :: L) H → (p n = true → N (f n) H) → (p n = false → M H) →
      g (.int n) (wipe σ vs) H fun σ2 H2 => wipe σ2 vs = wipe σ vs ∧ tt σ2 H2 fun b H3 => if b = true then te σ2 H3 N else M H3)
    (hd : ∀ D H, Hd (pto D (.lst ((ns.filter p).map f)) :: L) H → Q (.ref D) H) : LcK g tt te vs σ Q (Itl K a) H := by
  refine r_lcL (ns.map V.int) (fun D i H => Hd (pto D (.lst (((ns.take i).filter p).map f)) :: L) H) hh (fun D H h => h) (fun D i H _ h => hl H h.tl) (fun D i x H hx h => ?_) (fun D H h => ?_)
  · rw [List.getElem?_map] at hx
    obtain ⟨n, hx2, rfl⟩ := Option.map_eq_some_iff.mp hx
    have e : ns.take (i + 1) = ns.take i ++ [n] := by rw [List.take_add_one, hx2]; rfl
    refine step D _ n H _ _ (List.mem_of_getElem? hx2) h (fun pt => ?_) (fun pf => ?_)
    · refine ⟨_, h.get .here, ?_, ?_⟩
      · refine szlt ?_
        rw [List.length_map]
        exact Nat.lt_of_le_of_lt (List.length_filter_le _ _) (Nat.lt_of_le_of_lt (List.length_take_le' _ _) (by omega))
      · rw [e, List.filter_append, List.map_append, List.filter_cons, if_pos pt]
        exact h.set .here fun z => z
    · rw [e, List.filter_append, List.filter_cons, if_neg (by rw [pf]; exact Bool.false_ne_true)]
      simpa using h
  · rw [List.length_map, List.take_length] at h
    exact hd D H h
/-- over a range -/
theorem r_lcN {lo : Int} {n : Nat} (p : Nat → Bool) (f : Nat → V) (hh : Hd L H) (hz : n < 100000)
    (step : ∀ (D : Addr) (acc : List V) (i : Nat) H (N : V → Hp → Prop) (M : Hp → Prop), i < n → Hd (pto D (.lst acc) :: L) H → (p i = true → N (f i) H) → (p i = false → M H) →
      g (.int (lo + (i : Nat))) (wipe σ vs) H fun σ2 H2 => wipe σ2 vs = wipe σ vs ∧ tt σ2 H2 fun b H3 => if b = true then te σ2 H3 N else M H3)
    (hd : ∀ D H, Hd (pto D (.lst (((List.range n).filter p).map f)) :: L) H → Q (.ref D) H) : LcK g tt te vs σ Q (Itr lo n) H := by
  refine r_lcR (fun D i H => Hd (pto D (.lst (((List.range i).filter p).map f)) :: L) H) hh (fun D H h => h) (fun D i H hi h => ?_) hd
  refine step D _ i H _ _ hi h (fun pt => ?_) (fun pf => ?_)
  · refine ⟨_, h.get .here, ?_, ?_⟩
    · refine szlt ?_
      rw [List.length_map]
      exact Nat.lt_of_le_of_lt (List.length_filter_le _ _) (by rw [List.length_range]; omega)
    · rw [List.range_succ, List.filter_append, List.map_append, List.filter_cons, if_pos pt]
      exact h.set .here fun z => z
  · rw [List.range_succ, List.filter_append, List.filter_cons, if_neg (by rw [pf]; exact Bool.false_ne_true)]
    simpa using h
end
theorem r_rem {H : Hp} {Q : VK} {L L' : List SA} {a : Addr} {ns : List Int} {n : Int} (hs : Hd L H) (p : Put (pto a (.lst (ns.map V.int))) (pto a (.lst ((ns.erase n).map V.int))) L L') (hm : n ∈ ns) (q : ∀ H', Hd L' H' → Q .non H') : rRemI (.ref a) [.int n] H Q := by
  obtain ⟨M, pa, _⟩ := p.pulls
  exact r_removeX (hs.get pa) hm (q _ (hs.set p fun z => z))
theorem mI_snoc (ns : List Int) (n : Int) : ns.map V.int ++ [V.int n] = (ns ++ [n]).map V.int := by simp
theorem r_join {B : Prop} {R : Hp → Prop} (P : Hp → Prop) (f : (∀ H, P H → R H) → B) (a : ∀ H, P H → R H) : B := f a
end Sl

set_option maxRecDepth 100000
set_option maxHeartbeats 1000000
namespace Sl
open PySem L2
/-! ### while; two at once; rows as data -/
def WhK (W : Nat → L2.St → Hp → Prop) (m : Nat) (tb : TS) (D : Ends) (σ : L2.St) (H : Hp) : Prop := ∃ N : L2.St → Hp → Prop, (∀ σ' H', N σ' H' → ∃ m', m' < m ∧ W m' σ' H') ∧ tb { D with nx := N, ct := N, bk := D.nx } σ H
def ParK (i j : Nat) (D : Ends) (σ : L2.St) (vs : List V) (H : Hp) : Prop := ∃ v w, vs = [v, w] ∧ D.nx ((σ.set i (some v)).set j (some w)) H
section
variable {K : PySem.W.Frag} {σ : L2.St} {H : Hp} {D : Ends} {tb : TS} {c : TT} {tr : TA} {v w : V} {i j : Nat}
theorem r_while (W : Nat → L2.St → Hp → Prop) (m0 : Nat) (h0 : W m0 σ H) (hs : ∀ m σ H, W m σ H → c σ H fun b H1 => if b = true then WhK W m tb D σ H1 else D.nx σ H1) : tWhile c tb D σ H := ⟨W, ⟨m0, h0⟩, hs⟩
theorem r_whK {W : Nat → L2.St → Hp → Prop} {m : Nat} (q : tb { D with nx := fun σ' H' => ∃ m', m' < m ∧ W m' σ' H', ct := fun σ' H' => ∃ m', m' < m ∧ W m' σ' H', bk := D.nx } σ H) : WhK W m tb D σ H := ⟨_, fun _ _ z => z, q⟩
theorem r_par2 (q : tr σ H (ParK i j D σ)) : tPar i j tr D σ H := q
theorem r_parK (q : D.nx ((σ.set i (some v)).set j (some w)) H) : ParK i j D σ [v, w] H := ⟨v, w, rfl, q⟩
end
def rowD (r : List Int) : PyData := .list (r.map PyData.int)
theorem dp_rowD {K : PySem.W.Frag} {H : Hp} {t : Addr} {ws : List Int} (h : SqL K H t (ws.map V.int)) : Dp K H (.ref t) (rowD ws) := .lst h (dp_ints ws)
theorem dp_rowAll {K : PySem.W.Frag} {H : Hp} : ∀ {ls : List Addr} {q : List (List Int)}, ls.length = q.length → (∀ (i : Nat) a r, ls[i]? = some a → q[i]? = some r → SqL K H a (r.map V.int)) → DpAll K H (ls.map V.ref) (q.map rowD)
  | [], [], _, _ => .nil
  | [], _ :: _, h, _ => nomatch h
  | _ :: _, [], h, _ => nomatch h
  | a :: ls, r :: q, h, f => .cons (dp_rowD (f 0 a r rfl rfl)) (dp_rowAll (Nat.succ.inj h) fun i b s e1 e2 => f (i + 1) b s e1 e2)
theorem dp_rows {K : PySem.W.Frag} {H : Hp} {ls : List Addr} {q : List (List Int)} {L L' : List SA} (h : Hd L H) (p : Pull (rowsA ls (rowsV q)) L L') : DpAll K H (ls.map V.ref) (q.map rowD) := by
  refine dp_rowAll (rows_count h p) fun i a r e1 e2 => SqL.of (rows_get h p e1 ?_)
  simp [rowsV, e2]
theorem cl_rows : ∀ q : List (List Int), PyData.canLayAll0 (q.map rowD) = true
  | [] => rfl
  | r :: q => by
    rw [List.map_cons, PyData.canLayAll0, cl_rows q, rowD, PyData.canLay0, cl_ints]
    rfl
theorem dt_rows : ∀ q : List (List Int), PyData.depthAll (q.map rowD) ≤ 2
  | [] => by decide
  | r :: q => by
    have h := dt_rows q
    have h2 := dt_ints r
    rw [List.map_cons, PyData.depthAll, rowD, PyData.depth]
    omega
theorem sh_listR (q : List (List Int)) : SeqAt.shaped (.list (q.map rowD)) = true := by
  have h := dt_rows q
  unfold SeqAt.shaped
  rw [PyData.canLay0, cl_rows, Bool.true_and]
  apply decide_eq_true
  rw [PyData.depth]
  omega
theorem sh_tupR (q : List (List Int)) : SeqAt.shaped (.tuple (q.map rowD)) = true := by
  have h := dt_rows q
  unfold SeqAt.shaped
  rw [PyData.canLay0, cl_rows, Bool.true_and]
  apply decide_eq_true
  rw [PyData.depth]
  omega
theorem eqv_self {d : PyData} (h : SeqAt.shaped d = true) : PyData.eqv d d = true := SeqAt.eqv_refl _ (SeqAt.canLay_of_shaped h)
/-- x == y of the same data -/
theorem r_eqD1 {K : PySem.W.Frag} {H : Hp} {x y : V} {Q : VK} {d : PyData} (h1 : Dp K H x d) (h2 : Dp K H y d) (s : SeqAt.shaped d = true) (q : Q (.bl true) H) : rEqU K x y H Q := r_eqSame h1 h2 s (eqv_self s) q
theorem r_neD1 {K : PySem.W.Frag} {H : Hp} {x y : V} {Q : VK} {d : PyData} (h1 : Dp K H x d) (h2 : Dp K H y d) (s : SeqAt.shaped d = true) (q : Q (.bl false) H) : rNeU K x y H Q := r_neSame h1 h2 s (eqv_self s) q
/-- a list of one thing a number of a range -/
theorem r_lcM {σ : L2.St} {H : Hp} {te : TE} {tt : TT} {g : TG} {Q : VK} {L : List SA} {vs : List Nat} {lo : Int} {n : Nat} (f : Nat → V) (hh : Hd L H) (hz : n < 100000)
    (step : ∀ (D : Addr) (acc : List V) (i : Nat) H (N : V → Hp → Prop) (M : Hp → Prop), i < n → Hd (pto D (.lst acc) :: L) H → N (f i) H →
      g (.int (lo + (i : Nat))) (wipe σ vs) H fun σ2 H2 => wipe σ2 vs = wipe σ vs ∧ tt σ2 H2 fun b H3 => if b = true then te σ2 H3 N else M H3)
    (hd : ∀ D H, Hd (pto D (.lst ((List.range n).map f)) :: L) H → Q (.ref D) H) : LcK g tt te vs σ Q (Itr lo n) H :=
  r_lcN (p := fun _ => true) f hh hz (fun D acc i H N M hi hs a _ => step D acc i H N M hi hs (a rfl)) fun D H h => hd D H (by
    have e : (List.range n).filter (fun _ => true) = List.range n := List.filter_eq_self.mpr fun _ _ => rfl
    rw [e] at h
    exact h)
/-- a list that stays empty -/
theorem r_lcO {σ : L2.St} {H : Hp} {te : TE} {tt : TT} {g : TG} {Q : VK} {L : List SA} {vs : List Nat} {lo : Int} {n : Nat} (hh : Hd L H) (hz : n < 100000)
    (step : ∀ (D : Addr) (acc : List V) (i : Nat) H (N : V → Hp → Prop) (M : Hp → Prop), i < n → Hd (pto D (.lst acc) :: L) H → M H →
      g (.int (lo + (i : Nat))) (wipe σ vs) H fun σ2 H2 => wipe σ2 vs = wipe σ vs ∧ tt σ2 H2 fun b H3 => if b = true then te σ2 H3 N else M H3)
    (hd : ∀ D H, Hd (pto D (.lst []) :: L) H → Q (.ref D) H) : LcK g tt te vs σ Q (Itr lo n) H :=
  r_lcN (p := fun _ => false) (fun _ => .non) hh hz (fun D acc i H N M hi hs _ b => step D acc i H N M hi hs (b rfl)) fun D H h => hd D H (by
    have e : (List.range n).filter (fun _ => false) = [] := List.filter_eq_nil_iff.mpr fun _ _ => Bool.false_ne_true
    rw [e] at h
    exact h)
theorem rep_one (k : Nat) (v : V) : (List.replicate k [v]).flatten = List.replicate k v := by
  induction k with
  | zero => rfl
  | succ k ih => rw [List.replicate_succ, List.flatten_cons, ih, List.replicate_succ]; rfl
end Sl

set_option maxRecDepth 100000
set_option maxHeartbeats 1000000
namespace Sl
open PySem L2
/-! ### turns of the numbers 1 .. many, all of which stay -/
def nums (many : Nat) : List Int := (List.range many).map fun (i : Nat) => (i : Int) + 1
theorem mem_nums {many : Nat} {m : Int} : m ∈ nums many ↔ 1 ≤ m ∧ m ≤ many := by
  unfold nums
  rw [List.mem_map]
  constructor
  · rintro ⟨i, hi, rfl⟩
    rw [List.mem_range] at hi
    omega
  · rintro ⟨h1, h2⟩
    exact ⟨(m - 1).toNat, List.mem_range.mpr (by omega), by omega⟩
theorem nums_succ (many : Nat) : nums (many + 1) = nums many ++ [(many : Int) + 1] := by
  unfold nums
  rw [List.range_succ, List.map_append]
  rfl
theorem nd_nums (many : Nat) : (nums many).Nodup := by
  induction many with
  | zero => exact List.nodup_nil
  | succ k ih =>
    rw [nums_succ]
    refine List.nodup_append.mpr ⟨ih, by simp, fun a ha b hb => ?_⟩
    have := (mem_nums.mp ha).2
    rw [List.mem_singleton.mp hb]
    omega
theorem len_nums (many : Nat) : (nums many).length = many := by simp [nums]
structure W33 (u : TU) (ws : List Int) (many : Nat) : Prop where
  ok : u.Ok
  pm : (u.q.flatten ++ ws).Perm (nums many)
  lv : ∀ m ∈ nums many, ∃ l : Nat, l < 4 ∧ getI u.dep m = some (l : Int)
  dp : u.dep.length ≤ many
def howN (s : Str) (u : TU) (n : Int) : TU := if s = "went" then u.wentN n else if s = "passes" then u.passN n else u.waitN n
def howW (s : Str) (ws : List Int) (n : Int) : List Int := if s = "waits" then ws ++ [n] else ws
section
variable {u : TU} {ws : List Int} {many : Nat} {n : Int}
theorem W33.len (w : W33 u ws many) : u.q.flatten.length + ws.length = many := by
  have := w.pm.length_eq
  rw [List.length_append, len_nums] at this
  exact this
theorem W33.next (w : W33 u ws many) : W33 u.next ws many := by
  obtain ⟨e1, e2, e3⟩ := next_same u
  exact ⟨w.ok.next, by rw [e1]; exact w.pm, by rw [e2]; exact w.lv, by rw [e2]; exact w.dp⟩
theorem W33.add (w : W33 u [] many) : W33 (u.stand ((many : Int) + 1) 0) [] (many + 1) := by
  have no : (many : Int) + 1 ∉ u.q.flatten := fun m => by
    have := (mem_nums.mp (w.pm.subset (List.mem_append_left _ m))).2
    omega
  have pm := pm_stand (u := u) (n := (many : Int) + 1) (l := 0) (by rw [w.ok.four]; decide)
  have pw := w.pm
  rw [List.append_nil] at pw
  refine ⟨w.ok.stand (by decide) no, ?_, fun m hm => ?_, ?_⟩
  · rw [List.append_nil, nums_succ]
    exact pm.trans ((List.Perm.cons _ pw).trans (List.perm_append_singleton _ _).symm)
  · show ∃ l : Nat, l < 4 ∧ getI (putI u.dep _ _) m = _
    rw [getI_put]
    split
    · exact ⟨0, by decide, rfl⟩
    · rw [nums_succ] at hm
      rcases List.mem_append.mp hm with hm | hm
      · exact w.lv m hm
      · rename_i e
        exact (e (List.mem_singleton.mp hm)).elim
  · have := w.dp
    exact Nat.le_trans (len_putI u.dep _ ((0 : Nat) : Int)) (by omega)
theorem W33.wake (w : W33 u ws many) {ws' : List Int} {l : Nat} (hp : (n :: ws').Perm ws) (hg : getI u.dep n = some (l : Int)) : W33 (u.stand n l) ws' many := by
  have hl := w.ok.lv n _ hg
  have nd : (u.q.flatten ++ ws).Nodup := (List.Perm.nodup_iff w.pm).mpr (nd_nums many)
  have hn : n ∈ ws := hp.subset List.mem_cons_self
  have no : n ∉ u.q.flatten := fun m => (List.nodup_append.mp nd).2.2 n m n hn rfl
  have pm := pm_stand (u := u) (n := n) (l := l) (by rw [w.ok.four]; omega)
  refine ⟨w.ok.stand (by omega) no, ?_, fun m hm => ?_, ?_⟩
  · exact ((List.Perm.append_right _ pm).trans ((List.perm_middle.symm).trans (List.Perm.append_left _ hp))).trans w.pm
  · show ∃ l : Nat, l < 4 ∧ getI (putI u.dep _ _) m = _
    rw [getI_put]
    split
    · exact ⟨l, by omega, rfl⟩
    · exact w.lv m hm
  · show (putI u.dep n _).length ≤ _
    rw [getI_old hg]
    exact w.dp
theorem W33.counted (w : W33 u ws many) : W33 u.counted ws many := by
  refine ⟨w.ok.counted, by rw [fl_counted]; exact w.pm, fun m hm => ?_, Nat.le_trans (dp_counted _) w.dp⟩
  obtain ⟨l, _, e⟩ := w.lv m hm
  obtain ⟨l', e'⟩ := gt_counted e
  have := w.ok.counted.lv m l' e'
  exact ⟨l'.toNat, by omega, by rw [e']; congr 1; omega⟩
theorem W33.how (w : W33 u ws many) (hr : u.runs = some n) (s : Str) : W33 (howN s u n) (if s = "went" then ws else if s = "passes" then ws else ws ++ [n]) many := by
  have keep : ∀ {v : TU}, v.Ok → (∀ x l, getI u.dep x = some l → ∃ l', getI v.dep x = some l') → ∀ m ∈ nums many, ∃ l : Nat, l < 4 ∧ getI v.dep m = some (l : Int) := by
    intro v o f m hm
    obtain ⟨l, _, e⟩ := w.lv m hm
    obtain ⟨l', e'⟩ := f m _ e
    have := o.lv m l' e'
    exact ⟨l'.toNat, by omega, by rw [e']; congr 1; omega⟩
  unfold howN
  split
  · obtain ⟨a, b, c, d⟩ := went_fl w.ok hr
    exact ⟨a, (List.Perm.append_right _ b).trans w.pm, keep a d, by rw [c]; exact w.dp⟩
  · split
    · obtain ⟨a, b, c, d⟩ := pass_fl w.ok hr
      exact ⟨a, (List.Perm.append_right _ b).trans w.pm, keep a d, by rw [c]; exact w.dp⟩
    · obtain ⟨a, b, c, d⟩ := wait_fl w.ok hr
      refine ⟨a, ?_, by rw [d]; exact w.lv, by rw [d]; exact w.dp⟩
      rw [← List.append_assoc]
      exact ((List.perm_append_singleton n ((u.waitN n).q.flatten ++ ws)).trans (List.Perm.append_right ws b)).trans w.pm
theorem how_steps (s : Str) (u : TU) (n : Int) : (howN s u n).steps = u.steps := by
  unfold howN
  split
  · exact went_steps u n
  · split <;> rfl
theorem how_other (s : Str) (u : TU) {n x : Int} (h : x ≠ n) : getI (howN s u n).dep x = getI u.dep x := by
  unfold howN
  split
  · unfold TU.wentN
    split
    · show getI (putI u.dep n _) x = _
      rw [getI_put, if_neg h]
    · rfl
  · split
    · show getI (putI u.dep n _) x = _
      rw [getI_put, if_neg h]
    · rfl
def levs (u : TU) (many : Nat) : List Int := (List.range many).map fun (i : Nat) => (getI u.dep ((i : Int) + 1)).getD 0
theorem lift_no (h : 0 < (u.steps + 1) % 64) : u.counted = { u with steps := u.steps + 1 } := if_pos h
theorem lift_yes (h : ¬ 0 < (u.steps + 1) % 64) : u.counted = u.lift := if_neg h
theorem levs_lift (w : W33 u ws many) : levs u.lift many = List.replicate many 0 := by
  unfold levs
  apply List.ext_getElem (by simp)
  intro i h1 h2
  have hi : i < many := by simpa using h1
  obtain ⟨l, _, e⟩ := w.lv ((i : Int) + 1) (mem_nums.mpr (by omega))
  rw [List.getElem_map, List.getElem_range, List.getElem_replicate]
  show (getI (zI u.dep) _).getD 0 = 0
  rw [getI_z, e]
  rfl
end
/-- where one stands in the rows: the only place -/
theorem only_row {u : TU} (o : u.Ok) {l : Nat} {r : List Int} {n : Int} (h : u.q[l]? = some r) (m : n ∈ r) {k : Nat} {r2 : List Int} (h2 : u.q[k]? = some r2) (m2 : n ∈ r2) : k = l := by
  have a := o.at_ l r n h m
  have b := o.at_ k r2 n h2 m2
  rw [a] at b
  have := Option.some.inj b
  omega
theorem rows_which {u : TU} (o : u.Ok) {l : Nat} {r : List Int} {n : Int} (h : u.q[l]? = some r) (m : n ∈ r) : ((List.range u.q.length).filter fun k => decide (n ∈ u.row k)) = [l] := by
  have hl := (List.getElem?_eq_some_iff.mp h).1
  have e : ∀ k, k < u.q.length → decide (n ∈ u.row k) = decide (k = l) := fun k hk => by
    have hk2 : u.q[k]? = some u.q[k] := by simp [hk]
    rw [row_at hk2]
    by_cases z : k = l
    · subst z
      rw [h] at hk2
      rw [← Option.some.inj hk2, decide_eq_true m, decide_eq_true rfl]
    · rw [decide_eq_false z, decide_eq_false fun m2 => z (only_row o h m hk2 m2)]
  have e2 : (List.range u.q.length).filter (fun k => decide (n ∈ u.row k)) = (List.range u.q.length).filter fun k => decide (k = l) := List.filter_congr fun k hk => e k (List.mem_range.mp hk)
  rw [e2]
  clear e e2
  generalize u.q.length = c at hl
  induction c with
  | zero => omega
  | succ c ih =>
    rw [List.range_succ, List.filter_append]
    by_cases z : l < c
    · rw [ih z, List.filter_cons, if_neg (by simp; omega)]
      rfl
    · have hc : c = l := by omega
      subst hc
      rw [List.filter_cons, if_pos (by simp)]
      have : (List.range c).filter (fun k => decide (k = c)) = [] := by
        rw [List.filter_eq_nil_iff]
        intro k hk
        have := List.mem_range.mp hk
        simp
        omega
      rw [this]
      rfl
theorem perm_eraseN : ∀ {R : List Int} {k : Nat} {x : Int}, R[k]? = some x → (x :: R.eraseIdx k).Perm R
  | [], _, _, h => nomatch h
  | a :: R, 0, x, h => by
    cases h
    exact .refl _
  | a :: R, k + 1, x, h => (List.Perm.swap a x _).trans ((perm_eraseN (R := R) (k := k) h).cons a)
theorem map_eraseN : ∀ (R : List Int) (k : Nat), (R.map V.int).eraseIdx k = (R.eraseIdx k).map V.int
  | [], _ => rfl
  | _ :: _, 0 => rfl
  | a :: R, k + 1 => by rw [List.map_cons, List.eraseIdx_cons_succ, List.eraseIdx_cons_succ, List.map_cons, map_eraseN R k]
end Sl

set_option maxRecDepth 100000
set_option maxHeartbeats 1000000
namespace Sl
open PySem L2
/-! ### data whose repr is short -/
structure Nice (d : PyData) (k w : Nat) : Prop where
  cl : d.canLay0 = true
  dp : d.depth ≤ k
  wt : d.weight ≤ w
  is : d.intsShort 13 = true
  sh : d.showable = true
structure NiceAll (xs : List PyData) (k w : Nat) : Prop where
  cl : PyData.canLayAll0 xs = true
  dp : PyData.depthAll xs ≤ k
  wt : PyData.weightAll xs ≤ w
  is : PyData.intsShortAll 13 xs = true
  sh : PyData.showableAll xs = true
theorem log_le {n k : Nat} (h : n < 2 ^ (k + 1)) : n.log2 ≤ k := by
  by_cases z : n = 0
  · subst z
    exact Nat.zero_le _
  · have := (Nat.log2_lt z).mpr h
    omega
theorem nice_int {i : Int} (h : i.natAbs < 10 ^ 12) : Nice (.int i) 0 40 := by
  have l : i.natAbs.log2 ≤ 39 := log_le (Nat.lt_of_lt_of_le h (by decide))
  refine ⟨by rw [PyData.canLay0], by rw [PyData.depth]; exact Nat.le_refl _, ?_, ?_, ?_⟩
  · rw [PyData.weight]
    split <;> omega
  · rw [PyData.intsShort]
    exact decide_eq_true (PyData.shown_int_le h)
  · rw [PyData.showable]
    exact decide_eq_true (by omega)
theorem nice_none : Nice .none 0 0 := ⟨by rw [PyData.canLay0], by rw [PyData.depth]; exact Nat.le_refl _, by rw [PyData.weight]; exact Nat.le_refl _, by rw [PyData.intsShort], by rw [PyData.showable]⟩
theorem nice_bool (b : Bool) : Nice (.bool b) 0 0 := ⟨by rw [PyData.canLay0], by rw [PyData.depth]; exact Nat.le_refl _, by rw [PyData.weight]; exact Nat.le_refl _, by rw [PyData.intsShort], by rw [PyData.showable]⟩
theorem nice_nil (k : Nat) : NiceAll [] k 0 := ⟨by rw [PyData.canLayAll0], by rw [PyData.depthAll]; exact Nat.zero_le _, by rw [PyData.weightAll]; exact Nat.le_refl _, by rw [PyData.intsShortAll], by rw [PyData.showableAll]⟩
theorem nice_cons {x : PyData} {xs : List PyData} {k w v : Nat} (a : Nice x k w) (b : NiceAll xs k v) : NiceAll (x :: xs) k (w + 1 + v) := by
  refine ⟨by rw [PyData.canLayAll0, a.cl, b.cl]; rfl, ?_, ?_, by rw [PyData.intsShortAll, a.is, b.is]; rfl, by rw [PyData.showableAll, a.sh, b.sh]; rfl⟩
  · rw [PyData.depthAll]
    exact Nat.max_le.mpr ⟨a.dp, b.dp⟩
  · rw [PyData.weightAll]
    have := a.wt
    have := b.wt
    omega
theorem nice_list {xs : List PyData} {k w : Nat} (a : NiceAll xs k w) : Nice (.list xs) (k + 1) w := by
  refine ⟨by rw [PyData.canLay0]; exact a.cl, ?_, by rw [PyData.weight]; exact a.wt, by rw [PyData.intsShort]; exact a.is, by rw [PyData.showable]; exact a.sh⟩
  rw [PyData.depth]
  exact Nat.succ_le_succ a.dp
theorem nice_tup {xs : List PyData} {k w : Nat} (a : NiceAll xs k w) : Nice (.tuple xs) (k + 1) w := by
  refine ⟨by rw [PyData.canLay0]; exact a.cl, ?_, by rw [PyData.weight]; exact a.wt, by rw [PyData.intsShort]; exact a.is, by rw [PyData.showable]; exact a.sh⟩
  rw [PyData.depth]
  exact Nat.succ_le_succ a.dp
theorem Nice.mono {d : PyData} {k w k' w' : Nat} (a : Nice d k w) (h : k ≤ k') (h2 : w ≤ w') : Nice d k' w' := ⟨a.cl, Nat.le_trans a.dp h, Nat.le_trans a.wt h2, a.is, a.sh⟩
theorem nice_ints : ∀ {ns : List Int}, (∀ n ∈ ns, n.natAbs < 10 ^ 12) → NiceAll (ns.map PyData.int) 0 (41 * ns.length)
  | [], _ => nice_nil 0
  | n :: ns, h => by
    have z := nice_cons (nice_int (h n List.mem_cons_self)) (nice_ints (ns := ns) fun m hm => h m (List.mem_cons_of_mem _ hm))
    rw [List.length_cons, show 41 * (ns.length + 1) = 40 + 1 + 41 * ns.length by omega]
    exact z
theorem nice_row {r : List Int} (h : ∀ n ∈ r, n.natAbs < 10 ^ 12) : Nice (rowD r) 1 (41 * r.length) := nice_list (nice_ints h)
theorem nice_rows : ∀ {q : List (List Int)}, (∀ n ∈ q.flatten, n.natAbs < 10 ^ 12) → NiceAll (q.map rowD) 1 (41 * q.flatten.length + q.length)
  | [], _ => nice_nil 1
  | r :: q, h => by
    have z := nice_cons (nice_row (r := r) fun n hn => h n (by rw [List.flatten_cons]; exact List.mem_append_left _ hn)) (nice_rows (q := q) fun m hm => h m (by rw [List.flatten_cons]; exact List.mem_append_right _ hm))
    rw [List.flatten_cons, List.length_append, List.length_cons, show 41 * (r.length + q.flatten.length) + (q.length + 1) = 41 * r.length + 1 + (41 * q.flatten.length + q.length) by omega]
    exact z
theorem Nice.shaped {d : PyData} {k w : Nat} (a : Nice d k w) (h : k ≤ 64) : SeqAt.shaped d = true := by
  unfold SeqAt.shaped
  rw [a.cl, Bool.true_and]
  exact decide_eq_true (Nat.le_trans a.dp h)
theorem Nice.fits {d : PyData} {k w : Nat} (a : Nice d k w) (h2 : w ≤ 2 ^ 20) : d.shown.length ≤ sizeLine :=
  PyData.shown_fits (B := 13) (by decide) (by decide) (PyData.leavesShort_of_canLay0 13 d a.cl a.is) (Nat.le_trans a.wt h2)
section
variable {K : PySem.W.Frag} {H : Hp} {Q : VK} {a : Addr} {i : Int} {d : PyData} {k w : Nat}
theorem r_reprI (h : i.natAbs < 10 ^ 12) (q : Q (.str (toString i)) H) : rRepr K [.int i] H Q := .inl ⟨i, rfl, Nat.lt_of_le_of_lt (log_le (k := 39) (Nat.lt_of_lt_of_le h (by decide))) (by decide), q⟩
theorem r_reprN (q : Q (.str "None") H) : rRepr K [.non] H Q := .inr (.inl ⟨rfl, q⟩)
theorem r_reprD (hd : Dp K H (.ref a) d) (n : Nice d k w) (hk : k ≤ 64) (hw : w ≤ 2 ^ 20) (q : Q (.str d.shown) H) : rRepr K [.ref a] H Q := .inr (.inr ⟨a, d, rfl, hd, n.shaped hk, n.sh, n.fits hw, q⟩)
end
theorem reps_of {A : Around} {k : Nat} (hr : Room k A) : A.units + 66 < cLine := by
  have := hr.un
  omega
end Sl

set_option maxRecDepth 100000
set_option maxHeartbeats 1000000
namespace Sl
open PySem L2
/-! ### keys of a dict of numbers -/
def keysI (d : List (Int × Int)) : List Int := d.map fun e => e.1
theorem mem_keys {d : List (Int × Int)} {n : Int} : n ∈ keysI d ↔ ∃ l, getI d n = some l := by
  induction d with
  | nil => simp [keysI, getI]
  | cons e r ih =>
    rw [getI_cons]
    show n ∈ e.1 :: keysI r ↔ _
    by_cases h : e.1 = n
    · rw [if_pos h]
      simp [h]
    · rw [if_neg h, ← ih, List.mem_cons]
      exact ⟨fun z => z.resolve_left fun q => h q.symm, .inr⟩
theorem any_keys (d : List (Int × Int)) (n : Int) : (d.any fun e => decide (e.1 = n)) = decide (n ∈ keysI d) := by
  induction d with
  | nil => rfl
  | cons e r ih =>
    rw [List.any_cons, ih]
    show _ = decide (n ∈ e.1 :: keysI r)
    by_cases h : e.1 = n
    · simp [h]
    · have h2 : ¬ n = e.1 := fun z => h z.symm
      simp [h, h2]
theorem keys_old {d : List (Int × Int)} {n l : Int} (h : n ∈ keysI d) : keysI (putI d n l) = keysI d := by
  unfold putI
  rw [if_pos (by rw [any_keys]; exact decide_eq_true h)]
  unfold keysI
  rw [List.map_map]
  apply List.map_congr_left
  intro e _
  show (if e.1 = n then (e.1, l) else e).1 = e.1
  split <;> rfl
theorem keys_new {d : List (Int × Int)} {n l : Int} (h : n ∉ keysI d) : keysI (putI d n l) = keysI d ++ [n] := by
  unfold putI
  rw [if_neg (by rw [any_keys]; simpa using h)]
  unfold keysI
  rw [List.map_append]
  rfl
theorem keys_drop (d : List (Int × Int)) (n : Int) : keysI (dropI d n) = (keysI d).filter fun x => !decide (x = n) := by
  unfold keysI dropI
  rw [List.filter_map]
  congr 1
  apply List.filter_congr
  intro e _
  by_cases h : e.1 = n
  · simp [h]
  · simp [h]
theorem keys_mI : ∀ (b a : List (Int × Int)), (keysI a ++ keysI b).Nodup → keysI (mI a b) = keysI a ++ keysI b
  | [], a, _ => by simp [mI, keysI]
  | e :: b, a, h => by
    have h2 := List.nodup_append.mp h
    have no : e.1 ∉ keysI a := fun m => h2.2.2 _ m e.1 (List.mem_cons_self) rfl
    have e1 := keys_new (l := e.2) no
    show keysI (mI (putI a e.1 e.2) b) = _
    rw [keys_mI b, e1, List.append_assoc]
    · rfl
    · rw [e1, List.append_assoc]
      exact h
theorem keys_z {d : List (Int × Int)} (h : (keysI d).Nodup) : keysI (zI d) = keysI d := by
  have e : keysI (d.map fun e => (e.1, (0 : Int))) = keysI d := by
    unfold keysI
    rw [List.map_map]
    rfl
  unfold zI
  rw [keys_mI _ _ (by rw [e]; exact h), e]
  rfl
theorem nd_filter {n : Int} {r : List Int} (h : r.Nodup) (m : n ∈ r) : (n :: r.filter fun x => !decide (x = n)).Perm r := by
  rw [← erase_filter h]
  exact (List.perm_cons_erase m).symm
/-! ### one leaves -/
def TU.leaveN (u : TU) (n : Int) : TU :=
  { q := if n ∈ u.row (u.lev n) then u.q.set (u.lev n) ((u.row (u.lev n)).erase n) else u.q, dep := dropI u.dep n, runs := if u.runs = some n then none else u.runs, rest := if u.runs = some n then 0 else u.rest, steps := u.steps }
def howE (s : Str) (u : TU) (n : Int) : TU := if s = "went" then u.wentN n else if s = "passes" then u.passN n else if s = "waits" then u.waitN n else u.endN n
structure W31 (u : TU) (ws : List Int) (last : Int) : Prop where
  ok : u.Ok
  nd : (u.q.flatten ++ ws).Nodup
  kp : (keysI u.dep).Perm (u.q.flatten ++ ws)
  rg : ∀ x ∈ u.q.flatten ++ ws, 1 ≤ x ∧ x ≤ last
  few : ((u.q.flatten.length + ws.length : Nat) : Int) ≤ last
  z : u.runs = none → u.rest = 0
  rb : 0 ≤ u.rest ∧ u.rest ≤ 16
theorem z16 : (0 : Int) ≤ 0 ∧ (0 : Int) ≤ 16 := by decide
section
variable {u : TU} {ws : List Int} {last n : Int}
theorem W31.dl (w : W31 u ws last) : u.dep.length = u.q.flatten.length + ws.length := by
  have := w.kp.length_eq
  rw [List.length_append, keysI, List.length_map] at this
  exact this
theorem W31.dp (w : W31 u ws last) : (u.dep.length : Int) ≤ last := by rw [w.dl]; exact w.few
theorem W31.kn (w : W31 u ws last) : (keysI u.dep).Nodup := (List.Perm.nodup_iff w.kp).mpr w.nd
theorem W31.at_ (w : W31 u ws last) {x : Int} (h : x ∈ u.q.flatten ++ ws) : ∃ l : Nat, l < 4 ∧ getI u.dep x = some (l : Int) := by
  obtain ⟨l, e⟩ := mem_keys.mp (w.kp.symm.subset h)
  have := w.ok.lv x l e
  exact ⟨l.toNat, by omega, by rw [e]; congr 1; omega⟩
theorem W31.new : W31 TU.new [] 0 :=
  ⟨W34.new.ok, by decide, List.Perm.refl [], fun x hx => (nomatch hx), by decide, fun _ => rfl, by decide⟩
theorem sl_le (l : Nat) : sliceOf l ≤ 16 := by
  unfold sliceOf
  match l with
  | 0 | 1 | 2 | 3 => decide
  | l + 4 => exact (by decide : (0 : Int) ≤ 16)
theorem W31.next (w : W31 u ws last) : W31 u.next ws last := by
  obtain ⟨e1, e2, e3⟩ := next_same u
  refine ⟨w.ok.next, by rw [e1]; exact w.nd, by rw [e1, e2]; exact w.kp, by rw [e1]; exact w.rg, by rw [e1]; exact w.few, ?_, ?_⟩
  · unfold TU.next
    split
    · exact w.z
    · split
      · exact fun _ => rfl
      · exact fun z => nomatch z
  · unfold TU.next
    split
    · exact w.rb
    · split
      · exact z16
      · rename_i n hn
        obtain ⟨l, r, hg, _, _, hl⟩ := lev_of w.ok (List.mem_of_mem_head? hn)
        rw [lev_at hg]
        have := sl_pos hl
        exact ⟨by show 0 ≤ sliceOf l; omega, sl_le l⟩
theorem W31.add (w : W31 u ws last) : W31 (u.stand (last + 1) 0) ws (last + 1) := by
  have no : ∀ x ∈ u.q.flatten ++ ws, x ≠ last + 1 := fun x hx e => by have := (w.rg x hx).2; omega
  have no1 : last + 1 ∉ u.q.flatten := fun m => no _ (List.mem_append_left _ m) rfl
  have nk : last + 1 ∉ keysI u.dep := fun m => no _ (w.kp.subset m) rfl
  have pm := pm_stand (u := u) (n := last + 1) (l := 0) (by rw [w.ok.four]; decide)
  have pm2 : ((u.stand (last + 1) 0).q.flatten ++ ws).Perm ((last + 1) :: (u.q.flatten ++ ws)) := List.Perm.append_right ws pm
  have lf := w.few
  refine ⟨w.ok.stand (by decide) no1, (List.Perm.nodup_iff pm2).mpr (List.nodup_cons.mpr ⟨fun m => no _ m rfl, w.nd⟩), ?_, fun x hx => ?_, ?_, w.z, w.rb⟩
  · show (keysI (putI u.dep _ _)).Perm _
    rw [keys_new nk]
    exact (List.perm_append_singleton _ _).trans ((List.Perm.cons _ w.kp).trans pm2.symm)
  · rcases List.mem_cons.mp (pm2.subset hx) with e | e
    · have : 0 ≤ last := by omega
      omega
    · have := w.rg x e
      omega
  · have := pm.length_eq
    rw [List.length_cons] at this
    omega
theorem W31.wake (w : W31 u ws last) {l : Nat} (hn : n ∈ ws) (hg : getI u.dep n = some (l : Int)) : W31 (u.stand n l) (ws.filter fun x => !decide (x = n)) last := by
  have hl := w.ok.lv n _ hg
  have nd := List.nodup_append.mp w.nd
  have no : n ∉ u.q.flatten := fun m => nd.2.2 n m n hn rfl
  have pm := pm_stand (u := u) (n := n) (l := l) (by rw [w.ok.four]; omega)
  have pk := nd_filter nd.2.1 hn
  have pm2 : ((u.stand n l).q.flatten ++ ws.filter fun x => !decide (x = n)).Perm (u.q.flatten ++ ws) := (List.Perm.append_right _ pm).trans ((List.perm_middle.symm).trans (List.Perm.append_left _ pk))
  refine ⟨w.ok.stand (by omega) no, (List.Perm.nodup_iff pm2).mpr w.nd, ?_, fun x hx => w.rg x (pm2.subset hx), ?_, w.z, w.rb⟩
  · show (keysI (putI u.dep _ _)).Perm _
    rw [keys_old (mem_keys.mpr ⟨_, hg⟩)]
    exact w.kp.trans pm2.symm
  · have := pm2.length_eq
    rw [List.length_append, List.length_append] at this
    have := w.few
    omega
theorem W31.counted (w : W31 u ws last) : W31 u.counted ws last := by
  have fl := fl_counted u
  refine ⟨w.ok.counted, by rw [fl]; exact w.nd, ?_, by rw [fl]; exact w.rg, by rw [fl]; exact w.few, ?_, ?_⟩
  · rw [fl]
    unfold TU.counted
    split
    · exact w.kp
    · show (keysI (zI u.dep)).Perm _
      rw [keys_z w.kn]
      exact w.kp
  · unfold TU.counted
    split
    · exact w.z
    · exact fun _ => rfl
  · unfold TU.counted
    split
    · exact w.rb
    · exact z16
theorem W31.how (w : W31 u ws last) (hr : u.runs = some n) (s : Str) (hs : s = "went" ∨ s = "passes" ∨ s = "waits" ∨ s = "ends") : W31 (howE s u n) (howW s ws n) last := by
  obtain ⟨l, r, hg, hrow, hm, hl⟩ := lev_of w.ok (w.ok.run n hr).1
  have rn := (w.ok.run n hr).2
  have nk : n ∈ keysI u.dep := mem_keys.mpr ⟨_, hg⟩
  have pm0 := pm_over (u := u) hrow hm
  rcases hs with rfl | rfl | rfl | rfl
  · rw [show howW "went" ws n = ws from if_neg (by decide +kernel), show howE "went" u n = u.wentN n from if_pos rfl]
    obtain ⟨a, b, c, d⟩ := went_fl w.ok hr
    have b2 := List.Perm.append_right ws b
    refine ⟨a, (List.Perm.nodup_iff b2).mpr w.nd, ?_, fun x hx => w.rg x (b2.subset hx), by rw [b.length_eq]; exact w.few, ?_, ?_⟩
    · refine List.Perm.trans ?_ b2.symm
      unfold TU.wentN
      split
      · show (keysI (putI u.dep _ _)).Perm _
        rw [keys_old nk]
        exact w.kp
      · exact w.kp
    · unfold TU.wentN
      split
      · exact fun _ => rfl
      · exact fun z => by rw [show u.runs = none from z] at hr; cases hr
    · unfold TU.wentN
      split
      · exact z16
      · have := w.rb
        exact ⟨by show 0 ≤ u.rest - 1; omega, by show u.rest - 1 ≤ 16; omega⟩
  · rw [show howW "passes" ws n = ws from if_neg (by decide +kernel), show howE "passes" u n = u.passN n from (if_neg (by decide +kernel)).trans (if_pos rfl)]
    obtain ⟨a, b, c, d⟩ := pass_fl w.ok hr
    have b2 := List.Perm.append_right ws b
    refine ⟨a, (List.Perm.nodup_iff b2).mpr w.nd, ?_, fun x hx => w.rg x (b2.subset hx), by rw [b.length_eq]; exact w.few, fun _ => rfl, z16⟩
    refine List.Perm.trans ?_ b2.symm
    show (keysI (putI u.dep _ _)).Perm _
    rw [keys_old nk]
    exact w.kp
  · rw [show howW "waits" ws n = ws ++ [n] from if_pos rfl, show howE "waits" u n = u.waitN n from (if_neg (by decide +kernel)).trans ((if_neg (by decide +kernel)).trans (if_pos rfl))]
    obtain ⟨a, b, c, d⟩ := wait_fl w.ok hr
    have b2 : ((u.waitN n).q.flatten ++ (ws ++ [n])).Perm (u.q.flatten ++ ws) := by
      rw [← List.append_assoc]
      exact (List.perm_append_singleton n ((u.waitN n).q.flatten ++ ws)).trans (List.Perm.append_right ws b)
    refine ⟨a, (List.Perm.nodup_iff b2).mpr w.nd, by rw [d]; exact w.kp.trans b2.symm, fun x hx => w.rg x (b2.subset hx), ?_, fun _ => rfl, z16⟩
    have := b2.length_eq
    rw [List.length_append] at this
    have h3 := w.few
    rw [this, List.length_append]
    exact h3
  · rw [show howW "ends" ws n = ws from if_neg (by decide +kernel), show howE "ends" u n = u.endN n from (if_neg (by decide +kernel)).trans ((if_neg (by decide +kernel)).trans (if_neg (by decide +kernel)))]
    have e : u.endN n = { u.over n l with dep := dropI u.dep n } := by unfold TU.endN; rw [lev_at hg]
    have no := out_over w.ok hrow hm
    rw [e]
    have b2 : (n :: ((u.over n l).q.flatten ++ ws)).Perm (u.q.flatten ++ ws) := List.Perm.append_right ws pm0
    have nd2 := List.nodup_cons.mp ((List.Perm.nodup_iff b2).mpr w.nd)
    refine ⟨(w.ok.over hrow hm).drop no, nd2.2, ?_, fun x hx => w.rg x (b2.subset (List.mem_cons_of_mem _ hx)), ?_, fun _ => rfl, z16⟩
    · show (keysI (dropI u.dep n)).Perm _
      rw [keys_drop]
      have h1 := w.kp.trans b2.symm
      have h2 := (nd_filter w.kn nk).trans h1
      exact h2.cons_inv
    · have := b2.length_eq
      rw [List.length_cons, List.length_append, List.length_append] at this
      have := w.few
      show (((u.over n l).q.flatten.length + ws.length : Nat) : Int) ≤ last
      omega
theorem out_row (w : W31 u ws last) {l : Nat} {r : List Int} (hg : getI u.dep n = some (l : Int)) (hrow : u.q[l]? = some r) : n ∈ r ↔ n ∉ ws := by
  have nd := List.nodup_append.mp w.nd
  constructor
  · intro m mw
    exact nd.2.2 n (mem_fl hrow m) n mw rfl
  · intro h
    have m := w.kp.subset (mem_keys.mpr ⟨_, hg⟩)
    rcases List.mem_append.mp m with m | m
    · obtain ⟨k, r2, e, m⟩ := of_fl m
      have := w.ok.at_ k r2 n e m
      rw [hg] at this
      have e2 : k = l := by have := Option.some.inj this; omega
      subst e2
      rw [hrow] at e
      rw [Option.some.inj e]
      exact m
    · exact (h m).elim
theorem W31.leave (w : W31 u ws last) {l : Nat} {r : List Int} (hg : getI u.dep n = some (l : Int)) (hrow : u.q[l]? = some r) : W31 (u.leaveN n) (ws.filter fun x => !decide (x = n)) last := by
  have hl := w.ok.lv n _ hg
  have nd := List.nodup_append.mp w.nd
  have nk : n ∈ keysI u.dep := mem_keys.mpr ⟨_, hg⟩
  have iff := out_row w hg hrow
  have kd := keys_drop u.dep n
  have h0 := (nd_filter w.kn nk).trans w.kp
  by_cases m : n ∈ r
  · have nw := iff.mp m
    have e : u.leaveN n = { q := (u.over n l).q, dep := dropI u.dep n, runs := if u.runs = some n then none else u.runs, rest := if u.runs = some n then 0 else u.rest, steps := u.steps } := by
      unfold TU.leaveN TU.over
      rw [lev_at hg, row_at hrow, if_pos m]
    rw [e, filter_out nw]
    have no := out_over w.ok hrow m
    have pm0 := pm_over (u := u) hrow m
    have b2 : (n :: ((u.over n l).q.flatten ++ ws)).Perm (u.q.flatten ++ ws) := List.Perm.append_right ws pm0
    have nd2 := List.nodup_cons.mp ((List.Perm.nodup_iff b2).mpr w.nd)
    have od := (w.ok.over hrow m).drop no
    refine ⟨⟨od.four, od.at_, od.lv, fun x hx => ?_, od.nd⟩, nd2.2, ?_, fun x hx => w.rg x (b2.subset (List.mem_cons_of_mem _ hx)), ?_, ?_, ?_⟩
    · dsimp only at hx ⊢
      split at hx
      · cases hx
      · rename_i hne
        rw [if_neg hne]
        refine ⟨?_, (w.ok.run x hx).2⟩
        have mx := pm0.symm.subset (w.ok.run x hx).1
        rcases List.mem_cons.mp mx with e2 | e2
        · exact (hne (by rw [hx, e2])).elim
        · exact e2
    · show (keysI (dropI u.dep n)).Perm _
      rw [kd]
      exact (h0.trans b2.symm).cons_inv
    · have := b2.length_eq
      rw [List.length_cons, List.length_append, List.length_append] at this
      have := w.few
      show (((u.over n l).q.flatten.length + ws.length : Nat) : Int) ≤ last
      omega
    · dsimp only
      split
      · exact fun _ => rfl
      · exact w.z
    · dsimp only
      split
      · exact z16
      · exact w.rb
  · have mw : n ∈ ws := Classical.byContradiction fun h => m (iff.mpr h)
    have nf : n ∉ u.q.flatten := fun h => nd.2.2 n h n mw rfl
    have hne : ¬ u.runs = some n := fun h => nf (w.ok.run n h).1
    have e : u.leaveN n = { u with dep := dropI u.dep n } := by
      unfold TU.leaveN
      rw [lev_at hg, row_at hrow, if_neg m, if_neg hne, if_neg hne]
    rw [e]
    have pk := nd_filter nd.2.1 mw
    have b2 : (n :: (u.q.flatten ++ ws.filter fun x => !decide (x = n))).Perm (u.q.flatten ++ ws) := (List.perm_middle.symm).trans (List.Perm.append_left _ pk)
    have nd2 := List.nodup_cons.mp ((List.Perm.nodup_iff b2).mpr w.nd)
    refine ⟨w.ok.drop nf, nd2.2, ?_, fun x hx => w.rg x (b2.subset (List.mem_cons_of_mem _ hx)), ?_, w.z, w.rb⟩
    · show (keysI (dropI u.dep n)).Perm _
      rw [kd]
      exact (h0.trans b2.symm).cons_inv
    · have := b2.length_eq
      rw [List.length_cons, List.length_append, List.length_append] at this
      have := w.few
      show ((u.q.flatten.length + _ : Nat) : Int) ≤ last
      omega
end
end Sl

set_option maxRecDepth 100000
set_option maxHeartbeats 1000000
namespace Sl
open PySem L2 PySem.Spec PyProof.Rows
/-! ### sorted of a dict whose keys are numbers -/
def rSortedDI : List V → Hp → VK → Prop := fun xs H Q => ∃ (a : Addr) (kvs : List (Key × V)) (ks : List Int), xs = [.ref a] ∧ Rd H a (.dK kvs) ∧ kvs.map (·.1) = ks.map Sum.inl ∧ ks.length ≤ 100000 ∧
  ∀ (ns : List Int) (p : Addr), ns.Perm ks → ns.Pairwise (· ≤ ·) → H p = none → Q (.ref p) (upd H p (.lst (ns.map V.int)))
theorem ints_of_keys : ∀ {us : List Value} {ks : List Int}, us.length = ks.length → (∀ (j : Nat) (v : Value), us[j]? = some v → ∃ (k : Int) (t : Tok), ks[j]? = some k ∧ v = .int k t) → IntsAre us ks
  | [], [], _, _ => .nil
  | [], _ :: _, h, _ => nomatch h
  | _ :: _, [], h, _ => nomatch h
  | u :: us, k :: ks, h, f => by
    obtain ⟨x, t, e1, e2⟩ := f 0 u rfl
    cases e1
    subst e2
    exact .cons _ t (ints_of_keys (Nat.succ.inj h) fun j v e => f (j + 1) v e)
theorem call_sortedDI {X : Cx} (hcalm : X.calm = true) : CallR X (.builtin "sorted") rSortedDI := by
  intro pn z τ G xs ws R J rv hq
  obtain ⟨a, kvs, ks, rfl, rd, ek, few, q⟩ := hq
  obtain ⟨u, rfl, rx⟩ := vals1 rv
  obtain rfl : u = Value.ref a := rx
  obtain ⟨za, lo, ps, rel, dd⟩ := dk_rd J.hok rd
  obtain ⟨ep, at_⟩ := dd.dictAt
  have kk : ps.map (·.1) = ks.map Sum.inl := rel.keys.symm.trans ek
  have ll : ps.length = ks.length := by
    have e := congrArg List.length kk
    simpa using e
  have sl : ps.length ≤ sizeLine := by rw [ll]; exact sz few
  refine Calls.call_function_entry PyProof.Rows.kind_sorted PyProof.Rows.plain_sorted PyProof.Rows.entry_sorted (PyProof.Rows.args_sorted1 _) ?_
  unfold Builtin.«sorted»
  refine wpAny_bind (m := checkCount "sorted" 1 1 _) (wpAny_pure ?_)
  refine wpAny_bind (PySem.W.kdu_collect (A := X.A.in1) (PySem.W.kdl_dict (knd := mixKind X.prog X.w) (kvs := ps) (ep := ep) lo) (J.ok.hd hcalm) at_ sl ?_)
  intro hh tk acc keep got
  have al : acc.toList.length = ks.length := by rw [Array.length_toList, got.1, ll]
  have ia : IntsAre acc.toList ks := ints_of_keys al (by
    intro j v e
    obtain ⟨k, x, e1, e2⟩ := got.2 j v (by rw [← Array.getElem?_toList]; exact e)
    have e3 : (ps.map (·.1))[j]? = some k := by rw [List.getElem?_map, e1]; rfl
    rw [kk, List.getElem?_map] at e3
    cases e4 : ks[j]? with
    | none => rw [e4] at e3; cases e3
    | some y =>
      rw [e4] at e3
      cases (Option.some.inj e3 : Sum.inl y = k)
      obtain ⟨t, ev⟩ := keyIs_rel (k := .inl y) e2
      exact ⟨y, t, rfl, ev⟩)
  have J1 : L2.Inv X pn τ G { z with heap := hh, toks := tk } := J.kept keep
  refine wpAny_bind (wpAny_newList ?_ (by rw [al]; exact sz few))
  have new : (hh.push (seqObj "list" acc.toList.toArray 0)).get? hh.objs.size = some (seqObj "list" acc.toList.toArray 0) := Heap.get?_push_size _ rfl
  show wpAny _ _ _ _ _ { z with heap := hh.push (seqObj "list" acc.toList.toArray 0), toks := tk }
  refine wpAny_bind (wpAny_holding (wpAny_call_entry PyProof.Rows.slot_list_sort ⟨_, new, rfl⟩ PyProof.Rows.entry_list_sort
    (SrtO.list_sort_ord (s := { z with heap := hh.push (seqObj "list" acc.toList.toArray 0), toks := tk }) SrtO.swo_int new (by rw [al]; exact sz few) (fun two => SrtO.ints_sortable ia two) fun out s1 s2 => ⟨_, rfl, ?_⟩) (PyProof.Rows.args_list_sort _)))
  obtain ⟨k1, k2, k3⟩ := SrtO.ints_out ia s1 s2
  obtain ⟨e', he'⟩ := PyProof.Rows.sortedHeap_at (vs := acc.toList) (out := out.toArray) new
  have ol : ((out.map SrtO.iv).map V.int).length ≤ sizeLine := by
    rw [List.length_map, k2.length_eq]
    exact sz few
  refine wpAny_pure ⟨_, rfl, .ref hh.objs.size, upd G hh.objs.size (.lst ((out.map SrtO.iv).map V.int)), J1.laid (t' := tk) ?_ (Nat.le_refl _) ⟨ol, out, e', vals_of_ints k1, he'⟩, rfl, q _ _ k2 k3 (J1.hok.fresh (Nat.le_refl _))⟩
  intro b o e
  have lt : b < hh.objs.size := Heap.lt_size e
  rw [PyProof.Rows.sortedHeap_old (Nat.ne_of_lt lt) (by rw [size_push']; exact Nat.lt_succ_of_lt lt)]
  exact Heap.get?_push_of_some _ e
/-! #### rules -/
section
variable {K : PySem.W.Frag} {H : Hp} {Q : VK} {L L' : List SA} {a : Addr}
theorem r_sortedI {ns : List Int} (hs : Hd L H) (h : SqL K H a (ns.map V.int)) (q : ∀ (ms : List Int) p H', ms.Perm ns → ms.Pairwise (· ≤ ·) → Hd (pto p (.lst (ms.map V.int)) :: L) H' → Q (.ref p) H') : rSortedI K [.ref a] H Q :=
  ⟨a, ns, rfl, h, fun ms p h1 h2 n => q ms p _ h1 h2 (hs.new n)⟩
theorem r_sortedD {kvs : List (Key × V)} {ks : List Int} (hs : Hd L H) (h : H a = some (.dK kvs)) (e : kvs.map (·.1) = ks.map Sum.inl) (few : ks.length ≤ 100000) (q : ∀ (ms : List Int) p H', ms.Perm ks → ms.Pairwise (· ≤ ·) → Hd (pto p (.lst (ms.map V.int)) :: L) H' → Q (.ref p) H') : rSortedDI [.ref a] H Q :=
  ⟨a, kvs, ks, rfl, .inl h, e, few, fun ms p h1 h2 n => q ms p _ h1 h2 (hs.new n)⟩
end
/-- two rising lists of the same numbers -/
theorem sorted_eq : ∀ {a b : List Int}, a.Perm b → a.Pairwise (· ≤ ·) → b.Pairwise (· ≤ ·) → a = b
  | [], b, h, _, _ => (List.nil_perm.mp h).symm
  | x :: a, [], h, _, _ => nomatch h.length_eq
  | x :: a, y :: b, h, ha, hb => by
    have ha2 := List.pairwise_cons.mp ha
    have hb2 := List.pairwise_cons.mp hb
    have e : x = y := by
      have h1 : x ∈ y :: b := h.subset List.mem_cons_self
      have h2 : y ∈ x :: a := h.symm.subset List.mem_cons_self
      rcases List.mem_cons.mp h1 with e | m
      · exact e
      rcases List.mem_cons.mp h2 with e | m2
      · exact e.symm
      have := hb2.1 x m
      have := ha2.1 y m2
      omega
    subst e
    rw [sorted_eq (h.cons_inv) ha2.2 hb2.2]
def LenSetK (K : PySem.W.Frag) (Q : VK) (x : V) (H : Hp) : Prop := ∃ (l : Addr) (ns : List Int), x = .ref l ∧ SqL K H l (ns.map V.int) ∧ ns.Nodup ∧ ns.length ≤ 4000 ∧ Q (.int (ns.length : Nat)) H
theorem r_lenSet {K : PySem.W.Frag} {H : Hp} {Q : VK} {ta : TE} {σ : L2.St} (q : ta σ H (LenSetK K Q)) : RZ.tLenSetI K ta σ H Q := q
theorem r_lenSetK {K : PySem.W.Frag} {H : Hp} {Q : VK} {a : Addr} {ns : List Int} (h : SqL K H a (ns.map V.int)) (nd : ns.Nodup) (few : ns.length ≤ 4000) (q : Q (.int (ns.length : Nat)) H) : LenSetK K Q (.ref a) H := ⟨a, ns, rfl, h, nd, few, q⟩
end Sl

set_option linter.all false
set_option maxRecDepth 100000
set_option maxHeartbeats 1000000
namespace Sl
open PySem L2
/-! ### dicts by numbers, of anything -/
section
variable {α : Type} {f : α → V}
def dM (f : α → V) (d : List (Int × α)) : List (Key × V) := d.map fun e => (.inl e.1, f e.2)
def getM (d : List (Int × α)) (n : Int) : Option α := (d.find? fun e => decide (e.1 = n)).map (·.2)
def putM (d : List (Int × α)) (n : Int) (l : α) : List (Int × α) := if d.any fun e => decide (e.1 = n) then d.map fun e => if e.1 = n then (e.1, l) else e else d ++ [(n, l)]
def dropM (d : List (Int × α)) (n : Int) : List (Int × α) := d.filter fun e => decide (e.1 ≠ n)
theorem valV_dM (d : List (Int × α)) (n : Int) : valV (dM f d) (.inl n) = (getM d n).map f := by
  induction d with
  | nil => rfl
  | cons e r ih =>
    by_cases h : e.1 = n
    · rw [show dM f (e :: r) = (.inl e.1, f e.2) :: dM f r from rfl, valV_pos (by rw [h])]
      simp [getM, List.find?_cons, h]
    · rw [show dM f (e :: r) = (.inl e.1, f e.2) :: dM f r from rfl, valV_neg (fun q => h (Sum.inl.inj q)), ih]
      simp [getM, List.find?_cons, h]
theorem any_dM (d : List (Int × α)) (n : Int) : ((dM f d).any fun kv => decide (kv.1 = (Sum.inl n : Key))) = d.any fun e => decide (e.1 = n) := by
  unfold dM
  rw [List.any_map]
  congr 1
  funext e
  exact dec_inl _ _
theorem putK_dM (d : List (Int × α)) (n : Int) (l : α) : putK (dM f d) (.inl n) (f l) = dM f (putM d n l) := by
  unfold putK putM
  rw [any_dM]
  by_cases h : (d.any fun e => decide (e.1 = n)) = true
  · rw [if_pos h, if_pos h]
    unfold dM
    rw [List.map_map, List.map_map]
    congr 1
    funext e
    show (if (Sum.inl e.1 : Key) = Sum.inl n then _ else _) = _
    by_cases q : e.1 = n
    · rw [if_pos (by rw [q])]
      show _ = (Sum.inl (if e.1 = n then (e.1, l) else e).1, f (if e.1 = n then (e.1, l) else e).2)
      rw [if_pos q]
    · rw [if_neg (fun z => q (Sum.inl.inj z))]
      show _ = (Sum.inl (if e.1 = n then (e.1, l) else e).1, f (if e.1 = n then (e.1, l) else e).2)
      rw [if_neg q]
  · rw [if_neg h, if_neg h]
    unfold dM
    rw [List.map_append]
    rfl
theorem dropK_dM (d : List (Int × α)) (n : Int) : dropK (dM f d) (.inl n) = dM f (dropM d n) := by
  unfold dropK dropM dM
  rw [List.filter_map]
  congr 1
  congr 1
  funext e
  by_cases q : e.1 = n
  · simp [q]
  · simp [q]
theorem len_dM (d : List (Int × α)) : (dM f d).length = d.length := by
  unfold dM
  rw [List.length_map]
theorem len_putM (d : List (Int × α)) (n : Int) (l : α) : (putM d n l).length ≤ d.length + 1 := by
  unfold putM
  split
  · rw [List.length_map]
    omega
  · simp
theorem len_dropM (d : List (Int × α)) (n : Int) : (dropM d n).length ≤ d.length := List.length_filter_le _ _
theorem getM_drop (d : List (Int × α)) (n m : Int) : getM (dropM d n) m = if m = n then none else getM d m := by
  induction d with
  | nil =>
    split <;> rfl
  | cons e r ih =>
    unfold dropM at ih ⊢
    by_cases h : e.1 = n
    · rw [List.filter_cons, if_neg (by simp [h]), ih]
      by_cases q : m = n
      · rw [if_pos q, if_pos q]
      · rw [if_neg q, if_neg q]
        simp only [getM, List.find?_cons]
        rw [decide_eq_false (fun z => q (z.symm.trans h))]
    · rw [List.filter_cons, if_pos (by simp [h])]
      by_cases q : e.1 = m
      · subst q
        rw [if_neg h]
        simp [getM, List.find?_cons]
      · have a1 : getM (e :: List.filter (fun e => decide (e.1 ≠ n)) r) m = getM (List.filter (fun e => decide (e.1 ≠ n)) r) m := by
          simp only [getM, List.find?_cons]
          rw [decide_eq_false q]
        have a2 : getM (e :: r) m = getM r m := by
          simp only [getM, List.find?_cons]
          rw [decide_eq_false q]
        rw [a1, a2, ih]

theorem getM_cons (e : Int × α) (r : List (Int × α)) (m : Int) : getM (e :: r) m = if e.1 = m then some e.2 else getM r m := by
  unfold getM
  rw [List.find?_cons]
  by_cases h : e.1 = m
  · rw [decide_eq_true h, if_pos h]
    rfl
  · rw [decide_eq_false h, if_neg h]
theorem getM_put (d : List (Int × α)) (n m : Int) (l : α) : getM (putM d n l) m = if m = n then some l else getM d m := by
  have key : ∀ d : List (Int × α), getM (d.map fun e => if e.1 = n then (e.1, l) else e) m = if m = n then (if (d.any fun e => decide (e.1 = n)) = true then some l else none) else getM d m := by
    intro d
    induction d with
    | nil => split <;> rfl
    | cons e r ih =>
      rw [List.map_cons, getM_cons, ih, getM_cons, List.any_cons]
      by_cases h : e.1 = n
      · rw [if_pos h]
        by_cases q : m = n
        · rw [if_pos (show (e.1, l).1 = m from h.trans q.symm), if_pos q, decide_eq_true h, Bool.true_or, if_pos rfl]
        · rw [if_neg (show ¬ (e.1, l).1 = m from fun z => q (z.symm.trans h)), if_neg q, if_neg q, if_neg (fun z => q (z.symm.trans h))]
      · rw [if_neg h, decide_eq_false h, Bool.false_or]
        by_cases q : m = n
        · rw [if_pos q, if_neg (fun z => h (z.trans q)), if_pos q]
        · rw [if_neg q, if_neg q]
  have app : ∀ d : List (Int × α), getM (d ++ [(n, l)]) m = match getM d m with | some x => some x | none => if n = m then some l else none := by
    intro d
    induction d with
    | nil => rw [List.nil_append, getM_cons]; rfl
    | cons e r ih =>
      rw [List.cons_append, getM_cons, ih, getM_cons]
      by_cases h : e.1 = m
      · rw [if_pos h, if_pos h]
      · rw [if_neg h, if_neg h]
  unfold putM
  by_cases h : (d.any fun e => decide (e.1 = n)) = true
  · rw [if_pos h, key, h, if_pos rfl]
  · rw [if_neg h, app]
    have g : ∀ d : List (Int × α), ¬ (d.any fun e => decide (e.1 = n)) = true → getM d n = none := by
      intro d
      induction d with
      | nil => intro _; rfl
      | cons e r ih =>
        intro z
        rw [List.any_cons] at z
        by_cases y : e.1 = n
        · rw [decide_eq_true y] at z
          exact (z rfl).elim
        · rw [decide_eq_false y, Bool.false_or] at z
          rw [getM_cons, if_neg y, ih z]
    by_cases q : m = n
    · subst q
      rw [g d h]
    · rw [if_neg q, if_neg (Ne.symm q)]
      cases getM d m <;> rfl
def keysM (d : List (Int × α)) : List Int := d.map fun e => e.1
theorem keys_dM (d : List (Int × α)) : (dM f d).map (·.1) = (keysM d).map Sum.inl := by
  unfold dM keysM
  rw [List.map_map, List.map_map]
  rfl
theorem getM_some {d : List (Int × α)} {n : Int} {x : α} (h : getM d n = some x) : (n, x) ∈ d := by
  induction d with
  | nil => cases h
  | cons e r ih =>
    rw [getM_cons] at h
    by_cases q : e.1 = n
    · rw [if_pos q] at h
      cases h
      subst q
      exact List.mem_cons_self ..
    · rw [if_neg q] at h
      exact List.mem_cons_of_mem _ (ih h)
theorem mem_keysM {d : List (Int × α)} {n : Int} : n ∈ keysM d ↔ (getM d n).isSome = true := by
  induction d with
  | nil => constructor <;> intro h <;> cases h
  | cons e r ih =>
    rw [getM_cons, keysM, List.map_cons, List.mem_cons]
    by_cases q : e.1 = n
    · rw [if_pos q]
      exact ⟨fun _ => rfl, fun _ => .inl q.symm⟩
    · rw [if_neg q, ← ih]
      exact ⟨fun h => h.elim (fun z => (q z.symm).elim) id, .inr⟩
/-- with keys apart what stands at a place is what its key leads to -/
theorem getM_at {d : List (Int × α)} (nd : (keysM d).Nodup) {n : Int} {x : α} (h : (n, x) ∈ d) : getM d n = some x := by
  induction d with
  | nil => cases h
  | cons e r ih =>
    rw [keysM, List.map_cons, List.nodup_cons] at nd
    rw [getM_cons]
    rcases List.mem_cons.mp h with z | z
    · subst z
      rw [if_pos rfl]
    · rw [if_neg (fun q => nd.1 (by rw [q]; exact List.mem_map.mpr ⟨_, z, rfl⟩)), ih nd.2 z]
end
/-! ### sorting -/
def insI (x : Int) : List Int → List Int
  | [] => [x]
  | y :: r => if x ≤ y then x :: y :: r else y :: insI x r
def srt : List Int → List Int
  | [] => []
  | x :: r => insI x (srt r)
theorem insI_perm (x : Int) : ∀ r : List Int, (insI x r).Perm (x :: r)
  | [] => .refl _
  | y :: r => by
    unfold insI
    split
    · exact .refl _
    · exact ((insI_perm x r).cons y).trans (.swap x y r)
theorem srt_perm : ∀ r : List Int, (srt r).Perm r
  | [] => .refl _
  | x :: r => (insI_perm x (srt r)).trans ((srt_perm r).cons x)
theorem insI_pw (x : Int) : ∀ {r : List Int}, r.Pairwise (· ≤ ·) → (insI x r).Pairwise (· ≤ ·)
  | [], _ => List.pairwise_singleton _ _
  | y :: r, h => by
    unfold insI
    rw [List.pairwise_cons] at h
    split
    · rename_i q
      refine List.pairwise_cons.mpr ⟨fun z m => ?_, List.pairwise_cons.mpr h⟩
      rcases List.mem_cons.mp m with e | m
      · rw [e]; exact q
      · exact Int.le_trans q (h.1 z m)
    · rename_i q
      refine List.pairwise_cons.mpr ⟨fun z m => ?_, insI_pw x h.2⟩
      rcases List.mem_cons.mp ((insI_perm x r).mem_iff.mp m) with e | m
      · rw [e]; omega
      · exact h.1 z m
theorem srt_pw : ∀ r : List Int, (srt r).Pairwise (· ≤ ·)
  | [] => .nil
  | x :: r => insI_pw x (srt_pw r)
theorem srt_eq {ms ns : List Int} (h : ms.Perm ns) (p : ms.Pairwise (· ≤ ·)) : ms = srt ns := sorted_eq (h.trans (srt_perm ns).symm) p (srt_pw ns)
theorem srt_of {ns : List Int} (p : ns.Pairwise (· ≤ ·)) : srt ns = ns := (srt_eq (.refl _) p).symm
theorem srt_congr {ms ns : List Int} (h : ms.Perm ns) : srt ms = srt ns := srt_eq ((srt_perm ms).trans h) (srt_pw ms)
end Sl

set_option linter.all false
set_option maxRecDepth 100000
set_option maxHeartbeats 1000000
namespace Sl
open PySem L2
/-! ### the tasks' model: parents of those alive, husks with parents and words, the last number -/
structure TaskU where
  ov : List (Int × Int)
  sh : List (Int × (Int × Int))
  last : Int
namespace TaskU
def new : TaskU := ⟨[(1, 0)], [], 1⟩
def born (u : TaskU) (p : Int) : TaskU := { u with ov := putM u.ov (u.last + 1) p, last := u.last + 1 }
def heir (u : TaskU) (n : Int) : Int := if 1 ∈ keysM (dropM u.ov n) then 1 else 0
def par (u : TaskU) (n : Int) : Int := (getM u.ov n).getD 0
def giveO (ov : List (Int × Int)) (n o : Int) : List (Int × Int) := ov.map fun e => if e.2 = n then (e.1, o) else e
def giveS : List (Int × (Int × Int)) → Int → Int → List (Int × (Int × Int))
  | [], _, _ => []
  | e :: r, n, o => if e.2.1 = n then (if o = 0 then giveS r n o else (e.1, (o, e.2.2)) :: giveS r n o) else e :: giveS r n o
def endN (u : TaskU) (n w : Int) : TaskU :=
  { u with ov := giveO (dropM u.ov n) n (u.heir n), sh := giveS (if u.par n = 0 then u.sh else putM u.sh n (u.par n, w)) n (u.heir n) }
def kids (u : TaskU) (n : Int) : List Int := srt (((u.ov.filter fun e => decide (e.2 = n)).map fun e => e.1) ++ ((u.sh.filter fun e => decide (e.2.1 = n)).map fun e => e.1))
def husksOf (u : TaskU) (n : Int) : List Int := (u.kids n).filter fun k => decide (k ∈ keysM u.sh)
/-- whose child one is, alive or a husk -/
def parOf (u : TaskU) (n : Int) : Int := match getM u.ov n with | some p => p | none => ((getM u.sh n).map (·.1)).getD 0
def gone (u : TaskU) (k : Int) : TaskU := { u with sh := dropM u.sh k }
end TaskU
structure WT (u : TaskU) : Prop where
  nd : (keysM u.ov ++ keysM u.sh).Nodup
  rng : ∀ k ∈ keysM u.ov ++ keysM u.sh, 1 ≤ k ∧ k ≤ u.last
  par : ∀ k p, getM u.ov k = some p → p = 0 ∨ p ∈ keysM u.ov
  top : 1 ∈ keysM u.ov → ∀ k p, getM u.ov k = some p → (p = 0 ↔ k = 1)
  one : 1 ∉ keysM u.sh
  shp : ∀ k x, getM u.sh k = some x → x.1 ∈ keysM u.ov
section
variable {u : TaskU} {n w p k : Int}
theorem keysM_put_new {α : Type} {d : List (Int × α)} {l : α} (h : n ∉ keysM d) : putM d n l = d ++ [(n, l)] := by
  unfold putM
  rw [if_neg]
  intro z
  obtain ⟨e, m, q⟩ := List.any_eq_true.mp z
  exact h (List.mem_map.mpr ⟨e, m, of_decide_eq_true q⟩)
theorem keysM_app {α : Type} (a b : List (Int × α)) : keysM (a ++ b) = keysM a ++ keysM b := List.map_append
theorem keysM_drop {α : Type} (d : List (Int × α)) (n : Int) : keysM (dropM d n) = (keysM d).filter fun k => decide (k ≠ n) := by
  unfold keysM dropM
  rw [List.filter_map]
  rfl
theorem keys_giveO (ov : List (Int × Int)) (n o : Int) : keysM (TaskU.giveO ov n o) = keysM ov := by
  unfold TaskU.giveO keysM
  rw [List.map_map]
  congr 1
  funext e
  show (if e.2 = n then (e.1, o) else e).1 = e.1
  split <;> rfl
theorem get_giveO (n o k : Int) : ∀ ov : List (Int × Int), getM (TaskU.giveO ov n o) k = (getM ov k).map fun p => if p = n then o else p
  | [] => rfl
  | e :: r => by
    show getM ((if e.2 = n then (e.1, o) else e) :: TaskU.giveO r n o) k = _
    rw [getM_cons, getM_cons, get_giveO n o k r]
    by_cases h : e.2 = n
    · rw [if_pos h]
      by_cases q : e.1 = k
      · rw [if_pos q, if_pos q, Option.map_some, if_pos h]
      · rw [if_neg q, if_neg q]
    · rw [if_neg h]
      by_cases q : e.1 = k
      · rw [if_pos q, if_pos q, Option.map_some, if_neg h]
      · rw [if_neg q, if_neg q]
theorem keys_giveS_sub (n o : Int) : ∀ sh : List (Int × (Int × Int)), (keysM (TaskU.giveS sh n o)).Sublist (keysM sh)
  | [] => .slnil
  | e :: r => by
    have ih := keys_giveS_sub n o r
    unfold TaskU.giveS
    by_cases h : e.2.1 = n
    · rw [if_pos h]
      by_cases q : o = 0
      · rw [if_pos q]
        exact ih.cons _
      · rw [if_neg q]
        exact ih.cons₂ _
    · rw [if_neg h]
      exact ih.cons₂ _
theorem mem_giveS {n o : Int} {e : Int × (Int × Int)} : ∀ {sh : List (Int × (Int × Int))}, e ∈ TaskU.giveS sh n o → (e ∈ sh ∧ e.2.1 ≠ n) ∨ (o ≠ 0 ∧ e.2.1 = o)
  | [], h => by cases h
  | x :: r, h => by
    unfold TaskU.giveS at h
    have up : ((e ∈ r ∧ e.2.1 ≠ n) ∨ (o ≠ 0 ∧ e.2.1 = o)) → ((e ∈ x :: r ∧ e.2.1 ≠ n) ∨ (o ≠ 0 ∧ e.2.1 = o)) := fun z => z.imp (fun y => ⟨List.mem_cons_of_mem _ y.1, y.2⟩) id
    by_cases hx : x.2.1 = n
    · rw [if_pos hx] at h
      by_cases ho : o = 0
      · rw [if_pos ho] at h
        exact up (mem_giveS h)
      · rw [if_neg ho] at h
        rcases List.mem_cons.mp h with z | z
        · rw [z]
          exact .inr ⟨ho, rfl⟩
        · exact up (mem_giveS z)
    · rw [if_neg hx] at h
      rcases List.mem_cons.mp h with z | z
      · rw [z]
        exact .inl ⟨List.mem_cons_self .., hx⟩
      · exact up (mem_giveS z)
theorem WT.new : WT TaskU.new where
  nd := by decide
  rng := by decide
  par := fun k p h => by
    have := getM_some h
    rcases List.mem_cons.mp this with e | e
    · cases e; exact .inl rfl
    · cases e
  top := fun _ k p h => by
    have := getM_some h
    rcases List.mem_cons.mp this with e | e
    · cases e; decide
    · cases e
  one := by decide
  shp := fun k x h => by cases h
theorem WT.fresh (W : WT u) : u.last + 1 ∉ keysM u.ov ++ keysM u.sh := fun m => by
  have := (W.rng _ m).2
  omega
theorem WT.ndO (W : WT u) : (keysM u.ov).Nodup := (List.nodup_append.mp W.nd).1
theorem WT.ndS (W : WT u) : (keysM u.sh).Nodup := (List.nodup_append.mp W.nd).2.1
theorem WT.apart (W : WT u) (h : k ∈ keysM u.ov) : k ∉ keysM u.sh := fun m => (List.nodup_append.mp W.nd).2.2 k h k m rfl
theorem WT.born (W : WT u) (hp : p ∈ keysM u.ov) (hl : 1 ≤ u.last) : WT (u.born p) := by
  have fr := W.fresh
  have f1 : u.last + 1 ∉ keysM u.ov := fun m => fr (List.mem_append_left _ m)
  have f2 : u.last + 1 ∉ keysM u.sh := fun m => fr (List.mem_append_right _ m)
  have ek : keysM (u.born p).ov = keysM u.ov ++ [u.last + 1] := by
    show keysM (putM u.ov _ p) = _
    rw [keysM_put_new f1, keysM_app]
    rfl
  have p1 : 1 ≤ p := (W.rng p (List.mem_append_left _ hp)).1
  refine ⟨?_, ?_, ?_, ?_, W.one, ?_⟩
  · rw [ek]
    have : (keysM u.ov ++ [u.last + 1] ++ keysM u.sh).Perm ((u.last + 1) :: (keysM u.ov ++ keysM u.sh)) := by
      rw [List.append_assoc]
      exact List.perm_middle
    exact this.nodup_iff.mpr (List.nodup_cons.mpr ⟨fr, W.nd⟩)
  · intro k m
    rw [ek] at m
    show 1 ≤ k ∧ k ≤ u.last + 1
    simp only [List.mem_append, List.mem_singleton] at m
    rcases m with (m | m) | m
    · have := W.rng k (List.mem_append_left _ m); omega
    · omega
    · have := W.rng k (List.mem_append_right _ m); omega
  · intro k x h
    rw [show getM (u.born p).ov k = _ from getM_put u.ov (u.last + 1) k p] at h
    rw [ek]
    by_cases e : k = u.last + 1
    · rw [if_pos e] at h
      cases h
      exact .inr (List.mem_append_left _ hp)
    · rw [if_neg e] at h
      exact (W.par k x h).imp id fun m => List.mem_append_left _ m
  · intro h1 k x h
    rw [show getM (u.born p).ov k = _ from getM_put u.ov (u.last + 1) k p] at h
    by_cases e : k = u.last + 1
    · rw [if_pos e] at h
      cases h
      omega
    · rw [if_neg e] at h
      refine W.top ?_ k x h
      rw [ek] at h1
      rcases List.mem_append.mp h1 with m | m
      · exact m
      · have := List.mem_singleton.mp m
        omega
  · intro k x h
    rw [ek]
    exact List.mem_append_left _ (W.shp k x h)
theorem WT.gone (W : WT u) (k : Int) : WT (u.gone k) := by
  have sub : (keysM (u.gone k).sh).Sublist (keysM u.sh) := by
    rw [show (u.gone k).sh = dropM u.sh k from rfl, keysM_drop]
    exact List.filter_sublist
  refine ⟨W.nd.sublist ((List.Sublist.refl _).append sub), fun x m => W.rng x (((List.Sublist.refl _).append sub).mem m), W.par, W.top, fun m => W.one (sub.mem m), fun x y h => ?_⟩
  rw [show getM (u.gone k).sh x = _ from getM_drop u.sh k x] at h
  by_cases e : x = k
  · rw [if_pos e] at h
    cases h
  · rw [if_neg e] at h
    exact W.shp x y h
theorem WT.endN (W : WT u) (hn : n ∈ keysM u.ov) : WT (u.endN n w) := by
  have ko : keysM (u.endN n w).ov = (keysM u.ov).filter fun k => decide (k ≠ n) := by
    show keysM (TaskU.giveO _ _ _) = _
    rw [keys_giveO, keysM_drop]
  have hs1 : n ∉ keysM u.sh := W.apart hn
  obtain ⟨sh1, es⟩ : ∃ sh1, sh1 = (if u.par n = 0 then u.sh else putM u.sh n (u.par n, w)) := ⟨_, rfl⟩
  have k1 : (keysM sh1).Sublist (keysM u.sh ++ [n]) := by
    rw [es]
    split
    · exact List.sublist_append_left _ _
    · rw [keysM_put_new hs1, keysM_app]
      exact List.Sublist.refl _
  have ks : (keysM (u.endN n w).sh).Sublist (keysM u.sh ++ [n]) := by
    show (keysM (TaskU.giveS _ _ _)).Sublist _
    rw [← es]
    exact (keys_giveS_sub _ _ _).trans k1
  have mo : ∀ k, k ∈ keysM (u.endN n w).ov ↔ (k ∈ keysM u.ov ∧ k ≠ n) := fun k => by
    rw [ko, List.mem_filter, decide_eq_true_iff]
  have hh : u.heir n = if 1 ∈ keysM (u.endN n w).ov then 1 else 0 := by
    show (if _ then _ else _) = _
    rw [show keysM (u.endN n w).ov = keysM (dropM u.ov n) from keys_giveO ..]
  have hin : u.heir n = 0 ∨ (u.heir n = 1 ∧ 1 ∈ keysM (u.endN n w).ov) := by
    rw [hh]
    split
    · exact .inr ⟨rfl, by assumption⟩
    · exact .inl rfl
  have np : n ≠ 0 := by
    have := (W.rng n (List.mem_append_left _ hn)).1
    omega
  have go : ∀ k p, getM (u.endN n w).ov k = some p → k ≠ n ∧ ∃ p0, getM u.ov k = some p0 ∧ p = if p0 = n then u.heir n else p0 := by
    intro k p h
    rw [show getM (u.endN n w).ov k = _ from get_giveO _ _ _ _, getM_drop] at h
    by_cases e : k = n
    · rw [if_pos e] at h
      cases h
    · rw [if_neg e] at h
      refine ⟨e, ?_⟩
      cases g : getM u.ov k with
      | none => rw [g] at h; cases h
      | some p0 =>
        rw [g] at h
        exact ⟨p0, rfl, (Option.some.inj h).symm⟩
  refine ⟨?_, ?_, ?_, ?_, ?_, ?_⟩
  · refine List.nodup_append.mpr ⟨by rw [ko]; exact W.ndO.sublist List.filter_sublist, ?_, ?_⟩
    · refine List.Nodup.sublist ks (List.nodup_append.mpr ⟨W.ndS, List.pairwise_singleton _ _, ?_⟩)
      intro a ma b mb e
      rw [List.mem_singleton.mp mb] at e
      exact hs1 (e ▸ ma)
    · intro a ma b mb e
      subst e
      have h1 := (mo a).mp ma
      rcases List.mem_append.mp (ks.mem mb) with m | m
      · exact W.apart h1.1 m
      · exact h1.2 (List.mem_singleton.mp m)
  · intro k m
    show 1 ≤ k ∧ k ≤ u.last
    rcases List.mem_append.mp m with m | m
    · exact W.rng k (List.mem_append_left _ ((mo k).mp m).1)
    · rcases List.mem_append.mp (ks.mem m) with m | m
      · exact W.rng k (List.mem_append_right _ m)
      · rw [List.mem_singleton.mp m]
        exact W.rng n (List.mem_append_left _ hn)
  · intro k p h
    obtain ⟨e, p0, h0, hp⟩ := go k p h
    rw [hp]
    by_cases q : p0 = n
    · rw [if_pos q]
      rcases hin with z | z
      · exact .inl z
      · rw [z.1]
        exact .inr z.2
    · rw [if_neg q]
      rcases W.par k p0 h0 with z | z
      · exact .inl z
      · exact .inr ((mo _).mpr ⟨z, q⟩)
  · intro h1 k p h
    obtain ⟨e, p0, h0, hp⟩ := go k p h
    have t := W.top ((mo 1).mp h1).1 k p0 h0
    rw [hp]
    by_cases q : p0 = n
    · rw [if_pos q, hh, if_pos h1]
      constructor
      · intro z; cases z
      · intro z
        have := t.mpr z
        omega
    · rw [if_neg q]
      exact t
  · intro m
    rcases List.mem_append.mp (ks.mem m) with m | m
    · exact W.one m
    · rename_i m0
      have e1 : n = 1 := (List.mem_singleton.mp m).symm
      subst e1
      have m2 : 1 ∈ keysM sh1 := by
        rw [es]
        exact (keys_giveS_sub _ _ _).mem m0
      rw [es] at m2
      have : u.par 1 = 0 := by
        obtain ⟨x, hx⟩ := Option.isSome_iff_exists.mp (mem_keysM.mp hn)
        show (getM u.ov 1).getD 0 = 0
        rw [hx]
        exact (W.top hn 1 x hx).mpr rfl
      rw [if_pos this] at m2
      exact W.one m2
  · intro k x h
    have m := getM_some h
    rcases mem_giveS m with ⟨m1, m2⟩ | ⟨h1, h2⟩
    · have m3 : x.1 ∈ keysM u.ov := by
        split at m1
        · exact W.shp k x (getM_at W.ndS m1)
        · rename_i hp
          rw [keysM_put_new hs1] at m1
          rcases List.mem_append.mp m1 with y | y
          · exact W.shp k x (getM_at W.ndS y)
          · cases List.mem_singleton.mp y
            obtain ⟨z, hz⟩ := Option.isSome_iff_exists.mp (mem_keysM.mp hn)
            have ez : u.par n = z := by
              show (getM u.ov n).getD 0 = z
              rw [hz]
              rfl
            rw [ez] at hp ⊢
            exact (W.par n z hz).resolve_left hp
      exact (mo _).mpr ⟨m3, m2⟩
    · rw [h2]
      rcases hin with z | z
      · exact (h1 z).elim
      · rw [z.1]
        exact z.2
/-- nobody is its own parent -/
def WNe (u : TaskU) : Prop := ∀ k p, getM u.ov k = some p → p ≠ k
theorem WNe.new : WNe TaskU.new := fun k p h => by
  rw [show TaskU.new.ov = [(1, 0)] from rfl, getM_cons] at h
  split at h
  · cases h
    omega
  · cases h
theorem WNe.born (N : WNe u) (W : WT u) (hp : p ∈ keysM u.ov) : WNe (u.born p) := fun k x h => by
  rw [show getM (u.born p).ov k = _ from getM_put u.ov (u.last + 1) k p] at h
  split at h
  · cases h
    have := (W.rng p (List.mem_append_left _ hp)).2
    omega
  · exact N k x h
theorem WNe.endN (N : WNe u) (W : WT u) (h1 : 1 ∈ keysM u.ov) (hn : n ∈ keysM u.ov) : WNe (u.endN n w) := fun k x h => by
  rw [show getM (u.endN n w).ov k = _ from get_giveO _ _ _ _, getM_drop] at h
  by_cases e : k = n
  · rw [if_pos e] at h
    cases h
  · rw [if_neg e] at h
    cases g : getM u.ov k with
    | none => rw [g] at h; cases h
    | some p0 =>
      rw [g, Option.map_some] at h
      have h := (Option.some.inj h).symm
      have hk := W.rng k (List.mem_append_left _ (mem_keysM.mpr (by rw [g]; rfl)))
      split at h
      · rename_i z
        have t := W.top h1 k p0 g
        rw [h]
        unfold TaskU.heir
        split
        · intro y
          have hk1 : k = 1 := y.symm
          rw [hk1] at e
          have hp0 := t.mpr hk1
          have := W.rng k (List.mem_append_left _ (mem_keysM.mpr (by rw [g]; rfl)))
          rename_i m1
          rw [keysM_drop, List.mem_filter] at m1
          have nn := W.ndO
          have := N k p0 g
          rw [z] at hp0
          have := W.rng n (List.mem_append_left _ hn)
          omega
        · omega
      · rw [h]
        exact N k p0 g
theorem len_endO (W : WT u) (hn : n ∈ keysM u.ov) : (u.endN n w).ov.length + 1 = u.ov.length := by
  show (TaskU.giveO (dropM u.ov n) n (u.heir n)).length + 1 = _
  unfold TaskU.giveO
  rw [List.length_map]
  have e : (dropM u.ov n).length = (keysM (dropM u.ov n)).length := (List.length_map _).symm
  have e2 : u.ov.length = (keysM u.ov).length := (List.length_map _).symm
  rw [e, e2, keysM_drop]
  have p : (keysM u.ov).Perm (n :: (keysM u.ov).erase n) := List.perm_cons_erase hn
  rw [p.length_eq, List.length_cons]
  congr 1
  have nd := W.ndO
  rw [List.Nodup.erase_eq_filter nd]
  congr 1
  apply List.filter_congr
  intro x _
  by_cases q : x = n <;> simp [q]
theorem len_giveS (n o : Int) : ∀ sh : List (Int × (Int × Int)), (TaskU.giveS sh n o).length ≤ sh.length
  | [] => Nat.le_refl _
  | e :: r => by
    have ih := len_giveS n o r
    unfold TaskU.giveS
    repeat' split
    all_goals simp only [List.length_cons]; omega
theorem len_endS : (u.endN n w).sh.length ≤ u.sh.length + 1 := by
  refine Nat.le_trans (len_giveS _ _ _) ?_
  split
  · omega
  · exact len_putM _ _ _
theorem get_giveS_ne {n o k : Int} {x : Int × Int} (h : x.1 ≠ n) : ∀ {sh : List (Int × (Int × Int))}, (keysM sh).Nodup → getM sh k = some x → getM (TaskU.giveS sh n o) k = some x
  | [], _, e => by cases e
  | y :: r, nd, e => by
    have nd2 := (List.nodup_cons.mp (show (y.1 :: keysM r).Nodup from nd))
    rw [getM_cons] at e
    unfold TaskU.giveS
    by_cases q : y.1 = k
    · rw [if_pos q] at e
      cases e
      rw [if_neg h, getM_cons, if_pos q]
    · rw [if_neg q] at e
      have ih := get_giveS_ne (o := o) h nd2.2 e
      split
      · split
        · exact ih
        · rw [getM_cons, if_neg q, ih]
      · rw [getM_cons, if_neg q, ih]
theorem kids_end (W : WT u) (N : WNe u) (hp : getM u.ov n = some p) (p0 : p ≠ 0) : n ∈ (u.endN n w).kids p := by
  have hn : n ∈ keysM u.ov := mem_keysM.mpr (by rw [hp]; rfl)
  have ep : u.par n = p := by unfold TaskU.par; rw [hp]; rfl
  have ns := W.apart hn
  have g1 : getM (u.endN n w).sh n = some (p, w) := by
    show getM (TaskU.giveS (if u.par n = 0 then u.sh else putM u.sh n (u.par n, w)) n (u.heir n)) n = _
    rw [ep, if_neg p0]
    refine get_giveS_ne (N n p hp) ?_ (by rw [getM_put, if_pos rfl])
    rw [keysM_put_new ns, keysM_app]
    exact List.nodup_append.mpr ⟨W.ndS, List.pairwise_singleton _ _, fun a ma b mb e => by
      rw [List.mem_singleton.mp mb] at e
      have e : a = n := e
      exact ns (e ▸ ma)⟩
  unfold TaskU.kids
  refine (srt_perm _).mem_iff.mpr (List.mem_append_right _ (List.mem_map.mpr ⟨(n, (p, w)), List.mem_filter.mpr ⟨getM_some g1, decide_eq_true rfl⟩, rfl⟩))
theorem keys_endO (k : Int) : k ∈ keysM (u.endN n w).ov ↔ (k ∈ keysM u.ov ∧ k ≠ n) := by
  rw [show keysM (u.endN n w).ov = keysM (dropM u.ov n) from keys_giveO .., keysM_drop, List.mem_filter, decide_eq_true_iff]
end
end Sl

set_option linter.all false
set_option maxRecDepth 100000
set_option maxHeartbeats 1000000
namespace Sl
open PySem L2
/-! ### list(d.items()), and a comprehension over items -/
section
variable {K : PySem.W.Frag} {H : Hp} {Q : VK} {a : Addr} {kvs : List (Key × V)} {L : List SA} {te : TE} {σ : L2.St}
theorem pr_mem {α β : Type} {R S : α → β → Prop} {xs : List α} {ys : List β} (h : Paired R xs ys) (f : ∀ a ∈ xs, ∀ b, R a b → S a b) : Paired S xs ys := by
  induction h with
  | nil => exact .nil
  | cons a _ ih => exact .cons (f _ (List.mem_cons_self ..) _ a) (ih fun a m => f a (List.mem_cons_of_mem _ m))
def ItemsK (Q : VK) (x : V) (H : Hp) : Prop := LiI.rItemsL x H Q
theorem r_listItems (q : te σ H (ItemsK Q)) : LiI.tListItems te σ H Q := q
theorem r_listItemsK (hs : Hd L H) (h : H a = some (.dK kvs)) (q : ∀ p ts H', Hd (pto p (.lst (ts.map V.ref)) :: pairsA ts kvs :: L) H' → Q (.ref p) H') : ItemsK Q (.ref a) H := by
  refine ⟨a, kvs, rfl, h, fun H' p ts s np nt pn hp pr => q p ts H' ?_⟩
  refine ⟨one p (.lst (ts.map V.ref)), fun b => if b = p then none else H' b, one_cmp (if_pos rfl), one_sub hp, fun b o e => ?_, one_at, ?_⟩
  · dsimp only at e
    by_cases z : b = p
    · rw [if_pos z] at e
      cases e
    · rw [if_neg z] at e
      exact e
  · refine ⟨fun b => if b ∈ ts then H' b else none, H, fun b o1 o2 e1 e2 => ?_, fun b o e => ?_, fun b o e => ?_, ?_, hs⟩
    · dsimp only at e1
      by_cases z : b ∈ ts
      · rw [nt b z] at e2
        cases e2
      · rw [if_neg z] at e1
        cases e1
    · dsimp only at e ⊢
      by_cases z : b ∈ ts
      · rw [if_pos z] at e
        rw [if_neg (show ¬ b = p from fun y => pn (y ▸ z))]
        exact e
      · rw [if_neg z] at e
        cases e
    · dsimp only
      rw [if_neg (fun y => by rw [y, np] at e; cases e)]
      exact s b o e
    · exact pr_mem pr fun t m kv e => by
        dsimp only
        rw [if_pos m]
        exact e
end
section
variable {K : PySem.W.Frag} {H : Hp} {Q : VK} {d : Addr} {o : Obj} {kvs : List (Key × V)} {L : List SA} {te : TE} {g : TG} {tt : TT} {vs : List Nat} {σ : L2.St} {R : It → Hp → Prop}
def ItemIK (R : It → Hp → Prop) (x : V) (H : Hp) : Prop := ∃ d o kvs, x = .ref d ∧ H d = some (.frz o (.dK kvs)) ∧ R (Iti d o kvs) H
theorem r_items (q : te σ H (ItemIK R)) : iItems te σ H R := q
theorem r_itemsK (h : H d = some (.frz o (.dK kvs))) (q : R (Iti d o kvs) H) : ItemIK R (.ref d) H := ⟨d, o, kvs, rfl, h, q⟩
theorem r_lcItems (P : Addr → Nat → Hp → Prop) (hh : Hd L H) (h0 : ∀ D H', Hd (pto D (.lst []) :: L) H' → P D 0 H') (hl : ∀ D i H, i ≤ kvs.length → P D i H → H d = some (.frz o (.dK kvs)))
    (hs : ∀ D i k v T H, kvs[i]? = some (k, v) → P D i H → H T = none → g (.ref T) (wipe σ vs) (upd H T (.tup [kV k, v])) fun σ2 H2 => wipe σ2 vs = wipe σ vs ∧ tt σ2 H2 fun b H3 => if b = true then te σ2 H3 (AppK D (P D (i + 1))) else P D (i + 1) H3)
    (hd : ∀ D H, P D kvs.length H → Q (.ref D) H) : LcK g tt te vs σ Q (Iti d o kvs) H :=
  r_lcW walk_items P hh h0 hl (fun D i x H H' hi p y => by
    obtain ⟨T, x1, y1, e, n, e2, h1, h2⟩ := y
    obtain ⟨kv, hk⟩ : ∃ kv, kvs[i]? = some kv := ⟨kvs[i], List.getElem?_eq_getElem hi⟩
    dsimp only at h1 h2
    rw [hk] at h1 h2
    cases h1
    cases h2
    subst e e2
    exact hs D i kv.1 kv.2 T H hk p n) hd
end
/-! ### a dict of pairs of numbers -/
def noG (g : List (Int × (Addr × Int × Int))) : List (Int × (Int × Int)) := g.map fun e => (e.1, e.2.2)
def refG (x : Addr × Int × Int) : V := .ref x.1
def tupG (g : List (Int × (Addr × Int × Int))) : SA := fun H => ∀ e ∈ g, H e.2.1 = some (.tup [.int e.2.2.1, .int e.2.2.2])
theorem up_tupG (g : List (Int × (Addr × Int × Int))) : Up (tupG g) := fun _ _ s h e m => s _ _ (h e m)
section
variable {g g' : List (Int × (Addr × Int × Int))} {n k : Int} {t : Addr} {x : Int × Int} {L L' : List SA} {H : Hp}
theorem tupG_nil (h : Hd L H) : Hd (tupG [] :: L) H := ⟨fun _ => none, H, fun _ _ _ h => (nomatch h), fun _ _ h => (nomatch h), Sub.refl _, fun _ m => (nomatch m), h⟩
theorem tupG_sub (h : Hd (tupG g :: L) H) (f : ∀ e ∈ g', e ∈ g) : Hd (tupG g' :: L) H := h.imp fun _ z e m => z e (f e m)
theorem mem_putM {α : Type} {d : List (Int × α)} {l : α} {e : Int × α} (h : e ∈ putM d n l) : e ∈ d ∨ e = (n, l) := by
  unfold putM at h
  split at h
  · obtain ⟨y, m, q⟩ := List.mem_map.mp h
    split at q
    · rename_i z
      subst q
      rw [z]
      exact .inr rfl
    · subst q
      exact .inl m
  · rcases List.mem_append.mp h with m | m
    · exact .inl m
    · exact .inr (List.mem_singleton.mp m)
theorem tupG_put (h : Hd (pto t (.tup [.int x.1, .int x.2]) :: tupG g :: L) H) : Hd (tupG (putM g n (t, x)) :: L) H :=
  Hd.join (up_pto _ _) (up_tupG _) h fun _ z1 z2 e m => by
    rcases mem_putM m with y | y
    · exact z2 e y
    · subst y
      exact z1
theorem tupG_cons (h : Hd (pto t (.tup [.int x.1, .int x.2]) :: tupG g :: L) H) : Hd (tupG ((k, (t, x)) :: g) :: L) H :=
  Hd.join (up_pto _ _) (up_tupG _) h fun _ z1 z2 e m => by
    rcases List.mem_cons.mp m with y | y
    · subst y
      exact z1
    · exact z2 e y
theorem tupG_mem {e : Int × (Addr × Int × Int)} (h : Hd L H) (p : Pull (tupG g) L L') (m : e ∈ g) : H e.2.1 = some (.tup [.int e.2.2.1, .int e.2.2.2]) := (h.at (up_tupG g) p) _ m
theorem tupG_drop (h : Hd (tupG g :: L) H) : Hd (tupG (dropM g n) :: L) H := tupG_sub h fun e m => (List.mem_filter.mp m).1
theorem tupG_get (h : Hd L H) (p : Pull (tupG g) L L') (e : getM g k = some (t, x)) : H t = some (.tup [.int x.1, .int x.2]) := (h.at (up_tupG g) p) _ (getM_some e)
theorem noG_put : noG (putM g n (t, x)) = putM (noG g) n x := by
  unfold putM noG
  rw [List.any_map]
  show (if _ then _ else _ : List _).map _ = if (g.any fun e => decide (e.1 = n)) = true then _ else _
  split
  · rw [List.map_map, List.map_map]
    congr 1
    funext e
    show ((if e.1 = n then (e.1, (t, x)) else e : Int × (Addr × Int × Int)).1, (if e.1 = n then (e.1, (t, x)) else e : Int × (Addr × Int × Int)).2.2) = if e.1 = n then (e.1, x) else (e.1, e.2.2)
    split <;> rfl
  · rw [List.map_append]
    rfl
theorem noG_drop : noG (dropM g n) = dropM (noG g) n := by
  unfold dropM noG
  rw [List.filter_map]
  rfl
theorem noG_get : getM (noG g) n = (getM g n).map (·.2) := by
  induction g with
  | nil => rfl
  | cons e r ih =>
    show getM ((e.1, e.2.2) :: noG r) n = _
    rw [getM_cons, getM_cons, ih]
    split <;> rfl
theorem noG_some (h : getM (noG g) n = some x) : ∃ t, getM g n = some (t, x) := by
  rw [noG_get] at h
  cases q : getM g n with
  | none => rw [q] at h; cases h
  | some y =>
    rw [q] at h
    cases h
    exact ⟨_, rfl⟩
theorem noG_keys : keysM (noG g) = keysM g := by
  unfold keysM noG
  rw [List.map_map]
  rfl
theorem in_dM {α : Type} {f : α → V} (d : List (Int × α)) (n : Int) : (valV (dM f d) (.inl n)).isSome = decide (n ∈ keysM d) := by
  rw [valV_dM, Option.isSome_map]
  by_cases h : n ∈ keysM d
  · rw [decide_eq_true h]
    exact mem_keysM.mp h
  · rw [decide_eq_false h]
    cases e : (getM d n).isSome with
    | false => rfl
    | true => exact (h (mem_keysM.mpr e)).elim
end
/-! ### a loop that gives on, entry by entry -/
def giveAt (ov : List (Int × Int)) (n o : Int) (i : Nat) : List (Int × Int) := TaskU.giveO (ov.take i) n o ++ ov.drop i
theorem giveAt_z (ov : List (Int × Int)) (n o : Int) : giveAt ov n o 0 = ov := rfl
theorem giveAt_all (ov : List (Int × Int)) (n o : Int) : giveAt ov n o ov.length = TaskU.giveO ov n o := by
  unfold giveAt
  rw [List.take_length, List.drop_length, List.append_nil]
theorem put_mid {α : Type} {a b : List (Int × α)} {k : Int} {v l : α} (h1 : k ∉ keysM a) (h2 : k ∉ keysM b) : putM (a ++ (k, v) :: b) k l = a ++ (k, l) :: b := by
  have no : ∀ c : List (Int × α), k ∉ keysM c → (c.map fun e => if e.1 = k then (e.1, l) else e) = c := by
    intro c h
    refine (List.map_congr_left (g := id) fun e m => ?_).trans (List.map_id c)
    exact if_neg fun z => h (List.mem_map.mpr ⟨e, m, z⟩)
  unfold putM
  rw [if_pos (by rw [List.any_append, List.any_cons, decide_eq_true rfl, Bool.true_or, Bool.or_true]), List.map_append, List.map_cons, if_pos rfl, no a h1, no b h2]
theorem giveAt_next {ov : List (Int × Int)} {n o : Int} {i : Nat} {k p : Int} (nd : (keysM ov).Nodup) (e : ov[i]? = some (k, p)) : giveAt ov n o (i + 1) = if p = n then putM (giveAt ov n o i) k o else giveAt ov n o i := by
  obtain ⟨hi, eg⟩ := List.getElem?_eq_some_iff.mp e
  have hd : ov.drop i = (k, p) :: ov.drop (i + 1) := by rw [List.drop_eq_getElem_cons hi, eg]
  have ht : ov.take (i + 1) = ov.take i ++ [(k, p)] := by rw [List.take_succ_eq_append_getElem hi, eg]
  have split : keysM ov = keysM (ov.take i) ++ k :: keysM (ov.drop (i + 1)) := by
    conv => lhs; rw [← List.take_append_drop i ov, hd]
    exact keysM_app _ _
  rw [split] at nd
  have n1 : k ∉ keysM (ov.take i) := fun m => (List.nodup_append.mp nd).2.2 k m k (List.mem_cons_self ..) rfl
  have n2 : k ∉ keysM (ov.drop (i + 1)) := (List.nodup_cons.mp (List.nodup_append.mp nd).2.1).1
  unfold giveAt
  rw [ht, hd]
  have ea : TaskU.giveO (ov.take i ++ [(k, p)]) n o = TaskU.giveO (ov.take i) n o ++ [if p = n then (k, o) else (k, p)] := by
    unfold TaskU.giveO
    rw [List.map_append]
    rfl
  rw [ea]
  split
  · rw [put_mid (by rw [keys_giveO]; exact n1) n2, List.append_assoc]
    rfl
  · rw [List.append_assoc]
    rfl
def giveSAt (sh : List (Int × (Int × Int))) (n o : Int) (i : Nat) : List (Int × (Int × Int)) := TaskU.giveS (sh.take i) n o ++ sh.drop i
theorem giveSAt_z (sh : List (Int × (Int × Int))) (n o : Int) : giveSAt sh n o 0 = sh := rfl
theorem giveSAt_all (sh : List (Int × (Int × Int))) (n o : Int) : giveSAt sh n o sh.length = TaskU.giveS sh n o := by
  unfold giveSAt
  rw [List.take_length, List.drop_length, List.append_nil]
theorem giveS_cons (n o : Int) (e : Int × (Int × Int)) (r : List (Int × (Int × Int))) : TaskU.giveS (e :: r) n o = if e.2.1 = n then (if o = 0 then TaskU.giveS r n o else (e.1, (o, e.2.2)) :: TaskU.giveS r n o) else e :: TaskU.giveS r n o := by
  conv => lhs; unfold TaskU.giveS
theorem giveS_app (n o : Int) (b : List (Int × (Int × Int))) : ∀ a : List (Int × (Int × Int)), TaskU.giveS (a ++ b) n o = TaskU.giveS a n o ++ TaskU.giveS b n o
  | [] => rfl
  | e :: r => by
    rw [List.cons_append, giveS_cons, giveS_cons, giveS_app n o b r]
    split
    · split <;> rfl
    · rfl
theorem drop_mid {α : Type} {a b : List (Int × α)} {k : Int} {v : α} (h1 : k ∉ keysM a) (h2 : k ∉ keysM b) : dropM (a ++ (k, v) :: b) k = a ++ b := by
  have no : ∀ c : List (Int × α), k ∉ keysM c → c.filter (fun e => decide (e.1 ≠ k)) = c := fun c h =>
    List.filter_eq_self.mpr fun e m => decide_eq_true fun z => h (List.mem_map.mpr ⟨e, m, z⟩)
  unfold dropM
  rw [List.filter_append, List.filter_cons, no a h1, no b h2, if_neg (by simp)]
theorem giveSAt_next {sh : List (Int × (Int × Int))} {n o : Int} {i : Nat} {k p w : Int} (nd : (keysM sh).Nodup) (e : sh[i]? = some (k, (p, w))) : giveSAt sh n o (i + 1) = if p = n then (if o = 0 then dropM (putM (giveSAt sh n o i) k (o, w)) k else putM (giveSAt sh n o i) k (o, w)) else giveSAt sh n o i := by
  obtain ⟨hi, eg⟩ := List.getElem?_eq_some_iff.mp e
  have hd : sh.drop i = (k, (p, w)) :: sh.drop (i + 1) := by rw [List.drop_eq_getElem_cons hi, eg]
  have ht : sh.take (i + 1) = sh.take i ++ [(k, (p, w))] := by rw [List.take_succ_eq_append_getElem hi, eg]
  have split : keysM sh = keysM (sh.take i) ++ k :: keysM (sh.drop (i + 1)) := by
    conv => lhs; rw [← List.take_append_drop i sh, hd]
    exact keysM_app _ _
  rw [split] at nd
  have n1 : k ∉ keysM (TaskU.giveS (sh.take i) n o) := fun m => (List.nodup_append.mp nd).2.2 k ((keys_giveS_sub _ _ _).mem m) k (List.mem_cons_self ..) rfl
  have n2 : k ∉ keysM (sh.drop (i + 1)) := (List.nodup_cons.mp (List.nodup_append.mp nd).2.1).1
  have e1 : TaskU.giveS [(k, (p, w))] n o = if p = n then (if o = 0 then [] else [(k, (o, w))]) else [(k, (p, w))] := rfl
  unfold giveSAt
  rw [ht, hd, giveS_app, e1, put_mid n1 n2, drop_mid n1 n2, List.append_assoc]
  by_cases z : p = n
  · rw [if_pos z, if_pos z]
    by_cases y : o = 0
    · rw [if_pos y, if_pos y]
      rfl
    · rw [if_neg y, if_neg y]
      rfl
  · rw [if_neg z, if_neg z]
    rfl
end Sl

set_option linter.all false
set_option maxRecDepth 100000
set_option maxHeartbeats 1000000
namespace Sl
open PySem L2
/-! ### comprehensions over locked dicts whose turns change nothing else -/
section
variable {K : PySem.W.Frag} {H : Hp} {Q : VK} {a d : Addr} {o : Obj} {L : List SA} {te : TE} {g : TG} {tt : TT} {vs : List Nat} {σ : L2.St} {α : Type} {f : α → V}
theorem r_lcDI (d : List (Int × α)) (p : Int × α → Bool) (h : Int × α → V) (hh : Hd L H) (hz : d.length < 100000) (hl : ∀ H, Hd L H → H a = some (.frz o (.dK (dM f d))))
    (step : ∀ (D T : Addr) (acc : List V) (e : Int × α) H (N : V → Hp → Prop) (M : Hp → Prop), e ∈ d → Hd (pto T (.tup [.int e.1, f e.2]) :: pto D (.lst acc) :: L) H → (∀ H', Hd (pto D (.lst acc) :: L) H' → p e = true → N (h e) H') → (∀ H', Hd (pto D (.lst acc) :: L) H' → p e = false → M H') →
      g (.ref T) (wipe σ vs) H fun σ2 H2 => wipe σ2 vs = wipe σ vs ∧ tt σ2 H2 fun b H3 => if b = true then te σ2 H3 N else M H3)
    (hd : ∀ D H, Hd (pto D (.lst ((d.filter p).map h)) :: L) H → Q (.ref D) H) : LcK g tt te vs σ Q (Iti a o (dM f d)) H := by
  refine r_lcItems (fun D i H => Hd (pto D (.lst (((d.take i).filter p).map h)) :: L) H) hh (fun D H h => h) (fun D i H _ h => hl H h.tl) (fun D i k v T H hx hP hT => ?_) (fun D H h => ?_)
  · unfold dM at hx
    rw [List.getElem?_map] at hx
    obtain ⟨e, hx2, ek⟩ := Option.map_eq_some_iff.mp hx
    cases ek
    have et : d.take (i + 1) = d.take i ++ [e] := by rw [List.take_add_one, hx2]; rfl
    refine step D T _ e _ _ _ (List.mem_of_getElem? hx2) (hP.new hT) (fun H' h' pt => ?_) (fun H' h' pf => ?_)
    · refine ⟨_, h'.get .here, ?_, ?_⟩
      · refine szlt ?_
        rw [List.length_map]
        exact Nat.lt_of_le_of_lt (List.length_filter_le _ _) (Nat.lt_of_le_of_lt (List.length_take_le' _ _) (by omega))
      · rw [et, List.filter_append, List.map_append, List.filter_cons, if_pos pt]
        exact h'.set .here fun z => z
    · rw [et, List.filter_append, List.filter_cons, if_neg (by rw [pf]; exact Bool.false_ne_true)]
      simpa using h'
  · rw [len_dM, List.take_length] at h
    exact hd D H h
theorem r_lcDK (d : List (Int × α)) (p : Int × α → Bool) (h : Int × α → V) (hh : Hd L H) (hz : d.length < 100000) (hl : ∀ H, Hd L H → H a = some (.frz o (.dK (dM f d))))
    (step : ∀ (D : Addr) (acc : List V) (e : Int × α) H (N : V → Hp → Prop) (M : Hp → Prop), e ∈ d → Hd (pto D (.lst acc) :: L) H → (∀ H', Hd (pto D (.lst acc) :: L) H' → p e = true → N (h e) H') → (∀ H', Hd (pto D (.lst acc) :: L) H' → p e = false → M H') →
      g (.int e.1) (wipe σ vs) H fun σ2 H2 => wipe σ2 vs = wipe σ vs ∧ tt σ2 H2 fun b H3 => if b = true then te σ2 H3 N else M H3)
    (hd : ∀ D H, Hd (pto D (.lst ((d.filter p).map h)) :: L) H → Q (.ref D) H) : LcK g tt te vs σ Q (Itk a o (dM f d)) H := by
  refine r_lcK (fun D i H => Hd (pto D (.lst (((d.take i).filter p).map h)) :: L) H) hh (fun D H h => h) (fun D i H _ h => hl H h.tl) (fun D i k v H hx hP => ?_) (fun D H h => ?_)
  · unfold dM at hx
    rw [List.getElem?_map] at hx
    obtain ⟨e, hx2, ek⟩ := Option.map_eq_some_iff.mp hx
    cases ek
    have et : d.take (i + 1) = d.take i ++ [e] := by rw [List.take_add_one, hx2]; rfl
    refine step D _ e _ _ _ (List.mem_of_getElem? hx2) hP (fun H' h' pt => ?_) (fun H' h' pf => ?_)
    · refine ⟨_, h'.get .here, ?_, ?_⟩
      · refine szlt ?_
        rw [List.length_map]
        exact Nat.lt_of_le_of_lt (List.length_filter_le _ _) (Nat.lt_of_le_of_lt (List.length_take_le' _ _) (by omega))
      · rw [et, List.filter_append, List.map_append, List.filter_cons, if_pos pt]
        exact h'.set .here fun z => z
    · rw [et, List.filter_append, List.filter_cons, if_neg (by rw [pf]; exact Bool.false_ne_true)]
      simpa using h'
  · rw [len_dM, List.take_length] at h
    exact hd D H h
theorem r_lcDI' (d : List (Int × α)) (p : Int × α → Bool) (k : Int × α → Int) (hh : Hd L H) (hz : d.length < 100000) (hl : ∀ H, Hd L H → H a = some (.frz o (.dK (dM f d))))
    (step : ∀ (D T : Addr) (acc : List V) (e : Int × α) H (N : V → Hp → Prop) (M : Hp → Prop), e ∈ d → Hd (pto T (.tup [.int e.1, f e.2]) :: pto D (.lst acc) :: L) H → (∀ H', Hd (pto D (.lst acc) :: L) H' → p e = true → N (.int (k e)) H') → (∀ H', Hd (pto D (.lst acc) :: L) H' → p e = false → M H') →
      g (.ref T) (wipe σ vs) H fun σ2 H2 => wipe σ2 vs = wipe σ vs ∧ tt σ2 H2 fun b H3 => if b = true then te σ2 H3 N else M H3)
    (hd : ∀ D H, Hd (pto D (.lst (((d.filter p).map k).map V.int)) :: L) H → Q (.ref D) H) : LcK g tt te vs σ Q (Iti a o (dM f d)) H :=
  r_lcDI d p (fun e => .int (k e)) hh hz hl step fun D H h => hd D H (by rw [List.map_map]; exact h)
theorem r_lcDK' (d : List (Int × α)) (p : Int × α → Bool) (k : Int × α → Int) (hh : Hd L H) (hz : d.length < 100000) (hl : ∀ H, Hd L H → H a = some (.frz o (.dK (dM f d))))
    (step : ∀ (D : Addr) (acc : List V) (e : Int × α) H (N : V → Hp → Prop) (M : Hp → Prop), e ∈ d → Hd (pto D (.lst acc) :: L) H → (∀ H', Hd (pto D (.lst acc) :: L) H' → p e = true → N (.int (k e)) H') → (∀ H', Hd (pto D (.lst acc) :: L) H' → p e = false → M H') →
      g (.int e.1) (wipe σ vs) H fun σ2 H2 => wipe σ2 vs = wipe σ vs ∧ tt σ2 H2 fun b H3 => if b = true then te σ2 H3 N else M H3)
    (hd : ∀ D H, Hd (pto D (.lst (((d.filter p).map k).map V.int)) :: L) H → Q (.ref D) H) : LcK g tt te vs σ Q (Itk a o (dM f d)) H :=
  r_lcDK d p (fun e => .int (k e)) hh hz hl step fun D H h => hd D H (by rw [List.map_map]; exact h)
/-- over numbers, of numbers -/
theorem r_lcI' (ns : List Int) (p : Int → Bool) (k : Int → Int) (hh : Hd L H) (hz : ns.length < 100000) (hl : ∀ H, Hd L H → SqL K H a (ns.map V.int))
    (step : ∀ (D : Addr) (acc : List V) (n : Int) H (N : V → Hp → Prop) (M : Hp → Prop), n ∈ ns → Hd (pto D (.lst acc) :: L) H → (p n = true → N (.int (k n)) H) → (p n = false → M H) →
      g (.int n) (wipe σ vs) H fun σ2 H2 => wipe σ2 vs = wipe σ vs ∧ tt σ2 H2 fun b H3 => if b = true then te σ2 H3 N else M H3)
    (hd : ∀ D H, Hd (pto D (.lst (((ns.filter p).map k).map V.int)) :: L) H → Q (.ref D) H) : LcK g tt te vs σ Q (Itl K a) H :=
  r_lcI ns p (fun e => .int (k e)) hh hz hl step fun D H h => hd D H (by rw [List.map_map]; exact h)
/-- of numbers, kept as they are -/
theorem r_lcF (ns : List Int) (p : Int → Bool) (hh : Hd L H) (hz : ns.length < 100000) (hl : ∀ H, Hd L H → SqL K H a (ns.map V.int))
    (step : ∀ (D : Addr) (acc : List V) (n : Int) H (N : V → Hp → Prop) (M : Hp → Prop), n ∈ ns → Hd (pto D (.lst acc) :: L) H → (p n = true → N (.int n) H) → (p n = false → M H) →
      g (.int n) (wipe σ vs) H fun σ2 H2 => wipe σ2 vs = wipe σ vs ∧ tt σ2 H2 fun b H3 => if b = true then te σ2 H3 N else M H3)
    (hd : ∀ D H, Hd (pto D (.lst ((ns.filter p).map V.int)) :: L) H → Q (.ref D) H) : LcK g tt te vs σ Q (Itl K a) H :=
  r_lcI ns p V.int hh hz hl step hd
theorem r_srtI {ns : List Int} (hs : Hd L H) (h : SqL K H a (ns.map V.int)) (q : ∀ p H', Hd (pto p (.lst ((srt ns).map V.int)) :: L) H' → Q (.ref p) H') : rSortedI K [.ref a] H Q :=
  r_sortedI hs h fun ms p H pm pw hs => q p H (by rw [← srt_eq pm pw]; exact hs)
theorem r_srtD {d : List (Int × α)} (hs : Hd L H) (h : H a = some (.dK (dM f d))) (few : d.length ≤ 100000) (q : ∀ p H', Hd (pto p (.lst ((srt (keysM d)).map V.int)) :: L) H' → Q (.ref p) H') : rSortedDI [.ref a] H Q :=
  r_sortedD hs h (keys_dM _) (by unfold keysM; rw [List.length_map]; exact few) fun ms p H pm pw hs => q p H (by rw [← srt_eq pm pw]; exact hs)
theorem r_listDM {d : List (Int × α)} (hs : Hd L H) (h : H a = some (.dK (dM f d))) (q : ∀ p H', Hd (pto p (.lst ((keysM d).map V.int)) :: L) H' → Q (.ref p) H') : rListD [.ref a] H Q :=
  ⟨a, _, rfl, h, fun p n => q p _ (by
    have e : (dM f d).map (fun kv => kV kv.1) = (keysM d).map V.int := by
      unfold dM keysM
      rw [List.map_map, List.map_map]
      rfl
    rw [e]
    exact hs.new n)⟩
theorem r_ixF {i : Int} {v : V} {kvs : List (Key × V)} (h : H a = some (.frz o (.dK kvs))) (hi : valV kvs (.inl i) = some v) (q : Q v H) : rIxU K (.ref a) (.int i) H Q := .inr ⟨a, v, rfl, .inl ⟨kvs, .inl i, .inr ⟨o, h⟩, rfl, hi.symm⟩, q⟩
end
theorem atI_head {x : V} {xs : List V} : atI (x :: xs) 0 = some x := atI_nat (j := 0) rfl
theorem atI_snd {x y : V} {xs : List V} : atI (x :: y :: xs) 1 = some y := atI_nat (j := 1) rfl
theorem atI_pick {ns : List Int} {r : Int} (h0 : 0 ≤ r) (h1 : r < ns.length) : ∃ k, ns[r.toNat]? = some k ∧ k ∈ ns ∧ atI (ns.map V.int) r = some (.int k) := by
  obtain ⟨j, rfl⟩ := Int.eq_ofNat_of_zero_le h0
  have hj : j < ns.length := by omega
  refine ⟨ns[j], by rw [Int.toNat_natCast]; exact List.getElem?_eq_getElem hj, List.getElem_mem hj, atI_nat ?_⟩
  rw [List.getElem?_map, List.getElem?_eq_getElem hj]
  rfl
theorem get_mid {α : Type} {a b : List (Int × α)} {k : Int} {v : α} (h : k ∉ keysM a) : getM (a ++ (k, v) :: b) k = some v := by
  induction a with
  | nil => rw [List.nil_append, getM_cons, if_pos rfl]
  | cons e r ih =>
    rw [List.cons_append, getM_cons, if_neg (fun z => h (by rw [← z]; exact List.mem_cons_self ..)), ih fun m => h (List.mem_cons_of_mem _ m)]
theorem keys_at {α : Type} {d : List (Int × α)} {i : Nat} {k : Int} (h : (keysM d)[i]? = some k) : ∃ x, d[i]? = some (k, x) := by
  unfold keysM at h
  rw [List.getElem?_map] at h
  obtain ⟨e, h1, h2⟩ := Option.map_eq_some_iff.mp h
  exact ⟨e.2, by rw [h1, ← h2]⟩
theorem keys_take {α : Type} {d : List (Int × α)} (nd : (keysM d).Nodup) {i : Nat} {k : Int} {x : α} (e : d[i]? = some (k, x)) : k ∉ keysM (d.take i) ∧ d.drop i = (k, x) :: d.drop (i + 1) := by
  obtain ⟨hi, eg⟩ := List.getElem?_eq_some_iff.mp e
  have hd : d.drop i = (k, x) :: d.drop (i + 1) := by rw [List.drop_eq_getElem_cons hi, eg]
  have split : keysM d = keysM (d.take i) ++ k :: keysM (d.drop (i + 1)) := by
    conv => lhs; rw [← List.take_append_drop i d, hd]
    exact keysM_app _ _
  rw [split] at nd
  exact ⟨fun m => (List.nodup_append.mp nd).2.2 k m k (List.mem_cons_self ..) rfl, hd⟩
theorem giveAt_get {ov : List (Int × Int)} {n o : Int} {i : Nat} {k p : Int} (nd : (keysM ov).Nodup) (e : ov[i]? = some (k, p)) : getM (giveAt ov n o i) k = some p := by
  obtain ⟨h1, h2⟩ := keys_take nd e
  unfold giveAt
  rw [h2]
  exact get_mid (by rw [keys_giveO]; exact h1)
theorem giveSAt_get {sh : List (Int × (Int × Int))} {n o : Int} {i : Nat} {k : Int} {x : Int × Int} (nd : (keysM sh).Nodup) (e : sh[i]? = some (k, x)) : getM (giveSAt sh n o i) k = some x := by
  obtain ⟨h1, h2⟩ := keys_take nd e
  unfold giveSAt
  rw [h2]
  exact get_mid fun m => h1 ((keys_giveS_sub _ _ _).mem m)
/-! ### a name is given a comprehension over a locked dict -/
def UnlS (d : Addr) (o : Obj) (u : HO) (N : L2.St → Hp → Prop) (σ : L2.St) (H : Hp) : Prop := H d = some (.frz o u) ∧ N σ (upd H d u)
theorem r_lockS {D : Ends} {σ : L2.St} {H : Hp} {d : Addr} {kvs : List (Key × V)} {L : List SA} {te : TE} {g : TG} (hs : Hd (pto d (.dK kvs) :: L) H) (q : ∀ od H', Hd (pto d (.frz od (.dK kvs)) :: L) H' → te σ H' fun x H1 => g x σ H1 (UnlS d od (.dK kvs) D.nx)) : tLock (tAsg te g) D σ H :=
  ⟨d, .dK kvs, hs.get .here, trivial, fun od => q od _ (hs.set .here fun z => z)⟩
theorem r_unlS {d : Addr} {o : Obj} {u : HO} {N : L2.St → Hp → Prop} {σ : L2.St} {H : Hp} {L L' : List SA} (hs : Hd L H) (p : Put (pto d (.frz o u)) (pto d u) L L') (q : ∀ H', Hd L' H' → N σ H') : UnlS d o u N σ H := by
  obtain ⟨M, pa, _⟩ := p.pulls
  exact ⟨hs.get pa, q _ (hs.set p fun z => z)⟩
/-! ### ways that meet: N is what stands behind both -/
section
variable {t u : TS} {N : L2.St → Hp → Prop} {rt : VK} {bk ct : L2.St → Hp → Prop} {σ : L2.St} {H : Hp} {c : Bool} {p : Prop}
theorem r_ifJ (P : L2.St → Hp → Prop) (h1 : c = true → ∀ N' : L2.St → Hp → Prop, (∀ σ H, P σ H → N' σ H) → t ⟨N', rt, bk, ct⟩ σ H) (h2 : c = false → ∀ N' : L2.St → Hp → Prop, (∀ σ H, P σ H → N' σ H) → u ⟨N', rt, bk, ct⟩ σ H)
    (a : ∀ σ H, P σ H → N σ H) : if c = true then t ⟨N, rt, bk, ct⟩ σ H else u ⟨N, rt, bk, ct⟩ σ H := by
  cases c with
  | true => exact h1 rfl N a
  | false => exact h2 rfl N a
theorem r_ifJD [Decidable p] (P : L2.St → Hp → Prop) (h1 : p → ∀ N' : L2.St → Hp → Prop, (∀ σ H, P σ H → N' σ H) → t ⟨N', rt, bk, ct⟩ σ H) (h2 : ¬ p → ∀ N' : L2.St → Hp → Prop, (∀ σ H, P σ H → N' σ H) → u ⟨N', rt, bk, ct⟩ σ H)
    (a : ∀ σ H, P σ H → N σ H) : if decide p = true then t ⟨N, rt, bk, ct⟩ σ H else u ⟨N, rt, bk, ct⟩ σ H := by
  by_cases h : p
  · rw [decide_eq_true h]
    exact h1 h N a
  · rw [decide_eq_false h]
    exact h2 h N a
theorem r_ifJN [Decidable p] (P : L2.St → Hp → Prop) (h1 : ¬ p → ∀ N' : L2.St → Hp → Prop, (∀ σ H, P σ H → N' σ H) → t ⟨N', rt, bk, ct⟩ σ H) (h2 : p → ∀ N' : L2.St → Hp → Prop, (∀ σ H, P σ H → N' σ H) → u ⟨N', rt, bk, ct⟩ σ H)
    (a : ∀ σ H, P σ H → N σ H) : if (!decide p) = true then t ⟨N, rt, bk, ct⟩ σ H else u ⟨N, rt, bk, ct⟩ σ H := by
  by_cases h : p
  · rw [decide_eq_true h]
    exact h2 h N a
  · rw [decide_eq_false h]
    exact h1 h N a
end
/-! ### loops: what changes is told by a letter s, the rest is as it was -/
def Iv {S : Type} (I : Nat → S → Prop) (F : S → L2.St) (A : S → List SA) (L : List SA) (i : Nat) (σ : L2.St) (H : Hp) : Prop := ∃ s, I i s ∧ σ = F s ∧ Hd (A s ++ L) H
section
variable {K : PySem.W.Frag} {σ : L2.St} {H : Hp} {D : Ends} {tb : TS} {g : TG} {n : Nat} {L : List SA} {a b : Addr} {S : Type}
theorem r_forA (xs : List V) (I : Nat → S → Prop) (F : S → L2.St) (A : S → List SA) (s0 : S) (hI : I 0 s0) (hσ : σ = F s0) (hh : Hd (A s0 ++ L) H)
    (hl : ∀ s H, Hd (A s ++ L) H → SqL K H a xs)
    (step : ∀ i x s H, xs[i]? = some x → I i s → Hd (A s ++ L) H → g x (F s) H fun σ2 H2 => tb { D with nx := Iv I F A L (i + 1), ct := Iv I F A L (i + 1), bk := D.nx } σ2 H2)
    (done : ∀ s H, I xs.length s → Hd (A s ++ L) H → D.nx (F s) H) : ForK g tb D σ (Itl K a) H :=
  r_forL xs (fun i σ H => Iv I F A L i σ H) ⟨s0, hI, hσ, hh⟩ (fun i σ H _ ⟨s, _, _, h⟩ => hl s H h) (fun i x σ H hx ⟨s, hs, e, h⟩ => by
    subst e
    exact step i x s H hx hs h) fun σ H ⟨s, hs, e, h⟩ => by
    subst e
    exact done s H hs h
/-- over numbers -/
theorem r_forI (ns : List Int) (I : Nat → S → Prop) (F : S → L2.St) (A : S → List SA) (s0 : S) (hI : I 0 s0) (hσ : σ = F s0) (hh : Hd (A s0 ++ L) H)
    (hl : ∀ s H, Hd (A s ++ L) H → SqL K H a (ns.map V.int))
    (step : ∀ i k s H, ns[i]? = some k → I i s → Hd (A s ++ L) H → g (.int k) (F s) H fun σ2 H2 => tb { D with nx := Iv I F A L (i + 1), ct := Iv I F A L (i + 1), bk := D.nx } σ2 H2)
    (done : ∀ s H, I ns.length s → Hd (A s ++ L) H → D.nx (F s) H) : ForK g tb D σ (Itl K a) H :=
  r_forA (ns.map V.int) I F A s0 hI hσ hh hl (fun i x s H hx hi hs => by
    rw [List.getElem?_map] at hx
    obtain ⟨k, hk, rfl⟩ := Option.map_eq_some_iff.mp hx
    exact step i k s H hk hi hs) fun s H hi hs => done s H (by rwa [List.length_map] at hi) hs
/-- over a range -/
theorem r_forN {lo : Int} (I : Nat → S → Prop) (F : S → L2.St) (A : S → List SA) (s0 : S) (hI : I 0 s0) (hσ : σ = F s0) (hh : Hd (A s0 ++ L) H)
    (step : ∀ i s H, i < n → I i s → Hd (A s ++ L) H → g (.int (lo + (i : Nat))) (F s) H fun σ2 H2 => tb { D with nx := Iv I F A L (i + 1), ct := Iv I F A L (i + 1), bk := D.nx } σ2 H2)
    (done : ∀ s H, I n s → Hd (A s ++ L) H → D.nx (F s) H) : ForK g tb D σ (Itr lo n) H :=
  r_forR (fun i σ H => Iv I F A L i σ H) ⟨s0, hI, hσ, hh⟩ (fun i σ H hi ⟨s, hs, e, h⟩ => by
    subst e
    exact step i s H hi hs h) fun σ H ⟨s, hs, e, h⟩ => by
    subst e
    exact done s H hs h
end
end Sl

set_option linter.all false
set_option maxRecDepth 100000
set_option maxHeartbeats 1000000
namespace Sl
open PySem L2 PyProof.Rows
/-! ### d == {} -/
def rEqD0 : R2 := fun x y H Q => ∃ a b ks, x = .ref a ∧ y = .ref b ∧ H a = some (.dK ks) ∧ H b = some (.dK []) ∧ Q (.bl ks.isEmpty) H
theorem op_eqD0 {X : Cx} (hu : X.A.units + 64 < cLine) : OpR X (compareOp .Eq) rEqD0 := by
  intro pins s σ H x y v u Q I rx ry h
  obtain ⟨a, b, ks, rfl, rfl, ha, hb, q⟩ := h
  cases (show v = Value.ref a from rx)
  cases (show u = Value.ref b from ry)
  obtain ⟨_, ya, va, ra, da⟩ := (show ObjOk X.prog X.w H s.heap a (.dK ks) from I.hok a _ ha)
  obtain ⟨_, yb, vb, rb, db⟩ := (show ObjOk X.prog X.w H s.heap b (.dK []) from I.hok b _ hb)
  have lb : vb.length = 0 := by rw [← rb.length]; rfl
  refine PySem.W.rcP_dicts (knd := mixKind X.prog X.w) (r := true) ya yb da db (by omega) (fun e => ?_) _ _ ?_
  · rw [lb] at e
    cases va with
    | nil => exact .nil
    | cons => cases e
  · have e : (va.length == vb.length && true) = ks.isEmpty := by
      rw [lb, ← ra.length]
      cases ks <;> rfl
    rw [e]
    exact ⟨.bl ks.isEmpty, H, I, rfl, q⟩
theorem r_eqD0 {a b : Addr} {ks : List (Key × V)} {H : Hp} {Q : VK} (ha : H a = some (.dK ks)) (hb : H b = some (.dK [])) (q : Q (.bl ks.isEmpty) H) : rEqD0 (.ref a) (.ref b) H Q := ⟨a, b, ks, rfl, rfl, ha, hb, q⟩
/-! ### a test of several parts -/
theorem r_ifT {tt : TT} {t u : TS} {D : Ends} {σ : L2.St} {H : Hp} (PT PF : Hp → Prop) (q : ∀ QT : Bool → Hp → Prop, (∀ H, PT H → QT true H) → (∀ H, PF H → QT false H) → tt σ H QT) (ht : ∀ H, PT H → t D σ H) (hf : ∀ H, PF H → u D σ H) : tIfS tt t u D σ H :=
  q (fun b H1 => if b = true then t D σ H1 else u D σ H1) (fun H h => by rw [if_pos rfl]; exact ht H h) fun H h => by rw [if_neg Bool.false_ne_true]; exact hf H h
theorem r_ifTJ {tt : TT} {t u : TS} {D : Ends} {σ : L2.St} {H : Hp} (PT PF : Hp → Prop) (P : L2.St → Hp → Prop) (q : ∀ QT : Bool → Hp → Prop, (∀ H, PT H → QT true H) → (∀ H, PF H → QT false H) → tt σ H QT)
    (ht : ∀ N' : L2.St → Hp → Prop, (∀ σ H, P σ H → N' σ H) → ∀ H, PT H → t { D with nx := N' } σ H) (hf : ∀ N' : L2.St → Hp → Prop, (∀ σ H, P σ H → N' σ H) → ∀ H, PF H → u { D with nx := N' } σ H) (a : ∀ σ H, P σ H → D.nx σ H) : tIfS tt t u D σ H :=
  r_ifT PT PF q (ht _ a) (hf _ a)
end Sl

set_option linter.all false
set_option maxRecDepth 100000
set_option maxHeartbeats 1000000
namespace Sl
open PySem L2 PyProof.Rows
/-! ### many things, each with a piece of its own -/
theorem Hd.perm {L1 L2 : List SA} (p : L1.Perm L2) : ∀ {H : Hp}, Hd L1 H → Hd L2 H := by
  induction p with
  | nil => exact fun h => h
  | cons x _ ih => exact fun h => h.mono fun _ z => ih z
  | swap x y l => exact fun h => h.swap
  | trans _ _ ih1 ih2 => exact fun h => ih2 (ih1 h)
def big {α : Type} (F : α → SA) (T : List α) : SA := Hd (T.map F)
section
variable {α : Type} {F : α → SA} {T T' : List α} {L : List SA} {H : Hp} {e : α}
theorem big_perm (p : T.Perm T') (h : Hd (big F T :: L) H) : Hd (big F T' :: L) H := h.imp fun _ z => z.perm (p.map F)
theorem big_nil (h : Hd L H) : Hd (big F [] :: L) H := (Hd.close (M := []) h)
theorem big_out (h : Hd (big F (e :: T) :: L) H) : Hd (F e :: big F T :: L) H := by
  have h2 : Hd (F e :: (T.map F ++ L)) H := Hd.open (M := (e :: T).map F) h
  exact h2.mono fun _ z => Hd.close (M := T.map F) z
theorem big_in (h : Hd (F e :: big F T :: L) H) : Hd (big F (e :: T) :: L) H :=
  Hd.close (M := (e :: T).map F) (h.mono fun _ z => Hd.open (M := T.map F) z)
/-- an exchange of what each is -/
theorem big_imp {G : α → SA} (f : ∀ e ∈ T, ∀ H, F e H → G e H) (h : Hd (big F T :: L) H) : Hd (big G T :: L) H := by
  have aux : ∀ (T : List α), (∀ e ∈ T, ∀ H, F e H → G e H) → ∀ H, Hd (T.map F) H → Hd (T.map G) H := by
    intro T
    induction T with
    | nil => exact fun _ _ z => z
    | cons x r ih => exact fun f H z => (z.imp fun H y => f x (List.mem_cons_self ..) H y).mono fun H y => ih (fun e m => f e (List.mem_cons_of_mem _ m)) H y
  exact h.imp fun H z => aux T f H z
end
section
variable {α : Type} {F : Int × α → SA} {T : List (Int × α)} {L : List SA} {H : Hp} {k : Int} {x y : α}
theorem perm_get (nd : (keysM T).Nodup) (h : getM T k = some x) : T.Perm ((k, x) :: dropM T k) := by
  induction T with
  | nil => cases h
  | cons e r ih =>
    have nd2 := List.nodup_cons.mp (show (e.1 :: keysM r).Nodup from nd)
    rw [getM_cons] at h
    by_cases q : e.1 = k
    · rw [if_pos q] at h
      cases h
      subst q
      have : dropM (e :: r) e.1 = r := by
        unfold dropM
        rw [List.filter_cons, if_neg (by simp)]
        exact List.filter_eq_self.mpr fun z m => decide_eq_true fun w => nd2.1 (List.mem_map.mpr ⟨z, m, w⟩)
      rw [this]
    · rw [if_neg q] at h
      have : dropM (e :: r) k = e :: dropM r k := by
        unfold dropM
        rw [List.filter_cons, if_pos (by simp [q])]
      rw [this]
      exact ((ih nd2.2 h).cons e).trans (.swap ..)
theorem drop_none (h : k ∉ keysM T) : dropM T k = T := by
  unfold dropM
  exact List.filter_eq_self.mpr fun z m => decide_eq_true fun w => h (List.mem_map.mpr ⟨z, m, w⟩)
theorem keys_put (T : List (Int × α)) (k : Int) (x : α) : keysM (putM T k x) = if k ∈ keysM T then keysM T else keysM T ++ [k] := by
  unfold putM
  by_cases h : k ∈ keysM T
  · obtain ⟨e, m, q⟩ := List.mem_map.mp h
    rw [if_pos h, if_pos (List.any_eq_true.mpr ⟨e, m, decide_eq_true q⟩)]
    unfold keysM
    rw [List.map_map]
    apply List.map_congr_left
    intro e _
    show (if e.1 = k then (e.1, x) else e).1 = e.1
    split <;> rfl
  · rw [if_neg h, if_neg]
    · exact keysM_app _ _
    · intro z
      obtain ⟨e, m, q⟩ := List.any_eq_true.mp z
      exact h (List.mem_map.mpr ⟨e, m, of_decide_eq_true q⟩)
theorem nd_put (nd : (keysM T).Nodup) : (keysM (putM T k x)).Nodup := by
  rw [keys_put]
  split
  · exact nd
  · rename_i h
    exact List.nodup_append.mpr ⟨nd, List.pairwise_singleton _ _, fun a ma b mb e => h (by rw [List.mem_singleton.mp mb] at e; exact e ▸ ma)⟩
theorem nd_drop (nd : (keysM T).Nodup) : (keysM (dropM T k)).Nodup := by
  rw [keysM_drop]
  exact nd.sublist List.filter_sublist
theorem drop_put (T : List (Int × α)) (k : Int) (x : α) : dropM (putM T k x) k = dropM T k := by
  unfold putM
  split
  · unfold dropM
    induction T with
    | nil => rfl
    | cons e r ih =>
      rename_i hh
      rw [List.map_cons, List.filter_cons, List.filter_cons]
      have ih2 : List.filter (fun e => decide (e.1 ≠ k)) (List.map (fun e => if e.1 = k then (e.1, x) else e) r) = List.filter (fun e => decide (e.1 ≠ k)) r := by
        by_cases z : (r.any fun e => decide (e.1 = k)) = true
        · exact ih z
        · have no : ∀ e ∈ r, ¬ e.1 = k := fun e m w => z (List.any_eq_true.mpr ⟨e, m, decide_eq_true w⟩)
          congr 1
          refine (List.map_congr_left (g := id) fun e m => if_neg (no e m)).trans (List.map_id r)
      by_cases q : e.1 = k
      · rw [if_pos q, if_neg (by simp [q]), if_neg (by simp [q]), ih2]
      · rw [if_neg q, if_pos (by simp [q]), if_pos (by simp [q]), ih2]
  · unfold dropM
    rw [List.filter_append, List.filter_cons, if_neg (by simp)]
    simp
theorem perm_put (nd : (keysM T).Nodup) : (putM T k x).Perm ((k, x) :: dropM T k) := by
  have h := perm_get (nd_put (x := x) (k := k) nd) (by rw [getM_put, if_pos rfl] : getM (putM T k x) k = some x)
  rwa [drop_put] at h
/-- one is taken out; put back, or in anew -/
theorem big_get (nd : (keysM T).Nodup) (g : getM T k = some x) (h : Hd (big F T :: L) H) : Hd (F (k, x) :: big F (dropM T k) :: L) H := big_out (big_perm (perm_get nd g) h)
theorem big_put (nd : (keysM T).Nodup) (h : Hd (F (k, x) :: big F (dropM T k) :: L) H) : Hd (big F (putM T k x) :: L) H := big_perm (perm_put nd).symm (big_in h)
theorem big_new (nd : (keysM T).Nodup) (n : k ∉ keysM T) (h : Hd (F (k, x) :: big F T :: L) H) : Hd (big F (putM T k x) :: L) H := big_put nd (by rw [drop_none n]; exact h)
/-- an entry put back as it was -/
theorem big_back (nd : (keysM T).Nodup) (g : getM T k = some x) (h : Hd (F (k, x) :: big F (dropM T k) :: L) H) : Hd (big F T :: L) H := big_perm (perm_get nd g).symm (big_in h)
theorem put_same (nd : (keysM T).Nodup) (g : getM T k = some x) : putM T k x = T := by
  unfold putM
  have hm : (T.any fun e => decide (e.1 = k)) = true := List.any_eq_true.mpr ⟨(k, x), getM_some g, decide_eq_true rfl⟩
  rw [if_pos hm]
  refine (List.map_congr_left (g := id) fun e m => ?_).trans (List.map_id T)
  show (if e.1 = k then (e.1, x) else e) = e
  split
  · rename_i q
    have := getM_at nd m
    rw [q, g] at this
    cases this
    rfl
  · rfl
end
section
variable {α : Type} {F : α → SA} {T : List α} {L : List SA} {H : Hp} {i : Nat} {e e' : α}
theorem perm_at (h : T[i]? = some e) : T.Perm (e :: T.eraseIdx i) := by
  obtain ⟨hi, rfl⟩ := List.getElem?_eq_some_iff.mp h
  induction T generalizing i with
  | nil => exact absurd hi (Nat.not_lt_zero _)
  | cons x r ih =>
    cases i with
    | zero => exact .refl _
    | succ j => exact ((ih (i := j) (Nat.lt_of_succ_lt_succ hi) (List.getElem?_eq_getElem (Nat.lt_of_succ_lt_succ hi))).cons x).trans (.swap ..)
theorem perm_set (hi : i < T.length) : (T.set i e').Perm (e' :: T.eraseIdx i) := by
  have h := perm_at (T := T.set i e') (i := i) (e := e') (by rw [List.getElem?_set_self hi])
  rwa [List.eraseIdx_set_eq] at h
/-- one is taken out by its place; put back, changed or not -/
theorem big_at (h : T[i]? = some e) (hs : Hd (big F T :: L) H) : Hd (F e :: big F (T.eraseIdx i) :: L) H := big_out (big_perm (perm_at h) hs)
theorem big_set (hi : i < T.length) (hs : Hd (F e' :: big F (T.eraseIdx i) :: L) H) : Hd (big F (T.set i e') :: L) H := big_perm (perm_set hi).symm (big_in hs)
theorem big_unat (h : T[i]? = some e) (hs : Hd (F e :: big F (T.eraseIdx i) :: L) H) : Hd (big F T :: L) H := big_perm (perm_at h).symm (big_in hs)
theorem big_snoc (hs : Hd (F e :: big F T :: L) H) : Hd (big F (T ++ [e]) :: L) H := big_perm (List.perm_append_singleton e T).symm (big_in hs)
end
section
variable {α β : Type} {f : α → β} {T : List (Int × α)} {k : Int} {x : α}
/-- a dict of things seen through f -/
def mapM (f : α → β) (T : List (Int × α)) : List (Int × β) := T.map fun e => (e.1, f e.2)
theorem mapM_put : mapM f (putM T k x) = putM (mapM f T) k (f x) := by
  unfold putM mapM
  rw [List.any_map]
  show (if _ then _ else _ : List _).map _ = if (T.any fun e => decide (e.1 = k)) = true then _ else _
  split
  · rw [List.map_map, List.map_map]
    congr 1
    funext e
    show ((if e.1 = k then (e.1, x) else e).1, f (if e.1 = k then (e.1, x) else e).2) = if e.1 = k then (e.1, f x) else (e.1, f e.2)
    split <;> rfl
  · rw [List.map_append]
    rfl
theorem mapM_drop : mapM f (dropM T k) = dropM (mapM f T) k := by
  unfold dropM mapM
  rw [List.filter_map]
  rfl
theorem mapM_get : getM (mapM f T) k = (getM T k).map f := by
  induction T with
  | nil => rfl
  | cons e r ih =>
    show getM ((e.1, f e.2) :: mapM f r) k = _
    rw [getM_cons, getM_cons, ih]
    split <;> rfl
theorem mapM_some {y : β} (h : getM (mapM f T) k = some y) : ∃ x, getM T k = some x ∧ f x = y := by
  rw [mapM_get] at h
  exact Option.map_eq_some_iff.mp h
theorem mapM_keys : keysM (mapM f T) = keysM T := by
  unfold keysM mapM
  rw [List.map_map]
  rfl
theorem mapM_len : (mapM f T).length = T.length := List.length_map _
theorem dM_map {γ : Type} {g : β → V} : dM g (mapM f T) = dM (fun x => g (f x)) T := by
  unfold dM mapM
  rw [List.map_map]
  rfl
end
end Sl

set_option linter.all false
set_option maxRecDepth 100000
set_option maxHeartbeats 1000000
namespace Sl
open PySem L2 PySem.Spec PyProof.Rows
/-! ### list(range(n)) -/
def LRngK (Q : VK) (x : V) (H : Hp) : Prop := ∃ n : Nat, x = .int (n : Int) ∧ n ≤ 100000 ∧ ∀ p, H p = none → Q (.ref p) (upd H p (.lst ((List.range n).map fun i : Nat => V.int (i : Int))))
def tListRange (ta : TE) : TE := fun σ H Q => ta σ H (LRngK Q)
theorem ints_range {us : List Value} {n : Nat} (hl : us.length = n) (f : ∀ (i : Nat) v, us[i]? = some v → ∃ t, v = Value.int (0 + (i : Int) * 1) t) : Vals ((List.range n).map fun i : Nat => V.int (i : Int)) us := by
  refine L2.vals_of_at (by rw [List.length_map, List.length_range, hl]) fun j x u e1 e2 => ?_
  rw [List.getElem?_map] at e1
  obtain ⟨i, e3, rfl⟩ := Option.map_eq_some_iff.mp e1
  have : i = j := by
    rw [List.getElem?_range (by rw [List.getElem?_eq_some_iff] at e3; obtain ⟨h, _⟩ := e3; rwa [List.length_range] at h)] at e3
    exact (Option.some.inj e3).symm
  subst this
  obtain ⟨t, rfl⟩ := f i u e2
  exact ⟨t, by congr 1; omega⟩
theorem pe_listRange {X : Cx} {a : Expr} {ta : TE} {p p2 q pos : Pos} (hg : Gl X "list") (hm : X.mg "list" = none) (hg2 : Gl X "range") (hm2 : X.mg "range" = none) (ha : PE X a ta) (hc : X.calm = true := by rfl)
    (na : starEach [a] X.env = (false, eval a X.env) :: starEach [] X.env := by rfl) : PE X (.Call (.Name "list" p) [.Call (.Name "range" p2) [a] [] q] [] pos) (tListRange ta) := by
  constructor
  intro pins s σ H Q I h
  apply Call_ (ld_blt I hg hm boot_list ?_)
  apply PyProof.Rows.callWith_type1 (PyProof.Rows.args_cons ?_ rfl) rfl rfl
  apply Call_ (ld_blt I hg2 hm2 boot_range ?_)
  apply PyProof.Rows.callWith_type1 (PyProof.Rows.args_cons (thn (ha.run pins s σ H _ I h) fun v s1 ⟨x, H1, I1, rx, got⟩ => PyProof.Rows.args_nil ?_) na) na rfl
  obtain ⟨n, ex, few, got⟩ := got
  subst ex
  obtain ⟨t, ev⟩ := rx
  subst ev
  apply call_range_1
  apply PyProof.Rows.args_nil
  have k0 : ∀ b o, s1.heap.get? b = some o → (s1.heap.push { cls := .type "range", data := .fields #[.int 0 s1.toks, .int (n : Int) t, .int 1 (s1.toks + 1)] }).get? b = some o := fun b o e => Heap.get?_push_of_some _ e
  apply call_list_range (n := n) (I1.ok.hd hc) (IsRange.new ..) (small_one (by omega) (by omega) (by omega) (by omega)) (by rw [rangeSize_one]; split <;> omega) (by omega)
  intro h' tk acc c keep there items
  have len : acc.toList.length = n := by rw [Array.length_toList]; exact items.1
  have vs := ints_range (us := acc.toList) len fun i v e => items.2 i v (by rw [← e, Array.getElem?_toList])
  have z : ((List.range n).map fun i : Nat => V.int (i : Int)).length ≤ sizeLine := by rw [List.length_map, List.length_range]; exact sz few
  exact ⟨.ref (s1.heap.push { cls := .type "range", data := .fields #[.int 0 s1.toks, .int (n : Int) t, .int 1 (s1.toks + 1)] }).objs.size, upd H1 _ (.lst ((List.range n).map fun i : Nat => V.int (i : Int))), I1.laid (t' := tk) (fun b o e => keep b o (k0 b o e)) (by rw [Heap.size_push]; omega) ⟨z, acc.toList, c, vs, by rw [Array.toArray_toList]; exact there⟩, rfl, got _ (I1.hok.fresh (by rw [Heap.size_push]; omega))⟩
theorem r_listRange {te : TE} {σ : L2.St} {H : Hp} {Q : VK} (q : te σ H (LRngK Q)) : tListRange te σ H Q := q
def rangeI (n : Nat) : List Int := (List.range n).map fun i : Nat => (i : Int)
theorem r_lRngK {n : Nat} {H : Hp} {Q : VK} {L : List SA} (hs : Hd L H) (few : n ≤ 100000) (q : ∀ p H', Hd (pto p (.lst ((rangeI n).map V.int)) :: L) H' → Q (.ref p) H') : LRngK Q (.int (n : Int)) H :=
  ⟨n, rfl, few, fun p e => q p _ (by
    have : (rangeI n).map V.int = (List.range n).map fun i : Nat => V.int (i : Int) := by
      unfold rangeI
      rw [List.map_map]
      rfl
    rw [this]
    exact hs.new e)⟩
theorem r_lRngK' {j : Int} {H : Hp} {Q : VK} {L : List SA} (hs : Hd L H) (h0 : 0 ≤ j) (few : j ≤ 100000) (q : ∀ p H', Hd (pto p (.lst ((rangeI j.toNat).map V.int)) :: L) H' → Q (.ref p) H') : LRngK Q (.int j) H := by
  have := r_lRngK (n := j.toNat) hs (by omega) q
  rwa [Int.toNat_of_nonneg h0] at this
/-! ### list + list, one of them read only -/
def rCatQ (K : PySem.W.Frag) : R2 := fun x y H Q => ∃ l b xs zs, x = .ref l ∧ y = .ref b ∧ SqL K H l xs ∧ SqL K H b zs ∧ xs.length + zs.length ≤ sizeLine ∧ ∀ p, H p = none → Q (.ref p) (upd H p (.lst (xs ++ zs)))
theorem op_catQ {X : Cx} : OpR X (binaryOp .Add) (rCatQ X.K) := by
  intro pins s σ H x y v u Q I rx ry h
  obtain ⟨l, b, xs, zs, ex, ey, h1, h2, hz, q⟩ := h
  subst ex ey
  obtain rfl : v = Value.ref l := rx
  obtain rfl : u = Value.ref b := ry
  obtain ⟨us, r1, ⟨⟨c1, d1, t1, s1⟩, n1, g1, e1, e2, e3⟩, z1⟩ := I.list h1
  obtain ⟨ws, r2, ⟨⟨c2, d2, t2, s2⟩, n2, g2, f1, f2, f3⟩, z2⟩ := I.list h2
  dsimp only at e1 e2 e3 f1 f2 f3
  subst e1 e2 e3 f1 f2 f3
  have len : us.length + ws.length ≤ sizeLine := by rw [← r1.length, ← r2.length]; exact hz
  refine concat_meets ⟨_, g1, rfl⟩ ⟨_, g2, rfl⟩ noFill_list_add seq_list_add PySem.F.slot_list_add PySem.F.entry_list_add (PySem.F.args_list_add_2 _ _) (list_addW l b us.toArray ws.toArray n1 n2 _ _ s1 s2 (by rw [List.size_toArray, List.size_toArray]; exact len)) ⟨g1, g2, ?_⟩
  rw [show us.toArray ++ ws.toArray = (us ++ ws).toArray by simp]
  exact ⟨.ref _, _, I.lnew (t' := s.toks) (r1.append r2) (by rw [List.length_append]; exact hz), rfl, q _ I.fresh⟩
theorem k_catQ {X : Cx} {K : PySem.W.Frag} (h : X.K = K) : OpR X (binaryOp .Add) (rCatQ K) := h ▸ op_catQ
theorem r_catQ {K : PySem.W.Frag} {H : Hp} {Q : VK} {l b : Addr} {xs zs : List V} {L : List SA} (hs : Hd L H) (h1 : SqL K H l xs) (h2 : SqL K H b zs) (hz : xs.length + zs.length ≤ sizeLine) (q : ∀ p H', Hd (pto p (.lst (xs ++ zs)) :: L) H' → Q (.ref p) H') : rCatQ K (.ref l) (.ref b) H Q :=
  ⟨l, b, xs, zs, rfl, rfl, h1, h2, hz, fun p n => q p _ (hs.new n)⟩
/-! ### slices of lists by numbers from nought on -/
theorem cut_both {α : Type} (f : α → V) (xs : List α) (i j : Nat) : cutV (xs.map f) (some (i : Int)) (some (j : Int)) = ((xs.drop i).take (j - i)).map f := by
  unfold cutV
  rw [HT.sIx_nat, HT.sIx_nat, List.length_map, ← List.map_drop, ← List.map_take]
  congr 1
  apply List.ext_getElem?
  intro k
  rw [List.getElem?_take, List.getElem?_take, List.getElem?_drop, List.getElem?_drop]
  by_cases h : i ≤ xs.length
  · rw [Nat.min_eq_left h]
    by_cases h2 : j ≤ xs.length
    · rw [Nat.min_eq_left h2]
    · rw [Nat.min_eq_right (by omega)]
      by_cases h3 : k < xs.length - i
      · rw [if_pos h3, if_pos (by omega)]
      · rw [if_neg h3, List.getElem?_eq_none (by omega)]
        split <;> rfl
  · rw [Nat.min_eq_right (show xs.length ≤ i by omega), List.getElem?_eq_none (by omega), List.getElem?_eq_none (by omega)]
    split <;> split <;> rfl
theorem cut_lo {α : Type} (f : α → V) (xs : List α) (i : Nat) : cutV (xs.map f) (some (i : Int)) none = (xs.drop i).map f := by
  unfold cutV
  rw [HT.sIx_nat, show HT.sIx (xs.map f).length (xs.map f).length none = (xs.map f).length from rfl, List.length_map, ← List.map_drop, ← List.map_take]
  congr 1
  apply List.ext_getElem?
  intro k
  rw [List.getElem?_take, List.getElem?_drop, List.getElem?_drop]
  by_cases h : i ≤ xs.length
  · rw [Nat.min_eq_left h]
    by_cases h3 : k < xs.length - i
    · rw [if_pos h3]
    · rw [if_neg h3, List.getElem?_eq_none (by omega)]
  · rw [Nat.min_eq_right (show xs.length ≤ i by omega), List.getElem?_eq_none (by omega), List.getElem?_eq_none (by omega)]
    split <;> rfl
theorem cut_hi {α : Type} (f : α → V) (xs : List α) (j : Nat) : cutV (xs.map f) none (some (j : Int)) = (xs.take j).map f := by
  unfold cutV
  rw [HT.sIx_nat, show HT.sIx (xs.map f).length 0 none = 0 from rfl, List.length_map, List.drop_zero, Nat.sub_zero, ← List.map_take]
  congr 1
  apply List.ext_getElem?
  intro k
  rw [List.getElem?_take, List.getElem?_take]
  by_cases h : j ≤ xs.length
  · rw [Nat.min_eq_left h]
  · rw [Nat.min_eq_right (by omega)]
    by_cases h3 : k < xs.length
    · rw [if_pos h3, if_pos (by omega)]
    · rw [if_neg h3, List.getElem?_eq_none (by omega)]
      split <;> rfl
theorem flat_rep {α : Type} (k : Nat) (x : α) : (List.replicate k [x]).flatten = List.replicate k x := by
  induction k with
  | zero => rfl
  | succ k ih => rw [List.replicate_succ, List.flatten_cons, ih, List.replicate_succ]; rfl
theorem map_rep {α β : Type} (f : α → β) (k : Nat) (x : α) : List.replicate k (f x) = (List.replicate k x).map f := List.map_replicate.symm
end Sl

set_option linter.all false
set_option maxRecDepth 100000
set_option maxHeartbeats 1000000
namespace Sl
open PySem L2
/-! ### comprehensions over d.values() -/
section
variable {K : PySem.W.Frag} {H : Hp} {Q : VK} {a d : Addr} {o : Obj} {L : List SA} {te : TE} {g : TG} {tt : TT} {vs : List Nat} {σ : L2.St} {α : Type} {f : α → V} {R : It → Hp → Prop} {kvs : List (Key × V)}
def ValIK (R : It → Hp → Prop) (x : V) (H : Hp) : Prop := ∃ d o kvs, x = .ref d ∧ H d = some (.frz o (.dK kvs)) ∧ R (Itd d o kvs) H
theorem r_vals (q : te σ H (ValIK R)) : iVals te σ H R := q
theorem r_valsK (h : H d = some (.frz o (.dK kvs))) (q : R (Itd d o kvs) H) : ValIK R (.ref d) H := ⟨d, o, kvs, rfl, h, q⟩
theorem r_lcVals (P : Addr → Nat → Hp → Prop) (hh : Hd L H) (h0 : ∀ D H', Hd (pto D (.lst []) :: L) H' → P D 0 H') (hl : ∀ D i H, i ≤ kvs.length → P D i H → H d = some (.frz o (.dK kvs)))
    (hs : ∀ D i k v H, kvs[i]? = some (k, v) → P D i H → g v (wipe σ vs) H fun σ2 H2 => wipe σ2 vs = wipe σ vs ∧ tt σ2 H2 fun b H3 => if b = true then te σ2 H3 (AppK D (P D (i + 1))) else P D (i + 1) H3)
    (hd : ∀ D H, P D kvs.length H → Q (.ref D) H) : LcK g tt te vs σ Q (Itd d o kvs) H :=
  r_lcW walk_values P hh h0 hl (fun D i x H H' hi p y => by
    obtain ⟨e, k, ex⟩ := y
    subst e
    exact hs D i k x _ ex p) hd
theorem r_lcDV (d : List (Int × α)) (p : Int × α → Bool) (h : Int × α → V) (hh : Hd L H) (hz : d.length < 100000) (hl : ∀ H, Hd L H → H a = some (.frz o (.dK (dM f d))))
    (step : ∀ (D : Addr) (acc : List V) (e : Int × α) H (N : V → Hp → Prop) (M : Hp → Prop), e ∈ d → Hd (pto D (.lst acc) :: L) H → (∀ H', Hd (pto D (.lst acc) :: L) H' → p e = true → N (h e) H') → (∀ H', Hd (pto D (.lst acc) :: L) H' → p e = false → M H') →
      g (f e.2) (wipe σ vs) H fun σ2 H2 => wipe σ2 vs = wipe σ vs ∧ tt σ2 H2 fun b H3 => if b = true then te σ2 H3 N else M H3)
    (hd : ∀ D H, Hd (pto D (.lst ((d.filter p).map h)) :: L) H → Q (.ref D) H) : LcK g tt te vs σ Q (Itd a o (dM f d)) H := by
  refine r_lcVals (fun D i H => Hd (pto D (.lst (((d.take i).filter p).map h)) :: L) H) hh (fun D H h => h) (fun D i H _ h => hl H h.tl) (fun D i k v H hx hP => ?_) (fun D H h => ?_)
  · unfold dM at hx
    rw [List.getElem?_map] at hx
    obtain ⟨e, hx2, ek⟩ := Option.map_eq_some_iff.mp hx
    cases ek
    have et : d.take (i + 1) = d.take i ++ [e] := by rw [List.take_add_one, hx2]; rfl
    refine step D _ e _ _ _ (List.mem_of_getElem? hx2) hP (fun H' h' pt => ?_) (fun H' h' pf => ?_)
    · refine ⟨_, h'.get .here, ?_, ?_⟩
      · refine szlt ?_
        rw [List.length_map]
        exact Nat.lt_of_le_of_lt (List.length_filter_le _ _) (Nat.lt_of_le_of_lt (List.length_take_le' _ _) (by omega))
      · rw [et, List.filter_append, List.map_append, List.filter_cons, if_pos pt]
        exact h'.set .here fun z => z
    · rw [et, List.filter_append, List.filter_cons, if_neg (by rw [pf]; exact Bool.false_ne_true)]
      simpa using h'
  · rw [len_dM, List.take_length] at h
    exact hd D H h
theorem r_lcDV' (d : List (Int × α)) (p : Int × α → Bool) (k : Int × α → Int) (hh : Hd L H) (hz : d.length < 100000) (hl : ∀ H, Hd L H → H a = some (.frz o (.dK (dM f d))))
    (step : ∀ (D : Addr) (acc : List V) (e : Int × α) H (N : V → Hp → Prop) (M : Hp → Prop), e ∈ d → Hd (pto D (.lst acc) :: L) H → (∀ H', Hd (pto D (.lst acc) :: L) H' → p e = true → N (.int (k e)) H') → (∀ H', Hd (pto D (.lst acc) :: L) H' → p e = false → M H') →
      g (f e.2) (wipe σ vs) H fun σ2 H2 => wipe σ2 vs = wipe σ vs ∧ tt σ2 H2 fun b H3 => if b = true then te σ2 H3 N else M H3)
    (hd : ∀ D H, Hd (pto D (.lst (((d.filter p).map k).map V.int)) :: L) H → Q (.ref D) H) : LcK g tt te vs σ Q (Itd a o (dM f d)) H :=
  r_lcDV d p (fun e => .int (k e)) hh hz hl step fun D H h => hd D H (by rw [List.map_map]; exact h)
theorem r_eqON {m : Option Int} {n : Int} (q : Q (.bl (decide (m = some n))) H) : rEqU K (match m with | none => V.non | some n => .int n) (.int n) H Q := by
  cases m with
  | none => exact r_eqV rfl q
  | some k =>
    have e : decide ((some k : Option Int) = some n) = decide (k = n) := by simp
    rw [e] at q
    exact r_eqI q
end
end Sl

set_option maxRecDepth 100000
set_option maxHeartbeats 1000000
namespace Sl
open PySem L2
/-! ### loops over few things, turn by turn -/
def GL (K : PySem.W.Frag) (a : Addr) (xs : List V) (H : Hp) : Prop := SqL K H a xs
def GT (K : PySem.W.Frag) (a : Addr) (xs : List V) (H : Hp) : Prop := SqT K H a xs
def GR (_ : Hp) : Prop := True
def UnF (G : Hp → Prop) (g : TG) (tb : TS) (D : Ends) : List V → L2.St → Hp → Prop
  | [], σ, H => D.nx σ H
  | x :: r, σ, H => g x σ H fun σ2 H2 => tb { D with nx := fun σ' H' => G H' ∧ UnF G g tb D r σ' H', ct := fun σ' H' => G H' ∧ UnF G g tb D r σ' H', bk := D.nx } σ2 H2
def UnK (G : Hp → Prop) (g : TG) (tb : TS) (D : Ends) (r : List V) (σ : L2.St) (H : Hp) : Prop := G H ∧ UnF G g tb D r σ H
def UnL (G : Hp → Prop) (g : TG) (tt : TT) (te : TE) (vs : List Nat) (σ : L2.St) (Q : VK) (D : Addr) : List V → Hp → Prop
  | [], H => Q (.ref D) H
  | x :: r, H => g x (wipe σ vs) H fun σ2 H2 => wipe σ2 vs = wipe σ vs ∧ tt σ2 H2 fun b H3 => if b = true then te σ2 H3 (AppK D fun H' => G H' ∧ UnL G g tt te vs σ Q D r H') else G H3 ∧ UnL G g tt te vs σ Q D r H3
def UnLK (G : Hp → Prop) (g : TG) (tt : TT) (te : TE) (vs : List Nat) (σ : L2.St) (Q : VK) (D : Addr) (r : List V) (H : Hp) : Prop := G H ∧ UnL G g tt te vs σ Q D r H
section
variable {K : PySem.W.Frag} {σ : L2.St} {H : Hp} {D : Ends} {tb : TS} {te : TE} {tt : TT} {g : TG} {Q : VK} {x : V} {n : Nat} {L : List SA} {a E : Addr} {xs r : List V} {vs : List Nat} {G : Hp → Prop}
theorem r_unNil (q : D.nx σ H) : UnF G g tb D [] σ H := q
theorem r_unCons (q : g x σ H fun σ2 H2 => tb { D with nx := UnK G g tb D r, ct := UnK G g tb D r, bk := D.nx } σ2 H2) : UnF G g tb D (x :: r) σ H := q
theorem r_unKL (h : SqL K H a xs) (q : UnF (GL K a xs) g tb D r σ H) : UnK (GL K a xs) g tb D r σ H := ⟨h, q⟩
theorem r_unKT (h : SqT K H a xs) (q : UnF (GT K a xs) g tb D r σ H) : UnK (GT K a xs) g tb D r σ H := ⟨h, q⟩
theorem r_unKR (q : UnF GR g tb D r σ H) : UnK GR g tb D r σ H := ⟨trivial, q⟩
theorem un_step {i : Nat} (hx : xs[i]? = some x) (q : UnF G g tb D (xs.drop i) σ H) : g x σ H fun σ2 H2 => tb { D with nx := fun σ' H' => G H' ∧ UnF G g tb D (xs.drop (i + 1)) σ' H', ct := fun σ' H' => G H' ∧ UnF G g tb D (xs.drop (i + 1)) σ' H', bk := D.nx } σ2 H2 := by
  obtain ⟨hi, rfl⟩ := List.getElem?_eq_some_iff.mp hx
  rw [List.drop_eq_getElem_cons hi] at q
  exact q
theorem r_unL (h : SqL K H a xs) (q : UnF (GL K a xs) g tb D xs σ H) : ForK g tb D σ (Itl K a) H :=
  r_forL xs (fun i σ H => GL K a xs H ∧ UnF (GL K a xs) g tb D (xs.drop i) σ H) ⟨h, q⟩ (fun _ _ _ _ p => p.1) (fun _ _ _ _ hx p => un_step hx p.2) fun σ H p => by
    have := p.2
    rwa [List.drop_length] at this
theorem r_unT (h : SqT K H a xs) (q : UnF (GT K a xs) g tb D xs σ H) : ForK g tb D σ (Itt K a) H :=
  r_forT xs (fun i σ H => GT K a xs H ∧ UnF (GT K a xs) g tb D (xs.drop i) σ H) ⟨h, q⟩ (fun _ _ _ _ p => p.1) (fun _ _ _ _ hx p => un_step hx p.2) fun σ H p => by
    have := p.2
    rwa [List.drop_length] at this
theorem r_unR {lo : Int} (e : (List.range n).map (fun i : Nat => V.int (lo + (i : Nat))) = xs) (q : UnF GR g tb D xs σ H) : ForK g tb D σ (Itr lo n) H := by
  subst e
  refine r_forR (fun i σ H => UnF GR g tb D (((List.range n).map (fun i : Nat => V.int (lo + (i : Nat)))).drop i) σ H) q (fun i σ H hi p => ?_) fun σ H p => ?_
  · have hx : ((List.range n).map (fun i : Nat => V.int (lo + (i : Nat))))[i]? = some (V.int (lo + (i : Nat))) := by simp [hi]
    have := un_step hx p
    have e : (fun σ' H' => GR H' ∧ UnF GR g tb D (((List.range n).map (fun i : Nat => V.int (lo + (i : Nat)))).drop (i + 1)) σ' H') = fun σ' H' => UnF GR g tb D (((List.range n).map (fun i : Nat => V.int (lo + (i : Nat)))).drop (i + 1)) σ' H' := by
      funext σ' H'
      exact propext ⟨fun z => z.2, fun z => ⟨trivial, z⟩⟩
    rw [e] at this
    exact this
  · rw [List.drop_of_length_le (by simp)] at p
    exact p
theorem r_ulNil (q : Q (.ref E) H) : UnL G g tt te vs σ Q E [] H := q
theorem r_ulCons (q : g x (wipe σ vs) H fun σ2 H2 => wipe σ2 vs = wipe σ vs ∧ tt σ2 H2 fun b H3 => if b = true then te σ2 H3 (AppK E (UnLK G g tt te vs σ Q E r)) else UnLK G g tt te vs σ Q E r H3) : UnL G g tt te vs σ Q E (x :: r) H := q
theorem r_ulKL (h : SqL K H a xs) (q : UnL (GL K a xs) g tt te vs σ Q E r H) : UnLK (GL K a xs) g tt te vs σ Q E r H := ⟨h, q⟩
theorem r_ulKT (h : SqT K H a xs) (q : UnL (GT K a xs) g tt te vs σ Q E r H) : UnLK (GT K a xs) g tt te vs σ Q E r H := ⟨h, q⟩
theorem r_ulKR (q : UnL GR g tt te vs σ Q E r H) : UnLK GR g tt te vs σ Q E r H := ⟨trivial, q⟩
theorem ul_step {i : Nat} (hx : xs[i]? = some x) (q : UnL G g tt te vs σ Q E (xs.drop i) H) : g x (wipe σ vs) H fun σ2 H2 => wipe σ2 vs = wipe σ vs ∧ tt σ2 H2 fun b H3 => if b = true then te σ2 H3 (AppK E fun H' => G H' ∧ UnL G g tt te vs σ Q E (xs.drop (i + 1)) H') else G H3 ∧ UnL G g tt te vs σ Q E (xs.drop (i + 1)) H3 := by
  obtain ⟨hi, rfl⟩ := List.getElem?_eq_some_iff.mp hx
  rw [List.drop_eq_getElem_cons hi] at q
  exact q
theorem r_ulL (hh : Hd L H) (h : ∀ E H', Hd (pto E (.lst []) :: L) H' → SqL K H' a xs) (q : ∀ E H', Hd (pto E (.lst []) :: L) H' → UnL (GL K a xs) g tt te vs σ Q E xs H') : LcK g tt te vs σ Q (Itl K a) H :=
  r_lcL xs (fun E i H => GL K a xs H ∧ UnL (GL K a xs) g tt te vs σ Q E (xs.drop i) H) hh (fun E H' z => ⟨h E H' z, q E H' z⟩) (fun _ _ _ _ p => p.1) (fun _ _ _ _ hx p => ul_step hx p.2) fun E H p => by
    have := p.2
    rwa [List.drop_length] at this
theorem r_ulT (hh : Hd L H) (h : ∀ E H', Hd (pto E (.lst []) :: L) H' → SqT K H' a xs) (q : ∀ E H', Hd (pto E (.lst []) :: L) H' → UnL (GT K a xs) g tt te vs σ Q E xs H') : LcK g tt te vs σ Q (Itt K a) H :=
  r_lcT xs (fun E i H => GT K a xs H ∧ UnL (GT K a xs) g tt te vs σ Q E (xs.drop i) H) hh (fun E H' z => ⟨h E H' z, q E H' z⟩) (fun _ _ _ _ p => p.1) (fun _ _ _ _ hx p => ul_step hx p.2) fun E H p => by
    have := p.2
    rwa [List.drop_length] at this
end
end Sl
namespace Sl
open PySem L2
theorem r_joinV {α : Type} {B : Prop} {R : α → Hp → Prop} (P : α → Hp → Prop) (f : (∀ x H, P x H → R x H) → B) (a : ∀ x H, P x H → R x H) : B := f a
end Sl

set_option maxRecDepth 100000
set_option maxHeartbeats 1000000
namespace Sl
open PySem L2 PySem.Spec PyProof.Rows
/-! ### an error that is noted: except X as n, and n kept by another name behind the suite -/
/-- an error's object of the class cls -/
def ErrO (cls : Value) (d : Option Addr) (a : Addr) : HO := .ext fun h => ∃ (oe : Obj) (fs : Array Value), h.get? a = some oe ∧ Zc cls d oe ∧ oe.data = .fields fs
section
variable {X : Cx} {pins : List (Addr × Obj)} {σ : L2.St} {H : Hp} {s : Shared}
/-- an object that came up since the def began, and that nobody tracks, is tracked from now on -/
theorem note_err {a : Addr} {oe : Obj} {fs : Array Value} {cls : Value} {d : Option Addr} (I : L2.Inv X pins σ H s) (at_ : s.heap.get? a = some oe) (z : Zc cls d oe) (fd : oe.data = .fields fs) (new : X.s_0.heap.get? a = none) (no : H a = none) (nl : a ≠ X.env.locals)
    (np : ∀ p ∈ X.pn ++ pins, p.1 ≠ a) : L2.Inv X pins σ (upd H a (ErrO cls d a)) s := by
  have cellNo : ∀ x c, X.env.cells.lookup x = some c → c ≠ a := by
    intro x c hc e
    obtain ⟨v, o, e2, w⟩ := I.cell x c hc
    rw [e, at_] at e2
    cases e2
    rw [fd] at w
    cases w
  have h0 : X.s_0.heap.get? a = none := new
  have ne0 : ∀ {b : Addr} {o : Obj}, X.s_0.heap.get? b = some o → b ≠ a := by
    intro b o e q
    rw [q, h0] at e
    cases e
  refine { I with base := ?_, free := ?_, freeC := ?_, pin := ?_, hok := ?_ }
  · refine { I.base with free := ?_, tups := ?_, frzs := ?_, tbls := ?_ }
    · intro b o e n q
      rw [upd_ne (ne0 e)]
      exact I.base.free b o e n q
    · intro b xs e
      have := I.base.tups b xs e
      rw [upd_ne (fun q => by rw [q, no] at this; cases this)]
      exact this
    · intro b o u e
      have := I.base.frzs b o u e
      rw [upd_ne (fun q => by rw [q, no] at this; cases this)]
      exact this
    · intro b ps e
      obtain ⟨more, this⟩ := I.base.tbls b ps e
      exact ⟨more, by rw [upd_ne (fun q => by rw [q, no] at this; cases this)]; exact this⟩
  · rw [upd_ne (Ne.symm nl)]
    exact I.free
  · intro x c hc
    rw [upd_ne (cellNo x c hc)]
    exact I.freeC x c hc
  · intro p hp
    obtain ⟨q1, q2, q3, q4, q5⟩ := I.pin p hp
    exact ⟨q1, by rw [upd_ne (np p hp)]; exact q2, q3, q4, q5⟩
  · intro b o e
    by_cases q : b = a
    · subst q
      rw [upd_same] at e
      cases e
      refine ⟨⟨oe, fs, at_, z, fd⟩, ⟨oe, at_⟩, ?_⟩
      rintro h1 h2 ⟨o1, f1, g1, g2, g3⟩ k
      exact ⟨o1, f1, k _ g1, g2, g3⟩
    · rw [upd_ne q] at e
      refine (I.hok b o e).stay (fun _ _ _ w => w) ?_ ?_
      · intro c e2
        rw [upd_ne (fun q2 => by rw [q2, no] at e2; cases e2)]
        exact e2
      · intro c xs e2
        rw [upd_ne (fun q2 => by rw [q2, no] at e2; cases e2)]
        exact e2
end
/-- what the body's error finds: the suite with the error's own name set, then what follows with the error tracked -/
def wNote (K : PySem.W.Frag) (c : Value) (i : Nat) (ts : Addr → Value → Option Addr → TS) (Wout : WX) (D : Ends) : WX := fun cls d σ H =>
  ∃ b, PySem.W.exmOne K cls c = some b ∧ (b = true → ∀ a, H a = none → ts a cls d { nx := fun τ G => G a = none → D.nx (τ.set i none) (upd G a (ErrO cls d a)), rt := fun _ _ => False, bk := fun _ _ => False, ct := fun _ _ => False } (σ.set i (some (.ref a))) H) ∧ (b = false → Wout cls d σ H)
section
variable {X : Cx} {x n : Str} {c : Value} {i : Nat} {body suite : List Stmt} {st1 : Stmt} {np pos pos' : Pos} {tb : WX → TS} {ts : Addr → Value → Option Addr → TS} {Wout : WX}
theorem ps_tryN (ex0 : X.ex = []) (sk : X.stack = X.env :: X.outer) (fr : X.env.frame = some X.env.locals) (nd : X.N.Nodup) (ix : X.N[i]? = some n) (kd : X.env.kindOf n = some .local) (nm : Names X x c) (tk : Takes X Wout)
    (hb : ∀ (W : WX) (pn : List (Addr × Obj)) (xe : Value → Shared → Prop), Takes (X.tr pn xe) W → PassesOwn (model X.prog X.w) X.A X.env xe → PSs (X.tr pn xe) body (tb W))
    (hsu : ∀ (a : Addr) (oe : Obj) (cls : Value) (d : Option Addr) (pn : List (Addr × Obj)), Zc cls d oe → (∃ fs, oe.data = .fields fs) → PSs (X.suite a ((a, oe) :: pn)) (st1 :: suite) (ts a cls d)) :
    PS X (.Try body [.ExceptHandler (some (.Name x np)) (some n) (st1 :: suite) pos'] [] [] pos) (fun D σ H => tb (wNote X.K c i ts Wout D) D σ H) := by
  constructor
  intro pins s σ H D I0 h
  have ok := I0.ok
  have frames : X.A.frames = some (X.env :: X.outer) := by rw [ok.frames, sk]
  have loc : Loc X.env.scope n := .inl kd
  apply wpAny_Try_except
  have run := (hb (wNote X.K c i ts Wout D) (X.pn ++ pins) (fun e z1 => wpAny (model X.prog X.w) X.A (noteFrame e X.env) (fun _ z2 => wpAny (model X.prog X.w) X.A (setFlight e none) (fun _ z3 =>
    wpAny (model X.prog X.w) X.A (handleBy e X.env [.ExceptHandler (some (.Name x np)) (some n) (st1 :: suite) pos']) (SP X pins D) X.xe z3) X.xe z2) X.xe z1) (fun u z xx => ?air) PassesOwn.looking).run [] s σ H D (I0.toTry _) h
  case air =>
    obtain ⟨a, B, z0, pins', τ, G, cls, d, rfl, J', keep, up, sky, na, os, ag, b, hb1, yes, no⟩ := xx
    have J : L2.Inv X pins τ G z0 := J'.ofTry ok
    have sky2 : Sky B (X.env :: X.outer) a (Zc cls d) X.env.locals z.heap := by rw [← sk]; exact sky
    show wpAny (model X.prog X.w) X.A (noteFrame (.ref a) X.env) _ _ _
    apply Sky.land Zc.steady frames fr sky2
    intro h3 fl3 up3
    have J3 : L2.Inv X pins τ G { z with heap := h3 } := J.landed keep fl3.1 (up.trans up3) os ag
    obtain ⟨oe3, fs3, he3, hz3, hd3⟩ := fl3.there
    have nfr : a ∉ frs (X.env :: X.outer) := by
      intro hm
      obtain ⟨_, o2, e2, hn⟩ := fl3.2.2.1.mem hm
      rw [he3] at e2
      cases e2
      exact hn _ hd3
    have nL : a ≠ X.env.locals := fun q => nfr (List.mem_filterMap.mpr ⟨X.env, List.mem_cons_self, by rw [fr, q]⟩)
    have nF : a ∉ X.fs := by
      intro hm
      obtain ⟨e, he, q⟩ := List.mem_filterMap.mp hm
      exact nfr (List.mem_filterMap.mpr ⟨e, List.mem_cons_of_mem _ he, q⟩)
    -- the error is new
    have new0 : z0.heap.get? a = none := by
      cases q : z0.heap.get? a with
      | none => rfl
      | some o =>
        have := keep a o q (by rw [show frs X.stack = frs (X.env :: X.outer) by rw [sk]]; exact nfr)
        rw [fl3.2.1] at this
        cases this
    have newS : X.s_0.heap.get? a = none := by
      cases q : X.s_0.heap.get? a with
      | none => rfl
      | some o =>
        obtain ⟨o2, e2⟩ := J.base.there a o q (by rw [ex0]; exact List.not_mem_nil)
        rw [new0] at e2
        cases e2
    have newP : ∀ p ∈ X.pn ++ pins, p.1 ≠ a := by
      intro p hp e
      have := (J.pin p hp).1
      rw [e, new0] at this
      cases this
    have S3 := J3.suite he3 hd3 na nL nF
    apply wpAny_handleBy_cons (codeAny_handlers_test ?_) (by intro q; cases q)
    have LT : PySem.W.Looks (model X.prog X.w) h3 (typeOf (.ref a)) cls := fun A Q E s k q => wpAny_typeOf_ref (k _ _ he3) (by rw [hz3.1]; exact q)
    have LM := PySem.W.exm_one (M := model X.prog X.w) J3.kIn LT hb1
    have test : ∀ {Q : Value → Shared → Prop} {E : Value → Shared → Prop}, Q c { z with heap := h3 } → wpAny (model X.prog X.w) (X.A.mark (some (.ref a))) (eval (.Name x np) X.env) Q E { z with heap := h3 } := by
      intro Q E q
      obtain ⟨hg, hdbg, hm⟩ := nm
      rcases hm with hm | ⟨hm, hv, hnn⟩
      · exact ld_glob (X := X.suite a ((a, oe3) :: (X.pn ++ pins))) S3 hg hm q hdbg
      · exact ld_blt (X := X.suite a ((a, oe3) :: (X.pn ++ pins))) S3 hg hm hv q hnn hdbg
    apply test
    apply LM.here
    cases b with
    | true =>
      apply codeAny_handlers_suite_as
      apply HandSPX.lands_againZ fl3
      intro h4 fl4 up4
      have J4 : L2.Inv X pins τ G { z with heap := h4 } := J.landed keep fl4.1 ((up.trans up3).trans up4) os ag
      obtain ⟨oe4, fs4, he4, hz4, hd4⟩ := fl4.there
      have S4 := J4.suite he4 hd4 na nL nF
      refine store_ok (X := X.suite a ((a, oe4) :: (X.pn ++ pins))) (v := .ref a) S4 nd ix loc rfl (fun z5 S5 => ?_) (.inr kd)
      refine wpAny_mono ((hsu a oe4 cls d (X.pn ++ pins) hz4 ⟨_, hd4⟩).run [] z5 _ G _ S5 (yes rfl a na)) ?_ (fun _ _ w => False.elim w)
      intro f z6 done
      match f, done with
      | .next, ⟨τ6, G6, S6, q6⟩ =>
        have p6 := S6.pin (a, oe4) (List.mem_append.mpr (.inl List.mem_cons_self))
        have J6 := note_err (S6.unsuite ok) p6.1 hz4 hd4 newS p6.2.1 nL newP
        exact gone_ok J6 nd ix kd fun z7 J7 => ⟨_, _, J7, q6 p6.2.1⟩
      | .brk, ⟨_, _, _, q6⟩ => exact False.elim q6
      | .cont, ⟨_, _, _, q6⟩ => exact False.elim q6
      | .ret u, ⟨_, _, _, _, _, q6⟩ => exact False.elim q6
    | false =>
      show wpAny _ X.A (handleBy (.ref a) X.env []) _ _ _
      apply wpAny_handleBy_nil
      obtain ⟨k1, k2, k3, oe, fs, T, oT, ts', he, hz, hd, h1, hr⟩ := id fl3
      unfold PySem.passOn
      apply wpAny_bind (wpAny_field he hd h1 ?_)
      rw [if_neg (show ¬ ((Value.ref T == Value.none) = true) from by simp)]
      have fin : wpAny (model X.prog X.w) X.A (setFlight (.ref a) X.env.frame) (fun _ z4 => wpAny (model X.prog X.w) X.A (throw (.ref a) : Sem Flow) (SP X pins D) X.xe z4) X.xe { z with heap := h3 } := by
        rw [fr]
        apply HandSPX.setFlight_upZ fl3
        intro h4 hh4 up4
        apply wpAny_throw
        exact tk _ _ ⟨a, B, z0, pins, τ, G, cls, d, rfl, J, keep, (up.trans up3).trans up4, .inr (.inr (by rw [sk]; exact hh4)), na, os, ag, no rfl⟩
      first
        | exact wpAny_bind (wpAny_pure (wpAny_bind fin))
        | exact wpAny_bind fin
  refine wpAny_mono run ?_ (fun e z1 he => he)
  intro f z1 done
  match f, done with
  | .next, ⟨τ, G, J, q⟩ => exact wpAny_execs_nil ⟨τ, G, J.ofTry ok, q⟩
  | .brk, ⟨τ, G, J, q⟩ => exact ⟨τ, G, J.ofTry ok, q⟩
  | .cont, ⟨τ, G, J, q⟩ => exact ⟨τ, G, J.ofTry ok, q⟩
  | .ret u, ⟨v, τ, G, J, r, q⟩ => exact ⟨v, τ, G, J.ofTry ok, r, q⟩
end
/-- isinstance of a noted error -/
def rIsErr (K : PySem.W.Frag) : List V → Hp → VK → Prop := fun xs H Q => ∃ (a D : Addr) (c : V) (cv : Value) (b : Bool), xs = [.ref a, c] ∧ H a = some (ErrO (.ref D) none a) ∧ ExcC K D ∧ (∀ u, RelV c u → u = cv) ∧ PySem.W.kitOne K (.ref D) cv = some b ∧ Q (.bl b) H
theorem call_isErr {X : Cx} : CallR X (.builtin "isinstance") (rIsErr X.K) := by
  intro pins s σ H xs us Q I r h
  obtain ⟨a, D, c, cv, b, rfl, ha, C, hc, e, q⟩ := h
  obtain ⟨u, w', rfl, rx, rc⟩ := vals2 r
  obtain rfl : u = Value.ref a := rx
  have ec := hc _ rc
  subst ec
  obtain ⟨⟨oe, fs, g, z, dd⟩, -, -⟩ := I.hok a _ ha
  have J : PySem.W.InstAt s.heap a oe D none := by
    obtain ⟨oc, od, oda, osl⟩ := oe
    obtain ⟨h1, h2⟩ := z
    dsimp only at h1 h2 dd
    subst h1 h2 dd
    exact ⟨g, rfl, rfl, trivial⟩
  exact PySem.W.kia_one (PySem.W.handS_kitx_exc C.hg C.hk C.hs C.hd C.ha C.hn C.ht C.hm) I.kIn J e (fun z => nomatch z) fun tk => ⟨.bl b, H, I.kept (t' := tk) fun _ _ z => z, rfl, q⟩
end Sl

set_option maxRecDepth 100000
set_option maxHeartbeats 1000000
namespace Sl
open PySem L2 PySem.Spec PyProof.Rows
/-! ### raise; what is called within a try -/
def tRaise (C : Addr) (W : WX) : TS := fun _ σ H => W (.ref C) none σ H
/-- the facts of an error's class over ValueError -/
structure ErrC (K : PySem.W.Frag) (mg : Str → Option Value) (x : Str) (C : Addr) : Prop where
  g : mg x = some (.ref C)
  x : PySem.W.excIn K C [.type "ValueError", .type "Exception", .type "BaseException", .type "object"] "ValueError.__new__" = true
  k : PySem.W.keepIn K (.ref C) = true
  b : PySem.W.subIn K (.ref C) (.type "BaseException") = some true
  t : PySem.W.typeIn K (.ref C) = some (.type "type")
section
variable {X : Cx} {C f : Addr} {x m : Str} {j k : Nat} {p p2 pos pos2 apos : Pos} {CX : CXT} {fd : FuncData} {ps : List Str} {sp : Sp} {E : L2.St → XK} {e o : Expr} {es : List Expr} {ta : TE} {t : TA}
theorem ps_raiseE {W : WX} (hc : X.calm = true) (tk : Takes X W) (c : ErrC X.K X.mg x C) (hg : Gl X x) (hdb : (x == ("__debug__" : Str)) = false := by decide) :
    PS X (.Raise (some (.Call (.Name x p) [.Constant (.str m) j p2] [] pos)) none pos2) (tRaise C W) :=
  ps_raise hc tk (pmk_own PySem.F.excBase_ValueError c.x c.g c.k (raises_own c.b c.t) hg hdb)
theorem r_raise {W : WX} {D : Ends} {σ : L2.St} {H : Hp} (q : W (.ref C) none σ H) : tRaise C W D σ H := q
/-- o.m(e, ..) within a try: what it raises is wished for at the slots as they stand -/
def tMethS (C : Addr) (m : Str) (sp : Sp) (E : L2.St → XK) (ta : TE) (t : TA) : TE := fun σ H Q => ta σ H (MethK C m fun x H1 => t σ H1 fun vs H2 => sp (x :: vs) H2 Q (E σ))
theorem pe_methS {pl : Sem Bool} (he : PE X o ta) (c : Cls X.K C) (hm : Meth X.K C m f) (F : FnOk X.prog X.w X.K X.mg X.base CX k f fd ps sp) (hr : Room k X.A) (hb : Binds X.K fd ps []) (hx : ∀ σ, PassesAt CX X σ (E σ)) (ha : PA X (e :: es) t)
    (hst : starEach (e :: es) X.env = (false, eval e X.env) :: starEach es X.env := by rfl) (hpl : (backTo pos (starEach es X.env)).any (·.1) = false := by rfl)
    (ht : eval (.Call (.Attribute o m apos) (e :: es) [] pos) X.env = (do
      let ov ← eval o X.env
      standAt apos.atName
      let (f, first) ← holding [ov] (getMethod ov m pl)
      callWith pos f first (backTo pos (starEach (e :: es) X.env)) (backToKw pos (keywordEach [] X.env))) := by rfl) :
    PE X (.Call (.Attribute o m apos) (e :: es) [] pos) (tMethS C m sp E ta t) := by
  refine ⟨fun pn s τ G Q I h => ?_⟩
  refine PySem.W.methodCall_KW (pl := pl) (thn (he.run pn s τ G _ I h) fun u s1 ⟨x, H1, I1, rx, a, dx, fs, ex, ea, l, q⟩ => ?_) ht
  subst ex
  obtain rfl : u = Value.ref a := rx
  refine getmeth_ok I1 ea c hm l ?_
  refine PySem.W.callWith_K (first := [.ref a]) (h₀ := X.base) I.ok.mod.kin hm.kp (thn (ha.run pos pn s1 τ H1 _ I1 q) fun us s2 ⟨vs, H2, I2, r, q2⟩ => ⟨I2.kIn, ?_⟩) hst hpl
  exact run_fnS (us := .ref a :: us) (vs := .ref a :: vs) F hr hb (hx τ) I2 (.cons rfl r) q2
def tMethS0 (C : Addr) (m : Str) (sp : Sp) (E : L2.St → XK) (ta : TE) : TE := fun σ H Q => ta σ H (MethK C m fun x H1 => sp [x] H1 Q (E σ))
theorem pe_methS0 {pl : Sem Bool} (he : PE X o ta) (c : Cls X.K C) (hm : Meth X.K C m f) (F : FnOk X.prog X.w X.K X.mg X.base CX k f fd ps sp) (hr : Room k X.A) (hb : Binds X.K fd ps []) (hx : ∀ σ, PassesAt CX X σ (E σ))
    (ht : eval (.Call (.Attribute o m apos) [] [] pos) X.env = (do
      let ov ← eval o X.env
      standAt apos.atName
      let (f, first) ← holding [ov] (getMethod ov m pl)
      callWith pos f first (backTo pos (starEach [] X.env)) (backToKw pos (keywordEach [] X.env))) := by rfl) :
    PE X (.Call (.Attribute o m apos) [] [] pos) (tMethS0 C m sp E ta) := by
  refine ⟨fun pn s τ G Q I h => ?_⟩
  refine PySem.W.methodCall_KW (pl := pl) (thn (he.run pn s τ G _ I h) fun u s1 ⟨x, H1, I1, rx, a, dx, fs, ex, ea, l, q⟩ => ?_) ht
  subst ex
  obtain rfl : u = Value.ref a := rx
  refine getmeth_ok I1 ea c hm l ?_
  exact PySem.W.callWith_K0 (first := [.ref a]) I1.kIn hm.kp (run_fnS (us := [.ref a]) (vs := [.ref a]) F hr hb (hx τ) I1 (.cons rfl .nil) q)
end
section
variable {K : PySem.W.Frag} {C : Addr} {m : Str} {sp : Sp} {E : L2.St → XK} {ta : TE} {t : TA} {σ τ : L2.St} {H G : Hp} {Q : VK} {L : List SA} {a D : Addr} {cls : Value} {d : Option Addr}
theorem r_callS (q : t σ H fun vs H1 => sp vs H1 Q (E σ)) : tCallS sp E t σ H Q := q
theorem r_methS (q : ta σ H (MethK C m fun x H1 => t σ H1 fun vs H2 => sp (x :: vs) H2 Q (E σ))) : tMethS C m sp E ta t σ H Q := q
theorem r_methS0 (q : ta σ H (MethK C m fun x H1 => sp [x] H1 Q (E σ))) : tMethS0 C m sp E ta σ H Q := q
theorem r_note {c : Value} {i : Nat} {ts : Addr → Value → Option Addr → TS} {Wout : WX} {D : Ends} (h : PySem.W.exmOne K cls c = some true)
    (q : ∀ a, ts a cls d { nx := fun τ G => G a = none → D.nx (τ.set i none) (upd G a (ErrO cls d a)), rt := fun _ _ => False, bk := fun _ _ => False, ct := fun _ _ => False } (σ.set i (some (.ref a))) H) : WE (wNote K c i ts Wout D) σ cls d H := ⟨true, h, fun _ a _ => q a, fun z => nomatch z⟩
theorem r_noteEnd {R : Hp → Prop} (hs : Hd L G) (q : ∀ G', Hd (pto a (ErrO cls d a) :: L) G' → R G') : G a = none → R (upd G a (ErrO cls d a)) := fun n => q _ (hs.new n)
/-- isinstance of a noted error and classes in a tuple -/
def rIsErrTu (K : PySem.W.Frag) : List V → Hp → VK → Prop := fun xs H Q => ∃ (a D tp : Addr) (cs : List V) (us : List Value) (b : Bool), xs = [.ref a, .ref tp] ∧ H a = some (ErrO (.ref D) none a) ∧ ExcC K D ∧ H tp = some (.tup cs) ∧ Paired ClsV cs us ∧ PySem.W.kitAny K (.ref D) us = some b ∧ Q (.bl b) H
theorem call_isErrTu {X : Cx} : CallR X (.builtin "isinstance") (rIsErrTu X.K) := by
  intro pn s τ G xs us Q I r h
  obtain ⟨a, D, tp, cs, ws, b, rfl, ha, C, hT, pr, e, q⟩ := h
  obtain ⟨u, w', rfl, rx, rc⟩ := vals2 r
  obtain rfl : u = Value.ref a := rx
  obtain rfl : w' = Value.ref tp := rc
  obtain ⟨⟨oe, fs, g, z, dd⟩, -, -⟩ := I.hok a _ ha
  have J : PySem.W.InstAt s.heap a oe D none := by
    obtain ⟨oc, od, oda, osl⟩ := oe
    obtain ⟨h1, h2⟩ := z
    dsimp only at h1 h2 dd
    subst h1 h2 dd
    exact ⟨g, rfl, rfl, trivial⟩
  obtain ⟨-, its, rv, o, h1, h2, n, h3⟩ := (show ObjOk X.prog X.w G s.heap tp (.tup cs) from I.hok tp _ hT)
  have e3 := ClsV.all pr rv
  subst e3
  obtain ⟨oc, od, dt, sl⟩ := o
  simp only at h2 h3
  subst h2 h3
  exact PySem.W.kia_tup (PySem.W.handS_kitx_exc C.hg C.hk C.hs C.hd C.ha C.hn C.ht C.hm) I.kIn J h1 e (fun z => nomatch z) fun tk => ⟨.bl b, G, I.kept (t' := tk) fun _ _ z => z, rfl, q⟩
/-- isinstance of anything -/
def rIsA (K : PySem.W.Frag) : List V → Hp → VK → Prop := fun xs H Q => rIsiU K xs H Q ∨ rIsErr K xs H Q ∨ rIsErrTu K xs H Q
theorem k_isA {X : Cx} (h : X.K = K) : CallR X (.builtin "isinstance") (rIsA K) := h ▸ u_isi.or (call_isErr.or call_isErrTu)
theorem own_all {cs : List Addr} : Paired ClsV (cs.map V.ref) (cs.map Value.ref) := by
  induction cs with
  | nil => exact .nil
  | cons c cs ih => exact .cons (.own c) ih
theorem r_isErrN {tp : Addr} {cs : List Addr} (h : H a = some (ErrO (.ref D) none a)) (C : ExcC K D) (hT : H tp = some (.tup (cs.map V.ref))) (no : ∀ c ∈ cs, PySem.W.kitOne K (.ref D) (.ref c) = some false) (q : Q (.bl false) H) : rIsA K [.ref a, .ref tp] H Q := by
  refine .inr (.inr ⟨a, D, tp, cs.map V.ref, cs.map Value.ref, false, rfl, h, C, hT, own_all, ?_, q⟩)
  clear hT
  induction cs with
  | nil => rfl
  | cons c cs ih => exact kitAny_cons (no c List.mem_cons_self) (fun _ => ih fun x hx => no x (List.mem_cons_of_mem _ hx)) fun z => nomatch z
theorem r_isAU {xs : List V} (q : rIsiU K xs H Q) : rIsA K xs H Q := .inl q
theorem r_isErr {b : Bool} (h : H a = some (ErrO (.ref D) none a)) (C : ExcC K D) {c : Addr} (e : PySem.W.kitOne K (.ref D) (.ref c) = some b) (q : Q (.bl b) H) : rIsA K [.ref a, .ref c] H Q := .inr (.inl ⟨a, D, .ref c, .ref c, b, rfl, h, C, fun _ r => r, e, q⟩)
theorem r_isErrT {b : Bool} (h : H a = some (ErrO (.ref D) none a)) (C : ExcC K D) {n : String} (e : PySem.W.kitOne K (.ref D) (.type n) = some b) (q : Q (.bl b) H) : rIsA K [.ref a, .ty n] H Q := .inr (.inl ⟨a, D, .ty n, .type n, b, rfl, h, C, fun _ r => r, e, q⟩)
end
theorem passF {X : Cx} : Passes (L2.CX X.prog X.w) X E0 := by
  rintro pn τ G z e z2 J ⟨a, B, G2, cls, d, h1, h2, h3, h4, h5, h6, h7, h8⟩
  exact False.elim h8
section
variable {X : Cx} {C f : Addr} {x : Str} {k : Nat} {p pos : Pos} {CX : CXT} {fd : FuncData} {ps : List Str} {sp : Sp} {E : L2.St → XK} {e : Expr} {es : List Expr} {t : TA}
/-- C(e, ..) within a try -/
def tMakeS (C : Addr) (sp : Sp) (E : L2.St → XK) (t : TA) : TE := fun σ H Q => t σ H (MakeK C sp [] (E σ) Q)
theorem made_s {pn : List (Addr × Obj)} {τ : L2.St} {G : Hp} {z : Shared} {R : VK} {ws : List Value} {xs : List V} (M : Mk X.K C f) (F : FnOk X.prog X.w X.K X.mg X.base CX k f fd ps sp) (hr : Room (k + 1) X.A) (bd : Binds X.K fd ps []) (ex : ∀ σ, PassesAt CX X σ (E σ))
    (J : L2.Inv X pn τ G z) (rv : Vals xs ws) (q : MakeK C sp [] (E τ) R xs G) : wpAny (model X.prog X.w) X.A (call (.ref C) ws) (EP X pn τ R) X.xe z := by
  have q2 := q (z.heap.objs.size + 1) z.heap.objs.size (J.hok.fresh (Nat.le_succ _)) (J.hok.fresh (Nat.le_refl _)) (Nat.ne_of_lt (Nat.lt_succ_self _))
  rw [List.append_nil] at q2
  have J2 := Inv.made (C := C) J
  have rv2 : Vals (V.ref (z.heap.objs.size + 1) :: xs) (Value.ref (z.heap.objs.size + 1) :: ws) := .cons rfl rv
  have ll : (Value.ref (z.heap.objs.size + 1) :: ws).length = ps.length := rv2.length.symm.trans (F.len _ _ _ _ q2)
  have bd2 := bd _ (Value.ref (z.heap.objs.size + 1) :: ws) J2.kIn (by rw [List.append_nil]; exact ll)
  rw [List.append_nil] at bd2
  have run := F.run _ X.stack _ _ ⟨Value.ref (z.heap.objs.size + 1) :: ws, []⟩ (Value.ref (z.heap.objs.size + 1) :: ws) _ _ (E τ) (hr.make C ws []) (J2.env0.make C ws []) bd2 rv2 q2
  apply wpAny_call (make_map (f := f) J.kIn M.makes M.init (beq_iff_eq.mp M.fn) (codeAny_mono run ?_))
  intro out z2 done
  match out, done with
  | .error er, done => exact ex τ pn _ _ er z2 J2 done
  | .ok (.ret u), done =>
    obtain ⟨v, G2, J3, rv3, ev, q3⟩ := J2.after done
    subst ev
    exact ⟨rv3, ⟨V.ref (z.heap.objs.size + 1), G2, J3, rfl, q3⟩⟩
theorem pe_makeS (M : Mk X.K C f) (F : FnOk X.prog X.w X.K X.mg X.base CX k f fd ps sp) (hr : Room (k + 1) X.A) (gl : Gl X x) (at_ : X.mg x = some (.ref C)) (bd : Binds X.K fd ps []) (ex : ∀ σ, PassesAt CX X σ (E σ))
    (as_ : PA X (e :: es) t) (ndb : (x == ("__debug__" : Str)) = false := by decide) (st : starEach (e :: es) X.env = (false, eval e X.env) :: starEach es X.env := by rfl) (np : (backTo pos (starEach es X.env)).any (·.1) = false := by rfl) :
    PE X (.Call (.Name x p) (e :: es) [] pos) (tMakeS C sp E t) :=
  ⟨fun pn z τ G R J q => wpAny_Call_Name_kw (ld_glob J gl at_
    (PySem.W.callWith_K (h₀ := X.base) J.ok.mod.kin M.kp (thn (as_.run pos pn z τ G _ J q) fun _ _ ⟨_, _, J2, rv, q2⟩ => ⟨J2.kIn, made_s M F hr bd ex J2 rv q2⟩) st np) ndb)⟩
end
theorem r_makeS {C : Addr} {sp : Sp} {E : L2.St → XK} {t : TA} {σ : L2.St} {H : Hp} {Q : VK} (q : t σ H (MakeK C sp [] (E σ) Q)) : tMakeS C sp E t σ H Q := q
theorem kit_ref {K : PySem.W.Frag} {D C : Addr} {b : Bool} (hd : PySem.W.hasDictIn K C = true) (ht : PySem.W.typeIn K (.ref C) = some (.type "type")) (self : PySem.W.subIn K (.ref D) (.ref D) = some true) (h : PySem.W.subIn K (.ref D) (.ref C) = some b) : PySem.W.kitOne K (.ref D) (.ref C) = some b := by
  unfold PySem.W.kitOne
  by_cases e : D = C
  · subst e
    rw [self] at h
    rw [if_pos (by simp)]
    exact h
  · rw [if_neg (by simpa using e)]
    obtain ⟨cd, hc, _⟩ := PySem.W.any_some hd
    have e2 : ((PySem.W.clsIn K C).isSome && PySem.W.typeIn K (.ref C) == some (.type "type")) = true := by rw [hc, ht]; rfl
    show (if ((PySem.W.clsIn K C).isSome && PySem.W.typeIn K (.ref C) == some (.type "type")) = true then PySem.W.subIn K (.ref D) (.ref C) else none) = some b
    rw [if_pos e2]
    exact h
theorem kit_VE {K : PySem.W.Frag} {D : Addr} (h : PySem.W.subIn K (.ref D) (.type "ValueError") = some true) : PySem.W.kitOne K (.ref D) (.type "ValueError") = some true := by
  unfold PySem.W.kitOne
  rw [if_neg (by simp)]
  show (if PySem.W.kitMeta "ValueError" = true then PySem.W.subIn K (.ref D) (.type "ValueError") else none) = some true
  rw [if_pos (by decide +kernel)]
  exact h
theorem r_isBl {H : Hp} {Q : VK} {a b : Bool} (q : Q (.bl (decide (a = b))) H) : rIsB (.bl a) (.bl b) H Q := ⟨a, b, rfl, rfl, q⟩
theorem r_notBl {H : Hp} {Q : VK} {a b : Bool} (q : Q (.bl (!decide (a = b))) H) : rNotB (.bl a) (.bl b) H Q := ⟨a, b, rfl, rfl, q⟩
end Sl

set_option linter.all false
set_option maxRecDepth 100000
set_option maxHeartbeats 2000000
namespace Zs
open PySem PySem.Spec PyProof.Rows L2
/-! ### zip of a text (of plain signs) and a tuple or a list -/
abbrev ASC : String := "str_ascii_iterator"
/-- the second one: a tuple (true) or a list (false) -/
def St2 : Bool → Heap → Addr → Addr → Nat → Prop
  | true, h, it, b, i => h.IsTupleIter it b i
  | false, h, it, b, i => h.IsListIter it b i
def Sq2 : Bool → Heap → Addr → Array Value → Prop
  | true, h, b, ys => h.IsTuple b ys
  | false, h, b, ys => h.IsList b ys
section
variable {prog : Program} {w : World} {A : Around} {E : Value → Shared → Prop} {s : Shared} {kd : Bool} {it b c : Addr} {i : Nat} {ys : Array Value} {y : Value} {h h' : Heap}
theorem st2_ext (q : St2 kd h it b i) (x : Heap.ExtBut c h h') (n : it ≠ c) : St2 kd h' it b i := by
  cases kd
  · exact Heap.IsListIter.extBut q x n
  · exact Heap.IsTupleIter.extBut q x n
theorem sq2_ext (q : Sq2 kd h b ys) (x : Heap.ExtBut c h h') (n : b ≠ c) : Sq2 kd h' b ys := by
  cases kd
  · exact Heap.IsList.extBut q x n
  · exact Heap.IsTuple.extBut q x n
theorem st2_at (q : St2 kd h it b i) (f : ∀ o, h.get? it = some o → h'.get? it = some o) : St2 kd h' it b i := by
  cases kd
  · exact Heap.IsListIter.at q f
  · exact Heap.IsTupleIter.at q f
theorem st2_obj (q : St2 kd h it b i) : ∃ o, h.get? it = some o ∧ (∀ v, o.data ≠ .cell v) := by
  cases kd
  · obtain ⟨o, e, _, d⟩ := q
    exact ⟨o, e, fun v z => by rw [d] at z; cases z⟩
  · obtain ⟨o, e, _, d⟩ := q
    exact ⟨o, e, fun v z => by rw [d] at z; cases z⟩
theorem st2_item {Q : Value → Shared → Prop} (st : St2 kd s.heap it b i) (sq : Sq2 kd s.heap b ys) (hy : ys[i]? = some y) (q : ∀ h', St2 kd h' it b (i + 1) → Heap.SameBut it s.heap h' → Q y { s with heap := h' }) : wpAny (model prog w) A (Builtin.SmallTypes.nextOf (.ref it)) Q E s := by
  cases kd
  · exact wpAny_nextOf_list_item st sq hy q
  · exact RZ.nextOf_tuple_item st sq hy q
theorem st2_end {Q : Value → Shared → Prop} (nh : A.handled = none) (st : St2 kd s.heap it b i) (sq : Sq2 kd s.heap b ys) (hy : ys[i]? = none) (q : ∀ h' e, Heap.ExtBut it s.heap h' → (∃ o, h'.get? e = some o ∧ o.cls = .type "StopIteration") → E (.ref e) { s with heap := h' }) : wpAny (model prog w) A (Builtin.SmallTypes.nextOf (.ref it)) Q E s := by
  cases kd
  · exact wpAny_nextOf_list_end nh st sq hy q
  · exact RZ.nextOf_tuple_end nh st sq hy q
theorem str_ext {x : Str} {t : Tok} (q : h.IsStrIter it ASC x t i) (r : Heap.ExtBut c h h') (n : it ≠ c) : h'.IsStrIter it ASC x t i := let ⟨o, e, k⟩ := q; ⟨o, r _ _ n e, k⟩
theorem str_at {x : Str} {t : Tok} (q : h.IsStrIter it ASC x t i) (f : ∀ o, h.get? it = some o → h'.get? it = some o) : h'.IsStrIter it ASC x t i := let ⟨o, e, k⟩ := q; ⟨o, f _ e, k⟩
variable {Z pI pO j1 j2 : Addr} {k : Nat} {x : Str} {t : Tok} {n : Nat} {u v : Value}
theorem next_item {Q : Value → Shared → Prop} (D : ZipApart Z pI pO j1 j2 b b) (eZ : IsZip s.heap Z pI pO .none) (eI : IsPair s.heap pI (.ref j1) (.ref j2)) (eO : IsPair s.heap pO u v) (a1 : s.heap.IsStrIter j1 ASC x t k) (a2 : St2 kd s.heap j2 b k) (sq : Sq2 kd s.heap b ys) (hc : x.cps[k]? = some n) (hy : ys[k]? = some y)
    (q : ∀ h' tk u', IsZip h' Z pI pO (rawInt s.heap.objs.size) → IsPair h' pO (.str ⟨#[n]⟩ u') y → h'.IsStrIter j1 ASC x t (k + 1) → St2 kd h' j2 b (k + 1) → IsPair h' s.heap.objs.size (.str ⟨#[n]⟩ u') y → h'.objs.size = s.heap.objs.size + 1 →
      (∀ c o, c ≠ Z → c ≠ pO → c ≠ j1 → c ≠ j2 → s.heap.get? c = some o → h'.get? c = some o) → Q (.ref s.heap.objs.size) { s with heap := h', toks := tk }) :
    wpAny (model prog w) A (Builtin.«zip.__next__» ⟨[.ref Z], []⟩) (fun fin s' => ∃ v, fin = .done (.ret v) ∧ Q v s') E s := by
  show wpAny _ _ (field (.ref Z) 2 >>= _) _ _ _
  refine wpAny_bind (wpAny_field eZ rfl (x := .bool false) rfl ?_); show wpAny _ _ (field (.ref Z) 3 >>= _) _ _ _
  refine wpAny_bind (wpAny_field eZ rfl (x := .ref pI) rfl ?_); refine wpAny_bind (wpAny_seqItems eI rfl ?_)
  show wpAny _ _ (Builtin.SmallTypes.ownedTupleIsFree (.ref Z) >>= _) _ _ _
  refine wpAny_bind ?_; unfold Builtin.SmallTypes.ownedTupleIsFree
  refine wpAny_bind (wpAny_field eZ rfl (x := .none) rfl (wpAny_pure ?_)); simp only [if_true]
  refine wpAny_bind (wpAny_rule ?_); refine wpAny_bind (wpAny_field eZ rfl (x := .ref pO) rfl ?_)
  refine wpAny_bind (wpAny_setField_rec eZ (by simp) fun g1 eZ1 r1 => ?_)
  replace eZ1 : IsZip g1 Z pI pO .ellipsis := eZ1
  refine wpAny_bind ?_; simp only [List.zipIdx_nil, List.zipIdx_cons, List.forIn_nil, List.forIn_cons]
  refine wpAny_bind (wpAny_bind (wpAny_onRaise ?_)); show wpAny _ _ (Builtin.SmallTypes.nextOf (.ref j1) >>= _) _ _ _
  refine wpAny_bind (wpAny_nextOf_ascii_item (str_ext a1 r1.extBut D.i1z) hc fun g2 b1 r2 => wpAny_pure ?_)
  have eO2 : IsPair g2 pO u v := r2.extBut _ _ D.TOi1 (r1.extBut _ _ D.TOz eO)
  refine wpAny_bind (wpAny_seqItems eO2 rfl ?_); refine wpAny_bind (wpAny_updateSeq_pair eO2 fun g3 eO3 r3 => ?_)
  replace eO3 : IsPair g3 pO (.str ⟨#[n]⟩ s.toks) v := eO3
  refine wpAny_bind (wpAny_letGo (wpAny_pure ?_)); refine wpAny_bind (wpAny_bind (wpAny_onRaise ?_))
  show wpAny _ _ (Builtin.SmallTypes.nextOf (.ref j2) >>= _) _ _ _
  refine wpAny_bind (st2_item (st2_ext (st2_ext (st2_ext a2 r1.extBut D.i2z) r2.extBut D.i12.symm) r3.extBut D.TOi2.symm) (sq2_ext (sq2_ext (sq2_ext sq r1.extBut D.l2z) r2.extBut D.l2i1) r3.extBut D.l2TO) hy fun g4 b2 r4 => wpAny_pure ?_)
  have eO4 : IsPair g4 pO (.str ⟨#[n]⟩ s.toks) v := r4.extBut _ _ D.TOi2 eO3
  refine wpAny_bind (wpAny_seqItems eO4 rfl ?_); refine wpAny_bind (wpAny_updateSeq_pair eO4 fun g5 eO5 r5 => ?_)
  replace eO5 : IsPair g5 pO (.str ⟨#[n]⟩ s.toks) y := eO5
  refine wpAny_bind (wpAny_letGo (wpAny_pure (wpAny_pure ?_))); refine wpAny_bind (wpAny_seqItems eO5 rfl ?_); refine wpAny_bind (wpAny_newTuple ?_)
  have zs : g5.objs.size = s.heap.objs.size := by rw [r5.1, r4.1, r3.1, r2.1, r1.1]
  have eZ5 : IsZip g5 Z pI pO .ellipsis := r5.extBut _ _ D.TOz.symm (r4.extBut _ _ D.i2z.symm (r3.extBut _ _ D.TOz.symm (r2.extBut _ _ D.i1z.symm eZ1)))
  have up5 : ∀ c o, c ≠ Z → c ≠ pO → c ≠ j1 → c ≠ j2 → s.heap.get? c = some o → g5.get? c = some o := fun c o n1 n2 n3 n4 e => r5.extBut _ _ n2 (r4.extBut _ _ n4 (r3.extBut _ _ n2 (r2.extBut _ _ n3 (r1.extBut _ _ n1 e))))
  have c1 : g5.IsStrIter j1 ASC x t (k + 1) := str_ext (str_ext (str_ext b1 r3.extBut D.TOi1.symm) r4.extBut D.i12) r5.extBut D.TOi1.symm
  have c2 : St2 kd g5 j2 b (k + 1) := st2_ext b2 r5.extBut D.TOi2.symm
  have ltZ : Z < g5.objs.size := Heap.lt_size eZ5
  show wpAny _ _ (Builtin.SmallTypes.ownedTupleHandOut (.ref Z) (.ref g5.objs.size) >>= _) _ _ _
  refine wpAny_bind ?_; unfold Builtin.SmallTypes.ownedTupleHandOut
  have eZ6 : IsZip (g5.push { cls := .type "tuple", data := .seq #[.str ⟨#[n]⟩ s.toks, y] }) Z pI pO .ellipsis := Heap.get?_push_of_some _ eZ5
  refine wpAny_bind (wpAny_setField_rec eZ6 (by simp) fun g7 eZ7 r7 => ?_)
  replace eZ7 : IsZip g7 Z pI pO (rawInt g5.objs.size) := eZ7
  refine wpAny_setField_rec eZ7 (by simp) fun g8 eZ8 r8 => ?_
  replace eZ8 : IsZip g8 Z pI pO (rawInt g5.objs.size) := eZ8
  have up : ∀ c o, c ≠ Z → g5.get? c = some o → g8.get? c = some o := fun c o n1 e => r8.extBut _ _ n1 (r7.extBut _ _ n1 (Heap.get?_push_of_some _ e))
  have eT : IsPair g8 g5.objs.size (.str ⟨#[n]⟩ s.toks) y := r8.extBut _ _ (Nat.ne_of_gt ltZ) (r7.extBut _ _ (Nat.ne_of_gt ltZ) (Heap.get?_push_size _ rfl))
  have sz8 : g8.objs.size = g5.objs.size + 1 := by rw [r8.1, r7.1, Heap.size_push]
  rw [zs] at eZ8 eT sz8
  refine wpAny_pure ⟨_, rfl, ?_⟩
  show Q (.ref g5.objs.size) _
  rw [zs]
  exact q g8 _ s.toks eZ8 (up _ _ D.TOz eO5) (str_at c1 fun o e => up _ o D.i1z e) (st2_at c2 fun o e => up _ o D.i2z e) eT sz8 fun c o n1 n2 n3 n4 e => up c o n1 (up5 c o n1 n2 n3 n4 e)
theorem next_end {Q : Fin → Shared → Prop} (nh : A.handled = none) (D : ZipApart Z pI pO j1 j2 b b) (eZ : IsZip s.heap Z pI pO .none) (eI : IsPair s.heap pI (.ref j1) (.ref j2)) (eO : IsPair s.heap pO u v) (a1 : s.heap.IsStrIter j1 ASC x t k) (a2 : St2 kd s.heap j2 b k) (sq : Sq2 kd s.heap b ys) (hend : x.cps[k]? = none ∨ ys[k]? = none)
    (q : ∀ h' tk e, (∀ c o, c ≠ Z → c ≠ pO → c ≠ j1 → c ≠ j2 → s.heap.get? c = some o → h'.get? c = some o) → (∃ o, h'.get? e = some o ∧ o.cls = .type "StopIteration") → E (.ref e) { s with heap := h', toks := tk }) :
    wpAny (model prog w) A (Builtin.«zip.__next__» ⟨[.ref Z], []⟩) Q E s := by
  show wpAny _ _ (field (.ref Z) 2 >>= _) _ _ _
  refine wpAny_bind (wpAny_field eZ rfl (x := .bool false) rfl ?_); show wpAny _ _ (field (.ref Z) 3 >>= _) _ _ _
  refine wpAny_bind (wpAny_field eZ rfl (x := .ref pI) rfl ?_); refine wpAny_bind (wpAny_seqItems eI rfl ?_)
  show wpAny _ _ (Builtin.SmallTypes.ownedTupleIsFree (.ref Z) >>= _) _ _ _
  refine wpAny_bind ?_; unfold Builtin.SmallTypes.ownedTupleIsFree
  refine wpAny_bind (wpAny_field eZ rfl (x := .none) rfl (wpAny_pure ?_)); simp only [if_true]
  refine wpAny_bind (wpAny_rule ?_); refine wpAny_bind (wpAny_field eZ rfl (x := .ref pO) rfl ?_)
  refine wpAny_bind (wpAny_setField_rec eZ (by simp) fun g1 eZ1 r1 => ?_)
  replace eZ1 : IsZip g1 Z pI pO .ellipsis := eZ1
  refine wpAny_bind ?_; simp only [List.zipIdx_nil, List.zipIdx_cons, List.forIn_nil, List.forIn_cons]
  refine wpAny_bind (wpAny_bind (wpAny_onRaise ?_)); show wpAny _ _ (Builtin.SmallTypes.nextOf (.ref j1) >>= _) _ _ _
  cases hc : x.cps[k]? with
  | none =>
    refine wpAny_bind (wpAny_nextOf_ascii_end nh (str_ext a1 r1.extBut D.i1z) hc fun g2 e r2 he => ?_)
    obtain ⟨oe, he1, he2⟩ := he
    have eZ2 : IsZip g2 Z pI pO .ellipsis := r2 _ _ D.i1z.symm eZ1
    have ne : e ≠ Z := fun z => by subst z; rw [eZ2] at he1; cases he1; simp at he2
    refine wpAny_setField_rec eZ2 (by simp) fun g3 _ r3 => q g3 _ e (fun c o n1 _ n3 _ z => r3.extBut _ _ n1 (r2 _ _ n3 (r1.extBut _ _ n1 z))) ⟨oe, r3.extBut _ _ ne he1, he2⟩
  | some n =>
    have hy : ys[k]? = none := hend.elim (fun z => by rw [hc] at z; cases z) id
    refine wpAny_bind (wpAny_nextOf_ascii_item (str_ext a1 r1.extBut D.i1z) hc fun g2 b1 r2 => wpAny_pure ?_)
    have eO2 : IsPair g2 pO u v := r2.extBut _ _ D.TOi1 (r1.extBut _ _ D.TOz eO)
    refine wpAny_bind (wpAny_seqItems eO2 rfl ?_); refine wpAny_bind (wpAny_updateSeq_pair eO2 fun g3 eO3 r3 => ?_)
    refine wpAny_bind (wpAny_letGo (wpAny_pure ?_)); refine wpAny_bind (wpAny_bind (wpAny_onRaise ?_))
    show wpAny _ _ (Builtin.SmallTypes.nextOf (.ref j2) >>= _) _ _ _
    refine wpAny_bind (st2_end nh (st2_ext (st2_ext (st2_ext a2 r1.extBut D.i2z) r2.extBut D.i12.symm) r3.extBut D.TOi2.symm) (sq2_ext (sq2_ext (sq2_ext sq r1.extBut D.l2z) r2.extBut D.l2i1) r3.extBut D.l2TO) hy fun g4 e r4 he => ?_)
    obtain ⟨oe, he1, he2⟩ := he
    have eZ4 : IsZip g4 Z pI pO .ellipsis := r4 _ _ D.i2z.symm (r3.extBut _ _ D.TOz.symm (r2.extBut _ _ D.i1z.symm eZ1))
    have ne : e ≠ Z := fun z => by subst z; rw [eZ4] at he1; cases he1; simp at he2
    refine wpAny_setField_rec eZ4 (by simp) fun g5 _ r5 => q g5 _ e (fun c o n1 n2 n3 n4 z => r5.extBut _ _ n1 (r4 _ _ n4 (r3.extBut _ _ n2 (r2.extBut _ _ n3 (r1.extBut _ _ n1 z))))) ⟨oe, r5.extBut _ _ ne he1, he2⟩
theorem pyNext_item {Q : Option Value → Shared → Prop} (D : ZipApart Z pI pO j1 j2 b b) (eZ : IsZip s.heap Z pI pO .none) (eI : IsPair s.heap pI (.ref j1) (.ref j2)) (eO : IsPair s.heap pO u v) (a1 : s.heap.IsStrIter j1 ASC x t k) (a2 : St2 kd s.heap j2 b k) (sq : Sq2 kd s.heap b ys) (hc : x.cps[k]? = some n) (hy : ys[k]? = some y)
    (q : ∀ h' tk u', IsZip h' Z pI pO (rawInt s.heap.objs.size) → IsPair h' pO (.str ⟨#[n]⟩ u') y → h'.IsStrIter j1 ASC x t (k + 1) → St2 kd h' j2 b (k + 1) → IsPair h' s.heap.objs.size (.str ⟨#[n]⟩ u') y → h'.objs.size = s.heap.objs.size + 1 →
      (∀ c o, c ≠ Z → c ≠ pO → c ≠ j1 → c ≠ j2 → s.heap.get? c = some o → h'.get? c = some o) → Q (some (.ref s.heap.objs.size)) { s with heap := h', toks := tk }) : wpAny (model prog w) A (pyNext (.ref Z)) Q E s := by
  have ty : s.TypeIs (.ref Z) "zip" := ⟨_, eZ, rfl⟩
  unfold pyNext
  exact wpAny_bind (wpAny_attempt (wpAny_callSpecial?_slot (name := Str.ofString "__next__") ty F.slot_zip_next (wpAny_call_entry F.slot_zip_next ty F.entry_zip_next (next_item D eZ eI eO a1 a2 sq hc hy fun h' tk u' z1 z2 z3 z4 z5 z6 z7 => wpAny_pure (q h' tk u' z1 z2 z3 z4 z5 z6 z7)) (F.args_zip_next_1 _))))
theorem pyNext_end {Q : Option Value → Shared → Prop} (nh : A.handled = none) (D : ZipApart Z pI pO j1 j2 b b) (eZ : IsZip s.heap Z pI pO .none) (eI : IsPair s.heap pI (.ref j1) (.ref j2)) (eO : IsPair s.heap pO u v) (a1 : s.heap.IsStrIter j1 ASC x t k) (a2 : St2 kd s.heap j2 b k) (sq : Sq2 kd s.heap b ys) (hend : x.cps[k]? = none ∨ ys[k]? = none)
    (q : ∀ h' tk, (∀ c o, c ≠ Z → c ≠ pO → c ≠ j1 → c ≠ j2 → s.heap.get? c = some o → h'.get? c = some o) → Q none { s with heap := h', toks := tk }) : wpAny (model prog w) A (pyNext (.ref Z)) Q E s := by
  have ty : s.TypeIs (.ref Z) "zip" := ⟨_, eZ, rfl⟩
  unfold pyNext
  refine wpAny_bind (wpAny_attempt (wpAny_callSpecial?_slot (name := Str.ofString "__next__") ty F.slot_zip_next (wpAny_call_entry F.slot_zip_next ty F.entry_zip_next (next_end nh D eZ eI eO a1 a2 sq hend fun h' tk e hk he => ?_) (F.args_zip_next_1 _))))
  obtain ⟨o, ho, hc⟩ := he
  exact wpAny_bind (wpAny_isInstance (T := "StopIteration") (b := true) ⟨o, ho, hc⟩ isSubtype_stop (wpAny_pure (q _ _ hk)))
end
/-! ### it is made -/
abbrev secTy : Bool → String
  | true => "tuple_iterator"
  | false => "list_iterator"
abbrev hA (h : Heap) (x : Str) (t : Tok) : Heap := h.push { cls := .type "str_ascii_iterator", data := .fields #[.str x t, .int 0 0] }
abbrev hB (kd : Bool) (h : Heap) (x : Str) (t : Tok) (b : Addr) : Heap := (hA h x t).push { cls := .type (secTy kd), data := .fields #[.ref b, .int 0 0] }
abbrev hC (kd : Bool) (h : Heap) (x : Str) (t : Tok) (b : Addr) : Heap := (hB kd h x t b).push { cls := .type "tuple", data := .seq #[.ref h.objs.size, .ref (hA h x t).objs.size] }
abbrev hD (kd : Bool) (h : Heap) (x : Str) (t : Tok) (b : Addr) : Heap := (hC kd h x t b).push { cls := .type "tuple", data := .seq #[.none, .none] }
abbrev hE (kd : Bool) (h : Heap) (x : Str) (t : Tok) (b : Addr) : Heap := (hD kd h x t b).push { cls := .type "zip", data := .fields #[.none, .bool false, .bool false, .ref (hB kd h x t b).objs.size, .ref (hC kd h x t b).objs.size] }
theorem meets_new (kd : Bool) (x : Str) (t : Tok) (b : Addr) (ys : Array Value) (ha : x.cps.all (· < 128) = true) :
    Meets (Builtin.«zip.__new__» ⟨[.type "zip", .str x t, .ref b], []⟩) (fun _ R s => Sq2 kd s.heap b ys ∧ R (.ok (.ret (.ref (hD kd s.heap x t b).objs.size))) { s with heap := hE kd s.heap x t b }) :=
  .of_wp fun prog w A R s h => by
    obtain ⟨hp, g, d, tk, os⟩ := s
    obtain ⟨sq, h⟩ := h
    have hsub := sub_zip
    cases kd with
    | true =>
      have L2 : Heap.IsTuple (Shared.heap ⟨hp.push { cls := .type "str_ascii_iterator", data := .fields #[.str x t, .int 0 0] }, g, d, tk, os⟩) b ys := Heap.IsTuple.push sq _
      wp_walk using wpAny_pyIter_ascii ha, wpAny_pyIter_tuple L2
      exact ⟨_, rfl, h⟩
    | false =>
      have L2 : Heap.IsList (Shared.heap ⟨hp.push { cls := .type "str_ascii_iterator", data := .fields #[.str x t, .int 0 0] }, g, d, tk, os⟩) b ys := Heap.IsList.push sq _
      wp_walk using wpAny_pyIter_ascii ha, wpAny_pyIter_list L2
      exact ⟨_, rfl, h⟩
section
variable {prog : Program} {w : World} {A : Around} {E : Value → Shared → Prop} {s : Shared}
theorem call_zipS {kd : Bool} {x : Str} {t : Tok} {b : Addr} {ys : Array Value} {Q : Value → Shared → Prop} (ha : x.cps.all (· < 128) = true) (sq : Sq2 kd s.heap b ys)
    (q : ∀ h', IsZip h' (s.heap.objs.size + 4) (s.heap.objs.size + 2) (s.heap.objs.size + 3) .none → IsPair h' (s.heap.objs.size + 2) (.ref s.heap.objs.size) (.ref (s.heap.objs.size + 1)) → IsPair h' (s.heap.objs.size + 3) .none .none →
      h'.IsStrIter s.heap.objs.size ASC x t 0 → St2 kd h' (s.heap.objs.size + 1) b 0 → h'.objs.size = s.heap.objs.size + 5 → (∀ c o, s.heap.get? c = some o → h'.get? c = some o) → Q (.ref (s.heap.objs.size + 4)) { s with heap := h' }) :
    wpAny (model prog w) A (call (.type "zip") [.str x t, .ref b]) Q E s := by
  refine callType_new F.called_zip (by decide) (F.typeCall_zip_2 _ _) (F.newCall_zip_2 _ _) (fun obj => F.args_object_init_3 obj _ _) F.entry_zip_new (meets_new kd x t b ys ha) ⟨sq, ?_⟩
  have n1 : (hA s.heap x t).objs.size = s.heap.objs.size + 1 := Heap.size_push ..
  have n2 : (hB kd s.heap x t b).objs.size = s.heap.objs.size + 2 := by rw [Heap.size_push, n1]
  have n3 : (hC kd s.heap x t b).objs.size = s.heap.objs.size + 3 := by rw [Heap.size_push, n2]
  have n4 : (hD kd s.heap x t b).objs.size = s.heap.objs.size + 4 := by rw [Heap.size_push, n3]
  have n5 : (hE kd s.heap x t b).objs.size = s.heap.objs.size + 5 := by rw [Heap.size_push, n4]
  have e5 : (hE kd s.heap x t b).get? (hD kd s.heap x t b).objs.size = some _ := Heap.get?_push_size _ rfl
  have e4 : (hE kd s.heap x t b).get? (hC kd s.heap x t b).objs.size = some _ := Heap.get?_push_of_some _ (Heap.get?_push_size _ rfl)
  have e3 : (hE kd s.heap x t b).get? (hB kd s.heap x t b).objs.size = some _ := Heap.get?_push_of_some _ (Heap.get?_push_of_some _ (Heap.get?_push_size _ rfl))
  have e2 : (hE kd s.heap x t b).get? (hA s.heap x t).objs.size = some _ := Heap.get?_push_of_some _ (Heap.get?_push_of_some _ (Heap.get?_push_of_some _ (Heap.get?_push_size _ rfl)))
  have e1 : (hE kd s.heap x t b).get? s.heap.objs.size = some _ := Heap.get?_push_of_some _ (Heap.get?_push_of_some _ (Heap.get?_push_of_some _ (Heap.get?_push_of_some _ (Heap.get?_push_size _ rfl))))
  show _ ∧ _
  rw [n2, n3, n4] at e5
  rw [n1, n2] at e3
  rw [n3] at e4
  rw [n1] at e2
  rw [n4]
  refine ⟨⟨_, e5, rfl⟩, q _ e5 e3 e4 ⟨_, e1, rfl, rfl⟩ ?_ n5 fun c o z => Heap.get?_push_of_some _ (Heap.get?_push_of_some _ (Heap.get?_push_of_some _ (Heap.get?_push_of_some _ (Heap.get?_push_of_some _ z))))⟩
  cases kd
  · exact ⟨_, e2, rfl, rfl⟩
  · exact ⟨_, e2, rfl, rfl⟩
end
/-! ### as something that is walked -/
def SqV : Bool → PySem.W.Frag → Hp → Addr → List V → Prop
  | true, K, H, b, ys => SqT K H b ys
  | false, K, H, b, ys => SqL K H b ys
def Izs (kd : Bool) (K : PySem.W.Frag) (x : Str) (b : Addr) : It :=
  ⟨fun i H => ∃ (ys : List V) (c : Nat) (y : V), SqV kd K H b ys ∧ x.cps[i]? = some c ∧ ys[i]? = some y,
    fun i H v H' => ∃ T c y, v = .ref T ∧ H T = none ∧ H' = upd H T (.tup [.str ⟨#[c]⟩, y]) ∧ x.cps[i]? = some c ∧ ∀ ys, SqV kd K H b ys → ys[i]? = some y,
    fun i H => ∃ ys : List V, SqV kd K H b ys ∧ (x.cps.size ≤ i ∨ ys.length ≤ i)⟩
theorem sqv_at {X : Cx} {pins : List (Addr × Obj)} {σ : L2.St} {H : Hp} {s : Shared} {kd : Bool} {b : Addr} {ys : List V} (I : Inv X pins σ H s) (q : SqV kd X.K H b ys) : ∃ its, Vals ys its ∧ Sq2 kd s.heap b its.toArray ∧ b < s.heap.objs.size := by
  cases kd
  · obtain ⟨its, rv, p, _⟩ := I.list q
    exact ⟨its, rv, p.isList, p.lt⟩
  · obtain ⟨its, rv, p, _⟩ := I.tuple q
    have p2 : s.heap.IsTuple b its.toArray := p
    obtain ⟨o, e, _⟩ := id p
    exact ⟨its, rv, p2, Heap.lt_size e⟩
theorem sqv_inj {X : Cx} {pins : List (Addr × Obj)} {σ : L2.St} {H : Hp} {s : Shared} {kd : Bool} {b : Addr} {ys zs : List V} (I : Inv X pins σ H s) (q : SqV kd X.K H b ys) (r : SqV kd X.K H b zs) : ys = zs := by
  cases kd
  · exact I.list_inj q r
  · exact I.tuple_inj q r
theorem turn_zs {P : Program} {w : World} {K : PySem.W.Frag} {elts : List Expr} {kk : Nat} {tpos : Pos} {kd : Bool} {x : Str} {t : Tok} {b Z pI pO j1 j2 : Addr} (D : ZipApart Z pI pO j1 j2 b b) :
    Turn P w K (.Tuple elts kk tpos) (Izs kd K x b) [Z, pI, pO, j1, j2] Z (fun i h => IsZip h Z pI pO .none ∧ IsPair h pI (.ref j1) (.ref j2) ∧ (∃ u v, IsPair h pO u v) ∧ h.IsStrIter j1 ASC x t i ∧ St2 kd h j2 b i) where
  mem := by simp
  obj := fun i h st c hc => by
    obtain ⟨eZ, eI, ⟨u, v, eO⟩, ⟨o1, e1, _, d1⟩, a2⟩ := st
    obtain ⟨o2, e2, f2⟩ := st2_obj a2
    have e' : c = Z ∨ c = pI ∨ c = pO ∨ c = j1 ∨ c = j2 := by simpa using hc
    rcases e' with z | z | z | z | z
    · rw [z]; exact ⟨_, eZ, fun v q => nomatch q⟩
    · rw [z]; exact ⟨_, eI, fun v q => nomatch q⟩
    · rw [z]; exact ⟨_, eO, fun v q => nomatch q⟩
    · rw [z]; exact ⟨o1, e1, fun v q => by rw [d1] at q; cases q⟩
    · rw [z]; exact ⟨o2, e2, f2⟩
  keep := fun i h h' st k => by
    obtain ⟨eZ, eI, ⟨u, v, eO⟩, a1, a2⟩ := st
    exact ⟨k Z (by simp) _ eZ, k pI (by simp) _ eI, ⟨u, v, k pO (by simp) _ eO⟩, str_at a1 fun o q => k j1 (by simp) o q, st2_at a2 fun o q => k j2 (by simp) o q⟩
  item := by
    intro X hP hw hK hc i pins s σ H E I hf st hg
    subst hP hw hK
    obtain ⟨eZ, eI, ⟨u0, v0, eO⟩, a1, a2⟩ := st
    obtain ⟨ys, c, y, hq, hcx, hy⟩ := hg
    obtain ⟨its, rv, sq, _⟩ := sqv_at I hq
    obtain ⟨u2, hu2, ru2⟩ := rv.get hy
    have ltZ : Z < s.heap.objs.size := Heap.lt_size eZ
    refine pyNext_item D eZ eI eO a1 a2 sq hcx (y := u2) (by simpa using hu2) fun h' tk u' z' TO' a1' a2' hT hsz hk => ?_
    refine ⟨_, rfl, wpAny_letOwnedTupleGo_zip (s := { s with heap := h', toks := tk }) z' fun h'' z'' sb => ?_⟩
    have hT2 : h''.get? s.heap.objs.size = some { cls := .type "tuple", data := .seq #[.str ⟨#[c]⟩ u', u2] } := (sb.2 _ (Nat.ne_of_gt ltZ)).trans hT
    have new : ObjOk X.prog X.w (upd H s.heap.objs.size (.tup [.str ⟨#[c]⟩, y])) h'' s.heap.objs.size (.tup [.str ⟨#[c]⟩, y]) :=
      ⟨by show 2 ≤ sizeLine; decide, [.str ⟨#[c]⟩ u', u2], .cons ⟨u', rfl⟩ (.cons ru2 .nil), ⟨_, hT2, rfl, _, rfl⟩⟩
    have I1 : Inv X pins σ (upd H s.heap.objs.size (.tup [.str ⟨#[c]⟩, y])) { s with heap := h'', toks := tk } :=
      I.turnedNew (t' := tk) (ch := [Z, pI, pO, j1, j2]) (fun c o hb q => (sb.2 c (fun q' => hb (by simp [q']))).trans (hk c o (fun q' => hb (by simp [q'])) (fun q' => hb (by simp [q'])) (fun q' => hb (by simp [q'])) (fun q' => hb (by simp [q'])) q)) hf (Nat.le_refl _) new
    refine ⟨.ref s.heap.objs.size, _, I1, rfl, ⟨_, c, y, rfl, I.hok.fresh (Nat.le_refl _), rfl, hcx, fun l hl => by rw [sqv_inj I hl hq]; exact hy⟩, ⟨z'', ?_, ⟨.str ⟨#[c]⟩ u', u2, ?_⟩, ?_, ?_⟩, fun c hcm => ?_⟩
    · exact (sb.2 _ D.TIz).trans (hk _ _ D.TIz D.TITO D.TIi1 D.TIi2 eI)
    · exact (sb.2 _ D.TOz).trans TO'
    · exact str_at a1' fun o q => (sb.2 _ D.i1z).trans q
    · exact st2_at a2' fun o q => (sb.2 _ D.i2z).trans q
    · have hlt : c < s.heap.objs.size := by
        have e' : c = Z ∨ c = pI ∨ c = pO ∨ c = j1 ∨ c = j2 := by simpa using hcm
        rcases e' with q | q | q | q | q
        · rw [q]; exact ltZ
        · rw [q]; exact Heap.lt_size eI
        · rw [q]; exact Heap.lt_size eO
        · rw [q]; obtain ⟨_, e1, _⟩ := a1; exact Heap.lt_size e1
        · rw [q]; obtain ⟨_, e1, _⟩ := st2_obj a2; exact Heap.lt_size e1
      rw [upd_ne (Nat.ne_of_lt hlt)]
      exact (hf c hcm).1
  done := by
    intro X hP hw hK hc i pins s σ H E I hf st hg
    subst hP hw hK
    obtain ⟨eZ, eI, ⟨u0, v0, eO⟩, a1, a2⟩ := st
    obtain ⟨ys, hq, hend⟩ := hg
    obtain ⟨its, rv, sq, _⟩ := sqv_at I hq
    have l2 := rv.length
    have he : x.cps[i]? = none ∨ its.toArray[i]? = none := by
      rcases hend with q | q
      · exact .inl (Array.getElem?_eq_none q)
      · exact .inr (by simp; omega)
    exact pyNext_end (I.ok.hd hc) D eZ eI eO a1 a2 sq he fun h' tk hk => ⟨rfl, I.turnedL (t' := tk) (ch := [Z, pI, pO, j1, j2]) (fun c o hb q => hk c o (fun q' => hb (by simp [q'])) (fun q' => hb (by simp [q'])) (fun q' => hb (by simp [q'])) (fun q' => hb (by simp [q'])) q) hf⟩
  self := fun A i s Q E st h => wpAny_pyIter_zip st.1 h
def iZipS (kd : Bool) (K : PySem.W.Frag) (ta : TA) : TI := fun σ H R => ta σ H fun vs H1 => ∃ x b ys, vs = [.str x, .ref b] ∧ x.cps.all (· < 128) = true ∧ SqV kd K H1 b ys ∧ R (Izs kd K x b) H1
theorem pi_zipS (kd : Bool) {X : Cx} {e e2 : Expr} {ta : TA} {p pos tpos : Pos} {elts : List Expr} {kk : Nat} (hg : Gl X "zip") (hm : X.mg "zip" = none) (ha : PA X [e, e2] ta)
    (hs : starEach [e, e2] X.env = (false, eval e X.env) :: starEach [e2] X.env := by rfl) (hpl : (backTo pos (starEach [e2] X.env)).any (·.1) = false := by rfl) :
    PI X (.Tuple elts kk tpos) (.Call (.Name "zip" p) [e, e2] [] pos) (iZipS kd X.K ta) := by
  refine ⟨fun pins s σ H R I h => ?_⟩
  refine Call_ (ld_blt I hg hm PyProof.Rows.boot_zip (PyProof.Rows.callWith_type1 (thn (ha.run pos pins s σ H _ I h) fun us s1 ⟨vs, H1, I1, r1, q1⟩ => ?_) hs hpl))
  obtain ⟨x, b, ys, ex, asc, hq, q⟩ := q1
  subst ex
  cases r1 with
  | cons r rr =>
    cases rr with
    | cons r' rr =>
      cases rr
      cases r'
      obtain ⟨t, rfl⟩ := r
      have n5 : ∀ c, c ∈ [s1.heap.objs.size + 4, s1.heap.objs.size + 2, s1.heap.objs.size + 3, s1.heap.objs.size, s1.heap.objs.size + 1] → FpOk X pins H1 c := fun c hcm => by
        have e' : c = s1.heap.objs.size + 4 ∨ c = s1.heap.objs.size + 2 ∨ c = s1.heap.objs.size + 3 ∨ c = s1.heap.objs.size ∨ c = s1.heap.objs.size + 1 := by simpa using hcm
        have hle : s1.heap.objs.size ≤ c := by
          rcases e' with z | z | z | z | z <;> rw [z] <;> first | exact Nat.le_add_right _ _ | exact Nat.le_refl _
        exact I1.fpOk hle (I1.hok.fresh hle)
      obtain ⟨its, rv, sq, ltb⟩ := sqv_at I1 hq
      refine call_zipS asc sq fun h' eZ eI eO a1 a2 hsz hk => wpAny_pyIter_zip eZ ?_
      have I2 : Inv X pins σ H1 { s1 with heap := h' } := I1.kept (t' := s1.toks) hk
      exact ⟨s1.heap.objs.size + 4, [s1.heap.objs.size + 4, s1.heap.objs.size + 2, s1.heap.objs.size + 3, s1.heap.objs.size, s1.heap.objs.size + 1], _, _, H1, rfl, I2, turn_zs (PySem.W.ktu_apart s1.heap.objs.size b b ltb ltb), ⟨eZ, eI, ⟨_, _, eO⟩, a1, a2⟩, n5, q⟩
end Zs
namespace Sl
open PySem L2 PyProof.Rows
/-! ### its rules -/
section
variable {K : PySem.W.Frag} {σ : L2.St} {H : Hp} {D : Ends} {te : TE} {tt : TT} {tb : TS} {g : TG} {Q : VK} {R : It → Hp → Prop} {vs : List Nat} {L : List SA} {b : Addr} {kd : Bool} {x : Str} {ys : List V} {n : Nat}
def ZipSK (kd : Bool) (K : PySem.W.Frag) (R : It → Hp → Prop) (ws : List V) (H : Hp) : Prop := ∃ x b ys, ws = [.str x, .ref b] ∧ x.cps.all (· < 128) = true ∧ Zs.SqV kd K H b ys ∧ R (Zs.Izs kd K x b) H
theorem r_iZipS {ta : TA} (q : ta σ H (ZipSK kd K R)) : Zs.iZipS kd K ta σ H R := q
theorem r_zipST (asc : x.cps.all (· < 128) = true) (h : SqT K H b ys) (q : R (Zs.Izs true K x b) H) : ZipSK true K R [.str x, .ref b] H := ⟨x, b, ys, rfl, asc, h, q⟩
theorem r_zipSL (asc : x.cps.all (· < 128) = true) (h : SqL K H b ys) (q : R (Zs.Izs false K x b) H) : ZipSK false K R [.str x, .ref b] H := ⟨x, b, ys, rfl, asc, h, q⟩
theorem walk_zs (hn : n = min x.cps.size ys.length) : Walk (Zs.Izs kd K x b) n (fun H => Zs.SqV kd K H b ys) (fun i H v H' => ∃ T c y, v = .ref T ∧ H T = none ∧ H' = upd H T (.tup [.str ⟨#[c]⟩, y]) ∧ x.cps[i]? = some c ∧ ys[i]? = some y) := by
  subst hn
  refine ⟨fun i H hi q => ?_, fun H q => ⟨ys, q, by omega⟩, fun i H v H' hi q y => ?_⟩
  · have h1 : i < x.cps.size := by omega
    have h2 : i < ys.length := by omega
    exact ⟨ys, x.cps[i], ys[i], q, Array.getElem?_eq_getElem h1, List.getElem?_eq_getElem h2⟩
  · obtain ⟨T, c, y, e1, e2, e3, e4, e5⟩ := y
    exact ⟨T, c, y, e1, e2, e3, e4, e5 ys q⟩
theorem r_forZs (hn : n = min x.cps.size ys.length) (P : Nat → L2.St → Hp → Prop) (h0 : P 0 σ H) (hl : ∀ i σ H, i ≤ n → P i σ H → Zs.SqV kd K H b ys)
    (hs : ∀ i c y T σ H, x.cps[i]? = some c → ys[i]? = some y → P i σ H → H T = none → g (.ref T) σ (upd H T (.tup [.str ⟨#[c]⟩, y])) fun σ2 H2 => tb { D with nx := P (i + 1), ct := P (i + 1), bk := D.nx } σ2 H2) (hd : ∀ σ H, P n σ H → D.nx σ H) : ForK g tb D σ (Zs.Izs kd K x b) H :=
  r_forW (walk_zs hn) P h0 hl (fun i x σ H H' hi p y => by
    obtain ⟨T, c, z, rfl, hT, rfl, e1, e2⟩ := y
    exact hs i c z T σ _ e1 e2 p hT) hd
theorem r_lcZs (hn : n = min x.cps.size ys.length) (P : Addr → Nat → Hp → Prop) (hh : Hd L H) (h0 : ∀ D H', Hd (pto D (.lst []) :: L) H' → P D 0 H') (hl : ∀ D i H, i ≤ n → P D i H → Zs.SqV kd K H b ys)
    (hs : ∀ D i c y T H, x.cps[i]? = some c → ys[i]? = some y → P D i H → H T = none → g (.ref T) (wipe σ vs) (upd H T (.tup [.str ⟨#[c]⟩, y])) fun σ2 H2 => wipe σ2 vs = wipe σ vs ∧ tt σ2 H2 fun b H3 => if b = true then te σ2 H3 (AppK D (P D (i + 1))) else P D (i + 1) H3)
    (hd : ∀ D H, P D n H → Q (.ref D) H) : LcK g tt te vs σ Q (Zs.Izs kd K x b) H :=
  r_lcW (walk_zs hn) P hh h0 hl (fun D i x H H' hi p y => by
    obtain ⟨T, c, z, rfl, hT, rfl, e1, e2⟩ := y
    exact hs D i c z T _ e1 e2 p hT) hd
end
end Sl

set_option linter.all false
set_option maxRecDepth 100000
set_option maxHeartbeats 1000000
namespace Sl
open PySem PySem.Spec L2 PyProof.Rows
/-! ### a dict of the module, text keys -/
def KD (K : PySem.W.Frag) (P : Params) (a : Addr) : Prop := ∃ es n, K.lookup a = some ⟨.type "dict", none, .dict es n, #[]⟩ ∧ PySem.W.KeysLit P es.toList ∧ (a == sysModules) = false
def rInKD (K : PySem.W.Frag) (a : Addr) : R2 := fun x y H Q => ∃ (z : Str) (r : Option Value), x = .str z ∧ y = .ref a ∧ PySem.W.nsIn K a z = some r ∧ Q (.bl r.isSome) H
def rNiKD (K : PySem.W.Frag) (a : Addr) : R2 := fun x y H Q => ∃ (z : Str) (r : Option Value), x = .str z ∧ y = .ref a ∧ PySem.W.nsIn K a z = some r ∧ Q (.bl (!r.isSome)) H
def rIxKD (K : PySem.W.Frag) (a : Addr) : R2 := fun x y H Q => ∃ (z : Str) (u0 : Value) (v0 : V), x = .ref a ∧ y = .str z ∧ PySem.W.nsIn K a z = some (some u0) ∧ RelV v0 u0 ∧ Q v0 H
section
variable {X : Cx} {K : PySem.W.Frag} {w : World} {P : Params} {a : Addr}
theorem op_inKD (D : KD K P a) (e : P = w.params) (hK : X.K = K) (hw : X.w = w) : OpR X (compareOp .In) (rInKD K a) := by
  subst e hK hw
  obtain ⟨es, n, l, k, z⟩ := D
  exact op_in_kd ⟨l, k, z⟩
theorem op_notInKD (D : KD K P a) (e : P = w.params) (hK : X.K = K) (hw : X.w = w) : OpR X (compareOp .NotIn) (rNiKD K a) := by
  subst e hK hw
  obtain ⟨es, n, l, k, z⟩ := D
  exact op_notIn_kd ⟨l, k, z⟩
theorem ix_KD (D : KD K P a) (e : P = w.params) (hK : X.K = K) (hw : X.w = w) : IxR X (rIxKD K a) := by
  subst e hK hw
  obtain ⟨es, n, l, k, z⟩ := D
  intro value slice pins s σ H x y v u Q I rx ry h hs
  obtain ⟨y2, u0, v0, rfl, rfl, e, ru, q⟩ := h
  exact ix_kdict value slice pins s σ H _ _ v u Q I rx ry ⟨a, y2, v0, rfl, rfl, ⟨es, n, u0, l, k, e, ru⟩, q⟩ hs
end
section
variable {K : PySem.W.Frag} {H : Hp} {Q : VK} {a : Addr} {z v : Str}
theorem r_niKD (h : ∃ t, PySem.W.nsIn K a z = some (some (.str v t))) (q : Q (.bl false) H) : rNiKD K a (.str z) (.ref a) H Q := by
  obtain ⟨t, e⟩ := h
  exact ⟨z, _, rfl, rfl, e, q⟩
theorem r_inKD (h : ∃ t, PySem.W.nsIn K a z = some (some (.str v t))) (q : Q (.bl true) H) : rInKD K a (.str z) (.ref a) H Q := by
  obtain ⟨t, e⟩ := h
  exact ⟨z, _, rfl, rfl, e, q⟩
theorem r_ixKD (h : ∃ t, PySem.W.nsIn K a z = some (some (.str v t))) (q : Q (.str v) H) : rIxKD K a (.ref a) (.str z) H Q := by
  obtain ⟨t, e⟩ := h
  exact ⟨z, _, .str v, rfl, rfl, e, ⟨t, rfl⟩, q⟩
end
end Sl

set_option linter.all false
set_option maxRecDepth 100000
set_option maxHeartbeats 1000000
namespace Sl
open PySem PySem.Spec L2 PyProof.Rows
/-! ### tuples, listed -/
def tupsA (xs : List V) (zs : List (List V)) : SA := fun H => xs.length = zs.length ∧ ∀ (i : Nat) z, zs[i]? = some z → ∃ t, xs[i]? = some (.ref t) ∧ H t = some (.tup z)
theorem up_tups (xs : List V) (zs : List (List V)) : Up (tupsA xs zs) := fun _ _ s h => ⟨h.1, fun i z e => by
  obtain ⟨t, a, b⟩ := h.2 i z e
  exact ⟨t, a, s _ _ b⟩⟩
theorem tups_nil {L : List SA} {H : Hp} (h : Hd L H) : Hd (tupsA [] [] :: L) H :=
  (Hd.close (M := []) h).imp fun _ _ => ⟨rfl, fun _ _ e => (nomatch e)⟩
theorem tups_snoc {xs : List V} {zs : List (List V)} {z : List V} {t : Addr} {L : List SA} {H : Hp} (h : Hd (pto t (.tup z) :: tupsA xs zs :: L) H) : Hd (tupsA (xs ++ [.ref t]) (zs ++ [z]) :: L) H := by
  have h2 : Hd (Hd [pto t (.tup z), tupsA xs zs] :: L) H := Hd.close (M := [_, _]) h
  refine h2.imp fun H' y => ?_
  have e1 : H' t = some (.tup z) := y.get .here
  obtain ⟨l, f⟩ := y.at (up_tups xs zs) (.there .here)
  refine ⟨by rw [List.length_append, List.length_append, l]; rfl, fun i u e => ?_⟩
  rw [List.getElem?_append] at e
  split at e
  · rename_i lt
    obtain ⟨t2, a, b⟩ := f i u e
    exact ⟨t2, by rw [List.getElem?_append_left (by omega)]; exact a, b⟩
  · rename_i ge
    have : i - zs.length = 0 := by
      rcases Nat.eq_zero_or_pos (i - zs.length) with z | z
      · exact z
      · rw [List.getElem?_eq_none (by rw [List.length_singleton]; omega)] at e
        cases e
    rw [this] at e
    cases e
    exact ⟨t, by rw [List.getElem?_append_right (by omega), l, this]; rfl, e1⟩
theorem tups_at {xs : List V} {zs : List (List V)} {z : List V} {i : Nat} {L L' : List SA} {H : Hp} (h : Hd L H) (p : Pull (tupsA xs zs) L L') (e : zs[i]? = some z) : ∃ t, xs[i]? = some (.ref t) ∧ H t = some (.tup z) := (h.at (up_tups xs zs) p).2 i z e
theorem tups_len {xs : List V} {zs : List (List V)} {L L' : List SA} {H : Hp} (h : Hd L H) (p : Pull (tupsA xs zs) L L') : xs.length = zs.length := (h.at (up_tups xs zs) p).1

theorem tups_st {K : PySem.W.Frag} {xs : List V} {zs : List (List V)} {z : List V} {t : Addr} {i : Nat} {L L' : List SA} {H : Hp} (h : Hd L H) (p : Pull (tupsA xs zs) L L') (ex : xs[i]? = some (.ref t)) (e : zs[i]? = some z) : SqT K H t z := by
  obtain ⟨t2, e2, e3⟩ := tups_at h p e
  rw [ex] at e2
  cases e2
  exact SqT.of e3
/-! ### several except clauses -/
section
variable {K : PySem.W.Frag} {c : Value} {ts : Addr → Value → Option Addr → TS} {r : List (Value × (Addr → Value → Option Addr → TS))} {Wout : WX} {D : Ends} {σ : L2.St} {H : Hp} {cls : Value} {d : Option Addr}
theorem r_manyY (h : PySem.W.exmOne K cls c = some true) (q : ∀ a, H a = none → ts a cls d D σ H) : WE (wMany K Wout D ((c, ts) :: r)) σ cls d H :=
  ⟨true, h, fun _ => q, fun e => (nomatch e)⟩
theorem r_manyN (h : PySem.W.exmOne K cls c = some false) (q : WE (wMany K Wout D r) σ cls d H) : WE (wMany K Wout D ((c, ts) :: r)) σ cls d H :=
  ⟨false, h, fun e => (nomatch e), fun _ => q⟩
end
/-! ### x.index(y) of texts -/
theorem r_sindex {a b : Str} {H : Hp} {Q : VK} {i : Nat} (e : (Builtin.Str.occurrences a b 0 a.length 1).head? = some i) (q : Q (.int (i : Nat)) H) :
    (fun (x : V) (xs : List V) (H : Hp) (Q : VK) => ∃ a b i rest, x = V.str a ∧ xs = [V.str b] ∧ Builtin.Str.occurrences a b 0 a.length 1 = i :: rest ∧ Q (.int (i : Nat)) H) (.str a) [.str b] H Q := by
  cases h : Builtin.Str.occurrences a b 0 a.length 1 with
  | nil => rw [h] at e; cases e
  | cons j l =>
    rw [h] at e
    cases e
    exact ⟨a, b, i, l, rfl, rfl, h, q⟩
end Sl

set_option linter.all false
set_option maxRecDepth 100000
set_option maxHeartbeats 1000000
namespace Sl
open PySem L2 PyProof PyProof.Rows
/-! ### d.update(e), dicts of keys that are numbers or texts -/
def rDUpd : V → List V → Hp → VK → Prop := fun x xs H Q => ∃ (a b : Addr) (kvs more : List (Key × V)), x = .ref a ∧ xs = [.ref b] ∧ a ≠ b ∧ H a = some (.dK kvs) ∧ H b = some (.dK more) ∧ kvs.length + more.length ≤ sizeLine ∧ Q .non (upd H a (.dK (mergeK kvs more)))
theorem mt_dupdate {X : Cx} : MtR X "dict.update" rDUpd := by
  intro pins s σ H x xs v us Q I rx rxs h
  obtain ⟨a, b, kvs, more, rfl, rfl, ne, ha, hb, hz, q⟩ := h
  cases rx
  rw [Vals.ref1 rxs]
  obtain ⟨z, hd, vs, rel, dd⟩ := dk_of I.hok ha
  obtain ⟨z2, hd2, ms, rel2, de⟩ := dk_of I.hok hb
  refine call_meetsIn PySem.F.slot_dict_update dd.typeIs PySem.F.entry_dict_update (PySem.F.args_dict_update_2 _ _) (meets_dict_update (mixKind X.prog X.w) a b ne hd2)
    ⟨vs, ms, dd, de, by rw [← rel.length, ← rel2.length]; exact hz, fun h' dd' de' hs => ?_⟩
  have he : ∃ q, h'.get? a = some q := let ⟨q, _, _, hq, _⟩ := dd'; ⟨q, hq⟩
  exact ⟨.non, _, d_write (t' := s.toks) I (by rw [ha]; exact True.intro) hs he (dk_new (Nat.le_trans (length_mergeK more kvs) hz) hd (KV.merge rel2 rel) dd'), rfl, q⟩
/-- d, and another one that it takes up -/
theorem r_dupd {a b : Addr} {kvs more kvs' : List (Key × V)} {L L' L2 : List SA} {H : Hp} {Q : VK} (hs : Hd L H) (p : Put (pto a (.dK kvs)) (pto a (.dK kvs')) L L') (p2 : Pull (pto b (.dK more)) L L2) (ne : a ≠ b) (e : mergeK kvs more = kvs') (hz : kvs.length + more.length ≤ sizeLine) (q : ∀ H', Hd L' H' → Q .non H') : rDUpd (.ref a) [.ref b] H Q := by
  obtain ⟨M, pa, _⟩ := p.pulls
  refine ⟨a, b, kvs, more, rfl, rfl, ne, hs.get pa, hs.get p2, hz, ?_⟩
  rw [e]
  exact q _ (hs.set p (fun z => z))
/-- two dicts with a piece each are not one -/
theorem ne_pto {a b : Addr} {k1 k2 : List (Key × V)} {L L1 L2 : List SA} {H : Hp} (hs : Hd L H) (p1 : Pull (pto a (.dK k1)) L L1) (p2 : Pull (pto b (.dK k2)) L1 L2) : a ≠ b := by
  rintro rfl
  obtain ⟨H1, H2, c, _, _, e1, h2⟩ := hs.pull p1
  obtain ⟨H3, H4, _, s3, _, e3, _⟩ := h2.pull p2
  exact (c a _ _ e1 (s3 _ _ e3)).2
end Sl

set_option linter.all false
set_option maxRecDepth 100000
set_option maxHeartbeats 2000000
namespace Tx
open PySem PySem.Spec L2 PyProof.Rows Sl
/-! ### texts, sign by sign -/
section
variable {K : PySem.W.Frag} {σ : L2.St} {H : Hp} {D : Ends} {te : TE} {tt : TT} {tb : TS} {g : TG} {Q : VK} {R : It → Hp → Prop} {vs : List Nat} {L : List SA} {x : Str}
def StrK (R : It → Hp → Prop) (v : V) (H : Hp) : Prop := ∃ x, v = .str x ∧ R (Its x) H
theorem r_iStr (q : te σ H (StrK R)) : iStr te σ H R := q
theorem r_strK (q : R (Its x) H) : StrK R (.str x) H := ⟨x, rfl, q⟩
theorem r_forS (P : Nat → L2.St → Hp → Prop) (h0 : P 0 σ H)
    (hs : ∀ i c σ H, x.cps[i]? = some c → P i σ H → g (.str ⟨#[c]⟩) σ H fun σ2 H2 => tb { D with nx := P (i + 1), ct := P (i + 1), bk := D.nx } σ2 H2) (hd : ∀ σ H, P x.cps.size σ H → D.nx σ H) : ForK g tb D σ (Its x) H :=
  r_forW walk_str P h0 (fun _ _ _ _ _ => trivial) (fun i y σ H H' hi p z => by
    obtain ⟨rfl, c, e, rfl⟩ := z
    exact hs i c σ _ e p) hd
theorem r_lcS (P : Addr → Nat → Hp → Prop) (hh : Hd L H) (h0 : ∀ D H', Hd (pto D (.lst []) :: L) H' → P D 0 H')
    (hs : ∀ D i c H, x.cps[i]? = some c → P D i H → g (.str ⟨#[c]⟩) (wipe σ vs) H fun σ2 H2 => wipe σ2 vs = wipe σ vs ∧ tt σ2 H2 fun b H3 => if b = true then te σ2 H3 (AppK D (P D (i + 1))) else P D (i + 1) H3)
    (hd : ∀ D H, P D x.cps.size H → Q (.ref D) H) : LcK g tt te vs σ Q (Its x) H :=
  r_lcW walk_str P hh h0 (fun _ _ _ _ _ => trivial) (fun D i y H H' hi p z => by
    obtain ⟨rfl, c, e, rfl⟩ := z
    exact hs D i c _ e p) hd
end
/-! ### calls -/
section
variable {K : PySem.W.Frag} {H : Hp} {Q : VK} {L L' L1 : List SA} {a b p : Addr} {x z : Str} {xs ys : List V}
/-- sorted(d), fewer than 64 keys, all texts -/
def rSrtDS : List V → Hp → VK → Prop := fun xs H Q => ∃ (a : Addr) (kvs : List (Key × V)) (ks : List Str), xs = [.ref a] ∧ Rd H a (.dK kvs) ∧ kvs.map (·.1) = ks.map Sum.inr ∧ ks.length < 64 ∧
    ∀ ys p, ys.Perm ks → sortedS ys = true → H p = none → Q (.ref p) (upd H p (.lst (ys.map V.str)))
theorem call_srtDS {X : Cx} (h : X.calm = true) : CallR X (.builtin "sorted") rSrtDS := call_sortedD h
theorem r_srtDS {kvs : List (Key × V)} {ks : List Str} (hs : Hd L H) (h : H a = some (.dK kvs)) (e : kvs.map (·.1) = ks.map Sum.inr) (few : ks.length < 64) (q : ∀ (ys : List Str) p H', ys.Perm ks → Hd (pto p (.lst (ys.map V.str)) :: L) H' → Q (.ref p) H') : rSrtDS [.ref a] H Q :=
  ⟨a, kvs, ks, rfl, .inl h, e, few, fun ys p pm _ n => q ys p _ pm (hs.new n)⟩
/-- str(x) of a number or a text -/
def rStrU : List V → Hp → VK → Prop := fun xs H Q => (∃ i, xs = [.int i] ∧ i.natAbs.log2 < 1920 ∧ Q (.str (toString i)) H) ∨ ∃ x, xs = [.str x] ∧ Q (.str x) H
theorem u_str {X : Cx} : CallR X (.type "str") rStrU := call_str_int.or SkE.call_str_str
theorem r_strI {i : Int} (h : i.natAbs.log2 < 1920) (q : Q (.str (toString i)) H) : rStrU [.int i] H Q := .inl ⟨i, rfl, h, q⟩
theorem r_strS (q : Q (.str x) H) : rStrU [.str x] H Q := .inr ⟨x, rfl, q⟩
/-- t + u of tuples, the first one's own piece goes -/
theorem r_addT (hs : Hd L H) (p1 : Pull (pto a (.tup xs)) L L1) (h2 : SqT K H b ys) (hx : xs ≠ []) (hz : xs.length + ys.length ≤ sizeLine) (q : ∀ p H', Hd (pto p (.tup (xs ++ ys)) :: L1) H' → Q (.ref p) H') : rAddU K (.ref a) (.ref b) H Q := by
  refine .inr (.inr (.inr ⟨a, b, xs, ys, rfl, rfl, SqT.of (hs.get p1), h2, hz, fun e => absurd e hx, fun _ e => ?_, fun _ _ p n => ?_⟩))
  · subst e
    exact q a H (by rw [List.append_nil]; exact hs.pull p1)
  · exact q p _ (((hs.pull p1).new n).mono fun _ z => Hd.tl z)
/-- sep.join(texts) -/
def rJoin (K : PySem.W.Frag) : V → List V → Hp → VK → Prop := fun x xs H Q => ∃ a p, ∃ ys : List Str, x = .str a ∧ xs = [.ref p] ∧ (SqL K H p (ys.map V.str) ∨ SqT K H p (ys.map V.str)) ∧ (ys.map (·.length)).sum + ys.length * a.length ≤ 16777216 ∧ Q (.str (Txt.join a ys)) H
theorem k_mtJoin {X : Cx} {K : PySem.W.Frag} (h : X.K = K) : MtR X "str.join" (rJoin K) := h ▸ mt_join
theorem r_joinL {ys : List Str} (h : SqL K H p (ys.map V.str)) (few : (ys.map (·.length)).sum + ys.length * x.length ≤ 16777216) (q : Q (.str (Txt.join x ys)) H) : rJoin K (.str x) [.ref p] H Q := ⟨x, p, ys, rfl, rfl, .inl h, few, q⟩
/-- x.split(sep) -/
def rSplit : V → List V → Hp → VK → Prop := fun x xs H Q => ∃ a b, x = .str a ∧ xs = [.str b] ∧ (b.length == 0) = false ∧ a.length + 2 ≤ sizeLine ∧ rNewStrs (Txt.split a b) H Q
theorem k_mtSplit {X : Cx} : MtR X "str.split" rSplit := mt_split
theorem r_split (hs : Hd L H) (hb : (z.length == 0) = false) (hz : x.length + 2 ≤ sizeLine) (q : ∀ p H', Hd (pto p (.lst ((Txt.split x z).map V.str)) :: L) H' → Q (.ref p) H') : rSplit (.str x) [.str z] H Q :=
  ⟨x, z, rfl, rfl, hb, hz, fun p n => q p _ (hs.new n)⟩
/-- x.find(y), x.count(y), x.endswith(y) -/
def rFind : V → List V → Hp → VK → Prop := fun x xs H Q => ∃ a b, x = .str a ∧ xs = [.str b] ∧ Q (.int (Txt.find a b)) H
theorem k_mtFind {X : Cx} : MtR X "str.find" rFind := mt_find
theorem r_find (q : Q (.int (Txt.find x z)) H) : rFind (.str x) [.str z] H Q := ⟨x, z, rfl, rfl, q⟩
def rCnt : V → List V → Hp → VK → Prop := fun x xs H Q => ∃ a b, x = .str a ∧ xs = [.str b] ∧ Q (.int (Txt.count a b)) H
theorem k_mtCount {X : Cx} : MtR X "str.count" rCnt := mt_count
theorem r_count (q : Q (.int (Txt.count x z)) H) : rCnt (.str x) [.str z] H Q := ⟨x, z, rfl, rfl, q⟩
def rEnds : V → List V → Hp → VK → Prop := fun x xs H Q => ∃ a b, x = .str a ∧ xs = [.str b] ∧ Q (.bl (Txt.endswith a b)) H
theorem k_mtEnds {X : Cx} : MtR X "str.endswith" rEnds := mt_endswith
theorem r_ends (q : Q (.bl (Txt.endswith x z)) H) : rEnds (.str x) [.str z] H Q := ⟨x, z, rfl, rfl, q⟩
/-- int(text) -/
def rIntS : List V → Hp → VK → Prop := fun xs H Q => ∃ a n, xs = [.str a] ∧ PySem.intText? a = some n ∧ a.length ≤ 640 ∧ Q (.int n) H
theorem u_intS {X : Cx} : CallR X (.type "int") rIntS := call_int_str
theorem r_intS {n : Int} (h : PySem.intText? x = some n) (l : x.length ≤ 640) (q : Q (.int n) H) : rIntS [.str x] H Q := ⟨x, n, rfl, h, l, q⟩
/-- a sign in a text -/
def rInS : R2 := fun x y H Q => ∃ (c : Nat) (z : Str), x = .str ⟨#[c]⟩ ∧ y = .str z ∧ Q (.bl (decide (c ∈ z.cps.toList))) H
theorem u_inS {X : Cx} : OpR X (compareOp .In) rInS := op_in_sign
theorem r_inS {c : Nat} {y : Str} (e : x = ⟨#[c]⟩) (q : Q (.bl (decide (c ∈ y.cps.toList))) H) : rInS (.str x) (.str y) H Q := ⟨c, y, by rw [e], rfl, q⟩
theorem r_inS1 {c : Nat} {y : Str} (q : Q (.bl (decide (c ∈ y.cps.toList))) H) : rInS (.str ⟨#[c]⟩) (.str y) H Q := ⟨c, y, rfl, rfl, q⟩
end
/-! ### lengths -/
theorem sum_le {ys : List Str} {B : Nat} (h : ∀ y ∈ ys, y.length ≤ B) : (ys.map (·.length)).sum ≤ ys.length * B := by
  induction ys with
  | nil => simp
  | cons y r ih =>
    have h1 := h y (List.mem_cons_self ..)
    have h2 := ih fun z m => h z (List.mem_cons_of_mem _ m)
    rw [List.map_cons, List.sum_cons, List.length_cons, Nat.succ_mul]
    omega
theorem join_le (x : Str) (ys : List Str) : (Txt.join x ys).length ≤ (ys.map (·.length)).sum + ys.length * x.length := by
  show (Builtin.Str.glued x ys).length ≤ _
  rw [PySem.StrLaws.glued_eq_join]
  induction ys with
  | nil => exact Nat.zero_le _
  | cons y r ih =>
    cases r with
    | nil => show y.length ≤ _; rw [List.map_cons, List.sum_cons]; omega
    | cons z r =>
      show (y ++ x ++ PySem.Str.join x (z :: r)).length ≤ _
      rw [PySem.Str.length_append, PySem.Str.length_append, List.map_cons, List.sum_cons, List.length_cons, Nat.succ_mul]
      omega
theorem num_len {n : Int} (h0 : 0 ≤ n) (h1 : n < 100000) : (toString n : Str).length ≤ 5 := PyProof.Rows.toString_length_le h0 (by decide) (by omega)
theorem num_log {n : Int} (h0 : 0 ≤ n) (h1 : n < 100000) : n.natAbs.log2 < 1920 := by
  have : n.natAbs.log2 ≤ 17 := by
    rcases Nat.eq_zero_or_pos n.natAbs with z | z
    · rw [z]; decide
    · have := Nat.log2_self_le (n := n.natAbs) (by omega)
      rcases Nat.lt_or_ge 17 n.natAbs.log2 with h | h
      · have h2 : 2 ^ 18 ≤ 2 ^ n.natAbs.log2 := Nat.pow_le_pow_right (by decide) h
        omega
      · exact h
  omega
end Tx

set_option linter.all false
set_option maxRecDepth 100000
set_option maxHeartbeats 2000000
namespace Iv
open PySem PySem.Spec PySem.Calls PyProof.Rows L2
/-! ### n in d.values(), numbers -/
theorem plain_ci : plainId "proto.contains_iter" = true := by decide +kernel
theorem entry_ci : entryFor table "proto.contains_iter" = some Builtin.«proto.contains_iter» := entryFor_of_fast (by kernel_rfl)
theorem none_contains : typeLookup (.type "dict_values") "__contains__" = pure none := by rw [typeLookup_type, builtinLookup_eq_fast]; kernel_rfl
section
variable {P : Program} {w : World} {it d : Addr} {ep : Nat} {n : Int} {tk : Tok}
theorem vals_loop {kvs : List (Key × Value)} {ns : List Int} (ne : d ≠ it) (hv : ∀ (j : Nat) (k : Key) (v : Value), kvs[j]? = some (k, v) → ∃ m t, v = Value.int m t ∧ ns[j]? = some m) (hn : ns.length = kvs.length) (k : Nat) :
    ∀ i : Nat, kvs.length - i = k → ∀ (A : Around) (R : Result → Shared → Prop) (s : Shared), A.handled = none → s.heap.IsValIter it d i kvs.length ep → s.heap.DictAt (mixKind P w) d kvs ep →
      (∀ h', Heap.ExtBut it s.heap h' → R (.ok (.ret (.bool ((ns.drop i).any (· == n))))) { s with heap := h' }) →
      wpAny (model P w) A.in1 (Builtin.«proto.contains_iter» ⟨[.ref it, .int n tk], []⟩) (fun fin s' => match fin with | .done f => R (.ok f) s' | .again c' => c'.quiet = true ∧ codeAny (model P w) A c' R s') (fun e s' => R (.error e) s') s := by
  induction k with
  | zero =>
    intro i hk A R s hh st hm q
    show wpAny _ _ (pyNext (.ref it) >>= _) _ _ s
    refine wpAny_bind (wpAny_pyNext_values_end hh st hm (List.getElem?_eq_none (by omega)) fun h' eb => ?_)
    refine wpAny_bind (wpAny_rule (wpAny_pure ?_))
    have q := q h' eb
    rw [List.drop_eq_nil_of_le (by omega)] at q
    exact q
  | succ k ih =>
    intro i hk A R s hh st hm q
    have hi : i < kvs.length := by omega
    obtain ⟨kk, v, e⟩ : ∃ kk v, kvs[i]? = some (kk, v) := ⟨_, _, List.getElem?_eq_getElem hi⟩
    obtain ⟨m, t, rfl, em⟩ := hv i kk v e
    show wpAny _ _ (pyNext (.ref it) >>= _) _ _ s
    refine wpAny_bind (wpAny_pyNext_values_item st hm e fun h' st' sb => ?_)
    refine wpAny_bind (wpAny_eqBool_int ?_)
    have hd : ns.drop i = m :: ns.drop (i + 1) := by
      have hi2 : i < ns.length := by omega
      rw [List.drop_eq_getElem_cons hi2]
      rw [List.getElem?_eq_getElem hi2] at em
      cases em
      rfl
    rw [hd, List.any_cons] at q
    by_cases b : (m == n) = true
    · rw [b] at q ⊢
      rw [if_pos rfl]
      exact wpAny_bind (wpAny_rule (wpAny_pure (q h' fun c o hc e => (sb.2 c hc).trans e)))
    · rw [Bool.eq_false_iff.mpr b] at q ⊢
      rw [if_neg Bool.false_ne_true]
      refine wpAny_pure ⟨plainId_quiet plain_ci _, codeAny_builtin entry_ci ?_⟩
      rw [Around.under_plainId plain_ci _]
      exact ih (i + 1) (by omega) A R { s with heap := h' } hh st' (hm.at' fun o e => (sb.2 d ne).trans e) fun h2 eb => q h2 fun c o hc e => eb c o hc ((sb.2 c hc).trans e)
theorem vals_code {kvs : List (Key × Value)} {ns : List Int} {A : Around} {R : Result → Shared → Prop} {s : Shared} (ne : d ≠ it) (hv : ∀ (j : Nat) (k : Key) (v : Value), kvs[j]? = some (k, v) → ∃ m t, v = Value.int m t ∧ ns[j]? = some m) (hn : ns.length = kvs.length)
    (hh : A.handled = none) (st : s.heap.IsValIter it d 0 kvs.length ep) (hm : s.heap.DictAt (mixKind P w) d kvs ep) (q : ∀ h', Heap.ExtBut it s.heap h' → R (.ok (.ret (.bool (ns.any (· == n))))) { s with heap := h' }) :
    codeAny (model P w) A (.builtin "proto.contains_iter" ⟨[.ref it, .int n tk], []⟩) R s :=
  codeAny_builtin entry_ci (by
    rw [Around.under_plainId plain_ci _]
    exact vals_loop ne hv hn _ 0 rfl A R s hh st hm (by rw [List.drop_zero]; exact q))
end
/-- what the operands tell -/
def tInV (ta td : TE) : TE := fun σ H Q => ta σ H fun x H1 => td σ H1 fun y H2 => ∃ (n : Int) (d : Addr) (kvs : List (Key × V)) (ns : List Int), x = .int n ∧ y = .ref d ∧ H2 d = some (.dK kvs) ∧ kvs.map (·.2) = ns.map V.int ∧ Q (.bl (ns.any (· == n))) H2
section
variable {X : Cx} {a o : Expr} {pos apos mpos : Pos} {ta td : TE}
theorem pt_inVals (hc : X.calm = true) (ha : PE X a ta) (hd : PE X o td) (hm : behindInMarks .In (.Call (.Attribute o "values" apos) [] [] mpos) = false) (hbase : attributeBase o "values" X.env (eval o X.env) = eval o X.env := by rfl) (hline : (apos.endLine == mpos.line) = true := by rfl) :
    PT X (.Compare a [.In] [.Call (.Attribute o "values" apos) [] [] mpos] pos) (tTest (tInV ta td)) := by
  refine ⟨fun pins s σ H Q I h => ?_⟩
  refine wpAny_isTrue_Compare1 (thn (ha.run pins s σ H _ I h) fun v s1 ⟨x, H1, I1, r1, q1⟩ => wpAny_Call_method0_late hbase hline (thn (hd.run pins s1 σ H1 _ I1 q1) fun u s2 ⟨y, H2, I2, r2, n, d, kvs, ns, ex, ey, hD, ev, k, ek, q2⟩ => ?_)) hm
  subst ex
  subst ey
  obtain rfl : u = Value.ref d := r2
  obtain ⟨tk, rfl⟩ : ∃ t, v = Value.int n t := r1
  obtain ⟨hlen, hsys, vs, rel, dof⟩ := dk_of I2.hok hD
  obtain ⟨ep, dat⟩ := dof.dictAt
  have dat' := dat
  obtain ⟨ob, es, ho, ex, hdat, hko, hpr, hnd⟩ := dat'
  refine ⟨"dict", "dict.values", F.plainAttrs_dict, F.slot_dict_values, F.type_dict_values, ⟨ob, ho, ex.1⟩, fun b e => ?_, Calls.callWith_builtin rfl (PySem.evalArgs_none ?_)⟩
  · cases e
    exact ⟨ob, ho, ex.2.1⟩
  refine call_meetsIn F.slot_dict_values ⟨ob, ho, ex.1⟩ F.entry_dict_values (F.args_dict_values_1 _) (meets_dict_values (mixKind X.prog X.w) d hsys) ⟨⟨vs, dof⟩, ?_⟩
  have k1 : ∀ b u, s2.heap.get? b = some u → (s2.heap.push { cls := .type "dict_values", data := .fields #[.ref d] }).get? b = some u := fun b u e => Heap.get?_push_of_some _ e
  have I3 : L2.Inv X pins σ H2 { s2 with heap := s2.heap.push { cls := .type "dict_values", data := .fields #[.ref d] } } := I2.kept (t' := s2.toks) k1
  have dat1 : (s2.heap.push { cls := .type "dict_values", data := .fields #[.ref d] }).DictAt (mixKind X.prog X.w) d vs ep := dat.keep k1
  have hl : kvs.length = vs.length := Paired.length rel
  have hview : (s2.heap.push { cls := .type "dict_values", data := .fields #[.ref d] }).IsValuesView s2.heap.objs.size d := ⟨_, Heap.get?_push_size _ rfl, rfl, rfl⟩
  have hT : Shared.TypeIs { s2 with heap := s2.heap.push { cls := .type "dict_values", data := .fields #[.ref d] } } (.ref s2.heap.objs.size) "dict_values" := hview.typeIs
  show wpAny _ _ (compareOp .In (.int n tk) (.ref s2.heap.objs.size)) _ _ _
  show wpAny _ _ (contains (.ref s2.heap.objs.size) (.int n tk) >>= fun b => pure (Value.bool b)) _ _ _
  refine wpAny_bind ?_
  unfold PySem.contains
  refine wpAny_holding ?_
  rw [stdlibNamesSay?_of_typeIs hT]
  refine wpAny_bind (wpAny_specialOf hT none_contains ?_)
  show wpAny _ _ (if ((none : Option Value) == some Value.none) = true then _ else _) _ _ _
  rw [if_neg (by decide)]
  refine wpAny_bind ?_
  unfold callSpecialUnlessNone?
  refine wpAny_bind (wpAny_specialOf hT none_contains (wpAny_pure ?_))
  refine wpAny_bind (wpAny_rule ?_)
  refine wpAny_bind (wpAny_tryCatch (wpAny_pyIter_values (knd := mixKind X.prog X.w) hview dat1 ?_))
  refine wpAny_bind ?_
  have lt : d < s2.heap.objs.size := Heap.lt_size ho
  refine wpAny_runValue (vals_code (it := (s2.heap.push { cls := .type "dict_values", data := .fields #[.ref d] }).objs.size) (w := X.w) (d := d) (ep := ep) (kvs := vs) (ns := ns) (by rw [Heap.size_push]; exact Nat.ne_of_lt (Nat.lt_succ_of_lt lt)) (fun j k1 v1 e => ?_) ?_ (I3.ok.hd hc) ?_ ?_ fun h' eb => ?_)
  · obtain ⟨x2, g1, g2⟩ := KV.at' rel e
    have : (kvs.map (·.2))[j]? = some x2 := by rw [List.getElem?_map, g1]; rfl
    rw [ev, List.getElem?_map] at this
    obtain ⟨m, hm2, rfl⟩ := Option.map_eq_some_iff.mp this
    obtain ⟨t, rfl⟩ : ∃ t, v1 = Value.int m t := g2
    exact ⟨m, t, rfl, hm2⟩
  · have := congrArg List.length ev
    rw [List.length_map, List.length_map] at this
    omega
  · exact ⟨_, Heap.get?_push_size _ rfl, rfl, rfl⟩
  · exact dat1.keep fun b u e => Heap.get?_push_of_some _ e
  · refine wpAny_pure (wpAny_pure ?_)
    have ek2 : ns.any (· == n) = k := by injection ek
    rw [ek2]
    refine wpAny_truthy_bool ⟨H2, I3.kept (t' := s2.toks) fun b u e => ?_, q2⟩
    refine eb b u (fun z => ?_) (Heap.get?_push_of_some _ e)
    have l2 := Heap.lt_size e
    rw [z, Heap.size_push] at l2
    exact Nat.lt_irrefl _ l2
end
end Iv
namespace Tx
open PySem PySem.Spec L2 PyProof.Rows Sl
/-! ### a text so many times -/
def rMulS : R2 := fun x y H Q => ∃ (z : Str) (n : Nat), x = .str z ∧ y = .int (n : Nat) ∧ n ≤ 3 ∧ z.length ≤ 1000 ∧ ∀ r : Str, r.cps.toList = (List.replicate n z.cps.toList).flatten → Q (.str r) H
theorem fold_rep (z : Array Nat) : ∀ (n : Nat) (acc : Array Nat), ((List.replicate n z).foldl (· ++ ·) acc).toList = acc.toList ++ (List.replicate n z.toList).flatten
  | 0, acc => by simp
  | n + 1, acc => by
    rw [List.replicate_succ, List.foldl_cons, fold_rep z n, List.replicate_succ, List.flatten_cons, Array.toList_append, List.append_assoc]
theorem op_mulS {X : Cx} : OpR X (binaryOp .Mult) rMulS := by
  intro pins s σ H x y v u Q I rx ry h
  obtain ⟨z, n, rfl, rfl, n1, z1, q⟩ := h
  obtain ⟨t, rfl⟩ : ∃ t, v = Value.str z t := rx
  obtain ⟨t2, rfl⟩ : ∃ t, u = Value.int (n : Nat) t := ry
  have hn3 := n1
  have big : (1000000 : Nat) ≤ sizeLine := by decide
  refine PySem.P.mul_str (by rw [decide_eq_false (by omega), decide_eq_false (by omega)]; rfl) (fun h1 _ => ?_) (fun _ _ => ?_) ?_
  · rcases (show n = 1 ∨ n = 2 ∨ n = 3 by omega) with rfl | rfl | rfl
    · show ¬ (z.length : Int) > (2 ^ 63 - 1) / 1
      omega
    · show ¬ (z.length : Int) > (2 ^ 63 - 1) / 2
      omega
    · show ¬ (z.length : Int) > (2 ^ 63 - 1) / 3
      omega
  · rw [Int.toNat_natCast]
    have : z.length * n ≤ 1000 * 3 := Nat.mul_le_mul z1 n1
    unfold Builtin.Str.tooLong
    exact decide_eq_false (by omega)
  · by_cases hn : (n : Int) < 1
    · rw [if_pos hn]
      obtain rfl : n = 0 := by omega
      exact ⟨by decide, .str Str.empty, H, I.tok _, ⟨_, rfl⟩, q _ rfl⟩
    · rw [if_neg hn]
      by_cases h1 : ((n : Int) == 1 || z.length == 0) = true
      · rw [if_pos h1]
        refine ⟨.str z, H, I, ⟨_, rfl⟩, q _ ?_⟩
        rcases Bool.or_eq_true_iff.mp h1 with e | e
        · obtain rfl : n = 1 := by have := eq_of_beq e; omega
          simp
        · have e : z.cps.toList = [] := by
            have := eq_of_beq e
            exact List.eq_nil_of_length_eq_zero (by rw [Array.length_toList]; exact this)
          rw [e]
          induction n with
          | zero => rfl
          | succ n ih => simp
      · rw [if_neg h1, Int.toNat_natCast]
        have hz : (⟨(List.replicate n z.cps).foldl (· ++ ·) #[]⟩ : Str).cps.toList = (List.replicate n z.cps.toList).flatten := by
          show ((List.replicate n z.cps).foldl (· ++ ·) #[]).toList = _
          rw [fold_rep]
          rfl
        refine ⟨?_, .str _, H, I.tok _, ⟨_, rfl⟩, q _ hz⟩
        show (⟨(List.replicate n z.cps).foldl (· ++ ·) #[]⟩ : Str).cps.size ≤ sizeLine
        rw [← Array.length_toList, hz, List.length_flatten, List.map_replicate, List.sum_replicate_nat, Array.length_toList]
        have : n * z.length ≤ 3 * 1000 := Nat.mul_le_mul hn3 z1
        have e : n * z.cps.size = n * z.length := rfl
        omega
/-- text * number -/
theorem r_mulS {H : Hp} {Q : VK} {z : Str} {n : Nat} (hn : n ≤ 3) (hz : z.length ≤ 1000) (q : ∀ r : Str, r.cps.toList = (List.replicate n z.cps.toList).flatten → Q (.str r) H) : rMulS (.str z) (.int (n : Nat)) H Q := ⟨z, n, rfl, rfl, hn, hz, q⟩
/-! ### d.get(k, x) of a module's dict, texts at keys; what is not in it -/
def rKGet (K : PySem.W.Frag) (a : Addr) : List V → Hp → VK → Prop := fun xs H Q => ∃ (z : Str) (d : V) (r : Option Str), xs = [.str z, d] ∧ (match r with
  | some v => ∃ t, PySem.W.nsIn K a z = some (some (.str v t))
  | none => PySem.W.nsIn K a z = some none) ∧ Q (match r with
  | some v => .str v
  | none => d) H
def tKGet (K : PySem.W.Frag) (a : Addr) (ty tx : TE) : TE := fun σ H Q => ty σ H fun y H1 => tx σ H1 fun z H2 => rKGet K a [y, z] H2 Q
theorem pe_kget {X : Cx} {K : PySem.W.Frag} {w : World} {P : Params} {a : Addr} {o e f : Expr} {apos cpos : Pos} {ty tx : TE} (D : KD K P a) (eP : P = w.params) (hK : X.K = K) (hw : X.w = w) (ho : PE X o (tC (.ref a))) (he : PE X e ty) (hf : PE X f tx) (m : M2 X o "get" apos e f cpos) : PE X (.Call (.Attribute o "get" apos) [e, f] [] cpos) (tKGet K a ty tx) := by
  subst eP hK hw
  obtain ⟨es, n, l, k, low⟩ := D
  refine ⟨fun pins s σ H Q I h => ?_⟩
  refine wpAny_Call_method m.base m.few m.line PySem.F.plainAttrs_dict PySem.F.slot_dict_get PySem.F.type_dict_get (thn (ho.run pins s σ H (fun x H1 => x = .ref a ∧ tKGet X.K a ty tx σ H1 Q) I ⟨rfl, h⟩) fun u s1 ⟨x, H1, I1, rx, ex, q1⟩ => ?_)
  subst ex
  obtain rfl : u = Value.ref a := rx
  have hm := PySem.W.mapOf_K (prog := X.prog) (w := X.w) I1.kIn l k
  refine ⟨hm.typeIs, hm.noDict, ?_⟩
  rw [m.trees]
  refine Calls.callWith_builtin rfl (Calls.evalArgs_plain (Calls.spliced_cons (thn (he.run pins s1 σ H1 _ I1 q1) fun iv s2 ⟨y, H2, I2, ry, q2⟩ =>
    Calls.spliced_cons (thn (hf.run pins s2 σ H2 _ I2 q2) fun fv s3 ⟨z, H3, I3, rz, y2, d2, r, e1, e2, q3⟩ => Calls.spliced_nil ?_))))
  injection e1 with e1 e3
  injection e3 with e3 _
  subst e1 e3
  obtain ⟨t, rfl⟩ : ∃ t, iv = Value.str y2 t := ry
  have hm3 := PySem.W.mapOf_K (prog := X.prog) (w := X.w) I3.kIn l k
  refine call_meetsIn PySem.F.slot_dict_get hm3.typeIs PySem.F.entry_dict_get (PySem.F.args_dict_get_3 _ _ _) (meets_dict_get_default (PySem.strKind X.prog X.w) a (PySem.strKind_is X.prog X.w y2 t) low fv) ⟨_, hm3, ?_⟩
  cases r with
  | some v =>
    obtain ⟨t3, e2⟩ := e2
    rw [PySem.W.find_K l e2]
    exact ⟨.str v, H3, I3.tok _, ⟨_, rfl⟩, q3⟩
  | none =>
    rw [PySem.W.find_K l e2]
    exact ⟨z, H3, I3.tok _, rz, q3⟩
theorem r_kget {K : PySem.W.Frag} {a : Addr} {ty tx : TE} {σ : L2.St} {H : Hp} {Q : VK} (q : ty σ H fun y H1 => tx σ H1 fun z H2 => rKGet K a [y, z] H2 Q) : tKGet K a ty tx σ H Q := q
theorem r_kgetY {K : PySem.W.Frag} {a : Addr} {z v : Str} {d : V} {H : Hp} {Q : VK} (h : ∃ t, PySem.W.nsIn K a z = some (some (.str v t))) (q : Q (.str v) H) : rKGet K a [.str z, d] H Q := ⟨z, d, some v, rfl, h, q⟩
theorem r_kgetN {K : PySem.W.Frag} {a : Addr} {z : Str} {d : V} {H : Hp} {Q : VK} (h : PySem.W.nsIn K a z = some none) (q : Q d H) : rKGet K a [.str z, d] H Q := ⟨z, d, none, rfl, h, q⟩
/-- what a module's dict does not hold -/
def keysOf : List DictEntry → List Str
  | [] => []
  | e :: r => (match e.key with
    | .str x _ => x
    | _ => "") :: keysOf r
theorem ns_out {K : PySem.W.Frag} {P : Params} {a : Addr} {es : Array DictEntry} {n : Nat} {ks : List Str} (l : K.lookup a = some ⟨.type "dict", none, .dict es n, #[]⟩) (k : PySem.W.KeysLit P es.toList) (e : keysOf es.toList = ks) (z : Str) (h : z ∉ ks) : PySem.W.nsIn K a z = some none := by
  subst e
  have aux : ∀ l : List DictEntry, PySem.W.KeysLit P l → z ∉ keysOf l → l.find? (·.key.isStr z) = none ∧ l.any (·.refKey) = false := by
    intro l
    induction l with
    | nil => exact fun _ _ => ⟨rfl, rfl⟩
    | cons d r ih =>
      rintro ⟨⟨x, t, e1, _⟩, kr⟩ hn
      obtain ⟨i1, i2⟩ := ih kr fun m => hn (List.mem_cons_of_mem _ m)
      have e2 : keysOf (d :: r) = x :: keysOf r := by show (match d.key with | .str x _ => x | _ => "") :: keysOf r = _; rw [e1]
      have hx : x ≠ z := fun q => hn (by rw [e2, q]; exact List.mem_cons_self ..)
      constructor
      · have e3 : (x == z) = false := by
          cases h : x == z with
          | false => rfl
          | true => exact absurd (eq_of_beq h) hx
        rw [List.find?_cons, e1]
        show (match (x == z) with | true => some d | false => List.find? (fun e : DictEntry => e.key.isStr z) r) = none
        rw [e3]
        exact i1
      · rw [List.any_cons, i2, Bool.or_false]
        show (match d.key with | .ref _ => true | _ => false) = false
        rw [e1]
  obtain ⟨a1, a2⟩ := aux _ k h
  unfold PySem.W.nsIn
  rw [l]
  dsimp only
  rw [a1, a2]
  rfl
end Tx

set_option linter.all false
set_option maxRecDepth 100000
set_option maxHeartbeats 2000000
namespace Tx
open PySem L2 PyProof.Rows Sl TL
/-! ### lists of signs, cut at a sign -/
def cutA (c : Nat) : List Nat → List Nat → List (List Nat)
  | acc, [] => [acc]
  | acc, x :: r => if x = c then acc :: cutA c [] r else cutA c (acc ++ [x]) r
theorem cutA_app (c : Nat) : ∀ (a acc b : List Nat), cutA c acc (a ++ c :: b) = cutA c acc a ++ cutA c [] b
  | [], acc, b => by
    show (if c = c then acc :: cutA c [] b else _) = _
    rw [if_pos rfl]
    rfl
  | x :: a, acc, b => by
    show (if x = c then acc :: cutA c [] (a ++ c :: b) else cutA c (acc ++ [x]) (a ++ c :: b)) = (if x = c then acc :: cutA c [] a else cutA c (acc ++ [x]) a) ++ cutA c [] b
    split
    · rw [cutA_app c a [] b]; rfl
    · exact cutA_app c a (acc ++ [x]) b
theorem cutA_no (c : Nat) : ∀ (a acc : List Nat), c ∉ a → cutA c acc a = [acc ++ a]
  | [], acc, _ => by rw [List.append_nil]; rfl
  | x :: a, acc, h => by
    show (if x = c then acc :: cutA c [] a else cutA c (acc ++ [x]) a) = _
    have hx : ¬ x = c := fun e => h (by rw [e]; exact List.mem_cons_self ..)
    rw [if_neg hx, cutA_no c a (acc ++ [x]) fun m => h (List.mem_cons_of_mem _ m), List.append_assoc]
    rfl
theorem cutA_free (c : Nat) : ∀ (a acc : List Nat), c ∉ acc → ∀ w ∈ cutA c acc a, c ∉ w
  | [], acc, h, w, m => by cases List.mem_singleton.mp m; exact h
  | x :: a, acc, h, w, m => by
    have m : w ∈ (if x = c then acc :: cutA c [] a else cutA c (acc ++ [x]) a) := m
    split at m
    · rcases List.mem_cons.mp m with rfl | m
      · exact h
      · exact cutA_free c a [] (fun z => nomatch z) w m
    · rename_i ne
      exact cutA_free c a (acc ++ [x]) (fun z => (List.mem_append.mp z).elim h fun z => ne (List.mem_singleton.mp z).symm) w m
theorem spl_cutA (c : Nat) : ∀ (l acc : List Nat), spl [c] 0 acc l = cutA c acc l
  | [], acc => by rw [spl_nil]; rfl
  | x :: r, acc => by
    show spl [c] 0 acc (x :: r) = if x = c then acc :: cutA c [] r else cutA c (acc ++ [x]) r
    by_cases h : x = c
    · subst h
      rw [if_pos rfl, spl_hit (show pre [x] (x :: r) = true from pre_self [x] r)]
      show acc :: spl [x] 0 [] r = _
      rw [spl_cutA x r []]
    · rw [if_neg h, spl_miss (pre_of_head [] r h), spl_cutA c r]
/-- x.split(sign) -/
theorem split_cut (x z : Str) (c : Nat) (hz : z.cps.toList = [c]) (hc : c < 256) : (Txt.split x z).map tl = cutA c [] (tl x) := by
  have e : tl z = [c] := hz
  rw [split_spl x z (by rw [e]; exact List.cons_ne_nil _ _) (kind_ok (by
    have : z.cps = #[c] := Array.toList_inj.mp hz
    rw [this]
    simp [hc])), e, spl_cutA]
def mkS (l : List Nat) : Str := ⟨l.toArray⟩
theorem tl_mkS (l : List Nat) : tl (mkS l) = l := rfl
theorem mkS_tl (x : Str) : mkS (tl x) = x := mk_tl x
theorem split_eq (x z : Str) (c : Nat) (hz : z.cps.toList = [c]) (hc : c < 256) : Txt.split x z = (cutA c [] (tl x)).map mkS := by
  apply map_tl_inj
  rw [split_cut x z c hz hc, List.map_map]
  exact (List.map_id'' (f := tl ∘ mkS) (fun l => rfl) _).symm
/-- words of a line -/
def wds (l : List Nat) : List (List Nat) := (cutA 32 [] l).filter fun w => decide (w ≠ [])
theorem wds_app (a b : List Nat) : wds (a ++ 32 :: b) = wds a ++ wds b := by
  unfold wds
  rw [cutA_app, List.filter_append]
theorem wds_nil : wds [] = [] := by rfl
theorem wds_one {w : List Nat} (h : 32 ∉ w) (h0 : w ≠ []) : wds w = [w] := by
  unfold wds
  rw [cutA_no 32 w [] h, List.nil_append, List.filter_cons, if_pos (decide_eq_true h0)]
  rfl
theorem wds_blank : ∀ (k : Nat) (b : List Nat), wds (List.replicate k 32 ++ b) = wds b
  | 0, b => by simp
  | k + 1, b => by
    rw [List.replicate_succ, List.cons_append]
    have := wds_app [] (List.replicate k 32 ++ b)
    rw [List.nil_append, wds_nil, List.nil_append] at this
    rw [this, wds_blank k b]
theorem wds_blanks (k : Nat) : wds (List.replicate k 32) = [] := by
  have := wds_blank k []
  rw [List.append_nil] at this
  exact this
theorem wds_behind (a : List Nat) : ∀ k : Nat, wds (a ++ List.replicate k 32) = wds a
  | 0 => by simp
  | k + 1 => by rw [List.replicate_succ, wds_app, wds_blanks, List.append_nil]
theorem wds_more (a : List Nat) {k : Nat} (hk : 1 ≤ k) {w : List Nat} (h : 32 ∉ w) (h0 : w ≠ []) : wds (a ++ List.replicate k 32 ++ w) = wds a ++ [w] := by
  obtain ⟨k, rfl⟩ : ∃ j, k = j + 1 := ⟨k - 1, by omega⟩
  rw [List.replicate_succ, List.append_assoc, List.cons_append, wds_app, wds_blank, wds_one h h0]
/-- texts: a line's words, a text's lines -/
def lineW (y : Str) : List Str := (wds (tl y)).map mkS
theorem lineW_eq (y z : Str) (hz : z.cps.toList = [32]) : (Txt.split y z).filter (fun w => decide (w ≠ ("" : Str))) = lineW y := by
  rw [split_eq y z 32 hz (by decide), List.filter_map]
  unfold lineW wds
  congr 1
  refine List.filter_congr fun w _ => ?_
  show decide (mkS w ≠ "") = decide (w ≠ [])
  refine decide_eq_decide.mpr (not_congr ⟨fun e => ?_, fun e => by rw [e]; rfl⟩)
  have := congrArg tl e
  exact this
theorem tl_join (x : Str) : ∀ (y : Str) (ys : List Str), tl (Txt.join x (y :: ys)) = tl y ++ (ys.map fun z => tl x ++ tl z).flatten := by
  intro y ys
  show tl (Builtin.Str.glued x (y :: ys)) = _
  rw [PySem.StrLaws.glued_eq_join]
  induction ys generalizing y with
  | nil => show tl y = tl y ++ []; rw [List.append_nil]
  | cons z r ih =>
    show tl (y ++ x ++ PySem.Str.join x (z :: r)) = _
    rw [tl_append, tl_append, ih z, List.map_cons, List.flatten_cons, List.append_assoc, List.append_assoc]
theorem cut_lines : ∀ (a : List Nat) (ls : List (List Nat)), 10 ∉ a → (∀ l ∈ ls, 10 ∉ l) → cutA 10 [] (a ++ (ls.map fun l => [10] ++ l).flatten) = a :: ls
  | a, [], h, _ => by
    rw [List.map_nil, List.flatten_nil, List.append_nil, cutA_no 10 a [] h]
    rfl
  | a, l :: ls, h, hl => by
    rw [List.map_cons, List.flatten_cons]
    show cutA 10 [] (a ++ 10 :: (l ++ (ls.map fun l => [10] ++ l).flatten)) = _
    rw [cutA_app, cutA_no 10 a [] h, cut_lines l ls (hl l (List.mem_cons_self ..)) fun x m => hl x (List.mem_cons_of_mem _ m)]
    rfl
/-- a joined text, cut again -/
theorem split_join {ys : List Str} {z : Str} (hz : z.cps.toList = [10]) (h0 : ys ≠ []) (h : ∀ y ∈ ys, 10 ∉ tl y) : Txt.split (Txt.join z ys) z = ys := by
  obtain ⟨y, r, rfl⟩ := List.exists_cons_of_ne_nil h0
  rw [split_eq _ z 10 hz (by decide), tl_join]
  have e : tl z = [10] := hz
  rw [e]
  have := cut_lines (tl y) (r.map tl) (h y (List.mem_cons_self ..)) fun l m => by
    obtain ⟨w, mw, rfl⟩ := List.mem_map.mp m
    exact h w (List.mem_cons_of_mem _ mw)
  rw [List.map_map] at this
  rw [show (r.map fun w => [10] ++ tl w) = r.map ((fun l => [10] ++ l) ∘ tl) from rfl, this, List.map_cons, mkS_tl, List.map_map]
  congr 1
  exact List.map_id'' (f := mkS ∘ tl) (fun w => mkS_tl w) r
theorem nl_tl : ("\n" : Str).cps.toList = [10] := by decide +kernel
theorem sp_tl : (" " : Str).cps.toList = [32] := by decide +kernel
end Tx
namespace Tx
open PySem L2 PyProof.Rows Sl
/-! ### signs and parts of texts -/
theorem r_slS {H : Hp} {Q : VK} {z : Str} {lo hi : Option Int} (hz : z.length ≤ sizeLine) (q : Q (.str (cutS z lo hi)) H) : rSlS (.str z) lo hi H Q := ⟨z, rfl, hz, q⟩
theorem r_ixS0 {K : PySem.W.Frag} {H : Hp} {Q : VK} {z : Str} {c : Nat} (hz : z.length ≤ sizeLine) (h : z.cps.toList.head? = some c) (q : Q (.str ⟨#[c]⟩) H) : rIxU K (.str z) (.int 0) H Q := by
  exact .inl (.inr (.inr ⟨z, 0, c, rfl, rfl, hz, atI_nat (j := 0) (by rw [← List.head?_eq_getElem?]; exact h), q⟩))
end Tx
namespace Tx
open PySem PySem.Spec L2 PyProof.Rows Sl
/-! ### l == [] -/
def rEqL0 : R2 := fun x y H Q => ∃ a b xs, x = .ref a ∧ y = .ref b ∧ H a = some (.lst xs) ∧ H b = some (.lst []) ∧ Q (.bl xs.isEmpty) H
theorem op_eqL0 {X : Cx} (hu : X.A.units + 64 < cLine) : OpR X (compareOp .Eq) rEqL0 := by
  intro pins s σ H x y v u Q I rx ry h
  obtain ⟨a, b, xs, rfl, rfl, ha, hb, q⟩ := h
  obtain rfl : v = Value.ref a := rx
  obtain rfl : u = Value.ref b := ry
  obtain ⟨_, its, n, r, _, e⟩ := I.lstM ha
  obtain ⟨_, its2, n2, r2, _, e2⟩ := I.lstM hb
  cases r2
  have ta : s.TypeIs (.ref a) "list" := ⟨_, e, rfl⟩
  have tb : s.TypeIs (.ref b) "list" := ⟨_, e2, rfl⟩
  show wpAny _ _ (richCompare .Eq (.ref a) (.ref b)) _ _ _
  cases xs with
  | nil =>
    cases r
    exact PySem.SeqAt.rcP_lists ⟨_, e, rfl, _, rfl⟩ ⟨_, e2, rfl, _, rfl⟩ rfl (by omega) (e := fun _ => true) (fun j h1 => absurd h1 (Nat.not_lt_zero _)) _ _ ⟨.bl true, H, I, rfl, q⟩
  | cons x1 xr =>
    have hl := r.length
    have ne : (its.toArray.size != ([] : List Value).toArray.size) = true := by
      rw [List.size_toArray, List.size_toArray, ← hl]
      rfl
    exact wpAny_richCompare_same_room (op := .Eq) ta tb F.slot_list_eq (call_meets F.slot_list_eq ta F.entry_list_eq (F.args_list_eq_2 _ _) (AutoSeq1.list___eq___list_list_0 a its.toArray n b _ n2 ne)
      ⟨e, e2, show Value.bool false ≠ Value.notImplemented ∧ _ from ⟨(fun x => nomatch x), .bl false, H, I, rfl, q⟩⟩) (by omega)
theorem r_eqL0 {a b : Addr} {xs : List V} {H : Hp} {Q : VK} (ha : H a = some (.lst xs)) (hb : H b = some (.lst [])) (q : Q (.bl xs.isEmpty) H) : rEqL0 (.ref a) (.ref b) H Q := ⟨a, b, xs, rfl, rfl, ha, hb, q⟩
end Tx
namespace Tx
open PySem PySem.Spec L2 PyProof.Rows Sl
def InVK (x : V) (Q : VK) (y : V) (H2 : Hp) : Prop := ∃ (n : Int) (d : Addr) (kvs : List (Key × V)) (ns : List Int), x = .int n ∧ y = .ref d ∧ H2 d = some (.dK kvs) ∧ kvs.map (·.2) = ns.map V.int ∧ Q (.bl (ns.any (· == n))) H2
theorem r_inV {ta td : TE} {σ : L2.St} {H : Hp} {Q : VK} (q : ta σ H fun x H1 => td σ H1 (InVK x Q)) : Iv.tInV ta td σ H Q := q
theorem r_inVK {n : Int} {d : Addr} {kvs : List (Key × V)} {ns : List Int} {H : Hp} {Q : VK} (h : H d = some (.dK kvs)) (e : kvs.map (·.2) = ns.map V.int) (q : Q (.bl (ns.any (· == n))) H) : InVK (.int n) Q (.ref d) H := ⟨n, d, kvs, ns, rfl, rfl, h, e, q⟩
end Tx
namespace Tx
open PySem PySem.Spec L2 PyProof.Rows Sl
end Tx
namespace PySem.AutoSeq1
open PySem Builtin
theorem list_ne_sizes (l : Addr) (items : Array Value) (n : Nat) (b : Addr) (items2 : Array Value) (n2 : Nat) (hc0 : (items.size != items2.size) = true) :
    Meets (Builtin.«list.__ne__» ⟨[.ref l, .ref b], []⟩) (fun _ R s => s.heap.get? l = some { cls := .type "list", dict := none, data := .seq items n, slots := #[] } ∧ s.heap.get? b = some { cls := .type "list", dict := none, data := .seq items2 n2, slots := #[] } ∧ R (.ok (.ret (Value.bool true))) s) :=
  .of_wp fun prog w A R s h => by obtain ⟨hp, g, d, tk, os⟩ := s; obtain ⟨hl, hb, h⟩ := h; have f1 := idx_int; have f2 := sub_tuple_tuple; have f3 := sub_list_list; have f4 := sub_tuple_list; have f5 := sub_list_tuple; wp_walk using wpAny_loadPart' hl, wpAny_loadPart' hb; exact ⟨_, rfl, h⟩
end PySem.AutoSeq1
namespace Tx
open PySem PySem.Spec L2 PyProof.Rows Sl
/-! ### l != [] -/
def rNeL1 : R2 := fun x y H Q => ∃ a b z xs, x = .ref a ∧ y = .ref b ∧ H a = some (.lst (z :: xs)) ∧ H b = some (.lst []) ∧ Q (.bl true) H
theorem op_neL1 {X : Cx} (hu : X.A.units + 64 < cLine) : OpR X (compareOp .NotEq) rNeL1 := by
  intro pins s σ H x y v u Q I rx ry h
  obtain ⟨a, b, z, xs, rfl, rfl, ha, hb, q⟩ := h
  obtain rfl : v = Value.ref a := rx
  obtain rfl : u = Value.ref b := ry
  obtain ⟨_, its, n, r, _, e⟩ := I.lstM ha
  obtain ⟨_, its2, n2, r2, _, e2⟩ := I.lstM hb
  cases r2
  have ta : s.TypeIs (.ref a) "list" := ⟨_, e, rfl⟩
  have tb : s.TypeIs (.ref b) "list" := ⟨_, e2, rfl⟩
  show wpAny _ _ (richCompare .NotEq (.ref a) (.ref b)) _ _ _
  have hl := r.length
  have ne : (its.toArray.size != ([] : List Value).toArray.size) = true := by
    rw [List.size_toArray, List.size_toArray, ← hl]
    rfl
  exact wpAny_richCompare_same_room (op := .NotEq) ta tb F.slot_list_ne (call_meets F.slot_list_ne ta F.entry_list_ne (F.args_list_ne_2 _ _) (AutoSeq1.list_ne_sizes a its.toArray n b _ n2 ne)
    ⟨e, e2, show Value.bool true ≠ Value.notImplemented ∧ _ from ⟨(fun x => nomatch x), .bl true, H, I, rfl, q⟩⟩) (by omega)
def rNeL0 (K : PySem.W.Frag) : R2 := fun x y H Q => rNeL1 x y H Q ∨ rNeU K x y H Q
theorem op_neL0 {X : Cx} {K : PySem.W.Frag} (h : X.K = K) (hu : X.A.units + 64 < cLine) : OpR X (compareOp .NotEq) (rNeL0 K) := by
  subst h
  exact (op_neL1 hu).or (u_ne hu)
theorem r_neL0 {K : PySem.W.Frag} {a b : Addr} {xs : List V} {H : Hp} {Q : VK} (ha : H a = some (.lst xs)) (hb : H b = some (.lst [])) (q : Q (.bl (!xs.isEmpty)) H) : rNeL0 K (.ref a) (.ref b) H Q := by
  cases xs with
  | nil => exact .inr (Sl.r_neD1 (d := .list []) (.lst (SqL.of ha) .nil) (.lst (SqL.of hb) .nil) (by decide) q)
  | cons z xs => exact .inl ⟨a, b, z, xs, rfl, rfl, ha, hb, q⟩
/-! ### lengths of parts -/
theorem cutA_len (c : Nat) : ∀ (a acc : List Nat), ∀ w ∈ cutA c acc a, w.length ≤ acc.length + a.length
  | [], acc, w, m => by cases List.mem_singleton.mp m; exact Nat.le_refl _
  | x :: a, acc, w, m => by
    have m : w ∈ (if x = c then acc :: cutA c [] a else cutA c (acc ++ [x]) a) := m
    rw [List.length_cons]
    split at m
    · rcases List.mem_cons.mp m with rfl | m
      · omega
      · have := cutA_len c a [] w m
        rw [List.length_nil] at this
        omega
    · have := cutA_len c a (acc ++ [x]) w m
      rw [List.length_append, List.length_singleton] at this
      omega
theorem cutA_num (c : Nat) : ∀ (a acc : List Nat), (cutA c acc a).length ≤ a.length + 1
  | [], acc => Nat.le_refl _
  | x :: a, acc => by
    show (if x = c then acc :: cutA c [] a else cutA c (acc ++ [x]) a).length ≤ _
    rw [List.length_cons]
    split
    · have := cutA_num c a []
      rw [List.length_cons]
      omega
    · have := cutA_num c a (acc ++ [x])
      omega
theorem split_len {x z : Str} {c : Nat} (hz : z.cps.toList = [c]) (hc : c < 256) : (∀ y ∈ Txt.split x z, y.length ≤ x.length) ∧ (Txt.split x z).length ≤ x.length + 1 := by
  have hx : (TL.tl x).length = x.length := (TL.len_tl x).symm
  rw [split_eq x z c hz hc]
  constructor
  · intro y m
    obtain ⟨w, mw, rfl⟩ := List.mem_map.mp m
    have := cutA_len c (TL.tl x) [] w mw
    rw [List.length_nil, hx] at this
    show w.toArray.size ≤ _
    rw [List.size_toArray]
    omega
  · rw [List.length_map]
    have := cutA_num c (TL.tl x) []
    omega
theorem lineW_len (y : Str) : (∀ w ∈ lineW y, w.length ≤ y.length) ∧ (lineW y).length ≤ y.length + 1 := by
  obtain ⟨a, b⟩ := split_len (x := y) sp_tl (by decide)
  rw [← lineW_eq y " " sp_tl]
  exact ⟨fun w m => a w (List.mem_filter.mp m).1, Nat.le_trans (List.length_filter_le _ _) b⟩
end Tx

namespace My
open PySem L2 Sl
def top (i : Nat) : Stmt := PySem.Challenge.pw_keelroom_k05_whole_texts_there_and_back.main.body.getD i (.Pass ⟨0, 0, 0, 0⟩)
abbrev s_is_whole : Stmt := top 5
abbrev s_is_among : Stmt := top 6
abbrev s_is_word : Stmt := top 7
abbrev s_is_place : Stmt := top 16
abbrev s_is_register : Stmt := top 17
abbrev s_is_part : Stmt := top 18
abbrev s_is_row : Stmt := top 19
abbrev s_target_of : Stmt := top 20
abbrev s_label_of : Stmt := top 21
abbrev s_Program_init : Stmt := inClass (top 22) 0
abbrev s_Program_rows : Stmt := inClass (top 22) 1
abbrev s_Program_row : Stmt := inClass (top 22) 2
abbrev s_Program_labels : Stmt := inClass (top 22) 3
abbrev s_Program_text : Stmt := inClass (top 22) 4
abbrev s_program_of : Stmt := top 23
abbrev s_is_label : Stmt := top 24
abbrev s_number_in : Stmt := top 25
abbrev s_is_written : Stmt := top 26
abbrev s_Reading_init : Stmt := inClass (top 27) 0
abbrev s_Reading_put : Stmt := inClass (top 27) 1
abbrev s_Reading_part : Stmt := inClass (top 27) 2
abbrev s_Reading_code : Stmt := inClass (top 27) 3
abbrev s_read : Stmt := top 28
abbrev s_law_mixed : Stmt := top 30
abbrev s_law_next : Stmt := top 31
abbrev s_law_state : Stmt := top 32
abbrev s_law_forms : Stmt := top 33
abbrev s_law_part : Stmt := top 34
abbrev s_law_code : Stmt := top 35
abbrev s_law_letters : Stmt := top 36
abbrev s_law_asked : Stmt := top 37
abbrev s_law_row_words : Stmt := top 38
abbrev s_law_names : Stmt := top 40
abbrev s_law_gap : Stmt := top 41
abbrev s_law_loose : Stmt := top 42
abbrev s_law_other : Stmt := top 43
abbrev s_law_labels_right : Stmt := top 44
abbrev s_law : Stmt := top 45
theorem sc_is_whole : FnScope ["thing"] ["thing"] (defScope s_is_whole) := ⟨rfl, rfl, rfl, by decide +kernel, rfl, by decide +kernel, by decide +kernel⟩
theorem sc_is_among : FnScope ["thing", "least", "most"] ["thing", "least", "most"] (defScope s_is_among) := ⟨rfl, rfl, rfl, by decide +kernel, rfl, by decide +kernel, by decide +kernel⟩
theorem sc_is_word : FnScope ["thing"] ["thing"] (defScope s_is_word) := ⟨rfl, rfl, rfl, by decide +kernel, rfl, by decide +kernel, by decide +kernel⟩
theorem sc_is_place : FnScope ["thing", "many"] ["thing", "many"] (defScope s_is_place) := ⟨rfl, rfl, rfl, by decide +kernel, rfl, by decide +kernel, by decide +kernel⟩
theorem sc_is_register : FnScope ["thing"] ["thing"] (defScope s_is_register) := ⟨rfl, rfl, rfl, by decide +kernel, rfl, by decide +kernel, by decide +kernel⟩
theorem sc_is_part : FnScope ["form", "thing", "many"] ["form", "thing", "many"] (defScope s_is_part) := ⟨rfl, rfl, rfl, by decide +kernel, rfl, by decide +kernel, by decide +kernel⟩
theorem sc_is_row : FnScope ["thing", "many", "form", "sign", "part"] ["thing", "many"] (defScope s_is_row) := ⟨rfl, rfl, rfl, by decide +kernel, rfl, by decide +kernel, by decide +kernel⟩
theorem sc_target_of : FnScope ["row", "form"] ["row"] (defScope s_target_of) := ⟨rfl, rfl, rfl, by decide +kernel, rfl, by decide +kernel, by decide +kernel⟩
theorem sc_label_of : FnScope ["number", "found", "left"] ["number"] (defScope s_label_of) := ⟨rfl, rfl, rfl, by decide +kernel, rfl, by decide +kernel, by decide +kernel⟩
theorem sc_Program_init : FnScope ["self", "listed"] ["self", "listed"] (defScope s_Program_init) := ⟨rfl, rfl, rfl, by decide +kernel, rfl, by decide +kernel, by decide +kernel⟩
theorem sc_Program_rows : FnScope ["self"] ["self"] (defScope s_Program_rows) := ⟨rfl, rfl, rfl, by decide +kernel, rfl, by decide +kernel, by decide +kernel⟩
theorem sc_Program_row : FnScope ["self", "place"] ["self", "place"] (defScope s_Program_row) := ⟨rfl, rfl, rfl, by decide +kernel, rfl, by decide +kernel, by decide +kernel⟩
theorem sc_Program_labels : FnScope ["self", "asked", "row", "found", "at"] ["self"] (defScope s_Program_labels) := ⟨rfl, rfl, rfl, by decide +kernel, rfl, by decide +kernel, by decide +kernel⟩
theorem sc_Program_text : FnScope ["self", "labels", "lines", "at", "row", "words", "sign", "part"] ["self"] (defScope s_Program_text) := ⟨rfl, rfl, rfl, by decide +kernel, rfl, by decide +kernel, by decide +kernel⟩
theorem sc_program_of : FnScope ["rows", "number", "row"] ["rows"] (defScope s_program_of) := ⟨rfl, rfl, rfl, by decide +kernel, rfl, by decide +kernel, by decide +kernel⟩
theorem sc_is_label : FnScope ["word", "sign"] ["word"] (defScope s_is_label) := ⟨rfl, rfl, rfl, by decide +kernel, rfl, by decide +kernel, by decide +kernel⟩
theorem sc_number_in : FnScope ["word", "sign"] ["word"] (defScope s_number_in) := ⟨rfl, rfl, rfl, by decide +kernel, rfl, by decide +kernel, by decide +kernel⟩
theorem sc_is_written : FnScope ["form", "word"] ["form", "word"] (defScope s_is_written) := ⟨rfl, rfl, rfl, by decide +kernel, rfl, by decide +kernel, by decide +kernel⟩
theorem sc_Reading_init : FnScope ["self"] ["self"] (defScope s_Reading_init) := ⟨rfl, rfl, rfl, by decide +kernel, rfl, by decide +kernel, by decide +kernel⟩
theorem sc_Reading_put : FnScope ["self", "words", "line", "name", "form", "sign", "word"] ["self", "words", "line"] (defScope s_Reading_put) := ⟨rfl, rfl, rfl, by decide +kernel, rfl, by decide +kernel, by decide +kernel⟩
theorem sc_Reading_part : FnScope ["self", "form", "word", "line"] ["self", "form", "word", "line"] (defScope s_Reading_part) := ⟨rfl, rfl, rfl, by decide +kernel, rfl, by decide +kernel, by decide +kernel⟩
theorem sc_Reading_code : FnScope ["self", "last", "found", "words", "line", "form", "parts", "sign", "word"] ["self", "last"] (defScope s_Reading_code) := ⟨rfl, rfl, rfl, by decide +kernel, rfl, by decide +kernel, by decide +kernel⟩
theorem sc_read : FnScope ["text", "reading", "lines", "number", "line", "words", "word"] ["text"] (defScope s_read) := ⟨rfl, rfl, rfl, by decide +kernel, rfl, by decide +kernel, by decide +kernel⟩
theorem sc_law_mixed : FnScope ["_law_cell", "_law_k"] ["_law_cell", "_law_k"] (defScope s_law_mixed) := ⟨rfl, rfl, rfl, by decide +kernel, rfl, by decide +kernel, by decide +kernel⟩
theorem sc_law_next : FnScope ["_law_state_here", "_law_number"] ["_law_state_here"] (defScope s_law_next) := ⟨rfl, rfl, rfl, by decide +kernel, rfl, by decide +kernel, by decide +kernel⟩
theorem sc_law_state : FnScope ["_law_cell"] ["_law_cell"] (defScope s_law_state) := ⟨rfl, rfl, rfl, by decide +kernel, rfl, by decide +kernel, by decide +kernel⟩
theorem sc_law_forms : FnScope ["_law_found", "_law_word"] [] (defScope s_law_forms) := ⟨rfl, rfl, rfl, by decide +kernel, rfl, by decide +kernel, by decide +kernel⟩
theorem sc_law_part : FnScope ["_law_state_here", "_law_sign", "_law_many", "_law_number"] ["_law_state_here", "_law_sign", "_law_many"] (defScope s_law_part) := ⟨rfl, rfl, rfl, by decide +kernel, rfl, by decide +kernel, by decide +kernel⟩
theorem sc_law_code : FnScope ["_law_state_here", "_law_most", "_law_number", "_law_more", "_law_many", "_law_forms_here", "_law_found", "_law_at", "_law_word", "_law_sign"] ["_law_state_here", "_law_most"] (defScope s_law_code) := ⟨rfl, rfl, rfl, by decide +kernel, rfl, by decide +kernel, by decide +kernel⟩
theorem sc_law_letters : FnScope ["_law_number", "_law_letters_here", "_law_found"] ["_law_number"] (defScope s_law_letters) := ⟨rfl, rfl, rfl, by decide +kernel, rfl, by decide +kernel, by decide +kernel⟩
theorem sc_law_asked : FnScope ["_law_code_here", "_law_forms_here", "_law_found", "_law_row", "_law_sign", "_law_part_here"] ["_law_code_here"] (defScope s_law_asked) := ⟨rfl, rfl, rfl, by decide +kernel, rfl, by decide +kernel, by decide +kernel⟩
theorem sc_law_row_words : FnScope ["_law_row", "_law_labels", "_law_found", "_law_sign", "_law_part_here"] ["_law_row", "_law_labels"] (defScope s_law_row_words) := ⟨rfl, rfl, rfl, by decide +kernel, rfl, by decide +kernel, by decide +kernel⟩
theorem sc_law_names : FnScope ["_law_state_here", "_law_some", "_law_first", "_law_border", "_law_k"] ["_law_state_here"] (defScope s_law_names) := ⟨rfl, rfl, rfl, by decide +kernel, rfl, by decide +kernel, by decide +kernel⟩
theorem sc_law_gap : FnScope ["_law_state_here"] ["_law_state_here"] (defScope s_law_gap) := ⟨rfl, rfl, rfl, by decide +kernel, rfl, by decide +kernel, by decide +kernel⟩
theorem sc_law_loose : FnScope ["_law_state_here", "_law_code_here", "_law_left", "_law_labels", "_law_at", "_law_found", "_law_row", "_law_number", "_law_ahead", "_law_words", "_law_line", "_law_word", "_law_one"] ["_law_state_here", "_law_code_here"] (defScope s_law_loose) := ⟨rfl, rfl, rfl, by decide +kernel, rfl, by decide +kernel, by decide +kernel⟩
theorem sc_law_other : FnScope ["_law_state_here", "_law_code_here", "_law_at", "_law_some", "_law_row", "_law_other_here"] ["_law_state_here", "_law_code_here"] (defScope s_law_other) := ⟨rfl, rfl, rfl, by decide +kernel, rfl, by decide +kernel, by decide +kernel⟩
theorem sc_law_labels_right : FnScope ["_law_text", "_law_code_here", "_law_asked_here", "_law_at", "_law_met", "_law_line"] ["_law_text", "_law_code_here"] (defScope s_law_labels_right) := ⟨rfl, rfl, rfl, by decide +kernel, rfl, by decide +kernel, by decide +kernel⟩
theorem sc_law : FnScope ["_law_script", "_law_cell", "_law_state_here", "_law_code_here", "_law_program", "_law_text", "_law_again", "_law_turn", "_law_other_here", "_law_many", "_law_k"] ["_law_script"] (defScope s_law) := ⟨rfl, rfl, rfl, by decide +kernel, rfl, by decide +kernel, by decide +kernel⟩
def fs_Program (x0 : V) : List (Str × V) := [(("listed" : Str), x0)]
theorem lk_Program_listed {x0 : V} : (fs_Program x0).lookup ("listed" : Str) = some x0 := by kernel_rfl
theorem pf_Program_listed {x0 : V} {y : V} : putF "listed" y (fs_Program x0) = fs_Program y := by kernel_rfl
theorem pi_Program_listed {x0 : V} : putF "listed" x0 ([] : List (Str × V)) = fs_Program x0 := by kernel_rfl
theorem ln_Program {x0 : V} : (fs_Program x0).length < 1000 := by show 1 < 1000; decide
theorem lm_Program_rows {x0 : V} : (fs_Program x0).lookup ("rows" : Str) = none := by kernel_rfl
theorem lm_Program_row {x0 : V} : (fs_Program x0).lookup ("row" : Str) = none := by kernel_rfl
theorem lm_Program_labels {x0 : V} : (fs_Program x0).lookup ("labels" : Str) = none := by kernel_rfl
theorem lm_Program_text {x0 : V} : (fs_Program x0).lookup ("text" : Str) = none := by kernel_rfl
def fs_Reading (x0 : V) (x1 : V) : List (Str × V) := [(("drafts" : Str), x0), (("marks" : Str), x1)]
theorem lk_Reading_drafts {x0 : V} {x1 : V} : (fs_Reading x0 x1).lookup ("drafts" : Str) = some x0 := by kernel_rfl
theorem pf_Reading_drafts {x0 : V} {x1 : V} {y : V} : putF "drafts" y (fs_Reading x0 x1) = fs_Reading y x1 := by kernel_rfl
theorem pi_Reading_drafts {x0 : V} : putF "drafts" x0 ([] : List (Str × V)) = [(("drafts" : Str), x0)] := by kernel_rfl
theorem lk_Reading_marks {x0 : V} {x1 : V} : (fs_Reading x0 x1).lookup ("marks" : Str) = some x1 := by kernel_rfl
theorem pf_Reading_marks {x0 : V} {x1 : V} {y : V} : putF "marks" y (fs_Reading x0 x1) = fs_Reading x0 y := by kernel_rfl
theorem pi_Reading_marks {x0 : V} {x1 : V} : putF "marks" x1 ([(("drafts" : Str), x0)] : List (Str × V)) = fs_Reading x0 x1 := by kernel_rfl
theorem ln_Reading {x0 : V} {x1 : V} : (fs_Reading x0 x1).length < 1000 := by show 2 < 1000; decide
theorem lm_Reading_put {x0 : V} {x1 : V} : (fs_Reading x0 x1).lookup ("put" : Str) = none := by kernel_rfl
theorem lm_Reading_part {x0 : V} {x1 : V} : (fs_Reading x0 x1).lookup ("part" : Str) = none := by kernel_rfl
theorem lm_Reading_code {x0 : V} {x1 : V} : (fs_Reading x0 x1).lookup ("code" : Str) = none := by kernel_rfl
def stK (x0 : V) (x1 : V) (x2 : V) : List (Key × V) := [(Sum.inr ("cell" : Str), x0), (Sum.inr ("left" : Str), x1), (Sum.inr ("at" : Str), x2)]
theorem stK_len {x0 : V} {x1 : V} {x2 : V} : (stK x0 x1 x2).length < sizeLine := szlt (by show 3 < 100000; decide)
theorem stK_disp {x0 : V} {x1 : V} {x2 : V} : mergeK [] ([(Sum.inr ("cell" : Str), x0), (Sum.inr ("left" : Str), x1), (Sum.inr ("at" : Str), x2)] : List (Key × V)) = stK x0 x1 x2 := by kernel_rfl
theorem stK_g_cell {x0 : V} {x1 : V} {x2 : V} : valV (stK x0 x1 x2) (.inr "cell") = some x0 := by kernel_rfl
theorem stK_p_cell {x0 : V} {x1 : V} {x2 : V} {y : V} : putK (stK x0 x1 x2) (.inr "cell") y = stK y x1 x2 := by kernel_rfl
theorem stK_g_left {x0 : V} {x1 : V} {x2 : V} : valV (stK x0 x1 x2) (.inr "left") = some x1 := by kernel_rfl
theorem stK_p_left {x0 : V} {x1 : V} {x2 : V} {y : V} : putK (stK x0 x1 x2) (.inr "left") y = stK x0 y x2 := by kernel_rfl
theorem stK_g_at {x0 : V} {x1 : V} {x2 : V} : valV (stK x0 x1 x2) (.inr "at") = some x2 := by kernel_rfl
theorem stK_p_at {x0 : V} {x1 : V} {x2 : V} {y : V} : putK (stK x0 x1 x2) (.inr "at") y = stK x0 x1 y := by kernel_rfl
structure Txt (K : PySem.W.Frag) (mg : Str → Option Value) where
  wP : Params
  C_Program : Addr
  cl_Program : Cls K C_Program
  g_Program : mg "Program" = some (.ref C_Program)
  n_Program_listed : NoAttr K C_Program "listed"
  C_Reading : Addr
  cl_Reading : Cls K C_Reading
  g_Reading : mg "Reading" = some (.ref C_Reading)
  n_Reading_drafts : NoAttr K C_Reading "drafts"
  n_Reading_marks : NoAttr K C_Reading "marks"
  x_NoCode : Addr
  gx_NoCode : mg "NoCode" = some (.ref x_NoCode)
  a_is_whole : Addr
  d_is_whole : FuncData
  f_is_whole : Fun K "is_whole" "is_whole" s_is_whole a_is_whole d_is_whole
  b_is_whole : Binds K d_is_whole ["thing"] []
  g_is_whole : mg "is_whole" = some (.ref a_is_whole)
  a_is_among : Addr
  d_is_among : FuncData
  f_is_among : Fun K "is_among" "is_among" s_is_among a_is_among d_is_among
  b_is_among : Binds K d_is_among ["thing", "least", "most"] []
  g_is_among : mg "is_among" = some (.ref a_is_among)
  a_is_word : Addr
  d_is_word : FuncData
  f_is_word : Fun K "is_word" "is_word" s_is_word a_is_word d_is_word
  b_is_word : Binds K d_is_word ["thing"] []
  g_is_word : mg "is_word" = some (.ref a_is_word)
  a_is_place : Addr
  d_is_place : FuncData
  f_is_place : Fun K "is_place" "is_place" s_is_place a_is_place d_is_place
  b_is_place : Binds K d_is_place ["thing", "many"] []
  g_is_place : mg "is_place" = some (.ref a_is_place)
  a_is_register : Addr
  d_is_register : FuncData
  f_is_register : Fun K "is_register" "is_register" s_is_register a_is_register d_is_register
  b_is_register : Binds K d_is_register ["thing"] []
  g_is_register : mg "is_register" = some (.ref a_is_register)
  a_is_part : Addr
  d_is_part : FuncData
  f_is_part : Fun K "is_part" "is_part" s_is_part a_is_part d_is_part
  b_is_part : Binds K d_is_part ["form", "thing", "many"] []
  g_is_part : mg "is_part" = some (.ref a_is_part)
  a_is_row : Addr
  d_is_row : FuncData
  f_is_row : Fun K "is_row" "is_row" s_is_row a_is_row d_is_row
  b_is_row : Binds K d_is_row ["thing", "many"] []
  g_is_row : mg "is_row" = some (.ref a_is_row)
  a_target_of : Addr
  d_target_of : FuncData
  f_target_of : Fun K "target_of" "target_of" s_target_of a_target_of d_target_of
  b_target_of : Binds K d_target_of ["row"] []
  g_target_of : mg "target_of" = some (.ref a_target_of)
  a_label_of : Addr
  d_label_of : FuncData
  f_label_of : Fun K "label_of" "label_of" s_label_of a_label_of d_label_of
  b_label_of : Binds K d_label_of ["number"] []
  g_label_of : mg "label_of" = some (.ref a_label_of)
  a_Program_init : Addr
  d_Program_init : FuncData
  f_Program_init : Fun K "__init__" "Program.__init__" s_Program_init a_Program_init d_Program_init
  b_Program_init : Binds K d_Program_init ["self", "listed"] []
  mk_Program : Mk K C_Program a_Program_init
  a_Program_rows : Addr
  d_Program_rows : FuncData
  f_Program_rows : Fun K "rows" "Program.rows" s_Program_rows a_Program_rows d_Program_rows
  b_Program_rows : Binds K d_Program_rows ["self"] []
  m_Program_rows : Meth K C_Program "rows" a_Program_rows
  a_Program_row : Addr
  d_Program_row : FuncData
  f_Program_row : Fun K "row" "Program.row" s_Program_row a_Program_row d_Program_row
  b_Program_row : Binds K d_Program_row ["self", "place"] []
  m_Program_row : Meth K C_Program "row" a_Program_row
  a_Program_labels : Addr
  d_Program_labels : FuncData
  f_Program_labels : Fun K "labels" "Program.labels" s_Program_labels a_Program_labels d_Program_labels
  b_Program_labels : Binds K d_Program_labels ["self"] []
  m_Program_labels : Meth K C_Program "labels" a_Program_labels
  a_Program_text : Addr
  d_Program_text : FuncData
  f_Program_text : Fun K "text" "Program.text" s_Program_text a_Program_text d_Program_text
  b_Program_text : Binds K d_Program_text ["self"] []
  m_Program_text : Meth K C_Program "text" a_Program_text
  a_program_of : Addr
  d_program_of : FuncData
  f_program_of : Fun K "program_of" "program_of" s_program_of a_program_of d_program_of
  b_program_of : Binds K d_program_of ["rows"] []
  g_program_of : mg "program_of" = some (.ref a_program_of)
  a_is_label : Addr
  d_is_label : FuncData
  f_is_label : Fun K "is_label" "is_label" s_is_label a_is_label d_is_label
  b_is_label : Binds K d_is_label ["word"] []
  g_is_label : mg "is_label" = some (.ref a_is_label)
  a_number_in : Addr
  d_number_in : FuncData
  f_number_in : Fun K "number_in" "number_in" s_number_in a_number_in d_number_in
  b_number_in : Binds K d_number_in ["word"] []
  g_number_in : mg "number_in" = some (.ref a_number_in)
  a_is_written : Addr
  d_is_written : FuncData
  f_is_written : Fun K "is_written" "is_written" s_is_written a_is_written d_is_written
  b_is_written : Binds K d_is_written ["form", "word"] []
  g_is_written : mg "is_written" = some (.ref a_is_written)
  a_Reading_init : Addr
  d_Reading_init : FuncData
  f_Reading_init : Fun K "__init__" "Reading.__init__" s_Reading_init a_Reading_init d_Reading_init
  b_Reading_init : Binds K d_Reading_init ["self"] []
  mk_Reading : Mk K C_Reading a_Reading_init
  a_Reading_put : Addr
  d_Reading_put : FuncData
  f_Reading_put : Fun K "put" "Reading.put" s_Reading_put a_Reading_put d_Reading_put
  b_Reading_put : Binds K d_Reading_put ["self", "words", "line"] []
  m_Reading_put : Meth K C_Reading "put" a_Reading_put
  a_Reading_part : Addr
  d_Reading_part : FuncData
  f_Reading_part : Fun K "part" "Reading.part" s_Reading_part a_Reading_part d_Reading_part
  b_Reading_part : Binds K d_Reading_part ["self", "form", "word", "line"] []
  m_Reading_part : Meth K C_Reading "part" a_Reading_part
  a_Reading_code : Addr
  d_Reading_code : FuncData
  f_Reading_code : Fun K "code" "Reading.code" s_Reading_code a_Reading_code d_Reading_code
  b_Reading_code : Binds K d_Reading_code ["self", "last"] []
  m_Reading_code : Meth K C_Reading "code" a_Reading_code
  a_read : Addr
  d_read : FuncData
  f_read : Fun K "read" "read" s_read a_read d_read
  b_read : Binds K d_read ["text"] []
  g_read : mg "read" = some (.ref a_read)
  a_law_mixed : Addr
  d_law_mixed : FuncData
  f_law_mixed : Fun K "_law_mixed" "_law_mixed" s_law_mixed a_law_mixed d_law_mixed
  b_law_mixed : Binds K d_law_mixed ["_law_cell", "_law_k"] []
  g_law_mixed : mg "_law_mixed" = some (.ref a_law_mixed)
  a_law_next : Addr
  d_law_next : FuncData
  f_law_next : Fun K "_law_next" "_law_next" s_law_next a_law_next d_law_next
  b_law_next : Binds K d_law_next ["_law_state_here"] []
  g_law_next : mg "_law_next" = some (.ref a_law_next)
  a_law_state : Addr
  d_law_state : FuncData
  f_law_state : Fun K "_law_state" "_law_state" s_law_state a_law_state d_law_state
  b_law_state : Binds K d_law_state ["_law_cell"] []
  g_law_state : mg "_law_state" = some (.ref a_law_state)
  a_law_forms : Addr
  d_law_forms : FuncData
  f_law_forms : Fun K "_law_forms" "_law_forms" s_law_forms a_law_forms d_law_forms
  b_law_forms : Binds K d_law_forms [] []
  g_law_forms : mg "_law_forms" = some (.ref a_law_forms)
  a_law_part : Addr
  d_law_part : FuncData
  f_law_part : Fun K "_law_part" "_law_part" s_law_part a_law_part d_law_part
  b_law_part : Binds K d_law_part ["_law_state_here", "_law_sign", "_law_many"] []
  g_law_part : mg "_law_part" = some (.ref a_law_part)
  a_law_code : Addr
  d_law_code : FuncData
  f_law_code : Fun K "_law_code" "_law_code" s_law_code a_law_code d_law_code
  b_law_code : Binds K d_law_code ["_law_state_here", "_law_most"] []
  g_law_code : mg "_law_code" = some (.ref a_law_code)
  a_law_letters : Addr
  d_law_letters : FuncData
  f_law_letters : Fun K "_law_letters" "_law_letters" s_law_letters a_law_letters d_law_letters
  b_law_letters : Binds K d_law_letters ["_law_number"] []
  g_law_letters : mg "_law_letters" = some (.ref a_law_letters)
  a_law_asked : Addr
  d_law_asked : FuncData
  f_law_asked : Fun K "_law_asked" "_law_asked" s_law_asked a_law_asked d_law_asked
  b_law_asked : Binds K d_law_asked ["_law_code_here"] []
  g_law_asked : mg "_law_asked" = some (.ref a_law_asked)
  a_law_row_words : Addr
  d_law_row_words : FuncData
  f_law_row_words : Fun K "_law_row_words" "_law_row_words" s_law_row_words a_law_row_words d_law_row_words
  b_law_row_words : Binds K d_law_row_words ["_law_row", "_law_labels"] []
  g_law_row_words : mg "_law_row_words" = some (.ref a_law_row_words)
  a_law_names : Addr
  d_law_names : FuncData
  f_law_names : Fun K "_law_names" "_law_names" s_law_names a_law_names d_law_names
  b_law_names : Binds K d_law_names ["_law_state_here"] []
  g_law_names : mg "_law_names" = some (.ref a_law_names)
  a_law_gap : Addr
  d_law_gap : FuncData
  f_law_gap : Fun K "_law_gap" "_law_gap" s_law_gap a_law_gap d_law_gap
  b_law_gap : Binds K d_law_gap ["_law_state_here"] []
  g_law_gap : mg "_law_gap" = some (.ref a_law_gap)
  a_law_loose : Addr
  d_law_loose : FuncData
  f_law_loose : Fun K "_law_loose" "_law_loose" s_law_loose a_law_loose d_law_loose
  b_law_loose : Binds K d_law_loose ["_law_state_here", "_law_code_here"] []
  g_law_loose : mg "_law_loose" = some (.ref a_law_loose)
  a_law_other : Addr
  d_law_other : FuncData
  f_law_other : Fun K "_law_other" "_law_other" s_law_other a_law_other d_law_other
  b_law_other : Binds K d_law_other ["_law_state_here", "_law_code_here"] []
  g_law_other : mg "_law_other" = some (.ref a_law_other)
  a_law_labels_right : Addr
  d_law_labels_right : FuncData
  f_law_labels_right : Fun K "_law_labels_right" "_law_labels_right" s_law_labels_right a_law_labels_right d_law_labels_right
  b_law_labels_right : Binds K d_law_labels_right ["_law_text", "_law_code_here"] []
  g_law_labels_right : mg "_law_labels_right" = some (.ref a_law_labels_right)
  a_law : Addr
  d_law : FuncData
  f_law : Fun K "law" "law" s_law a_law d_law
  b_law : Binds K d_law ["_law_script"] []
  g_law : mg "law" = some (.ref a_law)
  g_FIGURES : ∃ t, mg "FIGURES" = some (.str "0123456789" t)
  a_FORMS : Addr
  g_FORMS : mg "FORMS" = some (.ref a_FORMS)
  kd_FORMS : Sl.KD K wP a_FORMS
  no_FORMS : ∀ z, z ∉ (["set", "copy", "add", "less", "times", "parts", "rest", "load", "keep", "go", "if", "below", "into", "by", "ask"] : List Str) → PySem.W.nsIn K a_FORMS z = some none
  ni_FORMS_0 : ∃ t, PySem.W.nsIn K a_FORMS "set" = some (some (.str "rn" t))
  ni_FORMS_1 : ∃ t, PySem.W.nsIn K a_FORMS "copy" = some (some (.str "rr" t))
  ni_FORMS_2 : ∃ t, PySem.W.nsIn K a_FORMS "add" = some (some (.str "rr" t))
  ni_FORMS_3 : ∃ t, PySem.W.nsIn K a_FORMS "less" = some (some (.str "rr" t))
  ni_FORMS_4 : ∃ t, PySem.W.nsIn K a_FORMS "times" = some (some (.str "rr" t))
  ni_FORMS_5 : ∃ t, PySem.W.nsIn K a_FORMS "parts" = some (some (.str "rr" t))
  ni_FORMS_6 : ∃ t, PySem.W.nsIn K a_FORMS "rest" = some (some (.str "rr" t))
  ni_FORMS_7 : ∃ t, PySem.W.nsIn K a_FORMS "load" = some (some (.str "rrn" t))
  ni_FORMS_8 : ∃ t, PySem.W.nsIn K a_FORMS "keep" = some (some (.str "rrn" t))
  ni_FORMS_9 : ∃ t, PySem.W.nsIn K a_FORMS "go" = some (some (.str "t" t))
  ni_FORMS_10 : ∃ t, PySem.W.nsIn K a_FORMS "if" = some (some (.str "rt" t))
  ni_FORMS_11 : ∃ t, PySem.W.nsIn K a_FORMS "below" = some (some (.str "rrt" t))
  ni_FORMS_12 : ∃ t, PySem.W.nsIn K a_FORMS "into" = some (some (.str "tr" t))
  ni_FORMS_13 : ∃ t, PySem.W.nsIn K a_FORMS "by" = some (some (.str "r" t))
  ni_FORMS_14 : ∃ t, PySem.W.nsIn K a_FORMS "ask" = some (some (.str "" t))
  g_MOST_FIGURES : ∃ t, mg "MOST_FIGURES" = some (.int 5 t)
  g_MOST_ROWS : ∃ t, mg "MOST_ROWS" = some (.int 200 t)
  g_MOST_SIGNS : ∃ t, mg "MOST_SIGNS" = some (.int 8 t)
  g_REGISTERS : ∃ t, mg "REGISTERS" = some (.str "abcdefgh" t)
  g_SMALL : ∃ t, mg "SMALL" = some (.str "abcdefghijklmnopqrstuvwxyz" t)
  g_WORDS : ∃ t, mg "WORDS" = some (.int 65536 t)
  n_all : mg "all" = none
  n_bool : mg "bool" = none
  n_enumerate : mg "enumerate" = none
  n_int : mg "int" = none
  n_isinstance : mg "isinstance" = none
  n_len : mg "len" = none
  n_list : mg "list" = none
  n_min : mg "min" = none
  n_range : mg "range" = none
  n_sorted : mg "sorted" = none
  n_str : mg "str" = none
  n_sum : mg "sum" = none
  n_tuple : mg "tuple" = none
  n_zip : mg "zip" = none
set_option hygiene false in
local macro_rules | `(tactic| walk_at "pull") => `(tactic| first | with_reducible exact Sl.Pull.here | (with_reducible apply Sl.Pull.there; walk_at "pull"))
set_option hygiene false in
local macro_rules | `(tactic| walk_at "put") => `(tactic| first | with_reducible exact Sl.Put.here | (with_reducible apply Sl.Put.there; walk_at "put"))
set_option hygiene false in
local macro_rules | `(tactic| walk_at "mt") => `(tactic| first | with_reducible exact Sl.Mt.refl | with_reducible exact Sl.Mt.nil | ((with_reducible show Sl.Mt (_ :: _) _); with_reducible apply Sl.Mt.cons; (focus walk_at "pull"); walk_at "mt") | ((fail_if_success (with_reducible show Sl.Mt (_ :: _) _)); with_reducible apply Sl.Mt.drop; walk_at "mt"))
set_option hygiene false in
local macro_rules | `(tactic| walk_at "get") => `(tactic| first | with_reducible assumption | exact Sl.Hd.get hs (by walk_at "pull"))
set_option hygiene false in
local macro_rules | `(tactic| walk_at "sq") => `(tactic| first | with_reducible assumption | exact Sl.Hd.sq hs (by walk_at "pull") | exact Sl.Hd.sql hs (by walk_at "pull"))
set_option hygiene false in
local macro_rules | `(tactic| walk_at "sqt") => `(tactic| first | with_reducible assumption | exact Sl.Hd.st hs (by walk_at "pull"))
set_option hygiene false in
local macro_rules | `(tactic| walk_at "cls") => `(tactic| first | with_reducible exact T.cl_Program | with_reducible exact T.cl_Reading)
set_option hygiene false in
local macro_rules | `(tactic| walk_at "noattr") => `(tactic| first | with_reducible exact T.n_Program_listed | with_reducible exact T.n_Reading_drafts | with_reducible exact T.n_Reading_marks)
set_option hygiene false in
local macro_rules | `(tactic| walk_at "look") => `(tactic| first | with_reducible exact lk_Program_listed | with_reducible exact lm_Program_rows | with_reducible exact lm_Program_row | with_reducible exact lm_Program_labels | with_reducible exact lm_Program_text | with_reducible exact lk_Reading_drafts | with_reducible exact lk_Reading_marks | with_reducible exact lm_Reading_put | with_reducible exact lm_Reading_part | with_reducible exact lm_Reading_code)
set_option hygiene false in
local macro_rules | `(tactic| walk_at "putf") => `(tactic| first | with_reducible exact pf_Program_listed | with_reducible exact pi_Program_listed | with_reducible exact pf_Reading_drafts | with_reducible exact pi_Reading_drafts | with_reducible exact pf_Reading_marks | with_reducible exact pi_Reading_marks)
set_option hygiene false in
local macro_rules | `(tactic| walk_at "flen") => `(tactic| first | (first | with_reducible exact ln_Program | with_reducible exact ln_Reading) | (simp; done))
set_option hygiene false in
local macro_rules | `(tactic| walk_at "len") => `(tactic| first | with_reducible assumption | exact Sl.sz (by first | decide | omega | (simp only [List.length_cons, List.length_nil, List.length_append, List.length_map, List.length_set, List.length_replicate, List.length_range] <;> omega)))
set_option hygiene false in
local macro_rules | `(tactic| walk_at "lenlt") => `(tactic| first | with_reducible assumption | exact Sl.szlt (by first | decide | omega | (simp only [List.length_cons, List.length_nil, List.length_append, List.length_map, List.length_set, List.length_replicate, List.length_range] <;> omega)))
set_option hygiene false in
local macro_rules | `(tactic| walk_at "dlook") => `(tactic| first | with_reducible assumption | (first | with_reducible exact stK_g_cell | with_reducible exact stK_g_left | with_reducible exact stK_g_at))
set_option hygiene false in
local macro_rules | `(tactic| walk_at "dput") => `(tactic| first | with_reducible exact stK_p_cell | with_reducible exact stK_p_left | with_reducible exact stK_p_at)
set_option hygiene false in
local macro_rules | `(tactic| walk_at "dlen") => `(tactic| first | (first | with_reducible exact stK_len) | walk_at "lenlt")
set_option hygiene false in
local macro_rules | `(tactic| walk_at "flat") => `(tactic| first | with_reducible exact Sl.flat_ints _ | rfl | with_reducible assumption)
set_option hygiene false in
local macro_rules | `(tactic| walk_at "disp") => `(tactic| first | fail | (refine Sl.r_dispE hs (by walk_at "put") (kvs := [(.inr "cell", _), (.inr "left", _), (.inr "at", _)]) rfl (Nat.le_of_ble_eq_true rfl) stK_disp ?_; (try clear hs); intro H hs))
set_option hygiene false in
local macro_rules | `(tactic| walk_at "num") => `(tactic| first | decide | omega | assumption)
set_option hygiene false in
local macro_rules | `(tactic| walk_at "rng") => `(tactic| first | omega | (simp only [List.length_map]; omega) | (simp only [List.length_map]; (repeat' split) <;> omega))
set_option hygiene false in
local macro_rules | `(tactic| walk_at "kb") => `(tactic| first | with_reducible exact Sl.kb_int_int | with_reducible exact Sl.kb_int_bool | with_reducible exact Sl.kb_int_str | with_reducible exact Sl.kb_int_list | with_reducible exact Sl.kb_int_tuple | with_reducible exact Sl.kb_int_dict | with_reducible exact Sl.kb_bool_int | with_reducible exact Sl.kb_bool_bool | with_reducible exact Sl.kb_bool_str | with_reducible exact Sl.kb_bool_list | with_reducible exact Sl.kb_bool_tuple | with_reducible exact Sl.kb_bool_dict | with_reducible exact Sl.kb_str_int | with_reducible exact Sl.kb_str_bool | with_reducible exact Sl.kb_str_str | with_reducible exact Sl.kb_str_list | with_reducible exact Sl.kb_str_tuple | with_reducible exact Sl.kb_str_dict | with_reducible exact Sl.kb_list_int | with_reducible exact Sl.kb_list_bool | with_reducible exact Sl.kb_list_str | with_reducible exact Sl.kb_list_list | with_reducible exact Sl.kb_list_tuple | with_reducible exact Sl.kb_list_dict | with_reducible exact Sl.kb_tuple_int | with_reducible exact Sl.kb_tuple_bool | with_reducible exact Sl.kb_tuple_str | with_reducible exact Sl.kb_tuple_list | with_reducible exact Sl.kb_tuple_tuple | with_reducible exact Sl.kb_tuple_dict | with_reducible exact Sl.kb_dict_int | with_reducible exact Sl.kb_dict_bool | with_reducible exact Sl.kb_dict_str | with_reducible exact Sl.kb_dict_list | with_reducible exact Sl.kb_dict_tuple | with_reducible exact Sl.kb_dict_dict | with_reducible exact Sl.kb_NoneType_int | with_reducible exact Sl.kb_NoneType_bool | with_reducible exact Sl.kb_NoneType_str | with_reducible exact Sl.kb_NoneType_list | with_reducible exact Sl.kb_NoneType_tuple | with_reducible exact Sl.kb_NoneType_dict)
set_option hygiene false in
local macro_rules | `(tactic| walk_at "ty") => `(tactic| first | exact .base (.int _) | exact .base .non | exact .base (.bl _) | exact .base (.str _) | exact .base (.lst (by walk_at "get")) | exact .base (.tup (by walk_at "get")) | exact .base (.dK (by walk_at "get")))
set_option hygiene false in
local macro_rules | `(tactic| walk_at "st") => `(tactic| first
  | with_reducible refine Sl.r_seq ?_
  | with_reducible refine Sl.r_asg ?_
  | with_reducible refine Sl.r_gName ?_
  | with_reducible refine Sl.r_cons ?_
  | with_reducible refine Sl.r_nil ?_
  | ((with_reducible show tVar _ _ _ _); refine Sl.r_var rfl ?_)
  | with_reducible refine Sl.r_c ?_
  | with_reducible refine Sl.r_op ?_
  | with_reducible refine Sl.r_ret ?_
  | with_reducible refine Sl.r_drop ?_
  | with_reducible refine Sl.r_ifS ?_
  | with_reducible refine Sl.r_test ?_
  | with_reducible refine Sl.r_tB ?_
  | with_reducible refine Sl.r_isb ?_
  | with_reducible refine Sl.r_call ?_
  | with_reducible refine Sl.r_fld ?_
  | with_reducible refine Sl.r_sFld ?_
  | with_reducible refine Sl.r_meth ?_
  | with_reducible refine Sl.r_make ?_
  | with_reducible refine Sl.r_cB ?_
  | with_reducible refine Sl.r_tup ?_
  | with_reducible refine Sl.r_lst ?_
  | with_reducible refine Sl.r_bm ?_
  | with_reducible refine Sl.r_bm0 ?_
  | with_reducible refine Sl.r_sl ?_
  | with_reducible refine Sl.r_noPart ?_
  | with_reducible refine Sl.r_part ?_
  | with_reducible refine Sl.r_partK ?_
  | with_reducible refine Sl.r_gSub ?_
  | with_reducible refine Sl.r_tAnd ?_
  | with_reducible refine Sl.r_tOr ?_
  | with_reducible refine Sl.r_tNot ?_
  | with_reducible refine Sl.r_tIf ?_
  | with_reducible refine Sl.r_un ?_
  | with_reducible refine Sl.r_rU ?_
  | with_reducible refine Sl.r_andV ?_
  | with_reducible refine Sl.r_andK ?_
  | with_reducible refine Sl.r_orV ?_
  | with_reducible refine Sl.r_orK ?_
  | with_reducible refine Sl.r_notV ?_
  | with_reducible refine Sl.r_notK ?_
  | with_reducible refine Sl.r_iteNT ?_
  | with_reducible refine Sl.r_iteNF ?_
  | ((with_reducible show Sl.rIsiU _ [_, .ty _] _ _); refine Sl.r_isi (.ty _) (by walk_at "ty") (by walk_at "kb") ?_)
  | with_reducible refine Sl.r_iteY ?_
  | with_reducible refine Sl.r_iteZ ?_
  | with_reducible refine Sl.r_next ?_
  | with_reducible refine Sl.r_retN ?_
  | with_reducible refine Sl.r_break ?_
  | with_reducible refine Sl.r_cont ?_
  | with_reducible refine Sl.r_I0 ?_
  | with_reducible refine Sl.r_addI ?_
  | ((with_reducible show Sl.rMulU _ (.int _) (.int _) _ _); refine Sl.r_mulI (by walk_at "mul") ?_)
  | ((with_reducible show Sl.rDivU (.int _) (.int _) _ _); first | refine Sl.r_divI (by first | decide | omega) ?_ | refine Sl.r_divW (by first | decide | omega) ?_)
  | ((with_reducible show rI (fun _ j => 0 < j) _ (.int _) (.int _) _ _); refine Sl.r_modI (by walk_at "num") ?_)
  | ((with_reducible show rI CPow _ (.int _) (.int _) _ _); refine Sl.r_I (by walk_at "pow") ?_)
  | with_reducible refine Sl.r_eqI ?_
  | with_reducible refine Sl.r_neI ?_
  | with_reducible refine Sl.r_eqS ?_
  | with_reducible refine Sl.r_neS ?_
  | with_reducible refine Sl.r_eqB ?_
  | with_reducible refine Sl.r_neB ?_
  | with_reducible refine Sl.r_isN ?_
  | with_reducible refine Sl.r_notN ?_
  | ((with_reducible show Sl.AllocT _ _ _); refine Sl.r_newT hs (by walk_at "len") ?_; (try clear hs); intro q_ H hs)
  | ((with_reducible show Sl.AllocL _ _ _); refine Sl.r_newL hs (by walk_at "len") ?_; (try clear hs); intro q_ H hs)
  | ((with_reducible show Sl.FldK _ _ _ _ _); refine Sl.r_fldK (by walk_at "get") (by walk_at "cls") (by walk_at "noattr") (by walk_at "look") ?_)
  | ((with_reducible show Sl.SFldK _ _ _ _ _ _); refine Sl.r_sFldK hs (by walk_at "put") (by walk_at "putf") (by walk_at "cls") (by walk_at "noattr") (by walk_at "flen") ?_; (try clear hs); intro H hs)
  | ((with_reducible show Sl.MethK _ _ _ _ _); first | refine Sl.r_methK (by walk_at "get") (by walk_at "look") ?_ | walk_at "meth" | (walk_at "ins"; refine Sl.r_methK (by walk_at "get") (by walk_at "look") ?_))
  | ((with_reducible show Sl.MakeK _ _ _ _ _ _ _); refine Sl.r_makeK hs ?_; (try clear hs); intro q_ dx_ H hs)
  | ((with_reducible show tyV _ "list" _ _ ∧ _); refine Sl.r_tyL (by walk_at "sq") ?_)
  | ((with_reducible show tyV _ "dict" _ _ ∧ _); refine Sl.r_tyD (by walk_at "get") ?_)
  | ((with_reducible show rAppend _ _ _ _); refine Sl.r_append hs (by walk_at "put") (by walk_at "lenlt") ?_; (try clear hs); intro H hs)
  | ((with_reducible show rExtend _ _ _ _); refine Sl.r_extend hs (by walk_at "put") (by walk_at "get") (by walk_at "len") ?_; (try clear hs); intro H hs)
  | ((with_reducible show rClear _ _ _ _); refine Sl.r_clear hs (by walk_at "put") ?_; (try clear hs); intro H hs)
  | ((with_reducible show rSlL _ _ _ _ _ _); refine Sl.r_slL hs (by walk_at "sq") ?_; (try clear hs); intro q_ H hs)
  | ((with_reducible show Sl.rAddU _ (.ref _) (.ref _) _ _); refine Sl.r_addL hs (by walk_at "get") (by walk_at "get") (by walk_at "len") ?_; (try clear hs); intro q_ H hs)
  | ((with_reducible show Sl.rMulU _ (.ref _) (.int _) _ _); first | (refine Sl.r_mulL hs (by walk_at "get") (by omega) (by walk_at "len") ?_; (try clear hs); intro q_ H hs) | (refine Sl.r_mulT hs (by walk_at "sqt") (by exact List.cons_ne_nil _ _) (by omega) (by exact Nat.le_of_ble_eq_true rfl) ?_; (try clear hs); intro q_ H hs))
  | ((with_reducible show tDNewK _ _ _); refine Sl.r_dnew hs ?_; (try clear hs); intro q_ H hs)
  | ((with_reducible show tDisp _ _ _ _); refine Sl.r_disp hs ?_; (try clear hs); intro q_ H hs)
  | ((with_reducible show Sl.rIxU _ (.ref _) (.str _) _ _); refine Sl.r_ixDs (by walk_at "get") (by walk_at "dlook") ?_)
  | ((with_reducible show Sl.rIxU _ (.ref _) (.int _) _ _); first | refine Sl.r_ixL (by walk_at "sq") (by first | rfl | exact Sl.atI_head | exact Sl.atI_snd) ?_ | refine Sl.r_ixT (by walk_at "sqt") (by rfl) ?_ | refine Sl.r_ixDi (by walk_at "get") (by with_reducible assumption) ?_)
  | ((with_reducible show Sl.rSetU (.ref _) (.str _) _ _ _); refine Sl.r_setDs hs (by walk_at "put") (by walk_at "dput") (by walk_at "dlen") ?_; (try clear hs); intro H hs)
  | ((with_reducible show Sl.rInU _ false _ (.ref _) _ _); first | refine Sl.r_inL (by walk_at "sq") rfl (by walk_at "flat") ?_ | refine Sl.r_inT (by walk_at "sqt") rfl (by walk_at "flat") ?_ | refine Sl.r_inDi (by walk_at "get") ?_ | refine Sl.r_inDs (by walk_at "get") ?_)
  | ((with_reducible show Sl.rInU _ true _ (.ref _) _ _); first | refine Sl.r_niL (by walk_at "sq") rfl (by walk_at "flat") ?_ | refine Sl.r_niT (by walk_at "sqt") rfl (by walk_at "flat") ?_ | refine Sl.r_niDi (by walk_at "get") ?_ | refine Sl.r_niDs (by walk_at "get") ?_)
  | ((with_reducible show Sl.GetE1 _ _ (.int _) _); refine Sl.r_get1i (by walk_at "get") ?_)
  | ((with_reducible show Sl.GetE2 _ (.int _) _ _ _); refine Sl.r_get2i (by walk_at "get") ?_)
  | ((with_reducible show Sl.DispE _ _ _ _); walk_at "disp")
  | with_reducible refine Sl.r_for ?_
  | with_reducible refine Sl.r_lc ?_
  | with_reducible refine Sl.r_rng1 ?_
  | with_reducible refine Sl.r_rng2 ?_
  | with_reducible refine Sl.r_iList ?_
  | with_reducible refine Sl.r_iTup ?_
  | with_reducible refine Sl.r_iEnum ?_
  | with_reducible refine Sl.r_iZip ?_
  | ((with_reducible show Sl.Rng1K _ _ _); refine Sl.r_rng1K (by walk_at "rng") ?_)
  | ((with_reducible show Sl.Rng2K _ _ _); refine Sl.r_rng2K (by walk_at "rng") ?_)
  | ((with_reducible show Sl.ListK _ _ _ _); refine Sl.r_listK (by walk_at "sq") ?_)
  | ((with_reducible show Sl.TupK _ _ _ _); refine Sl.r_tupK (by walk_at "sqt") ?_)
  | ((with_reducible show Sl.EnumK _ _ _ _); refine Sl.r_enumK (by walk_at "sq") ?_)
  | ((with_reducible show Sl.ZipK _ _ _ _); refine Sl.r_zipK (by walk_at "sq") (by walk_at "sq") ?_)
  | ((with_reducible show gTup _ _ _ (.ref _) _ (upd _ _ _) _); refine Sl.r_gTupNew hs (by with_reducible assumption) rfl ?_; (try clear hs); intro H hs)
  | ((with_reducible show gTup _ _ _ (.ref _) _ _ _); refine Sl.r_gTup (by walk_at "sqt") rfl ?_)
  | with_reducible refine Sl.r_gCons ?_
  | with_reducible refine Sl.r_gNil ?_
  | with_reducible refine Sl.r_yes ?_
  | ((with_reducible show wipe _ _ = wipe _ _ ∧ _); refine ⟨rfl, ?_⟩)
  | ((with_reducible show Sl.AppK _ _ _ _); refine Sl.r_appK hs (by walk_at "put") (by walk_at "lenlt") ?_; (try clear hs); intro H hs)
  | ((with_reducible show Sl.rEqU _ _ _ _ _); refine Sl.r_eqV (by rfl) ?_)
  | ((with_reducible show Sl.rNeU _ _ _ _ _); refine Sl.r_neV (by rfl) ?_)
  | with_reducible refine Sl.r_pairsN ?_
  | with_reducible refine Sl.r_pairsC ?_
  | with_reducible refine Sl.r_dget1 ?_
  | with_reducible refine Sl.r_dget2 ?_
  | ((with_reducible show Sl.IsDK _ _ _); refine Sl.r_isD (by walk_at "get") ?_)
  | ((with_reducible show Sl.rLenU _ _ _ _); first | refine Sl.r_lenL (by walk_at "sq") ?_ | refine Sl.r_lenT (by walk_at "sqt") ?_ | refine Sl.r_lenD (by walk_at "get") ?_)
  | ((with_reducible show Sl.rRepr _ [.int _] _ _); refine Sl.r_reprI (by walk_at "small") ?_)
  | with_reducible refine Sl.r_reprN ?_
  | ((with_reducible show Sl.rIsA _ [_, .ty _] _ _); first | refine Sl.r_isAU (Sl.r_isi (.ty _) (by walk_at "ty") (by walk_at "kb") ?_) | refine Sl.r_isErrT (by walk_at "get") (by walk_at "ec") (by walk_at "ki") ?_)
  | ((with_reducible show Sl.rIsA _ [.non, .ref _] _ _); refine Sl.r_isNonC (by walk_at "kn") ?_)
  | ((with_reducible show Sl.rIsA _ [.ref _, .ref _] _ _); refine Sl.r_isErr (by walk_at "get") (by walk_at "ec") (by walk_at "ki") ?_)
  | with_reducible refine Sl.r_isBl ?_
  | with_reducible refine Sl.r_notBl ?_
  | with_reducible refine Sl.r_raise ?_
  | with_reducible refine Sl.r_callS ?_
  | with_reducible refine Sl.r_methS ?_
  | with_reducible refine Sl.r_methS0 ?_
  | with_reducible refine Sl.r_makeS ?_
  | with_reducible refine Sl.r_lenSet ?_
  | with_reducible refine Sl.r_par2 ?_
  | with_reducible refine Sl.r_parK ?_
  | with_reducible refine Sl.r_chain ?_
  | with_reducible refine Sl.r_chK ?_
  | with_reducible refine Sl.r_augS ?_
  | with_reducible refine Sl.r_ipI ?_
  | with_reducible refine Sl.r_fldaug ?_
  | ((with_reducible show Sl.AugK _ _ _ _ _ _ _ _); refine Sl.r_augK (by walk_at "get") (by walk_at "cls") (by walk_at "noattr") (by walk_at "look") ?_)
  | ((with_reducible show Sl.AugF _ _ _ _ _ _); refine Sl.r_augF hs (by walk_at "put") (by walk_at "putf") (by walk_at "flen") ?_; (try clear hs); intro H hs)
  | with_reducible refine Sl.r_aAdd ?_
  | with_reducible refine Sl.r_aSub ?_
  | with_reducible refine Sl.r_keys ?_
  | ((with_reducible show Sl.KeysK _ _ _); refine Sl.r_keysK (by walk_at "get") ?_)
  | with_reducible refine Sl.r_items ?_
  | ((with_reducible show Sl.ItemIK _ _ _); refine Sl.r_itemsK (by walk_at "get") ?_)
  | with_reducible refine Sl.r_vals ?_
  | ((with_reducible show Sl.ValIK _ _ _); refine Sl.r_valsK (by walk_at "get") ?_)
  | with_reducible refine Sl.r_listItems ?_
  | ((with_reducible show Sl.ItemsK _ _ _); refine Sl.r_listItemsK hs (by walk_at "get") ?_; (try clear hs); intro p_ ts_ H hs)
  | with_reducible refine Sl.r_dpop1 ?_
  | with_reducible refine Sl.r_listRange ?_
  | ((with_reducible show Sl.LRngK _ (.int _) _); refine Sl.r_lRngK' hs (by walk_at "num") (by walk_at "num") ?_; (try clear hs); intro q_ H hs)
  | ((with_reducible show rListD _ _ _); refine Sl.r_listDM hs (by walk_at "get") ?_; (try clear hs); intro q_ H hs)
  | ((with_reducible show rSortedI _ _ _ _); refine Sl.r_srtI hs (by walk_at "sq") ?_; (try clear hs); intro q_ H hs)
  | ((with_reducible show Sl.rSortedDI _ _ _); refine Sl.r_srtD hs (by walk_at "get") (by walk_at "few") ?_; (try clear hs); intro q_ H hs)
  | ((with_reducible show Sl.UnlK _ _ _ _ _ _); refine Sl.r_unl hs (by walk_at "put") ?_; (try clear hs); intro H hs)
  | ((with_reducible show Sl.UnlS _ _ _ _ _ _); refine Sl.r_unlS hs (by walk_at "put") ?_; (try clear hs); intro H hs)
  | with_reducible refine Sl.r_abs ?_
  | with_reducible refine Sl.r_max2 ?_
  | with_reducible refine Sl.r_min2 ?_
  | with_reducible refine Sl.r_int1b ?_
  | with_reducible refine Sl.r_int1 ?_
  | with_reducible refine Sl.r_unCons ?_
  | with_reducible refine Sl.r_unNil ?_
  | ((with_reducible show Sl.UnK (Sl.GL _ _ _) _ _ _ _ _ _); refine Sl.r_unKL (by walk_at "sq") ?_)
  | ((with_reducible show Sl.UnK (Sl.GT _ _ _) _ _ _ _ _ _); refine Sl.r_unKT (by walk_at "sqt") ?_)
  | with_reducible refine Sl.r_unKR ?_
  | with_reducible refine Sl.r_ulCons ?_
  | with_reducible refine Sl.r_ulNil ?_
  | ((with_reducible show Sl.UnLK (Sl.GL _ _ _) _ _ _ _ _ _ _ _ _); refine Sl.r_ulKL (by walk_at "sq") ?_)
  | ((with_reducible show Sl.UnLK (Sl.GT _ _ _) _ _ _ _ _ _ _ _ _); refine Sl.r_ulKT (by walk_at "sqt") ?_)
  | with_reducible refine Sl.r_ulKR ?_
  | ((with_reducible show Sl.rListOf _ _ _ _); first | refine Sl.r_listL hs (by walk_at "sq") fun q_ H hs => ?_ | refine Sl.r_listT hs (by walk_at "sqt") fun q_ H hs => ?_)
  | ((with_reducible show Sl.rTupleOf _ _ _ _); first | refine Sl.r_tupleL hs (by walk_at "sq") fun q_ H hs => ?_ | refine Sl.r_tupleT (by walk_at "sqt") ?_))
set_option hygiene false in
local macro_rules | `(tactic| walk_at "rest") => `(tactic| ((try dsimp only [List.cons_append, List.nil_append]); exact Hd.mt (by walk_at "mt") hs))
set_option hygiene false in
local macro_rules | `(tactic| walk_at "sqA") => `(tactic| ((try dsimp only [List.cons_append, List.nil_append] at hs); exact hs.sq (by walk_at "pull")))
set_option hygiene false in
local macro_rules | `(tactic| walk_at "few") => `(tactic| first | with_reducible assumption | omega | (simp only [List.length_map]; omega))
set_option hygiene false in
local macro_rules | `(tactic| walk_at "mul") => `(tactic| first | (left; constructor <;> omega) | (right; constructor <;> omega))
set_option hygiene false in
local macro_rules | `(tactic| walk_at "pow") => `(tactic| exact ⟨by decide, by decide, by decide⟩)
set_option hygiene false in
local macro_rules | `(tactic| walk_at "run") => `(tactic| repeat walk_at "st")
set_option hygiene false in
local macro_rules | `(tactic| walk_at "runI") => `(tactic| ((repeat ((fail_if_success (with_reducible show tIfS _ _ _ _ _ _)); walk_at "st")); (try (with_reducible show tIfS _ _ _ _ _ _))))
set_option hygiene false in
local macro_rules | `(tactic| walk_at "stm") => `(tactic| (walk_at "st"; repeat ((fail_if_success (with_reducible show tSeq _ _ _ _ _)); walk_at "st")))
set_option hygiene false in
local macro_rules | `(tactic| walk_at "call") => `(tactic| first | refine ⟨_, rfl, ?_, Hd.mt (by walk_at "mt") hs, ?_⟩ | refine ⟨_, _, rfl, ?_, Hd.mt (by walk_at "mt") hs, ?_⟩ | refine ⟨_, _, _, rfl, ?_, Hd.mt (by walk_at "mt") hs, ?_⟩ | refine ⟨_, _, _, _, rfl, ?_, Hd.mt (by walk_at "mt") hs, ?_⟩ | refine ⟨_, _, _, _, _, rfl, ?_, Hd.mt (by walk_at "mt") hs, ?_⟩ | refine ⟨_, _, _, _, _, _, rfl, ?_, Hd.mt (by walk_at "mt") hs, ?_⟩ | refine ⟨_, _, _, _, _, _, _, rfl, ?_, Hd.mt (by walk_at "mt") hs, ?_⟩ | refine ⟨_, _, _, _, _, _, _, _, rfl, ?_, Hd.mt (by walk_at "mt") hs, ?_⟩ | refine ⟨_, _, _, _, _, _, _, _, _, rfl, ?_, Hd.mt (by walk_at "mt") hs, ?_⟩ | refine ⟨_, _, _, _, _, _, _, _, _, _, rfl, ?_, Hd.mt (by walk_at "mt") hs, ?_⟩ | refine ⟨_, _, _, _, _, _, _, _, _, _, _, rfl, ?_, Hd.mt (by walk_at "mt") hs, ?_⟩)
set_option hygiene false in
local macro_rules | `(tactic| walk_at "callN") => `(tactic| first | refine ⟨_, rfl, Hd.mt (by walk_at "mt") hs, ?_⟩ | refine ⟨_, _, rfl, Hd.mt (by walk_at "mt") hs, ?_⟩ | refine ⟨_, _, _, rfl, Hd.mt (by walk_at "mt") hs, ?_⟩ | refine ⟨_, _, _, _, rfl, Hd.mt (by walk_at "mt") hs, ?_⟩ | refine ⟨_, _, _, _, _, rfl, Hd.mt (by walk_at "mt") hs, ?_⟩ | refine ⟨_, _, _, _, _, _, rfl, Hd.mt (by walk_at "mt") hs, ?_⟩ | refine ⟨_, _, _, _, _, _, _, rfl, Hd.mt (by walk_at "mt") hs, ?_⟩ | refine ⟨_, _, _, _, _, _, _, _, rfl, Hd.mt (by walk_at "mt") hs, ?_⟩ | refine ⟨_, _, _, _, _, _, _, _, _, rfl, Hd.mt (by walk_at "mt") hs, ?_⟩)
set_option hygiene false in
local macro_rules | `(tactic| walk_at "side") => `(tactic| first | assumption | omega | (and_intros <;> first | assumption | omega | decide | rfl))
set_option hygiene false in
local macro_rules | `(tactic| walk_at "go") => `(tactic| (walk_at "call"; (focus walk_at "side"); (try clear hs); intro H hs; walk_at "run"))
set_option hygiene false in
local macro_rules | `(tactic| walk_at "goN") => `(tactic| (walk_at "callN"; (try clear hs); intro H hs; walk_at "run"))
set_option hygiene false in
local macro_rules | `(tactic| walk_at "small") => `(tactic| first | with_reducible assumption | omega)
set_option hygiene false in
local macro_rules | `(tactic| walk_at "ec") => `(tactic| first | with_reducible assumption | (fail))
set_option hygiene false in
local macro_rules | `(tactic| walk_at "ki") => `(tactic| first | with_reducible assumption | (fail))
set_option hygiene false in
local macro_rules | `(tactic| walk_at "unL") => `(tactic| first | refine Sl.r_unL (by walk_at "sq") ?_ | refine Sl.r_unT (by walk_at "sqt") ?_ | refine Sl.r_unR (by rfl) ?_)
set_option hygiene false in
local macro_rules | `(tactic| walk_at "ulL") => `(tactic| first | (refine Sl.r_ulL hs (fun E_ H hs => by walk_at "sq") ?_; (try clear hs); intro E_ H hs) | (refine Sl.r_ulT hs (fun E_ H hs => by walk_at "sqt") ?_; (try clear hs); intro E_ H hs))
set_option hygiene false in
local macro_rules | `(tactic| walk_at "runG") => `(tactic| repeat ((fail_if_success (with_reducible show gName _ _ _ _ _)); walk_at "st"))
set_option hygiene false in
local macro_rules | `(tactic| walk_at "kn") => `(tactic| first | with_reducible assumption | (fail))

section
variable {P : Program} {w : World} {K : PySem.W.Frag} {mg : Str → Option Value} {base : Heap}

/-- what isinstance knows of -/
inductive Kn (H : Hp) : V → Prop
  | int (n : Int) : Kn H (.int n)
  | bl (b : Bool) : Kn H (.bl b)
  | non : Kn H .non
  | str (z : Str) : Kn H (.str z)
  | lst {a : Addr} {xs : List V} (e : H a = some (.lst xs)) : Kn H (.ref a)
  | tup {a : Addr} {xs : List V} (e : H a = some (.tup xs)) : Kn H (.ref a)
  | dK {a : Addr} {kvs : List (Key × V)} (e : H a = some (.dK kvs)) : Kn H (.ref a)
def isN : V → Bool
  | .int _ => true
  | _ => false
def amg (v : V) (lo hi : Int) : Bool := match v with
  | .int n => decide (lo ≤ n) && decide (n ≤ hi)
  | _ => false
theorem amg_int {v : V} {lo hi : Int} (h : amg v lo hi = true) : ∃ n, v = .int n ∧ lo ≤ n ∧ n ≤ hi := by
  cases v with
  | int n => exact ⟨n, rfl, by simpa [amg] using h⟩
  | _ => cases h

def sp_is_whole (T : Txt K mg) : Sp := fun vs H Q _ => ∃ v, vs = [v] ∧ Kn H v ∧ Q (.bl (isN v)) H
theorem ok_is_whole (T : Txt K mg) : FnOk P w K mg base CX0 1 T.a_is_whole T.d_is_whole ["thing"] (sp_is_whole T) := by
  refine T.f_is_whole.ok sc_is_whole (fun vs H Q E h => ?_) (fun cdv A outer s H vs Q E hr h => ?_)
  · obtain ⟨v, rfl, _⟩ := h
    rfl
  · obtain ⟨v, rfl, h⟩ := h
    refine ⟨_, (pss_one (ps_ret (pe_and (pe_callB (k_isA (K := K) rfl) (by rfl) T.n_isinstance (by decide +kernel) (pa_cons (pv 0) (pa_cons (pe_bltn (v := .ty "int") (by rfl) T.n_int (by decide +kernel) rfl) pa_nil))) (pe_one (pe_not (pe_callB (k_isA (K := K) rfl) (by rfl) T.n_isinstance (by decide +kernel) (pa_cons (pv 0) (pa_cons (pe_bltn (v := .ty "bool") (by rfl) T.n_bool (by decide +kernel) rfl) pa_nil)))))))), ?_⟩
    try dsimp only [cxOf]
    obtain ⟨kn, q⟩ := h
    walk_at "run"
    cases kn <;> (walk_at "run"; exact q)
def sp_is_among (T : Txt K mg) : Sp := fun vs H Q _ => ∃ v lo hi, vs = [v, .int lo, .int hi] ∧ Kn H v ∧ Q (.bl (amg v lo hi)) H
theorem ok_is_among (T : Txt K mg) : FnOk P w K mg base CX0 2 T.a_is_among T.d_is_among ["thing", "least", "most"] (sp_is_among T) := by
  refine T.f_is_among.ok sc_is_among (fun vs H Q E h => ?_) (fun cdv A outer s H vs Q E hr h => ?_)
  · obtain ⟨v, lo, hi, rfl, _⟩ := h
    rfl
  · obtain ⟨v, lo, hi, rfl, h⟩ := h
    refine ⟨_, (pss_one (ps_ret (pe_and (pe_call (ok_is_whole T) hr (by rfl) T.g_is_whole T.f_is_whole.kp T.b_is_whole .nil pass0 (pa_cons (pv 0) pa_nil)) (pe_one (pe_chain op_le op_le (pv 1) (pv 0) (pv 2)))))), ?_⟩
    try dsimp only [cxOf]
    obtain ⟨kn, q⟩ := h
    walk_at "run"
    refine ⟨v, rfl, kn, ?_⟩
    cases v with
    | int n =>
      dsimp only [isN]
      walk_at "run"
      dsimp only [amg] at q
      refine Sl.r_iteD (fun z => ?_) (fun z => ?_)
      · walk_at "run"
        rw [decide_eq_true z, Bool.true_and] at q
        exact q
      · walk_at "run"
        rw [decide_eq_false z, Bool.false_and] at q
        exact q
    | _ =>
      dsimp only [isN]
      walk_at "run"
      exact q
def sp_is_word (T : Txt K mg) : Sp := fun vs H Q _ => ∃ v, vs = [v] ∧ Kn H v ∧ Q (.bl (amg v 0 65535)) H
theorem ok_is_word (T : Txt K mg) : FnOk P w K mg base CX0 3 T.a_is_word T.d_is_word ["thing"] (sp_is_word T) := by
  refine T.f_is_word.ok sc_is_word (fun vs H Q E h => ?_) (fun cdv A outer s H vs Q E hr h => ?_)
  · obtain ⟨v, rfl, _⟩ := h
    rfl
  · obtain ⟨v, rfl, h⟩ := h
    refine ⟨_, (pss_one (ps_ret (pe_call (ok_is_among T) hr (by rfl) T.g_is_among T.f_is_among.kp T.b_is_among .nil pass0 (pa_cons (pv 0) (pa_cons pe_int (pa_cons (pe_op (k_sub (K := K) rfl) (pe_glob (v := .int 65536) (by rfl) T.g_WORDS.choose_spec ⟨_, rfl⟩) pe_int) pa_nil)))))), ?_⟩
    try dsimp only [cxOf]
    obtain ⟨kn, q⟩ := h
    walk_at "run"
    exact ⟨v, 0, 65535, rfl, kn, q⟩
end
section
variable {P : Program} {w : World} {K : PySem.W.Frag} {mg : Str → Option Value} {base : Heap}

theorem amg_of {n lo hi : Int} (h : lo ≤ n ∧ n ≤ hi) : amg (.int n) lo hi = true := by
  show (decide (lo ≤ n) && decide (n ≤ hi)) = true
  rw [decide_eq_true h.1, decide_eq_true h.2]
  rfl
def NM : List Str := ["a", "b", "c", "d", "e", "f", "g", "h", "place"]

end
section
variable {P : Program} {w : World} {K : PySem.W.Frag} {mg : Str → Option Value} {base : Heap}

/-! ### rows -/
inductive Rw
  | set (r : Nat) (w : Int)
  | op (k r s : Nat)
  | mem (k r s : Nat) (w : Int)
  | go (t : Nat)
  | iff (r t : Nat)
  | below (r s t : Nat)
  | into (t r : Nat)
  | by_ (r : Nat)
  | ask
def rg (r : Nat) : Str := NM.getD r ""
def opn (k : Nat) : Str := ["copy", "add", "less", "times", "parts", "rest"].getD k ""
def memn (k : Nat) : Str := ["load", "keep"].getD k ""
def rwV : Rw → List V
  | .set r w => [.str "set", .str (rg r), .int w]
  | .op k r s => [.str (opn k), .str (rg r), .str (rg s)]
  | .mem k r s w => [.str (memn k), .str (rg r), .str (rg s), .int w]
  | .go t => [.str "go", .int (t : Nat)]
  | .iff r t => [.str "if", .str (rg r), .int (t : Nat)]
  | .below r s t => [.str "below", .str (rg r), .str (rg s), .int (t : Nat)]
  | .into t r => [.str "into", .int (t : Nat), .str (rg r)]
  | .by_ r => [.str "by", .str (rg r)]
  | .ask => [.str "ask"]
/-- a row of a program of so many -/
def OkR (n : Nat) : Rw → Prop
  | .set r w => r < 8 ∧ 0 ≤ w ∧ w ≤ 65535
  | .op k r s => k < 6 ∧ r < 8 ∧ s < 8
  | .mem k r s w => k < 2 ∧ r < 8 ∧ s < 8 ∧ 0 ≤ w ∧ w ≤ 65535
  | .go t => t < n
  | .iff r t => r < 8 ∧ t < n
  | .below r s t => r < 8 ∧ s < 8 ∧ t < n
  | .into t r => t < n ∧ r < 8
  | .by_ r => r < 8
  | .ask => True
theorem nm_rg {r : Nat} (h : r < 9) : NM[r]? = some (rg r) := by
  rcases r with _ | _ | _ | _ | _ | _ | _ | _ | _ | r <;> first | rfl | omega
def PartOk (f : Str) (v : V) (n : Nat) : Prop := (f = "r" ∧ ∃ r, r < 8 ∧ v = .str (rg r)) ∨ (f = "n" ∧ ∃ w, 0 ≤ w ∧ w ≤ 65535 ∧ v = .int w) ∨ (f = "t" ∧ ∃ t : Nat, t < n ∧ v = .int (t : Nat))
theorem rg_sign {r : Nat} (h : r < 8) : rg r = ⟨#[97 + r]⟩ ∧ (rg r).length = 1 ∧ decide (97 + r ∈ (Str.ofString "abcdefgh").cps.toList) = true := by
  rcases r with _ | _ | _ | _ | _ | _ | _ | _ | r <;> first | exact ⟨by kernel_rfl, by kernel_rfl, by decide +kernel⟩ | omega
theorem all_true (k : Nat) : (List.replicate k true).all id = true := by
  induction k with
  | zero => rfl
  | succ k ih => rw [List.replicate_succ, List.all_cons, ih]; rfl

def sp_is_place (T : Txt K mg) : Sp := fun vs H Q _ => ∃ (t n : Int), vs = [.int t, .int n] ∧ 0 ≤ t ∧ Q (.bl (decide (t < n))) H
theorem ok_is_place (T : Txt K mg) : FnOk P w K mg base CX0 1 T.a_is_place T.d_is_place ["thing", "many"] (sp_is_place T) := by
  refine T.f_is_place.ok sc_is_place (fun vs H Q E h => ?_) (fun cdv A outer s H vs Q E hr h => ?_)
  · obtain ⟨t, n, rfl, _⟩ := h
    rfl
  · obtain ⟨t, n, rfl, h⟩ := h
    refine ⟨_, (pss_one (ps_ret (pe_and (pe_callB (k_isA (K := K) rfl) (by rfl) T.n_isinstance (by decide +kernel) (pa_cons (pv 0) (pa_cons (pe_bltn (v := .ty "int") (by rfl) T.n_int (by decide +kernel) rfl) pa_nil))) (pe_and (pe_not (pe_callB (k_isA (K := K) rfl) (by rfl) T.n_isinstance (by decide +kernel) (pa_cons (pv 0) (pa_cons (pe_bltn (v := .ty "bool") (by rfl) T.n_bool (by decide +kernel) rfl) pa_nil)))) (pe_one (pe_chain op_le op_lt pe_int (pv 0) (pv 1))))))), ?_⟩
    try dsimp only [cxOf]
    obtain ⟨t0, q⟩ := h
    walk_at "run"
    rw [decide_eq_true t0]
    walk_at "run"
    exact q

def isReg (w : Str) : Bool := decide (w.length = 1) && (w.cps.toList.map fun c => decide (c ∈ ("abcdefgh" : Str).cps.toList)).all id
theorem isReg_rg {r : Nat} (h : r < 8) : isReg (rg r) = true := by
  rcases r with _ | _ | _ | _ | _ | _ | _ | _ | r <;> first | omega | kernel_rfl
theorem one_sign {w : Str} (h : w.length = 1) : ∃ c, w = ⟨#[c]⟩ := by
  have e : w.cps.size = 1 := h
  obtain ⟨c, hc⟩ := Array.size_eq_one_iff.mp e
  exact ⟨c, congrArg Str.mk hc⟩

def sp_is_register (T : Txt K mg) : Sp := fun vs H Q _ => ∃ w1 : Str, vs = [.str w1] ∧ w1.length ≤ 90000 ∧ Q (.bl (isReg w1)) H
theorem ok_is_register (T : Txt K mg) : FnOk P w K mg base CX0 1 T.a_is_register T.d_is_register ["thing"] (sp_is_register T) := by
  refine T.f_is_register.ok sc_is_register (fun vs H Q E h => ?_) (fun cdv A outer s H vs Q E hr h => ?_)
  · obtain ⟨w1, rfl, _⟩ := h
    rfl
  · obtain ⟨w1, rfl, h⟩ := h
    refine ⟨_, (pss_one (ps_ret (pe_and (pe_callB (k_isA (K := K) rfl) (by rfl) T.n_isinstance (by decide +kernel) (pa_cons (pv 0) (pa_cons (pe_bltn (v := .ty "str") (by rfl) T.n_str (by decide +kernel) rfl) pa_nil))) (pe_and (pe_cmpR (k_eq (K := K) rfl hr.units) (pe_callB (k_len (K := K) rfl) (by rfl) T.n_len (by decide +kernel) (pa_cons (pv 0) pa_nil)) pe_int (nomark _)) (pe_one (pe_cmpR op_in_sign (pv 0) (pe_glob (v := .str "abcdefgh") (by rfl) T.g_REGISTERS.choose_spec ⟨_, rfl⟩) (by rfl))))))), ?_⟩
    try dsimp only [cxOf]
    obtain ⟨wl, q⟩ := h
    unfold isReg at q
    walk_at "run"
    refine Sl.r_lenS (Sl.sz (by omega)) ?_
    walk_at "run"
    by_cases h1 : w1.length = 1
    · rw [decide_eq_true (show ((w1.length : Nat) : Int) = 1 by omega)]
      rw [decide_eq_true h1] at q
      obtain ⟨c, rfl⟩ := one_sign h1
      walk_at "run"
      refine ⟨c, "abcdefgh", rfl, rfl, ?_⟩
      have e : decide (c ∈ (Str.ofString "abcdefgh").cps.toList) = (((⟨#[c]⟩ : Str).cps.toList.map fun c => decide (c ∈ ("abcdefgh" : Str).cps.toList)).all id) := by
        show _ = (decide _ && true)
        rw [Bool.and_true]
      rw [e]
      rw [Bool.true_and] at q
      exact q
    · rw [decide_eq_false (show ¬ ((w1.length : Nat) : Int) = 1 by omega)]
      rw [decide_eq_false h1] at q
      walk_at "run"
      exact q
def sp_is_part (T : Txt K mg) : Sp := fun vs H Q _ => ∃ (f : Str) (v : V) (n : Nat), vs = [.str f, v, .int (n : Nat)] ∧ PartOk f v n ∧ Q (.bl true) H
theorem ok_is_part (T : Txt K mg) : FnOk P w K mg base CX0 4 T.a_is_part T.d_is_part ["form", "thing", "many"] (sp_is_part T) := by
  refine T.f_is_part.ok sc_is_part (fun vs H Q E h => ?_) (fun cdv A outer s H vs Q E hr h => ?_)
  · obtain ⟨f, v, n, rfl, _⟩ := h
    rfl
  · obtain ⟨f, v, n, rfl, h⟩ := h
    refine ⟨_, (pss_cons (ps_if (pt_cmpR (k_eq (K := K) rfl hr.units) (pv 0) pe_str (nomark _))
        (pss_one (ps_ret (pe_call (ok_is_register T) (hr.mono (by decide)) (by rfl) T.g_is_register T.f_is_register.kp T.b_is_register .nil pass0 (pa_cons (pv 1) pa_nil))))
        pss_nil)
       (pss_cons (ps_if (pt_cmpR (k_eq (K := K) rfl hr.units) (pv 0) pe_str (nomark _))
        (pss_one (ps_ret (pe_call (ok_is_word T) hr (by rfl) T.g_is_word T.f_is_word.kp T.b_is_word .nil pass0 (pa_cons (pv 1) pa_nil))))
        pss_nil)
       (pss_one (ps_ret (pe_call (ok_is_place T) (hr.mono (by decide)) (by rfl) T.g_is_place T.f_is_place.kp T.b_is_place .nil pass0 (pa_cons (pv 1) (pa_cons (pv 2) pa_nil))))))), ?_⟩
    try dsimp only [cxOf]
    obtain ⟨ok, q⟩ := h
    rcases ok with ⟨rfl, r, hr, rfl⟩ | ⟨rfl, w, w0, w1, rfl⟩ | ⟨rfl, t, ht, rfl⟩
    · walk_at "run"
      rw [decide_eq_true rfl]
      walk_at "run"
      exact ⟨rg r, rfl, by rw [(rg_sign hr).2.1]; decide, by rw [isReg_rg hr]; exact q⟩
    · walk_at "run"
      rw [decide_eq_false (by decide +kernel)]
      walk_at "run"
      rw [decide_eq_true rfl]
      walk_at "run"
      refine ⟨.int w, rfl, .int _, ?_⟩
      rw [amg_of ⟨w0, w1⟩]
      exact q
    · walk_at "run"
      rw [decide_eq_false (by decide +kernel)]
      walk_at "run"
      rw [decide_eq_false (by decide +kernel)]
      walk_at "run"
      refine ⟨t, n, rfl, by omega, ?_⟩
      rw [decide_eq_true (by omega)]
      exact q
end
section
variable {P : Program} {w : World} {K : PySem.W.Frag} {mg : Str → Option Value} {base : Heap}

theorem r_slT1 {K : PySem.W.Frag} {H : Hp} {a : Addr} {x : V} {xs : List V} {L : List SA} {Q : VK} (hs : Hd L H) (h : SqT K H a (x :: xs)) (q : ∀ p H', Hd (pto p (.tup xs) :: L) H' → Q (.ref p) H') : rSlT K (.ref a) (some 1) none H Q := by
  have e := cut_lo (fun v : V => v) (x :: xs) 1
  rw [List.map_id'] at e
  refine ⟨a, x :: xs, rfl, h, ?_, fun p n => ?_⟩
  · simp [HT.sIx]
  · rw [show cutV (x :: xs) (some 1) none = xs from e.trans (by simp)]
    exact q p _ (hs.new n)
def formOf : Rw → Str
  | .set _ _ => "rn"
  | .op _ _ _ => "rr"
  | .mem _ _ _ _ => "rrn"
  | .go _ => "t"
  | .iff _ _ => "rt"
  | .below _ _ _ => "rrt"
  | .into _ _ => "tr"
  | .by_ _ => "r"
  | .ask => ""
theorem form_len (r : Rw) : (formOf r).length + 1 = (rwV r).length := by cases r <;> kernel_rfl
theorem form_few (r : Rw) : (formOf r).length ≤ 3 := by cases r <;> exact Nat.le_of_ble_eq_true (by kernel_rfl)
theorem one_r : (⟨#[114]⟩ : Str) = "r" := by kernel_rfl
theorem one_n : (⟨#[110]⟩ : Str) = "n" := by kernel_rfl
theorem one_t : (⟨#[116]⟩ : Str) = "t" := by kernel_rfl
theorem form_ok {rw_ : Rw} {n : Nat} (ok : OkR n rw_) : (formOf rw_).cps.size = ((rwV rw_).drop 1).length ∧ (formOf rw_).cps.all (· < 128) = true ∧ ∀ (i c : Nat) (y : V), (formOf rw_).cps[i]? = some c → ((rwV rw_).drop 1)[i]? = some y → PartOk ⟨#[c]⟩ y n := by
  cases rw_ with
  | set r w =>
    refine ⟨by kernel_rfl, by kernel_rfl, fun i c y h1 h2 => ?_⟩
    rcases i with _ | _ | i
    · cases h1; cases h2; exact .inl ⟨one_r, r, ok.1, rfl⟩
    · cases h1; cases h2; exact .inr (.inl ⟨one_n, w, ok.2.1, ok.2.2, rfl⟩)
    · cases h2
  | op k r s =>
    refine ⟨by kernel_rfl, by kernel_rfl, fun i c y h1 h2 => ?_⟩
    rcases i with _ | _ | i
    · cases h1; cases h2; exact .inl ⟨one_r, r, ok.2.1, rfl⟩
    · cases h1; cases h2; exact .inl ⟨one_r, s, ok.2.2, rfl⟩
    · cases h2
  | mem k r s w =>
    refine ⟨by kernel_rfl, by kernel_rfl, fun i c y h1 h2 => ?_⟩
    rcases i with _ | _ | _ | i
    · cases h1; cases h2; exact .inl ⟨one_r, r, ok.2.1, rfl⟩
    · cases h1; cases h2; exact .inl ⟨one_r, s, ok.2.2.1, rfl⟩
    · cases h1; cases h2; exact .inr (.inl ⟨one_n, w, ok.2.2.2.1, ok.2.2.2.2, rfl⟩)
    · cases h2
  | go t =>
    refine ⟨by kernel_rfl, by kernel_rfl, fun i c y h1 h2 => ?_⟩
    rcases i with _ | i
    · cases h1; cases h2; exact .inr (.inr ⟨one_t, t, ok, rfl⟩)
    · cases h2
  | iff r t =>
    refine ⟨by kernel_rfl, by kernel_rfl, fun i c y h1 h2 => ?_⟩
    rcases i with _ | _ | i
    · cases h1; cases h2; exact .inl ⟨one_r, r, ok.1, rfl⟩
    · cases h1; cases h2; exact .inr (.inr ⟨one_t, t, ok.2, rfl⟩)
    · cases h2
  | below r s t =>
    refine ⟨by kernel_rfl, by kernel_rfl, fun i c y h1 h2 => ?_⟩
    rcases i with _ | _ | _ | i
    · cases h1; cases h2; exact .inl ⟨one_r, r, ok.1, rfl⟩
    · cases h1; cases h2; exact .inl ⟨one_r, s, ok.2.1, rfl⟩
    · cases h1; cases h2; exact .inr (.inr ⟨one_t, t, ok.2.2, rfl⟩)
    · cases h2
  | into t r =>
    refine ⟨by kernel_rfl, by kernel_rfl, fun i c y h1 h2 => ?_⟩
    rcases i with _ | _ | i
    · cases h1; cases h2; exact .inr (.inr ⟨one_t, t, ok.1, rfl⟩)
    · cases h1; cases h2; exact .inl ⟨one_r, r, ok.2, rfl⟩
    · cases h2
  | by_ r =>
    refine ⟨by kernel_rfl, by kernel_rfl, fun i c y h1 h2 => ?_⟩
    rcases i with _ | i
    · cases h1; cases h2; exact .inl ⟨one_r, r, ok, rfl⟩
    · cases h2
  | ask =>
    refine ⟨by kernel_rfl, by kernel_rfl, fun i c y h1 h2 => ?_⟩
    cases h2
def rwD : Rw → List PyData
  | .set r w => [.str "set", .str (rg r), .int w]
  | .op k r s => [.str (opn k), .str (rg r), .str (rg s)]
  | .mem k r s w => [.str (memn k), .str (rg r), .str (rg s), .int w]
  | .go t => [.str "go", .int (t : Nat)]
  | .iff r t => [.str "if", .str (rg r), .int (t : Nat)]
  | .below r s t => [.str "below", .str (rg r), .str (rg s), .int (t : Nat)]
  | .into t r => [.str "into", .int (t : Nat), .str (rg r)]
  | .by_ r => [.str "by", .str (rg r)]
  | .ask => [.str "ask"]
theorem dp_rw {K : PySem.W.Frag} {H : Hp} {t : Addr} {r : Rw} (h : SqT K H t (rwV r)) : Dp K H (.ref t) (.tuple (rwD r)) := by
  refine .tup h ?_
  cases r <;> repeat (first | exact .nil | refine .cons (.str _) ?_ | refine .cons (.int _) ?_)
theorem ok_rg {r : Nat} (h : r < 8) : PyData.strOk (rg r) = true := by
  rcases r with _ | _ | _ | _ | _ | _ | _ | _ | r <;> first | decide +kernel | omega
theorem ok_opn {k : Nat} (h : k < 6) : PyData.strOk (opn k) = true := by
  rcases k with _ | _ | _ | _ | _ | _ | k <;> first | decide +kernel | omega
theorem ok_memn {k : Nat} (h : k < 2) : PyData.strOk (memn k) = true := by
  rcases k with _ | _ | k <;> first | decide +kernel | omega
theorem ok_ws : PyData.strOk "set" = true ∧ PyData.strOk "go" = true ∧ PyData.strOk "if" = true ∧ PyData.strOk "below" = true ∧ PyData.strOk "into" = true ∧ PyData.strOk "by" = true ∧ PyData.strOk "ask" = true := by decide +kernel
theorem sh_rw {n : Nat} {r : Rw} (ok : OkR n r) : SeqAt.shaped (.tuple (rwD r)) = true := by
  obtain ⟨w1, w2, w3, w4, w5, w6, w7⟩ := ok_ws
  cases r with
  | set r w => simp [rwD, SeqAt.shaped, PyData.canLay0, PyData.canLayAll0, PyData.depth, PyData.depthAll, w1, ok_rg ok.1]
  | op k r s => simp [rwD, SeqAt.shaped, PyData.canLay0, PyData.canLayAll0, PyData.depth, PyData.depthAll, ok_opn ok.1, ok_rg ok.2.1, ok_rg ok.2.2]
  | mem k r s w => simp [rwD, SeqAt.shaped, PyData.canLay0, PyData.canLayAll0, PyData.depth, PyData.depthAll, ok_memn ok.1, ok_rg ok.2.1, ok_rg ok.2.2.1]
  | go t => simp [rwD, SeqAt.shaped, PyData.canLay0, PyData.canLayAll0, PyData.depth, PyData.depthAll, w2]
  | iff r t => simp [rwD, SeqAt.shaped, PyData.canLay0, PyData.canLayAll0, PyData.depth, PyData.depthAll, w3, ok_rg ok.1]
  | below r s t => simp [rwD, SeqAt.shaped, PyData.canLay0, PyData.canLayAll0, PyData.depth, PyData.depthAll, w4, ok_rg ok.1, ok_rg ok.2.1]
  | into t r => simp [rwD, SeqAt.shaped, PyData.canLay0, PyData.canLayAll0, PyData.depth, PyData.depthAll, w5, ok_rg ok.2]
  | by_ r =>
    have ok : r < 8 := ok
    simp [rwD, SeqAt.shaped, PyData.canLay0, PyData.canLayAll0, PyData.depth, PyData.depthAll, w6, ok_rg ok]
  | ask => simp [rwD, SeqAt.shaped, PyData.canLay0, PyData.canLayAll0, PyData.depth, PyData.depthAll, w7]
theorem rwD_ne (r : Rw) : PyData.eqv (.tuple (rwD r)) (.tuple []) = false := by
  cases r <;> rfl
/-- the word of a row -/
def wordOf : Rw → Str
  | .set _ _ => "set"
  | .op k _ _ => opn k
  | .mem k _ _ _ => memn k
  | .go _ => "go"
  | .iff _ _ => "if"
  | .below _ _ _ => "below"
  | .into _ _ => "into"
  | .by_ _ => "by"
  | .ask => "ask"
theorem word_at (r : Rw) : ∃ ys, rwV r = .str (wordOf r) :: ys ∧ ys = (rwV r).drop 1 := by cases r <;> exact ⟨_, rfl, rfl⟩
theorem forms_at {K : PySem.W.Frag} {mg : Str → Option Value} (T : Txt K mg) {r : Rw} {n : Nat} (ok : OkR n r) : ∃ t, PySem.W.nsIn K T.a_FORMS (wordOf r) = some (some (.str (formOf r) t)) := by
  cases r with
  | set r w => exact T.ni_FORMS_0
  | op k r s =>
    have hk := ok.1
    rcases k with _ | _ | _ | _ | _ | _ | k
    · exact T.ni_FORMS_1
    · exact T.ni_FORMS_2
    · exact T.ni_FORMS_3
    · exact T.ni_FORMS_4
    · exact T.ni_FORMS_5
    · exact T.ni_FORMS_6
    · omega
  | mem k r s w =>
    have hk := ok.1
    rcases k with _ | _ | k
    · exact T.ni_FORMS_7
    · exact T.ni_FORMS_8
    · omega
  | go t => exact T.ni_FORMS_9
  | iff r t => exact T.ni_FORMS_10
  | below r s t => exact T.ni_FORMS_11
  | into t r => exact T.ni_FORMS_12
  | by_ r => exact T.ni_FORMS_13
  | ask => exact T.ni_FORMS_14
/-- rows at addresses: tuples -/
def rowsT (xs : List V) (R : List Rw) : SA := tupsA xs (R.map rwV)
theorem rows_st {K : PySem.W.Frag} {xs : List V} {R : List Rw} {r : Rw} {t : Addr} {i : Nat} {L L' : List SA} {H : Hp} (h : Hd L H) (p : Pull (rowsT xs R) L L') (ex : xs[i]? = some (.ref t)) (e : R[i]? = some r) : SqT K H t (rwV r) :=
  tups_st h p ex (by rw [List.getElem?_map, e]; rfl)
theorem rows_get {xs : List V} {R : List Rw} {r : Rw} {t : Addr} {i : Nat} {L L' : List SA} {H : Hp} (h : Hd L H) (p : Pull (rowsT xs R) L L') (ex : xs[i]? = some (.ref t)) (e : R[i]? = some r) : H t = some (.tup (rwV r)) := by
  obtain ⟨t2, e2, e3⟩ := tups_at h p (show (R.map rwV)[i]? = some (rwV r) by rw [List.getElem?_map, e]; rfl)
  rw [ex] at e2
  cases e2
  exact e3
theorem rows_ref {xs : List V} {R : List Rw} {r : Rw} {i : Nat} {L L' : List SA} {H : Hp} (h : Hd L H) (p : Pull (rowsT xs R) L L') (e : R[i]? = some r) : ∃ t, xs[i]? = some (.ref t) := by
  obtain ⟨t, e, _⟩ := tups_at h p (show (R.map rwV)[i]? = some (rwV r) by rw [List.getElem?_map, e]; rfl)
  exact ⟨t, e⟩
theorem rows_len {xs : List V} {R : List Rw} {L L' : List SA} {H : Hp} (h : Hd L H) (p : Pull (rowsT xs R) L L') : xs.length = R.length := by
  rw [tups_len h p, List.length_map]
theorem rows_nil {L : List SA} {H : Hp} (h : Hd L H) : Hd (rowsT [] [] :: L) H := tups_nil h
theorem rows_snoc {xs : List V} {R : List Rw} {r : Rw} {t : Addr} {L : List SA} {H : Hp} (h : Hd (pto t (.tup (rwV r)) :: rowsT xs R :: L) H) : Hd (rowsT (xs ++ [.ref t]) (R ++ [r]) :: L) H := by
  have := tups_snoc h
  unfold rowsT
  rw [List.map_append]
  exact this

def sp_is_row (T : Txt K mg) : Sp := fun vs H Q _ => ∃ (t : Addr) (r : Rw) (n i : Nat) (xs : List V) (R : List Rw) (L : List SA), vs = [.ref t, .int (n : Nat)] ∧ (OkR n r ∧ xs[i]? = some (.ref t) ∧ R[i]? = some r) ∧ Hd (rowsT xs R :: L) H ∧ ∀ H', Hd (rowsT xs R :: L) H' → Q (.bl true) H'
theorem ok_is_row (T : Txt K mg) (FW : T.wP = w.params) : FnOk P w K mg base CX0 5 T.a_is_row T.d_is_row ["thing", "many"] (sp_is_row T) := by
  refine T.f_is_row.ok sc_is_row (fun vs H Q E h => ?_) (fun cdv A outer s H vs Q E hr h => ?_)
  · obtain ⟨t, r, n, i, xs, R, L, rfl, _⟩ := h
    rfl
  · obtain ⟨t, r, n, i, xs, R, L, rfl, h⟩ := h
    refine ⟨_, (pss_cons (ps_if (PW.pt (pw_or (pt_not (pt_val (pe_callB (k_isA (K := K) rfl) (by rfl) T.n_isinstance (by decide +kernel) (pa_cons (pv 0) (pa_cons (pe_bltn (v := .ty "tuple") (by rfl) T.n_tuple (by decide +kernel) rfl) pa_nil))))) (pw_or (pt_cmpR (k_eq (K := K) rfl hr.units) (pv 0) (pe_tup pa_nil) (nomark _)) (pw_or (pt_not (pt_val (pe_callB (k_isA (K := K) rfl) (by rfl) T.n_isinstance (by decide +kernel) (pa_cons (pe_ix (k_ix (K := K) rfl (hu_of hr)) (pv 0) pe_int (fun _ _ => rfl)) (pa_cons (pe_bltn (v := .ty "str") (by rfl) T.n_str (by decide +kernel) rfl) pa_nil))))) (pw_or1 (pt_cmpR (Sl.op_notInKD (K := K) (T.kd_FORMS) FW rfl rfl) (pe_ix (k_ix (K := K) rfl (hu_of hr)) (pv 0) pe_int (fun _ _ => rfl)) (pe_glob (v := .ref T.a_FORMS) (by rfl) T.g_FORMS rfl) (by rfl)))))))
        (pss_one (ps_ret pe_bl))
        pss_nil)
       (pss_cons (ps_set (i := 2) sc_is_row.nd rfl (by first | exact Or.inl rfl | exact Or.inr rfl) (pe_ix (Sl.ix_KD (K := K) (T.kd_FORMS) FW rfl rfl) (pe_glob (v := .ref T.a_FORMS) (by rfl) T.g_FORMS rfl) (pe_ix (k_ix (K := K) rfl (hu_of hr)) (pv 0) pe_int (fun _ _ => rfl)) (fun _ _ => rfl)))
       (pss_cons (ps_if (pt_cmpR (k_ne (K := K) rfl hr.units) (pe_callB (k_len (K := K) rfl) (by rfl) T.n_len (by decide +kernel) (pa_cons (pv 0) pa_nil)) (pe_op (k_add (K := K) rfl) pe_int (pe_callB (k_len (K := K) rfl) (by rfl) T.n_len (by decide +kernel) (pa_cons (pv 2) pa_nil))) (nomark _))
        (pss_one (ps_ret pe_bl))
        pss_nil)
       (pss_one (ps_ret (pe_callB (k_all (K := K) rfl rfl) (by rfl) T.n_all (by decide +kernel) (pa_cons (pe_lc (own := [("sign", 3), ("part", 4)]) rfl sc_is_row.nd (Zs.pi_zipS true (by rfl) T.n_zip (pa_cons (pv 2) (pa_cons (pe_slice (k_slT (K := K) rfl) (pv 0) (po_some pe_int) po_none) pa_nil))) (blkOk_by (N := ["thing", "many", "form", "sign", "part"]) (sc := defScope s_is_row) (by decide +kernel)) (fun _ _ _ _ _ => (k_gTup (K := K) (n := 2) rfl (pg_tup (n := 2) (by rfl) (pgs_cons (pg_name (i := 3) sc_is_row.nd rfl (by first | exact Or.inl rfl | exact Or.inr rfl)) (pgs_cons (pg_name (i := 4) sc_is_row.nd rfl (by first | exact Or.inl rfl | exact Or.inr rfl)) pgs_nil))))) (fun s_0 H_0 C_0 cl_0 fp_0 => pts_nil) (fun s_0 H_0 C_0 cl_0 fp_0 => (pe_call (ok_is_part T) hr (by rfl) T.g_is_part T.f_is_part.kp T.b_is_part .nil pass0 (pa_cons (pv 3) (pa_cons (pv 4) (pa_cons (pv 1) pa_nil)))))) pa_nil))))))), ?_⟩
    try dsimp only [cxOf]
    obtain ⟨⟨ok, ex, er⟩, hs, q⟩ := h
    obtain ⟨ys, ew, ey⟩ := word_at r
    obtain ⟨f1, f2, f3⟩ := form_ok ok
    have fm := forms_at T ok
    have ix : atI (rwV r) 0 = some (.str (wordOf r)) := by rw [ew]; exact Sl.atI_head
    rw [← ey] at f1 f3
    walk_at "run"
    refine Sl.r_isAU (Sl.r_isi (.ty _) (.base (.tup (rows_get hs (by walk_at "pull") ex er))) (b := true) (by rfl) ?_)
    walk_at "run"
    refine Sl.r_eqD (dp_rw (rows_st hs (by walk_at "pull") ex er)) (.tup (hs.st (by walk_at "pull")) .nil) (sh_rw ok) (by decide) ?_
    rw [rwD_ne]
    walk_at "run"
    refine Sl.r_ixT (rows_st hs (by walk_at "pull") ex er) ix ?_
    walk_at "run"
    refine Sl.r_ixT (rows_st hs (by walk_at "pull") ex er) ix ?_
    walk_at "run"
    refine Sl.r_niKD fm ?_
    walk_at "run"
    refine Sl.r_ixT (rows_st hs (by walk_at "pull") ex er) ix ?_
    walk_at "run"
    refine Sl.r_ixKD fm ?_
    walk_at "run"
    have fl := form_len r
    have ff := form_few r
    refine Sl.r_lenT (rows_st hs (by walk_at "pull") ex er) ?_
    walk_at "run"
    refine Sl.r_lenS (Sl.sz (by omega)) ?_
    walk_at "run"
    rw [decide_eq_true (by omega)]
    walk_at "run"
    refine Sl.r_iZipS ?_
    walk_at "run"
    refine r_slT1 hs (by rw [← ew]; exact rows_st hs (by walk_at "pull") ex er) fun sl H hs => ?_
    walk_at "run"
    refine Sl.r_zipST f2 (hs.st (by walk_at "pull")) ?_
    have hk : (formOf r).cps.size ≤ 3 := ff
    refine Sl.r_lcZs (n := (formOf r).cps.size) (ys := ys) (by rw [← f1]; omega) (fun D i H => Hd (pto D (.lst ((List.replicate i true).map V.bl)) :: pto sl (.tup ys) :: rowsT xs R :: L) H) hs (fun D H hs => (by show Hd (pto D (.lst []) :: _) _; exact Hd.mt (by walk_at "mt") hs)) (fun D i H _ hs => hs.st (by walk_at "pull")) ?_ ?_
    · clear hs
      rintro D i c y TT H hc hy hs hT
      have hs := hs.new (o := .tup [.str ⟨#[c]⟩, y]) hT
      have hi : i < 3 := by
        have := (Array.getElem?_eq_some_iff.mp hc).1
        omega
      walk_at "run"
      refine ⟨⟨#[c]⟩, y, n, rfl, f3 i c y hc hy, ?_⟩
      walk_at "run"
      rw [show (List.replicate (i + 1) true).map V.bl = (List.replicate i true).map V.bl ++ [V.bl true] from by rw [List.replicate_succ', List.map_append]; rfl]
      walk_at "rest"
    clear hs
    rintro D H hs
    walk_at "run"
    refine Sl.r_all (hs.sq (a := D) (by walk_at "pull")) ?_
    rw [all_true]
    exact q _ (Hd.mt (by walk_at "mt") hs)
end
section
variable {P : Program} {w : World} {K : PySem.W.Frag} {mg : Str → Option Value} {base : Heap}

/-! ### programs: rows at addresses -/
def progA (C p : Addr) (xs : List V) : SA := fun H => ∃ dx l, Hd [pto p (.ins C dx (fs_Program (.ref l))), pto l (.lst xs)] H
section
variable {C p dx l : Addr} {xs : List V} {L L' : List SA} {H : Hp}
theorem pr_open (h : Hd (progA C p xs :: L) H) : ∃ dx l, Hd (pto p (.ins C dx (fs_Program (.ref l))) :: pto l (.lst xs) :: L) H := by
  obtain ⟨H1, H2, c, s1, s2, ⟨dx, l, p⟩, q⟩ := h
  exact ⟨dx, l, Hd.open (M := [_, _]) ⟨H1, H2, c, s1, s2, p, q⟩⟩
theorem pr_close (h : Hd (pto p (.ins C dx (fs_Program (.ref l))) :: pto l (.lst xs) :: L) H) : Hd (progA C p xs :: L) H :=
  (Hd.close (M := [_, _]) h).imp fun _ z => ⟨dx, l, z⟩
theorem pr_ins (h : Hd L H) (pl : Pull (progA C p xs) L L') : ∃ dx x, H p = some (.ins C dx (fs_Program x)) := by
  obtain ⟨dx, l, z⟩ := pr_open (h.pull pl)
  exact ⟨dx, _, z.get .here⟩
theorem r_methPr {m : Str} {R : V → Hp → Prop} (h : Hd L H) (pl : Pull (progA C p xs) L L') (e : ∀ x, (fs_Program x).lookup m = none) (q : R (.ref p) H) : MethK C m R (.ref p) H := by
  obtain ⟨dx, x, z⟩ := pr_ins h pl
  exact r_methK z (e _) q
end

end
set_option hygiene false in
local macro_rules | `(tactic| walk_at "meth") => `(tactic| first | refine r_methSt hs (by walk_at "pull") (fun _ => by walk_at "look") ?_ | refine r_methPr hs (by walk_at "pull") (fun _ => by walk_at "look") ?_ | refine fl_meth hs (by walk_at "pull") (fun _ => by walk_at "look") ?_)

section
variable {P : Program} {w : World} {K : PySem.W.Frag} {mg : Str → Option Value} {base : Heap}
theorem inV_of {x : V} {xs : List V} {b : Bool} (h : inV x xs = b) : inV x xs = b := h
def sp_Program_init (T : Txt K mg) : Sp := fun vs H Q _ => ∃ (p dx l : Addr) (xs : List V) (L : List SA), vs = [.ref p, .ref l] ∧ Hd (pto p (.ins T.C_Program dx []) :: pto l (.lst xs) :: L) H ∧ ∀ H', Hd (progA T.C_Program p xs :: L) H' → Q .non H'
theorem ok_Program_init (T : Txt K mg) : FnOk P w K mg base CX0 1 T.a_Program_init T.d_Program_init ["self", "listed"] (sp_Program_init T) := by
  refine T.f_Program_init.ok sc_Program_init (fun vs H Q E h => ?_) (fun cdv A outer s H vs Q E hr h => ?_)
  · obtain ⟨p, dx, l, xs, L, rfl, _⟩ := h
    rfl
  · obtain ⟨p, dx, l, xs, L, rfl, h⟩ := h
    refine ⟨_, (pss_one (ps_fld (pv 0) (pv 1) rfl)), ?_⟩
    try dsimp only [cxOf]
    obtain ⟨hs, q⟩ := h
    walk_at "run"
    exact q _ (pr_close (Hd.mt (by walk_at "mt") hs))
def sp_Program_row (T : Txt K mg) : Sp := fun vs H Q _ => ∃ (p : Addr) (xs : List V) (n : Int) (L : List SA), vs = [.ref p, .int n] ∧ (0 ≤ n ∧ xs.length ≤ 200) ∧ Hd (progA T.C_Program p xs :: L) H ∧ ((xs.length : Int) ≤ n → Q .non H) ∧ (∀ v, xs[n.toNat]? = some v → Q v H)
theorem ok_Program_row (T : Txt K mg) : FnOk P w K mg base CX0 2 T.a_Program_row T.d_Program_row ["self", "place"] (sp_Program_row T) := by
  refine T.f_Program_row.ok sc_Program_row (fun vs H Q E h => ?_) (fun cdv A outer s H vs Q E hr h => ?_)
  · obtain ⟨p, xs, n, L, rfl, _⟩ := h
    rfl
  · obtain ⟨p, xs, n, L, rfl, h⟩ := h
    refine ⟨_, (pss_cons (ps_if (pt_not (pt_val (pe_call (ok_is_place T) hr (by rfl) T.g_is_place T.f_is_place.kp T.b_is_place .nil pass0 (pa_cons (pv 1) (pa_cons (pe_callB (k_len (K := K) rfl) (by rfl) T.n_len (by decide +kernel) (pa_cons (k_fld (K := K) rfl (pv 0) rfl) pa_nil)) pa_nil)))))
        (pss_one (ps_ret pe_non))
        pss_nil)
       (pss_one (ps_ret (pe_ix (k_ix (K := K) rfl (hu_of hr)) (k_fld (K := K) rfl (pv 0) rfl) (pv 1) (fun _ _ => rfl))))), ?_⟩
    try dsimp only [cxOf]
    obtain ⟨⟨n0, lx⟩, hs, q1, q2⟩ := h
    obtain ⟨dx, l, hs⟩ := pr_open hs
    walk_at "run"
    refine ⟨n, xs.length, rfl, n0, ?_⟩
    by_cases hn : n < xs.length
    · obtain ⟨k, rfl⟩ : ∃ k : Nat, n = (k : Int) := ⟨n.toNat, by omega⟩
      have hk : k < xs.length := by omega
      rw [decide_eq_true hn]
      walk_at "run"
      refine Sl.r_ixL (by walk_at "sq") (atI_nat (v := xs[k]) (by simp [hk])) ?_
      walk_at "run"
      exact q2 _ (by simp [hk])
    · rw [decide_eq_false hn]
      walk_at "run"
      exact q1 (by omega)
def sp_program_of (T : Txt K mg) : Sp := fun vs H Q _ => ∃ (l : Addr) (xs : List V) (R : List Rw) (L : List SA), vs = [.ref l] ∧ (1 ≤ R.length ∧ R.length ≤ 200 ∧ ∀ r ∈ R, OkR R.length r) ∧ Hd (pto l (.lst xs) :: rowsT xs R :: L) H ∧ ∀ p H', Hd (progA T.C_Program p xs :: pto l (.lst xs) :: rowsT xs R :: L) H' → Q (.ref p) H'
theorem ok_program_of (T : Txt K mg) (FW : T.wP = w.params) : FnOk P w K mg base CX0 6 T.a_program_of T.d_program_of ["rows"] (sp_program_of T) := by
  refine T.f_program_of.ok sc_program_of (fun vs H Q E h => ?_) (fun cdv A outer s H vs Q E hr h => ?_)
  · obtain ⟨l, xs, R, L, rfl, _⟩ := h
    rfl
  · obtain ⟨l, xs, R, L, rfl, h⟩ := h
    refine ⟨_, (pss_cons (ps_if (PW.pt (pw_or (pt_not (pt_val (pe_callB (k_isA (K := K) rfl) (by rfl) T.n_isinstance (by decide +kernel) (pa_cons (pv 0) (pa_cons (pe_bltn (v := .ty "list") (by rfl) T.n_list (by decide +kernel) rfl) pa_nil))))) (pw_or1 (pt_not (pt_chain op_le op_le pe_int (pe_callB (k_len (K := K) rfl) (by rfl) T.n_len (by decide +kernel) (pa_cons (pv 0) pa_nil)) (pe_glob (v := .int 200) (by rfl) T.g_MOST_ROWS.choose_spec ⟨_, rfl⟩))))))
        (pss_one ps_never)
        pss_nil)
       (pss_cons (ps_for PassesOwn.never rfl (pi_enum (by rfl) T.n_enumerate (pa_cons (pv 0) pa_nil)) (k_gTup (K := K) (n := 2) rfl (pg_tup (n := 2) (by rfl) (pgs_cons (pg_name (i := 1) sc_program_of.nd rfl (by first | exact Or.inl rfl | exact Or.inr rfl)) (pgs_cons (pg_name (i := 2) sc_program_of.nd rfl (by first | exact Or.inl rfl | exact Or.inr rfl)) pgs_nil))))
        (pss_one (ps_if (pt_not (pt_val (pe_call (ok_is_row T FW) hr (by rfl) T.g_is_row T.f_is_row.kp T.b_is_row .nil pass0 (pa_cons (pv 2) (pa_cons (pe_callB (k_len (K := K) rfl) (by rfl) T.n_len (by decide +kernel) (pa_cons (pv 0) pa_nil)) pa_nil)))))
        (pss_one ps_never)
        pss_nil)))
       (pss_one (ps_ret (pe_make T.mk_Program (ok_Program_init T) (hr.mono (by decide)) (by rfl) T.g_Program T.b_Program_init .nil pass0 (pa_cons (pe_callTy (k_list (K := K) rfl) (by rfl) T.n_list (by decide +kernel) (pa_cons (pv 0) pa_nil)) pa_nil)))))), ?_⟩
    try dsimp only [cxOf]
    obtain ⟨⟨l1, l2, ok⟩, hs, q⟩ := h
    have lx := rows_len hs (by walk_at "pull")
    walk_at "run"
    rw [decide_eq_true (by omega)]
    walk_at "run"
    rw [decide_eq_true (by omega)]
    walk_at "run"
    refine r_forE xs (fun i σ H => (∃ x y, σ = [some (.ref l), x, y]) ∧ Hd (pto l (.lst xs) :: rowsT xs R :: L) H) ⟨⟨_, _, rfl⟩, hs⟩ (fun i σ H _ z => z.2.sq (by walk_at "pull")) ?_ ?_
    · clear hs
      rintro i x TT σ H hx ⟨⟨_, _, rfl⟩, hs⟩ hT
      have hs := hs.new (o := .tup [.int (i : Nat), x]) hT
      have hi : i < R.length := by
        have := (List.getElem?_eq_some_iff.mp hx).1
        omega
      have hr : R[i]? = some R[i] := List.getElem?_eq_getElem hi
      obtain ⟨t, et⟩ := rows_ref hs (by walk_at "pull") hr
      rw [hx] at et
      cases et
      walk_at "run"
      refine ⟨t, R[i], R.length, i, xs, R, _, by rw [lx]; rfl, ⟨ok _ (List.getElem_mem hi), hx, hr⟩, hs.pull (by walk_at "pull"), fun H hs => ?_⟩
      walk_at "run"
      exact ⟨⟨_, _, rfl⟩, Hd.mt (by walk_at "mt") hs⟩
    clear hs
    rintro σ H ⟨⟨_, _, rfl⟩, hs⟩
    walk_at "run"
    refine ⟨q_, dx_, _, xs, _, rfl, Hd.mt (by walk_at "mt") hs, fun H hs => ⟨rfl, ?_⟩⟩
    walk_at "run"
    exact q _ _ hs
end
set_option hygiene false in
local macro_rules | `(tactic| walk_at "tx") => `(tactic| repeat (walk_at "run"; first | rw [decide_eq_true (p := ((_ : Str) = _)) (by decide +kernel)] | rw [decide_eq_false (p := ((_ : Str) = _)) (by decide +kernel)] | rw [inV_of (b := true) (by decide +kernel)] | rw [inV_of (b := false) (by decide +kernel)] | rw [decide_eq_true (p := ((_ : V) = _)) rfl] | rw [decide_eq_false (p := ((_ : V) = _)) (by intro e; cases e)]))
set_option hygiene false in
local macro_rules | `(tactic| walk_at "txr") => `(tactic| (walk_at "tx"; walk_at "run"))

section
variable {P : Program} {w : World} {K : PySem.W.Frag} {mg : Str → Option Value} {base : Heap}

/-! ### words that stand for parts -/
theorem st_rn : (⟨#[114]⟩ : Str) ≠ "n" := by decide +kernel
theorem st_rt : (⟨#[114]⟩ : Str) ≠ "t" := by decide +kernel
theorem st_nr : (⟨#[110]⟩ : Str) ≠ "r" := by decide +kernel
theorem st_nt : (⟨#[110]⟩ : Str) ≠ "t" := by decide +kernel
theorem st_tr : (⟨#[116]⟩ : Str) ≠ "r" := by decide +kernel
theorem st_tn : (⟨#[116]⟩ : Str) ≠ "n" := by decide +kernel
theorem part_r {v : V} {n : Nat} (h : PartOk ⟨#[114]⟩ v n) : ∃ r, r < 8 ∧ v = .str (rg r) := by
  rcases h with ⟨_, h⟩ | ⟨e, _⟩ | ⟨e, _⟩
  · exact h
  · exact absurd e st_rn
  · exact absurd e st_rt
theorem part_n {v : V} {n : Nat} (h : PartOk ⟨#[110]⟩ v n) : ∃ w, (0 ≤ w ∧ w ≤ 65535) ∧ v = .int w := by
  rcases h with ⟨e, _⟩ | ⟨_, w, a, b, c⟩ | ⟨e, _⟩
  · exact absurd e st_nr
  · exact ⟨w, ⟨a, b⟩, c⟩
  · exact absurd e st_nt
theorem part_t {v : V} {n : Nat} (h : PartOk ⟨#[116]⟩ v n) : ∃ t : Nat, t < n ∧ v = .int (t : Nat) := by
  rcases h with ⟨e, _⟩ | ⟨e, _⟩ | ⟨_, h⟩
  · exact absurd e st_tr
  · exact absurd e st_tn
  · exact h
def formsK : List (Str × Str) := [("set", "rn"), ("load", "rrn"), ("keep", "rrn"), ("go", "t"), ("if", "rt"), ("below", "rrt"), ("into", "tr"), ("by", "r"), ("ask", ""), ("copy", "rr"), ("add", "rr"), ("less", "rr"), ("times", "rr"), ("parts", "rr"), ("rest", "rr")]
theorem row_of {w f : Str} {vs : List V} {m : Nat} (hw : (w, f) ∈ formsK) (l : vs.length = f.cps.size) (ok : ∀ (i c : Nat) (v : V), f.cps[i]? = some c → vs[i]? = some v → PartOk ⟨#[c]⟩ v m) :
    ∃ r, OkR m r ∧ rwV r = .str w :: vs ∧ formOf r = f := by
  simp only [formsK, List.mem_cons, List.not_mem_nil, or_false, Prod.mk.injEq] at hw
  rcases hw with ⟨rfl, rfl⟩ | ⟨rfl, rfl⟩ | ⟨rfl, rfl⟩ | ⟨rfl, rfl⟩ | ⟨rfl, rfl⟩ | ⟨rfl, rfl⟩ | ⟨rfl, rfl⟩ | ⟨rfl, rfl⟩ | ⟨rfl, rfl⟩ | ⟨rfl, rfl⟩ | ⟨rfl, rfl⟩ | ⟨rfl, rfl⟩ | ⟨rfl, rfl⟩ | ⟨rfl, rfl⟩ | ⟨rfl, rfl⟩
  · -- set
    obtain ⟨v0, v1, rfl⟩ : ∃ v0 v1, vs = [v0, v1] := by
      match vs, l with
      | [v0, v1], _ => exact ⟨v0, v1, rfl⟩
    obtain ⟨r0, h0, rfl⟩ := part_r (ok 0 _ _ rfl rfl)
    obtain ⟨w1, h1, rfl⟩ := part_n (ok 1 _ _ rfl rfl)
    exact ⟨Rw.set r0 w1, ⟨h0, h1⟩, by kernel_rfl, by kernel_rfl⟩
  · -- load
    obtain ⟨v0, v1, v2, rfl⟩ : ∃ v0 v1 v2, vs = [v0, v1, v2] := by
      match vs, l with
      | [v0, v1, v2], _ => exact ⟨v0, v1, v2, rfl⟩
    obtain ⟨r0, h0, rfl⟩ := part_r (ok 0 _ _ rfl rfl)
    obtain ⟨r1, h1, rfl⟩ := part_r (ok 1 _ _ rfl rfl)
    obtain ⟨w2, h2, rfl⟩ := part_n (ok 2 _ _ rfl rfl)
    exact ⟨Rw.mem 0 r0 r1 w2, ⟨by decide, h0, h1, h2⟩, by kernel_rfl, by kernel_rfl⟩
  · -- keep
    obtain ⟨v0, v1, v2, rfl⟩ : ∃ v0 v1 v2, vs = [v0, v1, v2] := by
      match vs, l with
      | [v0, v1, v2], _ => exact ⟨v0, v1, v2, rfl⟩
    obtain ⟨r0, h0, rfl⟩ := part_r (ok 0 _ _ rfl rfl)
    obtain ⟨r1, h1, rfl⟩ := part_r (ok 1 _ _ rfl rfl)
    obtain ⟨w2, h2, rfl⟩ := part_n (ok 2 _ _ rfl rfl)
    exact ⟨Rw.mem 1 r0 r1 w2, ⟨by decide, h0, h1, h2⟩, by kernel_rfl, by kernel_rfl⟩
  · -- go
    obtain ⟨v0, rfl⟩ : ∃ v0, vs = [v0] := by
      match vs, l with
      | [v0], _ => exact ⟨v0, rfl⟩
    obtain ⟨t0, h0, rfl⟩ := part_t (ok 0 _ _ rfl rfl)
    exact ⟨Rw.go t0, h0, by kernel_rfl, by kernel_rfl⟩
  · -- if
    obtain ⟨v0, v1, rfl⟩ : ∃ v0 v1, vs = [v0, v1] := by
      match vs, l with
      | [v0, v1], _ => exact ⟨v0, v1, rfl⟩
    obtain ⟨r0, h0, rfl⟩ := part_r (ok 0 _ _ rfl rfl)
    obtain ⟨t1, h1, rfl⟩ := part_t (ok 1 _ _ rfl rfl)
    exact ⟨Rw.iff r0 t1, ⟨h0, h1⟩, by kernel_rfl, by kernel_rfl⟩
  · -- below
    obtain ⟨v0, v1, v2, rfl⟩ : ∃ v0 v1 v2, vs = [v0, v1, v2] := by
      match vs, l with
      | [v0, v1, v2], _ => exact ⟨v0, v1, v2, rfl⟩
    obtain ⟨r0, h0, rfl⟩ := part_r (ok 0 _ _ rfl rfl)
    obtain ⟨r1, h1, rfl⟩ := part_r (ok 1 _ _ rfl rfl)
    obtain ⟨t2, h2, rfl⟩ := part_t (ok 2 _ _ rfl rfl)
    exact ⟨Rw.below r0 r1 t2, ⟨h0, h1, h2⟩, by kernel_rfl, by kernel_rfl⟩
  · -- into
    obtain ⟨v0, v1, rfl⟩ : ∃ v0 v1, vs = [v0, v1] := by
      match vs, l with
      | [v0, v1], _ => exact ⟨v0, v1, rfl⟩
    obtain ⟨t0, h0, rfl⟩ := part_t (ok 0 _ _ rfl rfl)
    obtain ⟨r1, h1, rfl⟩ := part_r (ok 1 _ _ rfl rfl)
    exact ⟨Rw.into t0 r1, ⟨h0, h1⟩, by kernel_rfl, by kernel_rfl⟩
  · -- by
    obtain ⟨v0, rfl⟩ : ∃ v0, vs = [v0] := by
      match vs, l with
      | [v0], _ => exact ⟨v0, rfl⟩
    obtain ⟨r0, h0, rfl⟩ := part_r (ok 0 _ _ rfl rfl)
    exact ⟨Rw.by_ r0, h0, by kernel_rfl, by kernel_rfl⟩
  · -- ask
    have e : vs = [] := by
      match vs, l with
      | [], _ => rfl
    subst e
    exact ⟨Rw.ask, trivial, by kernel_rfl, by kernel_rfl⟩
  · -- copy
    obtain ⟨v0, v1, rfl⟩ : ∃ v0 v1, vs = [v0, v1] := by
      match vs, l with
      | [v0, v1], _ => exact ⟨v0, v1, rfl⟩
    obtain ⟨r0, h0, rfl⟩ := part_r (ok 0 _ _ rfl rfl)
    obtain ⟨r1, h1, rfl⟩ := part_r (ok 1 _ _ rfl rfl)
    exact ⟨Rw.op 0 r0 r1, ⟨by decide, h0, h1⟩, by kernel_rfl, by kernel_rfl⟩
  · -- add
    obtain ⟨v0, v1, rfl⟩ : ∃ v0 v1, vs = [v0, v1] := by
      match vs, l with
      | [v0, v1], _ => exact ⟨v0, v1, rfl⟩
    obtain ⟨r0, h0, rfl⟩ := part_r (ok 0 _ _ rfl rfl)
    obtain ⟨r1, h1, rfl⟩ := part_r (ok 1 _ _ rfl rfl)
    exact ⟨Rw.op 1 r0 r1, ⟨by decide, h0, h1⟩, by kernel_rfl, by kernel_rfl⟩
  · -- less
    obtain ⟨v0, v1, rfl⟩ : ∃ v0 v1, vs = [v0, v1] := by
      match vs, l with
      | [v0, v1], _ => exact ⟨v0, v1, rfl⟩
    obtain ⟨r0, h0, rfl⟩ := part_r (ok 0 _ _ rfl rfl)
    obtain ⟨r1, h1, rfl⟩ := part_r (ok 1 _ _ rfl rfl)
    exact ⟨Rw.op 2 r0 r1, ⟨by decide, h0, h1⟩, by kernel_rfl, by kernel_rfl⟩
  · -- times
    obtain ⟨v0, v1, rfl⟩ : ∃ v0 v1, vs = [v0, v1] := by
      match vs, l with
      | [v0, v1], _ => exact ⟨v0, v1, rfl⟩
    obtain ⟨r0, h0, rfl⟩ := part_r (ok 0 _ _ rfl rfl)
    obtain ⟨r1, h1, rfl⟩ := part_r (ok 1 _ _ rfl rfl)
    exact ⟨Rw.op 3 r0 r1, ⟨by decide, h0, h1⟩, by kernel_rfl, by kernel_rfl⟩
  · -- parts
    obtain ⟨v0, v1, rfl⟩ : ∃ v0 v1, vs = [v0, v1] := by
      match vs, l with
      | [v0, v1], _ => exact ⟨v0, v1, rfl⟩
    obtain ⟨r0, h0, rfl⟩ := part_r (ok 0 _ _ rfl rfl)
    obtain ⟨r1, h1, rfl⟩ := part_r (ok 1 _ _ rfl rfl)
    exact ⟨Rw.op 4 r0 r1, ⟨by decide, h0, h1⟩, by kernel_rfl, by kernel_rfl⟩
  · -- rest
    obtain ⟨v0, v1, rfl⟩ : ∃ v0 v1, vs = [v0, v1] := by
      match vs, l with
      | [v0, v1], _ => exact ⟨v0, v1, rfl⟩
    obtain ⟨r0, h0, rfl⟩ := part_r (ok 0 _ _ rfl rfl)
    obtain ⟨r1, h1, rfl⟩ := part_r (ok 1 _ _ rfl rfl)
    exact ⟨Rw.op 5 r0 r1, ⟨by decide, h0, h1⟩, by kernel_rfl, by kernel_rfl⟩
/-- what stands behind a row's word, with its sign -/
def prs (r : Rw) : List (Nat × V) := (formOf r).cps.toList.zip ((rwV r).drop 1)
def tgt : Rw → Option Int
  | .go t => some (t : Nat)
  | .iff _ t => some (t : Nat)
  | .below _ _ t => some (t : Nat)
  | .into t _ => some (t : Nat)
  | _ => none
def askP (acc : List Int) (e : Nat × V) : List Int := match e with
  | (c, .int t) => if c = 116 then (if t ∈ acc then acc else acc ++ [t]) else acc
  | _ => acc
def asked (R : List Rw) : List Int := R.foldl (fun acc r => (prs r).foldl askP acc) []
theorem ask_row (acc : List Int) (r : Rw) : (prs r).foldl askP acc = (match tgt r with | some t => if t ∈ acc then acc else acc ++ [t] | none => acc) := by
  cases r <;> first | rfl | (simp [prs, formOf, rwV, askP, tgt, List.foldl]; done) | kernel_rfl

end
section
variable {P : Program} {w : World} {K : PySem.W.Frag} {mg : Str → Option Value} {base : Heap}

theorem askP_no {acc : List Int} {e : Nat × V} (h : e.1 ≠ 116) : askP acc e = acc := by
  obtain ⟨c, v⟩ := e
  cases v <;> first | rfl | exact if_neg h
theorem askP_t {acc : List Int} {t : Int} : askP acc (116, .int t) = if t ∈ acc then acc else acc ++ [t] := rfl
theorem askP_len (acc : List Int) (e : Nat × V) : (askP acc e).length ≤ acc.length + 1 := by
  by_cases h : e.1 = 116
  · obtain ⟨c, v⟩ := e
    cases v with
    | int t =>
      cases h
      rw [askP_t]
      split
      · omega
      · rw [List.length_append]; exact Nat.le_refl _
    | _ => exact Nat.le_succ _
  · rw [askP_no h]; omega
theorem askF_len : ∀ (l : List (Nat × V)) (acc : List Int), (l.foldl askP acc).length ≤ acc.length + l.length
  | [], acc => Nat.le_refl _
  | e :: l, acc => by
    have h1 := askF_len l (askP acc e)
    have h2 := askP_len acc e
    rw [List.foldl_cons, List.length_cons]
    omega
theorem prs_len (r : Rw) : (prs r).length ≤ 3 := by
  unfold prs
  rw [List.length_zip]
  have := form_few r
  have h2 : (formOf r).cps.toList.length = (formOf r).length := Array.length_toList
  omega
theorem ask_len : ∀ R : List Rw, (asked R).length ≤ 3 * R.length := by
  have aux : ∀ (R : List Rw) (acc : List Int), (R.foldl (fun acc r => (prs r).foldl askP acc) acc).length ≤ acc.length + 3 * R.length := by
    intro R
    induction R with
    | nil => exact fun acc => Nat.le_refl _
    | cons r R ih =>
      intro acc
      have h1 := ih ((prs r).foldl askP acc)
      have h2 := askF_len (prs r) acc
      have h3 := prs_len r
      rw [List.foldl_cons, List.length_cons]
      omega
  exact fun R => by
    have := aux R []
    rw [List.length_nil, Nat.zero_add] at this
    exact this
theorem asked_snoc (R : List Rw) (r : Rw) : asked (R ++ [r]) = (prs r).foldl askP (asked R) := by
  unfold asked
  rw [List.foldl_append]
  rfl
theorem asked_spec : ∀ R : List Rw, (asked R).Nodup ∧ ∀ t, t ∈ asked R ↔ ∃ r ∈ R, tgt r = some t := by
  have aux : ∀ (R : List Rw) (acc : List Int), acc.Nodup → (R.foldl (fun acc r => (prs r).foldl askP acc) acc).Nodup ∧ ∀ t, t ∈ R.foldl (fun acc r => (prs r).foldl askP acc) acc ↔ t ∈ acc ∨ ∃ r ∈ R, tgt r = some t := by
    intro R
    induction R with
    | nil => exact fun acc h => ⟨h, fun t => ⟨.inl, fun z => z.elim id fun ⟨_, m, _⟩ => nomatch m⟩⟩
    | cons r R ih =>
      intro acc nd
      rw [List.foldl_cons, ask_row]
      cases e : tgt r with
      | none =>
        obtain ⟨a, b⟩ := ih acc nd
        refine ⟨a, fun t => (b t).trans ⟨fun z => z.imp id fun ⟨x, m, y⟩ => ⟨x, List.mem_cons_of_mem _ m, y⟩, fun z => z.imp id fun ⟨x, m, y⟩ => ?_⟩⟩
        rcases List.mem_cons.mp m with rfl | m
        · rw [e] at y; cases y
        · exact ⟨x, m, y⟩
      | some u =>
        have key : ∀ acc2 : List Int, acc2.Nodup → (∀ t, t ∈ acc2 ↔ t ∈ acc ∨ t = u) → (R.foldl (fun acc r => (prs r).foldl askP acc) acc2).Nodup ∧ ∀ t, t ∈ R.foldl (fun acc r => (prs r).foldl askP acc) acc2 ↔ t ∈ acc ∨ ∃ x ∈ r :: R, tgt x = some t := by
          intro acc2 n2 h2
          obtain ⟨a, b⟩ := ih acc2 n2
          refine ⟨a, fun t => (b t).trans ?_⟩
          rw [h2]
          constructor
          · rintro ((z | rfl) | ⟨x, m, y⟩)
            · exact .inl z
            · exact .inr ⟨r, List.mem_cons_self .., e⟩
            · exact .inr ⟨x, List.mem_cons_of_mem _ m, y⟩
          · rintro (z | ⟨x, m, y⟩)
            · exact .inl (.inl z)
            · rcases List.mem_cons.mp m with rfl | m
              · rw [e] at y; cases y; exact .inl (.inr rfl)
              · exact .inr ⟨x, m, y⟩
        by_cases hu : u ∈ acc
        · dsimp only
          rw [if_pos hu]
          exact key acc nd fun t => ⟨.inl, fun z => z.elim id fun w => w ▸ hu⟩
        · dsimp only
          rw [if_neg hu]
          refine key _ ?_ fun t => ?_
          · rw [List.nodup_append]
            exact ⟨nd, by simp, fun a ha b hb => by rw [List.mem_singleton.mp hb]; rintro rfl; exact hu ha⟩
          · rw [List.mem_append, List.mem_singleton]
  intro R
  obtain ⟨a, b⟩ := aux R [] .nil
  exact ⟨a, fun t => (b t).trans ⟨fun z => z.elim (fun w => nomatch w) id, .inr⟩⟩
theorem tgt_lt {n : Nat} {r : Rw} {t : Int} (ok : OkR n r) (e : tgt r = some t) : 0 ≤ t ∧ t < n := by
  cases r <;> cases e
  · have : _ < n := ok; omega
  · have := ok.2; omega
  · have := ok.2.2; omega
  · have := ok.1; omega
/-- the rows that are led to, by their places -/
def ledTo (R : List Rw) (n : Nat) : List Int := ((List.range n).filter fun i => decide (∃ r ∈ R, tgt r = some ((i : Nat) : Int))).map fun i : Nat => (i : Int)
theorem ledTo_pw (R : List Rw) (n : Nat) : (ledTo R n).Pairwise (· < ·) := by
  unfold ledTo
  rw [List.pairwise_map]
  refine List.Pairwise.imp (fun {a b} (h : a < b) => by omega) ((List.pairwise_lt_range).filter _)
theorem ledTo_mem {R : List Rw} {n : Nat} {t : Int} : t ∈ ledTo R n ↔ (0 ≤ t ∧ t < n) ∧ ∃ r ∈ R, tgt r = some t := by
  unfold ledTo
  rw [List.mem_map]
  constructor
  · rintro ⟨i, m, rfl⟩
    obtain ⟨m1, m2⟩ := List.mem_filter.mp m
    exact ⟨⟨by omega, by have := List.mem_range.mp m1; omega⟩, of_decide_eq_true m2⟩
  · rintro ⟨⟨h0, h1⟩, h2⟩
    refine ⟨t.toNat, List.mem_filter.mpr ⟨List.mem_range.mpr (by omega), decide_eq_true ?_⟩, by omega⟩
    rw [show ((t.toNat : Nat) : Int) = t by omega]
    exact h2
theorem srt_asked {R : List Rw} (ok : ∀ r ∈ R, OkR R.length r) : srt (asked R) = ledTo R R.length := by
  obtain ⟨nd, mm⟩ := asked_spec R
  have pw := ledTo_pw R R.length
  refine (srt_eq (ns := asked R) ?_ (pw.imp fun {a b} (h : a < b) => by omega)).symm
  refine (List.perm_ext_iff_of_nodup (pw.imp fun {a b} (h : a < b) => by omega) nd).mpr fun t => ?_
  rw [ledTo_mem, mm]
  exact ⟨fun z => z.2, fun z => ⟨by obtain ⟨r, m, e⟩ := z; exact tgt_lt (ok r m) e, z⟩⟩
theorem ledTo_succ (R : List Rw) (n : Nat) : ledTo R (n + 1) = if (∃ r ∈ R, tgt r = some ((n : Nat) : Int)) then ledTo R n ++ [(n : Int)] else ledTo R n := by
  unfold ledTo
  rw [List.range_succ, List.filter_append, List.map_append]
  split
  · rename_i h
    rw [List.filter_cons, if_pos (decide_eq_true h)]
    rfl
  · rename_i h
    rw [List.filter_cons, if_neg (fun z => h (of_decide_eq_true z))]
    exact List.append_nil _
theorem ledTo_len (R : List Rw) (n : Nat) : (ledTo R n).length ≤ n := by
  unfold ledTo
  rw [List.length_map]
  have := List.length_filter_le (fun i => decide (∃ r ∈ R, tgt r = some ((i : Nat) : Int))) (List.range n)
  rw [List.length_range] at this
  exact this
/-! ### labels, words, lines -/
def sgA (i : Nat) : Str := ⟨#[97 + i]⟩
def lettM (n : Nat) : Str := if n < 26 then sgA (n % 26) else sgA (n / 26 % 26) ++ sgA (n % 26)
theorem r_ixAbc {K : PySem.W.Frag} {H : Hp} {Q : VK} {r : Nat} (r26 : r < 26) (q : Q (.str (sgA r)) H) : rIxU K (.str "abcdefghijklmnopqrstuvwxyz") (.int (r : Nat)) H Q := by
  refine .inl (.inr (.inr ⟨_, _, 97 + r, rfl, rfl, ?_, ?_, q⟩))
  · exact Nat.le_of_ble_eq_true (by kernel_rfl)
  · iterate 26 (rcases r with _ | r; · kernel_rfl)
    omega
def labM (n : Nat) : Str := ("l" : Str) ++ lettM n
def labOf (A : List Int) : List (Int × Str) := A.zipIdx.map fun e => (e.1, labM e.2)
theorem labOf_snoc (A : List Int) (a : Int) : labOf (A ++ [a]) = labOf A ++ [(a, labM A.length)] := by
  unfold labOf
  rw [List.zipIdx_append, List.map_append]
  simp
theorem keys_labOf (A : List Int) : keysM (labOf A) = A := by
  unfold labOf keysM
  rw [List.map_map]
  exact List.zipIdx_map_fst 0 A
theorem len_labOf (A : List Int) : (labOf A).length = A.length := by
  unfold labOf
  rw [List.length_map, List.length_zipIdx]
theorem putM_nw {α : Type} {d : List (Int × α)} {k : Int} {x : α} (h : k ∉ keysM d) : putM d k x = d ++ [(k, x)] := by
  unfold putM
  rw [if_neg fun z => by
    obtain ⟨e, m, q⟩ := List.any_eq_true.mp z
    exact h (List.mem_map.mpr ⟨e, m, of_decide_eq_true q⟩)]
theorem getM_mem {α : Type} {d : List (Int × α)} {k : Int} {x : α} (h : getM d k = some x) : (k, x) ∈ d := by
  unfold getM at h
  obtain ⟨e, h1, h2⟩ := Option.map_eq_some_iff.mp h
  have := List.find?_some h1
  have m := List.mem_of_find?_eq_some h1
  obtain ⟨a, b⟩ := e
  cases of_decide_eq_true this
  cases h2
  exact m
theorem getM_in {α : Type} {d : List (Int × α)} {k : Int} (h : k ∈ keysM d) : ∃ x, getM d k = some x := by
  obtain ⟨e, m, rfl⟩ := List.mem_map.mp h
  unfold getM
  cases hf : d.find? (fun x => decide (x.1 = e.1)) with
  | some y => exact ⟨_, rfl⟩
  | none => exact absurd (decide_eq_true rfl) (List.find?_eq_none.mp hf e m)
theorem getM_out {α : Type} {d : List (Int × α)} {k : Int} (h : k ∉ keysM d) : getM d k = none := by
  cases e : getM d k with
  | none => rfl
  | some x => exact absurd (List.mem_map.mpr ⟨_, getM_mem e, rfl⟩) h
theorem getM_lab {A : List Int} {t : Int} (h : t ∈ A) : ∃ k, k < A.length ∧ getM (labOf A) t = some (labM k) := by
  obtain ⟨x, e⟩ := getM_in (d := labOf A) (k := t) (by rw [keys_labOf]; exact h)
  have m := getM_mem e
  unfold labOf at m
  obtain ⟨⟨y, k⟩, m1, m2⟩ := List.mem_map.mp m
  cases m2
  obtain ⟨m3, m4⟩ := List.mk_mem_zipIdx_iff_le_and_getElem?_sub.mp m1
  have := (List.getElem?_eq_some_iff.mp m4).1
  exact ⟨k, by omega, e⟩
def pw (lab : List (Int × Str)) (e : Nat × V) : Str := if e.1 = 116 then (match e.2 with | .int t => (getM lab t).getD "" | _ => "") else (match e.2 with | .int w => toString w | .str s => s | _ => "")
def rwW (lab : List (Int × Str)) (r : Rw) : List Str := wordOf r :: (prs r).map (pw lab)
def ahd (lab : List (Int × Str)) (i : Nat) : List Str := (getM lab ((i : Nat) : Int)).toList.map fun s => s ++ (":" : Str)
theorem ahd_none {lab : List (Int × Str)} {i : Nat} (h : getM lab ((i : Nat) : Int) = none) : ahd lab i = [] := by unfold ahd; rw [h]; rfl
theorem ahd_some {lab : List (Int × Str)} {i : Nat} {s : Str} (h : getM lab ((i : Nat) : Int) = some s) : ahd lab i = [s ++ (":" : Str)] := by unfold ahd; rw [h]; rfl
theorem ahd_len (lab : List (Int × Str)) (i : Nat) : (ahd lab i).length ≤ 1 := by
  unfold ahd
  rw [List.length_map]
  cases getM lab ((i : Nat) : Int) <;> simp
def lnR (lab : List (Int × Str)) (i : Nat) (r : Rw) : List Str := ahd lab i ++ [Txt.join " " (rwW lab r)]
/-- a row's words, so far -/
def ww (lab : List (Int × Str)) (r : Rw) (j : Nat) : List V := (wordOf r :: ((prs r).take j).map (pw lab)).map V.str
theorem ww_succ {lab : List (Int × Str)} {r : Rw} {j : Nat} {e : Nat × V} (h : (prs r)[j]? = some e) : ww lab r (j + 1) = ww lab r j ++ [V.str (pw lab e)] := by
  unfold ww
  rw [List.take_add_one, h, List.map_cons, List.map_cons, List.map_append, List.map_append]
  rfl
theorem ww_len (lab : List (Int × Str)) (r : Rw) (j : Nat) : (ww lab r j).length ≤ j + 1 := by
  unfold ww
  rw [List.length_map, List.length_cons, List.length_map, List.length_take]
  omega
theorem ww_full {n : Nat} {lab : List (Int × Str)} {r : Rw} (ok : OkR n r) : ww lab r (formOf r).cps.size = (rwW lab r).map V.str := by
  have h : (prs r).length ≤ (formOf r).cps.size := by
    unfold prs
    rw [List.length_zip, Array.length_toList]
    omega
  unfold ww rwW
  rw [List.take_of_length_le h]
def lns (lab : List (Int × Str)) (R : List Rw) : List Str := (R.zipIdx.map fun e => lnR lab e.2 e.1).flatten
def labs (R : List Rw) : List (Int × Str) := labOf (srt (asked R))
def txtM (R : List Rw) : Str := Txt.join "\n" (lns (labs R) R)
theorem lns_snoc (lab : List (Int × Str)) (R : List Rw) (r : Rw) : lns lab (R ++ [r]) = lns lab R ++ lnR lab R.length r := by
  unfold lns
  rw [List.zipIdx_append, List.map_append, List.flatten_append]
  simp
theorem take_snoc {α : Type} {l : List α} {i : Nat} {x : α} (h : l[i]? = some x) : l.take (i + 1) = l.take i ++ [x] := by
  rw [List.take_add_one, h]
  rfl
theorem take_len {α : Type} {l : List α} {i : Nat} {x : α} (h : l[i]? = some x) : (l.take i).length = i := by
  have := (List.getElem?_eq_some_iff.mp h).1
  rw [List.length_take]
  omega
theorem prs_at {r : Rw} {ys : List V} {i c : Nat} {y : V} (e : ys = (rwV r).drop 1) (h1 : (formOf r).cps[i]? = some c) (h2 : ys[i]? = some y) : (prs r)[i]? = some (c, y) := by
  unfold prs
  subst e
  rw [List.getElem?_zip_eq_some]
  exact ⟨by rw [Array.getElem?_toList]; exact h1, h2⟩
theorem prs_ok {n : Nat} {r : Rw} (ok : OkR n r) {c : Nat} {v : V} (h : (c, v) ∈ prs r) : PartOk ⟨#[c]⟩ v n := by
  obtain ⟨i, hi⟩ := List.mem_iff_getElem?.mp h
  unfold prs at hi
  rw [List.getElem?_zip_eq_some, Array.getElem?_toList] at hi
  exact (form_ok ok).2.2 i c v hi.1 hi.2
theorem one_inj {c d : Nat} (h : (⟨#[c]⟩ : Str) = ⟨#[d]⟩) : c = d := by
  injection h with h
  injection h with h
  injection h
theorem part_at {c : Nat} {v : V} {n : Nat} (h : PartOk ⟨#[c]⟩ v n) : (c = 114 ∧ ∃ r, r < 8 ∧ v = .str (rg r)) ∨ (c = 110 ∧ ∃ w, 0 ≤ w ∧ w ≤ 65535 ∧ v = .int w) ∨ (c = 116 ∧ ∃ t : Nat, t < n ∧ v = .int (t : Nat)) := by
  rcases h with ⟨e, h⟩ | ⟨e, h⟩ | ⟨e, h⟩
  · exact .inl ⟨one_inj (e.trans one_r.symm), h⟩
  · exact .inr (.inl ⟨one_inj (e.trans one_n.symm), h⟩)
  · exact .inr (.inr ⟨one_inj (e.trans one_t.symm), h⟩)
theorem prs_tgt {r : Rw} {v : V} (h : (116, v) ∈ prs r) : ∃ t, v = .int t ∧ tgt r = some t := by
  have hf : (prs r).filter (fun e => decide (e.1 = 116)) = (tgt r).toList.map fun t => (116, V.int t) := by cases r <;> kernel_rfl
  have m : (116, v) ∈ (tgt r).toList.map fun t => (116, V.int t) := by
    rw [← hf]
    exact List.mem_filter.mpr ⟨h, decide_eq_true rfl⟩
  obtain ⟨t, m1, m2⟩ := List.mem_map.mp m
  cases m2
  exact ⟨t, rfl, Option.mem_toList.mp m1⟩
/-! ### lengths -/
theorem len_sgA (n : Nat) : (sgA n).length = 1 := rfl
theorem len_lett (n : Nat) : (lettM n).length ≤ 2 := by
  unfold lettM
  split
  · exact Nat.le_succ _
  · rw [Str.length_append]; exact Nat.le_refl _
theorem len_lab (n : Nat) : (labM n).length ≤ 3 := by
  unfold labM
  rw [Str.length_append]
  have h1 := len_lett n
  have h2 : ("l" : Str).length = 1 := by kernel_rfl
  omega
theorem len_word (r : Rw) : (wordOf r).length ≤ 5 := by
  cases r with
  | op k r s =>
    show (opn k).length ≤ 5
    iterate 6 (rcases k with _ | k; · exact Nat.le_of_ble_eq_true (by kernel_rfl))
    exact Nat.le_of_ble_eq_true rfl
  | mem k r s w =>
    show (memn k).length ≤ 5
    iterate 2 (rcases k with _ | k; · exact Nat.le_of_ble_eq_true (by kernel_rfl))
    exact Nat.le_of_ble_eq_true rfl
  | _ => exact Nat.le_of_ble_eq_true (by kernel_rfl)
theorem len_pw {R : List Rw} {n : Nat} {r : Rw} (n200 : n ≤ 200) (ok : OkR n r) {lab : List (Int × Str)} (hl : ∀ t s, getM lab t = some s → s.length ≤ 8) {e : Nat × V} (h : e ∈ prs r) : (pw lab e).length ≤ 8 := by
  obtain ⟨c, v⟩ := e
  rcases part_at (prs_ok ok h) with ⟨rfl, r, hr, rfl⟩ | ⟨rfl, w, w0, w1, rfl⟩ | ⟨rfl, t, ht, rfl⟩
  · show (rg r).length ≤ 8
    rw [(rg_sign hr).2.1]
    decide
  · show (toString w : Str).length ≤ 8
    have := Tx.num_len w0 (by omega)
    omega
  · show ((getM lab t).getD "").length ≤ 8
    cases e : getM lab t with
    | none => exact Nat.zero_le _
    | some s => exact hl _ _ e
theorem len_rwW {n : Nat} {r : Rw} (n200 : n ≤ 200) (ok : OkR n r) {lab : List (Int × Str)} (hl : ∀ t s, getM lab t = some s → s.length ≤ 8) : (∀ y ∈ rwW lab r, y.length ≤ 8) ∧ (rwW lab r).length ≤ 4 := by
  constructor
  · intro y m
    rcases List.mem_cons.mp m with rfl | m
    · have := len_word r; omega
    · obtain ⟨e, me, rfl⟩ := List.mem_map.mp m
      exact len_pw (R := []) n200 ok hl me
  · show (wordOf r :: (prs r).map (pw lab)).length ≤ 4
    rw [List.length_cons, List.length_map]
    have := prs_len r
    omega
theorem fit_rwW {n : Nat} {r : Rw} (n200 : n ≤ 200) (ok : OkR n r) {lab : List (Int × Str)} (hl : ∀ t s, getM lab t = some s → s.length ≤ 8) : ((rwW lab r).map (·.length)).sum + (rwW lab r).length * (" " : Str).length ≤ 36 := by
  obtain ⟨h1, h2⟩ := len_rwW n200 ok hl
  have h3 := Tx.sum_le h1
  have h4 : (" " : Str).length = 1 := by kernel_rfl
  rw [h4, Nat.mul_one]
  omega
theorem snoc_ind {α : Type} {P : List α → Prop} (h0 : P []) (h1 : ∀ l x, P l → P (l ++ [x])) (l : List α) : P l := by
  have aux : ∀ m : List α, P m.reverse := by
    intro m
    induction m with
    | nil => exact h0
    | cons x m ih => rw [List.reverse_cons]; exact h1 _ _ ih
  have := aux l.reverse
  rwa [List.reverse_reverse] at this
theorem len_lns {n : Nat} {lab : List (Int × Str)} (n200 : n ≤ 200) (hl : ∀ t s, getM lab t = some s → s.length ≤ 8) : ∀ {R : List Rw}, (∀ r ∈ R, OkR n r) → (∀ y ∈ lns lab R, y.length ≤ 36) ∧ (lns lab R).length ≤ 2 * R.length := by
  intro R
  refine snoc_ind (P := fun R => (∀ r ∈ R, OkR n r) → (∀ y ∈ lns lab R, y.length ≤ 36) ∧ (lns lab R).length ≤ 2 * R.length) ?_ ?_ R
  · exact fun _ => ⟨fun y m => (nomatch m), Nat.le_refl _⟩
  · intro R r ih ok
    obtain ⟨a, b⟩ := ih fun x m => ok x (List.mem_append_left _ m)
    have okr := ok r (List.mem_append_right _ (List.mem_singleton_self _))
    rw [lns_snoc]
    constructor
    · intro y m
      rcases List.mem_append.mp m with m | m
      · exact a y m
      · rcases List.mem_append.mp m with m | m
        · unfold ahd at m
          obtain ⟨s, ms, rfl⟩ := List.mem_map.mp m
          have := hl _ _ (Option.mem_toList.mp ms)
          rw [Str.length_append]
          have h4 : (":" : Str).length = 1 := by kernel_rfl
          omega
        · cases List.mem_singleton.mp m
          exact Nat.le_trans (Tx.join_le _ _) (fit_rwW n200 okr hl)
    · rw [List.length_append, List.length_append]
      have : (lnR lab R.length r).length ≤ 2 := by
        unfold lnR
        have := ahd_len lab R.length
        rw [List.length_append]
        simp only [List.length_cons, List.length_nil]
        omega
      simp only [List.length_cons, List.length_nil]
      omega
theorem fit_lns {n : Nat} {R : List Rw} {lab : List (Int × Str)} (n200 : n ≤ 200) (hl : ∀ t s, getM lab t = some s → s.length ≤ 8) (hR : R.length ≤ 200) (ok : ∀ r ∈ R, OkR n r) : ((lns lab R).map (·.length)).sum + (lns lab R).length * ("\n" : Str).length ≤ 14800 := by
  obtain ⟨a, b⟩ := len_lns n200 hl ok
  have h3 := Tx.sum_le a
  have h4 : ("\n" : Str).length = 1 := by kernel_rfl
  rw [h4, Nat.mul_one]
  omega
theorem labs_len (R : List Rw) (t : Int) (s : Str) (h : getM (labs R) t = some s) : s.length ≤ 8 := by
  have m := getM_mem h
  unfold labs labOf at m
  obtain ⟨⟨y, k⟩, _, m2⟩ := List.mem_map.mp m
  cases m2
  exact Nat.le_trans (len_lab k) (by decide)
theorem labs_has {R : List Rw} {r : Rw} {t : Int} (m : r ∈ R) (e : tgt r = some t) : ∃ s, getM (labs R) t = some s := by
  refine getM_in ?_
  unfold labs
  rw [keys_labOf]
  exact ((srt_perm _).mem_iff).mpr (((asked_spec R).2 t).mpr ⟨r, m, e⟩)
theorem txt_fit {R : List Rw} (hR : R.length ≤ 200) (ok : ∀ r ∈ R, OkR R.length r) : ((lns (labs R) R).map (·.length)).sum + (lns (labs R) R).length * ("\n" : Str).length ≤ 14800 := fit_lns hR (labs_len R) hR ok

end
set_option hygiene false in
local macro_rules | `(tactic| walk_at "st") => `(tactic| first
  | with_reducible refine Tx.r_iStr ?_
  | with_reducible refine Tx.r_strK ?_
  | with_reducible refine Sl.r_iZipS ?_
  | ((with_reducible show Tx.rStrU [.str _] _ _); refine Tx.r_strS ?_)
  | ((with_reducible show Tx.rInS (.str ⟨#[_]⟩) _ _ _); refine Tx.r_inS1 ?_)
  | ((with_reducible show tyV _ "str" _ _ ∧ _); refine Sl.r_tyS ?_)
  | with_reducible refine Tx.r_find ?_
  | with_reducible refine Tx.r_count ?_
  | with_reducible refine Tx.r_ends ?_)
set_option hygiene false in
local macro_rules | `(tactic| walk_at "meth") => `(tactic| first | refine r_methPr hs (by walk_at "pull") (fun _ => by walk_at "look") ?_)

section
variable {P : Program} {w : World} {K : PySem.W.Frag} {mg : Str → Option Value} {base : Heap}

theorem find_t (r : Rw) : (116 ∈ (formOf r).cps.toList) ↔ ∃ t, tgt r = some t := by
  have no : ∀ f ∈ (["rn", "rr", "rrn", "r", ""] : List Str), ¬ 116 ∈ f.cps.toList := by decide +kernel
  have ye : ∀ f ∈ (["t", "rt", "rrt", "tr"] : List Str), 116 ∈ f.cps.toList := by decide +kernel
  cases r with
  | set a w => exact ⟨fun h => absurd h (no "rn" (by simp)), fun ⟨_, e⟩ => nomatch e⟩
  | op k a b => exact ⟨fun h => absurd h (no "rr" (by simp)), fun ⟨_, e⟩ => nomatch e⟩
  | mem k a b w => exact ⟨fun h => absurd h (no "rrn" (by simp)), fun ⟨_, e⟩ => nomatch e⟩
  | by_ a => exact ⟨fun h => absurd h (no "r" (by simp)), fun ⟨_, e⟩ => nomatch e⟩
  | ask => exact ⟨fun h => absurd h (no "" (by simp)), fun ⟨_, e⟩ => nomatch e⟩
  | go t => exact ⟨fun _ => ⟨_, rfl⟩, fun _ => ye "t" (by simp)⟩
  | iff a t => exact ⟨fun _ => ⟨_, rfl⟩, fun _ => ye "rt" (by simp)⟩
  | below a b t => exact ⟨fun _ => ⟨_, rfl⟩, fun _ => ye "rrt" (by simp)⟩
  | into t a => exact ⟨fun _ => ⟨_, rfl⟩, fun _ => ye "tr" (by simp)⟩
theorem find_at {r : Rw} {t : Int} (h : tgt r = some t) : atI (rwV r) (1 + Txt.find (formOf r) "t") = some (.int t) := by
  cases r <;> cases h <;> kernel_rfl
def tgV (r : Rw) : V := match tgt r with
  | some t => .int t
  | none => .non
theorem eqV_tg (r : Rw) (i : Int) : eqV (tgV r) (.int i) = decide (tgt r = some i) := by
  unfold tgV
  cases e : tgt r with
  | none => exact (decide_eq_false (fun z => nomatch z)).symm
  | some t =>
    by_cases h : t = i
    · subst h; simp [eqV]
    · have : (some t : Option Int) ≠ some i := fun z => h (Option.some.inj z)
      simp [eqV, h]
theorem inV_tg (i : Int) (R : List Rw) : inV (.int i) (R.map tgV) = decide (∃ r ∈ R, tgt r = some i) := by
  unfold inV
  rw [List.any_map]
  by_cases m : ∃ r ∈ R, tgt r = some i
  · obtain ⟨r, m, e⟩ := m
    rw [decide_eq_true ⟨r, m, e⟩, List.any_eq_true]
    exact ⟨r, m, (eqV_tg r i).trans (decide_eq_true e)⟩
  · rw [decide_eq_false m, List.any_eq_false]
    intro r hr
    show ¬ eqV (tgV r) (.int i) = true
    rw [eqV_tg]
    exact fun z => m ⟨r, hr, of_decide_eq_true z⟩
theorem flat_tg : ∀ R : List Rw, (R.map tgV).all flatV = true := by
  intro R
  induction R with
  | nil => rfl
  | cons r R ih =>
    rw [List.map_cons, List.all_cons, ih, Bool.and_true]
    unfold tgV
    cases tgt r <;> rfl
theorem row0 (r : Rw) : atI (rwV r) 0 = some (.str (wordOf r)) := by
  obtain ⟨ys, ew, _⟩ := word_at r
  rw [ew]
  exact Sl.atI_head
theorem row_drop {r : Rw} {ys : List V} (e : rwV r = .str (wordOf r) :: ys) : ys = (rwV r).drop 1 := by rw [e]; rfl
theorem eq_t {c : Nat} : decide ((⟨#[c]⟩ : Str) = "t") = decide (c = 116) := by
  rw [← one_t]
  exact decide_eq_decide.mpr ⟨one_inj, fun h => by rw [h]⟩

def sp_label_of (T : Txt K mg) : Sp := fun vs H Q _ => ∃ (n : Nat) (L : List SA), vs = [.int (n : Nat)] ∧ n < 676 ∧ Hd L H ∧ ∀ H', Hd L H' → Q (.str (labM n)) H'
theorem ok_label_of (T : Txt K mg) : FnOk P w K mg base CX0 1 T.a_label_of T.d_label_of ["number"] (sp_label_of T) := by
  refine T.f_label_of.ok sc_label_of (fun vs H Q E h => ?_) (fun cdv A outer s H vs Q E hr h => ?_)
  · obtain ⟨n, L, rfl, _⟩ := h
    rfl
  · obtain ⟨n, L, rfl, h⟩ := h
    refine ⟨_, (pss_cons (ps_set (i := 1) sc_label_of.nd rfl (by first | exact Or.inl rfl | exact Or.inr rfl) (pe_ix (k_ix (K := K) rfl (hu_of hr)) (pe_glob (v := .str "abcdefghijklmnopqrstuvwxyz") (by rfl) T.g_SMALL.choose_spec ⟨_, rfl⟩) (pe_op (k_mod (K := K) rfl) (pv 0) pe_int) (fun _ _ => rfl)))
       (pss_cons (ps_set (i := 2) sc_label_of.nd rfl (by first | exact Or.inl rfl | exact Or.inr rfl) (pe_op (k_div (K := K) rfl) (pv 0) pe_int))
       (pss_cons (ps_while PassesOwn.never (pt_cmpR op_gt (pv 2) pe_int (nomark _))
        (pss_cons (ps_set (i := 1) sc_label_of.nd rfl (by first | exact Or.inl rfl | exact Or.inr rfl) (pe_op (k_add (K := K) rfl) (pe_ix (k_ix (K := K) rfl (hu_of hr)) (pe_glob (v := .str "abcdefghijklmnopqrstuvwxyz") (by rfl) T.g_SMALL.choose_spec ⟨_, rfl⟩) (pe_op (k_mod (K := K) rfl) (pv 2) pe_int) (fun _ _ => rfl)) (pv 1)))
       (pss_one (ps_set (i := 2) sc_label_of.nd rfl (by first | exact Or.inl rfl | exact Or.inr rfl) (pe_op (k_div (K := K) rfl) (pv 2) pe_int)))))
       (pss_one (ps_ret (pe_op (k_add (K := K) rfl) pe_str (pv 1))))))), ?_⟩
    try dsimp only [cxOf]
    obtain ⟨hn, hs, q⟩ := h
    walk_at "run"
    rw [show ((n : Nat) : Int) % 26 = ((n % 26 : Nat) : Int) by omega]
    refine r_ixAbc (by omega) ?_
    walk_at "run"
    refine Sl.r_while (fun m σ H => ∃ f : Str, (σ = [some (.int (n : Nat)), some (.str f), some (.int (m : Nat))] ∧ ((m = n / 26 ∧ f = sgA (n % 26)) ∨ (m = 0 ∧ f = lettM n))) ∧ Hd L H) (n / 26) ⟨sgA (n % 26), ⟨by rw [show ((n / 26 : Nat) : Int) = (n : Int) / 26 by omega]; rfl, .inl ⟨rfl, rfl⟩⟩, hs⟩ ?_
    clear hs
    rintro m σ H ⟨f, ⟨rfl, hm⟩, hs⟩
    walk_at "run"
    refine Sl.r_iteD (fun z => ?_) (fun z => ?_)
    · have hm : m = n / 26 ∧ f = sgA (n % 26) := hm.elim id fun w => by omega
      obtain ⟨rfl, rfl⟩ := hm
      refine Sl.r_whK ?_
      walk_at "run"
      rw [show ((n / 26 : Nat) : Int) % 26 = ((n / 26 % 26 : Nat) : Int) by omega]
      refine r_ixAbc (by omega) ?_
      walk_at "run"
      refine Sl.r_addS (Nat.le_of_ble_eq_true rfl) ?_
      walk_at "run"
      refine ⟨0, by omega, sgA (n / 26 % 26) ++ sgA (n % 26), ⟨by rw [show ((n / 26 : Nat) : Int) / 26 = ((0 : Nat) : Int) by omega]; rfl, .inr ⟨rfl, ?_⟩⟩, hs⟩
      unfold lettM
      rw [if_neg (by omega)]
    · have hf : f = lettM n := by
        rcases hm with ⟨rfl, rfl⟩ | ⟨_, rfl⟩
        · unfold lettM
          rw [if_pos (by omega)]
        · rfl
      subst hf
      have := len_lett n
      walk_at "run"
      refine Sl.r_addS (Sl.sz (by have : ("l" : Str).length = 1 := (by kernel_rfl); omega)) ?_
      walk_at "run"
      exact q _ hs
def sp_target_of (T : Txt K mg) : Sp := fun vs H Q _ => ∃ (t : Addr) (r : Rw) (n i : Nat) (xs : List V) (R : List Rw) (L : List SA), vs = [.ref t] ∧ (OkR n r ∧ xs[i]? = some (.ref t) ∧ R[i]? = some r) ∧ Hd (rowsT xs R :: L) H ∧ ∀ H', Hd (rowsT xs R :: L) H' → Q (tgV r) H'
theorem ok_target_of (T : Txt K mg) (FW : T.wP = w.params) : FnOk P w K mg base CX0 1 T.a_target_of T.d_target_of ["row"] (sp_target_of T) := by
  refine T.f_target_of.ok sc_target_of (fun vs H Q E h => ?_) (fun cdv A outer s H vs Q E hr h => ?_)
  · obtain ⟨t, r, n, i, xs, R, L, rfl, _⟩ := h
    rfl
  · obtain ⟨t, r, n, i, xs, R, L, rfl, h⟩ := h
    refine ⟨_, (pss_cons (ps_set (i := 1) sc_target_of.nd rfl (by first | exact Or.inl rfl | exact Or.inr rfl) (pe_ix (Sl.ix_KD (K := K) (T.kd_FORMS) FW rfl rfl) (pe_glob (v := .ref T.a_FORMS) (by rfl) T.g_FORMS rfl) (pe_ix (k_ix (K := K) rfl (hu_of hr)) (pv 0) pe_int (fun _ _ => rfl)) (fun _ _ => rfl)))
       (pss_one (ps_ret (pe_ifExp (pt_cmpR Tx.u_inS pe_str (pv 1) (by rfl)) (pe_ix (k_ix (K := K) rfl (hu_of hr)) (pv 0) (pe_op (k_add (K := K) rfl) pe_int (k_bm (K := K) rfl (pe_bm PySem.F.plainAttrs_str PySem.F.slot_str_find PySem.F.type_str_find Tx.k_mtFind (pv 1) (pa_cons pe_str pa_nil)))) (fun _ _ => rfl)) pe_non)))), ?_⟩
    try dsimp only [cxOf]
    obtain ⟨⟨ok, ex, er⟩, hs, q⟩ := h
    have fm := forms_at T ok
    walk_at "run"
    refine Sl.r_ixT (rows_st hs (by walk_at "pull") ex er) (row0 r) ?_
    walk_at "run"
    refine Sl.r_ixKD fm ?_
    walk_at "run"
    refine Tx.r_inS (c := 116) (by kernel_rfl) ?_
    walk_at "run"
    refine Sl.r_iteD (fun z => ?_) (fun z => ?_)
    · obtain ⟨g, eg⟩ := (find_t r).mp z
      walk_at "run"
      refine Sl.r_ixT (rows_st hs (by walk_at "pull") ex er) (find_at eg) ?_
      have e : tgV r = .int g := by unfold tgV; rw [eg]
      rw [e] at q
      exact q _ hs
    · have e : tgV r = .non := by
        unfold tgV
        cases e : tgt r with
        | none => rfl
        | some t => exact absurd ((find_t r).mpr ⟨t, e⟩) z
      rw [e] at q
      walk_at "run"
      exact q _ hs
end
section
variable {P : Program} {w : World} {K : PySem.W.Frag} {mg : Str → Option Value} {base : Heap}
def sp_Program_labels (T : Txt K mg) : Sp := fun vs H Q _ => ∃ (p : Addr) (xs : List V) (R : List Rw) (L : List SA), vs = [.ref p] ∧ (R.length ≤ 200 ∧ ∀ r ∈ R, OkR R.length r) ∧ Hd (progA T.C_Program p xs :: rowsT xs R :: L) H ∧ ∀ d H', Hd (pto d (.dK (dM V.str (labs R))) :: progA T.C_Program p xs :: rowsT xs R :: L) H' → Q (.ref d) H'
theorem ok_Program_labels (T : Txt K mg) (FW : T.wP = w.params) : FnOk P w K mg base CX0 2 T.a_Program_labels T.d_Program_labels ["self"] (sp_Program_labels T) := by
  refine T.f_Program_labels.ok sc_Program_labels (fun vs H Q E h => ?_) (fun cdv A outer s H vs Q E hr h => ?_)
  · obtain ⟨p, xs, R, L, rfl, _⟩ := h
    rfl
  · obtain ⟨p, xs, R, L, rfl, h⟩ := h
    refine ⟨_, (pss_cons (ps_setLc (i := 1) (own := [("row", 2)]) rfl sc_Program_labels.nd rfl rfl (sw_true rfl rfl rfl (by decide +kernel)) (pi_list (k_fld (K := K) rfl (pv 0) rfl)) (blkOk_by (N := ["self", "asked", "row", "found", "at"]) (sc := defScope s_Program_labels) (by decide +kernel)) (fun _ _ _ _ _ => (pg_name (i := 2) sc_Program_labels.nd rfl (by first | exact Or.inl rfl | exact Or.inr rfl))) (fun s_0 H_0 C_0 cl_0 fp_0 => pts_nil) (fun s_0 H_0 C_0 cl_0 fp_0 => (pe_call (ok_target_of T FW) hr (by rfl) T.g_target_of T.f_target_of.kp T.b_target_of .nil pass0 (pa_cons (pv 2) pa_nil))))
       (pss_cons (ps_set (i := 3) sc_Program_labels.nd rfl (by first | exact Or.inl rfl | exact Or.inr rfl) pe_dnewK)
       (pss_cons (ps_for PassesOwn.never rfl (pi_range1 (by rfl) T.n_range (pa_cons (pe_callB (k_len (K := K) rfl) (by rfl) T.n_len (by decide +kernel) (pa_cons (k_fld (K := K) rfl (pv 0) rfl) pa_nil)) pa_nil)) (pg_name (i := 4) sc_Program_labels.nd rfl (by first | exact Or.inl rfl | exact Or.inr rfl))
        (pss_one (ps_if (pt_cmpR (k_in (K := K) rfl (hu_of hr)) (pv 4) (pv 1) (by rfl))
        (pss_one (ps_asg (pe_call (ok_label_of T) hr (by rfl) T.g_label_of T.f_label_of.kp T.b_label_of .nil pass0 (pa_cons (pe_callB (k_len (K := K) rfl) (by rfl) T.n_len (by decide +kernel) (pa_cons (pv 3) pa_nil)) pa_nil)) (pg_sub (pv 3) (pv 4) (u_set (hu_of hr)))))
        pss_nil)))
       (pss_one (ps_ret (pv 3)))))), ?_⟩
    try dsimp only [cxOf]
    obtain ⟨⟨l2, ok⟩, hs, q⟩ := h
    have lx := rows_len hs (by walk_at "pull")
    obtain ⟨dx, l, hs⟩ := pr_open hs
    walk_at "run"
    refine Sl.r_lcL xs (fun D i H => Hd (pto D (.lst ((R.take i).map tgV)) :: pto p (.ins T.C_Program dx (fs_Program (.ref l))) :: pto l (.lst xs) :: rowsT xs R :: L) H) hs (fun D H hs => hs) (fun D i H _ hs => hs.sq (by walk_at "pull")) ?_ ?_
    · clear hs
      rintro D i x H hx hs
      have hi : i < R.length := by
        have := (List.getElem?_eq_some_iff.mp hx).1
        omega
      have hr : R[i]? = some R[i] := List.getElem?_eq_getElem hi
      obtain ⟨t, et⟩ := rows_ref hs (by walk_at "pull") hr
      rw [hx] at et
      cases et
      have lt := take_len hr
      walk_at "run"
      refine ⟨t, R[i], R.length, i, xs, R, _, rfl, ⟨ok _ (List.getElem_mem hi), hx, hr⟩, hs.pull (by walk_at "pull"), fun H hs => ?_⟩
      walk_at "run"
      rw [take_snoc hr, List.map_append, List.map_cons, List.map_nil]
      walk_at "rest"
    clear hs
    rintro A H hs
    rw [lx, List.take_length] at hs
    walk_at "run"
    obtain ⟨d, ed⟩ : ∃ d, d = q_ := ⟨_, rfl⟩
    rw [← ed] at hs ⊢
    refine Sl.r_forR (fun i σ H => (∃ v, σ = [some (.ref p), some (.ref A), none, some (.ref d), v]) ∧ Hd (pto d (.dK (dM V.str (labOf (ledTo R i)))) :: pto A (.lst (R.map tgV)) :: pto p (.ins T.C_Program dx (fs_Program (.ref l))) :: pto l (.lst xs) :: rowsT xs R :: L) H) ⟨⟨_, rfl⟩, hs⟩ ?_ ?_
    · clear hs
      rintro i σ H hi ⟨⟨v, rfl⟩, hs⟩
      have hl := ledTo_len R i
      walk_at "run"
      refine Sl.r_inL (hs.sq (a := A) (by walk_at "pull")) rfl (flat_tg R) ?_
      rw [inV_tg]
      walk_at "run"
      rw [show (0 : Int) + ((i : Nat) : Int) = ((i : Nat) : Int) by omega] at *
      refine Sl.r_iteD (fun z => ?_) (fun z => ?_)
      · walk_at "run"
        rw [len_dM, len_labOf]
        refine ⟨(ledTo R i).length, _, rfl, by omega, hs, fun H hs => ?_⟩
        walk_at "run"
        refine Sl.r_setDi hs (by walk_at "put") (putK_dM _ _ _) (Sl.szlt (by rw [len_dM, len_labOf]; omega)) fun H hs => ?_
        walk_at "run"
        refine ⟨⟨_, rfl⟩, ?_⟩
        rw [ledTo_succ, if_pos z, labOf_snoc, ← putM_nw (by rw [keys_labOf]; exact fun m => by have := (ledTo_mem.mp m).1.2; omega)]
        walk_at "rest"
      · walk_at "run"
        refine ⟨⟨_, rfl⟩, ?_⟩
        rw [ledTo_succ, if_neg z]
        walk_at "rest"
    clear hs
    rintro σ H ⟨⟨v, rfl⟩, hs⟩
    walk_at "run"
    rw [Int.toNat_natCast, lx, ← srt_asked ok, show labOf (srt (asked R)) = labs R from rfl] at hs
    have hs := pr_close (Hd.mt (by walk_at "mt") hs : Hd (pto p (.ins T.C_Program dx (fs_Program (.ref l))) :: pto l (.lst xs) :: pto d (.dK (dM V.str (labs R))) :: rowsT xs R :: L) H)
    exact q d _ (Hd.mt (by walk_at "mt") hs)
end
section
variable {P : Program} {w : World} {K : PySem.W.Frag} {mg : Str → Option Value} {base : Heap}
def sp_Program_rows (T : Txt K mg) : Sp := fun vs H Q _ => ∃ (p : Addr) (xs : List V) (L : List SA), vs = [.ref p] ∧ Hd (progA T.C_Program p xs :: L) H ∧ ∀ l H', Hd (pto l (.lst xs) :: progA T.C_Program p xs :: L) H' → Q (.ref l) H'
theorem ok_Program_rows (T : Txt K mg) : FnOk P w K mg base CX0 1 T.a_Program_rows T.d_Program_rows ["self"] (sp_Program_rows T) := by
  refine T.f_Program_rows.ok sc_Program_rows (fun vs H Q E h => ?_) (fun cdv A outer s H vs Q E hr h => ?_)
  · obtain ⟨p, xs, L, rfl, _⟩ := h
    rfl
  · obtain ⟨p, xs, L, rfl, h⟩ := h
    refine ⟨_, (pss_one (ps_ret (pe_callTy (k_list (K := K) rfl) (by rfl) T.n_list (by decide +kernel) (pa_cons (k_fld (K := K) rfl (pv 0) rfl) pa_nil)))), ?_⟩
    try dsimp only [cxOf]
    obtain ⟨hs, q⟩ := h
    obtain ⟨dx, l, hs⟩ := pr_open hs
    walk_at "run"
    exact q _ _ (Hd.mt (by walk_at "mt") (pr_close (Hd.mt (by walk_at "mt") hs : Hd (pto p (.ins T.C_Program dx (fs_Program (.ref l))) :: pto l (.lst xs) :: pto q_ (.lst xs) :: L) _)))
def sp_Program_text (T : Txt K mg) : Sp := fun vs H Q _ => ∃ (p : Addr) (xs : List V) (R : List Rw) (L : List SA), vs = [.ref p] ∧ (R.length ≤ 200 ∧ ∀ r ∈ R, OkR R.length r) ∧ Hd (progA T.C_Program p xs :: rowsT xs R :: L) H ∧ ∀ H', Hd (progA T.C_Program p xs :: rowsT xs R :: L) H' → Q (.str (txtM R)) H'
theorem ok_Program_text (T : Txt K mg) (FW : T.wP = w.params) : FnOk P w K mg base CX0 3 T.a_Program_text T.d_Program_text ["self"] (sp_Program_text T) := by
  refine T.f_Program_text.ok sc_Program_text (fun vs H Q E h => ?_) (fun cdv A outer s H vs Q E hr h => ?_)
  · obtain ⟨p, xs, R, L, rfl, _⟩ := h
    rfl
  · obtain ⟨p, xs, R, L, rfl, h⟩ := h
    refine ⟨_, (pss_cons (ps_set (i := 1) sc_Program_text.nd rfl (by first | exact Or.inl rfl | exact Or.inr rfl) (pe_meth0 (pv 0) T.cl_Program T.m_Program_labels (ok_Program_labels T FW) hr T.b_Program_labels .nil pass0))
       (pss_cons (ps_set (i := 2) sc_Program_text.nd rfl (by first | exact Or.inl rfl | exact Or.inr rfl) (pe_lst pa_nil))
       (pss_cons (ps_for PassesOwn.never rfl (pi_enum (by rfl) T.n_enumerate (pa_cons (k_fld (K := K) rfl (pv 0) rfl) pa_nil)) (k_gTup (K := K) (n := 2) rfl (pg_tup (n := 2) (by rfl) (pgs_cons (pg_name (i := 3) sc_Program_text.nd rfl (by first | exact Or.inl rfl | exact Or.inr rfl)) (pgs_cons (pg_name (i := 4) sc_Program_text.nd rfl (by first | exact Or.inl rfl | exact Or.inr rfl)) pgs_nil))))
        (pss_cons (ps_if (pt_cmpR (k_in (K := K) rfl (hu_of hr)) (pv 3) (pv 1) (by rfl))
        (pss_one (ps_expr (k_bm (K := K) rfl (pe_bm PySem.F.plainAttrs_list PySem.F.slot_list_append PySem.F.type_list_append mt_append (pv 2) (pa_cons (pe_op (k_add (K := K) rfl) (pe_ix (k_ix (K := K) rfl (hu_of hr)) (pv 1) (pv 3) (fun _ _ => rfl)) pe_str) pa_nil)))))
        pss_nil)
       (pss_cons (ps_set (i := 5) sc_Program_text.nd rfl (by first | exact Or.inl rfl | exact Or.inr rfl) (pe_lst (pa_cons (pe_ix (k_ix (K := K) rfl (hu_of hr)) (pv 4) pe_int (fun _ _ => rfl)) pa_nil)))
       (pss_cons (ps_for PassesOwn.never rfl (Zs.pi_zipS true (by rfl) T.n_zip (pa_cons (pe_ix (Sl.ix_KD (K := K) (T.kd_FORMS) FW rfl rfl) (pe_glob (v := .ref T.a_FORMS) (by rfl) T.g_FORMS rfl) (pe_ix (k_ix (K := K) rfl (hu_of hr)) (pv 4) pe_int (fun _ _ => rfl)) (fun _ _ => rfl)) (pa_cons (pe_slice (k_slT (K := K) rfl) (pv 4) (po_some pe_int) po_none) pa_nil))) (k_gTup (K := K) (n := 2) rfl (pg_tup (n := 2) (by rfl) (pgs_cons (pg_name (i := 6) sc_Program_text.nd rfl (by first | exact Or.inl rfl | exact Or.inr rfl)) (pgs_cons (pg_name (i := 7) sc_Program_text.nd rfl (by first | exact Or.inl rfl | exact Or.inr rfl)) pgs_nil))))
        (pss_one (ps_expr (k_bm (K := K) rfl (pe_bm PySem.F.plainAttrs_list PySem.F.slot_list_append PySem.F.type_list_append mt_append (pv 5) (pa_cons (pe_ifExp (pt_cmpR (k_eq (K := K) rfl hr.units) (pv 6) pe_str (nomark _)) (pe_ix (k_ix (K := K) rfl (hu_of hr)) (pv 1) (pv 7) (fun _ _ => rfl)) (pe_callTy Tx.u_str (by rfl) T.n_str (by decide +kernel) (pa_cons (pv 7) pa_nil))) pa_nil))))))
       (pss_one (ps_expr (k_bm (K := K) rfl (pe_bm PySem.F.plainAttrs_list PySem.F.slot_list_append PySem.F.type_list_append mt_append (pv 2) (pa_cons (k_bm (K := K) rfl (pe_bm PySem.F.plainAttrs_str PySem.F.slot_str_join PySem.F.type_str_join (Tx.k_mtJoin (K := K) rfl) pe_str (pa_cons (pv 5) pa_nil))) pa_nil)))))))))
       (pss_one (ps_ret (k_bm (K := K) rfl (pe_bm PySem.F.plainAttrs_str PySem.F.slot_str_join PySem.F.type_str_join (Tx.k_mtJoin (K := K) rfl) pe_str (pa_cons (pv 2) pa_nil)))))))), ?_⟩
    try dsimp only [cxOf]
    obtain ⟨⟨l2, ok⟩, hs, q⟩ := h
    have lx := rows_len hs (by walk_at "pull")
    walk_at "run"
    refine ⟨p, xs, R, L, rfl, ⟨l2, ok⟩, hs, fun d H hs => ?_⟩
    obtain ⟨dx, l, hs⟩ := pr_open (hs.pull (by walk_at "pull"))
    walk_at "run"
    obtain ⟨F, eF⟩ : ∃ F, F = q_ := ⟨_, rfl⟩
    rw [← eF] at hs ⊢
    refine Sl.r_forE xs (fun i σ H => (∃ v1 v2 v3 v4 v5, σ = [some (.ref p), some (.ref d), some (.ref F), v1, v2, v3, v4, v5]) ∧ Hd (pto F (.lst ((lns (labs R) (R.take i)).map V.str)) :: pto p (.ins T.C_Program dx (fs_Program (.ref l))) :: pto l (.lst xs) :: pto d (.dK (dM V.str (labs R))) :: rowsT xs R :: L) H) ⟨⟨_, _, _, _, _, rfl⟩, (by show Hd (pto F (.lst []) :: _) _; exact Hd.mt (by walk_at "mt") hs)⟩ (fun i σ H _ z => z.2.sq (by walk_at "pull")) ?_ ?_
    · clear hs
      rintro i x TT σ H hx ⟨⟨v1, v2, v3, v4, v5, rfl⟩, hs⟩ hT
      have hs := hs.new (o := .tup [.int (i : Nat), x]) hT
      have hi : i < R.length := by
        have := (List.getElem?_eq_some_iff.mp hx).1
        omega
      have hr : R[i]? = some R[i] := List.getElem?_eq_getElem hi
      obtain ⟨t, et⟩ := rows_ref hs (by walk_at "pull") hr
      rw [hx] at et
      cases et
      have lt := take_len hr
      have okr := ok _ (List.getElem_mem hi)
      have mr := List.getElem_mem hi
      have ll := (len_lns l2 (labs_len R) (R := R.take i) fun r m => ok r (List.mem_of_mem_take m)).2
      rw [take_snoc hr, lns_snoc, lt]
      generalize R[i] = r at *
      have fm := forms_at T okr
      obtain ⟨ys, ew, ey⟩ := word_at r
      obtain ⟨f1, f2, f3⟩ := form_ok okr
      rw [← ey] at f1 f3
      have hv : valV (dM V.str (labs R)) (.inl ((i : Nat) : Int)) = (getM (labs R) ((i : Nat) : Int)).map V.str := valV_dM _ _
      walk_at "run"
      refine Sl.r_ifJ (fun σ H => (∃ v3 v4 v5, σ = [some (.ref p), some (.ref d), some (.ref F), some (.int (i : Nat)), some (.ref t), v3, v4, v5]) ∧ Hd (pto F (.lst ((lns (labs R) (R.take i) ++ ahd (labs R) i).map V.str)) :: pto p (.ins T.C_Program dx (fs_Program (.ref l))) :: pto l (.lst xs) :: pto d (.dK (dM V.str (labs R))) :: rowsT xs R :: L) H) (fun hc N' hN => ?_) (fun hc N' hN => ?_) ?_
      · rw [hv] at hc
        cases e : getM (labs R) ((i : Nat) : Int) with
        | none => rw [e] at hc; cases hc
        | some s1 =>
          rw [e] at hv
          have ls := labs_len R _ _ e
          have hv : valV (dM V.str (labs R)) (.inl ((i : Nat) : Int)) = some (.str s1) := hv
          walk_at "run"
          refine Sl.r_addS (Sl.sz (by have : (":" : Str).length = 1 := (by kernel_rfl); omega)) ?_
          walk_at "run"
          refine hN _ _ ⟨⟨_, _, _, rfl⟩, ?_⟩
          rw [ahd_some e, List.map_append, List.map_cons, List.map_nil]
          walk_at "rest"
      · rw [hv] at hc
        cases e : getM (labs R) ((i : Nat) : Int) with
        | some s1 => rw [e] at hc; cases hc
        | none =>
          walk_at "run"
          refine hN _ _ ⟨⟨_, _, _, rfl⟩, ?_⟩
          rw [ahd_none e, List.append_nil]
          walk_at "rest"
      clear hs
      rintro σ H ⟨⟨v3, v4, v5, rfl⟩, hs⟩
      have l1 := ahd_len (labs R) i
      walk_at "run"
      refine Sl.r_ixT (rows_st hs (by walk_at "pull") hx hr) (row0 r) ?_
      walk_at "run"
      obtain ⟨W, eW⟩ : ∃ W, W = q_ := ⟨_, rfl⟩
      rw [← eW] at hs ⊢
      refine Sl.r_ixT (rows_st hs (by walk_at "pull") hx hr) (row0 r) ?_
      walk_at "run"
      refine Sl.r_ixKD fm ?_
      walk_at "run"
      refine r_slT1 hs (by rw [← ew]; exact rows_st hs (by walk_at "pull") hx hr) fun sl H hs => ?_
      walk_at "run"
      refine Sl.r_zipST f2 (hs.st (by walk_at "pull")) ?_
      have hk : (formOf r).cps.size ≤ 3 := form_few r
      refine Sl.r_forZs (n := (formOf r).cps.size) (ys := ys) (by rw [← f1]; omega) (fun j σ H => (∃ v4 v5, σ = [some (.ref p), some (.ref d), some (.ref F), some (.int (i : Nat)), some (.ref t), some (.ref W), v4, v5]) ∧ Hd (pto W (.lst (ww (labs R) r j)) :: pto sl (.tup ys) :: pto F (.lst ((lns (labs R) (R.take i) ++ ahd (labs R) i).map V.str)) :: pto p (.ins T.C_Program dx (fs_Program (.ref l))) :: pto l (.lst xs) :: pto d (.dK (dM V.str (labs R))) :: rowsT xs R :: L) H) ⟨⟨_, _, rfl⟩, (by show Hd (pto W (.lst [.str (wordOf r)]) :: _) _; exact Hd.mt (by walk_at "mt") hs)⟩ (fun j σ H _ z => z.2.st (by walk_at "pull")) ?_ ?_
      · clear hs
        rintro j c y TT σ H hc hy ⟨⟨v4, v5, rfl⟩, hs⟩ hT
        have hs := hs.new (o := .tup [.str ⟨#[c]⟩, y]) hT
        have hp := prs_at ey hc hy
        have hj := take_len hp
        have l3 := prs_len r
        have mp := List.mem_of_getElem? hp
        have hw := ww_len (labs R) r j
        have hj3 : j < 3 := by have := (Array.getElem?_eq_some_iff.mp hc).1; omega
        have nx := ww_succ (lab := labs R) hp
        rw [nx]
        walk_at "run"
        rw [eq_t]
        refine Sl.r_iteD (fun z => ?_) (fun z => ?_)
        · subst z
          obtain ⟨g, rfl, eg⟩ := prs_tgt mp
          obtain ⟨s1, es⟩ := labs_has mr eg
          have hg : valV (dM V.str (labs R)) (.inl g) = some (.str s1) := by rw [valV_dM, es]; rfl
          rw [show pw (labs R) (116, .int g) = s1 from by show (getM (labs R) g).getD "" = s1; rw [es]; rfl]
          walk_at "run"
          exact ⟨⟨_, _, rfl⟩, Hd.mt (by walk_at "mt") hs⟩
        · rcases part_at (prs_ok okr mp) with ⟨rfl, g, hg, rfl⟩ | ⟨rfl, g, g0, g1, rfl⟩ | ⟨rfl, g, hg, rfl⟩
          · rw [show pw (labs R) (114, .str (rg g)) = rg g from rfl]
            walk_at "run"
            exact ⟨⟨_, _, rfl⟩, Hd.mt (by walk_at "mt") hs⟩
          · rw [show pw (labs R) (110, .int g) = toString g from rfl]
            walk_at "run"
            refine Tx.r_strI (Tx.num_log g0 (by omega)) ?_
            walk_at "run"
            exact ⟨⟨_, _, rfl⟩, Hd.mt (by walk_at "mt") hs⟩
          · exact absurd rfl z
      clear hs
      rintro σ H ⟨⟨v4, v5, rfl⟩, hs⟩
      rw [ww_full okr] at hs
      walk_at "run"
      refine Tx.r_joinL (hs.sq (a := W) (by walk_at "pull")) (Nat.le_trans (fit_rwW l2 okr (labs_len R)) (by decide)) ?_
      have hz : (lns (labs R) (R.take i) ++ ahd (labs R) i).length ≤ 500 := by
        rw [List.length_append]
        have := List.length_take_le i R
        omega
      walk_at "run"
      refine ⟨⟨_, _, _, _, _, rfl⟩, ?_⟩
      rw [show lnR (labs R) i r = ahd (labs R) i ++ [Txt.join " " (rwW (labs R) r)] from rfl, ← List.append_assoc, List.map_append, List.map_cons, List.map_nil]
      walk_at "rest"
    clear hs
    rintro σ H ⟨⟨v1, v2, v3, v4, v5, rfl⟩, hs⟩
    rw [lx, List.take_length] at hs
    walk_at "run"
    refine Tx.r_joinL (hs.sq (a := F) (by walk_at "pull")) (Nat.le_trans (txt_fit l2 ok) (by decide)) ?_
    exact q _ (Hd.mt (by walk_at "mt") (pr_close (Hd.mt (by walk_at "mt") hs : Hd (pto p (.ins T.C_Program dx (fs_Program (.ref l))) :: pto l (.lst xs) :: rowsT xs R :: L) _)))
end
section
variable {P : Program} {w : World} {K : PySem.W.Frag} {mg : Str → Option Value} {base : Heap}

/-- what draws are taken from -/
def stB (d : Addr) : SA := fun H => ∃ c l p : Int, 0 ≤ p ∧ Hd [pto d (.dK (stK (.int c) (.int l) (.int p)))] H
theorem sb_open {d : Addr} {L : List SA} {H : Hp} (h : Hd (stB d :: L) H) : ∃ c l p : Int, 0 ≤ p ∧ Hd (pto d (.dK (stK (.int c) (.int l) (.int p))) :: L) H := by
  obtain ⟨H1, H2, c, s1, s2, ⟨f, l, s, b, p⟩, q⟩ := h
  exact ⟨f, l, s, b, Hd.open (M := [_]) ⟨H1, H2, c, s1, s2, p, q⟩⟩
theorem sb_close {d : Addr} {L : List SA} {H : Hp} {c l p : Int} (b : 0 ≤ p) (h : Hd (pto d (.dK (stK (.int c) (.int l) (.int p))) :: L) H) : Hd (stB d :: L) H :=
  (Hd.close (M := [_]) h).imp fun _ z => ⟨c, l, p, b, z⟩
def formD : List (Key × V) := formsK.map fun e => ((Sum.inr e.1 : Key), V.str e.2)
theorem merge_forms : mergeK (formD.take 7) [((Sum.inr "by" : Key), V.str "r"), ((Sum.inr "ask" : Key), V.str "")] = formD.take 9 := by kernel_rfl
theorem put_forms : ∀ (i : Nat) (w : Str), (["copy", "add", "less", "times", "parts", "rest"] : List Str)[i]? = some w → putK (formD.take (9 + i)) (.inr w) (.str "rr") = formD.take (9 + i + 1) := by
  intro i w h
  rcases i with _ | _ | _ | _ | _ | _ | i <;> first | (cases h; kernel_rfl) | cases h
theorem formD_at {n : Nat} {r : Rw} (ok : OkR n r) : valV formD (.inr (wordOf r)) = some (.str (formOf r)) := by
  cases r with
  | op k r s =>
    have hk := ok.1
    rcases k with _ | _ | _ | _ | _ | _ | k <;> first | omega | kernel_rfl
  | mem k r s w =>
    have hk := ok.1
    rcases k with _ | _ | k <;> first | omega | kernel_rfl
  | _ => kernel_rfl
theorem formD_keys : formD.map (·.1) = (formsK.map (·.1)).map Sum.inr := by kernel_rfl
theorem formD_val : ∀ e ∈ formsK, valV formD (.inr e.1) = some (.str e.2) := by
  intro e m
  simp only [formsK, List.mem_cons, List.not_mem_nil, or_false] at m
  rcases m with rfl | rfl | rfl | rfl | rfl | rfl | rfl | rfl | rfl | rfl | rfl | rfl | rfl | rfl | rfl <;> kernel_rfl
theorem formD_mem {w : Str} (h : w ∈ formsK.map (·.1)) : ∃ f, (w, f) ∈ formsK ∧ valV formD (.inr w) = some (.str f) := by
  obtain ⟨e, m, rfl⟩ := List.mem_map.mp h
  exact ⟨e.2, m, formD_val e m⟩

def sp_law_mixed (T : Txt K mg) : Sp := fun vs H Q _ => ∃ (c k : Int), vs = [.int c, .int k] ∧ (0 ≤ k ∧ k ≤ 1000000) ∧ ∀ r, 0 ≤ r → Q (.int r) H
theorem ok_law_mixed (T : Txt K mg) : FnOk P w K mg base CX0 1 T.a_law_mixed T.d_law_mixed ["_law_cell", "_law_k"] (sp_law_mixed T) := by
  refine T.f_law_mixed.ok sc_law_mixed (fun vs H Q E h => ?_) (fun cdv A outer s H vs Q E hr h => ?_)
  · obtain ⟨c, k, rfl, _⟩ := h
    rfl
  · obtain ⟨c, k, rfl, h⟩ := h
    refine ⟨_, (pss_one (ps_ret (pe_op (k_mod (K := K) rfl) (pe_op (k_mul (K := K) rfl) (pe_op (k_mod (K := K) rfl) (pe_op (k_add (K := K) rfl) (pe_op (k_add (K := K) rfl) (pe_op (k_mul (K := K) rfl) (pv 0) (pe_op (k_add (K := K) rfl) pe_int (pe_op (k_mul (K := K) rfl) (pe_op (k_mul (K := K) rfl) pe_int (pv 1)) (pv 1)))) (pe_op (k_mul (K := K) rfl) pe_int (pv 1))) pe_int) pe_int) pe_int) pe_int))), ?_⟩
    try dsimp only [cxOf]
    obtain ⟨hk, q⟩ := h
    have hkk : 0 ≤ k * k ∧ k * k ≤ 1000000000000 := ⟨Int.mul_nonneg hk.1 hk.1, Int.le_trans (Int.mul_le_mul hk.2 hk.2 hk.1 (by decide)) (by decide)⟩
    have hk2 : 0 ≤ 2 * k * k ∧ 2 * k * k ≤ 2000000000000 := by rw [Int.mul_assoc]; omega
    walk_at "run"
    exact q _ (Int.emod_nonneg _ (by decide))
def sp_law_state (T : Txt K mg) : Sp := fun vs H Q _ => ∃ (c : Int) (L : List SA), vs = [.int c] ∧ Hd L H ∧ ∀ d H', Hd (stB d :: L) H' → Q (.ref d) H'
theorem ok_law_state (T : Txt K mg) : FnOk P w K mg base CX0 1 T.a_law_state T.d_law_state ["_law_cell"] (sp_law_state T) := by
  refine T.f_law_state.ok sc_law_state (fun vs H Q E h => ?_) (fun cdv A outer s H vs Q E hr h => ?_)
  · obtain ⟨c, L, rfl, _⟩ := h
    rfl
  · obtain ⟨c, L, rfl, h⟩ := h
    refine ⟨_, (pss_one (ps_ret (pe_disp (pps_cons pe_str (pv 0) (pps_cons pe_str (pv 0) (pps_cons pe_str pe_int pps_nil))) (by rfl) (by rfl) (fun z => by cases z) (by decide)))), ?_⟩
    try dsimp only [cxOf]
    obtain ⟨hs, q⟩ := h
    walk_at "run"
    exact q _ _ (sb_close (by decide) hs)
def sp_law_next (T : Txt K mg) : Sp := fun vs H Q _ => ∃ (d : Addr) (L : List SA), vs = [.ref d] ∧ Hd (stB d :: L) H ∧ ∀ r H', 0 ≤ r → Hd (stB d :: L) H' → Q (.int r) H'
theorem ok_law_next (T : Txt K mg) : FnOk P w K mg base CX0 2 T.a_law_next T.d_law_next ["_law_state_here"] (sp_law_next T) := by
  refine T.f_law_next.ok sc_law_next (fun vs H Q E h => ?_) (fun cdv A outer s H vs Q E hr h => ?_)
  · obtain ⟨d, L, rfl, _⟩ := h
    rfl
  · obtain ⟨d, L, rfl, h⟩ := h
    refine ⟨_, (pss_cons (ps_asg (pe_op (k_add (K := K) rfl) (pe_ix (k_ix (K := K) rfl (hu_of hr)) (pv 0) pe_str (fun _ _ => rfl)) pe_int) (pg_sub (pv 0) pe_str (u_set (hu_of hr))))
       (pss_cons (ps_if (PW.pt (pw_and (pt_cmpR op_ge (pe_ix (k_ix (K := K) rfl (hu_of hr)) (pv 0) pe_str (fun _ _ => rfl)) (pe_op (k_pow (K := K) rfl) pe_int pe_int) (nomark _)) (pw_and1 (pt_cmpR op_gt (pe_ix (k_ix (K := K) rfl (hu_of hr)) (pv 0) pe_str (fun _ _ => rfl)) pe_int (nomark _)))))
        (pss_cons (ps_set (i := 1) sc_law_next.nd rfl (by first | exact Or.inl rfl | exact Or.inr rfl) (pe_op (k_mod (K := K) rfl) (pe_ix (k_ix (K := K) rfl (hu_of hr)) (pv 0) pe_str (fun _ _ => rfl)) pe_int))
       (pss_cons (ps_asg (pe_op (k_div (K := K) rfl) (pe_ix (k_ix (K := K) rfl (hu_of hr)) (pv 0) pe_str (fun _ _ => rfl)) pe_int) (pg_sub (pv 0) pe_str (u_set (hu_of hr))))
       (pss_one (ps_ret (pv 1)))))
        pss_nil)
       (pss_one (ps_ret (pe_op (k_div (K := K) rfl) (pe_call (ok_law_mixed T) hr (by rfl) T.g_law_mixed T.f_law_mixed.kp T.b_law_mixed .nil pass0 (pa_cons (pe_call (ok_law_mixed T) hr (by rfl) T.g_law_mixed T.f_law_mixed.kp T.b_law_mixed .nil pass0 (pa_cons (pe_ix (k_ix (K := K) rfl (hu_of hr)) (pv 0) pe_str (fun _ _ => rfl)) (pa_cons (pe_op (k_mod (K := K) rfl) (pe_ix (k_ix (K := K) rfl (hu_of hr)) (pv 0) pe_str (fun _ _ => rfl)) pe_int) pa_nil))) (pa_cons pe_int pa_nil))) pe_int))))), ?_⟩
    try dsimp only [cxOf]
    obtain ⟨hs, q⟩ := h
    obtain ⟨c, l, p, b, hs⟩ := sb_open hs
    walk_at "runI"
    refine Sl.r_ifT (fun H2 => Hd (pto d (.dK (stK (.int c) (.int l) (.int (p + 1)))) :: L) H2) (fun H2 => Hd (pto d (.dK (stK (.int c) (.int l) (.int (p + 1)))) :: L) H2) (fun QT ht hf => ?_) ?_ ?_
    · walk_at "run"
      refine Sl.r_iteD (fun z1 => ?_) (fun z1 => ?_)
      · walk_at "run"
        by_cases z2 : 0 < l
        · rw [decide_eq_true z2]
          exact ht _ hs
        · rw [decide_eq_false z2]
          exact hf _ hs
      · walk_at "run"
        exact hf _ hs
    · clear hs
      intro H hs
      walk_at "run"
      exact q _ _ (Int.emod_nonneg _ (by decide)) (sb_close (c := c) (l := l / 65536) (p := p + 1) (by omega) (Hd.mt (by walk_at "mt") hs))
    clear hs
    intro H hs
    walk_at "run"
    refine ⟨c, _, rfl, ⟨by omega, by omega⟩, fun r1 h1 => ?_⟩
    walk_at "run"
    refine ⟨r1, 3, rfl, ⟨by omega, by omega⟩, fun r2 h2 => ?_⟩
    walk_at "run"
    exact q _ _ (by omega) (sb_close (c := c) (l := l) (p := p + 1) (by omega) (Hd.mt (by walk_at "mt") hs))
def sp_law_forms (T : Txt K mg) : Sp := fun vs H Q _ => ∃ (L : List SA), vs = [] ∧ Hd L H ∧ ∀ a H', Hd (pto a (.dK formD) :: L) H' → Q (.ref a) H'
theorem ok_law_forms (T : Txt K mg) : FnOk P w K mg base CX0 1 T.a_law_forms T.d_law_forms [] (sp_law_forms T) := by
  refine T.f_law_forms.ok sc_law_forms (fun vs H Q E h => ?_) (fun cdv A outer s H vs Q E hr h => ?_)
  · obtain ⟨L, rfl, _⟩ := h
    rfl
  · obtain ⟨L, rfl, h⟩ := h
    refine ⟨_, (pss_cons (ps_set (i := 0) sc_law_forms.nd rfl (by first | exact Or.inl rfl | exact Or.inr rfl) (pe_disp (pps_cons pe_str pe_str (pps_cons pe_str pe_str (pps_cons pe_str pe_str (pps_cons pe_str pe_str (pps_cons pe_str pe_str (pps_cons pe_str pe_str (pps_cons pe_str pe_str pps_nil))))))) (by rfl) (by rfl) (fun z => by cases z) (by decide)))
       (pss_cons (ps_expr (k_bm (K := K) rfl (pe_bm PySem.F.plainAttrs_dict PySem.F.slot_dict_update PySem.F.type_dict_update Sl.mt_dupdate (pv 0) (pa_cons (pe_disp (pps_cons pe_str pe_str (pps_cons pe_str pe_str pps_nil)) (by rfl) (by rfl) (fun z => by cases z) (by decide)) pa_nil))))
       (pss_cons (ps_for PassesOwn.never rfl (pi_tup (pe_tup (pa_cons pe_str (pa_cons pe_str (pa_cons pe_str (pa_cons pe_str (pa_cons pe_str (pa_cons pe_str pa_nil)))))))) (pg_name (i := 1) sc_law_forms.nd rfl (by first | exact Or.inl rfl | exact Or.inr rfl))
        (pss_one (ps_asg pe_str (pg_sub (pv 0) (pv 1) (u_set (hu_of hr))))))
       (pss_one (ps_ret (pv 0)))))), ?_⟩
    try dsimp only [cxOf]
    obtain ⟨hs, q⟩ := h
    walk_at "run"
    refine Sl.r_dispE (kvs := formD.take 7) (kvs' := formD.take 7) hs .here (by kernel_rfl) (by decide) (by kernel_rfl) ?_
    obtain ⟨F, eF⟩ : ∃ F, F = q_ := ⟨_, rfl⟩
    rw [← eF]
    clear hs
    intro H hs
    walk_at "run"
    refine Sl.r_dispE (kvs := [((Sum.inr "by" : Key), V.str "r"), ((Sum.inr "ask" : Key), V.str "")]) (kvs' := [((Sum.inr "by" : Key), V.str "r"), ((Sum.inr "ask" : Key), V.str "")]) hs .here (by kernel_rfl) (by decide) (by kernel_rfl) ?_
    clear hs
    intro H hs
    walk_at "run"
    refine Sl.r_dupd hs (.there .here) .here (fun e => Sl.ne_pto hs .here .here e.symm) merge_forms (Sl.sz (by decide)) ?_
    clear hs
    intro H hs
    walk_at "run"
    refine Sl.r_forT ((["copy", "add", "less", "times", "parts", "rest"] : List Str).map V.str) (fun i σ H => (∃ v, σ = [some (.ref F), v]) ∧ Hd (pto F (.dK (formD.take (9 + i))) :: pto q_ (.tup ((["copy", "add", "less", "times", "parts", "rest"] : List Str).map V.str)) :: L) H) ⟨⟨_, rfl⟩, (by show Hd (pto F (.dK (formD.take 9)) :: pto q_ (.tup [.str "copy", .str "add", .str "less", .str "times", .str "parts", .str "rest"]) :: L) _; exact Hd.mt (by walk_at "mt") hs)⟩ (fun i σ H _ z => z.2.st (by walk_at "pull")) ?_ ?_
    · clear hs
      rintro i x σ H hx ⟨⟨v, rfl⟩, hs⟩
      rw [List.getElem?_map] at hx
      obtain ⟨w1, hw, rfl⟩ := Option.map_eq_some_iff.mp hx
      have hl : (formD.take (9 + i)).length ≤ 15 := by
        have : formD.length = 15 := by kernel_rfl
        rw [List.length_take]
        omega
      walk_at "run"
      refine Sl.r_setDs hs (by walk_at "put") (put_forms i w1 hw) (Sl.szlt (by omega)) fun H hs => ?_
      walk_at "run"
      exact ⟨⟨_, rfl⟩, hs⟩
    clear hs
    rintro σ H ⟨⟨v, rfl⟩, hs⟩
    walk_at "run"
    exact q F _ (Hd.mt (by walk_at "mt") (by rw [show formD.take (9 + ((["copy", "add", "less", "times", "parts", "rest"] : List Str).map V.str).length) = formD from by kernel_rfl] at hs; exact hs : Hd (pto F (.dK formD) :: _ :: L) H))
end
section
variable {P : Program} {w : World} {K : PySem.W.Frag} {mg : Str → Option Value} {base : Heap}

theorem r_ixReg {K : PySem.W.Frag} {H : Hp} {Q : VK} {n : Int} (q : ∀ r : Nat, r < 8 → Q (.str (rg r)) H) : rIxU K (.str "abcdefgh") (.int (n % 8)) H Q := by
  have h1 := Int.emod_nonneg n (by decide : (8 : Int) ≠ 0)
  have h2 := Int.emod_lt_of_pos n (by decide : (0 : Int) < 8)
  obtain ⟨r, hr⟩ : ∃ r : Nat, n % 8 = (r : Int) := ⟨(n % 8).toNat, by omega⟩
  rw [hr]
  have r8 : r < 8 := by omega
  refine .inl (.inr (.inr ⟨_, _, 97 + r, rfl, rfl, ?_, ?_, ?_⟩))
  · exact Nat.le_of_ble_eq_true (by kernel_rfl)
  · rcases r with _ | _ | _ | _ | _ | _ | _ | _ | r <;> first | omega | kernel_rfl
  · rw [← (rg_sign r8).1]
    exact q r r8
theorem form_signs : ∀ e ∈ formsK, e.2.cps.size ≤ 3 ∧ ∀ (i c : Nat), e.2.cps[i]? = some c → c = 114 ∨ c = 110 ∨ c = 116 := by
  have h : ∀ e ∈ formsK, e.2.cps.size ≤ 3 ∧ e.2.cps.toList.all (fun c => decide (c = 114 ∨ c = 110 ∨ c = 116)) = true := by decide +kernel
  intro e m
  refine ⟨(h e m).1, fun i c hc => ?_⟩
  have := List.all_eq_true.mp (h e m).2 c (List.mem_of_getElem? (i := i) (by rw [Array.getElem?_toList]; exact hc))
  exact of_decide_eq_true this

def sp_law_part (T : Txt K mg) : Sp := fun vs H Q _ => ∃ (d : Addr) (c m : Nat) (L : List SA), vs = [.ref d, .str ⟨#[c]⟩, .int (m : Nat)] ∧ ((c = 114 ∨ c = 110 ∨ c = 116) ∧ 1 ≤ m ∧ m ≤ 200) ∧ Hd (stB d :: L) H ∧ ∀ v H', PartOk ⟨#[c]⟩ v m → Hd (stB d :: L) H' → Q v H'
theorem ok_law_part (T : Txt K mg) : FnOk P w K mg base CX0 3 T.a_law_part T.d_law_part ["_law_state_here", "_law_sign", "_law_many"] (sp_law_part T) := by
  refine T.f_law_part.ok sc_law_part (fun vs H Q E h => ?_) (fun cdv A outer s H vs Q E hr h => ?_)
  · obtain ⟨d, c, m, L, rfl, _⟩ := h
    rfl
  · obtain ⟨d, c, m, L, rfl, h⟩ := h
    refine ⟨_, (pss_cons (ps_set (i := 3) sc_law_part.nd rfl (by first | exact Or.inl rfl | exact Or.inr rfl) (pe_call (ok_law_next T) hr (by rfl) T.g_law_next T.f_law_next.kp T.b_law_next .nil pass0 (pa_cons (pv 0) pa_nil)))
       (pss_cons (ps_if (pt_cmpR (k_eq (K := K) rfl hr.units) (pv 1) pe_str (nomark _))
        (pss_one (ps_ret (pe_ix (k_ix (K := K) rfl (hu_of hr)) pe_str (pe_op (k_mod (K := K) rfl) (pv 3) pe_int) (fun _ _ => rfl))))
        pss_nil)
       (pss_cons (ps_if (pt_cmpR (k_eq (K := K) rfl hr.units) (pv 1) pe_str (nomark _))
        (pss_one (ps_ret (pe_ix (k_ix (K := K) rfl (hu_of hr)) (pe_lst (pa_cons pe_int (pa_cons pe_int (pa_cons pe_int (pa_cons pe_int (pa_cons pe_int (pa_cons (pe_op (k_mod (K := K) rfl) (pe_op (k_div (K := K) rfl) (pv 3) pe_int) pe_int) (pa_cons (pe_op (k_mod (K := K) rfl) (pe_op (k_div (K := K) rfl) (pv 3) pe_int) pe_int) (pa_cons pe_int pa_nil))))))))) (pe_op (k_mod (K := K) rfl) (pv 3) pe_int) (fun _ _ => rfl))))
        pss_nil)
       (pss_one (ps_ret (pe_ix (k_ix (K := K) rfl (hu_of hr)) (pe_lst (pa_cons (pe_op (k_mod (K := K) rfl) (pe_op (k_div (K := K) rfl) (pv 3) pe_int) (pv 2)) (pa_cons (pe_op (k_mod (K := K) rfl) (pe_op (k_div (K := K) rfl) (pv 3) pe_int) (pe_callB (u_min2 rfl) (by rfl) T.n_min (by decide +kernel) (pa_cons (pv 2) (pa_cons pe_int pa_nil)))) (pa_cons (pe_op (k_sub (K := K) rfl) (pv 2) pe_int) (pa_cons pe_int pa_nil))))) (pe_op (k_mod (K := K) rfl) (pv 3) pe_int) (fun _ _ => rfl))))))), ?_⟩
    try dsimp only [cxOf]
    obtain ⟨⟨hc, m1, m2⟩, hs, q⟩ := h
    walk_at "run"
    refine ⟨d, L, rfl, hs, fun n H n0 hs => ?_⟩
    walk_at "run"
    have hmin : (0 : Int) < (if (3 : Int) < ((m : Nat) : Int) then 3 else ((m : Nat) : Int)) := by split <;> omega
    rcases hc with rfl | rfl | rfl
    · rw [decide_eq_true one_r]
      walk_at "run"
      refine r_ixReg fun r hr => ?_
      exact q _ _ (.inl ⟨one_r, r, hr, rfl⟩) hs
    · rw [decide_eq_false st_nr]
      walk_at "run"
      rw [decide_eq_true one_n]
      walk_at "run"
      have at_ : ∃ v : Int, atI [V.int 0, V.int 65535, V.int 1, V.int 9, V.int 10, V.int (n / 8 % 65536), V.int (n / 8 % 100), V.int 9999] (n % 8) = some (.int v) ∧ 0 ≤ v ∧ v ≤ 65535 := by
        have h1 := Int.emod_nonneg n (by decide : (8 : Int) ≠ 0)
        have h2 := Int.emod_lt_of_pos n (by decide : (0 : Int) < 8)
        generalize n % 8 = k at h1 h2
        rcases (show k = 0 ∨ k = 1 ∨ k = 2 ∨ k = 3 ∨ k = 4 ∨ k = 5 ∨ k = 6 ∨ k = 7 by omega) with rfl | rfl | rfl | rfl | rfl | rfl | rfl | rfl <;> exact ⟨_, rfl, by omega, by omega⟩
      obtain ⟨v, ev, v0, v1⟩ := at_
      refine Sl.r_ixL (hs.sq (by walk_at "pull")) ev ?_
      exact q _ _ (.inr (.inl ⟨one_n, v, v0, v1, rfl⟩)) (Hd.mt (by walk_at "mt") hs)
    · rw [decide_eq_false st_tr]
      walk_at "run"
      rw [decide_eq_false st_tn]
      walk_at "run"
      have a0 := Int.emod_nonneg (n / 4) (by omega : (m : Int) ≠ 0)
      have a1 := Int.emod_lt_of_pos (n / 4) (by omega : (0 : Int) < m)
      have b0 := Int.emod_nonneg (n / 4) (by omega : (if (3 : Int) < ((m : Nat) : Int) then 3 else ((m : Nat) : Int)) ≠ 0)
      have b1 := Int.emod_lt_of_pos (n / 4) hmin
      have b2 : (if (3 : Int) < ((m : Nat) : Int) then 3 else ((m : Nat) : Int)) ≤ m := by split <;> omega
      generalize (if (3 : Int) < ((m : Nat) : Int) then 3 else ((m : Nat) : Int)) = mm at *
      have at_ : ∃ v : Int, atI [V.int (n / 4 % m), V.int (n / 4 % mm), V.int ((m : Nat) - 1), V.int 0] (n % 4) = some (.int v) ∧ 0 ≤ v ∧ v < m := by
        have h1 := Int.emod_nonneg n (by decide : (4 : Int) ≠ 0)
        have h2 := Int.emod_lt_of_pos n (by decide : (0 : Int) < 4)
        generalize n % 4 = k at h1 h2
        rcases (show k = 0 ∨ k = 1 ∨ k = 2 ∨ k = 3 by omega) with rfl | rfl | rfl | rfl <;> exact ⟨_, rfl, by omega, by omega⟩
      obtain ⟨v, ev, v0, v1⟩ := at_
      refine Sl.r_ixL (hs.sq (by walk_at "pull")) ev ?_
      exact q _ _ (.inr (.inr ⟨one_t, v.toNat, by omega, by rw [Int.toNat_of_nonneg v0]⟩)) (Hd.mt (by walk_at "mt") hs)
def sp_law_code (T : Txt K mg) : Sp := fun vs H Q _ => ∃ (d : Addr) (M : Nat) (L : List SA), vs = [.ref d, .int (M : Nat)] ∧ (40 ≤ M ∧ M ≤ 200) ∧ Hd (stB d :: L) H ∧ ∀ F xs R H', (1 ≤ R.length ∧ R.length ≤ M ∧ ∀ r ∈ R, OkR R.length r) → Hd (pto F (.lst xs) :: rowsT xs R :: stB d :: L) H' → Q (.ref F) H'
theorem ok_law_code (T : Txt K mg) : FnOk P w K mg base CX0 4 T.a_law_code T.d_law_code ["_law_state_here", "_law_most"] (sp_law_code T) := by
  refine T.f_law_code.ok sc_law_code (fun vs H Q E h => ?_) (fun cdv A outer s H vs Q E hr h => ?_)
  · obtain ⟨d, M, L, rfl, _⟩ := h
    rfl
  · obtain ⟨d, M, L, rfl, h⟩ := h
    refine ⟨_, (pss_cons (ps_set (i := 2) sc_law_code.nd rfl (by first | exact Or.inl rfl | exact Or.inr rfl) (pe_call (ok_law_next T) (hr.mono (by decide)) (by rfl) T.g_law_next T.f_law_next.kp T.b_law_next .nil pass0 (pa_cons (pv 0) pa_nil)))
       (pss_cons (ps_set (i := 3) sc_law_code.nd rfl (by first | exact Or.inl rfl | exact Or.inr rfl) (pe_op (k_div (K := K) rfl) (pv 2) pe_int))
       (pss_cons (ps_set (i := 4) sc_law_code.nd rfl (by first | exact Or.inl rfl | exact Or.inr rfl) (pe_ix (k_ix (K := K) rfl (hu_of hr)) (pe_lst (pa_cons (pe_op (k_add (K := K) rfl) pe_int (pe_op (k_mod (K := K) rfl) (pv 3) pe_int)) (pa_cons (pe_op (k_add (K := K) rfl) pe_int (pe_op (k_mod (K := K) rfl) (pv 3) pe_int)) (pa_cons (pe_op (k_add (K := K) rfl) pe_int (pe_op (k_mod (K := K) rfl) (pv 3) pe_int)) (pa_cons (pv 1) pa_nil))))) (pe_op (k_div (K := K) rfl) (pe_op (k_mod (K := K) rfl) (pv 2) pe_int) pe_int) (fun _ _ => rfl)))
       (pss_cons (ps_set (i := 5) sc_law_code.nd rfl (by first | exact Or.inl rfl | exact Or.inr rfl) (pe_call0 (ok_law_forms T) (hr.mono (by decide)) (by rfl) T.g_law_forms T.f_law_forms.kp T.b_law_forms .nil pass0))
       (pss_cons (ps_set (i := 6) sc_law_code.nd rfl (by first | exact Or.inl rfl | exact Or.inr rfl) (pe_lst pa_nil))
       (pss_cons (ps_for PassesOwn.never rfl (pi_range1 (by rfl) T.n_range (pa_cons (pv 4) pa_nil)) (pg_name (i := 7) sc_law_code.nd rfl (by first | exact Or.inl rfl | exact Or.inr rfl))
        (pss_cons (ps_set (i := 8) sc_law_code.nd rfl (by first | exact Or.inl rfl | exact Or.inr rfl) (pe_ix (k_ix (K := K) rfl (hu_of hr)) (pe_callB (Tx.call_srtDS rfl) (by rfl) T.n_sorted (by decide +kernel) (pa_cons (pv 5) pa_nil)) (pe_op (k_mod (K := K) rfl) (pe_call (ok_law_next T) (hr.mono (by decide)) (by rfl) T.g_law_next T.f_law_next.kp T.b_law_next .nil pass0 (pa_cons (pv 0) pa_nil)) pe_int) (fun _ _ => rfl)))
       (pss_one (ps_expr (k_bm (K := K) rfl (pe_bm PySem.F.plainAttrs_list PySem.F.slot_list_append PySem.F.type_list_append mt_append (pv 6) (pa_cons (pe_op (k_add (K := K) rfl) (pe_tup (pa_cons (pv 8) pa_nil)) (pe_callTy (k_tuple (K := K) rfl) (by rfl) T.n_tuple (by decide +kernel) (pa_cons (pe_lc (own := [("_law_sign", 9)]) rfl sc_law_code.nd (pi_str (pe_ix (k_ix (K := K) rfl (hu_of hr)) (pv 5) (pv 8) (fun _ _ => rfl))) (blkOk_by (N := ["_law_state_here", "_law_most", "_law_number", "_law_more", "_law_many", "_law_forms_here", "_law_found", "_law_at", "_law_word", "_law_sign"]) (sc := defScope s_law_code) (by decide +kernel)) (fun _ _ _ _ _ => (pg_name (i := 9) sc_law_code.nd rfl (by first | exact Or.inl rfl | exact Or.inr rfl))) (fun s_0 H_0 C_0 cl_0 fp_0 => pts_nil) (fun s_0 H_0 C_0 cl_0 fp_0 => (pe_call (ok_law_part T) hr (by rfl) T.g_law_part T.f_law_part.kp T.b_law_part .nil pass0 (pa_cons (pv 0) (pa_cons (pv 9) (pa_cons (pv 4) pa_nil)))))) pa_nil))) pa_nil)))))))
       (pss_one (ps_ret (pv 6))))))))), ?_⟩
    try dsimp only [cxOf]
    obtain ⟨⟨M1, M2⟩, hs, q⟩ := h
    walk_at "run"
    refine ⟨d, L, rfl, hs, fun n H n0 hs => ?_⟩
    walk_at "run"
    have at_ : ∃ m : Nat, atI [V.int (1 + n / 16 % 4), V.int (1 + n / 16 % 12), V.int (1 + n / 16 % 40), V.int ((M : Nat) : Int)] (n % 16 / 5) = some (.int (m : Nat)) ∧ 1 ≤ m ∧ m ≤ M := by
      have h1 : 0 ≤ n % 16 / 5 := by omega
      have h2 : n % 16 / 5 ≤ 3 := by omega
      generalize n % 16 / 5 = k at h1 h2
      rcases (show k = 0 ∨ k = 1 ∨ k = 2 ∨ k = 3 by omega) with rfl | rfl | rfl | rfl
      · exact ⟨(1 + n / 16 % 4).toNat, by rw [Int.toNat_of_nonneg (by omega)]; rfl, by omega, by omega⟩
      · exact ⟨(1 + n / 16 % 12).toNat, by rw [Int.toNat_of_nonneg (by omega)]; rfl, by omega, by omega⟩
      · exact ⟨(1 + n / 16 % 40).toNat, by rw [Int.toNat_of_nonneg (by omega)]; rfl, by omega, by omega⟩
      · exact ⟨M, rfl, by omega, by omega⟩
    obtain ⟨m, em, m1, m2⟩ := at_
    refine Sl.r_ixL (hs.sq (by walk_at "pull")) em ?_
    walk_at "run"
    refine ⟨_, rfl, Hd.mt (by walk_at "mt") hs, fun fd H hs => ?_⟩
    walk_at "run"
    obtain ⟨F, eF⟩ : ∃ F, F = q_ := ⟨_, rfl⟩
    rw [← eF] at hs ⊢
    have hs : Hd (rowsT [] [] :: pto F (.lst []) :: pto fd (.dK formD) :: stB d :: L) _ := Hd.mt (by walk_at "mt") (rows_nil hs)
    refine Sl.r_forR (fun i σ H => ∃ (v7 v8 : Option V) (xs : List V) (R : List Rw), σ = [some (.ref d), some (.int (M : Nat)), some (.int n), some (.int (n / 16)), some (.int (m : Nat)), some (.ref fd), some (.ref F), v7, v8, none] ∧ (R.length = i ∧ ∀ r ∈ R, OkR m r) ∧ Hd (rowsT xs R :: pto F (.lst xs) :: pto fd (.dK formD) :: stB d :: L) H) ⟨_, _, [], [], rfl, ⟨rfl, fun _ z => nomatch z⟩, hs⟩ ?_ ?_
    · clear hs
      rintro i σ H hi ⟨v7, v8, xs, R, rfl, ⟨lR, ok⟩, hs⟩
      have lx := rows_len hs (by walk_at "pull")
      walk_at "run"
      refine Tx.r_srtDS hs (by walk_at "get") formD_keys (by decide) fun ys p H pm hs => ?_
      walk_at "run"
      refine ⟨d, _, rfl, Hd.mt (by walk_at "mt") hs, fun k H k0 hs => ?_⟩
      walk_at "run"
      have ly : ys.length = 15 := pm.length_eq
      obtain ⟨w1, ew, mw⟩ : ∃ w1, atI (ys.map V.str) (k % 15) = some (.str w1) ∧ w1 ∈ formsK.map (·.1) := by
        obtain ⟨j, ej⟩ : ∃ j : Nat, k % 15 = (j : Int) := ⟨(k % 15).toNat, by omega⟩
        have hj : j < ys.length := by omega
        rw [ej]
        exact ⟨ys[j], atI_nat (by rw [List.getElem?_map, List.getElem?_eq_getElem hj]; rfl), pm.mem_iff.mp (List.getElem_mem hj)⟩
      obtain ⟨f, mf, ef⟩ := formD_mem mw
      obtain ⟨fs, fg⟩ : f.cps.size ≤ 3 ∧ ∀ (i c : Nat), f.cps[i]? = some c → c = 114 ∨ c = 110 ∨ c = 116 := form_signs _ mf
      refine Sl.r_ixL (hs.sq (a := p) (by walk_at "pull")) ew ?_
      walk_at "run"
      obtain ⟨t1, et⟩ : ∃ t, t = q_ := ⟨_, rfl⟩
      rw [← et] at hs ⊢
      have hs : Hd (pto t1 (.tup [.str w1]) :: rowsT xs R :: pto F (.lst xs) :: pto fd (.dK formD) :: stB d :: L) _ := Hd.mt (by walk_at "mt") hs
      refine Tx.r_lcS (fun D j H => ∃ us : List V, (us.length = j ∧ ∀ (i c : Nat) (v : V), f.cps[i]? = some c → us[i]? = some v → PartOk ⟨#[c]⟩ v m) ∧ Hd (pto D (.lst us) :: pto t1 (.tup [.str w1]) :: rowsT xs R :: pto F (.lst xs) :: pto fd (.dK formD) :: stB d :: L) H) hs (fun D H hs => ⟨[], ⟨rfl, fun _ _ _ _ z => nomatch z⟩, hs⟩) ?_ ?_
      · clear hs
        rintro D j c H hc ⟨us, ⟨lu, hu⟩, hs⟩
        have hj := (Array.getElem?_eq_some_iff.mp hc).1
        walk_at "run"
        refine ⟨d, c, m, _, rfl, ⟨fg j c hc, m1, by omega⟩, Hd.mt (by walk_at "mt") hs, fun v H okv hs => ?_⟩
        walk_at "run"
        refine ⟨us ++ [v], ⟨by rw [List.length_append, lu]; rfl, fun i2 c2 v2 h1 h2 => ?_⟩, Hd.mt (by walk_at "mt") hs⟩
        by_cases hlt : i2 < us.length
        · rw [List.getElem?_append_left hlt] at h2
          exact hu i2 c2 v2 h1 h2
        · rw [List.getElem?_append_right (by omega)] at h2
          have e0 : i2 - us.length = 0 := by
            rcases Nat.eq_zero_or_pos (i2 - us.length) with z | z
            · exact z
            · rw [List.getElem?_eq_none (by rw [List.length_singleton]; omega)] at h2
              cases h2
          rw [e0] at h2
          cases h2
          have : i2 = j := by omega
          subst this
          rw [hc] at h1
          cases h1
          exact okv
      clear hs
      rintro D H ⟨us, ⟨lu, hu⟩, hs⟩
      obtain ⟨r, okr, er, efr⟩ := row_of mf lu hu
      walk_at "run"
      refine Tx.r_addT hs (by walk_at "pull") (hs.st (by walk_at "pull")) (List.cons_ne_nil _ _) (Sl.sz (by simp only [List.length_cons, List.length_nil]; omega)) fun t H hs => ?_
      walk_at "run"
      rw [show [V.str w1] ++ us = rwV r from er.symm] at hs
      exact ⟨_, _, xs ++ [.ref t], R ++ [r], rfl, ⟨by rw [List.length_append, lR]; rfl, fun x mx => (List.mem_append.mp mx).elim (ok x) fun mx => by cases List.mem_singleton.mp mx; exact okr⟩, Hd.mt (by walk_at "mt") (rows_snoc (Hd.mt (by walk_at "mt") hs : Hd (pto t (.tup (rwV r)) :: rowsT xs R :: pto F (.lst (xs ++ [.ref t])) :: pto fd (.dK formD) :: stB d :: L) _))⟩
    clear hs
    rintro σ H ⟨v7, v8, xs, R, rfl, ⟨lR, ok⟩, hs⟩
    have lR : R.length = m := by omega
    rw [← lR] at ok
    walk_at "run"
    exact q F xs R _ ⟨by omega, by omega, ok⟩ (Hd.mt (by walk_at "mt") hs)
end
section
variable {P : Program} {w : World} {K : PySem.W.Frag} {mg : Str → Option Value} {base : Heap}

/-- the rows asked for, so far -/
def askJ (acc : List Int) (r : Rw) (j : Nat) : List Int := ((prs r).take j).foldl askP acc
theorem askJ_succ {acc : List Int} {r : Rw} {j : Nat} {e : Nat × V} (h : (prs r)[j]? = some e) : askJ acc r (j + 1) = askP (askJ acc r j) e := by
  unfold askJ
  rw [take_snoc h, List.foldl_append]
  rfl
theorem askJ_len (acc : List Int) (r : Rw) (j : Nat) : (askJ acc r j).length ≤ acc.length + j := by
  unfold askJ
  have := askF_len ((prs r).take j) acc
  have := List.length_take_le j (prs r)
  omega
theorem askJ_full {n : Nat} {acc : List Int} {r : Rw} (ok : OkR n r) : askJ acc r (formOf r).cps.size = (prs r).foldl askP acc := by
  have h : (prs r).length ≤ (formOf r).cps.size := by
    unfold prs
    rw [List.length_zip, Array.length_toList]
    omega
  unfold askJ
  rw [List.take_of_length_le h]
theorem srt_nodup {R : List Rw} : (srt (asked R)).Nodup := (srt_perm _).nodup_iff.mpr (asked_spec R).1
theorem nodup_take {α : Type} {l : List α} {i : Nat} {x : α} (nd : l.Nodup) (h : l[i]? = some x) : x ∉ l.take i := by
  have h2 : (l.take (i + 1)).Nodup := nd.sublist (List.take_sublist _ _)
  rw [take_snoc h, List.nodup_append] at h2
  exact fun m => h2.2.2 x m x (List.mem_singleton_self _) rfl
theorem srt_len (R : List Rw) (ok : ∀ r ∈ R, OkR R.length r) : (srt (asked R)).length ≤ R.length := by
  rw [srt_asked ok]
  exact ledTo_len _ _

def sp_law_letters__2 (_ : Txt K mg) : Sp := fun _ _ _ _ => False
theorem ok_law_letters__2 (T : Txt K mg) : FnOk P w K mg base CX0 1 T.a_law_letters T.d_law_letters ["_law_number"] (sp_law_letters__2 T) := T.f_law_letters.ok sc_law_letters (fun vs H Q E h => h.elim) (fun cdv A outer s H vs Q E hr h => h.elim)
def sp_law_letters__1 (T : Txt K mg) : Sp := fun vs H Q _ => ∃ (n : Nat) (L : List SA), vs = [.int (n : Int)] ∧ (n < 26) ∧ Hd L H ∧ ∀ H', Hd L H' → Q (.str (sgA (n % 26))) H'
theorem ok_law_letters__1 (T : Txt K mg) : FnOk P w K mg base CX0 2 T.a_law_letters T.d_law_letters ["_law_number"] (sp_law_letters__1 T) := by
  refine T.f_law_letters.ok sc_law_letters (fun vs H Q E h => ?_) (fun cdv A outer s H vs Q E hr h => ?_)
  · obtain ⟨n, L, rfl, _⟩ := h
    rfl
  · obtain ⟨n, L, rfl, h⟩ := h
    refine ⟨_, (pss_cons (ps_set (i := 1) sc_law_letters.nd rfl (by first | exact Or.inl rfl | exact Or.inr rfl) pe_str)
       (pss_cons (ps_set (i := 2) sc_law_letters.nd rfl (by first | exact Or.inl rfl | exact Or.inr rfl) (pe_ix (k_ix (K := K) rfl (hu_of hr)) (pv 1) (pe_op (k_mod (K := K) rfl) (pv 0) pe_int) (fun _ _ => rfl)))
       (pss_cons (ps_if (pt_cmpR op_ge (pv 0) pe_int (nomark _))
        (pss_one (ps_set (i := 2) sc_law_letters.nd rfl (by first | exact Or.inl rfl | exact Or.inr rfl) (pe_op (k_add (K := K) rfl) (pe_call (ok_law_letters__2 T) hr (by rfl) T.g_law_letters T.f_law_letters.kp T.b_law_letters .nil pass0 (pa_cons (pe_op (k_div (K := K) rfl) (pv 0) pe_int) pa_nil)) (pv 2))))
        pss_nil)
       (pss_one (ps_ret (pv 2)))))), ?_⟩
    try dsimp only [cxOf]
    obtain ⟨n1, hs, q⟩ := h
    walk_at "run"
    rw [show (n : Int) % 26 = ((n % 26 : Nat) : Int) by omega]
    refine r_ixAbc (by omega) ?_
    walk_at "run"
    refine Sl.r_iteD (fun z => (by omega : False).elim) (fun _ => ?_)
    walk_at "run"
    exact q _ hs
def sp_law_letters (T : Txt K mg) : Sp := fun vs H Q _ => ∃ (n : Nat) (L : List SA), vs = [.int (n : Int)] ∧ (n < 676) ∧ Hd L H ∧ ∀ H', Hd L H' → Q (.str (lettM n)) H'
theorem ok_law_letters (T : Txt K mg) : FnOk P w K mg base CX0 3 T.a_law_letters T.d_law_letters ["_law_number"] (sp_law_letters T) := by
  refine T.f_law_letters.ok sc_law_letters (fun vs H Q E h => ?_) (fun cdv A outer s H vs Q E hr h => ?_)
  · obtain ⟨n, L, rfl, _⟩ := h
    rfl
  · obtain ⟨n, L, rfl, h⟩ := h
    refine ⟨_, (pss_cons (ps_set (i := 1) sc_law_letters.nd rfl (by first | exact Or.inl rfl | exact Or.inr rfl) pe_str)
       (pss_cons (ps_set (i := 2) sc_law_letters.nd rfl (by first | exact Or.inl rfl | exact Or.inr rfl) (pe_ix (k_ix (K := K) rfl (hu_of hr)) (pv 1) (pe_op (k_mod (K := K) rfl) (pv 0) pe_int) (fun _ _ => rfl)))
       (pss_cons (ps_if (pt_cmpR op_ge (pv 0) pe_int (nomark _))
        (pss_one (ps_set (i := 2) sc_law_letters.nd rfl (by first | exact Or.inl rfl | exact Or.inr rfl) (pe_op (k_add (K := K) rfl) (pe_call (ok_law_letters__1 T) hr (by rfl) T.g_law_letters T.f_law_letters.kp T.b_law_letters .nil pass0 (pa_cons (pe_op (k_div (K := K) rfl) (pv 0) pe_int) pa_nil)) (pv 2))))
        pss_nil)
       (pss_one (ps_ret (pv 2)))))), ?_⟩
    try dsimp only [cxOf]
    obtain ⟨n1, hs, q⟩ := h
    unfold lettM at q
    walk_at "run"
    rw [show (n : Int) % 26 = ((n % 26 : Nat) : Int) by omega]
    refine r_ixAbc (by omega) ?_
    walk_at "run"
    refine Sl.r_iteD (fun z => ?_) (fun z => ?_)
    · rw [if_neg (by omega)] at q
      walk_at "run"
      refine ⟨n / 26, L, congrArg (fun z : Int => [V.int z]) (by omega), by omega, hs, fun H hs => ?_⟩
      walk_at "run"
      refine Sl.r_addS (Nat.le_of_ble_eq_true rfl) ?_
      walk_at "run"
      exact q _ hs
    · rw [if_pos (by omega)] at q
      walk_at "run"
      exact q _ hs
def sp_law_asked (T : Txt K mg) : Sp := fun vs H Q _ => ∃ (a : Addr) (xs : List V) (R : List Rw) (L : List SA), vs = [.ref a] ∧ (R.length ≤ 200 ∧ ∀ r ∈ R, OkR R.length r) ∧ Hd (pto a (.lst xs) :: rowsT xs R :: L) H ∧ ∀ p H', Hd (pto p (.lst ((srt (asked R)).map V.int)) :: pto a (.lst xs) :: rowsT xs R :: L) H' → Q (.ref p) H'
theorem ok_law_asked (T : Txt K mg) : FnOk P w K mg base CX0 2 T.a_law_asked T.d_law_asked ["_law_code_here"] (sp_law_asked T) := by
  refine T.f_law_asked.ok sc_law_asked (fun vs H Q E h => ?_) (fun cdv A outer s H vs Q E hr h => ?_)
  · obtain ⟨a, xs, R, L, rfl, _⟩ := h
    rfl
  · obtain ⟨a, xs, R, L, rfl, h⟩ := h
    refine ⟨_, (pss_cons (ps_set (i := 1) sc_law_asked.nd rfl (by first | exact Or.inl rfl | exact Or.inr rfl) (pe_call0 (ok_law_forms T) hr (by rfl) T.g_law_forms T.f_law_forms.kp T.b_law_forms .nil pass0))
       (pss_cons (ps_set (i := 2) sc_law_asked.nd rfl (by first | exact Or.inl rfl | exact Or.inr rfl) (pe_lst pa_nil))
       (pss_cons (ps_for PassesOwn.never rfl (pi_list (pv 0)) (pg_name (i := 3) sc_law_asked.nd rfl (by first | exact Or.inl rfl | exact Or.inr rfl))
        (pss_one (ps_for PassesOwn.never rfl (Zs.pi_zipS true (by rfl) T.n_zip (pa_cons (pe_ix (k_ix (K := K) rfl (hu_of hr)) (pv 1) (pe_ix (k_ix (K := K) rfl (hu_of hr)) (pv 3) pe_int (fun _ _ => rfl)) (fun _ _ => rfl)) (pa_cons (pe_slice (k_slT (K := K) rfl) (pv 3) (po_some pe_int) po_none) pa_nil))) (k_gTup (K := K) (n := 2) rfl (pg_tup (n := 2) (by rfl) (pgs_cons (pg_name (i := 4) sc_law_asked.nd rfl (by first | exact Or.inl rfl | exact Or.inr rfl)) (pgs_cons (pg_name (i := 5) sc_law_asked.nd rfl (by first | exact Or.inl rfl | exact Or.inr rfl)) pgs_nil))))
        (pss_one (ps_if (PW.pt (pw_and (pt_cmpR (k_eq (K := K) rfl hr.units) (pv 4) pe_str (nomark _)) (pw_and1 (pt_cmpR (k_notIn (K := K) rfl (hu_of hr)) (pv 5) (pv 2) (by rfl)))))
        (pss_one (ps_expr (k_bm (K := K) rfl (pe_bm PySem.F.plainAttrs_list PySem.F.slot_list_append PySem.F.type_list_append mt_append (pv 2) (pa_cons (pv 5) pa_nil)))))
        pss_nil)))))
       (pss_one (ps_ret (pe_callB (k_sorted (K := K) rfl) (by rfl) T.n_sorted (by decide +kernel) (pa_cons (pv 2) pa_nil))))))), ?_⟩
    try dsimp only [cxOf]
    obtain ⟨⟨l2, ok⟩, hs, q⟩ := h
    have lx := rows_len hs (by walk_at "pull")
    walk_at "run"
    refine ⟨_, rfl, hs, fun fd H hs => ?_⟩
    walk_at "run"
    obtain ⟨F, eF⟩ : ∃ F, F = q_ := ⟨_, rfl⟩
    rw [← eF] at hs ⊢
    refine Sl.r_forL xs (fun i σ H => (∃ v3 v4 v5, σ = [some (.ref a), some (.ref fd), some (.ref F), v3, v4, v5]) ∧ Hd (pto F (.lst ((asked (R.take i)).map V.int)) :: pto fd (.dK formD) :: pto a (.lst xs) :: rowsT xs R :: L) H) ⟨⟨_, _, _, rfl⟩, (by show Hd (pto F (.lst []) :: _) _; exact Hd.mt (by walk_at "mt") hs)⟩ (fun i σ H _ z => z.2.sq (by walk_at "pull")) ?_ ?_
    · clear hs
      rintro i x σ H hx ⟨⟨v3, v4, v5, rfl⟩, hs⟩
      have hi : i < R.length := by
        have := (List.getElem?_eq_some_iff.mp hx).1
        omega
      have hr : R[i]? = some R[i] := List.getElem?_eq_getElem hi
      obtain ⟨t, et⟩ := rows_ref hs (by walk_at "pull") hr
      rw [hx] at et
      cases et
      have okr := ok _ (List.getElem_mem hi)
      have la := ask_len (R.take i)
      have lt := take_len hr
      rw [take_snoc hr, asked_snoc]
      generalize R[i] = r at *
      obtain ⟨ys, ew, ey⟩ := word_at r
      obtain ⟨f1, f2, f3⟩ := form_ok okr
      rw [← ey] at f1 f3
      have fm := formD_at okr
      walk_at "run"
      refine Sl.r_ixT (rows_st hs (by walk_at "pull") hx hr) (row0 r) ?_
      walk_at "run"
      refine r_slT1 hs (by rw [← ew]; exact rows_st hs (by walk_at "pull") hx hr) fun sl H hs => ?_
      walk_at "run"
      refine Sl.r_zipST f2 (hs.st (by walk_at "pull")) ?_
      have hk : (formOf r).cps.size ≤ 3 := form_few r
      refine Sl.r_forZs (n := (formOf r).cps.size) (ys := ys) (by rw [← f1]; omega) (fun j σ H => (∃ v4 v5, σ = [some (.ref a), some (.ref fd), some (.ref F), some (.ref t), v4, v5]) ∧ Hd (pto F (.lst ((askJ (asked (R.take i)) r j).map V.int)) :: pto sl (.tup ys) :: pto fd (.dK formD) :: pto a (.lst xs) :: rowsT xs R :: L) H) ⟨⟨_, _, rfl⟩, (by show Hd (pto F (.lst ((asked (R.take i)).map V.int)) :: _) _; exact Hd.mt (by walk_at "mt") hs)⟩ (fun j σ H _ z => z.2.st (by walk_at "pull")) ?_ ?_
      · clear hs
        rintro j c y TT σ H hc hy ⟨⟨v4, v5, rfl⟩, hs⟩ hT
        have hs := hs.new (o := .tup [.str ⟨#[c]⟩, y]) hT
        have hp := prs_at ey hc hy
        have mp := List.mem_of_getElem? hp
        have hj3 : j < 3 := by have := (Array.getElem?_eq_some_iff.mp hc).1; omega
        have hw := askJ_len (asked (R.take i)) r j
        rw [askJ_succ hp]
        walk_at "runI"
        refine Sl.r_ifT (fun H2 => (c = 116 ∧ ∃ g, y = .int g ∧ g ∉ askJ (asked (R.take i)) r j) ∧ Hd (pto F (.lst ((askJ (asked (R.take i)) r j).map V.int)) :: pto sl (.tup ys) :: pto fd (.dK formD) :: pto a (.lst xs) :: rowsT xs R :: L) H2) (fun H2 => askP (askJ (asked (R.take i)) r j) (c, y) = askJ (asked (R.take i)) r j ∧ Hd (pto F (.lst ((askJ (asked (R.take i)) r j).map V.int)) :: pto sl (.tup ys) :: pto fd (.dK formD) :: pto a (.lst xs) :: rowsT xs R :: L) H2) (fun QT ht hf => ?_) ?_ ?_
        · walk_at "run"
          rw [eq_t]
          refine Sl.r_iteD (fun z => ?_) (fun z => ?_)
          · subst z
            obtain ⟨g, rfl, eg⟩ := prs_tgt mp
            walk_at "run"
            rw [Sl.inV_ints]
            by_cases hg : g ∈ askJ (asked (R.take i)) r j
            · rw [decide_eq_true hg]
              exact hf _ ⟨by rw [askP_t, if_pos hg], Hd.mt (by walk_at "mt") hs⟩
            · rw [decide_eq_false hg]
              exact ht _ ⟨⟨rfl, g, rfl, hg⟩, Hd.mt (by walk_at "mt") hs⟩
          · exact hf _ ⟨askP_no z, Hd.mt (by walk_at "mt") hs⟩
        · clear hs
          rintro H ⟨⟨rfl, g, rfl, hg⟩, hs⟩
          rw [askP_t, if_neg hg]
          walk_at "run"
          refine ⟨⟨_, _, rfl⟩, ?_⟩
          rw [List.map_append, List.map_cons, List.map_nil]
          walk_at "rest"
        · clear hs
          rintro H ⟨e, hs⟩
          rw [e]
          walk_at "run"
          exact ⟨⟨_, _, rfl⟩, hs⟩
      clear hs
      rintro σ H ⟨⟨v4, v5, rfl⟩, hs⟩
      rw [askJ_full okr] at hs
      walk_at "run"
      exact ⟨⟨_, _, _, rfl⟩, Hd.mt (by walk_at "mt") hs⟩
    clear hs
    rintro σ H ⟨⟨v3, v4, v5, rfl⟩, hs⟩
    rw [lx, List.take_length] at hs
    walk_at "run"
    exact q _ _ (Hd.mt (by walk_at "mt") hs)
end
section
variable {P : Program} {w : World} {K : PySem.W.Frag} {mg : Str → Option Value} {base : Heap}
def sp_law_row_words (T : Txt K mg) : Sp := fun vs H Q _ => ∃ (t g : Addr) (r : Rw) (n i : Nat) (lab : List (Int × Str)) (xs : List V) (R : List Rw) (L : List SA), vs = [.ref t, .ref g] ∧ ((OkR n r ∧ n ≤ 200) ∧ (∀ u, tgt r = some u → ∃ s, getM lab u = some s) ∧ xs[i]? = some (.ref t) ∧ R[i]? = some r) ∧ Hd (rowsT xs R :: pto g (.dK (dM V.str lab)) :: L) H ∧ ∀ W H', Hd (pto W (.lst ((rwW lab r).map V.str)) :: rowsT xs R :: pto g (.dK (dM V.str lab)) :: L) H' → Q (.ref W) H'
theorem ok_law_row_words (T : Txt K mg) : FnOk P w K mg base CX0 2 T.a_law_row_words T.d_law_row_words ["_law_row", "_law_labels"] (sp_law_row_words T) := by
  refine T.f_law_row_words.ok sc_law_row_words (fun vs H Q E h => ?_) (fun cdv A outer s H vs Q E hr h => ?_)
  · obtain ⟨t, g, r, n, i, lab, xs, R, L, rfl, _⟩ := h
    rfl
  · obtain ⟨t, g, r, n, i, lab, xs, R, L, rfl, h⟩ := h
    refine ⟨_, (pss_cons (ps_set (i := 2) sc_law_row_words.nd rfl (by first | exact Or.inl rfl | exact Or.inr rfl) (pe_lst (pa_cons (pe_ix (k_ix (K := K) rfl (hu_of hr)) (pv 0) pe_int (fun _ _ => rfl)) pa_nil)))
       (pss_cons (ps_for PassesOwn.never rfl (Zs.pi_zipS true (by rfl) T.n_zip (pa_cons (pe_ix (k_ix (K := K) rfl (hu_of hr)) (pe_call0 (ok_law_forms T) hr (by rfl) T.g_law_forms T.f_law_forms.kp T.b_law_forms .nil pass0) (pe_ix (k_ix (K := K) rfl (hu_of hr)) (pv 0) pe_int (fun _ _ => rfl)) (fun _ _ => rfl)) (pa_cons (pe_slice (k_slT (K := K) rfl) (pv 0) (po_some pe_int) po_none) pa_nil))) (k_gTup (K := K) (n := 2) rfl (pg_tup (n := 2) (by rfl) (pgs_cons (pg_name (i := 3) sc_law_row_words.nd rfl (by first | exact Or.inl rfl | exact Or.inr rfl)) (pgs_cons (pg_name (i := 4) sc_law_row_words.nd rfl (by first | exact Or.inl rfl | exact Or.inr rfl)) pgs_nil))))
        (pss_one (ps_expr (k_bm (K := K) rfl (pe_bm PySem.F.plainAttrs_list PySem.F.slot_list_append PySem.F.type_list_append mt_append (pv 2) (pa_cons (pe_ifExp (pt_cmpR (k_eq (K := K) rfl hr.units) (pv 3) pe_str (nomark _)) (pe_ix (k_ix (K := K) rfl (hu_of hr)) (pv 1) (pv 4) (fun _ _ => rfl)) (pe_callTy Tx.u_str (by rfl) T.n_str (by decide +kernel) (pa_cons (pv 4) pa_nil))) pa_nil))))))
       (pss_one (ps_ret (pv 2))))), ?_⟩
    try dsimp only [cxOf]
    obtain ⟨⟨⟨okr, n2⟩, hla, hx, hr⟩, hs, q⟩ := h
    obtain ⟨ys, ew, ey⟩ := word_at r
    obtain ⟨f1, f2, f3⟩ := form_ok okr
    rw [← ey] at f1 f3
    have fm := formD_at okr
    walk_at "run"
    refine Sl.r_ixT (rows_st hs (by walk_at "pull") hx hr) (row0 r) ?_
    walk_at "run"
    obtain ⟨W, eW⟩ : ∃ W, W = q_ := ⟨_, rfl⟩
    rw [← eW] at hs ⊢
    refine ⟨_, rfl, hs, fun fd H hs => ?_⟩
    walk_at "run"
    refine Sl.r_ixT (rows_st hs (by walk_at "pull") hx hr) (row0 r) ?_
    walk_at "run"
    refine r_slT1 hs (by rw [← ew]; exact rows_st hs (by walk_at "pull") hx hr) fun sl H hs => ?_
    walk_at "run"
    refine Sl.r_zipST f2 (hs.st (by walk_at "pull")) ?_
    have hk : (formOf r).cps.size ≤ 3 := form_few r
    refine Sl.r_forZs (n := (formOf r).cps.size) (ys := ys) (by rw [← f1]; omega) (fun j σ H => (∃ v4 v5, σ = [some (.ref t), some (.ref g), some (.ref W), v4, v5]) ∧ Hd (pto W (.lst (ww lab r j)) :: pto sl (.tup ys) :: rowsT xs R :: pto g (.dK (dM V.str lab)) :: L) H) ⟨⟨_, _, rfl⟩, (by show Hd (pto W (.lst [.str (wordOf r)]) :: _) _; exact Hd.mt (by walk_at "mt") hs)⟩ (fun j σ H _ z => z.2.st (by walk_at "pull")) ?_ ?_
    · clear hs
      rintro j c y TT σ H hc hy ⟨⟨v4, v5, rfl⟩, hs⟩ hT
      have hs := hs.new (o := .tup [.str ⟨#[c]⟩, y]) hT
      have hp := prs_at ey hc hy
      have mp := List.mem_of_getElem? hp
      have hw := ww_len lab r j
      have hj3 : j < 3 := by have := (Array.getElem?_eq_some_iff.mp hc).1; omega
      rw [ww_succ (lab := lab) hp]
      walk_at "run"
      rw [eq_t]
      refine Sl.r_iteD (fun z => ?_) (fun z => ?_)
      · subst z
        obtain ⟨u, rfl, eu⟩ := prs_tgt mp
        obtain ⟨s1, es⟩ := hla u eu
        have hg : valV (dM V.str lab) (.inl u) = some (.str s1) := by rw [valV_dM, es]; rfl
        rw [show pw lab (116, .int u) = s1 from by show (getM lab u).getD "" = s1; rw [es]; rfl]
        walk_at "run"
        exact ⟨⟨_, _, rfl⟩, Hd.mt (by walk_at "mt") hs⟩
      · rcases part_at (prs_ok okr mp) with ⟨rfl, u, hu, rfl⟩ | ⟨rfl, u, u0, u1, rfl⟩ | ⟨rfl, u, hu, rfl⟩
        · rw [show pw lab (114, .str (rg u)) = rg u from rfl]
          walk_at "run"
          exact ⟨⟨_, _, rfl⟩, Hd.mt (by walk_at "mt") hs⟩
        · rw [show pw lab (110, .int u) = toString u from rfl]
          walk_at "run"
          refine Tx.r_strI (Tx.num_log u0 (by omega)) ?_
          walk_at "run"
          exact ⟨⟨_, _, rfl⟩, Hd.mt (by walk_at "mt") hs⟩
        · exact absurd rfl z
    clear hs
    rintro σ H ⟨⟨v4, v5, rfl⟩, hs⟩
    rw [ww_full okr] at hs
    walk_at "run"
    exact q _ _ (Hd.mt (by walk_at "mt") hs)
end
section
variable {P : Program} {w : World} {K : PySem.W.Frag} {mg : Str → Option Value} {base : Heap}

end
section
variable {P : Program} {w : World} {K : PySem.W.Frag} {mg : Str → Option Value} {base : Heap}

/-! ### what a text writes -/
abbrev smallS : List Nat := ("abcdefghijklmnopqrstuvwxyz" : Str).cps.toList
abbrev figS : List Nat := ("0123456789" : Str).cps.toList
def okLab (w : Str) : Bool := (decide (1 ≤ w.length) && decide (w.length ≤ 8)) && (w.cps.toList.map fun c => decide (c ∈ smallS)).all id
def numIn (w : Str) : Option Int :=
  if ((decide (1 ≤ w.length) && decide (w.length ≤ 5)) && (w.cps.toList.map fun c => decide (c ∈ figS)).all id) = true then
    (if w.cps.toList.head? = some 48 ∧ w ≠ "0" then none else if NumText.digitsVal w.cps.toList ≤ 65535 then some ((NumText.digitsVal w.cps.toList : Nat) : Int) else none)
  else none
def isWr (c : Nat) (w : Str) : Bool := if c = 114 then isReg w else if c = 110 then (numIn w).isSome else okLab w
def formS (w : Str) : Option Str := (formsK.find? fun e => decide (e.1 = w)).map (·.2)
structure Rdg where
  ds : List (List Str × Int)
  ms : List (Str × Int)
def keysS (ms : List (Str × Int)) : List Str := ms.map (·.1)
def mS (ms : List (Str × Int)) : List (Key × V) := ms.map fun e => ((Sum.inr e.1 : Key), V.int e.2)
/-- the words are those of a label -/
def isLabW (ws : List Str) : Bool := decide (ws.length = 1) && Txt.endswith (ws.headD "") ":"
def nameOf (ws : List Str) : Str := cutS (ws.headD "") none (some (-1))
def putR (s : Rdg) (ws : List Str) (ln : Int) : Option Rdg :=
  if isLabW ws = true then (if okLab (nameOf ws) = true ∧ nameOf ws ∉ keysS s.ms then some ⟨s.ds, s.ms ++ [(nameOf ws, ((s.ds.length : Nat) : Int))]⟩ else none)
  else match formS (ws.headD "") with
    | none => none
    | some f => if (ws.length = 1 + f.length ∧ s.ds.length ≠ 200) ∧ ((f.cps.toList.zip ws.tail).map fun e => isWr e.1 e.2).all id = true then some ⟨s.ds ++ [(ws, ln)], s.ms⟩ else none
def getS (ms : List (Str × Int)) (w : Str) : Option Int := (ms.find? fun e => decide (e.1 = w)).map (·.2)
def partR (ms : List (Str × Int)) (c : Nat) (w : Str) : Option V := if c = 114 then some (.str w) else if c = 110 then some (match numIn w with
    | some n => .int n
    | none => .non) else (getS ms w).map V.int
def partsR (ms : List (Str × Int)) : List (Nat × Str) → Option (List V)
  | [] => some []
  | e :: r => match partR ms e.1 e.2 with
    | none => none
    | some v => (partsR ms r).map (v :: ·)
def rowR (ms : List (Str × Int)) (ws : List Str) : Option (List V) := match formS (ws.headD "") with
  | none => none
  | some f => (partsR ms (f.cps.toList.zip ws.tail)).map fun vs => (ws.take 1).map V.str ++ vs
def rowsR (ms : List (Str × Int)) : List (List Str × Int) → Option (List (List V))
  | [] => some []
  | d :: r => match rowR ms d.1 with
    | none => none
    | some v => (rowsR ms r).map (v :: ·)
def codeR (s : Rdg) : Option (List (List V)) := if s.ds = [] then none else match rowsR s.ms s.ds with
  | none => none
  | some rs => if ((s.ds.length : Nat) : Int) ∈ s.ms.map (·.2) then none else some rs
def lineR (s : Option Rdg) (e : Str × Nat) : Option Rdg := s.bind fun s => if Tx.lineW e.1 = [] then some s else putR s (Tx.lineW e.1) ((e.2 : Nat) + 1)
def linesR (ls : List Str) : Option Rdg := ls.zipIdx.foldl lineR (some ⟨[], []⟩)
def readR (ls : List Str) : Option (List (List V)) := (linesR ls).bind codeR
theorem linesR_snoc (ls : List Str) (y : Str) : linesR (ls ++ [y]) = lineR (linesR ls) (y, ls.length) := by
  unfold linesR
  rw [List.zipIdx_append, List.foldl_append]
  simp
theorem linesR_none : ∀ (e : List (Str × Nat)), e.foldl lineR none = none
  | [] => rfl
  | _ :: r => linesR_none r
theorem linesR_pre {a b : List Str} (h : linesR (a ++ b) ≠ none) : linesR a ≠ none := by
  intro e
  apply h
  unfold linesR at *
  rw [List.zipIdx_append, List.foldl_append, e, linesR_none]
/-! dicts of texts to numbers -/
theorem valV_mS (ms : List (Str × Int)) (w : Str) : valV (mS ms) (.inr w) = (getS ms w).map V.int := by
  unfold valV getS mS
  induction ms with
  | nil => rfl
  | cons e r ih =>
    by_cases h : e.1 = w
    · simp [List.find?_cons, h]
    · simp [List.find?_cons, h]
      simpa using ih
theorem getS_in (ms : List (Str × Int)) (w : Str) : (getS ms w).isSome = decide (w ∈ keysS ms) := by
  unfold getS keysS
  rw [Option.isSome_map]
  by_cases h : w ∈ ms.map (·.1)
  · rw [decide_eq_true h, List.find?_isSome]
    obtain ⟨e, m, q⟩ := List.mem_map.mp h
    exact ⟨e, m, decide_eq_true q⟩
  · rw [decide_eq_false h]
    cases hf : ms.find? (fun e => decide (e.1 = w)) with
    | none => rfl
    | some e =>
      have h9 := List.find?_some hf
      exact absurd (List.mem_map.mpr ⟨e, List.mem_of_find?_eq_some hf, of_decide_eq_true h9⟩) h
theorem putK_mS {ms : List (Str × Int)} {w : Str} {n : Int} (h : w ∉ keysS ms) : putK (mS ms) (.inr w) (.int n) = mS (ms ++ [(w, n)]) := by
  unfold putK
  rw [if_neg fun z => by
    obtain ⟨e, m, q⟩ := List.any_eq_true.mp z
    obtain ⟨e2, m2, rfl⟩ := List.mem_map.mp m
    have := of_decide_eq_true q
    injection this with this
    exact h (List.mem_map.mpr ⟨e2, m2, this⟩)]
  unfold mS
  rw [List.map_append]
  rfl
theorem len_mS (ms : List (Str × Int)) : (mS ms).length = ms.length := List.length_map ..
theorem snd_mS (ms : List (Str × Int)) : (mS ms).map (·.2) = (ms.map (·.2)).map V.int := by
  unfold mS
  rw [List.map_map, List.map_map]
  rfl
theorem any_int (n : Int) (l : List Int) : l.any (· == n) = decide (n ∈ l) := by
  by_cases h : n ∈ l
  · rw [decide_eq_true h, List.any_eq_true]
    exact ⟨n, h, by simp⟩
  · rw [decide_eq_false h, List.any_eq_false]
    intro k hk e
    exact h (eq_of_beq e ▸ hk)
/-! ### the object -/
structure Dft where
  t : Addr
  wl : Addr
  ws : List Str
  ln : Int
def dftA (e : Dft) : SA := Hd [pto e.t (.tup [.ref e.wl, .int e.ln]), pto e.wl (.lst (e.ws.map V.str))]
theorem df_open {e : Dft} {L : List SA} {H : Hp} (h : Hd (dftA e :: L) H) : Hd (pto e.t (.tup [.ref e.wl, .int e.ln]) :: pto e.wl (.lst (e.ws.map V.str)) :: L) H := Hd.open (M := [_, _]) h
theorem df_close {e : Dft} {L : List SA} {H : Hp} (h : Hd (pto e.t (.tup [.ref e.wl, .int e.ln]) :: pto e.wl (.lst (e.ws.map V.str)) :: L) H) : Hd (dftA e :: L) H := Hd.close (M := [_, _]) h
def dsOf (Z : List Dft) : List (List Str × Int) := Z.map fun e => (e.ws, e.ln)
def rdgA (C p : Addr) (Z : List Dft) (ms : List (Str × Int)) : SA := fun H => ∃ dx dl dm, Hd [pto p (.ins C dx (fs_Reading (.ref dl) (.ref dm))), pto dl (.lst (Z.map fun e => V.ref e.t)), pto dm (.dK (mS ms)), big dftA Z] H
section
variable {C p dx dl dm : Addr} {Z : List Dft} {ms : List (Str × Int)} {L L' : List SA} {H : Hp}
theorem rd_open (h : Hd (rdgA C p Z ms :: L) H) : ∃ dx dl dm, Hd (pto p (.ins C dx (fs_Reading (.ref dl) (.ref dm))) :: pto dl (.lst (Z.map fun e => V.ref e.t)) :: pto dm (.dK (mS ms)) :: big dftA Z :: L) H := by
  obtain ⟨H1, H2, c, s1, s2, ⟨dx, dl, dm, p⟩, q⟩ := h
  exact ⟨dx, dl, dm, Hd.open (M := [_, _, _, _]) ⟨H1, H2, c, s1, s2, p, q⟩⟩
theorem rd_close (h : Hd (pto p (.ins C dx (fs_Reading (.ref dl) (.ref dm))) :: pto dl (.lst (Z.map fun e => V.ref e.t)) :: pto dm (.dK (mS ms)) :: big dftA Z :: L) H) : Hd (rdgA C p Z ms :: L) H :=
  (Hd.close (M := [_, _, _, _]) h).imp fun _ z => ⟨dx, dl, dm, z⟩
theorem rd_ins (h : Hd L H) (pl : Pull (rdgA C p Z ms) L L') : ∃ dx x y, H p = some (.ins C dx (fs_Reading x y)) := by
  obtain ⟨dx, dl, dm, z⟩ := rd_open (h.pull pl)
  exact ⟨dx, _, _, z.get .here⟩
theorem r_methRd {m : Str} {R : V → Hp → Prop} (h : Hd L H) (pl : Pull (rdgA C p Z ms) L L') (e : ∀ x y, (fs_Reading x y).lookup m = none) (q : R (.ref p) H) : MethK C m R (.ref p) H := by
  obtain ⟨dx, x, y, z⟩ := rd_ins h pl
  exact r_methK z (e _ _) q
end
/-- a tuple of rows as they are told -/
theorem tupsV (R : List Rw) (xs : List V) : rowsT xs R = tupsA xs (R.map rwV) := rfl

end
set_option hygiene false in
local macro_rules | `(tactic| walk_at "meth") => `(tactic| first | refine r_methRd hs (by walk_at "pull") (fun _ _ => by walk_at "look") ?_ | refine r_methPr hs (by walk_at "pull") (fun _ => by walk_at "look") ?_)
set_option hygiene false in
local macro_rules | `(tactic| walk_at "st") => `(tactic| first
  | with_reducible refine Tx.r_kget ?_
  | with_reducible refine Tx.r_inV ?_
  | ((with_reducible show Tx.rNeL0 _ _ _ _ _); refine Tx.r_neL0 (by walk_at "get") (by walk_at "get") ?_)
  | ((with_reducible show Tx.rEqL0 _ _ _ _); refine Tx.r_eqL0 (by walk_at "get") (by walk_at "get") ?_))

section
variable {P : Program} {w : World} {K : PySem.W.Frag} {mg : Str → Option Value} {base : Heap}

theorem sign_small {c : Nat} : decide (c ∈ ("abcdefghijklmnopqrstuvwxyz" : Str).cps.toList) = decide (c ∈ smallS) := rfl
theorem cps_at {w : Str} {i c : Nat} (h : w.cps[i]? = some c) : w.cps.toList[i]? = some c := by rw [Array.getElem?_toList]; exact h
theorem map_take {α : Type} {l : List Nat} {f : Nat → α} {i c : Nat} (h : l[i]? = some c) : (l.take (i + 1)).map f = (l.take i).map f ++ [f c] := by
  rw [List.take_add_one, h, List.map_append]
  rfl
theorem mapB_take {l : List Nat} {f : Nat → Bool} {i c : Nat} (h : l[i]? = some c) : ((l.take (i + 1)).map f).map V.bl = ((l.take i).map f).map V.bl ++ [V.bl (f c)] := by
  rw [map_take h, List.map_append]
  rfl
theorem take_all {w : Str} : w.cps.toList.take w.cps.size = w.cps.toList := List.take_of_length_le (by rw [Array.length_toList]; exact Nat.le_refl _)
/-- all signs of a text are in another -/
theorem len_take {w : Str} {i : Nat} {α : Type} {f : Nat → α} : ((w.cps.toList.take i).map f).length ≤ i := by
  rw [List.length_map]
  exact List.length_take_le ..

def sp_is_label (T : Txt K mg) : Sp := fun vs H Q _ => ∃ (w1 : Str) (L : List SA), vs = [.str w1] ∧ w1.length ≤ 90000 ∧ Hd L H ∧ ∀ H', Hd L H' → Q (.bl (okLab w1)) H'
theorem ok_is_label (T : Txt K mg) : FnOk P w K mg base CX0 1 T.a_is_label T.d_is_label ["word"] (sp_is_label T) := by
  refine T.f_is_label.ok sc_is_label (fun vs H Q E h => ?_) (fun cdv A outer s H vs Q E hr h => ?_)
  · obtain ⟨w1, L, rfl, _⟩ := h
    rfl
  · obtain ⟨w1, L, rfl, h⟩ := h
    refine ⟨_, (pss_one (ps_ret (pe_and (pe_chain op_le op_le pe_int (pe_callB (k_len (K := K) rfl) (by rfl) T.n_len (by decide +kernel) (pa_cons (pv 0) pa_nil)) (pe_glob (v := .int 8) (by rfl) T.g_MOST_SIGNS.choose_spec ⟨_, rfl⟩)) (pe_one (pe_callB (k_all (K := K) rfl rfl) (by rfl) T.n_all (by decide +kernel) (pa_cons (pe_lc (own := [("sign", 1)]) rfl sc_is_label.nd (pi_str (pv 0)) (blkOk_by (N := ["word", "sign"]) (sc := defScope s_is_label) (by decide +kernel)) (fun _ _ _ _ _ => (pg_name (i := 1) sc_is_label.nd rfl (by first | exact Or.inl rfl | exact Or.inr rfl))) (fun s_0 H_0 C_0 cl_0 fp_0 => pts_nil) (fun s_0 H_0 C_0 cl_0 fp_0 => (pe_cmpR Tx.u_inS (pv 1) (pe_glob (v := .str "abcdefghijklmnopqrstuvwxyz") (by rfl) T.g_SMALL.choose_spec ⟨_, rfl⟩) (by rfl)))) pa_nil)))))), ?_⟩
    try dsimp only [cxOf]
    obtain ⟨wl, hs, q⟩ := h
    unfold okLab at q
    walk_at "run"
    refine Sl.r_lenS (Sl.sz (by omega)) ?_
    walk_at "run"
    by_cases h1 : 1 ≤ w1.length
    · rw [decide_eq_true (show (1 : Int) ≤ ((w1.length : Nat) : Int) by omega)]
      rw [decide_eq_true h1] at q
      walk_at "run"
      by_cases h2 : w1.length ≤ 8
      · rw [decide_eq_true (show ((w1.length : Nat) : Int) ≤ 8 by omega)]
        rw [decide_eq_true h2] at q
        walk_at "run"
        refine Tx.r_lcS (fun D i H => Hd (pto D (.lst (((w1.cps.toList.take i).map fun c => decide (c ∈ smallS)).map V.bl)) :: L) H) hs (fun D H hs => (by show Hd (pto D (.lst []) :: L) H; exact hs)) ?_ ?_
        · clear hs
          rintro D i c H hc hs
          have hl := len_take (w := w1) (i := i) (f := fun c => decide (c ∈ smallS))
          have hi := (Array.getElem?_eq_some_iff.mp hc).1
          have hl2 : (w1.cps.toList.take i).length ≤ i := List.length_take_le ..
          have hz : w1.cps.size = w1.length := rfl
          rw [mapB_take (cps_at hc)]
          walk_at "run"
          walk_at "rest"
        clear hs
        rintro D H hs
        rw [take_all] at hs
        walk_at "run"
        refine Sl.r_all (hs.sq (a := D) (by walk_at "pull")) ?_
        exact q _ hs.tl
      · rw [decide_eq_false (show ¬ ((w1.length : Nat) : Int) ≤ 8 by omega)]
        rw [decide_eq_false h2] at q
        walk_at "run"
        exact q _ hs
    · rw [decide_eq_false (show ¬ (1 : Int) ≤ ((w1.length : Nat) : Int) by omega)]
      rw [decide_eq_false h1] at q
      walk_at "run"
      exact q _ hs

theorem fig_digits {w : Str} (h : (w.cps.toList.map fun c => decide (c ∈ figS)).all id = true) : NumText.AllDigits w.cps.toList := by
  intro c hc
  have := List.all_eq_true.mp h (decide (c ∈ figS)) (List.mem_map.mpr ⟨c, hc, rfl⟩)
  have m := of_decide_eq_true (show decide (c ∈ figS) = true from this)
  have z : ∀ c ∈ figS, 48 ≤ c ∧ c ≤ 57 := by decide +kernel
  exact z c m
theorem one_zero : (⟨#[48]⟩ : Str) = "0" := by kernel_rfl
def nV : Option Int → V
  | some n => .int n
  | none => .non

def sp_number_in (T : Txt K mg) : Sp := fun vs H Q _ => ∃ (w1 : Str) (L : List SA), vs = [.str w1] ∧ w1.length ≤ 90000 ∧ Hd L H ∧ ∀ H', Hd L H' → Q (nV (numIn w1)) H'
theorem ok_number_in (T : Txt K mg) : FnOk P w K mg base CX0 4 T.a_number_in T.d_number_in ["word"] (sp_number_in T) := by
  refine T.f_number_in.ok sc_number_in (fun vs H Q E h => ?_) (fun cdv A outer s H vs Q E hr h => ?_)
  · obtain ⟨w1, L, rfl, _⟩ := h
    rfl
  · obtain ⟨w1, L, rfl, h⟩ := h
    refine ⟨_, (pss_cons (ps_if (PW.pt (pw_or (pt_not (pt_chain op_le op_le pe_int (pe_callB (k_len (K := K) rfl) (by rfl) T.n_len (by decide +kernel) (pa_cons (pv 0) pa_nil)) (pe_glob (v := .int 5) (by rfl) T.g_MOST_FIGURES.choose_spec ⟨_, rfl⟩))) (pw_or1 (pt_not (pt_val (pe_callB (k_all (K := K) rfl rfl) (by rfl) T.n_all (by decide +kernel) (pa_cons (pe_lc (own := [("sign", 1)]) rfl sc_number_in.nd (pi_str (pv 0)) (blkOk_by (N := ["word", "sign"]) (sc := defScope s_number_in) (by decide +kernel)) (fun _ _ _ _ _ => (pg_name (i := 1) sc_number_in.nd rfl (by first | exact Or.inl rfl | exact Or.inr rfl))) (fun s_0 H_0 C_0 cl_0 fp_0 => pts_nil) (fun s_0 H_0 C_0 cl_0 fp_0 => (pe_cmpR Tx.u_inS (pv 1) (pe_glob (v := .str "0123456789") (by rfl) T.g_FIGURES.choose_spec ⟨_, rfl⟩) (by rfl)))) pa_nil)))))))
        (pss_one (ps_ret pe_non))
        pss_nil)
       (pss_cons (ps_if (PW.pt (pw_and (pt_cmpR (k_eq (K := K) rfl hr.units) (pe_ix (k_ix (K := K) rfl (hu_of hr)) (pv 0) pe_int (fun _ _ => rfl)) pe_str (nomark _)) (pw_and1 (pt_cmpR (k_ne (K := K) rfl hr.units) (pv 0) pe_str (nomark _)))))
        (pss_one (ps_ret pe_non))
        pss_nil)
       (pss_one (ps_ret (pe_ifExp (pt_val (pe_call (ok_is_word T) hr (by rfl) T.g_is_word T.f_is_word.kp T.b_is_word .nil pass0 (pa_cons (pe_callTy Tx.u_intS (by rfl) T.n_int (by decide +kernel) (pa_cons (pv 0) pa_nil)) pa_nil))) (pe_callTy Tx.u_intS (by rfl) T.n_int (by decide +kernel) (pa_cons (pv 0) pa_nil)) pe_non))))), ?_⟩
    try dsimp only [cxOf]
    obtain ⟨wl, hs, q⟩ := h
    unfold numIn at q
    walk_at "runI"
    refine Sl.r_ifT (fun H2 => ¬ ((decide (1 ≤ w1.length) && decide (w1.length ≤ 5)) && (w1.cps.toList.map fun c => decide (c ∈ figS)).all id) = true ∧ Hd L H2) (fun H2 => ((decide (1 ≤ w1.length) && decide (w1.length ≤ 5)) && (w1.cps.toList.map fun c => decide (c ∈ figS)).all id) = true ∧ Hd L H2) (fun QT ht hf => ?_) ?_ ?_
    · walk_at "run"
      refine Sl.r_lenS (Sl.sz (by omega)) ?_
      walk_at "run"
      by_cases h1 : 1 ≤ w1.length
      · rw [decide_eq_true h1] at ht hf
        rw [decide_eq_true (show (1 : Int) ≤ ((w1.length : Nat) : Int) by omega)]
        walk_at "run"
        by_cases h2 : w1.length ≤ 5
        · rw [decide_eq_true (show ((w1.length : Nat) : Int) ≤ 5 by omega)]
          rw [decide_eq_true h2] at ht hf
          walk_at "run"
          refine Tx.r_lcS (fun D i H => Hd (pto D (.lst (((w1.cps.toList.take i).map fun c => decide (c ∈ figS)).map V.bl)) :: L) H) hs (fun D H hs => (by show Hd (pto D (.lst []) :: L) H; exact hs)) ?_ ?_
          · clear hs
            rintro D i c H hc hs
            have hl := len_take (w := w1) (i := i) (f := fun c => decide (c ∈ figS))
            have hi := (Array.getElem?_eq_some_iff.mp hc).1
            have hl2 : (w1.cps.toList.take i).length ≤ i := List.length_take_le ..
            have hz : w1.cps.size = w1.length := rfl
            rw [mapB_take (cps_at hc)]
            walk_at "run"
            walk_at "rest"
          clear hs
          rintro D H hs
          rw [take_all] at hs
          walk_at "run"
          refine Sl.r_all (hs.sq (a := D) (by walk_at "pull")) ?_
          walk_at "run"
          cases hb : (w1.cps.toList.map fun c => decide (c ∈ figS)).all id with
          | true => rw [hb] at hf; exact hf _ ⟨rfl, hs.tl⟩
          | false => rw [hb] at ht; exact ht _ ⟨Bool.false_ne_true, hs.tl⟩
        · rw [decide_eq_false (show ¬ ((w1.length : Nat) : Int) ≤ 5 by omega)]
          rw [decide_eq_false h2] at ht
          walk_at "run"
          exact ht _ ⟨Bool.false_ne_true, hs⟩
      · rw [decide_eq_false (show ¬ (1 : Int) ≤ ((w1.length : Nat) : Int) by omega)]
        rw [decide_eq_false h1] at ht
        walk_at "run"
        exact ht _ ⟨Bool.false_ne_true, hs⟩
    · clear hs
      rintro H ⟨hc, hs⟩
      rw [if_neg hc] at q
      walk_at "run"
      exact q _ hs
    clear hs
    rintro H ⟨hc, hs⟩
    rw [if_pos hc] at q
    rw [Bool.and_eq_true, Bool.and_eq_true] at hc
    have l1 := of_decide_eq_true hc.1.1
    have l5 := of_decide_eq_true hc.1.2
    have dg := fig_digits hc.2
    have hz : w1.cps.toList.length = w1.length := Array.length_toList
    have ne : w1.cps.toList ≠ [] := fun e => by rw [e] at hz; exact absurd hz (by simp; omega)
    have it := intText_digits dg ne (by omega)
    obtain ⟨c0, hc0⟩ : ∃ c, w1.cps.toList.head? = some c := ⟨_, List.head?_eq_some_head ne⟩
    walk_at "runI"
    refine Sl.r_ifT (fun H2 => (w1.cps.toList.head? = some 48 ∧ w1 ≠ "0") ∧ Hd L H2) (fun H2 => ¬ (w1.cps.toList.head? = some 48 ∧ w1 ≠ "0") ∧ Hd L H2) (fun QT ht hf => ?_) ?_ ?_
    · walk_at "run"
      refine Tx.r_ixS0 (Sl.sz (by omega)) hc0 ?_
      walk_at "run"
      by_cases h0 : c0 = 48
      · subst h0
        rw [decide_eq_true one_zero]
        walk_at "run"
        by_cases h3 : w1 = "0"
        · rw [decide_eq_true h3]
          exact hf _ ⟨fun z => z.2 h3, hs⟩
        · rw [decide_eq_false h3]
          exact ht _ ⟨⟨hc0, h3⟩, hs⟩
      · rw [decide_eq_false fun z => h0 (one_inj (z.trans one_zero.symm))]
        walk_at "run"
        exact hf _ ⟨fun z => h0 (by rw [hc0] at z; exact Option.some.inj z.1), hs⟩
    · clear hs
      rintro H ⟨hc, hs⟩
      rw [if_pos hc] at q
      walk_at "run"
      exact q _ hs
    clear hs
    rintro H ⟨hc, hs⟩
    rw [if_neg hc] at q
    walk_at "run"
    refine Tx.r_intS it (by omega) ?_
    walk_at "run"
    refine ⟨.int _, rfl, .int _, ?_⟩
    by_cases h4 : NumText.digitsVal w1.cps.toList ≤ 65535
    · rw [if_pos h4] at q
      rw [amg_of ⟨by omega, by omega⟩]
      walk_at "run"
      refine Tx.r_intS it (by omega) ?_
      exact q _ hs
    · rw [if_neg h4] at q
      have no : amg (.int ((NumText.digitsVal w1.cps.toList : Nat) : Int)) 0 65535 = false := by
        show (decide ((0 : Int) ≤ ((NumText.digitsVal w1.cps.toList : Nat) : Int)) && decide (((NumText.digitsVal w1.cps.toList : Nat) : Int) ≤ 65535)) = false
        rw [decide_eq_false (show ¬ ((NumText.digitsVal w1.cps.toList : Nat) : Int) ≤ 65535 by omega), Bool.and_false]
      rw [no]
      walk_at "run"
      exact q _ hs
def sp_is_written (T : Txt K mg) : Sp := fun vs H Q _ => ∃ (c : Nat) (w1 : Str) (L : List SA), vs = [.str ⟨#[c]⟩, .str w1] ∧ ((c = 114 ∨ c = 110 ∨ c = 116) ∧ w1.length ≤ 90000) ∧ Hd L H ∧ ∀ H', Hd L H' → Q (.bl (isWr c w1)) H'
theorem ok_is_written (T : Txt K mg) : FnOk P w K mg base CX0 5 T.a_is_written T.d_is_written ["form", "word"] (sp_is_written T) := by
  refine T.f_is_written.ok sc_is_written (fun vs H Q E h => ?_) (fun cdv A outer s H vs Q E hr h => ?_)
  · obtain ⟨c, w1, L, rfl, _⟩ := h
    rfl
  · obtain ⟨c, w1, L, rfl, h⟩ := h
    refine ⟨_, (pss_cons (ps_if (pt_cmpR (k_eq (K := K) rfl hr.units) (pv 0) pe_str (nomark _))
        (pss_one (ps_ret (pe_call (ok_is_register T) (hr.mono (by decide)) (by rfl) T.g_is_register T.f_is_register.kp T.b_is_register .nil pass0 (pa_cons (pv 1) pa_nil))))
        pss_nil)
       (pss_cons (ps_if (pt_cmpR (k_eq (K := K) rfl hr.units) (pv 0) pe_str (nomark _))
        (pss_one (ps_ret (pe_cmpR u_notN (pe_call (ok_number_in T) hr (by rfl) T.g_number_in T.f_number_in.kp T.b_number_in .nil pass0 (pa_cons (pv 1) pa_nil)) pe_non (nomark _))))
        pss_nil)
       (pss_one (ps_ret (pe_call (ok_is_label T) (hr.mono (by decide)) (by rfl) T.g_is_label T.f_is_label.kp T.b_is_label .nil pass0 (pa_cons (pv 1) pa_nil)))))), ?_⟩
    try dsimp only [cxOf]
    obtain ⟨⟨hc, wl⟩, hs, q⟩ := h
    walk_at "run"
    rcases hc with rfl | rfl | rfl
    · rw [decide_eq_true one_r]
      walk_at "run"
      exact ⟨w1, rfl, wl, q _ hs⟩
    · rw [decide_eq_false st_nr]
      walk_at "run"
      rw [decide_eq_true one_n]
      walk_at "run"
      refine ⟨w1, _, rfl, wl, hs, fun H hs => ?_⟩
      walk_at "run"
      have e : (!decide (nV (numIn w1) = V.non)) = isWr 110 w1 := by
        show _ = (numIn w1).isSome
        cases numIn w1 <;> rfl
      rw [e]
      exact q _ hs
    · rw [decide_eq_false st_tr]
      walk_at "run"
      rw [decide_eq_false st_tn]
      walk_at "run"
      exact ⟨w1, _, rfl, wl, hs, q⟩
end
section
variable {P : Program} {w : World} {K : PySem.W.Frag} {mg : Str → Option Value} {base : Heap}

theorem formS_in {w f : Str} (h : formS w = some f) : (w, f) ∈ formsK := by
  unfold formS at h
  obtain ⟨e, h1, h2⟩ := Option.map_eq_some_iff.mp h
  have h9 := List.find?_some h1
  have e1 := of_decide_eq_true h9
  subst e1 h2
  exact List.mem_of_find?_eq_some h1
theorem formS_none {w : Str} (h : formS w = none) : w ∉ formsK.map (·.1) := by
  unfold formS at h
  intro m
  obtain ⟨e, me, q⟩ := List.mem_map.mp m
  exact absurd (decide_eq_true q) (List.find?_eq_none.mp (Option.map_eq_none_iff.mp h) e me)
theorem kget_Y {K : PySem.W.Frag} {mg : Str → Option Value} (T : Txt K mg) {w f : Str} (h : (w, f) ∈ formsK) : ∃ t, PySem.W.nsIn K T.a_FORMS w = some (some (.str f t)) := by
  simp only [formsK, List.mem_cons, List.not_mem_nil, or_false, Prod.mk.injEq] at h
  rcases h with ⟨rfl, rfl⟩ | ⟨rfl, rfl⟩ | ⟨rfl, rfl⟩ | ⟨rfl, rfl⟩ | ⟨rfl, rfl⟩ | ⟨rfl, rfl⟩ | ⟨rfl, rfl⟩ | ⟨rfl, rfl⟩ | ⟨rfl, rfl⟩ | ⟨rfl, rfl⟩ | ⟨rfl, rfl⟩ | ⟨rfl, rfl⟩ | ⟨rfl, rfl⟩ | ⟨rfl, rfl⟩ | ⟨rfl, rfl⟩
  · exact T.ni_FORMS_0
  · exact T.ni_FORMS_7
  · exact T.ni_FORMS_8
  · exact T.ni_FORMS_9
  · exact T.ni_FORMS_10
  · exact T.ni_FORMS_11
  · exact T.ni_FORMS_12
  · exact T.ni_FORMS_13
  · exact T.ni_FORMS_14
  · exact T.ni_FORMS_1
  · exact T.ni_FORMS_2
  · exact T.ni_FORMS_3
  · exact T.ni_FORMS_4
  · exact T.ni_FORMS_5
  · exact T.ni_FORMS_6
theorem kget_N {K : PySem.W.Frag} {mg : Str → Option Value} (T : Txt K mg) {w : Str} (h : w ∉ formsK.map (·.1)) : PySem.W.nsIn K T.a_FORMS w = some none := by
  refine T.no_FORMS w fun m => h ?_
  have : ∀ z ∈ (["set", "copy", "add", "less", "times", "parts", "rest", "load", "keep", "go", "if", "below", "into", "by", "ask"] : List Str), z ∈ formsK.map (·.1) := by decide +kernel
  exact this w m

def sp_Reading_init (T : Txt K mg) : Sp := fun vs H Q _ => ∃ (p dx : Addr) (L : List SA), vs = [.ref p] ∧ Hd (pto p (.ins T.C_Reading dx []) :: L) H ∧ ∀ H', Hd (rdgA T.C_Reading p [] [] :: L) H' → Q .non H'
theorem ok_Reading_init (T : Txt K mg) : FnOk P w K mg base CX0 1 T.a_Reading_init T.d_Reading_init ["self"] (sp_Reading_init T) := by
  refine T.f_Reading_init.ok sc_Reading_init (fun vs H Q E h => ?_) (fun cdv A outer s H vs Q E hr h => ?_)
  · obtain ⟨p, dx, L, rfl, _⟩ := h
    rfl
  · obtain ⟨p, dx, L, rfl, h⟩ := h
    refine ⟨_, (pss_cons (ps_fld (pv 0) (pe_lst pa_nil) rfl)
       (pss_one (ps_fld (pv 0) pe_dnewK rfl))), ?_⟩
    try dsimp only [cxOf]
    obtain ⟨hs, q⟩ := h
    walk_at "run"
    have hs := big_nil (F := dftA) hs
    exact q _ (rd_close (Z := []) (ms := []) (by show Hd (pto p _ :: pto _ (.lst []) :: pto _ (.dK []) :: big dftA [] :: L) _; exact Hd.mt (by walk_at "mt") hs))
def sp_Reading_put (T : Txt K mg) : Sp := fun vs H Q _ => ∃ (p wl : Addr) (Z : List Dft) (ms : List (Str × Int)) (ws : List Str) (ln : Int) (s1 : Rdg) (L : List SA), vs = [.ref p, .ref wl, .int ln] ∧ (putR ⟨dsOf Z, ms⟩ ws ln = some s1 ∧ ws ≠ [] ∧ ms.length ≤ 90000 ∧ Z.length ≤ 200 ∧ ws.length ≤ 90000 ∧ ∀ w ∈ ws, w.length ≤ 90000) ∧ Hd (rdgA T.C_Reading p Z ms :: pto wl (.lst (ws.map V.str)) :: L) H ∧ ∀ Z1 H', dsOf Z1 = s1.ds → Hd (rdgA T.C_Reading p Z1 s1.ms :: L) H' → Q .non H'
theorem ok_Reading_put (T : Txt K mg) (FW : T.wP = w.params) : FnOk P w K mg base CX0 6 T.a_Reading_put T.d_Reading_put ["self", "words", "line"] (sp_Reading_put T) := by
  refine T.f_Reading_put.ok sc_Reading_put (fun vs H Q E h => ?_) (fun cdv A outer s H vs Q E hr h => ?_)
  · obtain ⟨p, wl, Z, ms, ws, ln, s1, L, rfl, _⟩ := h
    rfl
  · obtain ⟨p, wl, Z, ms, ws, ln, s1, L, rfl, h⟩ := h
    refine ⟨_, (pss_cons (ps_if (PW.pt (pw_and (pt_cmpR (k_eq (K := K) rfl hr.units) (pe_callB (k_len (K := K) rfl) (by rfl) T.n_len (by decide +kernel) (pa_cons (pv 1) pa_nil)) pe_int (nomark _)) (pw_and1 (pt_val (k_bm (K := K) rfl (pe_bm PySem.F.plainAttrs_str PySem.F.slot_str_endswith PySem.F.type_str_endswith Tx.k_mtEnds (pe_ix (k_ix (K := K) rfl (hu_of hr)) (pv 1) pe_int (fun _ _ => rfl)) (pa_cons pe_str pa_nil)))))))
        (pss_cons (ps_set (i := 3) sc_Reading_put.nd rfl (by first | exact Or.inl rfl | exact Or.inr rfl) (pe_slice sl_str (pe_ix (k_ix (K := K) rfl (hu_of hr)) (pv 1) pe_int (fun _ _ => rfl)) po_none (po_some (pe_un un_neg pe_int))))
       (pss_cons (ps_if (PW.pt (pw_or (pt_not (pt_val (pe_call (ok_is_label T) (hr.mono (by decide)) (by rfl) T.g_is_label T.f_is_label.kp T.b_is_label .nil pass0 (pa_cons (pv 3) pa_nil)))) (pw_or1 (pt_cmpR (k_in (K := K) rfl (hu_of hr)) (pv 3) (k_fld (K := K) rfl (pv 0) rfl) (by rfl)))))
        (pss_one ps_never)
        pss_nil)
       (pss_cons (ps_asg (pe_callB (k_len (K := K) rfl) (by rfl) T.n_len (by decide +kernel) (pa_cons (k_fld (K := K) rfl (pv 0) rfl) pa_nil)) (pg_sub (k_fld (K := K) rfl (pv 0) rfl) (pv 3) (u_set (hu_of hr))))
       (pss_one ps_retN))))
        pss_nil)
       (pss_cons (ps_set (i := 4) sc_Reading_put.nd rfl (by first | exact Or.inl rfl | exact Or.inr rfl) (Tx.pe_kget (T.kd_FORMS) FW rfl rfl (pe_glob (v := .ref T.a_FORMS) (by rfl) T.g_FORMS rfl) (pe_ix (k_ix (K := K) rfl (hu_of hr)) (pv 1) pe_int (fun _ _ => rfl)) pe_non ⟨by rfl, by rfl, by rfl, by rfl⟩))
       (pss_cons (ps_if (PW.pt (pw_or (pt_cmpR u_isN (pv 4) pe_non (nomark _)) (pw_or (pt_cmpR (k_ne (K := K) rfl hr.units) (pe_callB (k_len (K := K) rfl) (by rfl) T.n_len (by decide +kernel) (pa_cons (pv 1) pa_nil)) (pe_op (k_add (K := K) rfl) pe_int (pe_callB (k_len (K := K) rfl) (by rfl) T.n_len (by decide +kernel) (pa_cons (pv 4) pa_nil))) (nomark _)) (pw_or1 (pt_cmpR (k_eq (K := K) rfl hr.units) (pe_callB (k_len (K := K) rfl) (by rfl) T.n_len (by decide +kernel) (pa_cons (k_fld (K := K) rfl (pv 0) rfl) pa_nil)) (pe_glob (v := .int 200) (by rfl) T.g_MOST_ROWS.choose_spec ⟨_, rfl⟩) (nomark _))))))
        (pss_one ps_never)
        pss_nil)
       (pss_cons (ps_if (pt_not (pt_val (pe_callB (k_all (K := K) rfl rfl) (by rfl) T.n_all (by decide +kernel) (pa_cons (pe_lc (own := [("sign", 5), ("word", 6)]) rfl sc_Reading_put.nd (Zs.pi_zipS false (by rfl) T.n_zip (pa_cons (pv 4) (pa_cons (pe_slice (k_slL (K := K) rfl) (pv 1) (po_some pe_int) po_none) pa_nil))) (blkOk_by (N := ["self", "words", "line", "name", "form", "sign", "word"]) (sc := defScope s_Reading_put) (by decide +kernel)) (fun _ _ _ _ _ => (k_gTup (K := K) (n := 2) rfl (pg_tup (n := 2) (by rfl) (pgs_cons (pg_name (i := 5) sc_Reading_put.nd rfl (by first | exact Or.inl rfl | exact Or.inr rfl)) (pgs_cons (pg_name (i := 6) sc_Reading_put.nd rfl (by first | exact Or.inl rfl | exact Or.inr rfl)) pgs_nil))))) (fun s_0 H_0 C_0 cl_0 fp_0 => pts_nil) (fun s_0 H_0 C_0 cl_0 fp_0 => (pe_call (ok_is_written T) hr (by rfl) T.g_is_written T.f_is_written.kp T.b_is_written .nil pass0 (pa_cons (pv 5) (pa_cons (pv 6) pa_nil))))) pa_nil))))
        (pss_one ps_never)
        pss_nil)
       (pss_one (ps_expr (k_bm (K := K) rfl (pe_bm PySem.F.plainAttrs_list PySem.F.slot_list_append PySem.F.type_list_append mt_append (k_fld (K := K) rfl (pv 0) rfl) (pa_cons (pe_tup (pa_cons (pv 1) (pa_cons (pv 2) pa_nil))) pa_nil))))))))), ?_⟩
    try dsimp only [cxOf]
    obtain ⟨⟨hp, ne, lm, lz, lw, wl8⟩, hs, q⟩ := h
    obtain ⟨w0, wr, rfl⟩ := List.exists_cons_of_ne_nil ne
    obtain ⟨dx, dl, dm, hs⟩ := rd_open hs
    have w0l := wl8 w0 (List.mem_cons_self ..)
    have ldz : (dsOf Z).length = Z.length := List.length_map ..
    have lwm : ((w0 :: wr).map V.str).length = wr.length + 1 := by rw [List.length_map]; rfl
    have lzm : (Z.map fun e => V.ref e.t).length = Z.length := List.length_map ..
    rw [List.length_cons] at lw
    unfold putR at hp
    walk_at "runI"
    refine Sl.r_ifT (fun H2 => isLabW (w0 :: wr) = true ∧ Hd (pto p (.ins T.C_Reading dx (fs_Reading (.ref dl) (.ref dm))) :: pto dl (.lst (Z.map fun e => V.ref e.t)) :: pto dm (.dK (mS ms)) :: big dftA Z :: pto wl (.lst ((w0 :: wr).map V.str)) :: L) H2) (fun H2 => ¬ isLabW (w0 :: wr) = true ∧ Hd (pto p (.ins T.C_Reading dx (fs_Reading (.ref dl) (.ref dm))) :: pto dl (.lst (Z.map fun e => V.ref e.t)) :: pto dm (.dK (mS ms)) :: big dftA Z :: pto wl (.lst ((w0 :: wr).map V.str)) :: L) H2) (fun QT ht hf => ?_) ?_ ?_
    · walk_at "run"
      rw [lwm]
      unfold isLabW at ht hf
      rw [List.length_cons] at ht hf
      by_cases h1 : wr.length + 1 = 1
      · rw [decide_eq_true (show ((wr.length + 1 : Nat) : Int) = 1 by omega)]
        rw [decide_eq_true h1] at ht hf
        walk_at "run"
        cases hb : Txt.endswith w0 ":" with
        | true => exact ht _ ⟨by rw [List.headD_cons, hb]; rfl, hs⟩
        | false => exact hf _ ⟨by rw [List.headD_cons, hb]; exact Bool.false_ne_true, hs⟩
      · rw [decide_eq_false (show ¬ ((wr.length + 1 : Nat) : Int) = 1 by omega)]
        rw [decide_eq_false h1] at hf
        walk_at "run"
        exact hf _ ⟨Bool.false_ne_true, hs⟩
    · clear hs
      rintro H ⟨hb, hs⟩
      rw [if_pos hb] at hp
      have hc : okLab (nameOf (w0 :: wr)) = true ∧ nameOf (w0 :: wr) ∉ keysS ms := by
        refine Decidable.byContradiction fun z => ?_
        rw [if_neg z] at hp
        cases hp
      rw [if_pos hc] at hp
      cases hp
      have hn : nameOf (w0 :: wr) = cutS w0 none (some (-1)) := rfl
      have ln2 : (cutS w0 none (some (-1))).length ≤ 90000 := Nat.le_trans (cutS_length ..) w0l
      walk_at "run"
      refine Tx.r_slS (Sl.sz (by omega)) ?_
      walk_at "run"
      refine ⟨_, _, rfl, ln2, hs, fun H hs => ?_⟩
      rw [← hn, hc.1]
      walk_at "run"
      rw [valV_mS, Option.isSome_map, getS_in, decide_eq_false hc.2]
      walk_at "run"
      refine Sl.r_setDs hs (by walk_at "put") (putK_mS hc.2) (Sl.szlt (by rw [len_mS]; omega)) fun H hs => ?_
      walk_at "run"
      rw [lzm, ← ldz] at hs
      exact q Z _ rfl (rd_close (Hd.mt (by walk_at "mt") hs))
    clear hs
    rintro H ⟨hb, hs⟩
    rw [if_neg hb] at hp
    cases ef : formS ((w0 :: wr).headD "") with
    | none => rw [ef] at hp; cases hp
    | some f =>
      rw [ef] at hp
      have mf := formS_in ef
      obtain ⟨fs, fg⟩ : f.cps.size ≤ 3 ∧ ∀ (i c : Nat), f.cps[i]? = some c → c = 114 ∨ c = 110 ∨ c = 116 := form_signs _ mf
      have fl : f.length = f.cps.size := rfl
      have hc : ((w0 :: wr).length = 1 + f.length ∧ (dsOf Z).length ≠ 200) ∧ ((f.cps.toList.zip (w0 :: wr).tail).map fun e => isWr e.1 e.2).all id = true := by
        refine Decidable.byContradiction fun z => ?_
        dsimp only at hp
        rw [if_neg z] at hp
        cases hp
      dsimp only at hp
      rw [if_pos hc] at hp
      cases hp
      obtain ⟨⟨c1, c2⟩, c3⟩ := hc
      rw [List.length_cons] at c1
      walk_at "run"
      refine Tx.r_kgetY (kget_Y T mf) ?_
      walk_at "run"
      rw [decide_eq_false (show ¬ (V.str f = V.non) from fun z => nomatch z)]
      walk_at "run"
      rw [lwm]
      refine Sl.r_lenS (Sl.sz (by omega)) ?_
      walk_at "run"
      rw [decide_eq_true (show ((wr.length + 1 : Nat) : Int) = 1 + ((f.length : Nat) : Int) by omega)]
      walk_at "run"
      rw [lzm, decide_eq_false (show ¬ ((Z.length : Nat) : Int) = 200 by omega)]
      walk_at "run"
      have asc : f.cps.all (· < 128) = true := by
        have : ∀ e ∈ formsK, e.2.cps.all (· < 128) = true := by decide +kernel
        exact this _ mf
      rw [show cutV ((w0 :: wr).map V.str) (some 1) none = wr.map V.str from (Sl.cut_lo (fun z : Str => V.str z) (w0 :: wr) 1).trans (by rw [List.drop_succ_cons, List.drop_zero])] at hs
      obtain ⟨sl, es⟩ : ∃ F, F = q_ := ⟨_, rfl⟩
      rw [← es] at hs ⊢
      refine Sl.r_zipSL asc (hs.sq (a := sl) (by walk_at "pull")) ?_
      have lwr : (wr.map V.str).length = wr.length := List.length_map ..
      refine Sl.r_lcZs (n := f.cps.size) (ys := wr.map V.str) (by rw [lwr]; omega) (fun D i H => Hd (pto D (.lst ((((f.cps.toList.zip wr).take i).map fun e => isWr e.1 e.2).map V.bl)) :: pto sl (.lst (wr.map V.str)) :: pto p (.ins T.C_Reading dx (fs_Reading (.ref dl) (.ref dm))) :: pto dl (.lst (Z.map fun e => V.ref e.t)) :: pto dm (.dK (mS ms)) :: big dftA Z :: pto wl (.lst ((w0 :: wr).map V.str)) :: L) H) hs (fun D H hs => (by show Hd (pto D (.lst []) :: _) _; exact hs)) (fun D i H _ hs => hs.sq (a := sl) (by walk_at "pull")) ?_ ?_
      · clear hs
        rintro D i c y TT H hc hy hs hT
        have hs := hs.new (o := .tup [.str ⟨#[c]⟩, y]) hT
        rw [List.getElem?_map] at hy
        obtain ⟨w1, hw1, rfl⟩ := Option.map_eq_some_iff.mp hy
        have hi := (Array.getElem?_eq_some_iff.mp hc).1
        have hl2 : ((f.cps.toList.zip wr).take i).length ≤ i := List.length_take_le ..
        have hzip : (f.cps.toList.zip wr)[i]? = some (c, w1) := by rw [List.getElem?_zip_eq_some]; exact ⟨cps_at hc, hw1⟩
        rw [show (((f.cps.toList.zip wr).take (i + 1)).map fun e => isWr e.1 e.2).map V.bl = (((f.cps.toList.zip wr).take i).map fun e => isWr e.1 e.2).map V.bl ++ [V.bl (isWr c w1)] from by
          rw [take_snoc hzip, List.map_append, List.map_append]; rfl]
        walk_at "run"
        refine ⟨c, w1, _, rfl, ⟨fg i c hc, wl8 w1 (List.mem_cons_of_mem _ (List.mem_of_getElem? hw1))⟩, hs, fun H hs => ?_⟩
        walk_at "run"
        walk_at "rest"
      clear hs
      rintro D H hs
      rw [List.take_of_length_le (show (f.cps.toList.zip wr).length ≤ f.cps.size by rw [List.length_zip, Array.length_toList]; omega)] at hs
      walk_at "run"
      refine Sl.r_all (hs.sq (a := D) (by walk_at "pull")) ?_
      rw [show ((f.cps.toList.zip wr).map fun e => isWr e.1 e.2).all id = true from c3]
      walk_at "run"
      rename_i tt _ _
      have hs := big_snoc (df_close (e := ⟨q_, wl, w0 :: wr, ln⟩) (Hd.mt (by walk_at "mt") hs : Hd (pto q_ (.tup [.ref wl, .int ln]) :: pto wl (.lst ((w0 :: wr).map V.str)) :: big dftA Z :: pto p (.ins T.C_Reading dx (fs_Reading (.ref dl) (.ref dm))) :: pto dl (.lst (Z.map (fun e => V.ref e.t) ++ [V.ref q_])) :: pto dm (.dK (mS ms)) :: L) _))
      rw [show Z.map (fun e => V.ref e.t) ++ [V.ref q_] = (Z ++ [(⟨q_, wl, w0 :: wr, ln⟩ : Dft)]).map (fun e => V.ref e.t) from by rw [List.map_append]; rfl] at hs
      exact q (Z ++ [⟨q_, wl, w0 :: wr, ln⟩]) _ (by unfold dsOf; rw [List.map_append]; rfl) (rd_close (Hd.mt (by walk_at "mt") hs))
end
section
variable {P : Program} {w : World} {K : PySem.W.Frag} {mg : Str → Option Value} {base : Heap}

theorem partsR_len {ms : List (Str × Int)} : ∀ {l : List (Nat × Str)} {vs : List V}, partsR ms l = some vs → vs.length = l.length
  | [], vs, h => by cases h; rfl
  | e :: l, vs, h => by
    have h : (match partR ms e.1 e.2 with | none => none | some v => (partsR ms l).map (v :: ·)) = some vs := h
    cases hp : partR ms e.1 e.2 with
    | none => rw [hp] at h; cases h
    | some v =>
      rw [hp] at h
      obtain ⟨r, h1, rfl⟩ := Option.map_eq_some_iff.mp h
      rw [List.length_cons, List.length_cons, partsR_len h1]
theorem partsR_at {ms : List (Str × Int)} : ∀ {l : List (Nat × Str)} {vs : List V} {i : Nat} {c : Nat} {w : Str}, partsR ms l = some vs → l[i]? = some (c, w) → ∃ v, vs[i]? = some v ∧ partR ms c w = some v
  | [], _, i, _, _, _, h => by cases h
  | e :: l, vs, i, c, w, h, hi => by
    have h : (match partR ms e.1 e.2 with | none => none | some v => (partsR ms l).map (v :: ·)) = some vs := h
    cases hp : partR ms e.1 e.2 with
    | none => rw [hp] at h; cases h
    | some v =>
      rw [hp] at h
      obtain ⟨r, h1, rfl⟩ := Option.map_eq_some_iff.mp h
      rcases i with _ | i
      · cases hi
        exact ⟨v, rfl, hp⟩
      · have := partsR_at (l := l) (vs := r) (i := i) h1 hi
        exact this
theorem rowsR_len {ms : List (Str × Int)} : ∀ {l : List (List Str × Int)} {rs : List (List V)}, rowsR ms l = some rs → rs.length = l.length
  | [], rs, h => by cases h; rfl
  | e :: l, rs, h => by
    have h : (match rowR ms e.1 with | none => none | some v => (rowsR ms l).map (v :: ·)) = some rs := h
    cases hp : rowR ms e.1 with
    | none => rw [hp] at h; cases h
    | some v =>
      rw [hp] at h
      obtain ⟨r, h1, rfl⟩ := Option.map_eq_some_iff.mp h
      rw [List.length_cons, List.length_cons, rowsR_len h1]
theorem rowsR_at {ms : List (Str × Int)} : ∀ {l : List (List Str × Int)} {rs : List (List V)} {i : Nat} {d : List Str × Int}, rowsR ms l = some rs → l[i]? = some d → ∃ v, rs[i]? = some v ∧ rowR ms d.1 = some v
  | [], _, i, _, _, h => by cases h
  | e :: l, rs, i, d, h, hi => by
    have h : (match rowR ms e.1 with | none => none | some v => (rowsR ms l).map (v :: ·)) = some rs := h
    cases hp : rowR ms e.1 with
    | none => rw [hp] at h; cases h
    | some v =>
      rw [hp] at h
      obtain ⟨r, h1, rfl⟩ := Option.map_eq_some_iff.mp h
      rcases i with _ | i
      · cases hi
        exact ⟨v, rfl, hp⟩
      · have := rowsR_at (l := l) (rs := r) (i := i) h1 hi
        exact this
/-- the words that a draft holds -/
def GoodD (Z : List Dft) : Prop := ∀ e ∈ Z, e.ws ≠ [] ∧ e.ws.length ≤ 90000 ∧ ∀ w ∈ e.ws, w.length ≤ 90000

def sp_Reading_part (T : Txt K mg) : Sp := fun vs H Q _ => ∃ (p dx dl dm : Addr) (ms : List (Str × Int)) (c : Nat) (w1 : Str) (ln : Int) (v : V) (L : List SA), vs = [.ref p, .str ⟨#[c]⟩, .str w1, .int ln] ∧ ((c = 114 ∨ c = 110 ∨ c = 116) ∧ w1.length ≤ 90000 ∧ partR ms c w1 = some v) ∧ Hd (pto p (.ins T.C_Reading dx (fs_Reading (.ref dl) (.ref dm))) :: pto dm (.dK (mS ms)) :: L) H ∧ ∀ H', Hd (pto p (.ins T.C_Reading dx (fs_Reading (.ref dl) (.ref dm))) :: pto dm (.dK (mS ms)) :: L) H' → Q v H'
theorem ok_Reading_part (T : Txt K mg) : FnOk P w K mg base CX0 5 T.a_Reading_part T.d_Reading_part ["self", "form", "word", "line"] (sp_Reading_part T) := by
  refine T.f_Reading_part.ok sc_Reading_part (fun vs H Q E h => ?_) (fun cdv A outer s H vs Q E hr h => ?_)
  · obtain ⟨p, dx, dl, dm, ms, c, w1, ln, v, L, rfl, _⟩ := h
    rfl
  · obtain ⟨p, dx, dl, dm, ms, c, w1, ln, v, L, rfl, h⟩ := h
    refine ⟨_, (pss_cons (ps_if (pt_cmpR (k_eq (K := K) rfl hr.units) (pv 1) pe_str (nomark _))
        (pss_one (ps_ret (pv 2)))
        pss_nil)
       (pss_cons (ps_if (pt_cmpR (k_eq (K := K) rfl hr.units) (pv 1) pe_str (nomark _))
        (pss_one (ps_ret (pe_call (ok_number_in T) hr (by rfl) T.g_number_in T.f_number_in.kp T.b_number_in .nil pass0 (pa_cons (pv 2) pa_nil))))
        pss_nil)
       (pss_cons (ps_if (pt_cmpR (k_notIn (K := K) rfl (hu_of hr)) (pv 2) (k_fld (K := K) rfl (pv 0) rfl) (by rfl))
        (pss_one ps_never)
        pss_nil)
       (pss_one (ps_ret (pe_ix (k_ix (K := K) rfl (hu_of hr)) (k_fld (K := K) rfl (pv 0) rfl) (pv 2) (fun _ _ => rfl))))))), ?_⟩
    try dsimp only [cxOf]
    obtain ⟨⟨hc, wl, hv⟩, hs, q⟩ := h
    walk_at "run"
    rcases hc with rfl | rfl | rfl
    · rw [decide_eq_true one_r]
      walk_at "run"
      cases hv
      exact q _ hs
    · rw [decide_eq_false st_nr]
      walk_at "run"
      rw [decide_eq_true one_n]
      walk_at "run"
      refine ⟨w1, _, rfl, wl, hs, fun H hs => ?_⟩
      have e : nV (numIn w1) = v := by
        have hv : some (match numIn w1 with | some n => V.int n | none => V.non) = some v := hv
        cases hv
        cases numIn w1 <;> rfl
      rw [e]
      exact q _ hs
    · rw [decide_eq_false st_tr]
      walk_at "run"
      rw [decide_eq_false st_tn]
      have hv : (getS ms w1).map V.int = some v := hv
      obtain ⟨n, hn, rfl⟩ := Option.map_eq_some_iff.mp hv
      have hg : valV (mS ms) (.inr w1) = some (.int n) := by rw [valV_mS, hn]; rfl
      walk_at "run"
      rw [hg, Option.isSome_some]
      walk_at "run"
      exact q _ hs
def sp_Reading_code (T : Txt K mg) : Sp := fun vs H Q _ => ∃ (p : Addr) (Z : List Dft) (ms : List (Str × Int)) (last : Int) (rs : List (List V)) (L : List SA), vs = [.ref p, .int last] ∧ (codeR ⟨dsOf Z, ms⟩ = some rs ∧ Z.length ≤ 200 ∧ ms.length ≤ 90000 ∧ GoodD Z) ∧ Hd (rdgA T.C_Reading p Z ms :: L) H ∧ ∀ F xs H', Hd (pto F (.lst xs) :: tupsA xs rs :: L) H' → Q (.ref F) H'
theorem ok_Reading_code (T : Txt K mg) (FW : T.wP = w.params) : FnOk P w K mg base CX0 6 T.a_Reading_code T.d_Reading_code ["self", "last"] (sp_Reading_code T) := by
  refine T.f_Reading_code.ok sc_Reading_code (fun vs H Q E h => ?_) (fun cdv A outer s H vs Q E hr h => ?_)
  · obtain ⟨p, Z, ms, last, rs, L, rfl, _⟩ := h
    rfl
  · obtain ⟨p, Z, ms, last, rs, L, rfl, h⟩ := h
    refine ⟨_, (pss_cons (ps_if (pt_cmpR (Tx.op_eqL0 hr.units) (k_fld (K := K) rfl (pv 0) rfl) (pe_lst pa_nil) (nomark _))
        (pss_one ps_never)
        pss_nil)
       (pss_cons (ps_set (i := 2) sc_Reading_code.nd rfl (by first | exact Or.inl rfl | exact Or.inr rfl) (pe_lst pa_nil))
       (pss_cons (ps_for PassesOwn.never rfl (pi_list (k_fld (K := K) rfl (pv 0) rfl)) (k_gTup (K := K) (n := 2) rfl (pg_tup (n := 2) (by rfl) (pgs_cons (pg_name (i := 3) sc_Reading_code.nd rfl (by first | exact Or.inl rfl | exact Or.inr rfl)) (pgs_cons (pg_name (i := 4) sc_Reading_code.nd rfl (by first | exact Or.inl rfl | exact Or.inr rfl)) pgs_nil))))
        (pss_cons (ps_set (i := 5) sc_Reading_code.nd rfl (by first | exact Or.inl rfl | exact Or.inr rfl) (pe_ix (Sl.ix_KD (K := K) (T.kd_FORMS) FW rfl rfl) (pe_glob (v := .ref T.a_FORMS) (by rfl) T.g_FORMS rfl) (pe_ix (k_ix (K := K) rfl (hu_of hr)) (pv 3) pe_int (fun _ _ => rfl)) (fun _ _ => rfl)))
       (pss_cons (ps_setLc (i := 6) (own := [("sign", 7), ("word", 8)]) rfl sc_Reading_code.nd rfl rfl (sw_true rfl rfl rfl (by decide +kernel)) (Zs.pi_zipS false (by rfl) T.n_zip (pa_cons (pv 5) (pa_cons (pe_slice (k_slL (K := K) rfl) (pv 3) (po_some pe_int) po_none) pa_nil))) (blkOk_by (N := ["self", "last", "found", "words", "line", "form", "parts", "sign", "word"]) (sc := defScope s_Reading_code) (by decide +kernel)) (fun _ _ _ _ _ => (k_gTup (K := K) (n := 2) rfl (pg_tup (n := 2) (by rfl) (pgs_cons (pg_name (i := 7) sc_Reading_code.nd rfl (by first | exact Or.inl rfl | exact Or.inr rfl)) (pgs_cons (pg_name (i := 8) sc_Reading_code.nd rfl (by first | exact Or.inl rfl | exact Or.inr rfl)) pgs_nil))))) (fun s_0 H_0 C_0 cl_0 fp_0 => pts_nil) (fun s_0 H_0 C_0 cl_0 fp_0 => (pe_meth (pv 0) T.cl_Reading T.m_Reading_part (ok_Reading_part T) hr T.b_Reading_part .nil pass0 (pa_cons (pv 7) (pa_cons (pv 8) (pa_cons (pv 4) pa_nil))))))
       (pss_one (ps_expr (k_bm (K := K) rfl (pe_bm PySem.F.plainAttrs_list PySem.F.slot_list_append PySem.F.type_list_append mt_append (pv 2) (pa_cons (pe_callTy (k_tuple (K := K) rfl) (by rfl) T.n_tuple (by decide +kernel) (pa_cons (pe_op (k_add (K := K) rfl) (pe_slice (k_slL (K := K) rfl) (pv 3) po_none (po_some pe_int)) (pv 6)) pa_nil)) pa_nil))))))))
       (pss_cons (ps_if (Iv.pt_inVals rfl (pe_callB (k_len (K := K) rfl) (by rfl) T.n_len (by decide +kernel) (pa_cons (k_fld (K := K) rfl (pv 0) rfl) pa_nil)) (k_fld (K := K) rfl (pv 0) rfl) (by rfl))
        (pss_one ps_never)
        pss_nil)
       (pss_one (ps_ret (pv 2))))))), ?_⟩
    try dsimp only [cxOf]
    obtain ⟨⟨hc, lz, lm, gd⟩, hs, q⟩ := h
    have ldz : (dsOf Z).length = Z.length := List.length_map ..
    unfold codeR at hc
    have ne : dsOf Z ≠ [] := fun z => by
      rw [if_pos z] at hc
      cases hc
    rw [if_neg ne] at hc
    have nz : 1 ≤ Z.length := by
      rcases Nat.eq_zero_or_pos Z.length with z | z
      · exact absurd (List.eq_nil_of_length_eq_zero (by omega : (dsOf Z).length = 0)) ne
      · exact z
    cases hr : rowsR ms (dsOf Z) with
    | none => rw [show rowsR (Rdg.ms ⟨dsOf Z, ms⟩) (Rdg.ds ⟨dsOf Z, ms⟩) = rowsR ms (dsOf Z) from rfl, hr] at hc; cases hc
    | some rs1 =>
      rw [show rowsR (Rdg.ms ⟨dsOf Z, ms⟩) (Rdg.ds ⟨dsOf Z, ms⟩) = rowsR ms (dsOf Z) from rfl, hr] at hc
      dsimp only at hc
      have nin : ¬ (((dsOf Z).length : Nat) : Int) ∈ ms.map (·.2) := fun z => by
        rw [if_pos z] at hc
        cases hc
      rw [if_neg nin] at hc
      cases hc
      obtain ⟨dx, dl, dm, hs⟩ := rd_open hs
      have lrs := rowsR_len hr
      have lzm : (Z.map fun e => V.ref e.t).length = Z.length := List.length_map ..
      walk_at "run"
      rw [show (Z.map fun e => V.ref e.t).isEmpty = false from by
        cases Z with
        | nil => exact absurd nz (by decide)
        | cons _ _ => rfl]
      walk_at "run"
      obtain ⟨F, eF⟩ : ∃ F, F = q_ := ⟨_, rfl⟩
      rw [← eF] at hs ⊢
      have hs : Hd (tupsA [] [] :: pto F (.lst []) :: pto p (.ins T.C_Reading dx (fs_Reading (.ref dl) (.ref dm))) :: pto dl (.lst (Z.map fun e => V.ref e.t)) :: pto dm (.dK (mS ms)) :: big dftA Z :: L) _ := Hd.mt (by walk_at "mt") (tups_nil hs)
      refine Sl.r_forL (Z.map fun e => V.ref e.t) (fun i σ H => ∃ (v3 v4 v5 v6 : Option V) (ts : List V), ts.length = i ∧ σ = [some (.ref p), some (.int last), some (.ref F), v3, v4, v5, v6, none, none] ∧ Hd (tupsA ts (rs.take i) :: pto F (.lst ts) :: pto p (.ins T.C_Reading dx (fs_Reading (.ref dl) (.ref dm))) :: pto dl (.lst (Z.map fun e => V.ref e.t)) :: pto dm (.dK (mS ms)) :: big dftA Z :: L) H) ⟨_, _, _, _, [], rfl, rfl, (by show Hd (tupsA [] [] :: _) _; exact hs)⟩ (fun i σ H _ ⟨_, _, _, _, _, _, _, z⟩ => z.sq (a := dl) (by walk_at "pull")) ?_ ?_
      · clear hs
        rintro i x σ H hx ⟨v3, v4, v5, v6, ts, lts, rfl, hs⟩
        rw [List.getElem?_map] at hx
        obtain ⟨e, he, rfl⟩ := Option.map_eq_some_iff.mp hx
        have hi := (List.getElem?_eq_some_iff.mp he).1
        obtain ⟨vrow, hvr, hrow⟩ := rowsR_at hr (show (dsOf Z)[i]? = some (e.ws, e.ln) by unfold dsOf; rw [List.getElem?_map, he]; rfl)
        rw [take_snoc hvr]
        obtain ⟨g1, g2, g3⟩ := gd e (List.mem_of_getElem? he)
        have hs := df_open (big_at he (Hd.mt (by walk_at "mt") hs : Hd (big dftA Z :: tupsA ts (rs.take i) :: pto F (.lst ts) :: pto p (.ins T.C_Reading dx (fs_Reading (.ref dl) (.ref dm))) :: pto dl (.lst (Z.map fun e => V.ref e.t)) :: pto dm (.dK (mS ms)) :: L) _))
        obtain ⟨t, wl, ws, ln⟩ := e
        dsimp only at hs g1 g2 g3 hrow
        obtain ⟨w0, wr, rfl⟩ := List.exists_cons_of_ne_nil g1
        unfold rowR at hrow
        rw [List.headD_cons] at hrow
        cases ef : formS w0 with
        | none => rw [ef] at hrow; cases hrow
        | some f =>
          rw [ef] at hrow
          obtain ⟨us, hus, rfl⟩ := Option.map_eq_some_iff.mp hrow
          rw [List.tail_cons] at hus
          have mf := formS_in ef
          obtain ⟨fs, fg⟩ : f.cps.size ≤ 3 ∧ ∀ (i c : Nat), f.cps[i]? = some c → c = 114 ∨ c = 110 ∨ c = 116 := form_signs _ mf
          have asc : f.cps.all (· < 128) = true := by
            have : ∀ e ∈ formsK, e.2.cps.all (· < 128) = true := by decide +kernel
            exact this _ mf
          have lus := partsR_len hus
          have h9 : f.cps.toList.length = f.cps.size := Array.length_toList
          rw [List.length_zip, h9] at lus
          walk_at "run"
          refine Sl.r_ixKD (kget_Y T mf) ?_
          walk_at "run"
          rw [show cutV ((w0 :: wr).map V.str) (some 1) none = wr.map V.str from (Sl.cut_lo (fun z : Str => V.str z) (w0 :: wr) 1).trans (by rw [List.drop_succ_cons, List.drop_zero])] at hs
          obtain ⟨sl, es⟩ : ∃ F, F = q_ := ⟨_, rfl⟩
          rw [← es] at hs ⊢
          refine Sl.r_zipSL asc (hs.sq (a := sl) (by walk_at "pull")) ?_
          have lwr : (wr.map V.str).length = wr.length := List.length_map ..
          refine Sl.r_lcZs (n := us.length) (ys := wr.map V.str) (by rw [lwr, lus]) (fun D j H => Hd (pto D (.lst (us.take j)) :: pto sl (.lst (wr.map V.str)) :: pto t (.tup [.ref wl, .int ln]) :: pto wl (.lst ((w0 :: wr).map V.str)) :: big dftA (Z.eraseIdx i) :: tupsA ts (rs.take i) :: pto F (.lst ts) :: pto p (.ins T.C_Reading dx (fs_Reading (.ref dl) (.ref dm))) :: pto dl (.lst (Z.map fun e => V.ref e.t)) :: pto dm (.dK (mS ms)) :: L) H) hs (fun D H hs => (by show Hd (pto D (.lst []) :: _) _; exact Hd.mt (by walk_at "mt") hs)) (fun D j H _ hs => hs.sq (a := sl) (by walk_at "pull")) ?_ ?_
          · clear hs
            rintro D j c y TT H hc hy hs hT
            have hs := hs.new (o := .tup [.str ⟨#[c]⟩, y]) hT
            rw [List.getElem?_map] at hy
            obtain ⟨w1, hw1, rfl⟩ := Option.map_eq_some_iff.mp hy
            have hj := (Array.getElem?_eq_some_iff.mp hc).1
            have hzip : (f.cps.toList.zip wr)[j]? = some (c, w1) := by rw [List.getElem?_zip_eq_some]; exact ⟨cps_at hc, hw1⟩
            obtain ⟨v, hv, hp⟩ := partsR_at hus hzip
            have hl2 : (us.take j).length ≤ j := List.length_take_le ..
            rw [take_snoc hv]
            walk_at "run"
            refine ⟨p, dx, dl, dm, ms, c, w1, ln, v, _, rfl, ⟨fg j c hc, g3 w1 (List.mem_cons_of_mem _ (List.mem_of_getElem? hw1)), hp⟩, Hd.mt (by walk_at "mt") hs, fun H hs => ?_⟩
            walk_at "run"
            walk_at "rest"
          clear hs
          rintro D H hs
          rw [List.take_length] at hs
          walk_at "run"
          rw [show cutV ((w0 :: wr).map V.str) none (some 1) = [V.str w0] from (Sl.cut_hi (fun z : Str => V.str z) (w0 :: wr) 1)] at hs
          refine Sl.r_addL hs (hs.get (by walk_at "pull")) (hs.get (by walk_at "pull")) (Sl.sz (by simp only [List.length_cons, List.length_nil]; omega)) fun q2 H hs => ?_
          walk_at "run"
          have hs := tups_snoc (Hd.mt (by walk_at "mt") hs : Hd (pto _ (.tup ([V.str w0] ++ us)) :: tupsA ts (rs.take i) :: pto t (.tup [.ref wl, .int ln]) :: pto wl (.lst ((w0 :: wr).map V.str)) :: big dftA (Z.eraseIdx i) :: pto F (.lst (ts ++ [.ref _])) :: pto p (.ins T.C_Reading dx (fs_Reading (.ref dl) (.ref dm))) :: pto dl (.lst (Z.map fun e => V.ref e.t)) :: pto dm (.dK (mS ms)) :: L) _)
          have hs := big_unat he (df_close (e := ⟨t, wl, w0 :: wr, ln⟩) (Hd.mt (by walk_at "mt") hs : Hd (pto t (.tup [.ref wl, .int ln]) :: pto wl (.lst ((w0 :: wr).map V.str)) :: big dftA (Z.eraseIdx i) :: tupsA _ (rs.take i ++ [[V.str w0] ++ us]) :: pto F (.lst (ts ++ [.ref _])) :: pto p (.ins T.C_Reading dx (fs_Reading (.ref dl) (.ref dm))) :: pto dl (.lst (Z.map fun e => V.ref e.t)) :: pto dm (.dK (mS ms)) :: L) _))
          exact ⟨_, _, _, _, ts ++ [.ref q_], by rw [List.length_append, lts]; rfl, rfl, (by show Hd (tupsA (ts ++ [.ref q_]) (rs.take i ++ [[V.str w0] ++ us]) :: _) _; exact Hd.mt (by walk_at "mt") hs)⟩
      clear hs
      rintro σ H ⟨v3, v4, v5, v6, ts, lts, rfl, hs⟩
      rw [List.length_map, ← ldz, ← lrs, List.take_length] at hs
      walk_at "run"
      refine Tx.r_inVK (hs.get (by walk_at "pull")) (snd_mS ms) ?_
      rw [any_int, List.length_map, ← ldz, decide_eq_false nin]
      walk_at "run"
      exact q F ts _ (Hd.mt (by walk_at "mt") hs)
end
section
variable {P : Program} {w : World} {K : PySem.W.Frag} {mg : Str → Option Value} {base : Heap}

/-! ### loose lines, plainly -/
theorem small_range {c : Nat} (h : c ∈ smallS) : 97 ≤ c ∧ c ≤ 122 := by
  have z : ∀ c ∈ smallS, 97 ≤ c ∧ c ≤ 122 := by decide +kernel
  exact z c h
theorem okLab_spec {w : Str} (h : okLab w = true) : 1 ≤ w.length ∧ w.length ≤ 8 ∧ ∀ c ∈ w.cps.toList, 97 ≤ c ∧ c ≤ 122 := by
  unfold okLab at h
  rw [Bool.and_eq_true, Bool.and_eq_true] at h
  refine ⟨of_decide_eq_true h.1.1, of_decide_eq_true h.1.2, fun c hc => ?_⟩
  have := List.all_eq_true.mp h.2 (decide (c ∈ smallS)) (List.mem_map.mpr ⟨c, hc, rfl⟩)
  exact small_range (of_decide_eq_true (show decide (c ∈ smallS) = true from this))
theorem okLab_free {w : Str} (h : okLab w = true) {c : Nat} (hc : c < 97) : c ∉ w.cps.toList := fun m => by
  have := (okLab_spec h).2.2 c m
  omega
theorem tl_colon : (":" : Str).cps.toList = [58] := by decide +kernel
theorem tl_app (a b : Str) : (a ++ b).cps.toList = a.cps.toList ++ b.cps.toList := TL.tl_append a b
theorem ne_of_len {w : Str} (h : 1 ≤ w.length) : w.cps.toList ≠ [] := fun e => by
  have hz : w.cps.toList.length = w.length := Array.length_toList
  rw [e] at hz
  exact absurd hz (by simp; omega)
theorem lineW_of {y : Str} {ws : List Str} (h : Tx.wds y.cps.toList = ws.map fun w => w.cps.toList) : Tx.lineW y = ws := by
  have h : Tx.wds (TL.tl y) = ws.map TL.tl := h
  unfold Tx.lineW
  rw [h, List.map_map]
  exact List.map_id'' (f := Tx.mkS ∘ TL.tl) (fun w => Tx.mkS_tl w) ws
theorem lineW_lab {b nm : Str} {k : Nat} (hb : b.cps.toList = List.replicate k 32) (ok : okLab nm = true) : Tx.lineW (b ++ (nm ++ (":" : Str))) = [nm ++ (":" : Str)] := by
  apply lineW_of
  have h32 : 32 ∉ (nm ++ (":" : Str)).cps.toList := by
    rw [tl_app, tl_colon]
    intro m
    rcases List.mem_append.mp m with m | m
    · exact okLab_free ok (by decide) m
    · exact absurd (List.mem_singleton.mp m) (by decide)
  rw [tl_app, hb, Tx.wds_blank, Tx.wds_one h32]
  · rfl
  · rw [tl_app, tl_colon]
    simp
theorem lab_isW (nm : Str) : isLabW [nm ++ (":" : Str)] = true := by
  unfold isLabW
  rw [List.headD_cons]
  exact PySem.W.KT.ends_app nm ":"
theorem nameOf_lab (nm : Str) : nameOf [nm ++ (":" : Str)] = nm := by
  unfold nameOf cutS
  rw [List.headD_cons]
  have e : (nm ++ (":" : Str)).cps.toList = nm.cps.toList ++ [58] := by rw [tl_app, tl_colon]
  have l : (nm ++ (":" : Str)).length = nm.length + 1 := by rw [Str.length_append]; rfl
  have h1 : HT.sIx (nm ++ (":" : Str)).length 0 none = 0 := rfl
  have h2 : HT.sIx (nm ++ (":" : Str)).length (nm ++ (":" : Str)).length (some (-1)) = nm.length := by
    rw [l]
    show (if (-1 : Int) < 0 then ((-1 : Int) + ((nm.length + 1 : Nat) : Int)).toNat else min (-1 : Int).toNat (nm.length + 1)) = _
    rw [if_pos (by decide)]
    omega
  rw [h1, h2, e, List.drop_zero, Nat.sub_zero]
  have hz : nm.cps.toList.length = nm.length := Array.length_toList
  rw [← hz, List.take_left]
theorem put_lab {s : Rdg} {nm : Str} {ln : Int} (ok : okLab nm = true) (h : nm ∉ keysS s.ms) : putR s [nm ++ (":" : Str)] ln = some ⟨s.ds, s.ms ++ [(nm, ((s.ds.length : Nat) : Int))]⟩ := by
  unfold putR
  rw [if_pos (lab_isW nm), nameOf_lab, if_pos ⟨ok, h⟩]
theorem rwW_len (lab : List (Int × Str)) (r : Rw) : (rwW lab r).length = 1 + (prs r).length := by
  unfold rwW
  rw [List.length_cons, List.length_map]
  omega
theorem row_notlab (lab : List (Int × Str)) (r : Rw) : isLabW (rwW lab r) = false := by
  have h : ∀ r : Rw, 1 ≤ (prs r).length ∨ r = .ask := by
    intro r
    cases r <;> first | exact .inr rfl | exact .inl (Nat.le_of_ble_eq_true (by kernel_rfl))
  rcases h r with h | rfl
  · unfold isLabW
    rw [rwW_len, decide_eq_false (by omega)]
    rfl
  · kernel_rfl
theorem formS_of {e : Str × Str} (h : e ∈ formsK) : formS e.1 = some e.2 := by
  simp only [formsK, List.mem_cons, List.not_mem_nil, or_false] at h
  rcases h with rfl | rfl | rfl | rfl | rfl | rfl | rfl | rfl | rfl | rfl | rfl | rfl | rfl | rfl | rfl <;> kernel_rfl
theorem word_form {n : Nat} {r : Rw} (ok : OkR n r) : (wordOf r, formOf r) ∈ formsK := by
  have z : ∀ w f : Str, (formsK.any fun e => decide (e.1 = w) && decide (e.2 = f)) = true → (w, f) ∈ formsK := fun w f h => by
    obtain ⟨e, m, q⟩ := List.any_eq_true.mp h
    rw [Bool.and_eq_true] at q
    have e1 := of_decide_eq_true q.1
    have e2 := of_decide_eq_true q.2
    obtain ⟨a, b⟩ := e
    cases e1
    cases e2
    exact m
  cases r with
  | op k r s =>
    have hk := ok.1
    rcases k with _ | _ | _ | _ | _ | _ | k <;> first | omega | exact z _ _ (by kernel_rfl)
  | mem k r s w =>
    have hk := ok.1
    rcases k with _ | _ | k <;> first | omega | exact z _ _ (by kernel_rfl)
  | _ => exact z _ _ (by kernel_rfl)
theorem formS_at {n : Nat} {r : Rw} (ok : OkR n r) : formS (wordOf r) = some (formOf r) := formS_of (word_form ok)
theorem zip_map_zip {α β γ : Type} (g : α × β → γ) : ∀ (f : List α) (v : List β), f.zip ((f.zip v).map g) = (f.zip v).map fun e => (e.1, g e)
  | [], _ => rfl
  | _ :: _, [] => rfl
  | a :: f, b :: v => by
    show (a, g (a, b)) :: f.zip ((f.zip v).map g) = (a, g (a, b)) :: (f.zip v).map fun e => (e.1, g e)
    rw [zip_map_zip g f v]
theorem rwW_zip (lab : List (Int × Str)) (r : Rw) : (formOf r).cps.toList.zip (rwW lab r).tail = (prs r).map fun e => (e.1, pw lab e) := zip_map_zip (pw lab) _ _
theorem numL_head : ∀ n : Nat, 1 ≤ n → (TL.numL n).head? ≠ some 48 := by
  intro n
  induction n using Nat.strongRecOn with
  | _ n ih =>
    intro h1
    by_cases h : n < 10
    · rw [TL.numL_lt h, List.head?_cons]
      intro e
      have := Option.some.inj e
      omega
    · rw [TL.numL_step (by omega)]
      obtain ⟨c, r, e⟩ := List.exists_cons_of_ne_nil (TL.numL_ne (n / 10))
      have := ih (n / 10) (by omega) (by omega)
      rw [e] at this ⊢
      exact this
theorem numIn_num {w : Int} (h0 : 0 ≤ w) (h1 : w ≤ 65535) : numIn (toString w) = some w := by
  obtain ⟨m, rfl⟩ := Int.eq_ofNat_of_zero_le h0
  have e : (toString ((m : Nat) : Int) : Str).cps.toList = TL.numL m := TL.tl_num m
  have hl : (TL.numL m).length ≤ 5 := TL.numL_len (by decide) (by omega)
  have hz : (toString ((m : Nat) : Int) : Str).length = (TL.numL m).length := by
    rw [← e]
    exact Array.length_toList.symm
  have hne : 1 ≤ (TL.numL m).length := List.length_pos_iff.mpr (TL.numL_ne m)
  have al : ((TL.numL m).map fun c => decide (c ∈ figS)).all id = true := by
    rw [List.all_eq_true]
    intro b hb
    obtain ⟨c, mc, rfl⟩ := List.mem_map.mp hb
    have r := TL.numL_digits m c mc
    have z : ∀ c ∈ List.range 58, 48 ≤ c → c ∈ figS := by decide +kernel
    exact decide_eq_true (z c (List.mem_range.mpr (by omega)) r.1)
  unfold numIn
  rw [e, hz, if_pos (by rw [decide_eq_true hne, decide_eq_true hl, al]; rfl), TL.numL_val]
  by_cases h : m = 0
  · subst h
    rw [if_neg fun z => z.2 (by kernel_rfl), if_pos (by omega)]
  · rw [if_neg fun z => numL_head m (by omega) z.1, if_pos (by omega)]
theorem isWr_pw {n : Nat} {r : Rw} {lab : List (Int × Str)} (n2 : n ≤ 200) (ok : OkR n r) (hl : ∀ t, tgt r = some t → ∃ nm, getM lab t = some nm ∧ okLab nm = true) {e : Nat × V} (h : e ∈ prs r) : isWr e.1 (pw lab e) = true := by
  obtain ⟨c, v⟩ := e
  rcases part_at (prs_ok ok h) with ⟨rfl, g, hg, rfl⟩ | ⟨rfl, g, g0, g1, rfl⟩ | ⟨rfl, g, hg, rfl⟩
  · exact isReg_rg hg
  · show (numIn (toString g)).isSome = true
    rw [numIn_num g0 g1]
    rfl
  · obtain ⟨t, e1, e2⟩ := prs_tgt h
    cases e1
    obtain ⟨nm, h1, h2⟩ := hl _ e2
    show okLab ((getM lab ((g : Nat) : Int)).getD "") = true
    rw [h1]
    exact h2
theorem put_row {n : Nat} {r : Rw} {lab : List (Int × Str)} {s : Rdg} {ln : Int} (n2 : n ≤ 200) (ok : OkR n r) (hl : ∀ t, tgt r = some t → ∃ nm, getM lab t = some nm ∧ okLab nm = true) (hs : s.ds.length < 200) : putR s (rwW lab r) ln = some ⟨s.ds ++ [(rwW lab r, ln)], s.ms⟩ := by
  unfold putR
  rw [if_neg (by rw [row_notlab]; exact Bool.false_ne_true)]
  rw [show (rwW lab r).headD "" = wordOf r from rfl, formS_at ok]
  dsimp only
  have fl := form_len r
  have fo := (form_ok ok).1
  have pl : (prs r).length = (formOf r).length := by
    unfold prs
    rw [List.length_zip, Array.length_toList]
    have : (formOf r).cps.size = (formOf r).length := rfl
    omega
  have c3 : (((formOf r).cps.toList.zip (rwW lab r).tail).map fun e => isWr e.1 e.2).all id = true := by
    rw [rwW_zip, List.map_map, List.all_map, List.all_eq_true]
    exact fun e m => isWr_pw n2 ok hl m
  have c1 : (rwW lab r).length = 1 + (formOf r).length := by rw [rwW_len, pl]
  rw [if_pos ⟨⟨c1, by omega⟩, c3⟩]
theorem parts_back {n : Nat} {r : Rw} {lab : List (Int × Str)} {ms : List (Str × Int)} (ok : OkR n r) (n2 : n ≤ 200) (hl : ∀ t, tgt r = some t → ∃ nm, getM lab t = some nm ∧ getS ms nm = some t) : ∀ l : List (Nat × V), (∀ e ∈ l, e ∈ prs r) → partsR ms (l.map fun e => (e.1, pw lab e)) = some (l.map (·.2))
  | [], _ => rfl
  | (c, v) :: l, h => by
    have hp : partR ms c (pw lab (c, v)) = some v := by
      rcases part_at (prs_ok ok (h _ (List.mem_cons_self ..))) with ⟨rfl, g, hg, rfl⟩ | ⟨rfl, g, g0, g1, rfl⟩ | ⟨rfl, g, hg, rfl⟩
      · rfl
      · show some (match numIn (toString g) with | some n => V.int n | none => V.non) = _
        rw [numIn_num g0 g1]
      · obtain ⟨t, e1, e2⟩ := prs_tgt (h _ (List.mem_cons_self ..))
        cases e1
        obtain ⟨nm, h1, h2⟩ := hl _ e2
        show (getS ms ((getM lab ((g : Nat) : Int)).getD "")).map V.int = _
        rw [h1]
        show (getS ms nm).map V.int = _
        rw [h2]
        rfl
    rw [List.map_cons, List.map_cons]
    show (match partR ms c (pw lab (c, v)) with | none => none | some v => (partsR ms (l.map fun e : Nat × V => (e.1, pw lab e))).map (v :: ·)) = _
    rw [hp, parts_back ok n2 hl l fun e m => h e (List.mem_cons_of_mem _ m)]
    rfl
theorem prs_snd {n : Nat} {r : Rw} (ok : OkR n r) : (prs r).map (·.2) = (rwV r).drop 1 := by
  unfold prs
  refine List.map_snd_zip ?_
  have h1 := (form_ok ok).1
  have h2 : (formOf r).cps.toList.length = (formOf r).cps.size := Array.length_toList
  omega
theorem row_back {n : Nat} {r : Rw} {lab : List (Int × Str)} {ms : List (Str × Int)} (ok : OkR n r) (n2 : n ≤ 200) (hl : ∀ t, tgt r = some t → ∃ nm, getM lab t = some nm ∧ getS ms nm = some t) : rowR ms (rwW lab r) = some (rwV r) := by
  unfold rowR
  rw [show (rwW lab r).headD "" = wordOf r from rfl, formS_at ok]
  dsimp only
  rw [rwW_zip, parts_back ok n2 hl _ fun e m => m, prs_snd ok]
  obtain ⟨ys, ew, ey⟩ := word_at r
  rw [ew]
  rfl
theorem rows_back {n : Nat} {lab : List (Int × Str)} {ms : List (Str × Int)} (n2 : n ≤ 200) : ∀ {R : List Rw} {ds : List (List Str × Int)}, ds.map (·.1) = R.map (rwW lab) → (∀ r ∈ R, OkR n r) → (∀ r ∈ R, ∀ t, tgt r = some t → ∃ nm, getM lab t = some nm ∧ getS ms nm = some t) → rowsR ms ds = some (R.map rwV)
  | [], [], _, _, _ => rfl
  | [], _ :: _, h, _, _ => nomatch h
  | _ :: _, [], h, _, _ => nomatch h
  | r :: R, d :: ds, h, ok, hl => by
    rw [List.map_cons, List.map_cons] at h
    injection h with h1 h2
    show (match rowR ms d.1 with | none => none | some v => (rowsR ms ds).map (v :: ·)) = _
    rw [h1, row_back (ok r (List.mem_cons_self ..)) n2 (hl r (List.mem_cons_self ..)), rows_back n2 h2 (fun x m => ok x (List.mem_cons_of_mem _ m)) fun x m => hl x (List.mem_cons_of_mem _ m)]
    rfl
/-! ### the invariant -/
/-- what holds of the labels: names of their own, good ones -/
structure LB (R : List Rw) (lab : List (Int × Str)) : Prop where
  ok : ∀ t nm, getM lab t = some nm → okLab nm = true
  inj : ∀ t u nm, getM lab t = some nm → getM lab u = some nm → t = u
  all : ∀ r ∈ R, ∀ t, tgt r = some t → ∃ nm, getM lab t = some nm
  low : ∀ t nm, getM lab t = some nm → 0 ≤ t
/-- what is left of the names -/
structure LF (lab : List (Int × Str)) (left : List Str) : Prop where
  ok : ∀ x ∈ left, okLab x = true
  nd : left.Nodup
  dis : ∀ t nm, getM lab t = some nm → nm ∉ left
structure LI (R : List Rw) (lab : List (Int × Str)) (left : List Str) (i j b : Nat) (s : Rdg) : Prop where
  ds : s.ds.map (·.1) = (R.take i).map (rwW lab)
  at_ : ∀ (t : Int) nm, t < j → getM lab t = some nm → getS s.ms nm = some t
  new : ∀ nm ∈ keysS s.ms, nm ∉ left ∧ ∀ t : Int, (j : Int) ≤ t → getM lab t ≠ some nm
  val : ∀ e ∈ s.ms, e.2 < b
theorem getS_app {ms : List (Str × Int)} {w : Str} {n : Int} (h : getS ms w = some n) (l : List (Str × Int)) : getS (ms ++ l) w = some n := by
  unfold getS at *
  rw [List.find?_append]
  cases e : ms.find? (fun e => decide (e.1 = w)) with
  | none => rw [e] at h; cases h
  | some x => rw [e] at h; exact h
theorem getS_new {ms : List (Str × Int)} {w : Str} {n : Int} (h : w ∉ keysS ms) : getS (ms ++ [(w, n)]) w = some n := by
  unfold getS
  rw [List.find?_append, List.find?_eq_none.mpr fun e m z => h (List.mem_map.mpr ⟨e, m, of_decide_eq_true z⟩)]
  simp
theorem ds_len {R : List Rw} {lab : List (Int × Str)} {left : List Str} {i j b : Nat} {s : Rdg} (h : LI R lab left i j b s) (hi : i ≤ R.length) : s.ds.length = i := by
  have := congrArg List.length h.ds
  rw [List.length_map, List.length_map, List.length_take] at this
  omega
section
variable {R : List Rw} {lab : List (Int × Str)} {left : List Str} {i j b : Nat} {s : Rdg} {x nm : Str}
/-- a label that nobody asks -/
theorem li_extra (h : LI R lab (x :: left) i j b s) (f : LF lab (x :: left)) (hi : i ≤ R.length) (hb : b ≤ i + 1) : x ∉ keysS s.ms ∧ LI R lab left i j (i + 1) ⟨s.ds, s.ms ++ [(x, ((s.ds.length : Nat) : Int))]⟩ := by
  have nx : x ∉ keysS s.ms := fun m => (h.new x m).1 (List.mem_cons_self ..)
  refine ⟨nx, h.ds, fun t nm ht e => getS_app (h.at_ t nm ht e) _, fun nm m => ?_, fun e m => ?_⟩
  · unfold keysS at m
    rw [List.map_append] at m
    rcases List.mem_append.mp m with m | m
    · exact ⟨fun z => (h.new nm m).1 (List.mem_cons_of_mem _ z), (h.new nm m).2⟩
    · cases List.mem_singleton.mp m
      exact ⟨(List.nodup_cons.mp f.nd).1, fun t _ e => f.dis t x e (List.mem_cons_self ..)⟩
  · rcases List.mem_append.mp m with m | m
    · have := h.val e m; omega
    · cases List.mem_singleton.mp m
      rw [ds_len h hi]
      show ((i : Nat) : Int) < ((i + 1 : Nat) : Int)
      omega
theorem lf_tail (f : LF lab (x :: left)) : LF lab left := ⟨fun y m => f.ok y (List.mem_cons_of_mem _ m), (List.nodup_cons.mp f.nd).2, fun t nm e m => f.dis t nm e (List.mem_cons_of_mem _ m)⟩
/-- the label of the row -/
theorem li_own (h : LI R lab left i i b s) (g : LB R lab) (f : LF lab left) (hi : i ≤ R.length) (hb : b ≤ i + 1) (e : getM lab ((i : Nat) : Int) = some nm) : nm ∉ keysS s.ms ∧ LI R lab left i (i + 1) (i + 1) ⟨s.ds, s.ms ++ [(nm, ((s.ds.length : Nat) : Int))]⟩ := by
  have nx : nm ∉ keysS s.ms := fun m => (h.new nm m).2 _ (Int.le_refl _) e
  refine ⟨nx, h.ds, fun t n2 ht e2 => ?_, fun n2 m => ?_, fun e2 m => ?_⟩
  · by_cases ht2 : t < i
    · exact getS_app (h.at_ t n2 ht2 e2) _
    · have : t = ((i : Nat) : Int) := by omega
      subst this
      rw [e] at e2
      cases e2
      rw [ds_len h hi]
      exact getS_new nx
  · unfold keysS at m
    rw [List.map_append] at m
    rcases List.mem_append.mp m with m | m
    · exact ⟨(h.new n2 m).1, fun t ht => (h.new n2 m).2 t (by omega)⟩
    · cases List.mem_singleton.mp m
      exact ⟨f.dis _ _ e, fun t ht e3 => by have := g.inj _ _ _ e e3; omega⟩
  · rcases List.mem_append.mp m with m | m
    · have := h.val e2 m; omega
    · cases List.mem_singleton.mp m
      rw [ds_len h hi]
      show ((i : Nat) : Int) < ((i + 1 : Nat) : Int)
      omega
theorem li_none (h : LI R lab left i i b s) (hb : b ≤ i + 1) (e : getM lab ((i : Nat) : Int) = none) : LI R lab left i (i + 1) (i + 1) s := by
  refine ⟨h.ds, fun t n2 ht e2 => ?_, fun n2 m => ⟨(h.new n2 m).1, fun t ht => (h.new n2 m).2 t (by omega)⟩, fun e2 m => by have := h.val e2 m; omega⟩
  by_cases ht2 : t < i
  · exact h.at_ t n2 ht2 e2
  · have : t = ((i : Nat) : Int) := by omega
    subst this
    rw [e] at e2
    cases e2
theorem li_row {r : Rw} {ln : Int} (h : LI R lab left i (i + 1) (i + 1) s) (hr : R[i]? = some r) : LI R lab left (i + 1) (i + 1) (i + 1) ⟨s.ds ++ [(rwW lab r, ln)], s.ms⟩ := by
  refine ⟨?_, h.at_, h.new, h.val⟩
  rw [take_snoc hr, List.map_append, List.map_append, h.ds]
  rfl
end
/-- lines of labels: good ones, new ones -/
def labL (bl : Str) (as : List Str) : List Str := as.map fun nm => bl ++ (nm ++ (":" : Str))
theorem line_lab {Ls : List Str} {s : Rdg} {bl nm : Str} {k : Nat} (hb : bl.cps.toList = List.replicate k 32) (ok : okLab nm = true) (hn : nm ∉ keysS s.ms) (h : linesR Ls = some s) : linesR (Ls ++ [bl ++ (nm ++ (":" : Str))]) = some ⟨s.ds, s.ms ++ [(nm, ((s.ds.length : Nat) : Int))]⟩ := by
  rw [linesR_snoc, h]
  show (if Tx.lineW (bl ++ (nm ++ (":" : Str))) = [] then some s else putR s (Tx.lineW (bl ++ (nm ++ (":" : Str)))) _) = _
  rw [lineW_lab hb ok, if_neg (List.cons_ne_nil _ _), put_lab ok hn]
theorem line_blank {Ls : List Str} {s : Rdg} {y : Str} (hy : Tx.lineW y = []) (h : linesR Ls = some s) : linesR (Ls ++ [y]) = some s := by
  rw [linesR_snoc, h]
  show (if Tx.lineW y = [] then some s else putR s (Tx.lineW y) _) = _
  rw [if_pos hy]
theorem line_row {Ls : List Str} {s : Rdg} {y : Str} {n : Nat} {r : Rw} {lab : List (Int × Str)} (hy : Tx.lineW y = rwW lab r) (n2 : n ≤ 200) (ok : OkR n r) (hl : ∀ t, tgt r = some t → ∃ nm, getM lab t = some nm ∧ okLab nm = true) (hs : s.ds.length < 200) (h : linesR Ls = some s) : linesR (Ls ++ [y]) = some ⟨s.ds ++ [(rwW lab r, ((Ls.length : Nat) : Int) + 1)], s.ms⟩ := by
  rw [linesR_snoc, h]
  show (if Tx.lineW y = [] then some s else putR s (Tx.lineW y) _) = _
  rw [hy, if_neg (by unfold rwW; exact List.cons_ne_nil _ _), put_row n2 ok hl hs]
/-- from before a row's labels to behind them -/
def AR (R : List Rw) (lab : List (Int × Str)) (i : Nat) (left as left2 : List Str) : Prop := LF lab left → LF lab left2 ∧ left2.length ≤ left.length ∧ as.length ≤ 3 ∧ (∀ x ∈ as, okLab x = true) ∧ ∀ (bl : Str) (k : Nat), bl.cps.toList = List.replicate k 32 → ∀ Ls s, linesR Ls = some s → LI R lab left i i i s → ∃ s2, linesR (Ls ++ labL bl as) = some s2 ∧ LI R lab left2 i (i + 1) (i + 1) s2
theorem ar_none {R : List Rw} {lab : List (Int × Str)} {left : List Str} {i : Nat} (e : getM lab ((i : Nat) : Int) = none) : AR R lab i left [] left :=
  fun f => ⟨f, Nat.le_refl _, by decide, fun _ m => (nomatch m), fun bl k hb Ls s h1 h2 => ⟨s, by show linesR (Ls ++ []) = _; rw [List.append_nil]; exact h1, li_none h2 (by omega) e⟩⟩
theorem ar_own {R : List Rw} {lab : List (Int × Str)} {left : List Str} {i : Nat} {nm : Str} (g : LB R lab) (hi : i ≤ R.length) (e : getM lab ((i : Nat) : Int) = some nm) : AR R lab i left [nm] left :=
  fun f => ⟨f, Nat.le_refl _, Nat.le_of_ble_eq_true rfl, fun x m => by cases List.mem_singleton.mp m; exact g.ok _ _ e, fun bl k hb Ls s h1 h2 => by
    obtain ⟨a, b⟩ := li_own h2 g f hi (by omega) e
    exact ⟨_, line_lab hb (g.ok _ _ e) a h1, b⟩⟩
theorem ar_more {R : List Rw} {lab : List (Int × Str)} {left as : List Str} {i : Nat} {x y : Str} (g : LB R lab) (hi : i ≤ R.length) (ho : (as = [] ∧ getM lab ((i : Nat) : Int) = none) ∨ ∃ nm, as = [nm] ∧ getM lab ((i : Nat) : Int) = some nm) : AR R lab i (x :: y :: left) ([x] ++ as ++ [y]) left := by
  intro f
  have f1 := lf_tail f
  have f2 := lf_tail f1
  have hx := f.ok x (List.mem_cons_self ..)
  have hy := f1.ok y (List.mem_cons_self ..)
  refine ⟨f2, by rw [List.length_cons, List.length_cons]; omega, ?_, ?_, fun bl k hb Ls s h1 h2 => ?_⟩
  · rcases ho with ⟨rfl, _⟩ | ⟨nm, rfl, _⟩ <;> exact Nat.le_of_ble_eq_true rfl
  · intro z m
    rcases List.mem_append.mp m with m | m
    · rcases List.mem_append.mp m with m | m
      · cases List.mem_singleton.mp m; exact hx
      · rcases ho with ⟨rfl, _⟩ | ⟨nm, rfl, e⟩
        · cases m
        · cases List.mem_singleton.mp m; exact g.ok _ _ e
    · cases List.mem_singleton.mp m; exact hy
  · obtain ⟨a1, b1⟩ := li_extra h2 f hi (by omega)
    have c1 := line_lab hb hx a1 h1
    have key : ∃ s2, linesR (Ls ++ [bl ++ (x ++ (":" : Str))] ++ labL bl as) = some s2 ∧ LI R lab (y :: left) i (i + 1) (i + 1) s2 := by
      rcases ho with ⟨rfl, e⟩ | ⟨nm, rfl, e⟩
      · exact ⟨_, by show linesR (_ ++ []) = _; rw [List.append_nil]; exact c1, li_none b1 (by omega) e⟩
      · obtain ⟨a2, b2⟩ := li_own b1 g f1 hi (by omega) e
        exact ⟨_, line_lab hb (g.ok _ _ e) a2 c1, b2⟩
    obtain ⟨s2, c2, b2⟩ := key
    obtain ⟨a3, b3⟩ := li_extra b2 f1 hi (by omega)
    refine ⟨_, ?_, b3⟩
    have c3 := line_lab hb hy a3 c2
    rw [show Ls ++ labL bl ([x] ++ as ++ [y]) = Ls ++ [bl ++ (x ++ (":" : Str))] ++ labL bl as ++ [bl ++ (y ++ (":" : Str))] from by
      unfold labL
      rw [List.map_append, List.map_append]
      simp]
    exact c3
/-- at the end -/
theorem li_end {R : List Rw} {lab : List (Int × Str)} {left : List Str} {s : Rdg} {Ls : List Str} (g : LB R lab) (h0 : 1 ≤ R.length) (h2 : R.length ≤ 200) (ok : ∀ r ∈ R, OkR R.length r) (h : linesR Ls = some s) (i : LI R lab left R.length R.length R.length s) : readR Ls = some (R.map rwV) := by
  unfold readR
  rw [h]
  show codeR s = _
  have e := i.ds
  rw [List.take_length] at e
  have l := ds_len i (Nat.le_refl _)
  unfold codeR
  rw [if_neg fun z => by rw [z] at l; exact absurd l (by simp; omega)]
  rw [rows_back (n := R.length) h2 e ok fun r m t et => by
    obtain ⟨nm, en⟩ := g.all r m t et
    exact ⟨nm, en, i.at_ t nm (by have := tgt_lt (ok r m) et; omega) en⟩]
  dsimp only
  rw [if_neg fun z => by
    obtain ⟨x, m, ex⟩ := List.mem_map.mp z
    have := i.val x m
    omega]

end
section
variable {P : Program} {w : World} {K : PySem.W.Frag} {mg : Str → Option Value} {base : Heap}

theorem lineR_ms {s s2 : Rdg} {e : Str × Nat} (h : lineR (some s) e = some s2) : s2.ms.length ≤ s.ms.length + 1 ∧ (s.ds.length ≤ 200 → s2.ds.length ≤ 200) := by
  have h : (if Tx.lineW e.1 = [] then some s else putR s (Tx.lineW e.1) ((e.2 : Nat) + 1)) = some s2 := h
  split at h
  · cases h; exact ⟨Nat.le_succ _, id⟩
  · unfold putR at h
    split at h
    · split at h
      · cases h
        exact ⟨by rw [List.length_append]; exact Nat.le_refl _, id⟩
      · cases h
    · split at h
      · cases h
      · split at h
        · rename_i hc
          cases h
          exact ⟨Nat.le_succ _, fun z => by rw [List.length_append]; have := hc.1.2; simp only [List.length_cons, List.length_nil]; omega⟩
        · cases h
theorem lineR_ds {s s2 : Rdg} {e : Str × Nat} (h : lineR (some s) e = some s2) : ∀ d ∈ s2.ds, d ∈ s.ds ∨ (d.1 = Tx.lineW e.1 ∧ Tx.lineW e.1 ≠ []) := by
  have h : (if Tx.lineW e.1 = [] then some s else putR s (Tx.lineW e.1) ((e.2 : Nat) + 1)) = some s2 := h
  split at h
  · cases h; exact fun d m => .inl m
  · rename_i ne
    unfold putR at h
    split at h
    · split at h
      · cases h; exact fun d m => .inl m
      · cases h
    · split at h
      · cases h
      · split at h
        · cases h
          intro d m
          rcases List.mem_append.mp m with m | m
          · exact .inl m
          · cases List.mem_singleton.mp m
            exact .inr ⟨rfl, ne⟩
        · cases h
theorem goodD_of {Z : List Dft} (h : ∀ d ∈ dsOf Z, d.1 ≠ [] ∧ d.1.length ≤ 90000 ∧ ∀ w ∈ d.1, w.length ≤ 90000) : GoodD Z := fun e m => h (e.ws, e.ln) (List.mem_map.mpr ⟨e, m, rfl⟩)
theorem of_goodD {Z : List Dft} (h : GoodD Z) : ∀ d ∈ dsOf Z, d.1 ≠ [] ∧ d.1.length ≤ 90000 ∧ ∀ w ∈ d.1, w.length ≤ 90000 := by
  intro d m
  obtain ⟨e, me, rfl⟩ := List.mem_map.mp m
  exact h e me
theorem linesR_take {ls : List Str} {i : Nat} {y : Str} (h : ls[i]? = some y) : linesR (ls.take (i + 1)) = lineR (linesR (ls.take i)) (y, i) := by
  rw [take_snoc h, linesR_snoc, take_len h]
theorem linesR_some {ls : List Str} {s : Rdg} (h : linesR ls = some s) (i : Nat) : ∃ s1, linesR (ls.take i) = some s1 := by
  cases e : linesR (ls.take i) with
  | some s1 => exact ⟨s1, rfl⟩
  | none =>
    refine absurd e (linesR_pre (b := ls.drop i) ?_)
    rw [List.take_append_drop, h]
    exact fun z => nomatch z
/-- words of a line, as the comprehension has them -/
theorem wordsV (y : Str) : (((Txt.split y " ").map V.str).filter fun v => !decide (v = V.str "")).map (fun v => v) = (Tx.lineW y).map V.str := by
  rw [List.map_id', List.filter_map, ← Tx.lineW_eq y " " Tx.sp_tl]
  congr 1
  refine List.filter_congr fun w _ => ?_
  show (!decide (V.str w = V.str "")) = decide (w ≠ "")
  by_cases h : w = ""
  · rw [decide_eq_true (congrArg V.str h), decide_eq_false (fun z => z h)]
    rfl
  · rw [decide_eq_false (fun z => h (V.str.inj z)), decide_eq_true h]
    rfl

def sp_read (T : Txt K mg) : Sp := fun vs H Q _ => ∃ (y : Str) (ls : List Str) (rs : List (List V)) (L : List SA), vs = [.str y] ∧ (Txt.split y "\n" = ls ∧ readR ls = some rs ∧ y.length ≤ 80000) ∧ Hd L H ∧ ∀ p xs H', Hd (progA T.C_Program p xs :: tupsA xs rs :: L) H' → Q (.ref p) H'
theorem ok_read (T : Txt K mg) (FW : T.wP = w.params) : FnOk P w K mg base CX0 7 T.a_read T.d_read ["text"] (sp_read T) := by
  refine T.f_read.ok sc_read (fun vs H Q E h => ?_) (fun cdv A outer s H vs Q E hr h => ?_)
  · obtain ⟨y, ls, rs, L, rfl, _⟩ := h
    rfl
  · obtain ⟨y, ls, rs, L, rfl, h⟩ := h
    refine ⟨_, (pss_cons (ps_if (pt_not (pt_val (pe_callB (k_isA (K := K) rfl) (by rfl) T.n_isinstance (by decide +kernel) (pa_cons (pv 0) (pa_cons (pe_bltn (v := .ty "str") (by rfl) T.n_str (by decide +kernel) rfl) pa_nil)))))
        (pss_one ps_never)
        pss_nil)
       (pss_cons (ps_set (i := 1) sc_read.nd rfl (by first | exact Or.inl rfl | exact Or.inr rfl) (pe_make0 T.mk_Reading (ok_Reading_init T) (hr.mono (by decide)) (by rfl) T.g_Reading T.b_Reading_init .nil pass0))
       (pss_cons (ps_set (i := 2) sc_read.nd rfl (by first | exact Or.inl rfl | exact Or.inr rfl) (k_bm (K := K) rfl (pe_bm PySem.F.plainAttrs_str PySem.F.slot_str_split PySem.F.type_str_split Tx.k_mtSplit (pv 0) (pa_cons pe_str pa_nil))))
       (pss_cons (ps_for PassesOwn.never rfl (pi_enum (by rfl) T.n_enumerate (pa_cons (pv 2) pa_nil)) (k_gTup (K := K) (n := 2) rfl (pg_tup (n := 2) (by rfl) (pgs_cons (pg_name (i := 3) sc_read.nd rfl (by first | exact Or.inl rfl | exact Or.inr rfl)) (pgs_cons (pg_name (i := 4) sc_read.nd rfl (by first | exact Or.inl rfl | exact Or.inr rfl)) pgs_nil))))
        (pss_cons (ps_setLc (i := 5) (own := [("word", 6)]) rfl sc_read.nd rfl rfl (sw_true rfl rfl rfl (by decide +kernel)) (pi_list (k_bm (K := K) rfl (pe_bm PySem.F.plainAttrs_str PySem.F.slot_str_split PySem.F.type_str_split Tx.k_mtSplit (pv 4) (pa_cons pe_str pa_nil)))) (blkOk_by (N := ["text", "reading", "lines", "number", "line", "words", "word"]) (sc := defScope s_read) (by decide +kernel)) (fun _ _ _ _ _ => (pg_name (i := 6) sc_read.nd rfl (by first | exact Or.inl rfl | exact Or.inr rfl))) (fun s_0 H_0 C_0 cl_0 fp_0 => (pts_one (pt_cmpR (k_ne (K := K) rfl hr.units) (pv 6) pe_str (nomark _)))) (fun s_0 H_0 C_0 cl_0 fp_0 => (pv 6)))
       (pss_one (ps_if (pt_cmpR (Tx.op_neL0 (K := K) rfl hr.units) (pv 5) (pe_lst pa_nil) (nomark _))
        (pss_one (ps_expr (pe_meth (pv 1) T.cl_Reading T.m_Reading_put (ok_Reading_put T FW) hr T.b_Reading_put .nil pass0 (pa_cons (pv 5) (pa_cons (pe_op (k_add (K := K) rfl) (pv 3) pe_int) pa_nil)))))
        pss_nil))))
       (pss_one (ps_ret (pe_make T.mk_Program (ok_Program_init T) (hr.mono (by decide)) (by rfl) T.g_Program T.b_Program_init .nil pass0 (pa_cons (pe_meth (pv 1) T.cl_Reading T.m_Reading_code (ok_Reading_code T FW) hr T.b_Reading_code .nil pass0 (pa_cons (pe_callB (k_len (K := K) rfl) (by rfl) T.n_len (by decide +kernel) (pa_cons (pv 2) pa_nil)) pa_nil)) pa_nil)))))))), ?_⟩
    try dsimp only [cxOf]
    obtain ⟨⟨hls, hrd, hy⟩, hs, q⟩ := h
    unfold readR at hrd
    obtain ⟨s9, hs9, hcd⟩ : ∃ s, linesR ls = some s ∧ codeR s = some rs := by
      cases e : linesR ls with
      | none => rw [e] at hrd; cases hrd
      | some s => rw [e] at hrd; exact ⟨s, rfl, hrd⟩
    obtain ⟨sl1, sl2⟩ := Tx.split_len (x := y) Tx.nl_tl (by decide)
    rw [hls] at sl1 sl2
    walk_at "run"
    obtain ⟨p, ep⟩ : ∃ F, F = q_ := ⟨_, rfl⟩
    rw [← ep] at hs ⊢
    refine ⟨p, dx_, _, rfl, hs, fun H hs => ⟨rfl, ?_⟩⟩
    walk_at "run"
    refine Tx.r_split hs (by decide +kernel) (by have h9 : (100000 : Nat) ≤ sizeLine := (by decide); omega) fun l H hs => ?_
    rw [hls] at hs
    walk_at "run"
    refine Sl.r_forE (ls.map V.str) (fun i σ H => ∃ (v3 v4 v5 : Option V) (Z : List Dft) (s : Rdg), (linesR (ls.take i) = some s ∧ s.ds = dsOf Z ∧ GoodD Z ∧ s.ms.length ≤ i ∧ Z.length ≤ 200) ∧ σ = [some (.str y), some (.ref p), some (.ref l), v3, v4, v5, none] ∧ Hd (rdgA T.C_Reading p Z s.ms :: pto l (.lst (ls.map V.str)) :: L) H) ⟨_, _, _, [], ⟨[], []⟩, ⟨rfl, rfl, fun _ m => (nomatch m), Nat.zero_le _, Nat.zero_le _⟩, rfl, Hd.mt (by walk_at "mt") hs⟩ (fun i σ H _ ⟨_, _, _, _, _, _, _, z⟩ => z.sq (a := l) (by walk_at "pull")) ?_ ?_
    · clear hs
      rintro i x TT σ H hx ⟨v3, v4, v5, Z, s1, ⟨h1, h2, h3, h4, h5⟩, rfl, hs⟩ hT
      have hs := hs.new (o := .tup [.int (i : Nat), x]) hT
      rw [List.getElem?_map] at hx
      obtain ⟨y1, hy1, rfl⟩ := Option.map_eq_some_iff.mp hx
      have hi := (List.getElem?_eq_some_iff.mp hy1).1
      have ly := sl1 y1 (List.mem_of_getElem? hy1)
      obtain ⟨lw1, lw2⟩ := Tx.lineW_len y1
      obtain ⟨sw1, sw2⟩ := Tx.split_len (x := y1) Tx.sp_tl (by decide)
      obtain ⟨s2, e2⟩ := linesR_some hs9 (i + 1)
      have e3 := linesR_take hy1
      rw [e2, h1] at e3
      have hb := lineR_ms e3.symm
      walk_at "run"
      refine Tx.r_split hs (by decide +kernel) (by have h9 : (100000 : Nat) ≤ sizeLine := (by decide); omega) fun l2 H hs => ?_
      walk_at "run"
      refine Sl.r_lcV ((Txt.split y1 " ").map V.str) (fun v => !decide (v = V.str "")) (fun v => v) hs (by rw [List.length_map]; omega) (fun H hs => hs.sq (a := l2) (by walk_at "pull")) ?_ ?_
      · clear hs
        rintro D acc x H N M mx hs hN hM
        obtain ⟨w1, mw, rfl⟩ := List.mem_map.mp mx
        walk_at "run"
        by_cases hw : w1 = ""
        · have e9 : (!decide (V.str w1 = V.str "")) = false := by rw [decide_eq_true (congrArg V.str hw)]; rfl
          rw [decide_eq_true hw]
          walk_at "run"
          exact hM e9
        · have e9 : (!decide (V.str w1 = V.str "")) = true := by rw [decide_eq_false fun z => hw (V.str.inj z)]; rfl
          rw [decide_eq_false hw]
          walk_at "run"
          exact hN e9
      clear hs
      rintro W H hs
      rw [wordsV] at hs
      walk_at "run"
      have e4 : (if Tx.lineW y1 = [] then some s1 else putR s1 (Tx.lineW y1) ((i : Nat) + 1)) = some s2 := e3.symm
      have l2 : ∀ Z1 : List Dft, dsOf Z1 = s2.ds → Z1.length ≤ 200 := fun Z1 hz => by
        have := hb.2 (by rw [h2]; unfold dsOf; rw [List.length_map]; exact h5)
        rw [← hz] at this
        unfold dsOf at this
        rwa [List.length_map] at this
      have gd2 : ∀ Z1 : List Dft, dsOf Z1 = s2.ds → GoodD Z1 := fun Z1 hz => goodD_of fun d m => by
        rw [hz] at m
        rcases lineR_ds e3.symm d m with m | ⟨m1, m2⟩
        · rw [h2] at m
          exact of_goodD h3 d m
        · dsimp only at m1 m2
          rw [m1]
          exact ⟨m2, by omega, fun w mw => by have := lw1 w mw; omega⟩
      by_cases hW : Tx.lineW y1 = []
      · rw [if_pos hW] at e4
        cases e4
        rw [hW]
        walk_at "run"
        exact ⟨_, _, _, Z, s1, ⟨e2, h2, h3, by omega, h5⟩, rfl, Hd.mt (by walk_at "mt") hs⟩
      · rw [if_neg hW] at e4
        rw [show ((Tx.lineW y1).map V.str).isEmpty = false from by
          cases hw : Tx.lineW y1 with
          | nil => exact absurd hw hW
          | cons _ _ => rfl]
        walk_at "run"
        refine ⟨p, W, Z, s1.ms, Tx.lineW y1, (i : Nat) + 1, s2, _, rfl, ⟨by rw [← h2]; exact e4, hW, by omega, h5, by omega, fun w mw => by have := lw1 w mw; omega⟩, Hd.mt (by walk_at "mt") hs, fun Z1 H hz hs => ?_⟩
        walk_at "run"
        exact ⟨_, _, _, Z1, s2, ⟨e2, hz.symm, gd2 Z1 hz, by omega, l2 Z1 hz⟩, rfl, Hd.mt (by walk_at "mt") hs⟩
    clear hs
    rintro σ H ⟨v3, v4, v5, Z, s1, ⟨h1, h2, h3, h4, h5⟩, rfl, hs⟩
    rw [List.length_map, List.take_length, hs9] at h1
    cases h1
    rw [List.length_map] at h4
    walk_at "run"
    rename_i g gdx _
    refine ⟨p, Z, s9.ms, _, rs, _, rfl, ⟨by rw [← h2]; exact hcd, h5, by omega, h3⟩, Hd.mt (by walk_at "mt") hs, fun F xs H hs => ?_⟩
    walk_at "run"
    refine ⟨q_, dx_, F, xs, _, rfl, Hd.mt (by walk_at "mt") hs, fun H hs => ⟨rfl, ?_⟩⟩
    exact q _ xs _ (Hd.mt (by walk_at "mt") hs)
end
section
variable {P : Program} {w : World} {K : PySem.W.Frag} {mg : Str → Option Value} {base : Heap}

/-! ### names of labels -/
def NSa : List Str := ["set", "a", "ask", "by", "la", "lb", "l", "zzzzzzzz", "go", "h"]
def NSb (b : Str) : List Str := (List.range 210).map fun k => b ++ lettM (26 + k)
def namesM (f m : Nat) (b : Str) : List Str := ((NSa.drop f ++ NSa.take f).take m) ++ NSb b
theorem okLab_of {w : Str} (h1 : 1 ≤ w.length) (h2 : w.length ≤ 8) (h : ∀ c ∈ w.cps.toList, 97 ≤ c ∧ c ≤ 122) : okLab w = true := by
  unfold okLab
  have z : ∀ c ∈ List.range 123, 97 ≤ c → c ∈ smallS := by decide +kernel
  rw [decide_eq_true h1, decide_eq_true h2, Bool.true_and, Bool.true_and, List.all_eq_true]
  intro x mx
  obtain ⟨c, mc, rfl⟩ := List.mem_map.mp mx
  have := h c mc
  exact decide_eq_true (z c (List.mem_range.mpr (by omega)) this.1)
theorem lett_tl {n : Nat} (h : 26 ≤ n) : (lettM n).cps.toList = [97 + n / 26 % 26, 97 + n % 26] := by
  unfold lettM
  rw [if_neg (by omega), tl_app]
  rfl
theorem NSb_nodup (b : Str) : (NSb b).Nodup := by
  unfold NSb
  rw [List.nodup_iff_pairwise_ne, List.pairwise_map]
  refine (List.pairwise_lt_range (n := 210)).imp_of_mem fun {x y} mx my (h : x < y) e => ?_
  have hx := List.mem_range.mp mx
  have hy := List.mem_range.mp my
  have e2 := congrArg (fun z : Str => z.cps.toList) e
  have e2 : (b ++ lettM (26 + x)).cps.toList = (b ++ lettM (26 + y)).cps.toList := e2
  rw [tl_app, tl_app] at e2
  have e3 := List.append_cancel_left e2
  rw [lett_tl (by omega), lett_tl (by omega)] at e3
  injection e3 with e4 e5
  injection e5 with e5 _
  omega
theorem NSb_ok {b : Str} (h : ∀ c ∈ b.cps.toList, 97 ≤ c ∧ c ≤ 122) (hl : b.length ≤ 6) : ∀ x ∈ NSb b, okLab x = true := by
  intro x m
  obtain ⟨k, mk, rfl⟩ := List.mem_map.mp m
  have hk := List.mem_range.mp mk
  have h2 : (lettM (26 + k)).length = 2 := by
    have e := congrArg List.length (lett_tl (show 26 ≤ 26 + k by omega))
    have z : (lettM (26 + k)).cps.toList.length = (lettM (26 + k)).length := Array.length_toList
    rw [z] at e
    exact e
  refine okLab_of (by rw [Str.length_append]; omega) (by rw [Str.length_append]; omega) fun c mc => ?_
  rw [tl_app, lett_tl (by omega)] at mc
  rcases List.mem_append.mp mc with mc | mc
  · exact h c mc
  · simp only [List.mem_cons, List.not_mem_nil, or_false] at mc
    rcases mc with rfl | rfl <;> omega
theorem names_good {f m : Nat} {b : Str} (hb : b = "q" ∨ b = "ab" ∨ b = "xyzzy") : (namesM f m b).Nodup ∧ (∀ x ∈ namesM f m b, okLab x = true) ∧ 210 ≤ (namesM f m b).length ∧ (namesM f m b).length ≤ 230 := by
  have bs : (∀ c ∈ b.cps.toList, 97 ≤ c ∧ c ≤ 122) ∧ b.length ≤ 6 ∧ ∀ x ∈ NSa, x.cps.toList.take b.cps.toList.length ≠ b.cps.toList := by
    rcases hb with rfl | rfl | rfl <;> decide +kernel
  obtain ⟨b1, b2, b3⟩ := bs
  have a1 : ∀ x ∈ NSa, okLab x = true := by decide +kernel
  have a2 : NSa.Nodup := by decide +kernel
  have pm : (NSa.drop f ++ NSa.take f).Perm NSa := by
    have := List.perm_append_comm (l₁ := NSa.drop f) (l₂ := NSa.take f)
    rw [List.take_append_drop] at this
    exact this
  have sub : ∀ x ∈ (NSa.drop f ++ NSa.take f).take m, x ∈ NSa := fun x mx => pm.mem_iff.mp (List.mem_of_mem_take mx)
  have lb : (NSb b).length = 210 := by unfold NSb; rw [List.length_map, List.length_range]
  have la : ((NSa.drop f ++ NSa.take f).take m).length ≤ 10 := by
    have h1 := List.length_take_le m (NSa.drop f ++ NSa.take f)
    have h2 := List.length_take_le' m (NSa.drop f ++ NSa.take f)
    have h3 := pm.length_eq
    have h4 : NSa.length = 10 := rfl
    omega
  refine ⟨?_, ?_, ?_, ?_⟩
  · unfold namesM
    rw [List.nodup_append]
    refine ⟨(pm.nodup_iff.mpr a2).sublist (List.take_sublist _ _), NSb_nodup b, fun x mx y my => ?_⟩
    rintro rfl
    obtain ⟨k, _, e⟩ := List.mem_map.mp my
    refine b3 x (sub x mx) ?_
    rw [← e, tl_app, List.take_left]
  · intro x mx
    rcases List.mem_append.mp mx with mx | mx
    · exact a1 x (sub x mx)
    · exact NSb_ok b1 b2 x mx
  · unfold namesM
    rw [List.length_append]
    omega
  · unfold namesM
    rw [List.length_append]
    omega
/-! ### blanks -/
def blS (k : Nat) : Str := Tx.mkS (List.replicate k 32)
theorem bl_tl (k : Nat) : (blS k).cps.toList = List.replicate k 32 := rfl
theorem bl_len (k : Nat) : (blS k).length = k := by
  have z : (blS k).cps.toList.length = (blS k).length := Array.length_toList
  rw [bl_tl, List.length_replicate] at z
  exact z.symm
theorem flat_one (k : Nat) : (List.replicate k [32]).flatten = List.replicate k 32 := by
  induction k with
  | zero => rfl
  | succ k ih => rw [List.replicate_succ, List.flatten_cons, ih, List.replicate_succ]; rfl
theorem r_blank {H : Hp} {Q : VK} {n : Nat} (hn : n ≤ 3) (q : Q (.str (blS n)) H) : Tx.rMulS (.str " ") (.int (n : Nat)) H Q := by
  refine Tx.r_mulS hn (by decide +kernel) fun r hr => ?_
  rw [show (" " : Str).cps.toList = [32] from Tx.sp_tl, flat_one] at hr
  have : r = blS n := TL.ext_tl hr
  rw [this]
  exact q
/-! ### the labels that are taken -/
theorem nd_inj {α : Type} {l : List α} {i j : Nat} {x : α} (nd : l.Nodup) (h1 : l[i]? = some x) (h2 : l[j]? = some x) : i = j :=
  (List.getElem?_inj (List.getElem?_eq_some_iff.mp h1).1 nd).mp (h1.trans h2.symm)
theorem keys_zip {A : List Int} {NS : List Str} (h : A.length ≤ NS.length) : keysM (A.zip NS) = A := by
  unfold keysM
  exact List.map_fst_zip h
theorem lb_zip {R : List Rw} {NS : List Str} (ok : ∀ r ∈ R, OkR R.length r) (hl : (srt (asked R)).length ≤ NS.length) (nd : NS.Nodup) (okn : ∀ x ∈ NS, okLab x = true) : LB R ((srt (asked R)).zip NS) ∧ LF ((srt (asked R)).zip NS) (NS.drop (srt (asked R)).length) := by
  have at_ : ∀ t nm, getM ((srt (asked R)).zip NS) t = some nm → ∃ i : Nat, (srt (asked R))[i]? = some t ∧ NS[i]? = some nm := fun t nm h => by
    obtain ⟨i, hi⟩ := List.mem_iff_getElem?.mp (getM_mem h)
    exact ⟨i, List.getElem?_zip_eq_some.mp hi⟩
  refine ⟨⟨fun t nm h => ?_, fun t u nm h1 h2 => ?_, fun r m t e => ?_, fun t nm h => ?_⟩, ⟨fun x m => okn x (List.mem_of_mem_drop m), nd.sublist (List.drop_sublist _ _), fun t nm h m => ?_⟩⟩
  · obtain ⟨i, _, h2⟩ := at_ t nm h
    exact okn nm (List.mem_of_getElem? h2)
  · obtain ⟨i, a1, a2⟩ := at_ t nm h1
    obtain ⟨j, b1, b2⟩ := at_ u nm h2
    have : i = j := nd_inj nd a2 b2
    subst this
    rw [a1] at b1
    exact Option.some.inj b1
  · refine getM_in ?_
    rw [keys_zip hl]
    exact ((srt_perm _).mem_iff).mpr (((asked_spec R).2 t).mpr ⟨r, m, e⟩)
  · obtain ⟨i, h1, _⟩ := at_ t nm h
    have m := ((srt_perm (asked R)).mem_iff).mp (List.mem_of_getElem? h1)
    obtain ⟨r, mr, e⟩ := ((asked_spec R).2 t).mp m
    exact (tgt_lt (ok r mr) e).1
  · obtain ⟨i, h1, h2⟩ := at_ t nm h
    have hi := (List.getElem?_eq_some_iff.mp h1).1
    obtain ⟨j, hj⟩ := List.mem_iff_getElem?.mp m
    rw [List.getElem?_drop] at hj
    have := nd_inj nd h2 hj
    omega
/-! ### a row's words: signs -/
theorem rwW_signs {n : Nat} {r : Rw} {lab : List (Int × Str)} (ok : OkR n r) (hl : ∀ t nm, getM lab t = some nm → okLab nm = true) (ha : ∀ t, tgt r = some t → ∃ nm, getM lab t = some nm) : ∀ w ∈ rwW lab r, w.cps.toList ≠ [] ∧ 32 ∉ w.cps.toList ∧ 10 ∉ w.cps.toList := by
  intro w m
  rcases List.mem_cons.mp m with rfl | m
  · have z : ∀ e ∈ formsK, e.1.cps.toList ≠ [] ∧ 32 ∉ e.1.cps.toList ∧ 10 ∉ e.1.cps.toList := by decide +kernel
    exact z _ (word_form ok)
  · obtain ⟨⟨c, v⟩, me, rfl⟩ := List.mem_map.mp m
    rcases part_at (prs_ok ok me) with ⟨rfl, g, hg, rfl⟩ | ⟨rfl, g, g0, g1, rfl⟩ | ⟨rfl, g, hg, rfl⟩
    · show (rg g).cps.toList ≠ [] ∧ 32 ∉ (rg g).cps.toList ∧ 10 ∉ (rg g).cps.toList
      rw [(rg_sign hg).1]
      refine ⟨List.cons_ne_nil _ _, fun z => ?_, fun z => ?_⟩ <;> (have := List.mem_singleton.mp z; omega)
    · show (toString g : Str).cps.toList ≠ [] ∧ 32 ∉ (toString g : Str).cps.toList ∧ 10 ∉ (toString g : Str).cps.toList
      obtain ⟨k, rfl⟩ := Int.eq_ofNat_of_zero_le g0
      rw [show (toString ((k : Nat) : Int) : Str).cps.toList = TL.numL k from TL.tl_num k]
      exact ⟨TL.numL_ne k, TL.numL_free (.inl (by decide)), TL.numL_free (.inl (by decide))⟩
    · obtain ⟨t, e1, e2⟩ := prs_tgt me
      cases e1
      obtain ⟨nm, h1⟩ := ha _ e2
      show ((getM lab ((g : Nat) : Int)).getD "").cps.toList ≠ [] ∧ 32 ∉ ((getM lab ((g : Nat) : Int)).getD "").cps.toList ∧ 10 ∉ ((getM lab ((g : Nat) : Int)).getD "").cps.toList
      rw [h1]
      have k := hl _ _ h1
      exact ⟨ne_of_len (okLab_spec k).1, okLab_free k (by decide), okLab_free k (by decide)⟩

end
section
variable {P : Program} {w : World} {K : PySem.W.Frag} {mg : Str → Option Value} {base : Heap}
def sp_law_names (T : Txt K mg) : Sp := fun vs H Q _ => ∃ (d : Addr) (L : List SA), vs = [.ref d] ∧ Hd (stB d :: L) H ∧ ∀ (a : Addr) (NS : List Str) (H' : Hp), (NS.Nodup ∧ (∀ x ∈ NS, okLab x = true) ∧ 210 ≤ NS.length ∧ NS.length ≤ 230) → Hd (pto a (.lst (NS.map V.str)) :: stB d :: L) H' → Q (.ref a) H'
theorem ok_law_names (T : Txt K mg) : FnOk P w K mg base CX0 4 T.a_law_names T.d_law_names ["_law_state_here"] (sp_law_names T) := by
  refine T.f_law_names.ok sc_law_names (fun vs H Q E h => ?_) (fun cdv A outer s H vs Q E hr h => ?_)
  · obtain ⟨d, L, rfl, _⟩ := h
    rfl
  · obtain ⟨d, L, rfl, h⟩ := h
    refine ⟨_, (pss_cons (ps_set (i := 1) sc_law_names.nd rfl (by first | exact Or.inl rfl | exact Or.inr rfl) (pe_lst (pa_cons pe_str (pa_cons pe_str (pa_cons pe_str (pa_cons pe_str (pa_cons pe_str (pa_cons pe_str (pa_cons pe_str (pa_cons pe_str (pa_cons pe_str (pa_cons pe_str pa_nil))))))))))))
       (pss_cons (ps_set (i := 2) sc_law_names.nd rfl (by first | exact Or.inl rfl | exact Or.inr rfl) (pe_op (k_mod (K := K) rfl) (pe_call (ok_law_next T) (hr.mono (by decide)) (by rfl) T.g_law_next T.f_law_next.kp T.b_law_next .nil pass0 (pa_cons (pv 0) pa_nil)) pe_int))
       (pss_cons (ps_set (i := 1) sc_law_names.nd rfl (by first | exact Or.inl rfl | exact Or.inr rfl) (pe_op (k_add (K := K) rfl) (pe_slice (k_slL (K := K) rfl) (pv 1) (po_some (pv 2)) po_none) (pe_slice (k_slL (K := K) rfl) (pv 1) po_none (po_some (pv 2)))))
       (pss_cons (ps_set (i := 3) sc_law_names.nd rfl (by first | exact Or.inl rfl | exact Or.inr rfl) (pe_ix (k_ix (K := K) rfl (hu_of hr)) (pe_lst (pa_cons pe_str (pa_cons pe_str (pa_cons pe_str pa_nil)))) (pe_op (k_mod (K := K) rfl) (pe_call (ok_law_next T) (hr.mono (by decide)) (by rfl) T.g_law_next T.f_law_next.kp T.b_law_next .nil pass0 (pa_cons (pv 0) pa_nil)) pe_int) (fun _ _ => rfl)))
       (pss_one (ps_ret (pe_op (k_add (K := K) rfl) (pe_slice (k_slL (K := K) rfl) (pv 1) po_none (po_some (pe_op (k_mod (K := K) rfl) (pe_call (ok_law_next T) (hr.mono (by decide)) (by rfl) T.g_law_next T.f_law_next.kp T.b_law_next .nil pass0 (pa_cons (pv 0) pa_nil)) pe_int))) (pe_lc (own := [("_law_k", 4)]) rfl sc_law_names.nd (pi_range1 (by rfl) T.n_range (pa_cons pe_int pa_nil)) (blkOk_by (N := ["_law_state_here", "_law_some", "_law_first", "_law_border", "_law_k"]) (sc := defScope s_law_names) (by decide +kernel)) (fun _ _ _ _ _ => (pg_name (i := 4) sc_law_names.nd rfl (by first | exact Or.inl rfl | exact Or.inr rfl))) (fun s_0 H_0 C_0 cl_0 fp_0 => pts_nil) (fun s_0 H_0 C_0 cl_0 fp_0 => (pe_op (k_add (K := K) rfl) (pv 3) (pe_call (ok_law_letters T) hr (by rfl) T.g_law_letters T.f_law_letters.kp T.b_law_letters .nil pass0 (pa_cons (pe_op (k_add (K := K) rfl) pe_int (pv 4)) pa_nil)))))))))))), ?_⟩
    try dsimp only [cxOf]
    obtain ⟨hs, q⟩ := h
    walk_at "run"
    refine ⟨d, _, rfl, Hd.mt (by walk_at "mt") hs, fun n1 H n10 hs => ?_⟩
    walk_at "run"
    have f0 := Int.emod_nonneg n1 (by decide : (10 : Int) ≠ 0)
    obtain ⟨f, ef⟩ : ∃ f : Nat, n1 % 10 = (f : Int) := ⟨_, (Int.toNat_of_nonneg f0).symm⟩
    rw [ef] at hs
    rw [show cutV [V.str "set", V.str "a", V.str "ask", V.str "by", V.str "la", V.str "lb", V.str "l", V.str "zzzzzzzz", V.str "go", V.str "h"] (some (f : Int)) none = (NSa.drop f).map V.str from Sl.cut_lo (fun z : Str => V.str z) NSa f] at hs
    rw [show cutV [V.str "set", V.str "a", V.str "ask", V.str "by", V.str "la", V.str "lb", V.str "l", V.str "zzzzzzzz", V.str "go", V.str "h"] none (some (f : Int)) = (NSa.take f).map V.str from Sl.cut_hi (fun z : Str => V.str z) NSa f] at hs
    have l10 : NSa.length = 10 := rfl
    refine Sl.r_addL hs (hs.get (by walk_at "pull")) (hs.get (by walk_at "pull")) (Sl.sz (by rw [List.length_map, List.length_map, List.length_drop, List.length_take]; omega)) fun sm H hs => ?_
    rw [← List.map_append] at hs
    have hs : Hd (pto sm (.lst ((NSa.drop f ++ NSa.take f).map V.str)) :: stB d :: L) _ := Hd.mt (by walk_at "mt") hs
    walk_at "run"
    refine ⟨d, _, rfl, Hd.mt (by walk_at "mt") hs, fun n2 H n20 hs => ?_⟩
    walk_at "run"
    have bx : ∃ b : Str, atI [V.str "q", V.str "ab", V.str "xyzzy"] (n2 % 3) = some (.str b) ∧ (b = "q" ∨ b = "ab" ∨ b = "xyzzy") := by
      have h1 := Int.emod_nonneg n2 (by decide : (3 : Int) ≠ 0)
      have h2 := Int.emod_lt_of_pos n2 (by decide : (0 : Int) < 3)
      generalize n2 % 3 = k at h1 h2
      rcases (show k = 0 ∨ k = 1 ∨ k = 2 by omega) with rfl | rfl | rfl
      · exact ⟨_, rfl, .inl rfl⟩
      · exact ⟨_, rfl, .inr (.inl rfl)⟩
      · exact ⟨_, rfl, .inr (.inr rfl)⟩
    obtain ⟨b, eb, hb⟩ := bx
    have bl : b.length ≤ 5 := by rcases hb with rfl | rfl | rfl <;> decide +kernel
    refine Sl.r_ixL (hs.sq (by walk_at "pull")) eb ?_
    walk_at "run"
    refine ⟨d, _, rfl, Hd.mt (by walk_at "mt") hs, fun n3 H n30 hs => ?_⟩
    walk_at "run"
    have m0 := Int.emod_nonneg n3 (by decide : (11 : Int) ≠ 0)
    obtain ⟨m, em⟩ : ∃ m : Nat, n3 % 11 = (m : Int) := ⟨_, (Int.toNat_of_nonneg m0).symm⟩
    rw [em] at hs
    rw [show cutV ((NSa.drop f ++ NSa.take f).map V.str) none (some (m : Int)) = ((NSa.drop f ++ NSa.take f).take m).map V.str from Sl.cut_hi (fun z : Str => V.str z) _ m] at hs
    obtain ⟨sa, esa⟩ : ∃ F, F = q_ := ⟨_, rfl⟩
    rw [← esa] at hs ⊢
    have hs : Hd (pto sa (.lst (((NSa.drop f ++ NSa.take f).take m).map V.str)) :: stB d :: L) _ := Hd.mt (by walk_at "mt") hs
    refine Sl.r_lcR (fun D i H => Hd (pto D (.lst (((List.range i).map fun k => b ++ lettM (26 + k)).map V.str)) :: pto sa (.lst (((NSa.drop f ++ NSa.take f).take m).map V.str)) :: stB d :: L) H) hs (fun D H hs => (by show Hd (pto D (.lst []) :: _) _; exact hs)) ?_ ?_
    · clear hs
      rintro D i H hi hs
      rw [List.range_succ, List.map_append, List.map_append]
      walk_at "run"
      refine ⟨26 + i, _, congrArg (fun z : Int => [V.int z]) (by omega), by omega, hs, fun H hs => ?_⟩
      walk_at "run"
      have ll := len_lett (26 + i)
      refine Sl.r_addS (Sl.sz (by omega)) ?_
      walk_at "run"
      exact hs
    clear hs
    rintro D H hs
    obtain ⟨g1, g2, g3, g4⟩ := names_good (f := f) (m := m) hb
    have lb : (NSb b).length = 210 := by unfold NSb; rw [List.length_map, List.length_range]
    have la : ((NSa.drop f ++ NSa.take f).take m).length ≤ 20 := by
      have h1 := List.length_take_le' m (NSa.drop f ++ NSa.take f)
      have h3 : (NSa.drop f ++ NSa.take f).length ≤ 20 := by rw [List.length_append, List.length_drop, List.length_take]; omega
      omega
    have hs : Hd (pto D (.lst ((NSb b).map V.str)) :: pto sa (.lst (((NSa.drop f ++ NSa.take f).take m).map V.str)) :: stB d :: L) _ := hs
    refine Sl.r_addL hs (hs.get (by walk_at "pull")) (hs.get (by walk_at "pull")) (Sl.sz (by rw [List.length_map, List.length_map]; omega)) fun F H hs => ?_
    rw [← List.map_append, show ((NSa.drop f ++ NSa.take f).take m) ++ NSb b = namesM f m b from rfl] at hs
    walk_at "run"
    exact q F (namesM f m b) _ ⟨g1, g2, g3, g4⟩ (Hd.mt (by walk_at "mt") hs)
def sp_law_gap (T : Txt K mg) : Sp := fun vs H Q _ => ∃ (d : Addr) (L : List SA), vs = [.ref d] ∧ Hd (stB d :: L) H ∧ ∀ (k : Nat) (H' : Hp), 1 ≤ k ∧ k ≤ 3 → Hd (stB d :: L) H' → Q (.str (blS k)) H'
theorem ok_law_gap (T : Txt K mg) : FnOk P w K mg base CX0 3 T.a_law_gap T.d_law_gap ["_law_state_here"] (sp_law_gap T) := by
  refine T.f_law_gap.ok sc_law_gap (fun vs H Q E h => ?_) (fun cdv A outer s H vs Q E hr h => ?_)
  · obtain ⟨d, L, rfl, _⟩ := h
    rfl
  · obtain ⟨d, L, rfl, h⟩ := h
    refine ⟨_, (pss_one (ps_ret (pe_op Tx.op_mulS pe_str (pe_op (k_add (K := K) rfl) pe_int (pe_op (k_mul (K := K) rfl) (pe_op (k_div (K := K) rfl) (pe_op (k_mod (K := K) rfl) (pe_call (ok_law_next T) hr (by rfl) T.g_law_next T.f_law_next.kp T.b_law_next .nil pass0 (pa_cons (pv 0) pa_nil)) pe_int) pe_int) pe_int))))), ?_⟩
    try dsimp only [cxOf]
    obtain ⟨hs, q⟩ := h
    walk_at "run"
    refine ⟨d, _, rfl, Hd.mt (by walk_at "mt") hs, fun n1 H n10 hs => ?_⟩
    walk_at "run"
    obtain ⟨k, ek, k1⟩ : ∃ k : Nat, 1 + n1 % 3 / 2 * 2 = (k : Int) ∧ 1 ≤ k ∧ k ≤ 3 := ⟨(1 + n1 % 3 / 2 * 2).toNat, by omega, by omega, by omega⟩
    rw [ek]
    refine r_blank k1.2 ?_
    exact q k _ k1 hs
end
section
variable {P : Program} {w : World} {K : PySem.W.Frag} {mg : Str → Option Value} {base : Heap}

theorem r_ixJ {K : PySem.W.Frag} {x y : V} {H : Hp} {Q : VK} (P : V → Hp → Prop) (q : ∀ Q' : VK, (∀ x H, P x H → Q' x H) → rIxU K x y H Q') (a : ∀ x H, P x H → Q x H) : rIxU K x y H Q := q Q a
theorem blank0 : Tx.lineW "" = [] ∧ 10 ∉ ("" : Str).cps.toList ∧ ("" : Str).length ≤ 3 := ⟨by kernel_rfl, by decide +kernel, by decide +kernel⟩
theorem blank3 : Tx.lineW "   " = [] ∧ 10 ∉ ("   " : Str).cps.toList ∧ ("   " : Str).length ≤ 3 := ⟨by kernel_rfl, by decide +kernel, by decide +kernel⟩
theorem lines_blank : ∀ {ex Ls : List Str} {s : Rdg}, (∀ y ∈ ex, Tx.lineW y = []) → linesR Ls = some s → linesR (Ls ++ ex) = some s
  | [], Ls, s, _, h => by rw [List.append_nil]; exact h
  | y :: ex, Ls, s, hb, h => by
    rw [show Ls ++ y :: ex = (Ls ++ [y]) ++ ex from by simp]
    exact lines_blank (fun z m => hb z (List.mem_cons_of_mem _ m)) (line_blank (hb y (List.mem_cons_self ..)) h)
theorem two_of {α : Type} {l : List α} (h : 2 < l.length) : ∃ x y r, l = x :: y :: r := by
  match l, h with
  | x :: y :: r, _ => exact ⟨x, y, r, rfl⟩
theorem r_tIfJ {tt : TT} {ta tb : TE} {σ : L2.St} {H : Hp} {Q : VK} (P : V → Hp → Prop) (q : ∀ Q' : VK, (∀ x H, P x H → Q' x H) → tIf tt ta tb σ H Q') (a : ∀ x H, P x H → Q x H) : tIf tt ta tb σ H Q := q Q a
/-- the heap of the loop, but for the list that grows -/
theorem labs_pop {NS : List Str} {i : Nat} {x : Str} (h : NS[i]? = some x) : ((NS.drop i).map V.str).eraseIdx 0 = (NS.drop (i + 1)).map V.str ∧ ((NS.drop i).map V.str)[0]? = some (V.str x) := by
  obtain ⟨hi, e⟩ := List.getElem?_eq_some_iff.mp h
  rw [List.drop_eq_getElem_cons hi, e]
  exact ⟨rfl, rfl⟩
theorem keys_take {A : List Int} {NS : List Str} {i : Nat} (h : A.length ≤ NS.length) : keysM ((A.zip NS).take i) = A.take i := by
  unfold keysM
  rw [List.map_take]
  have := keys_zip h
  unfold keysM at this
  rw [this]

def sp_law_loose (T : Txt K mg) : Sp := fun vs H Q _ => ∃ (d c : Addr) (xs : List V) (R : List Rw) (L : List SA), vs = [.ref d, .ref c] ∧ (1 ≤ R.length ∧ R.length ≤ 200 ∧ ∀ r ∈ R, OkR R.length r) ∧ Hd (stB d :: pto c (.lst xs) :: rowsT xs R :: L) H ∧ ∀ (F : Addr) (Ls : List Str) (H' : Hp), (readR Ls = some (R.map rwV) ∧ Ls ≠ [] ∧ Ls.length ≤ 1000 ∧ ∀ y ∈ Ls, 10 ∉ y.cps.toList ∧ y.length ≤ 60) → Hd (pto F (.lst (Ls.map V.str)) :: stB d :: pto c (.lst xs) :: rowsT xs R :: L) H' → Q (.ref F) H'
set_option maxHeartbeats 8000000 in
theorem ok_law_loose (T : Txt K mg) : FnOk P w K mg base CX0 5 T.a_law_loose T.d_law_loose ["_law_state_here", "_law_code_here"] (sp_law_loose T) := by
  refine T.f_law_loose.ok sc_law_loose (fun vs H Q E h => ?_) (fun cdv A outer s H vs Q E hr h => ?_)
  · obtain ⟨d, c, xs, R, L, rfl, _⟩ := h
    rfl
  · obtain ⟨d, c, xs, R, L, rfl, h⟩ := h
    refine ⟨_, (pss_cons (ps_set (i := 2) sc_law_loose.nd rfl (by first | exact Or.inl rfl | exact Or.inr rfl) (pe_call (ok_law_names T) hr (by rfl) T.g_law_names T.f_law_names.kp T.b_law_names .nil pass0 (pa_cons (pv 0) pa_nil)))
       (pss_cons (ps_set (i := 3) sc_law_loose.nd rfl (by first | exact Or.inl rfl | exact Or.inr rfl) pe_dnewK)
       (pss_cons (ps_for PassesOwn.never rfl (pi_list (pe_call (ok_law_asked T) (hr.mono (by decide)) (by rfl) T.g_law_asked T.f_law_asked.kp T.b_law_asked .nil pass0 (pa_cons (pv 1) pa_nil))) (pg_name (i := 4) sc_law_loose.nd rfl (by first | exact Or.inl rfl | exact Or.inr rfl))
        (pss_one (ps_asg (k_bm (K := K) rfl (pe_bm PySem.F.plainAttrs_list PySem.F.slot_list_pop PySem.F.type_list_pop mt_popAt (pv 2) (pa_cons pe_int pa_nil))) (pg_sub (pv 3) (pv 4) (u_set (hu_of hr))))))
       (pss_cons (ps_set (i := 5) sc_law_loose.nd rfl (by first | exact Or.inl rfl | exact Or.inr rfl) (pe_lst pa_nil))
       (pss_cons (ps_for PassesOwn.never rfl (pi_enum (by rfl) T.n_enumerate (pa_cons (pv 1) pa_nil)) (k_gTup (K := K) (n := 2) rfl (pg_tup (n := 2) (by rfl) (pgs_cons (pg_name (i := 4) sc_law_loose.nd rfl (by first | exact Or.inl rfl | exact Or.inr rfl)) (pgs_cons (pg_name (i := 6) sc_law_loose.nd rfl (by first | exact Or.inl rfl | exact Or.inr rfl)) pgs_nil))))
        (pss_cons (ps_set (i := 7) sc_law_loose.nd rfl (by first | exact Or.inl rfl | exact Or.inr rfl) (pe_call (ok_law_next T) (hr.mono (by decide)) (by rfl) T.g_law_next T.f_law_next.kp T.b_law_next .nil pass0 (pa_cons (pv 0) pa_nil)))
       (pss_cons (ps_set (i := 8) sc_law_loose.nd rfl (by first | exact Or.inl rfl | exact Or.inr rfl) (pe_ifExp (pt_cmpR (k_in (K := K) rfl (hu_of hr)) (pv 4) (pv 3) (by rfl)) (pe_lst (pa_cons (pe_op (k_add (K := K) rfl) (pe_ix (k_ix (K := K) rfl (hu_of hr)) (pv 3) (pv 4) (fun _ _ => rfl)) pe_str) pa_nil)) (pe_lst pa_nil)))
       (pss_cons (ps_if (PW.pt (pw_and (pt_cmpR (k_eq (K := K) rfl hr.units) (pe_op (k_mod (K := K) rfl) (pv 7) pe_int) pe_int (nomark _)) (pw_and1 (pt_cmpR op_gt (pe_callB (k_len (K := K) rfl) (by rfl) T.n_len (by decide +kernel) (pa_cons (pv 2) pa_nil)) pe_int (nomark _)))))
        (pss_one (ps_set (i := 8) sc_law_loose.nd rfl (by first | exact Or.inl rfl | exact Or.inr rfl) (pe_op (k_add (K := K) rfl) (pe_op (k_add (K := K) rfl) (pe_lst (pa_cons (pe_op (k_add (K := K) rfl) (k_bm (K := K) rfl (pe_bm PySem.F.plainAttrs_list PySem.F.slot_list_pop PySem.F.type_list_pop mt_popAt (pv 2) (pa_cons pe_int pa_nil))) pe_str) pa_nil)) (pv 8)) (pe_lst (pa_cons (pe_op (k_add (K := K) rfl) (k_bm (K := K) rfl (pe_bm PySem.F.plainAttrs_list PySem.F.slot_list_pop PySem.F.type_list_pop mt_popAt (pv 2) (pa_cons pe_int pa_nil))) pe_str) pa_nil)))))
        pss_nil)
       (pss_cons (ps_set (i := 9) sc_law_loose.nd rfl (by first | exact Or.inl rfl | exact Or.inr rfl) (pe_call (ok_law_row_words T) (hr.mono (by decide)) (by rfl) T.g_law_row_words T.f_law_row_words.kp T.b_law_row_words .nil pass0 (pa_cons (pv 6) (pa_cons (pv 3) pa_nil))))
       (pss_cons (ps_set (i := 10) sc_law_loose.nd rfl (by first | exact Or.inl rfl | exact Or.inr rfl) (pe_ix (k_ix (K := K) rfl (hu_of hr)) (pv 9) pe_int (fun _ _ => rfl)))
       (pss_cons (ps_for PassesOwn.never rfl (pi_list (pe_slice (k_slL (K := K) rfl) (pv 9) (po_some pe_int) po_none)) (pg_name (i := 11) sc_law_loose.nd rfl (by first | exact Or.inl rfl | exact Or.inr rfl))
        (pss_one (ps_set (i := 10) sc_law_loose.nd rfl (by first | exact Or.inl rfl | exact Or.inr rfl) (pe_op (k_add (K := K) rfl) (pe_op (k_add (K := K) rfl) (pv 10) (pe_call (ok_law_gap T) (hr.mono (by decide)) (by rfl) T.g_law_gap T.f_law_gap.kp T.b_law_gap .nil pass0 (pa_cons (pv 0) pa_nil))) (pv 11)))))
       (pss_cons (ps_set (i := 5) sc_law_loose.nd rfl (by first | exact Or.inl rfl | exact Or.inr rfl) (pe_op (k_add (K := K) rfl) (pv 5) (pe_lc (own := [("_law_one", 12)]) rfl sc_law_loose.nd (pi_list (pv 8)) (blkOk_by (N := ["_law_state_here", "_law_code_here", "_law_left", "_law_labels", "_law_at", "_law_found", "_law_row", "_law_number", "_law_ahead", "_law_words", "_law_line", "_law_word", "_law_one"]) (sc := defScope s_law_loose) (by decide +kernel)) (fun _ _ _ _ _ => (pg_name (i := 12) sc_law_loose.nd rfl (by first | exact Or.inl rfl | exact Or.inr rfl))) (fun s_0 H_0 C_0 cl_0 fp_0 => pts_nil) (fun s_0 H_0 C_0 cl_0 fp_0 => (pe_op (k_add (K := K) rfl) (pe_op Tx.op_mulS pe_str (pe_op (k_mod (K := K) rfl) (pe_op (k_div (K := K) rfl) (pv 7) pe_int) pe_int)) (pv 12))))))
       (pss_cons (ps_set (i := 5) sc_law_loose.nd rfl (by first | exact Or.inl rfl | exact Or.inr rfl) (pe_op (k_add (K := K) rfl) (pv 5) (pe_ix (k_ix (K := K) rfl (hu_of hr)) (pe_lst (pa_cons (pe_lst (pa_cons pe_str pa_nil)) (pa_cons (pe_lst (pa_cons pe_str pa_nil)) (pa_cons (pe_lst pa_nil) pa_nil)))) (pe_callB (u_min2 rfl) (by rfl) T.n_min (by decide +kernel) (pa_cons pe_int (pa_cons (pe_op (k_mod (K := K) rfl) (pe_op (k_div (K := K) rfl) (pv 7) pe_int) pe_int) pa_nil))) (fun _ _ => rfl))))
       (pss_one (ps_expr (k_bm (K := K) rfl (pe_bm PySem.F.plainAttrs_list PySem.F.slot_list_append PySem.F.type_list_append mt_append (pv 5) (pa_cons (pe_op (k_add (K := K) rfl) (pe_op (k_add (K := K) rfl) (pe_op Tx.op_mulS pe_str (pe_op (k_mod (K := K) rfl) (pe_op (k_div (K := K) rfl) (pv 7) pe_int) pe_int)) (pv 10)) (pe_op Tx.op_mulS pe_str (pe_op (k_mod (K := K) rfl) (pe_op (k_div (K := K) rfl) (pv 7) pe_int) pe_int))) pa_nil))))))))))))))
       (pss_one (ps_ret (pv 5)))))))), ?_⟩
    try dsimp only [cxOf]
    obtain ⟨⟨l1, l2, ok⟩, hs, q⟩ := h
    have lx := rows_len hs (by walk_at "pull")
    have sl := srt_len R ok
    walk_at "run"
    refine ⟨d, _, rfl, hs, fun l NS H gn hs => ?_⟩
    obtain ⟨g1, g2, g3, g4⟩ := gn
    walk_at "run"
    obtain ⟨db, edb⟩ : ∃ F, F = q_ := ⟨_, rfl⟩
    rw [← edb] at hs ⊢
    refine ⟨c, xs, R, _, rfl, ⟨l2, ok⟩, Hd.mt (by walk_at "mt") hs, fun A H hs => ?_⟩
    walk_at "run"
    refine Sl.r_forL ((srt (asked R)).map V.int) (fun i σ H => (∃ v4 v5 v6 v7 v8 v9 v10 v11, σ = [some (.ref d), some (.ref c), some (.ref l), some (.ref db), v4, v5, v6, v7, v8, v9, v10, v11, none]) ∧ Hd (pto db (.dK (dM V.str (((srt (asked R)).zip NS).take i))) :: pto l (.lst ((NS.drop i).map V.str)) :: pto A (.lst ((srt (asked R)).map V.int)) :: pto c (.lst xs) :: rowsT xs R :: stB d :: L) H) ⟨⟨_, _, _, _, _, _, _, _, rfl⟩, (by show Hd (pto db (.dK []) :: pto l (.lst (NS.map V.str)) :: _) _; exact Hd.mt (by walk_at "mt") hs)⟩ (fun i σ H _ z => z.2.sq (a := A) (by walk_at "pull")) ?_ ?_
    · clear hs
      rintro i x σ H hx ⟨⟨v4, v5, v6, v7, v8, v9, v10, v11, rfl⟩, hs⟩
      rw [List.getElem?_map] at hx
      obtain ⟨u, hu, rfl⟩ := Option.map_eq_some_iff.mp hx
      have hi := (List.getElem?_eq_some_iff.mp hu).1
      have hn : NS[i]? = some NS[i] := List.getElem?_eq_getElem (by omega)
      have hz : ((srt (asked R)).zip NS)[i]? = some (u, NS[i]) := List.getElem?_zip_eq_some.mpr ⟨hu, hn⟩
      obtain ⟨p1, p2⟩ := labs_pop hn
      have nm := nodup_take srt_nodup hu
      walk_at "run"
      refine Sl.r_popAt (n := 0) hs (by rw [p1]; walk_at "put") (Sl.sz (by rw [List.length_map, List.length_drop]; omega)) p2 fun H hs => ?_
      walk_at "run"
      have lt2 := List.length_take_le i ((srt (asked R)).zip NS)
      refine Sl.r_setDi hs (by walk_at "put") (putK_dM _ _ _) (Sl.szlt (by rw [len_dM]; omega)) fun H hs => ?_
      rw [putM_nw (by rw [keys_take (by omega)]; exact nm), ← take_snoc hz] at hs
      walk_at "run"
      exact ⟨⟨_, _, _, _, _, _, _, _, rfl⟩, Hd.mt (by walk_at "mt") hs⟩
    clear hs
    rintro σ H ⟨⟨v4, v5, v6, v7, v8, v9, v10, v11, rfl⟩, hs⟩
    rw [List.length_map, List.take_of_length_le (by rw [List.length_zip]; omega)] at hs
    obtain ⟨gb, gf⟩ := lb_zip ok (by omega) g1 g2
    generalize (srt (asked R)).zip NS = lab at hs gb gf
    have hleft : (NS.drop (srt (asked R)).length).length ≤ 230 := by rw [List.length_drop]; omega
    generalize NS.drop (srt (asked R)).length = left0 at hs gf hleft
    walk_at "run"
    obtain ⟨F0, eF⟩ : ∃ F, F = q_ := ⟨_, rfl⟩
    rw [← eF] at hs ⊢
    have hs : Hd (pto F0 (.lst []) :: pto db (.dK (dM V.str lab)) :: pto l (.lst (left0.map V.str)) :: pto c (.lst xs) :: rowsT xs R :: stB d :: L) _ := Hd.mt (by walk_at "mt") hs
    have lf0 : left0.length ≤ 230 := hleft
    refine Sl.r_forE xs (fun i σ H => ∃ (v4 v6 v7 v8 v9 v10 v11 : Option V) (F : Addr) (left Ls : List Str) (s : Rdg), (linesR Ls = some s ∧ LI R lab left i i i s ∧ LF lab left ∧ left.length ≤ 230 ∧ Ls.length ≤ 5 * i ∧ ∀ y ∈ Ls, 10 ∉ y.cps.toList ∧ y.length ≤ 60) ∧ σ = [some (.ref d), some (.ref c), some (.ref l), some (.ref db), v4, some (.ref F), v6, v7, v8, v9, v10, v11, none] ∧ Hd (pto F (.lst (Ls.map V.str)) :: pto db (.dK (dM V.str lab)) :: pto l (.lst (left.map V.str)) :: pto c (.lst xs) :: rowsT xs R :: stB d :: L) H) ⟨_, _, _, _, _, _, _, F0, left0, [], ⟨[], []⟩, ⟨rfl, ⟨rfl, fun t nm ht e => absurd (gb.low t nm e) (by omega), fun _ m => (nomatch m), fun _ m => (nomatch m)⟩, gf, lf0, Nat.zero_le _, fun _ m => (nomatch m)⟩, rfl, hs⟩ (fun i σ H _ ⟨_, _, _, _, _, _, _, _, _, _, _, _, _, z⟩ => z.sq (a := c) (by walk_at "pull")) ?_ ?_
    · clear hs
      rintro i x TT σ H hx ⟨v4, v6, v7, v8, v9, v10, v11, F, left, Ls, s1, ⟨h1, h2, h3, h4, h5, h6⟩, rfl, hs⟩ hT
      have hs := hs.new (o := .tup [.int (i : Nat), x]) hT
      have hi : i < R.length := by
        have := (List.getElem?_eq_some_iff.mp hx).1
        omega
      have hr : R[i]? = some R[i] := List.getElem?_eq_getElem hi
      obtain ⟨t, et⟩ := rows_ref hs (by walk_at "pull") hr
      rw [hx] at et
      cases et
      have okr := ok _ (List.getElem_mem hi)
      have mr := List.getElem_mem hi
      generalize R[i] = r at *
      have hv : valV (dM V.str lab) (.inl ((i : Nat) : Int)) = (getM lab ((i : Nat) : Int)).map V.str := valV_dM _ _
      walk_at "run"
      refine ⟨d, _, rfl, Hd.mt (by walk_at "mt") hs, fun n H n0 hs => ?_⟩
      have hs : Hd (pto F (.lst (Ls.map V.str)) :: pto db (.dK (dM V.str lab)) :: pto l (.lst (left.map V.str)) :: pto c (.lst xs) :: rowsT xs R :: stB d :: L) _ := Hd.mt (by walk_at "mt") hs
      walk_at "st"
      walk_at "st"
      walk_at "st"
      refine r_tIfJ (fun (v : V) (H : Hp) => ∃ (ah : Addr) (as : List Str), v = V.ref ah ∧ ((as = [] ∧ getM lab ((i : Nat) : Int) = none) ∨ ∃ nm, as = [nm] ∧ getM lab ((i : Nat) : Int) = some nm) ∧ Hd (pto ah (.lst (as.map fun nm => V.str (nm ++ (":" : Str)))) :: pto F (.lst (Ls.map V.str)) :: pto db (.dK (dM V.str lab)) :: pto l (.lst (left.map V.str)) :: pto c (.lst xs) :: rowsT xs R :: stB d :: L) H) (fun QJ hR => ?_) ?_
      · walk_at "run"
        cases e : getM lab ((i : Nat) : Int) with
        | none =>
          rw [e] at hv
          rw [show (valV (dM V.str lab) (.inl ((i : Nat) : Int))).isSome = false from by rw [hv]; rfl]
          walk_at "run"
          exact hR _ _ ⟨q_, [], rfl, .inl ⟨rfl, e⟩, hs⟩
        | some nm =>
          rw [e] at hv
          have hv : valV (dM V.str lab) (.inl ((i : Nat) : Int)) = some (.str nm) := hv
          have ln := (okLab_spec (gb.ok _ _ e)).2.1
          rw [show (valV (dM V.str lab) (.inl ((i : Nat) : Int))).isSome = true from by rw [hv]; rfl]
          walk_at "run"
          refine Sl.r_addS (Sl.sz (by have : (":" : Str).length = 1 := (by kernel_rfl); omega)) ?_
          walk_at "run"
          exact hR _ _ ⟨q_, [nm], rfl, .inr ⟨nm, rfl, e⟩, hs⟩
      clear hs
      rintro v H ⟨ah, as, rfl, hown, hs⟩
      have las : as.length ≤ 1 := by rcases hown with ⟨rfl, _⟩ | ⟨nm, rfl, _⟩ <;> exact Nat.le_of_ble_eq_true rfl
      have lasm : (as.map fun nm => V.str (nm ++ (":" : Str))).length = as.length := List.length_map ..
      have llm : (left.map V.str).length = left.length := List.length_map ..
      walk_at "runI"
      refine Sl.r_ifTJ (fun H2 => 2 < left.length ∧ Hd (pto ah (.lst (as.map fun nm => V.str (nm ++ (":" : Str)))) :: pto F (.lst (Ls.map V.str)) :: pto db (.dK (dM V.str lab)) :: pto l (.lst (left.map V.str)) :: pto c (.lst xs) :: rowsT xs R :: stB d :: L) H2) (fun H2 => Hd (pto ah (.lst (as.map fun nm => V.str (nm ++ (":" : Str)))) :: pto F (.lst (Ls.map V.str)) :: pto db (.dK (dM V.str lab)) :: pto l (.lst (left.map V.str)) :: pto c (.lst xs) :: rowsT xs R :: stB d :: L) H2) (fun σ H => ∃ (ah : Addr) (as left2 : List Str), AR R lab i left as left2 ∧ σ = [some (.ref d), some (.ref c), some (.ref l), some (.ref db), some (.int (i : Nat)), some (.ref F), some (.ref t), some (.int n), some (.ref ah), v9, v10, v11, none] ∧ Hd (pto ah (.lst (as.map fun nm => V.str (nm ++ (":" : Str)))) :: pto F (.lst (Ls.map V.str)) :: pto db (.dK (dM V.str lab)) :: pto l (.lst (left2.map V.str)) :: pto c (.lst xs) :: rowsT xs R :: stB d :: L) H) (fun QT ht hf => ?_) (fun N hN => ?_) (fun N hN => ?_) ?_
      · walk_at "run"
        refine Sl.r_iteD (fun z => ?_) (fun z => ?_)
        · walk_at "run"
          rw [llm]
          by_cases h2 : 2 < left.length
          · rw [decide_eq_true (show (2 : Int) < ((left.length : Nat) : Int) by omega)]
            exact ht _ ⟨h2, hs⟩
          · rw [decide_eq_false (show ¬ (2 : Int) < ((left.length : Nat) : Int) by omega)]
            exact hf _ hs
        · exact hf _ hs
      · clear hs
        rintro H ⟨h2, hs⟩
        obtain ⟨x1, y1, left2, rfl⟩ := two_of h2
        have k1 := (okLab_spec (h3.ok x1 (List.mem_cons_self ..))).2.1
        have k2 := (okLab_spec (h3.ok y1 (List.mem_cons_of_mem _ (List.mem_cons_self ..)))).2.1
        have kc : (":" : Str).length = 1 := by kernel_rfl
        have hs : Hd (pto ah (.lst (as.map fun nm => V.str (nm ++ (":" : Str)))) :: pto F (.lst (Ls.map V.str)) :: pto db (.dK (dM V.str lab)) :: pto l (.lst (V.str x1 :: V.str y1 :: left2.map V.str)) :: pto c (.lst xs) :: rowsT xs R :: stB d :: L) H := hs
        have l2m : (left2.map V.str).length ≤ 230 := by rw [List.length_map]; simp only [List.length_cons] at h4; omega
        walk_at "run"
        refine Sl.r_popAt (n := 0) hs (show Put (pto l (.lst (V.str x1 :: V.str y1 :: left2.map V.str))) (pto l (.lst (V.str y1 :: left2.map V.str))) _ _ by walk_at "put") (Sl.sz (by simp only [List.length_cons]; omega)) rfl ?_
        clear hs
        intro H hs
        walk_at "run"
        refine Sl.r_addS (Sl.sz (by omega)) ?_
        walk_at "run"
        refine Sl.r_popAt (n := 0) hs (show Put (pto l (.lst (V.str y1 :: left2.map V.str))) (pto l (.lst (left2.map V.str))) _ _ by walk_at "put") (Sl.sz (by simp only [List.length_cons]; omega)) rfl ?_
        clear hs
        intro H hs
        walk_at "run"
        refine Sl.r_addS (Sl.sz (by omega)) ?_
        walk_at "run"
        refine hN _ _ ⟨q_, [x1] ++ as ++ [y1], left2, ar_more gb (by omega) hown, rfl, ?_⟩
        rw [show ([x1] ++ as ++ [y1]).map (fun nm => V.str (nm ++ (":" : Str))) = [V.str (x1 ++ (":" : Str))] ++ as.map (fun nm => V.str (nm ++ (":" : Str))) ++ [V.str (y1 ++ (":" : Str))] from by rw [List.map_append, List.map_append]; rfl]
        exact Hd.mt (by walk_at "mt") hs
      · clear hs
        intro H hs
        walk_at "run"
        refine hN _ _ ⟨ah, as, left, ?_, rfl, hs⟩
        rcases hown with ⟨rfl, e⟩ | ⟨nm, rfl, e⟩
        · exact ar_none e
        · exact ar_own gb (by omega) e
      clear hs
      rintro σ H ⟨ah2, as2, left2, har, rfl, hs⟩
      obtain ⟨f2, a1, a2, a3, a4⟩ := har h3
      have hla : ∀ u, tgt r = some u → ∃ s, getM lab u = some s := fun u eu => gb.all r mr u eu
      have hll : ∀ u s, getM lab u = some s → s.length ≤ 8 := fun u s e => (okLab_spec (gb.ok u s e)).2.1
      obtain ⟨w8, w4⟩ := len_rwW l2 okr hll
      have wsn := rwW_signs okr gb.ok hla
      walk_at "run"
      refine ⟨t, db, r, R.length, i, lab, xs, R, _, rfl, ⟨⟨okr, l2⟩, hla, hx, hr⟩, Hd.mt (by walk_at "mt") hs, fun W H hs => ?_⟩
      obtain ⟨w0, wr, ew⟩ : ∃ w0 wr, rwW lab r = w0 :: wr := ⟨_, _, rfl⟩
      rw [ew] at hs w8 w4 wsn
      rw [List.length_cons] at w4
      walk_at "run"
      rw [show cutV ((w0 :: wr).map V.str) (some 1) none = wr.map V.str from (Sl.cut_lo (fun z : Str => V.str z) (w0 :: wr) 1).trans (by rw [List.drop_succ_cons, List.drop_zero])] at hs
      obtain ⟨sl2, es⟩ : ∃ F, F = q_ := ⟨_, rfl⟩
      rw [← es] at hs ⊢
      have hs : Hd (pto sl2 (.lst (wr.map V.str)) :: pto ah2 (.lst (as2.map fun nm => V.str (nm ++ (":" : Str)))) :: pto F (.lst (Ls.map V.str)) :: pto db (.dK (dM V.str lab)) :: pto l (.lst (left2.map V.str)) :: pto c (.lst xs) :: rowsT xs R :: stB d :: L) _ := Hd.mt (by walk_at "mt") hs
      refine Sl.r_forL (wr.map V.str) (fun j σ H => ∃ (v11 : Option V) (ln : Str), (Tx.lineW ln = w0 :: wr.take j ∧ 10 ∉ ln.cps.toList ∧ ln.length ≤ 8 + 11 * j) ∧ σ = [some (.ref d), some (.ref c), some (.ref l), some (.ref db), some (.int (i : Nat)), some (.ref F), some (.ref t), some (.int n), some (.ref ah2), some (.ref W), some (.str ln), v11, none] ∧ Hd (pto sl2 (.lst (wr.map V.str)) :: pto ah2 (.lst (as2.map fun nm => V.str (nm ++ (":" : Str)))) :: pto F (.lst (Ls.map V.str)) :: pto db (.dK (dM V.str lab)) :: pto l (.lst (left2.map V.str)) :: pto c (.lst xs) :: rowsT xs R :: stB d :: L) H) ⟨_, w0, ⟨?_, (wsn w0 (List.mem_cons_self ..)).2.2, w8 w0 (List.mem_cons_self ..)⟩, rfl, hs⟩ (fun j σ H _ ⟨_, _, _, _, z⟩ => z.sq (a := sl2) (by walk_at "pull")) ?_ ?_
      · refine lineW_of ?_
        rw [Tx.wds_one (wsn w0 (List.mem_cons_self ..)).2.1 (wsn w0 (List.mem_cons_self ..)).1]
        rfl
      · clear hs
        rintro j x σ H hx2 ⟨v11, ln, ⟨b1, b2, b3⟩, rfl, hs⟩
        rw [List.getElem?_map] at hx2
        obtain ⟨w1, hw1, rfl⟩ := Option.map_eq_some_iff.mp hx2
        have hj := (List.getElem?_eq_some_iff.mp hw1).1
        have m1 : w1 ∈ w0 :: wr := List.mem_cons_of_mem _ (List.mem_of_getElem? hw1)
        have z1 := wsn w1 m1
        have z2 := w8 w1 m1
        walk_at "run"
        refine ⟨d, _, rfl, Hd.mt (by walk_at "mt") hs, fun k H k1 hs => ?_⟩
        walk_at "run"
        have kb := bl_len k
        refine Sl.r_addS (Sl.sz (by omega)) ?_
        walk_at "run"
        refine Sl.r_addS (Sl.sz (by rw [Str.length_append]; omega)) ?_
        walk_at "run"
        refine ⟨_, ln ++ blS k ++ w1, ⟨lineW_of ?_, ?_, by rw [Str.length_append, Str.length_append]; omega⟩, rfl, Hd.mt (by walk_at "mt") hs⟩
        · rw [tl_app, tl_app, bl_tl, Tx.wds_more _ k1.1 z1.2.1 z1.1]
          have b4 : Tx.wds ln.cps.toList = (w0 :: wr.take j).map fun w => w.cps.toList := by
            rw [← b1]
            unfold Tx.lineW
            rw [List.map_map]
            exact (List.map_id'' (f := (fun w : Str => w.cps.toList) ∘ Tx.mkS) (fun w => rfl) _).symm
          rw [b4, take_snoc hw1, List.map_cons, List.map_cons, List.map_append]
          rfl
        · rw [tl_app, tl_app, bl_tl]
          intro m
          rcases List.mem_append.mp m with m | m
          · rcases List.mem_append.mp m with m | m
            · exact b2 m
            · have := List.eq_of_mem_replicate m; omega
          · exact z1.2.2 m
      clear hs
      rintro σ H ⟨v11, ln, ⟨b1, b2, b3⟩, rfl, hs⟩
      rw [List.length_map] at b1 b3
      rw [List.take_length, ← ew] at b1
      walk_at "run"
      obtain ⟨kb, ekb, kb2⟩ : ∃ k : Nat, n / 8 % 3 = (k : Int) ∧ k ≤ 2 := ⟨(n / 8 % 3).toNat, by omega, by omega⟩
      obtain ⟨kc, ekc, kc2⟩ : ∃ k : Nat, n / 8 % 2 = (k : Int) ∧ k ≤ 1 := ⟨(n / 8 % 2).toNat, by omega, by omega⟩
      obtain ⟨kd, ekd, kd2⟩ : ∃ k : Nat, n / 16 % 3 = (k : Int) ∧ k ≤ 2 := ⟨(n / 16 % 3).toNat, by omega, by omega⟩
      have kco : (":" : Str).length = 1 := by kernel_rfl
      have kbl := bl_len kb
      have kcl := bl_len kc
      have kdl := bl_len kd
      refine Sl.r_lcL (as2.map fun nm => V.str (nm ++ (":" : Str))) (fun D j H => Hd (pto D (.lst ((labL (blS kb) (as2.take j)).map V.str)) :: pto ah2 (.lst (as2.map fun nm => V.str (nm ++ (":" : Str)))) :: pto F (.lst (Ls.map V.str)) :: pto db (.dK (dM V.str lab)) :: pto l (.lst (left2.map V.str)) :: pto c (.lst xs) :: rowsT xs R :: stB d :: L) H) hs (fun D H hs => (by show Hd (pto D (.lst []) :: _) _; exact Hd.mt (by walk_at "mt") hs)) (fun D j H _ hs => hs.sq (a := ah2) (by walk_at "pull")) ?_ ?_
      · clear hs
        rintro D j x H hx2 hs
        rw [List.getElem?_map] at hx2
        obtain ⟨nm, hnm, rfl⟩ := Option.map_eq_some_iff.mp hx2
        have hj := (List.getElem?_eq_some_iff.mp hnm).1
        have k8 := (okLab_spec (a3 nm (List.mem_of_getElem? hnm))).2.1
        have hl2 : ((labL (blS kb) (as2.take j)).map V.str).length ≤ 3 := by unfold labL; rw [List.length_map, List.length_map, List.length_take]; omega
        rw [show (labL (blS kb) (as2.take (j + 1))).map V.str = (labL (blS kb) (as2.take j)).map V.str ++ [V.str (blS kb ++ (nm ++ (":" : Str)))] from by unfold labL; rw [take_snoc hnm, List.map_append, List.map_append]; rfl]
        walk_at "run"
        rw [ekb]
        refine r_blank (by omega) ?_
        walk_at "run"
        refine Sl.r_addS (Sl.sz (by rw [Str.length_append]; omega)) ?_
        walk_at "run"
        walk_at "rest"
      clear hs
      rintro D H hs
      rw [List.length_map, List.take_length] at hs
      have llb : (labL (blS kb) as2).length ≤ 3 := by unfold labL; rw [List.length_map]; exact a2
      refine Sl.r_addL hs (hs.get (by walk_at "pull")) (hs.get (by walk_at "pull")) (Sl.sz (by rw [List.length_map, List.length_map]; omega)) fun F1 H hs => ?_
      rw [← List.map_append] at hs
      have hs : Hd (pto F1 (.lst ((Ls ++ labL (blS kb) as2).map V.str)) :: pto db (.dK (dM V.str lab)) :: pto l (.lst (left2.map V.str)) :: pto c (.lst xs) :: rowsT xs R :: stB d :: L) _ := Hd.mt (by walk_at "mt") hs
      walk_at "run"
      refine r_ixJ (fun (v : V) (H : Hp) => ∃ (a9 : Addr) (ex : List Str), v = V.ref a9 ∧ (ex.length ≤ 1 ∧ ∀ y ∈ ex, Tx.lineW y = [] ∧ 10 ∉ y.cps.toList ∧ y.length ≤ 3) ∧ Hd (pto a9 (.lst (ex.map V.str)) :: pto F1 (.lst ((Ls ++ labL (blS kb) as2).map V.str)) :: pto db (.dK (dM V.str lab)) :: pto l (.lst (left2.map V.str)) :: pto c (.lst xs) :: rowsT xs R :: stB d :: L) H) (fun QJ hR => ?_) ?_
      · have i0 := Int.emod_nonneg (n / 24) (by decide : (9 : Int) ≠ 0)
        generalize n / 24 % 9 = ix at i0 ⊢
        rcases (show ix = 0 ∨ ix = 1 ∨ 2 ≤ ix by omega) with rfl | rfl | i2
        · rw [if_pos (by decide)]
          refine Sl.r_ixL (hs.sq (by walk_at "pull")) (by rfl) ?_
          exact hR _ _ ⟨_, [""], rfl, ⟨Nat.le_refl _, fun y m => by cases List.mem_singleton.mp m; exact blank0⟩, (by show Hd (pto _ (.lst [V.str ""]) :: _) _; exact Hd.mt (by walk_at "mt") hs)⟩
        · rw [if_pos (by decide)]
          refine Sl.r_ixL (hs.sq (by walk_at "pull")) (by rfl) ?_
          exact hR _ _ ⟨_, ["   "], rfl, ⟨Nat.le_refl _, fun y m => by cases List.mem_singleton.mp m; exact blank3⟩, (by show Hd (pto _ (.lst [V.str "   "]) :: _) _; exact Hd.mt (by walk_at "mt") hs)⟩
        · rw [if_neg (by omega)]
          refine Sl.r_ixL (hs.sq (by walk_at "pull")) (by rfl) ?_
          exact hR _ _ ⟨_, [], rfl, ⟨Nat.zero_le _, fun y m => (nomatch m)⟩, (by show Hd (pto _ (.lst []) :: _) _; exact Hd.mt (by walk_at "mt") hs)⟩
      clear hs
      rintro v H ⟨a9, ex, rfl, ⟨ex1, ex2⟩, hs⟩
      refine Sl.r_addL hs (hs.get (by walk_at "pull")) (hs.get (by walk_at "pull")) (Sl.sz (by rw [List.length_map, List.length_map, List.length_append]; omega)) fun F2 H hs => ?_
      rw [← List.map_append] at hs
      have hs : Hd (pto F2 (.lst ((Ls ++ labL (blS kb) as2 ++ ex).map V.str)) :: pto db (.dK (dM V.str lab)) :: pto l (.lst (left2.map V.str)) :: pto c (.lst xs) :: rowsT xs R :: stB d :: L) _ := Hd.mt (by walk_at "mt") hs
      walk_at "run"
      rw [ekc]
      refine r_blank (by omega) ?_
      walk_at "run"
      have b5 : ln.length ≤ 41 := by omega
      refine Sl.r_addS (Sl.sz (by omega)) ?_
      walk_at "run"
      rw [ekd]
      refine r_blank (by omega) ?_
      walk_at "run"
      refine Sl.r_addS (Sl.sz (by rw [Str.length_append]; omega)) ?_
      have lF2 : ((Ls ++ labL (blS kb) as2 ++ ex).map V.str).length ≤ 1100 := by rw [List.length_map, List.length_append, List.length_append]; omega
      walk_at "run"
      obtain ⟨s2, e2, e3⟩ := a4 (blS kb) kb (bl_tl kb) Ls s1 h1 h2
      have e4 := lines_blank (fun y m => (ex2 y m).1) e2
      have hrow : Tx.lineW (blS kc ++ ln ++ blS kd) = rwW lab r := lineW_of (by
        rw [tl_app, tl_app, bl_tl, bl_tl, Tx.wds_behind, Tx.wds_blank, ← b1]
        unfold Tx.lineW
        rw [List.map_map]
        exact (List.map_id'' (f := (fun w : Str => w.cps.toList) ∘ Tx.mkS) (fun w => rfl) _).symm)
      have dl := ds_len e3 (by omega)
      have e5 := line_row hrow l2 okr (fun u eu => by obtain ⟨nm, en⟩ := hla u eu; exact ⟨nm, en, gb.ok _ _ en⟩) (by omega) e4
      refine ⟨_, _, _, _, _, _, _, F2, left2, _, _, ⟨e5, li_row e3 hr, f2, by omega, ?_, ?_⟩, rfl, ?_⟩
      · rw [List.length_append, List.length_append, List.length_append, List.length_singleton]
        omega
      · intro y m
        rcases List.mem_append.mp m with m | m
        · rcases List.mem_append.mp m with m | m
          · rcases List.mem_append.mp m with m | m
            · exact h6 y m
            · obtain ⟨nm, mn, rfl⟩ := List.mem_map.mp m
              have k8 := okLab_spec (a3 nm mn)
              refine ⟨?_, by rw [Str.length_append, Str.length_append]; omega⟩
              rw [tl_app, tl_app, bl_tl, tl_colon]
              intro z
              rcases List.mem_append.mp z with z | z
              · have := List.eq_of_mem_replicate z; omega
              · rcases List.mem_append.mp z with z | z
                · exact okLab_free (a3 nm mn) (by decide) z
                · exact absurd (List.mem_singleton.mp z) (by decide)
          · exact ⟨(ex2 y m).2.1, by have := (ex2 y m).2.2; omega⟩
        · cases List.mem_singleton.mp m
          refine ⟨?_, by rw [Str.length_append, Str.length_append]; omega⟩
          rw [tl_app, tl_app, bl_tl, bl_tl]
          intro z
          rcases List.mem_append.mp z with z | z
          · rcases List.mem_append.mp z with z | z
            · have := List.eq_of_mem_replicate z; omega
            · exact b2 z
          · have := List.eq_of_mem_replicate z; omega
      · rw [List.map_append, List.map_cons, List.map_nil]
        exact Hd.mt (by walk_at "mt") hs
    clear hs
    rintro σ H ⟨v4, v6, v7, v8, v9, v10, v11, F, left, Ls, s1, ⟨h1, h2, h3, h4, h5, h6⟩, rfl, hs⟩
    rw [lx] at h2 h5
    walk_at "run"
    refine q F Ls _ ⟨li_end gb l1 l2 ok h1 h2, fun z => ?_, by omega, h6⟩ (Hd.mt (by walk_at "mt") hs)
    subst z
    cases h1
    have := ds_len h2 (Nat.le_refl _)
    rw [List.length_nil] at this
    omega
end
section
variable {P : Program} {w : World} {K : PySem.W.Frag} {mg : Str → Option Value} {base : Heap}
theorem okR_mono {n m : Nat} (h : n ≤ m) {r : Rw} (ok : OkR n r) : OkR m r := by
  cases r with
  | set a w => exact ok
  | op k a b => exact ok
  | mem k a b w => exact ok
  | go t => exact Nat.lt_of_lt_of_le ok h
  | iff a t => exact ⟨ok.1, Nat.lt_of_lt_of_le ok.2 h⟩
  | below a b t => exact ⟨ok.1, ok.2.1, Nat.lt_of_lt_of_le ok.2.2 h⟩
  | into t a => exact ⟨Nat.lt_of_lt_of_le ok.1 h, ok.2⟩
  | by_ a => exact ok
  | ask => exact ok
theorem dp_rwAll {K : PySem.W.Frag} {H : Hp} : ∀ {xs : List V} {R : List Rw}, tupsA xs (R.map rwV) H → DpAll K H xs (R.map fun r => .tuple (rwD r))
  | [], [], _ => .nil
  | [], _ :: _, h => nomatch h.1
  | _ :: _, [], h => nomatch h.1
  | x :: xs, r :: R, h => by
    obtain ⟨t, e1, e2⟩ := h.2 0 (rwV r) rfl
    cases e1
    exact .cons (dp_rw (SqT.of e2)) (dp_rwAll ⟨Nat.succ.inj h.1, fun i z e => h.2 (i + 1) z e⟩)
theorem dp_prog {K : PySem.W.Frag} {H : Hp} {xs : List V} {R : List Rw} {L L' : List SA} (h : Hd L H) (p : Pull (rowsT xs R) L L') : DpAll K H xs (R.map fun r => .tuple (rwD r)) := dp_rwAll (h.at (up_tups _ _) p)
theorem cl_rw {n : Nat} : ∀ {R : List Rw}, (∀ r ∈ R, OkR n r) → PyData.canLayAll0 (R.map fun r => .tuple (rwD r)) = true
  | [], _ => rfl
  | r :: R, h => by
    have s := sh_rw (h r (List.mem_cons_self ..))
    unfold SeqAt.shaped at s
    rw [List.map_cons, PyData.canLayAll0, cl_rw fun x m => h x (List.mem_cons_of_mem _ m), (Bool.and_eq_true_iff.mp s).1]
    rfl
theorem dt_rw1 (r : Rw) : PyData.depth (.tuple (rwD r)) ≤ 2 := by
  cases r <;> simp [rwD, PyData.depth, PyData.depthAll]
theorem dt_rw : ∀ R : List Rw, PyData.depthAll (R.map fun r => .tuple (rwD r)) ≤ 3
  | [] => by decide
  | r :: R => by
    have h := dt_rw R
    have h2 := dt_rw1 r
    rw [List.map_cons, PyData.depthAll]
    omega
theorem sh_prog {n : Nat} {R : List Rw} (ok : ∀ r ∈ R, OkR n r) : SeqAt.shaped (.list (R.map fun r => .tuple (rwD r))) = true := by
  have h := dt_rw R
  unfold SeqAt.shaped
  rw [PyData.canLay0, cl_rw ok, Bool.true_and]
  apply decide_eq_true
  rw [PyData.depth]
  omega

theorem all_tr {K : PySem.W.Frag} {H : Hp} {Q : VK} {D : Addr} {n : Nat} {L L' : List SA} (hs : Hd L H) (p : Pull (pto D (.lst ((List.replicate n true).map V.bl))) L L') (q : Q (.bl true) H) : rAll K [.ref D] H Q :=
  Sl.r_all (hs.sq p) (by rw [all_true]; exact q)
theorem rep_snoc (i : Nat) : (List.replicate (i + 1) true).map V.bl = (List.replicate i true).map V.bl ++ [V.bl true] := by
  rw [List.replicate_succ', List.map_append]
  rfl

end
section
variable {P : Program} {w : World} {K : PySem.W.Frag} {mg : Str → Option Value} {base : Heap}

/-! ### a program's own text, read -/
theorem labM_ok {k : Nat} : okLab (labM k) = true := by
  refine okLab_of ?_ (Nat.le_trans (len_lab k) (by decide)) fun c mc => ?_
  · unfold labM
    rw [Str.length_append]
    have : ("l" : Str).length = 1 := by kernel_rfl
    omega
  · unfold labM at mc
    rw [tl_app, show ("l" : Str).cps.toList = [108] from by decide +kernel] at mc
    rcases List.mem_append.mp mc with mc | mc
    · have := List.mem_singleton.mp mc; omega
    · unfold lettM at mc
      split at mc
      · have : (sgA (k % 26)).cps.toList = [97 + k % 26] := rfl
        rw [this] at mc
        have := List.mem_singleton.mp mc; omega
      · rw [tl_app] at mc
        have e1 : (sgA (k / 26 % 26)).cps.toList = [97 + k / 26 % 26] := rfl
        have e2 : (sgA (k % 26)).cps.toList = [97 + k % 26] := rfl
        rw [e1, e2] at mc
        rcases List.mem_append.mp mc with mc | mc <;> (have := List.mem_singleton.mp mc; omega)
theorem labM_inj {j k : Nat} (hj : j < 676) (hk : k < 676) (h : labM j = labM k) : j = k := by
  have h2 := congrArg (fun z : Str => z.cps.toList) h
  have h2 : (labM j).cps.toList = (labM k).cps.toList := h2
  unfold labM at h2
  rw [tl_app, tl_app] at h2
  have h3 := List.append_cancel_left h2
  unfold lettM at h3
  split at h3
  · split at h3
    · have e1 : (sgA (j % 26)).cps.toList = [97 + j % 26] := rfl
      have e2 : (sgA (k % 26)).cps.toList = [97 + k % 26] := rfl
      rw [e1, e2] at h3
      injection h3 with h4 _
      omega
    · rw [tl_app] at h3
      exact absurd (congrArg List.length h3) (by rw [List.length_append]; exact Nat.ne_of_beq_eq_false rfl)
  · split at h3
    · rw [tl_app] at h3
      exact absurd (congrArg List.length h3) (by rw [List.length_append]; exact Nat.ne_of_beq_eq_false rfl)
    · rw [tl_app, tl_app] at h3
      have e1 : (sgA (j % 26)).cps.toList = [97 + j % 26] := rfl
      have e2 : (sgA (k % 26)).cps.toList = [97 + k % 26] := rfl
      have e3 : (sgA (j / 26 % 26)).cps.toList = [97 + j / 26 % 26] := rfl
      have e4 : (sgA (k / 26 % 26)).cps.toList = [97 + k / 26 % 26] := rfl
      rw [e1, e2, e3, e4] at h3
      have h4 : [97 + j / 26 % 26, 97 + j % 26] = [97 + k / 26 % 26, 97 + k % 26] := h3
      injection h4 with h5 h6
      injection h6 with h6 _
      omega
theorem labs_at {R : List Rw} {t : Int} {nm : Str} (h : getM (labs R) t = some nm) : ∃ k : Nat, (srt (asked R))[k]? = some t ∧ nm = labM k := by
  have m := getM_mem h
  unfold labs labOf at m
  obtain ⟨⟨y, k⟩, m1, m2⟩ := List.mem_map.mp m
  cases m2
  obtain ⟨m3, m4⟩ := List.mk_mem_zipIdx_iff_le_and_getElem?_sub.mp m1
  exact ⟨k, by rw [Nat.sub_zero] at m4; exact m4, rfl⟩
theorem lb_labs {R : List Rw} (l2 : R.length ≤ 200) (ok : ∀ r ∈ R, OkR R.length r) : LB R (labs R) ∧ LF (labs R) [] := by
  have sl := srt_len R ok
  refine ⟨⟨fun t nm h => ?_, fun t u nm h1 h2 => ?_, fun r m t e => labs_has m e, fun t nm h => ?_⟩, ⟨fun _ m => (nomatch m), .nil, fun _ _ _ m => (nomatch m)⟩⟩
  · obtain ⟨k, _, rfl⟩ := labs_at h
    exact labM_ok
  · obtain ⟨j, a1, a2⟩ := labs_at h1
    obtain ⟨k, b1, b2⟩ := labs_at h2
    have hj := (List.getElem?_eq_some_iff.mp a1).1
    have hk := (List.getElem?_eq_some_iff.mp b1).1
    have : j = k := labM_inj (by omega) (by omega) (a2.symm.trans b2)
    subst this
    rw [a1] at b1
    exact Option.some.inj b1
  · obtain ⟨k, h1, _⟩ := labs_at h
    have m := ((srt_perm (asked R)).mem_iff).mp (List.mem_of_getElem? h1)
    obtain ⟨r, mr, e⟩ := ((asked_spec R).2 t).mp m
    exact (tgt_lt (ok r mr) e).1
theorem wds_join : ∀ (ws : List Str) (w0 : Str), (∀ w ∈ w0 :: ws, w.cps.toList ≠ [] ∧ 32 ∉ w.cps.toList) → Tx.wds ((Txt.join " " (w0 :: ws)).cps.toList) = (w0 :: ws).map fun w => w.cps.toList := by
  intro ws w0 h
  have e : (Txt.join " " (w0 :: ws)).cps.toList = w0.cps.toList ++ (ws.map fun z => [32] ++ z.cps.toList).flatten := by
    have := Tx.tl_join " " w0 ws
    rw [show TL.tl " " = [32] from Tx.sp_tl] at this
    exact this
  rw [e]
  have aux : ∀ (ws : List Str) (a : List Nat), (∀ w ∈ ws, w.cps.toList ≠ [] ∧ 32 ∉ w.cps.toList) → Tx.wds (a ++ (ws.map fun z => [32] ++ z.cps.toList).flatten) = Tx.wds a ++ ws.map fun w => w.cps.toList := by
    intro ws
    induction ws with
    | nil => exact fun a _ => by simp
    | cons w ws ih =>
      intro a hw
      have h1 := hw w (List.mem_cons_self ..)
      rw [List.map_cons, List.flatten_cons, List.map_cons, ← List.append_assoc, ih _ fun z m => hw z (List.mem_cons_of_mem _ m)]
      have := Tx.wds_more a (k := 1) (Nat.le_refl _) h1.2 h1.1
      rw [show List.replicate 1 32 = [32] from rfl, List.append_assoc] at this
      rw [this, List.append_assoc]
      rfl
  rw [aux ws _ fun z m => h z (List.mem_cons_of_mem _ m), Tx.wds_one (h w0 (List.mem_cons_self ..)).2 (h w0 (List.mem_cons_self ..)).1]
  rfl
theorem lineW_row {n : Nat} {r : Rw} {lab : List (Int × Str)} (ok : OkR n r) (hl : ∀ t nm, getM lab t = some nm → okLab nm = true) (ha : ∀ t, tgt r = some t → ∃ nm, getM lab t = some nm) : Tx.lineW (Txt.join " " (rwW lab r)) = rwW lab r := by
  have h := rwW_signs ok hl ha
  refine lineW_of ?_
  exact wds_join _ _ fun w m => ⟨(h w m).1, (h w m).2.1⟩
theorem join_free {c : Nat} (hc : c ≠ 32) : ∀ {ws : List Str}, (∀ w ∈ ws, c ∉ w.cps.toList) → c ∉ (Txt.join " " ws).cps.toList
  | [], _ => by
    have : (Txt.join " " []).cps.toList = [] := rfl
    rw [this]
    exact fun m => nomatch m
  | w :: ws, h => by
    have e : (Txt.join " " (w :: ws)).cps.toList = w.cps.toList ++ (ws.map fun z => [32] ++ z.cps.toList).flatten := by
      have := Tx.tl_join " " w ws
      rw [show TL.tl " " = [32] from Tx.sp_tl] at this
      exact this
    rw [e]
    intro m
    rcases List.mem_append.mp m with m | m
    · exact h w (List.mem_cons_self ..) m
    · obtain ⟨l, ml, mc⟩ := List.mem_flatten.mp m
      obtain ⟨z, mz, rfl⟩ := List.mem_map.mp ml
      rcases List.mem_append.mp mc with mc | mc
      · exact hc (List.mem_singleton.mp mc)
      · exact h z (List.mem_cons_of_mem _ mz) mc
/-- the lines so far: read -/
theorem own_lines {R : List Rw} (l2 : R.length ≤ 200) (ok : ∀ r ∈ R, OkR R.length r) : ∀ i, i ≤ R.length → ∃ s, linesR (lns (labs R) (R.take i)) = some s ∧ LI R (labs R) [] i i i s := by
  obtain ⟨gb, gf⟩ := lb_labs l2 ok
  intro i
  induction i with
  | zero =>
    intro _
    exact ⟨⟨[], []⟩, rfl, ⟨rfl, fun t nm ht e => absurd (gb.low t nm e) (by omega), fun _ m => (nomatch m), fun _ m => (nomatch m)⟩⟩
  | succ i ih =>
    intro hi
    obtain ⟨s, h1, h2⟩ := ih (by omega)
    have hr : R[i]? = some R[i] := List.getElem?_eq_getElem (by omega)
    have mr := List.getElem_mem (show i < R.length by omega)
    have okr := ok _ mr
    rw [take_snoc hr, lns_snoc, take_len hr]
    generalize R[i] = r at *
    have hla : ∀ u, tgt r = some u → ∃ s, getM (labs R) u = some s := fun u eu => gb.all r mr u eu
    have key : ∃ s2, linesR (lns (labs R) (R.take i) ++ ahd (labs R) i) = some s2 ∧ LI R (labs R) [] i (i + 1) (i + 1) s2 := by
      cases e : getM (labs R) ((i : Nat) : Int) with
      | none =>
        rw [ahd_none e, List.append_nil]
        exact ⟨s, h1, li_none h2 (by omega) e⟩
      | some nm =>
        rw [ahd_some e]
        obtain ⟨a, b⟩ := li_own h2 gb gf (by omega) (by omega) e
        have := line_lab (bl := "") (k := 0) rfl (gb.ok _ _ e) a h1
        rw [show (("" : Str) ++ (nm ++ (":" : Str))) = nm ++ (":" : Str) from PySem.W.KT.empty_app _] at this
        exact ⟨_, this, b⟩
    obtain ⟨s2, h3, h4⟩ := key
    have dl := ds_len h4 (by omega)
    have := line_row (lineW_row okr gb.ok hla) l2 okr (fun u eu => by obtain ⟨nm, en⟩ := hla u eu; exact ⟨nm, en, gb.ok _ _ en⟩) (by omega) h3
    refine ⟨_, (?_ : linesR (lns (labs R) (R.take i) ++ lnR (labs R) i r) = some ⟨s2.ds ++ [(rwW (labs R) r, (((lns (labs R) (R.take i) ++ ahd (labs R) i).length : Nat) : Int) + 1)], s2.ms⟩), li_row h4 hr⟩
    unfold lnR
    rw [← List.append_assoc]
    exact this
theorem own_reads {R : List Rw} (l1 : 1 ≤ R.length) (l2 : R.length ≤ 200) (ok : ∀ r ∈ R, OkR R.length r) : readR (lns (labs R) R) = some (R.map rwV) := by
  obtain ⟨s, h1, h2⟩ := own_lines l2 ok R.length (Nat.le_refl _)
  rw [List.take_length] at h1
  exact li_end (lb_labs l2 ok).1 l1 l2 ok h1 h2
theorem own_free {R : List Rw} (l2 : R.length ≤ 200) (ok : ∀ r ∈ R, OkR R.length r) : ∀ y ∈ lns (labs R) R, 10 ∉ y.cps.toList := by
  obtain ⟨gb, gf⟩ := lb_labs l2 ok
  have aux : ∀ i, i ≤ R.length → ∀ y ∈ lns (labs R) (R.take i), 10 ∉ y.cps.toList := by
    intro i
    induction i with
    | zero => exact fun _ y m => (nomatch m)
    | succ i ih =>
      intro hi y m
      have hr : R[i]? = some R[i] := List.getElem?_eq_getElem (by omega)
      have mr := List.getElem_mem (show i < R.length by omega)
      rw [take_snoc hr, lns_snoc, take_len hr] at m
      generalize R[i] = r at *
      rcases List.mem_append.mp m with m | m
      · exact ih (by omega) y m
      · unfold lnR at m
        rcases List.mem_append.mp m with m | m
        · unfold ahd at m
          obtain ⟨nm, mn, rfl⟩ := List.mem_map.mp m
          have k := gb.ok _ _ (Option.mem_toList.mp mn)
          rw [tl_app, tl_colon]
          intro z
          rcases List.mem_append.mp z with z | z
          · exact okLab_free k (by decide) z
          · exact absurd (List.mem_singleton.mp z) (by decide)
        · cases List.mem_singleton.mp m
          exact join_free (by decide) fun w mw => (rwW_signs (ok r mr) gb.ok (fun u eu => gb.all r mr u eu) w mw).2.2
  have := aux R.length (Nat.le_refl _)
  rwa [List.take_length] at this
theorem lns_ne {R : List Rw} (l1 : 1 ≤ R.length) (lab : List (Int × Str)) : lns lab R ≠ [] := by
  have hr : R[R.length - 1]? = some R[R.length - 1] := List.getElem?_eq_getElem (by omega)
  have e := take_snoc hr
  rw [show R.length - 1 + 1 = R.length by omega, List.take_length] at e
  intro z
  rw [e, lns_snoc] at z
  have := (List.append_eq_nil_iff.mp z).2
  unfold lnR at this
  exact absurd (List.append_eq_nil_iff.mp this).2 (List.cons_ne_nil _ _)
theorem own_split {R : List Rw} (l1 : 1 ≤ R.length) (l2 : R.length ≤ 200) (ok : ∀ r ∈ R, OkR R.length r) : Txt.split (txtM R) "\n" = lns (labs R) R := Tx.split_join Tx.nl_tl (lns_ne l1 _) (own_free l2 ok)
theorem own_len {R : List Rw} (l2 : R.length ≤ 200) (ok : ∀ r ∈ R, OkR R.length r) : (txtM R).length ≤ 14800 := Nat.le_trans (Tx.join_le _ _) (txt_fit l2 ok)
/-- other rows, another text -/
theorem txt_inj {R R2 : List Rw} (l1 : 1 ≤ R.length) (l2 : R.length ≤ 200) (ok : ∀ r ∈ R, OkR R.length r) (m1 : 1 ≤ R2.length) (m2 : R2.length ≤ 200) (ok2 : ∀ r ∈ R2, OkR R2.length r) (h : txtM R = txtM R2) : R.map rwV = R2.map rwV := by
  have e := own_split l1 l2 ok
  rw [h, own_split m1 m2 ok2] at e
  have a := own_reads l1 l2 ok
  rw [← e, own_reads m1 m2 ok2] at a
  exact (Option.some.inj a).symm
/-! ### the labels of a program, in order -/
theorem labs_place {R : List Rw} (ok : ∀ r ∈ R, OkR R.length r) {i : Nat} {nm : Str} (h : getM (labs R) ((i : Nat) : Int) = some nm) : nm = labM (ledTo R i).length ∧ i < R.length ∧ ((i : Nat) : Int) ∈ srt (asked R) := by
  obtain ⟨k, h1, rfl⟩ := labs_at h
  have m := List.mem_of_getElem? h1
  have h1' := h1
  rw [srt_asked ok] at h1
  have lt : i < R.length := by
    rw [srt_asked ok] at m
    have := (ledTo_mem.mp m).1.2
    omega
  refine ⟨?_, lt, m⟩
  have e : ledTo R R.length = ledTo R i ++ (((List.range R.length).drop i).filter fun i => decide (∃ r ∈ R, tgt r = some ((i : Nat) : Int))).map fun i : Nat => (i : Int) := by
    unfold ledTo
    have e1 : List.range R.length = List.range i ++ (List.range R.length).drop i := by
      have := List.take_append_drop i (List.range R.length)
      rw [List.take_range, Nat.min_eq_left (by omega)] at this
      exact this.symm
    conv => lhs; rw [e1]
    rw [List.filter_append, List.map_append]
  have hd : ∀ x ∈ ledTo R i, x < ((i : Nat) : Int) := fun x mx => (ledTo_mem.mp mx).1.2
  rw [e] at h1
  have pw := ledTo_pw R R.length
  rw [e] at pw
  rcases Nat.lt_or_ge k (ledTo R i).length with hk | hk
  · rw [List.getElem?_append_left hk] at h1
    have := hd _ (List.mem_of_getElem? h1)
    omega
  · rw [List.getElem?_append_right hk] at h1
    rcases Nat.eq_or_lt_of_le hk with hk | hk
    · rw [hk]
    · have h0 : ((((List.range R.length).drop i).filter fun i => decide (∃ r ∈ R, tgt r = some ((i : Nat) : Int))).map fun i : Nat => (i : Int))[0]? = some ((i : Nat) : Int) := by
        have hasked : ∃ r ∈ R, tgt r = some ((i : Nat) : Int) := ((asked_spec R).2 _).mp (((srt_perm _).mem_iff).mp m)
        have e2 : (List.range R.length).drop i = i :: (List.range R.length).drop (i + 1) := by
          rw [List.drop_eq_getElem_cons (by rw [List.length_range]; exact lt), List.getElem_range]
        rw [e2, List.filter_cons, if_pos (decide_eq_true hasked)]
        rfl
      have pr := (List.pairwise_append.mp pw).2.1
      have nd := pr.imp (fun {a b} (h : a < b) => (show a ≠ b by omega))
      have := nd_inj nd h0 h1
      omega
theorem ends_free {y z : Str} (hz : z.cps.toList = [58]) (h : 58 ∉ y.cps.toList) : Txt.endswith y z = false := by
  cases e : Txt.endswith y z with
  | false => rfl
  | true =>
    exfalso
    unfold PySem.Txt.endswith at e
    rw [Bool.and_eq_true] at e
    have lz : z.length = 1 := by
      have : z.cps.toList.length = z.length := Array.length_toList
      rw [hz] at this
      exact this.symm
    have l1 := of_decide_eq_true e.1
    have e2 := e.2
    rw [PySem.StrLaws.subAt_eq, lz, hz] at e2
    have e3 := eq_of_beq e2
    have m : 58 ∈ (y.cps.toList.drop (y.length - 1)).take 1 := by rw [e3]; exact List.mem_singleton_self _
    exact h (List.mem_of_mem_drop (List.mem_of_mem_take m))
theorem row_free {n : Nat} {r : Rw} {lab : List (Int × Str)} (ok : OkR n r) (hl : ∀ t nm, getM lab t = some nm → okLab nm = true) (ha : ∀ t, tgt r = some t → ∃ nm, getM lab t = some nm) : 58 ∉ (Txt.join " " (rwW lab r)).cps.toList := by
  refine join_free (by decide) fun w m => ?_
  rcases List.mem_cons.mp m with rfl | m
  · have z : ∀ e ∈ formsK, 58 ∉ e.1.cps.toList := by decide +kernel
    exact z _ (word_form ok)
  · obtain ⟨⟨c, v⟩, me, rfl⟩ := List.mem_map.mp m
    rcases part_at (prs_ok ok me) with ⟨rfl, g, hg, rfl⟩ | ⟨rfl, g, g0, g1, rfl⟩ | ⟨rfl, g, hg, rfl⟩
    · show 58 ∉ (rg g).cps.toList
      rw [(rg_sign hg).1]
      intro z
      have := List.mem_singleton.mp z
      omega
    · show 58 ∉ (toString g : Str).cps.toList
      obtain ⟨k, rfl⟩ := Int.eq_ofNat_of_zero_le g0
      rw [show (toString ((k : Nat) : Int) : Str).cps.toList = TL.numL k from TL.tl_num k]
      exact TL.numL_free (.inr (by decide))
    · obtain ⟨t, e1, e2⟩ := prs_tgt me
      cases e1
      obtain ⟨nm, h1⟩ := ha _ e2
      show 58 ∉ ((getM lab ((g : Nat) : Int)).getD "").cps.toList
      rw [h1]
      exact okLab_free (hl _ _ h1) (by decide)

end
section
variable {P : Program} {w : World} {K : PySem.W.Frag} {mg : Str → Option Value} {base : Heap}

/-! ### positions of lines -/
def off (R : List Rw) (i : Nat) : Nat := (lns (labs R) (R.take i)).length
theorem off_succ {R : List Rw} {i : Nat} {r : Rw} (h : R[i]? = some r) : off R (i + 1) = off R i + (ahd (labs R) i).length + 1 := by
  unfold off
  rw [take_snoc h, lns_snoc, take_len h, List.length_append]
  unfold lnR
  rw [List.length_append]
  rfl
theorem lns_parts {R : List Rw} {i : Nat} {r : Rw} (h : R[i]? = some r) : ∃ b, lns (labs R) R = lns (labs R) (R.take i) ++ (ahd (labs R) i ++ [Txt.join " " (rwW (labs R) r)]) ++ b := by
  have e : R = R.take (i + 1) ++ R.drop (i + 1) := (List.take_append_drop _ _).symm
  have e2 : ∀ (a b : List Rw) (lab : List (Int × Str)), ∃ c, lns lab (a ++ b) = lns lab a ++ c := by
    intro a b lab
    unfold lns
    rw [List.zipIdx_append, List.map_append, List.flatten_append]
    exact ⟨_, rfl⟩
  obtain ⟨c, hc⟩ := e2 (R.take (i + 1)) (R.drop (i + 1)) (labs R)
  refine ⟨c, ?_⟩
  rw [← e] at hc
  rw [hc, take_snoc h, lns_snoc, take_len h]
  rfl
theorem line_at {R : List Rw} {i : Nat} {r : Rw} (h : R[i]? = some r) {j : Nat} {y : Str} (hy : (ahd (labs R) i ++ [Txt.join " " (rwW (labs R) r)])[j]? = some y) : (lns (labs R) R)[off R i + j]? = some y := by
  obtain ⟨b, e⟩ := lns_parts h
  have hj := (List.getElem?_eq_some_iff.mp hy).1
  rw [e, List.append_assoc, List.getElem?_append_right (by unfold off; omega)]
  rw [show off R i + j - (lns (labs R) (R.take i)).length = j by unfold off; omega, List.getElem?_append_left hj]
  exact hy
theorem off_mono {R : List Rw} {i j : Nat} (h : i ≤ j) (hj : j ≤ R.length) : off R i + (j - i) ≤ off R j := by
  induction j with
  | zero => have : i = 0 := by omega
            subst this; exact Nat.le_refl _
  | succ j ih =>
    rcases Nat.eq_or_lt_of_le h with rfl | h2
    · omega
    · have := ih (by omega) (by omega)
      have := off_succ (R := R) (i := j) (List.getElem?_eq_getElem (by omega))
      omega
theorem off_end (R : List Rw) : off R R.length = (lns (labs R) R).length := by
  unfold off
  rw [List.take_length]
/-- where a line stands: ahead of row i all is told, or its label is -/
def Pos (R : List Rw) (m : Nat) (met : List Int) (at_ : Nat) : Prop := at_ ≤ R.length ∧ ((m = off R at_ ∧ met = ledTo R at_) ∨ (m = off R at_ + 1 ∧ at_ < R.length ∧ (∃ nm, getM (labs R) ((at_ : Nat) : Int) = some nm) ∧ met = ledTo R (at_ + 1)))
theorem pos_end {R : List Rw} {met : List Int} {at_ : Nat} (h : Pos R (lns (labs R) R).length met at_) : met = ledTo R R.length ∧ at_ = R.length := by
  obtain ⟨h0, h⟩ := h
  have he := off_end R
  rcases h with ⟨h1, h2⟩ | ⟨h1, h2, ⟨nm, h3⟩, h4⟩
  · have := off_mono (R := R) h0 (Nat.le_refl _)
    have : at_ = R.length := by omega
    subst this
    exact ⟨h2, rfl⟩
  · exfalso
    have e1 := off_succ (R := R) (i := at_) (List.getElem?_eq_getElem h2)
    rw [ahd_some h3] at e1
    have e2 := off_mono (R := R) (i := at_ + 1) (j := R.length) (by omega) (Nat.le_refl _)
    simp only [List.length_cons, List.length_nil] at e1
    omega
/-- the next line: a label, or a row -/
theorem pos_step {R : List Rw} (l2 : R.length ≤ 200) (ok : ∀ r ∈ R, OkR R.length r) {m at_ : Nat} {met : List Int} {y : Str} (h : Pos R m met at_) (hy : (lns (labs R) R)[m]? = some y) :
    (y = labM met.length ++ (":" : Str) ∧ ((at_ : Nat) : Int) ∈ srt (asked R) ∧ ((at_ : Nat) : Int) ∉ met ∧ Pos R (m + 1) (met ++ [((at_ : Nat) : Int)]) at_) ∨ (58 ∉ y.cps.toList ∧ Pos R (m + 1) met (at_ + 1)) := by
  obtain ⟨gb, gf⟩ := lb_labs l2 ok
  obtain ⟨h0, h⟩ := h
  have lt : at_ < R.length := by
    rcases h with ⟨h1, _⟩ | ⟨_, h2, _⟩
    · rcases Nat.eq_or_lt_of_le h0 with e | e
      · rw [e, off_end] at h1
        have := (List.getElem?_eq_some_iff.mp hy).1
        omega
      · exact e
    · exact h2
  have hr : R[at_]? = some R[at_] := List.getElem?_eq_getElem lt
  have mr := List.getElem_mem lt
  have hs := off_succ hr
  have rf := row_free (ok _ mr) gb.ok (fun u eu => gb.all _ mr u eu)
  rcases h with ⟨h1, h2⟩ | ⟨h1, _, ⟨nm, h3⟩, h4⟩
  · cases e : getM (labs R) ((at_ : Nat) : Int) with
    | some nm =>
      obtain ⟨p1, p2, p3⟩ := labs_place ok e
      have hl := line_at hr (j := 0) (y := nm ++ (":" : Str)) (by rw [ahd_some e]; rfl)
      rw [Nat.add_zero, ← h1, hy] at hl
      cases hl
      refine .inl ⟨by rw [p1, h2], p3, fun z => ?_, h0, .inr ⟨by omega, lt, ⟨nm, e⟩, ?_⟩⟩
      · rw [h2] at z
        have := (ledTo_mem.mp z).1.2
        omega
      · rw [h2, ledTo_succ, if_pos]
        exact ((asked_spec R).2 _).mp (((srt_perm _).mem_iff).mp p3)
    | none =>
      have hl := line_at hr (j := 0) (y := Txt.join " " (rwW (labs R) R[at_])) (by rw [ahd_none e]; rfl)
      rw [Nat.add_zero, ← h1, hy] at hl
      cases hl
      rw [ahd_none e] at hs
      refine .inr ⟨rf, by omega, .inl ⟨by simp only [List.length_nil] at hs; omega, ?_⟩⟩
      rw [h2, ledTo_succ, if_neg]
      intro z
      have := ((srt_perm (asked R)).mem_iff).mpr (((asked_spec R).2 _).mpr z)
      obtain ⟨x, ex⟩ := getM_in (d := labs R) (k := ((at_ : Nat) : Int)) (by unfold labs; rw [keys_labOf]; exact this)
      rw [ex] at e
      cases e
  · have hl := line_at hr (j := 1) (y := Txt.join " " (rwW (labs R) R[at_])) (by rw [ahd_some h3]; rfl)
    rw [← h1, hy] at hl
    cases hl
    rw [ahd_some h3] at hs
    exact .inr ⟨rf, by omega, .inl ⟨by simp only [List.length_cons, List.length_nil] at hs; omega, h4⟩⟩
/-! ### another row -/
theorem eqvAll_at : ∀ {xs ys : List PyData}, PyData.eqvAll xs ys = true → ∀ (i : Nat) x y, xs[i]? = some x → ys[i]? = some y → PyData.eqv x y = true
  | [], _, _, _, _, _, h, _ => by cases h
  | _ :: _, [], _, _, _, _, _, h => by cases h
  | a :: xs, b :: ys, e, i, x, y, h1, h2 => by
    have e : (PyData.eqv a b && PyData.eqvAll xs ys) = true := e
    rw [Bool.and_eq_true] at e
    rcases i with _ | i
    · cases h1; cases h2; exact e.1
    · exact eqvAll_at e.2 i x y h1 h2
theorem ask_or {n : Nat} {r : Rw} (ok : OkR n r) : PyData.eqv (.tuple (rwD .ask)) (.tuple (rwD r)) = false ∨ PyData.eqv (.tuple (rwD (.set 0 5))) (.tuple (rwD r)) = false := by
  cases r with
  | ask => exact .inr (by kernel_rfl)
  | set a w => exact .inl (by kernel_rfl)
  | op k a b =>
    have hk := ok.1
    rcases k with _ | _ | _ | _ | _ | _ | k <;> first | omega | exact .inl (by kernel_rfl)
  | mem k a b w =>
    have hk := ok.1
    rcases k with _ | _ | k <;> first | omega | exact .inl (by kernel_rfl)
  | go t => exact .inl (by kernel_rfl)
  | iff a t => exact .inl (by kernel_rfl)
  | below a b t => exact .inl (by kernel_rfl)
  | into t a => exact .inl (by kernel_rfl)
  | by_ a => exact .inl (by kernel_rfl)

end
section
variable {P : Program} {w : World} {K : PySem.W.Frag} {mg : Str → Option Value} {base : Heap}

theorem pos_len {R : List Rw} {m at_ : Nat} {met : List Int} (h : Pos R m met at_) : met.length ≤ R.length + 1 := by
  obtain ⟨h0, ⟨_, rfl⟩ | ⟨_, _, _, rfl⟩⟩ := h
  · have := ledTo_len R at_; omega
  · have := ledTo_len R (at_ + 1); omega
/-- tuples may be told of more than once -/
def tupP (H : Hp) : Hp := fun a => match H a with
  | some (.tup xs) => some (.tup xs)
  | _ => none
theorem tupP_of {H : Hp} {a : Addr} {xs : List V} (h : H a = some (.tup xs)) : tupP H a = some (.tup xs) := by unfold tupP; rw [h]
theorem of_tupP {H : Hp} {a : Addr} {o : HO} (h : tupP H a = some o) : H a = some o ∧ ∃ xs, o = .tup xs := by
  unfold tupP at h
  split at h
  · rename_i xs e
    cases h
    exact ⟨e, xs, rfl⟩
  · cases h
theorem tups_of {xs : List V} {zs : List (List V)} {L : List SA} {H : Hp} (h : Hd L H) (l : xs.length = zs.length) (f : ∀ (i : Nat) z, zs[i]? = some z → ∃ t, xs[i]? = some (.ref t) ∧ H t = some (.tup z)) : Hd (tupsA xs zs :: L) H := by
  refine ⟨tupP H, H, ?_, fun a o e => (of_tupP e).1, fun a o e => e, ⟨l, fun i z e => ?_⟩, h⟩
  · intro a o1 o2 h1 h2
    obtain ⟨e, xs, rfl⟩ := of_tupP h1
    rw [e] at h2
    cases h2
    exact ⟨rfl, trivial⟩
  · obtain ⟨t, a, b⟩ := f i z e
    exact ⟨t, a, tupP_of b⟩
def vD : V → PyData
  | .int n => .int n
  | .str s => .str s
  | _ => .none
theorem rwD_map (r : Rw) : rwD r = (rwV r).map vD := by cases r <;> rfl
theorem r_endsT {y : Str} {H : Hp} {Q : VK} {b : Bool} (e : Txt.endswith y ":" = b) (q : Q (.bl b) H) : Q (.bl (Txt.endswith y ":")) H := by rw [e]; exact q

def sp_law_labels_right (T : Txt K mg) : Sp := fun vs H Q _ => ∃ (a : Addr) (xs : List V) (R : List Rw) (L : List SA), vs = [.str (txtM R), .ref a] ∧ (1 ≤ R.length ∧ R.length ≤ 200 ∧ ∀ r ∈ R, OkR R.length r) ∧ Hd (pto a (.lst xs) :: rowsT xs R :: L) H ∧ ∀ H', Hd (pto a (.lst xs) :: rowsT xs R :: L) H' → Q (.bl true) H'
theorem ok_law_labels_right (T : Txt K mg) : FnOk P w K mg base CX0 4 T.a_law_labels_right T.d_law_labels_right ["_law_text", "_law_code_here"] (sp_law_labels_right T) := by
  refine T.f_law_labels_right.ok sc_law_labels_right (fun vs H Q E h => ?_) (fun cdv A outer s H vs Q E hr h => ?_)
  · obtain ⟨a, xs, R, L, rfl, _⟩ := h
    rfl
  · obtain ⟨a, xs, R, L, rfl, h⟩ := h
    refine ⟨_, (pss_cons (ps_set (i := 2) sc_law_labels_right.nd rfl (by first | exact Or.inl rfl | exact Or.inr rfl) (pe_call (ok_law_asked T) (hr.mono (by decide)) (by rfl) T.g_law_asked T.f_law_asked.kp T.b_law_asked .nil pass0 (pa_cons (pv 1) pa_nil)))
       (pss_cons (ps_set (i := 3) sc_law_labels_right.nd rfl (by first | exact Or.inl rfl | exact Or.inr rfl) pe_int)
       (pss_cons (ps_set (i := 4) sc_law_labels_right.nd rfl (by first | exact Or.inl rfl | exact Or.inr rfl) (pe_lst pa_nil))
       (pss_cons (ps_for PassesOwn.never rfl (pi_list (k_bm (K := K) rfl (pe_bm PySem.F.plainAttrs_str PySem.F.slot_str_split PySem.F.type_str_split Tx.k_mtSplit (pv 0) (pa_cons pe_str pa_nil)))) (pg_name (i := 5) sc_law_labels_right.nd rfl (by first | exact Or.inl rfl | exact Or.inr rfl))
        (pss_one (ps_if (pt_val (k_bm (K := K) rfl (pe_bm PySem.F.plainAttrs_str PySem.F.slot_str_endswith PySem.F.type_str_endswith Tx.k_mtEnds (pv 5) (pa_cons pe_str pa_nil))))
        (pss_cons (ps_if (PW.pt (pw_or (pt_cmpR (k_ne (K := K) rfl hr.units) (pv 5) (pe_op (k_add (K := K) rfl) (pe_op (k_add (K := K) rfl) pe_str (pe_call (ok_law_letters T) hr (by rfl) T.g_law_letters T.f_law_letters.kp T.b_law_letters .nil pass0 (pa_cons (pe_callB (k_len (K := K) rfl) (by rfl) T.n_len (by decide +kernel) (pa_cons (pv 4) pa_nil)) pa_nil))) pe_str) (nomark _)) (pw_or (pt_cmpR (k_notIn (K := K) rfl (hu_of hr)) (pv 3) (pv 2) (by rfl)) (pw_or1 (pt_cmpR (k_in (K := K) rfl (hu_of hr)) (pv 3) (pv 4) (by rfl))))))
        (pss_one (ps_ret pe_bl))
        pss_nil)
       (pss_one (ps_expr (k_bm (K := K) rfl (pe_bm PySem.F.plainAttrs_list PySem.F.slot_list_append PySem.F.type_list_append mt_append (pv 4) (pa_cons (pv 3) pa_nil))))))
        (pss_one (ps_set (i := 3) sc_law_labels_right.nd rfl (by first | exact Or.inl rfl | exact Or.inr rfl) (pe_op (k_add (K := K) rfl) (pv 3) pe_int))))))
       (pss_one (ps_ret (pe_and (pe_cmpR (k_eq (K := K) rfl hr.units) (pv 4) (pv 2) (nomark _)) (pe_one (pe_cmpR (k_eq (K := K) rfl hr.units) (pv 3) (pe_callB (k_len (K := K) rfl) (by rfl) T.n_len (by decide +kernel) (pa_cons (pv 1) pa_nil)) (nomark _)))))))))), ?_⟩
    try dsimp only [cxOf]
    obtain ⟨⟨l1, l2, ok⟩, hs, q⟩ := h
    have lx := rows_len hs (by walk_at "pull")
    have ol := own_len l2 ok
    walk_at "run"
    refine ⟨a, xs, R, _, rfl, ⟨l2, ok⟩, hs, fun A H hs => ?_⟩
    walk_at "run"
    obtain ⟨M, eM⟩ : ∃ F, F = q_ := ⟨_, rfl⟩
    rw [← eM] at hs ⊢
    refine Tx.r_split hs (by decide +kernel) (by have h9 : (100000 : Nat) ≤ sizeLine := (by decide); omega) fun l H hs => ?_
    rw [own_split l1 l2 ok] at hs
    walk_at "run"
    refine Sl.r_forL ((lns (labs R) R).map V.str) (fun m σ H => ∃ (met : List Int) (at_ : Nat) (v5 : Option V), Pos R m met at_ ∧ σ = [some (.str (txtM R)), some (.ref a), some (.ref A), some (.int (at_ : Nat)), some (.ref M), v5] ∧ Hd (pto M (.lst (met.map V.int)) :: pto l (.lst ((lns (labs R) R).map V.str)) :: pto A (.lst ((srt (asked R)).map V.int)) :: pto a (.lst xs) :: rowsT xs R :: L) H) ⟨[], 0, _, ⟨Nat.zero_le _, .inl ⟨rfl, rfl⟩⟩, rfl, (by show Hd (pto M (.lst []) :: _) _; exact Hd.mt (by walk_at "mt") hs)⟩ (fun i σ H _ ⟨_, _, _, _, _, z⟩ => z.sq (a := l) (by walk_at "pull")) ?_ ?_
    · clear hs
      rintro m x σ H hx ⟨met, at_, v5, hp, rfl, hs⟩
      rw [List.getElem?_map] at hx
      obtain ⟨y, hy, rfl⟩ := Option.map_eq_some_iff.mp hx
      have pl := pos_len hp
      have pm : (met.map V.int).length = met.length := List.length_map ..
      have ll := len_lett met.length
      have k1 : ("l" : Str).length = 1 := by kernel_rfl
      rcases pos_step l2 ok hp hy with ⟨e1, e2, e3, e4⟩ | ⟨e1, e2⟩
      · walk_at "run"
        rw [show Txt.endswith y ":" = true from by rw [e1]; exact PySem.W.KT.ends_app _ _]
        walk_at "run"
        refine ⟨met.length, _, by rw [pm]; rfl, by omega, hs, fun H hs => ?_⟩
        walk_at "run"
        refine Sl.r_addS (Sl.sz (by omega)) ?_
        walk_at "run"
        refine Sl.r_addS (Sl.sz (by rw [Str.length_append, show (":" : Str).length = 1 from by kernel_rfl]; omega)) ?_
        walk_at "run"
        rw [decide_eq_true (show y = Str.ofString "l" ++ lettM met.length ++ Str.ofString ":" from e1)]
        walk_at "run"
        rw [Sl.inV_ints, decide_eq_true e2]
        walk_at "run"
        rw [Sl.inV_ints, decide_eq_false e3]
        walk_at "run"
        refine ⟨_, at_, _, e4, rfl, ?_⟩
        rw [List.map_append, List.map_cons, List.map_nil]
        exact Hd.mt (by walk_at "mt") hs
      · walk_at "run"
        rw [ends_free tl_colon e1]
        walk_at "run"
        exact ⟨met, at_ + 1, _, e2, by rw [show ((at_ + 1 : Nat) : Int) = ((at_ : Nat) : Int) + 1 by omega]; rfl, Hd.mt (by walk_at "mt") hs⟩
    clear hs
    rintro σ H ⟨met, at_, v5, hp, rfl, hs⟩
    rw [List.length_map] at hp
    obtain ⟨rfl, rfl⟩ := pos_end hp
    rw [← srt_asked ok] at hs
    walk_at "run"
    refine Sl.r_eqD1 (.lst (hs.sq (a := M) (by walk_at "pull")) (dp_ints _)) (.lst (hs.sq (a := A) (by walk_at "pull")) (dp_ints _)) (Sl.sh_listI _) ?_
    walk_at "run"
    rw [lx, decide_eq_true rfl]
    exact q _ (Hd.mt (by walk_at "mt") hs)

def someR (k : Nat) : List Rw := [.set 0 5, .set 0 50, .op 0 0 1, .op 0 1 0, .go k, .ask]
theorem someR_ok {n k : Nat} (h : k < n) : ∀ r ∈ someR k, OkR n r := by
  intro r m
  simp only [someR, List.mem_cons, List.not_mem_nil, or_false] at m
  rcases m with rfl | rfl | rfl | rfl | rfl | rfl
  · exact ⟨by decide, by decide, by decide⟩
  · exact ⟨by decide, by decide, by decide⟩
  · exact ⟨by decide, by decide, by decide⟩
  · exact ⟨by decide, by decide, by decide⟩
  · exact h
  · trivial
theorem cut_hiV (xs : List V) (j : Nat) : cutV xs none (some (j : Int)) = xs.take j := by
  have e := Sl.cut_hi (fun v : V => v) xs j
  rwa [List.map_id', List.map_id'] at e
theorem cut_loV (xs : List V) (j : Nat) : cutV xs (some (j : Int)) none = xs.drop j := by
  have e := Sl.cut_lo (fun v : V => v) xs j
  rwa [List.map_id', List.map_id'] at e
theorem some_at {k : Nat} {H : Hp} (E : Nat → Addr → Prop) (h0 : ∃ t, E 0 t ∧ H t = some (.tup [.str "set", .str "a", .int 5])) (h1 : ∃ t, E 1 t ∧ H t = some (.tup [.str "set", .str "a", .int 50])) (h2 : ∃ t, E 2 t ∧ H t = some (.tup [.str "copy", .str "a", .str "b"])) (h3 : ∃ t, E 3 t ∧ H t = some (.tup [.str "copy", .str "b", .str "a"])) (h4 : ∃ t, E 4 t ∧ H t = some (.tup [.str "go", .int (k : Nat)])) (h5 : ∃ t, E 5 t ∧ H t = some (.tup [.str "ask"])) : ∀ (i : Nat) r, (someR k)[i]? = some r → ∃ t, E i t ∧ H t = some (.tup (rwV r)) := by
  intro i r e
  have w0 : rwV (.set 0 5) = [.str "set", .str "a", .int 5] := by kernel_rfl
  have w1 : rwV (.set 0 50) = [.str "set", .str "a", .int 50] := by kernel_rfl
  have w2 : rwV (.op 0 0 1) = [.str "copy", .str "a", .str "b"] := by kernel_rfl
  have w3 : rwV (.op 0 1 0) = [.str "copy", .str "b", .str "a"] := by kernel_rfl
  rcases i with _ | _ | _ | _ | _ | _ | i
  · cases e; rw [w0]; exact h0
  · cases e; rw [w1]; exact h1
  · cases e; rw [w2]; exact h2
  · cases e; rw [w3]; exact h3
  · cases e; exact h4
  · cases e; exact h5
  · cases e
/-- the rows that are other ones, so far -/
def SomeI (k : Nat) (r0 : Rw) (six : List V) (i : Nat) (Ys : List V) : Prop := (∀ v ∈ Ys, ∃ (j : Nat) (r : Rw), six[j]? = some v ∧ (someR k)[j]? = some r ∧ PyData.eqv (.tuple (rwD r)) (.tuple (rwD r0)) = false) ∧ (∀ (j : Nat) (r : Rw), j < i → (someR k)[j]? = some r → PyData.eqv (.tuple (rwD r)) (.tuple (rwD r0)) = false → Ys ≠ []) ∧ Ys.length ≤ i
theorem some_nil {k : Nat} {r0 : Rw} {six : List V} : SomeI k r0 six 0 [] := ⟨fun _ m => (nomatch m), fun _ _ h => absurd h (Nat.not_lt_zero _), Nat.le_refl _⟩
theorem SomeI.add {k : Nat} {r0 r : Rw} {six : List V} {i : Nat} {Ys : List V} {v : V} (h : SomeI k r0 six i Ys) (hx : six[i]? = some v) (hr : (someR k)[i]? = some r) (e : PyData.eqv (.tuple (rwD r)) (.tuple (rwD r0)) = false) : SomeI k r0 six (i + 1) (Ys ++ [v]) := by
  refine ⟨fun z m => ?_, fun j r2 _ _ _ z => ?_, ?_⟩
  · rcases List.mem_append.mp m with m | m
    · exact h.1 z m
    · cases List.mem_singleton.mp m
      exact ⟨i, r, hx, hr, e⟩
  · exact absurd (List.append_eq_nil_iff.mp z).2 (List.cons_ne_nil _ _)
  · have := h.2.2
    rw [List.length_append]
    exact Nat.succ_le_succ this
theorem SomeI.skip {k : Nat} {r0 r : Rw} {six : List V} {i : Nat} {Ys : List V} (h : SomeI k r0 six i Ys) (hr : (someR k)[i]? = some r) (e : PyData.eqv (.tuple (rwD r)) (.tuple (rwD r0)) = true) : SomeI k r0 six (i + 1) Ys := by
  refine ⟨h.1, fun j r2 hj h2 h3 => ?_, Nat.le_succ_of_le h.2.2⟩
  rcases Nat.eq_or_lt_of_le (Nat.le_of_lt_succ hj) with rfl | hj
  · rw [hr] at h2
    cases h2
    rw [e] at h3
    cases h3
  · exact h.2.1 j r2 hj h2 h3
theorem SomeI.out {n k : Nat} {r0 : Rw} {six : List V} {Ys : List V} (h : SomeI k r0 six six.length Ys) (l6 : six.length = 6) (ok : OkR n r0) : 1 ≤ Ys.length ∧ Ys.length ≤ 6 ∧ ∀ v ∈ Ys, ∃ (j : Nat) (r : Rw), six[j]? = some v ∧ (someR k)[j]? = some r ∧ PyData.eqv (.tuple (rwD r)) (.tuple (rwD r0)) = false := by
  rw [l6] at h
  refine ⟨?_, h.2.2, h.1⟩
  have : Ys ≠ [] := by
    rcases ask_or ok with e | e
    · exact h.2.1 5 _ (by decide) rfl e
    · exact h.2.1 0 _ (by decide) rfl e
  cases Ys with
  | nil => exact absurd rfl this
  | cons => exact Nat.succ_le_succ (Nat.zero_le _)
theorem set_cut {α : Type} {l : List α} {k : Nat} {x : α} (h : k < l.length) : l.take k ++ [x] ++ l.drop (k + 1) = l.set k x := by
  rw [List.set_eq_take_append_cons_drop, if_pos h]
  simp
theorem rows_of {xs : List V} {R : List Rw} {L : List SA} {H : Hp} (h : Hd L H) (l : xs.length = R.length) (f : ∀ (i : Nat) r, R[i]? = some r → ∃ t, xs[i]? = some (.ref t) ∧ H t = some (.tup (rwV r))) : Hd (rowsT xs R :: L) H := by
  refine tups_of h (by rw [List.length_map]; exact l) fun i z e => ?_
  rw [List.getElem?_map] at e
  obtain ⟨r, hr, rfl⟩ := Option.map_eq_some_iff.mp e
  exact f i r hr
theorem rows_set {xs : List V} {R : List Rw} {r : Rw} {t : Addr} {k : Nat} {L L' : List SA} {H : Hp} (h : Hd L H) (p : Pull (rowsT xs R) L L') (e : H t = some (.tup (rwV r))) : Hd (rowsT (xs.set k (.ref t)) (R.set k r) :: L) H := by
  have lx := rows_len h p
  refine rows_of h (by rw [List.length_set, List.length_set]; exact lx) fun i z hz => ?_
  rw [List.getElem?_set] at hz
  split at hz
  · rename_i ek
    subst ek
    split at hz
    · rename_i hk
      cases hz
      exact ⟨t, by rw [List.getElem?_set, if_pos rfl, if_pos (by omega)], e⟩
    · cases hz
  · rename_i ek
    obtain ⟨t2, e2⟩ := rows_ref h p hz
    exact ⟨t2, by rw [List.getElem?_set, if_neg ek]; exact e2, rows_get h p e2 hz⟩

def sp_law_other (T : Txt K mg) : Sp := fun vs H Q _ => ∃ (d a : Addr) (xs : List V) (R : List Rw) (L : List SA), vs = [.ref d, .ref a] ∧ (1 ≤ R.length ∧ R.length ≤ 200 ∧ ∀ r ∈ R, OkR R.length r) ∧ Hd (stB d :: pto a (.lst xs) :: rowsT xs R :: L) H ∧ ∀ (F : Addr) (ys : List V) (k : Nat) (r0 r1 : Rw) (H' : Hp), (R[k]? = some r0 ∧ OkR R.length r1 ∧ PyData.eqv (.tuple (rwD r1)) (.tuple (rwD r0)) = false) → Hd (pto F (.lst ys) :: rowsT ys (R.set k r1) :: stB d :: pto a (.lst xs) :: rowsT xs R :: L) H' → Q (.ref F) H'
theorem ok_law_other (T : Txt K mg) : FnOk P w K mg base CX0 3 T.a_law_other T.d_law_other ["_law_state_here", "_law_code_here"] (sp_law_other T) := by
  refine T.f_law_other.ok sc_law_other (fun vs H Q E h => ?_) (fun cdv A outer s H vs Q E hr h => ?_)
  · obtain ⟨d, a, xs, R, L, rfl, _⟩ := h
    rfl
  · obtain ⟨d, a, xs, R, L, rfl, h⟩ := h
    refine ⟨_, (pss_cons (ps_set (i := 2) sc_law_other.nd rfl (by first | exact Or.inl rfl | exact Or.inr rfl) (pe_op (k_mod (K := K) rfl) (pe_call (ok_law_next T) hr (by rfl) T.g_law_next T.f_law_next.kp T.b_law_next .nil pass0 (pa_cons (pv 0) pa_nil)) (pe_callB (k_len (K := K) rfl) (by rfl) T.n_len (by decide +kernel) (pa_cons (pv 1) pa_nil))))
       (pss_cons (ps_set (i := 3) sc_law_other.nd rfl (by first | exact Or.inl rfl | exact Or.inr rfl) (pe_lst (pa_cons (pe_tup (pa_cons pe_str (pa_cons pe_str (pa_cons pe_int pa_nil)))) (pa_cons (pe_tup (pa_cons pe_str (pa_cons pe_str (pa_cons pe_int pa_nil)))) (pa_cons (pe_tup (pa_cons pe_str (pa_cons pe_str (pa_cons pe_str pa_nil)))) pa_nil)))))
       (pss_cons (ps_set (i := 3) sc_law_other.nd rfl (by first | exact Or.inl rfl | exact Or.inr rfl) (pe_op (k_add (K := K) rfl) (pv 3) (pe_lst (pa_cons (pe_tup (pa_cons pe_str (pa_cons pe_str (pa_cons pe_str pa_nil)))) (pa_cons (pe_tup (pa_cons pe_str (pa_cons (pv 2) pa_nil))) (pa_cons (pe_tup (pa_cons pe_str pa_nil)) pa_nil))))))
       (pss_cons (ps_setLc (i := 3) (own := [("_law_row", 4)]) rfl sc_law_other.nd rfl rfl (sw_true rfl rfl rfl (by decide +kernel)) (pi_list (pv 3)) (blkOk_by (N := ["_law_state_here", "_law_code_here", "_law_at", "_law_some", "_law_row", "_law_other_here"]) (sc := defScope s_law_other) (by decide +kernel)) (fun _ _ _ _ _ => (pg_name (i := 4) sc_law_other.nd rfl (by first | exact Or.inl rfl | exact Or.inr rfl))) (fun s_0 H_0 C_0 cl_0 fp_0 => (pts_one (pt_cmpR (k_ne (K := K) rfl hr.units) (pv 4) (pe_ix (k_ix (K := K) rfl (hu_of hr)) (pv 1) (pv 2) (fun _ _ => rfl)) (nomark _)))) (fun s_0 H_0 C_0 cl_0 fp_0 => (pv 4)))
       (pss_cons (ps_set (i := 5) sc_law_other.nd rfl (by first | exact Or.inl rfl | exact Or.inr rfl) (pe_ix (k_ix (K := K) rfl (hu_of hr)) (pv 3) (pe_op (k_mod (K := K) rfl) (pe_call (ok_law_next T) hr (by rfl) T.g_law_next T.f_law_next.kp T.b_law_next .nil pass0 (pa_cons (pv 0) pa_nil)) (pe_callB (k_len (K := K) rfl) (by rfl) T.n_len (by decide +kernel) (pa_cons (pv 3) pa_nil))) (fun _ _ => rfl)))
       (pss_one (ps_ret (pe_op (k_add (K := K) rfl) (pe_op (k_add (K := K) rfl) (pe_slice (k_slL (K := K) rfl) (pv 1) po_none (po_some (pv 2))) (pe_lst (pa_cons (pv 5) pa_nil))) (pe_slice (k_slL (K := K) rfl) (pv 1) (po_some (pe_op (k_add (K := K) rfl) (pv 2) pe_int)) po_none))))))))), ?_⟩
    try dsimp only [cxOf]
    obtain ⟨⟨l1, l2, ok⟩, hs, q⟩ := h
    have lx := rows_len hs (by walk_at "pull")
    walk_at "run"
    refine ⟨d, _, rfl, hs, fun n1 H n10 hs => ?_⟩
    walk_at "run"
    have x0 : 1 ≤ xs.length := by omega
    walk_at "run"
    obtain ⟨k, ek⟩ : ∃ k : Nat, n1 % ((xs.length : Nat) : Int) = (k : Int) := ⟨_, (Int.toNat_of_nonneg (Int.emod_nonneg n1 (by omega))).symm⟩
    have a1 := Int.emod_lt_of_pos n1 (by omega : (0 : Int) < ((xs.length : Nat) : Int))
    rw [ek] at a1
    have hk : k < R.length := by omega
    have hr : R[k]? = some R[k] := List.getElem?_eq_getElem hk
    have okr := ok _ (List.getElem_mem hk)
    obtain ⟨t0, et⟩ := rows_ref (xs := xs) hs (by walk_at "pull") hr
    generalize R[k] = r0 at *
    walk_at "run"
    rename_i t1 _ t2 _ t3 _ l1_ _ t4 _ t5 _ t6 _ l2_ _
    obtain ⟨l3, el3⟩ : ∃ F, F = q_ := ⟨_, rfl⟩
    rw [← el3] at hs ⊢
    rw [ek] at hs ⊢
    rw [show ([V.ref t1, V.ref t2, V.ref t3] ++ [V.ref t4, V.ref t5, V.ref t6]) = [V.ref t1, V.ref t2, V.ref t3, V.ref t4, V.ref t5, V.ref t6] from rfl] at hs
    have hs := rows_of (xs := [V.ref t1, V.ref t2, V.ref t3, V.ref t4, V.ref t5, V.ref t6]) (R := someR k) hs rfl (some_at (k := k) (fun i t => [V.ref t1, V.ref t2, V.ref t3, V.ref t4, V.ref t5, V.ref t6][i]? = some (.ref t)) ⟨t1, rfl, hs.get (by walk_at "pull")⟩ ⟨t2, rfl, hs.get (by walk_at "pull")⟩ ⟨t3, rfl, hs.get (by walk_at "pull")⟩ ⟨t4, rfl, hs.get (by walk_at "pull")⟩ ⟨t5, rfl, hs.get (by walk_at "pull")⟩ ⟨t6, rfl, hs.get (by walk_at "pull")⟩)
    obtain ⟨six, e6⟩ : ∃ S, S = [V.ref t1, V.ref t2, V.ref t3, V.ref t4, V.ref t5, V.ref t6] := ⟨_, rfl⟩
    rw [← e6] at hs
    have l6 : six.length = 6 := by rw [e6]; rfl
    have hs : Hd (pto l3 (.lst six) :: rowsT six (someR k) :: stB d :: pto a (.lst xs) :: rowsT xs R :: L) H := by rw [e6]; rw [e6] at hs; exact Hd.mt (by walk_at "mt") hs
    clear e6
    refine Sl.r_lcL six (fun D i H => ∃ Ys : List V, SomeI k r0 six i Ys ∧ Hd (pto D (.lst Ys) :: pto l3 (.lst six) :: rowsT six (someR k) :: stB d :: pto a (.lst xs) :: rowsT xs R :: L) H) hs (fun D H hs => ⟨[], some_nil, hs⟩) (fun D i H _ ⟨_, _, hs⟩ => hs.sq (a := l3) (by walk_at "pull")) ?_ ?_
    · clear hs
      rintro D i x H hx ⟨Ys, si, hs⟩
      have i6 : i < 6 := by
        have := (List.getElem?_eq_some_iff.mp hx).1
        omega
      have hi : i < (someR k).length := i6
      have hr2 : (someR k)[i]? = some (someR k)[i] := List.getElem?_eq_getElem hi
      have ok2 := someR_ok hk _ (List.getElem_mem hi)
      obtain ⟨t, et2⟩ := rows_ref (xs := six) hs (by walk_at "pull") hr2
      rw [hx] at et2
      cases et2
      have ly : Ys.length ≤ 6 := Nat.le_trans si.2.2 (by omega)
      generalize (someR k)[i] = r at *
      walk_at "run"
      refine Sl.r_ixL (hs.sq (a := a) (by walk_at "pull")) (atI_nat et) ?_
      walk_at "run"
      refine Sl.r_neD (dp_rw (rows_st (xs := six) hs (by walk_at "pull") hx hr2)) (dp_rw (rows_st (xs := xs) hs (by walk_at "pull") et hr)) (sh_rw ok2) (sh_rw okr) ?_
      cases ee : PyData.eqv (.tuple (rwD r)) (.tuple (rwD r0)) with
      | false =>
        walk_at "run"
        exact ⟨_, si.add hx hr2 ee, Hd.mt (by walk_at "mt") hs⟩
      | true =>
        walk_at "run"
        exact ⟨Ys, si.skip hr2 ee, hs⟩
    clear hs
    rintro D H ⟨Ys, si, hs⟩
    obtain ⟨ly0, ly6, hat⟩ := si.out l6 okr
    walk_at "run"
    refine ⟨d, _, rfl, Hd.mt (by walk_at "mt") hs, fun n2 H n20 hs => ?_⟩
    walk_at "run"
    obtain ⟨j, ej⟩ : ∃ k : Nat, n2 % ((Ys.length : Nat) : Int) = (k : Int) := ⟨_, (Int.toNat_of_nonneg (Int.emod_nonneg n2 (by omega))).symm⟩
    have a2 := Int.emod_lt_of_pos n2 (by omega : (0 : Int) < ((Ys.length : Nat) : Int))
    rw [ej] at a2
    obtain ⟨j2, r1, y1, y2, y3⟩ := hat _ (List.getElem_mem (show j < Ys.length by omega))
    obtain ⟨t9, et9⟩ := rows_ref (xs := six) hs (by walk_at "pull") y2
    rw [y1] at et9
    have hy : Ys[j]? = some (.ref t9) := by rw [List.getElem?_eq_getElem (by omega)]; exact et9
    have ok1 := someR_ok hk _ (List.mem_of_getElem? y2)
    rw [ej]
    have k1 : (cutV xs none (some (k : Int))).length = k := by rw [cut_hiV, List.length_take]; omega
    have k2 : (cutV xs (some ((k : Int) + 1)) none).length = xs.length - (k + 1) := by rw [show (k : Int) + 1 = ((k + 1 : Nat) : Int) from rfl, cut_loV, List.length_drop]
    refine Sl.r_ixL (hs.sq (a := D) (by walk_at "pull")) (atI_nat hy) ?_
    walk_at "run"
    rw [show (k : Int) + 1 = ((k + 1 : Nat) : Int) from rfl, cut_hiV, cut_loV, set_cut (show k < xs.length by omega)] at hs
    have hs := rows_set (xs := xs) (R := R) (k := k) hs (by walk_at "pull") (rows_get (xs := six) hs (by walk_at "pull") (y1.trans et9) y2)
    exact q _ _ k r0 r1 _ ⟨hr, ok1, y3⟩ (Hd.mt (by walk_at "mt") hs)
end
section
variable {P : Program} {w : World} {K : PySem.W.Frag} {mg : Str → Option Value} {base : Heap}

theorem join_fit {Ls : List Str} (h1 : Ls.length ≤ 1000) (h2 : ∀ y ∈ Ls, 10 ∉ y.cps.toList ∧ y.length ≤ 60) : (Ls.map (·.length)).sum + Ls.length * ("\n" : Str).length ≤ 61000 := by
  have h3 := Tx.sum_le (B := 60) fun y m => (h2 y m).2
  have h4 : ("\n" : Str).length = 1 := by kernel_rfl
  rw [h4, Nat.mul_one]
  omega
theorem set_ok {R : List Rw} {k : Nat} {r1 : Rw} (ok : ∀ r ∈ R, OkR R.length r) (o : OkR R.length r1) : ∀ r ∈ R.set k r1, OkR (R.set k r1).length r := by
  rw [List.length_set]
  intro r m
  rcases List.mem_or_eq_of_mem_set m with m | rfl
  · exact ok r m
  · exact o
theorem other_txt {R : List Rw} {k : Nat} {r0 r1 : Rw} (l1 : 1 ≤ R.length) (l2 : R.length ≤ 200) (ok : ∀ r ∈ R, OkR R.length r) (h : R[k]? = some r0 ∧ OkR R.length r1 ∧ PyData.eqv (.tuple (rwD r1)) (.tuple (rwD r0)) = false) : txtM (R.set k r1) ≠ txtM R := by
  intro e
  have e2 := txt_inj (by rw [List.length_set]; exact l1) (by rw [List.length_set]; exact l2) (set_ok ok h.2.1) l1 l2 ok e
  have hk := (List.getElem?_eq_some_iff.mp h.1).1
  have a : ((R.set k r1).map rwV)[k]? = some (rwV r1) := by rw [List.getElem?_map, List.getElem?_set, if_pos rfl, if_pos hk]; rfl
  rw [e2, List.getElem?_map, h.1] at a
  have a : rwV r0 = rwV r1 := Option.some.inj a
  have h3 := h.2.2
  rw [rwD_map r1, ← a, ← rwD_map r0, eqv_self (sh_rw (ok _ (List.mem_of_getElem? h.1)))] at h3
  cases h3
theorem other_rows {R : List Rw} {k : Nat} {r0 r1 : Rw} (h : R[k]? = some r0 ∧ OkR R.length r1 ∧ PyData.eqv (.tuple (rwD r1)) (.tuple (rwD r0)) = false) : PyData.eqv (.list ((R.set k r1).map fun r => .tuple (rwD r))) (.list (R.map fun r => .tuple (rwD r))) = false := by
  cases e : PyData.eqv (.list ((R.set k r1).map fun r => .tuple (rwD r))) (.list (R.map fun r => .tuple (rwD r))) with
  | false => rfl
  | true =>
    exfalso
    have e : PyData.eqvAll ((R.set k r1).map fun r => .tuple (rwD r)) (R.map fun r => .tuple (rwD r)) = true := e
    have hk := (List.getElem?_eq_some_iff.mp h.1).1
    have := eqvAll_at e k (.tuple (rwD r1)) (.tuple (rwD r0)) (by rw [List.getElem?_map, List.getElem?_set, if_pos rfl, if_pos hk]; rfl) (by rw [List.getElem?_map, h.1]; rfl)
    rw [this] at h
    cases h.2.2

def sp_law (K : PySem.W.Frag) : Sp := fun vs H Q _ => ∃ (a : Addr) (ns : List Int), vs = [.ref a] ∧ ns.length ≤ 63 ∧ Hd [sql K a (ns.map V.int)] H ∧ ∀ H', Q (.bl true) H'
theorem ok_law (T : Txt K mg) (FW : T.wP = w.params) : FnOk P w K mg base CX0 8 T.a_law T.d_law ["_law_script"] (sp_law K) := by
  refine T.f_law.ok sc_law (fun vs H Q E h => ?_) (fun cdv A outer s H vs Q E hr h => ?_)
  · obtain ⟨a, ns, rfl, _⟩ := h
    rfl
  · obtain ⟨a, ns, rfl, h⟩ := h
    refine ⟨_, (pss_cons (ps_for PassesOwn.never rfl (pi_list (pv 0)) (pg_name (i := 1) sc_law.nd rfl (by first | exact Or.inl rfl | exact Or.inr rfl))
        (pss_cons (ps_set (i := 2) sc_law.nd rfl (by first | exact Or.inl rfl | exact Or.inr rfl) (pe_call (ok_law_state T) (hr.mono (by decide)) (by rfl) T.g_law_state T.f_law_state.kp T.b_law_state .nil pass0 (pa_cons (pv 1) pa_nil)))
       (pss_cons (ps_set (i := 3) sc_law.nd rfl (by first | exact Or.inl rfl | exact Or.inr rfl) (pe_call (ok_law_code T) (hr.mono (by decide)) (by rfl) T.g_law_code T.f_law_code.kp T.b_law_code .nil pass0 (pa_cons (pv 2) (pa_cons pe_int pa_nil))))
       (pss_cons (ps_set (i := 4) sc_law.nd rfl (by first | exact Or.inl rfl | exact Or.inr rfl) (pe_call (ok_program_of T FW) (hr.mono (by decide)) (by rfl) T.g_program_of T.f_program_of.kp T.b_program_of .nil pass0 (pa_cons (pv 3) pa_nil)))
       (pss_cons (ps_set (i := 5) sc_law.nd rfl (by first | exact Or.inl rfl | exact Or.inr rfl) (pe_meth0 (pv 4) T.cl_Program T.m_Program_text (ok_Program_text T FW) (hr.mono (by decide)) T.b_Program_text .nil pass0))
       (pss_cons (ps_set (i := 6) sc_law.nd rfl (by first | exact Or.inl rfl | exact Or.inr rfl) (pe_call (ok_read T FW) hr (by rfl) T.g_read T.f_read.kp T.b_read .nil pass0 (pa_cons (pv 5) pa_nil)))
       (pss_cons (ps_if (PW.pt (pw_or (pt_cmpR (k_ne (K := K) rfl hr.units) (pe_meth0 (pv 6) T.cl_Program T.m_Program_rows (ok_Program_rows T) (hr.mono (by decide)) T.b_Program_rows .nil pass0) (pv 3) (nomark _)) (pw_or (pt_cmpR (k_ne (K := K) rfl hr.units) (pe_meth0 (pv 6) T.cl_Program T.m_Program_text (ok_Program_text T FW) (hr.mono (by decide)) T.b_Program_text .nil pass0) (pv 5) (nomark _)) (pw_or1 (pt_not (pt_val (pe_call (ok_law_labels_right T) (hr.mono (by decide)) (by rfl) T.g_law_labels_right T.f_law_labels_right.kp T.b_law_labels_right .nil pass0 (pa_cons (pv 5) (pa_cons (pv 3) pa_nil)))))))))
        (pss_one (ps_ret pe_bl))
        pss_nil)
       (pss_cons (ps_for PassesOwn.never rfl (pi_range1 (by rfl) T.n_range (pa_cons pe_int pa_nil)) (pg_name (i := 7) sc_law.nd rfl (by first | exact Or.inl rfl | exact Or.inr rfl))
        (pss_one (ps_if (pt_cmpR (k_ne (K := K) rfl hr.units) (pe_meth0 (pe_call (ok_read T FW) hr (by rfl) T.g_read T.f_read.kp T.b_read .nil pass0 (pa_cons (k_bm (K := K) rfl (pe_bm PySem.F.plainAttrs_str PySem.F.slot_str_join PySem.F.type_str_join (Tx.k_mtJoin (K := K) rfl) pe_str (pa_cons (pe_call (ok_law_loose T) (hr.mono (by decide)) (by rfl) T.g_law_loose T.f_law_loose.kp T.b_law_loose .nil pass0 (pa_cons (pv 2) (pa_cons (pv 3) pa_nil))) pa_nil))) pa_nil)) T.cl_Program T.m_Program_text (ok_Program_text T FW) (hr.mono (by decide)) T.b_Program_text .nil pass0) (pv 5) (nomark _))
        (pss_one (ps_ret pe_bl))
        pss_nil)))
       (pss_cons (ps_if (pt_cmpR (k_ne (K := K) rfl hr.units) (pe_meth0 (pe_call (ok_program_of T FW) (hr.mono (by decide)) (by rfl) T.g_program_of T.f_program_of.kp T.b_program_of .nil pass0 (pa_cons (pe_meth0 (pv 6) T.cl_Program T.m_Program_rows (ok_Program_rows T) (hr.mono (by decide)) T.b_Program_rows .nil pass0) pa_nil)) T.cl_Program T.m_Program_text (ok_Program_text T FW) (hr.mono (by decide)) T.b_Program_text .nil pass0) (pv 5) (nomark _))
        (pss_one (ps_ret pe_bl))
        pss_nil)
       (pss_cons (ps_set (i := 8) sc_law.nd rfl (by first | exact Or.inl rfl | exact Or.inr rfl) (pe_call (ok_program_of T FW) (hr.mono (by decide)) (by rfl) T.g_program_of T.f_program_of.kp T.b_program_of .nil pass0 (pa_cons (pe_call (ok_law_other T) (hr.mono (by decide)) (by rfl) T.g_law_other T.f_law_other.kp T.b_law_other .nil pass0 (pa_cons (pv 2) (pa_cons (pv 3) pa_nil))) pa_nil)))
       (pss_one (ps_if (PW.pt (pw_or (pt_cmpR (k_eq (K := K) rfl hr.units) (pe_meth0 (pv 8) T.cl_Program T.m_Program_text (ok_Program_text T FW) (hr.mono (by decide)) T.b_Program_text .nil pass0) (pv 5) (nomark _)) (pw_or (pt_cmpR (k_eq (K := K) rfl hr.units) (pe_meth0 (pv 8) T.cl_Program T.m_Program_rows (ok_Program_rows T) (hr.mono (by decide)) T.b_Program_rows .nil pass0) (pv 3) (nomark _)) (pw_or1 (pt_cmpR (k_ne (K := K) rfl hr.units) (pe_meth0 (pv 4) T.cl_Program T.m_Program_text (ok_Program_text T FW) (hr.mono (by decide)) T.b_Program_text .nil pass0) (pv 5) (nomark _))))))
        (pss_one (ps_ret pe_bl))
        pss_nil))))))))))))
       (pss_cons (ps_set (i := 9) sc_law.nd rfl (by first | exact Or.inl rfl | exact Or.inr rfl) (pe_op (k_add (K := K) rfl) pe_int (pe_op (k_mod (K := K) rfl) (pe_op (k_add (K := K) rfl) (pe_callB (k_sum (K := K) rfl rfl) (by rfl) T.n_sum (by decide +kernel) (pa_cons (pv 0) pa_nil)) (pe_callB (k_len (K := K) rfl) (by rfl) T.n_len (by decide +kernel) (pa_cons (pv 0) pa_nil))) pe_int)))
       (pss_cons (ps_setLc (i := 3) (own := [("_law_k", 10)]) rfl sc_law.nd rfl rfl (sw_true rfl rfl rfl (by decide +kernel)) (pi_range1 (by rfl) T.n_range (pa_cons (pv 9) pa_nil)) (blkOk_by (N := ["_law_script", "_law_cell", "_law_state_here", "_law_code_here", "_law_program", "_law_text", "_law_again", "_law_turn", "_law_other_here", "_law_many", "_law_k"]) (sc := defScope s_law) (by decide +kernel)) (fun _ _ _ _ _ => (pg_name (i := 10) sc_law.nd rfl (by first | exact Or.inl rfl | exact Or.inr rfl))) (fun s_0 H_0 C_0 cl_0 fp_0 => pts_nil) (fun s_0 H_0 C_0 cl_0 fp_0 => (pe_tup (pa_cons pe_str (pa_cons (pe_ix (k_ix (K := K) rfl (hu_of hr)) pe_str (pe_op (k_mod (K := K) rfl) (pv 10) pe_int) (fun _ _ => rfl)) (pa_cons (pe_op (k_sub (K := K) rfl) (pe_op (k_sub (K := K) rfl) (pv 9) pe_int) (pv 10)) pa_nil))))))
       (pss_cons (ps_set (i := 5) sc_law.nd rfl (by first | exact Or.inl rfl | exact Or.inr rfl) (pe_meth0 (pe_call (ok_program_of T FW) (hr.mono (by decide)) (by rfl) T.g_program_of T.f_program_of.kp T.b_program_of .nil pass0 (pa_cons (pv 3) pa_nil)) T.cl_Program T.m_Program_text (ok_Program_text T FW) (hr.mono (by decide)) T.b_Program_text .nil pass0))
       (pss_one (ps_ret (pe_and (pe_cmpR (k_eq (K := K) rfl hr.units) (pe_meth0 (pe_call (ok_read T FW) hr (by rfl) T.g_read T.f_read.kp T.b_read .nil pass0 (pa_cons (pv 5) pa_nil)) T.cl_Program T.m_Program_rows (ok_Program_rows T) (hr.mono (by decide)) T.b_Program_rows .nil pass0) (pv 3) (nomark _)) (pe_one (pe_call (ok_law_labels_right T) (hr.mono (by decide)) (by rfl) T.g_law_labels_right T.f_law_labels_right.kp T.b_law_labels_right .nil pass0 (pa_cons (pv 5) (pa_cons (pv 3) pa_nil))))))))))), ?_⟩
    try dsimp only [cxOf]
    obtain ⟨hl, hs, q⟩ := h
    walk_at "run"
    refine Sl.r_forL (ns.map V.int) (fun i σ H => (∃ v1 v2 v3 v4 v5 v6 v7 v8, σ = [some (.ref a), v1, v2, v3, v4, v5, v6, v7, v8, none, none]) ∧ Hd [sql K a (ns.map V.int)] H) ⟨⟨_, _, _, _, _, _, _, _, rfl⟩, hs⟩ (fun i σ H _ z => z.2.sql (by walk_at "pull")) ?_ ?_
    · clear hs
      rintro i x σ H hx ⟨⟨v1, v2, v3, v4, v5, v6, v7, v8, rfl⟩, hs⟩
      rw [List.getElem?_map] at hx
      obtain ⟨cell, hc, rfl⟩ := Option.map_eq_some_iff.mp hx
      walk_at "run"
      refine ⟨cell, _, rfl, hs, fun d H hs => ?_⟩
      walk_at "run"
      refine ⟨d, 110, _, rfl, ⟨by decide, by decide⟩, hs, fun c xs R H okR hs => ?_⟩
      have lx := rows_len hs (by walk_at "pull")
      obtain ⟨l1, l110, ok⟩ := okR
      have l2 : R.length ≤ 200 := by omega
      walk_at "run"
      refine ⟨c, xs, R, _, rfl, ⟨l1, l2, ok⟩, hs, fun p H hs => ?_⟩
      walk_at "run"
      refine ⟨p, xs, R, _, rfl, ⟨l2, ok⟩, Hd.mt (by walk_at "mt") hs, fun H hs => ?_⟩
      walk_at "run"
      refine ⟨txtM R, _, _, _, rfl, ⟨own_split l1 l2 ok, own_reads l1 l2 ok, Nat.le_trans (own_len l2 ok) (by decide)⟩, hs, fun g ys H hs => ?_⟩
      have hs : Hd (progA T.C_Program g ys :: rowsT ys R :: progA T.C_Program p xs :: pto c (.lst xs) :: rowsT xs R :: stB d :: [sql K a (ns.map V.int)]) _ := Hd.mt (by walk_at "mt") (show Hd (progA T.C_Program g ys :: rowsT ys R :: progA T.C_Program p xs :: rowsT xs R :: _) _ from hs)
      have ly := rows_len (xs := ys) hs (by walk_at "pull")
      walk_at "run"
      refine ⟨g, ys, _, rfl, hs, fun l H hs => ?_⟩
      walk_at "run"
      refine Sl.r_neD1 (.lst (hs.sq (a := l) (by walk_at "pull")) (dp_prog (xs := ys) hs (by walk_at "pull"))) (.lst (hs.sq (a := c) (by walk_at "pull")) (dp_prog (xs := xs) hs (by walk_at "pull"))) (sh_prog ok) ?_
      walk_at "run"
      refine ⟨g, ys, R, _, rfl, ⟨l2, ok⟩, Hd.mt (by walk_at "mt") hs, fun H hs => ?_⟩
      walk_at "run"
      rw [decide_eq_true (show txtM R = txtM R from rfl)]
      walk_at "run"
      refine ⟨c, xs, R, _, rfl, ⟨l1, l2, ok⟩, Hd.mt (by walk_at "mt") hs, fun H hs => ?_⟩
      walk_at "run"
      have hs : Hd (progA T.C_Program g ys :: rowsT ys R :: progA T.C_Program p xs :: pto c (.lst xs) :: rowsT xs R :: stB d :: [sql K a (ns.map V.int)]) _ := Hd.mt (by walk_at "mt") hs
      refine Sl.r_forR (fun i σ H => (∃ w1 w2, σ = [some (.ref a), some (.int cell), some (.ref d), some (.ref c), some (.ref p), some (.str (txtM R)), some (.ref g), w1, w2, none, none]) ∧ Hd (progA T.C_Program g ys :: rowsT ys R :: progA T.C_Program p xs :: pto c (.lst xs) :: rowsT xs R :: stB d :: [sql K a (ns.map V.int)]) H) ⟨⟨_, _, rfl⟩, hs⟩ ?_ ?_
      · clear hs
        rintro i σ H hi ⟨⟨w1, w2, rfl⟩, hs⟩
        walk_at "run"
        refine ⟨d, c, xs, R, _, rfl, ⟨l1, l2, ok⟩, Hd.mt (by walk_at "mt") hs, fun F Ls H gl hs => ?_⟩
        obtain ⟨g1, g2, g3, g4⟩ := gl
        have jf := join_fit g3 g4
        walk_at "run"
        refine Tx.r_joinL (hs.sq (a := F) (by walk_at "pull")) (Nat.le_trans jf (by decide)) ?_
        walk_at "run"
        have jl := Tx.join_le "\n" Ls
        refine ⟨Txt.join "\n" Ls, Ls, _, _, rfl, ⟨Tx.split_join Tx.nl_tl g2 fun y m => (g4 y m).1, g1, by omega⟩, hs, fun g2 zs H hs => ?_⟩
        have hs : Hd (progA T.C_Program g2 zs :: rowsT zs R :: _) _ := hs
        walk_at "run"
        refine ⟨g2, zs, R, _, rfl, ⟨l2, ok⟩, Hd.mt (by walk_at "mt") hs, fun H hs => ?_⟩
        walk_at "run"
        rw [decide_eq_true (show txtM R = txtM R from rfl)]
        walk_at "run"
        exact ⟨⟨_, _, rfl⟩, Hd.mt (by walk_at "mt") hs⟩
      clear hs
      rintro σ H ⟨⟨w1, w2, rfl⟩, hs⟩
      walk_at "run"
      refine ⟨g, ys, _, rfl, hs, fun l H hs => ?_⟩
      walk_at "run"
      refine ⟨l, ys, R, _, rfl, ⟨l1, l2, ok⟩, Hd.mt (by walk_at "mt") hs, fun p3 H hs => ?_⟩
      walk_at "run"
      refine ⟨p3, ys, R, _, rfl, ⟨l2, ok⟩, Hd.mt (by walk_at "mt") hs, fun H hs => ?_⟩
      walk_at "run"
      rw [decide_eq_true (show txtM R = txtM R from rfl)]
      walk_at "run"
      refine ⟨d, c, xs, R, _, rfl, ⟨l1, l2, ok⟩, Hd.mt (by walk_at "mt") hs, fun F zs k r0 r1 H h3 hs => ?_⟩
      have ok3 := set_ok (k := k) ok h3.2.1
      have l13 : 1 ≤ (R.set k r1).length := by rw [List.length_set]; exact l1
      have l23 : (R.set k r1).length ≤ 200 := by rw [List.length_set]; exact l2
      walk_at "run"
      refine ⟨F, zs, R.set k r1, _, rfl, ⟨l13, l23, ok3⟩, hs, fun p4 H hs => ?_⟩
      walk_at "run"
      refine ⟨p4, zs, R.set k r1, _, rfl, ⟨l23, ok3⟩, Hd.mt (by walk_at "mt") hs, fun H hs => ?_⟩
      walk_at "run"
      rw [decide_eq_false (other_txt l1 l2 ok h3)]
      walk_at "run"
      refine ⟨p4, zs, _, rfl, hs, fun l4 H hs => ?_⟩
      walk_at "run"
      refine Sl.r_eqD (.lst (hs.sq (a := l4) (by walk_at "pull")) (dp_prog (xs := zs) hs (by walk_at "pull"))) (.lst (hs.sq (a := c) (by walk_at "pull")) (dp_prog (xs := xs) (R := R) hs (by walk_at "pull"))) (sh_prog ok3) (sh_prog ok) ?_
      rw [other_rows h3]
      walk_at "run"
      refine ⟨p, xs, R, _, rfl, ⟨l2, ok⟩, Hd.mt (by walk_at "mt") hs, fun H hs => ?_⟩
      walk_at "run"
      rw [decide_eq_true (show txtM R = txtM R from rfl)]
      walk_at "run"
      exact ⟨⟨_, _, _, _, _, _, _, _, rfl⟩, Hd.mt (by walk_at "mt") hs⟩
    clear hs
    rintro σ H ⟨⟨v1, v2, v3, v4, v5, v6, v7, v8, rfl⟩, hs⟩
    walk_at "run"
    refine Sl.r_sum (hs.sql (by walk_at "pull")) ?_
    walk_at "run"
    obtain ⟨m, em⟩ : ∃ m : Nat, 27 + (ns.sum + (((ns.map V.int).length : Nat) : Int)) % 60 = (m : Int) := ⟨(27 + (ns.sum + (((ns.map V.int).length : Nat) : Int)) % 60).toNat, by omega⟩
    have m1 : 27 ≤ m ∧ m ≤ 86 := by omega
    rw [em]
    rw [show ((m : Nat) : Int).toNat = m from Int.toNat_natCast m]
    refine Sl.r_lcR (fun D i H => ∃ (ys : List V) (R : List Rw), (R.length = i ∧ ∀ r ∈ R, OkR m r) ∧ Hd (rowsT ys R :: pto D (.lst ys) :: [sql K a (ns.map V.int)]) H) hs (fun D H hs => ⟨[], [], ⟨rfl, fun _ z => nomatch z⟩, rows_nil hs⟩) ?_ ?_
    · clear hs
      rintro D i H hi ⟨ys, R, ⟨lR, ok⟩, hs⟩
      have lx := rows_len (xs := ys) hs (by walk_at "pull")
      walk_at "run"
      refine r_ixReg fun r r8 => ?_
      walk_at "run"
      rw [show (m : Int) - 1 - (0 + (i : Int)) = ((m - 1 - i : Nat) : Int) by omega] at hs
      exact ⟨ys ++ [.ref q_], R ++ [.iff r (m - 1 - i)], ⟨by rw [List.length_append, lR]; rfl, fun x mx => (List.mem_append.mp mx).elim (ok x) fun mx => by cases List.mem_singleton.mp mx; exact ⟨r8, by omega⟩⟩, Hd.mt (by walk_at "mt") (rows_snoc (r := .iff r (m - 1 - i)) hs)⟩
    clear hs
    rintro D H ⟨ys, R, ⟨lR, ok⟩, hs⟩
    have lx := rows_len (xs := ys) hs (by walk_at "pull")
    rw [← lR] at ok
    have l1 : 1 ≤ R.length := by omega
    have l2 : R.length ≤ 200 := by omega
    walk_at "run"
    refine ⟨D, ys, R, _, rfl, ⟨l1, l2, ok⟩, Hd.mt (by walk_at "mt") hs, fun p H hs => ?_⟩
    walk_at "run"
    refine ⟨p, ys, R, _, rfl, ⟨l2, ok⟩, Hd.mt (by walk_at "mt") hs, fun H hs => ?_⟩
    walk_at "run"
    refine ⟨txtM R, _, _, _, rfl, ⟨own_split l1 l2 ok, own_reads l1 l2 ok, Nat.le_trans (own_len l2 ok) (by decide)⟩, hs, fun g zs H hs => ?_⟩
    have hs : Hd (progA T.C_Program g zs :: rowsT zs R :: _) _ := hs
    walk_at "run"
    refine ⟨g, zs, _, rfl, hs, fun l H hs => ?_⟩
    walk_at "run"
    refine Sl.r_eqD1 (.lst (hs.sq (a := l) (by walk_at "pull")) (dp_prog (xs := zs) hs (by walk_at "pull"))) (.lst (hs.sq (a := D) (by walk_at "pull")) (dp_prog (xs := ys) hs (by walk_at "pull"))) (sh_prog ok) ?_
    walk_at "run"
    refine ⟨D, ys, R, _, rfl, ⟨l1, l2, ok⟩, Hd.mt (by walk_at "mt") hs, fun H hs => ?_⟩
    walk_at "run"
    exact q _
end
theorem all_mk {l : PySem.W.OpenLaw} {w : World} {K : PySem.W.Frag} {h : Heap} {mg : Str → Option Value} {fa : Addr} (X : K.In h) (G : h.Ns mainGlobals mg) (hfa : mg "law" = some (.ref fa))
    {C_Program : Addr} {C_Reading : Addr} {x_NoCode : Addr} {a_is_whole : Addr} {od_is_whole an_is_whole : Option Addr} {sl_is_whole : Array (Option Value)} {oc_is_whole kV_is_whole dc_is_whole pm_is_whole cd_is_whole ct_is_whole : Value} {a_is_among : Addr} {od_is_among an_is_among : Option Addr} {sl_is_among : Array (Option Value)} {oc_is_among kV_is_among dc_is_among pm_is_among cd_is_among ct_is_among : Value} {a_is_word : Addr} {od_is_word an_is_word : Option Addr} {sl_is_word : Array (Option Value)} {oc_is_word kV_is_word dc_is_word pm_is_word cd_is_word ct_is_word : Value} {a_is_place : Addr} {od_is_place an_is_place : Option Addr} {sl_is_place : Array (Option Value)} {oc_is_place kV_is_place dc_is_place pm_is_place cd_is_place ct_is_place : Value} {a_is_register : Addr} {od_is_register an_is_register : Option Addr} {sl_is_register : Array (Option Value)} {oc_is_register kV_is_register dc_is_register pm_is_register cd_is_register ct_is_register : Value} {a_is_part : Addr} {od_is_part an_is_part : Option Addr} {sl_is_part : Array (Option Value)} {oc_is_part kV_is_part dc_is_part pm_is_part cd_is_part ct_is_part : Value} {a_is_row : Addr} {od_is_row an_is_row : Option Addr} {sl_is_row : Array (Option Value)} {oc_is_row kV_is_row dc_is_row pm_is_row cd_is_row ct_is_row : Value} {a_target_of : Addr} {od_target_of an_target_of : Option Addr} {sl_target_of : Array (Option Value)} {oc_target_of kV_target_of dc_target_of pm_target_of cd_target_of ct_target_of : Value} {a_label_of : Addr} {od_label_of an_label_of : Option Addr} {sl_label_of : Array (Option Value)} {oc_label_of kV_label_of dc_label_of pm_label_of cd_label_of ct_label_of : Value} {a_Program_init : Addr} {od_Program_init an_Program_init : Option Addr} {sl_Program_init : Array (Option Value)} {oc_Program_init kV_Program_init dc_Program_init pm_Program_init cd_Program_init ct_Program_init : Value} {a_Program_rows : Addr} {od_Program_rows an_Program_rows : Option Addr} {sl_Program_rows : Array (Option Value)} {oc_Program_rows kV_Program_rows dc_Program_rows pm_Program_rows cd_Program_rows ct_Program_rows : Value} {a_Program_row : Addr} {od_Program_row an_Program_row : Option Addr} {sl_Program_row : Array (Option Value)} {oc_Program_row kV_Program_row dc_Program_row pm_Program_row cd_Program_row ct_Program_row : Value} {a_Program_labels : Addr} {od_Program_labels an_Program_labels : Option Addr} {sl_Program_labels : Array (Option Value)} {oc_Program_labels kV_Program_labels dc_Program_labels pm_Program_labels cd_Program_labels ct_Program_labels : Value} {a_Program_text : Addr} {od_Program_text an_Program_text : Option Addr} {sl_Program_text : Array (Option Value)} {oc_Program_text kV_Program_text dc_Program_text pm_Program_text cd_Program_text ct_Program_text : Value} {a_program_of : Addr} {od_program_of an_program_of : Option Addr} {sl_program_of : Array (Option Value)} {oc_program_of kV_program_of dc_program_of pm_program_of cd_program_of ct_program_of : Value} {a_is_label : Addr} {od_is_label an_is_label : Option Addr} {sl_is_label : Array (Option Value)} {oc_is_label kV_is_label dc_is_label pm_is_label cd_is_label ct_is_label : Value} {a_number_in : Addr} {od_number_in an_number_in : Option Addr} {sl_number_in : Array (Option Value)} {oc_number_in kV_number_in dc_number_in pm_number_in cd_number_in ct_number_in : Value} {a_is_written : Addr} {od_is_written an_is_written : Option Addr} {sl_is_written : Array (Option Value)} {oc_is_written kV_is_written dc_is_written pm_is_written cd_is_written ct_is_written : Value} {a_Reading_init : Addr} {od_Reading_init an_Reading_init : Option Addr} {sl_Reading_init : Array (Option Value)} {oc_Reading_init kV_Reading_init dc_Reading_init pm_Reading_init cd_Reading_init ct_Reading_init : Value} {a_Reading_put : Addr} {od_Reading_put an_Reading_put : Option Addr} {sl_Reading_put : Array (Option Value)} {oc_Reading_put kV_Reading_put dc_Reading_put pm_Reading_put cd_Reading_put ct_Reading_put : Value} {a_Reading_part : Addr} {od_Reading_part an_Reading_part : Option Addr} {sl_Reading_part : Array (Option Value)} {oc_Reading_part kV_Reading_part dc_Reading_part pm_Reading_part cd_Reading_part ct_Reading_part : Value} {a_Reading_code : Addr} {od_Reading_code an_Reading_code : Option Addr} {sl_Reading_code : Array (Option Value)} {oc_Reading_code kV_Reading_code dc_Reading_code pm_Reading_code cd_Reading_code ct_Reading_code : Value} {a_read : Addr} {od_read an_read : Option Addr} {sl_read : Array (Option Value)} {oc_read kV_read dc_read pm_read cd_read ct_read : Value} {a_law_mixed : Addr} {od_law_mixed an_law_mixed : Option Addr} {sl_law_mixed : Array (Option Value)} {oc_law_mixed kV_law_mixed dc_law_mixed pm_law_mixed cd_law_mixed ct_law_mixed : Value} {a_law_next : Addr} {od_law_next an_law_next : Option Addr} {sl_law_next : Array (Option Value)} {oc_law_next kV_law_next dc_law_next pm_law_next cd_law_next ct_law_next : Value} {a_law_state : Addr} {od_law_state an_law_state : Option Addr} {sl_law_state : Array (Option Value)} {oc_law_state kV_law_state dc_law_state pm_law_state cd_law_state ct_law_state : Value} {a_law_forms : Addr} {od_law_forms an_law_forms : Option Addr} {sl_law_forms : Array (Option Value)} {oc_law_forms kV_law_forms dc_law_forms pm_law_forms cd_law_forms ct_law_forms : Value} {a_law_part : Addr} {od_law_part an_law_part : Option Addr} {sl_law_part : Array (Option Value)} {oc_law_part kV_law_part dc_law_part pm_law_part cd_law_part ct_law_part : Value} {a_law_code : Addr} {od_law_code an_law_code : Option Addr} {sl_law_code : Array (Option Value)} {oc_law_code kV_law_code dc_law_code pm_law_code cd_law_code ct_law_code : Value} {a_law_letters : Addr} {od_law_letters an_law_letters : Option Addr} {sl_law_letters : Array (Option Value)} {oc_law_letters kV_law_letters dc_law_letters pm_law_letters cd_law_letters ct_law_letters : Value} {a_law_asked : Addr} {od_law_asked an_law_asked : Option Addr} {sl_law_asked : Array (Option Value)} {oc_law_asked kV_law_asked dc_law_asked pm_law_asked cd_law_asked ct_law_asked : Value} {a_law_row_words : Addr} {od_law_row_words an_law_row_words : Option Addr} {sl_law_row_words : Array (Option Value)} {oc_law_row_words kV_law_row_words dc_law_row_words pm_law_row_words cd_law_row_words ct_law_row_words : Value} {a_law_names : Addr} {od_law_names an_law_names : Option Addr} {sl_law_names : Array (Option Value)} {oc_law_names kV_law_names dc_law_names pm_law_names cd_law_names ct_law_names : Value} {a_law_gap : Addr} {od_law_gap an_law_gap : Option Addr} {sl_law_gap : Array (Option Value)} {oc_law_gap kV_law_gap dc_law_gap pm_law_gap cd_law_gap ct_law_gap : Value} {a_law_loose : Addr} {od_law_loose an_law_loose : Option Addr} {sl_law_loose : Array (Option Value)} {oc_law_loose kV_law_loose dc_law_loose pm_law_loose cd_law_loose ct_law_loose : Value} {a_law_other : Addr} {od_law_other an_law_other : Option Addr} {sl_law_other : Array (Option Value)} {oc_law_other kV_law_other dc_law_other pm_law_other cd_law_other ct_law_other : Value} {a_law_labels_right : Addr} {od_law_labels_right an_law_labels_right : Option Addr} {sl_law_labels_right : Array (Option Value)} {oc_law_labels_right kV_law_labels_right dc_law_labels_right pm_law_labels_right cd_law_labels_right ct_law_labels_right : Value} {a_law : Addr} {od_law an_law : Option Addr} {sl_law : Array (Option Value)} {oc_law kV_law dc_law pm_law cd_law ct_law : Value} {t_FIGURES : Tok} {a_FORMS : Addr} {es_FORMS : Array DictEntry} {n_FORMS : Nat} {t0_FORMS : Tok} {t1_FORMS : Tok} {t2_FORMS : Tok} {t3_FORMS : Tok} {t4_FORMS : Tok} {t5_FORMS : Tok} {t6_FORMS : Tok} {t7_FORMS : Tok} {t8_FORMS : Tok} {t9_FORMS : Tok} {t10_FORMS : Tok} {t11_FORMS : Tok} {t12_FORMS : Tok} {t13_FORMS : Tok} {t14_FORMS : Tok} {t_MOST_FIGURES : Tok} {t_MOST_ROWS : Tok} {t_MOST_SIGNS : Tok} {t_REGISTERS : Tok} {t_SMALL : Tok} {t_WORDS : Tok}
    (h1_Program : PySem.W.nsIn K mainGlobals "Program" = some (some (.ref C_Program)))
    (h2_Program : PySem.W.plainGet K C_Program Str.empty = true)
    (h3_Program : PySem.W.hasDictIn K C_Program = true)
    (h4_Program : PySem.W.plainOver K C_Program = true)
    (h5_Program : PySem.W.findIn K (.ref C_Program) "__setattr__" = some (some (.builtin "object.__setattr__")))
    (h6_Program : PySem.W.makesIn K C_Program = true)
    (h7_Program : PySem.W.keepIn K (.ref C_Program) = true)
    (n_Program_listed : PySem.W.findIn K (.ref C_Program) "listed" = some none)
    (h1_Reading : PySem.W.nsIn K mainGlobals "Reading" = some (some (.ref C_Reading)))
    (h2_Reading : PySem.W.plainGet K C_Reading Str.empty = true)
    (h3_Reading : PySem.W.hasDictIn K C_Reading = true)
    (h4_Reading : PySem.W.plainOver K C_Reading = true)
    (h5_Reading : PySem.W.findIn K (.ref C_Reading) "__setattr__" = some (some (.builtin "object.__setattr__")))
    (h6_Reading : PySem.W.makesIn K C_Reading = true)
    (h7_Reading : PySem.W.keepIn K (.ref C_Reading) = true)
    (n_Reading_drafts : PySem.W.findIn K (.ref C_Reading) "drafts" = some none)
    (n_Reading_marks : PySem.W.findIn K (.ref C_Reading) "marks" = some none)
    (gx_NoCode : PySem.W.nsIn K mainGlobals "NoCode" = some (some (.ref x_NoCode)))
    (g_is_whole : PySem.W.nsIn K mainGlobals "is_whole" = some (some (.ref a_is_whole)))
    (l_is_whole : K.lookup a_is_whole = some ⟨oc_is_whole, od_is_whole, .func (PySem.W.fnOf "is_whole" "is_whole" (defArgs s_is_whole) (defBody s_is_whole) (defScope s_is_whole) .none kV_is_whole dc_is_whole pm_is_whole an_is_whole cd_is_whole ct_is_whole), sl_is_whole⟩)
    (c_is_whole : PySem.W.codeIn K cd_is_whole "is_whole" = true)
    (k_is_whole : PySem.W.keepIn K (.ref a_is_whole) = true)
    (g_is_among : PySem.W.nsIn K mainGlobals "is_among" = some (some (.ref a_is_among)))
    (l_is_among : K.lookup a_is_among = some ⟨oc_is_among, od_is_among, .func (PySem.W.fnOf "is_among" "is_among" (defArgs s_is_among) (defBody s_is_among) (defScope s_is_among) .none kV_is_among dc_is_among pm_is_among an_is_among cd_is_among ct_is_among), sl_is_among⟩)
    (c_is_among : PySem.W.codeIn K cd_is_among "is_among" = true)
    (k_is_among : PySem.W.keepIn K (.ref a_is_among) = true)
    (g_is_word : PySem.W.nsIn K mainGlobals "is_word" = some (some (.ref a_is_word)))
    (l_is_word : K.lookup a_is_word = some ⟨oc_is_word, od_is_word, .func (PySem.W.fnOf "is_word" "is_word" (defArgs s_is_word) (defBody s_is_word) (defScope s_is_word) .none kV_is_word dc_is_word pm_is_word an_is_word cd_is_word ct_is_word), sl_is_word⟩)
    (c_is_word : PySem.W.codeIn K cd_is_word "is_word" = true)
    (k_is_word : PySem.W.keepIn K (.ref a_is_word) = true)
    (g_is_place : PySem.W.nsIn K mainGlobals "is_place" = some (some (.ref a_is_place)))
    (l_is_place : K.lookup a_is_place = some ⟨oc_is_place, od_is_place, .func (PySem.W.fnOf "is_place" "is_place" (defArgs s_is_place) (defBody s_is_place) (defScope s_is_place) .none kV_is_place dc_is_place pm_is_place an_is_place cd_is_place ct_is_place), sl_is_place⟩)
    (c_is_place : PySem.W.codeIn K cd_is_place "is_place" = true)
    (k_is_place : PySem.W.keepIn K (.ref a_is_place) = true)
    (g_is_register : PySem.W.nsIn K mainGlobals "is_register" = some (some (.ref a_is_register)))
    (l_is_register : K.lookup a_is_register = some ⟨oc_is_register, od_is_register, .func (PySem.W.fnOf "is_register" "is_register" (defArgs s_is_register) (defBody s_is_register) (defScope s_is_register) .none kV_is_register dc_is_register pm_is_register an_is_register cd_is_register ct_is_register), sl_is_register⟩)
    (c_is_register : PySem.W.codeIn K cd_is_register "is_register" = true)
    (k_is_register : PySem.W.keepIn K (.ref a_is_register) = true)
    (g_is_part : PySem.W.nsIn K mainGlobals "is_part" = some (some (.ref a_is_part)))
    (l_is_part : K.lookup a_is_part = some ⟨oc_is_part, od_is_part, .func (PySem.W.fnOf "is_part" "is_part" (defArgs s_is_part) (defBody s_is_part) (defScope s_is_part) .none kV_is_part dc_is_part pm_is_part an_is_part cd_is_part ct_is_part), sl_is_part⟩)
    (c_is_part : PySem.W.codeIn K cd_is_part "is_part" = true)
    (k_is_part : PySem.W.keepIn K (.ref a_is_part) = true)
    (g_is_row : PySem.W.nsIn K mainGlobals "is_row" = some (some (.ref a_is_row)))
    (l_is_row : K.lookup a_is_row = some ⟨oc_is_row, od_is_row, .func (PySem.W.fnOf "is_row" "is_row" (defArgs s_is_row) (defBody s_is_row) (defScope s_is_row) .none kV_is_row dc_is_row pm_is_row an_is_row cd_is_row ct_is_row), sl_is_row⟩)
    (c_is_row : PySem.W.codeIn K cd_is_row "is_row" = true)
    (k_is_row : PySem.W.keepIn K (.ref a_is_row) = true)
    (g_target_of : PySem.W.nsIn K mainGlobals "target_of" = some (some (.ref a_target_of)))
    (l_target_of : K.lookup a_target_of = some ⟨oc_target_of, od_target_of, .func (PySem.W.fnOf "target_of" "target_of" (defArgs s_target_of) (defBody s_target_of) (defScope s_target_of) .none kV_target_of dc_target_of pm_target_of an_target_of cd_target_of ct_target_of), sl_target_of⟩)
    (c_target_of : PySem.W.codeIn K cd_target_of "target_of" = true)
    (k_target_of : PySem.W.keepIn K (.ref a_target_of) = true)
    (g_label_of : PySem.W.nsIn K mainGlobals "label_of" = some (some (.ref a_label_of)))
    (l_label_of : K.lookup a_label_of = some ⟨oc_label_of, od_label_of, .func (PySem.W.fnOf "label_of" "label_of" (defArgs s_label_of) (defBody s_label_of) (defScope s_label_of) .none kV_label_of dc_label_of pm_label_of an_label_of cd_label_of ct_label_of), sl_label_of⟩)
    (c_label_of : PySem.W.codeIn K cd_label_of "label_of" = true)
    (k_label_of : PySem.W.keepIn K (.ref a_label_of) = true)
    (g_Program_init : PySem.W.findIn K (.ref C_Program) "__init__" = some (some (.ref a_Program_init)))
    (i_Program_init : PySem.W.isFn K (.ref a_Program_init) = true)
    (l_Program_init : K.lookup a_Program_init = some ⟨oc_Program_init, od_Program_init, .func (PySem.W.fnOf "__init__" "Program.__init__" (defArgs s_Program_init) (defBody s_Program_init) (defScope s_Program_init) .none kV_Program_init dc_Program_init pm_Program_init an_Program_init cd_Program_init ct_Program_init), sl_Program_init⟩)
    (c_Program_init : PySem.W.codeIn K cd_Program_init "Program.__init__" = true)
    (k_Program_init : PySem.W.keepIn K (.ref a_Program_init) = true)
    (g_Program_rows : PySem.W.findIn K (.ref C_Program) "rows" = some (some (.ref a_Program_rows)))
    (i_Program_rows : PySem.W.isFn K (.ref a_Program_rows) = true)
    (l_Program_rows : K.lookup a_Program_rows = some ⟨oc_Program_rows, od_Program_rows, .func (PySem.W.fnOf "rows" "Program.rows" (defArgs s_Program_rows) (defBody s_Program_rows) (defScope s_Program_rows) .none kV_Program_rows dc_Program_rows pm_Program_rows an_Program_rows cd_Program_rows ct_Program_rows), sl_Program_rows⟩)
    (c_Program_rows : PySem.W.codeIn K cd_Program_rows "Program.rows" = true)
    (k_Program_rows : PySem.W.keepIn K (.ref a_Program_rows) = true)
    (g_Program_row : PySem.W.findIn K (.ref C_Program) "row" = some (some (.ref a_Program_row)))
    (i_Program_row : PySem.W.isFn K (.ref a_Program_row) = true)
    (l_Program_row : K.lookup a_Program_row = some ⟨oc_Program_row, od_Program_row, .func (PySem.W.fnOf "row" "Program.row" (defArgs s_Program_row) (defBody s_Program_row) (defScope s_Program_row) .none kV_Program_row dc_Program_row pm_Program_row an_Program_row cd_Program_row ct_Program_row), sl_Program_row⟩)
    (c_Program_row : PySem.W.codeIn K cd_Program_row "Program.row" = true)
    (k_Program_row : PySem.W.keepIn K (.ref a_Program_row) = true)
    (g_Program_labels : PySem.W.findIn K (.ref C_Program) "labels" = some (some (.ref a_Program_labels)))
    (i_Program_labels : PySem.W.isFn K (.ref a_Program_labels) = true)
    (l_Program_labels : K.lookup a_Program_labels = some ⟨oc_Program_labels, od_Program_labels, .func (PySem.W.fnOf "labels" "Program.labels" (defArgs s_Program_labels) (defBody s_Program_labels) (defScope s_Program_labels) .none kV_Program_labels dc_Program_labels pm_Program_labels an_Program_labels cd_Program_labels ct_Program_labels), sl_Program_labels⟩)
    (c_Program_labels : PySem.W.codeIn K cd_Program_labels "Program.labels" = true)
    (k_Program_labels : PySem.W.keepIn K (.ref a_Program_labels) = true)
    (g_Program_text : PySem.W.findIn K (.ref C_Program) "text" = some (some (.ref a_Program_text)))
    (i_Program_text : PySem.W.isFn K (.ref a_Program_text) = true)
    (l_Program_text : K.lookup a_Program_text = some ⟨oc_Program_text, od_Program_text, .func (PySem.W.fnOf "text" "Program.text" (defArgs s_Program_text) (defBody s_Program_text) (defScope s_Program_text) .none kV_Program_text dc_Program_text pm_Program_text an_Program_text cd_Program_text ct_Program_text), sl_Program_text⟩)
    (c_Program_text : PySem.W.codeIn K cd_Program_text "Program.text" = true)
    (k_Program_text : PySem.W.keepIn K (.ref a_Program_text) = true)
    (g_program_of : PySem.W.nsIn K mainGlobals "program_of" = some (some (.ref a_program_of)))
    (l_program_of : K.lookup a_program_of = some ⟨oc_program_of, od_program_of, .func (PySem.W.fnOf "program_of" "program_of" (defArgs s_program_of) (defBody s_program_of) (defScope s_program_of) .none kV_program_of dc_program_of pm_program_of an_program_of cd_program_of ct_program_of), sl_program_of⟩)
    (c_program_of : PySem.W.codeIn K cd_program_of "program_of" = true)
    (k_program_of : PySem.W.keepIn K (.ref a_program_of) = true)
    (g_is_label : PySem.W.nsIn K mainGlobals "is_label" = some (some (.ref a_is_label)))
    (l_is_label : K.lookup a_is_label = some ⟨oc_is_label, od_is_label, .func (PySem.W.fnOf "is_label" "is_label" (defArgs s_is_label) (defBody s_is_label) (defScope s_is_label) .none kV_is_label dc_is_label pm_is_label an_is_label cd_is_label ct_is_label), sl_is_label⟩)
    (c_is_label : PySem.W.codeIn K cd_is_label "is_label" = true)
    (k_is_label : PySem.W.keepIn K (.ref a_is_label) = true)
    (g_number_in : PySem.W.nsIn K mainGlobals "number_in" = some (some (.ref a_number_in)))
    (l_number_in : K.lookup a_number_in = some ⟨oc_number_in, od_number_in, .func (PySem.W.fnOf "number_in" "number_in" (defArgs s_number_in) (defBody s_number_in) (defScope s_number_in) .none kV_number_in dc_number_in pm_number_in an_number_in cd_number_in ct_number_in), sl_number_in⟩)
    (c_number_in : PySem.W.codeIn K cd_number_in "number_in" = true)
    (k_number_in : PySem.W.keepIn K (.ref a_number_in) = true)
    (g_is_written : PySem.W.nsIn K mainGlobals "is_written" = some (some (.ref a_is_written)))
    (l_is_written : K.lookup a_is_written = some ⟨oc_is_written, od_is_written, .func (PySem.W.fnOf "is_written" "is_written" (defArgs s_is_written) (defBody s_is_written) (defScope s_is_written) .none kV_is_written dc_is_written pm_is_written an_is_written cd_is_written ct_is_written), sl_is_written⟩)
    (c_is_written : PySem.W.codeIn K cd_is_written "is_written" = true)
    (k_is_written : PySem.W.keepIn K (.ref a_is_written) = true)
    (g_Reading_init : PySem.W.findIn K (.ref C_Reading) "__init__" = some (some (.ref a_Reading_init)))
    (i_Reading_init : PySem.W.isFn K (.ref a_Reading_init) = true)
    (l_Reading_init : K.lookup a_Reading_init = some ⟨oc_Reading_init, od_Reading_init, .func (PySem.W.fnOf "__init__" "Reading.__init__" (defArgs s_Reading_init) (defBody s_Reading_init) (defScope s_Reading_init) .none kV_Reading_init dc_Reading_init pm_Reading_init an_Reading_init cd_Reading_init ct_Reading_init), sl_Reading_init⟩)
    (c_Reading_init : PySem.W.codeIn K cd_Reading_init "Reading.__init__" = true)
    (k_Reading_init : PySem.W.keepIn K (.ref a_Reading_init) = true)
    (g_Reading_put : PySem.W.findIn K (.ref C_Reading) "put" = some (some (.ref a_Reading_put)))
    (i_Reading_put : PySem.W.isFn K (.ref a_Reading_put) = true)
    (l_Reading_put : K.lookup a_Reading_put = some ⟨oc_Reading_put, od_Reading_put, .func (PySem.W.fnOf "put" "Reading.put" (defArgs s_Reading_put) (defBody s_Reading_put) (defScope s_Reading_put) .none kV_Reading_put dc_Reading_put pm_Reading_put an_Reading_put cd_Reading_put ct_Reading_put), sl_Reading_put⟩)
    (c_Reading_put : PySem.W.codeIn K cd_Reading_put "Reading.put" = true)
    (k_Reading_put : PySem.W.keepIn K (.ref a_Reading_put) = true)
    (g_Reading_part : PySem.W.findIn K (.ref C_Reading) "part" = some (some (.ref a_Reading_part)))
    (i_Reading_part : PySem.W.isFn K (.ref a_Reading_part) = true)
    (l_Reading_part : K.lookup a_Reading_part = some ⟨oc_Reading_part, od_Reading_part, .func (PySem.W.fnOf "part" "Reading.part" (defArgs s_Reading_part) (defBody s_Reading_part) (defScope s_Reading_part) .none kV_Reading_part dc_Reading_part pm_Reading_part an_Reading_part cd_Reading_part ct_Reading_part), sl_Reading_part⟩)
    (c_Reading_part : PySem.W.codeIn K cd_Reading_part "Reading.part" = true)
    (k_Reading_part : PySem.W.keepIn K (.ref a_Reading_part) = true)
    (g_Reading_code : PySem.W.findIn K (.ref C_Reading) "code" = some (some (.ref a_Reading_code)))
    (i_Reading_code : PySem.W.isFn K (.ref a_Reading_code) = true)
    (l_Reading_code : K.lookup a_Reading_code = some ⟨oc_Reading_code, od_Reading_code, .func (PySem.W.fnOf "code" "Reading.code" (defArgs s_Reading_code) (defBody s_Reading_code) (defScope s_Reading_code) .none kV_Reading_code dc_Reading_code pm_Reading_code an_Reading_code cd_Reading_code ct_Reading_code), sl_Reading_code⟩)
    (c_Reading_code : PySem.W.codeIn K cd_Reading_code "Reading.code" = true)
    (k_Reading_code : PySem.W.keepIn K (.ref a_Reading_code) = true)
    (g_read : PySem.W.nsIn K mainGlobals "read" = some (some (.ref a_read)))
    (l_read : K.lookup a_read = some ⟨oc_read, od_read, .func (PySem.W.fnOf "read" "read" (defArgs s_read) (defBody s_read) (defScope s_read) .none kV_read dc_read pm_read an_read cd_read ct_read), sl_read⟩)
    (c_read : PySem.W.codeIn K cd_read "read" = true)
    (k_read : PySem.W.keepIn K (.ref a_read) = true)
    (g_law_mixed : PySem.W.nsIn K mainGlobals "_law_mixed" = some (some (.ref a_law_mixed)))
    (l_law_mixed : K.lookup a_law_mixed = some ⟨oc_law_mixed, od_law_mixed, .func (PySem.W.fnOf "_law_mixed" "_law_mixed" (defArgs s_law_mixed) (defBody s_law_mixed) (defScope s_law_mixed) .none kV_law_mixed dc_law_mixed pm_law_mixed an_law_mixed cd_law_mixed ct_law_mixed), sl_law_mixed⟩)
    (c_law_mixed : PySem.W.codeIn K cd_law_mixed "_law_mixed" = true)
    (k_law_mixed : PySem.W.keepIn K (.ref a_law_mixed) = true)
    (g_law_next : PySem.W.nsIn K mainGlobals "_law_next" = some (some (.ref a_law_next)))
    (l_law_next : K.lookup a_law_next = some ⟨oc_law_next, od_law_next, .func (PySem.W.fnOf "_law_next" "_law_next" (defArgs s_law_next) (defBody s_law_next) (defScope s_law_next) .none kV_law_next dc_law_next pm_law_next an_law_next cd_law_next ct_law_next), sl_law_next⟩)
    (c_law_next : PySem.W.codeIn K cd_law_next "_law_next" = true)
    (k_law_next : PySem.W.keepIn K (.ref a_law_next) = true)
    (g_law_state : PySem.W.nsIn K mainGlobals "_law_state" = some (some (.ref a_law_state)))
    (l_law_state : K.lookup a_law_state = some ⟨oc_law_state, od_law_state, .func (PySem.W.fnOf "_law_state" "_law_state" (defArgs s_law_state) (defBody s_law_state) (defScope s_law_state) .none kV_law_state dc_law_state pm_law_state an_law_state cd_law_state ct_law_state), sl_law_state⟩)
    (c_law_state : PySem.W.codeIn K cd_law_state "_law_state" = true)
    (k_law_state : PySem.W.keepIn K (.ref a_law_state) = true)
    (g_law_forms : PySem.W.nsIn K mainGlobals "_law_forms" = some (some (.ref a_law_forms)))
    (l_law_forms : K.lookup a_law_forms = some ⟨oc_law_forms, od_law_forms, .func (PySem.W.fnOf "_law_forms" "_law_forms" (defArgs s_law_forms) (defBody s_law_forms) (defScope s_law_forms) .none kV_law_forms dc_law_forms pm_law_forms an_law_forms cd_law_forms ct_law_forms), sl_law_forms⟩)
    (c_law_forms : PySem.W.codeIn K cd_law_forms "_law_forms" = true)
    (k_law_forms : PySem.W.keepIn K (.ref a_law_forms) = true)
    (g_law_part : PySem.W.nsIn K mainGlobals "_law_part" = some (some (.ref a_law_part)))
    (l_law_part : K.lookup a_law_part = some ⟨oc_law_part, od_law_part, .func (PySem.W.fnOf "_law_part" "_law_part" (defArgs s_law_part) (defBody s_law_part) (defScope s_law_part) .none kV_law_part dc_law_part pm_law_part an_law_part cd_law_part ct_law_part), sl_law_part⟩)
    (c_law_part : PySem.W.codeIn K cd_law_part "_law_part" = true)
    (k_law_part : PySem.W.keepIn K (.ref a_law_part) = true)
    (g_law_code : PySem.W.nsIn K mainGlobals "_law_code" = some (some (.ref a_law_code)))
    (l_law_code : K.lookup a_law_code = some ⟨oc_law_code, od_law_code, .func (PySem.W.fnOf "_law_code" "_law_code" (defArgs s_law_code) (defBody s_law_code) (defScope s_law_code) .none kV_law_code dc_law_code pm_law_code an_law_code cd_law_code ct_law_code), sl_law_code⟩)
    (c_law_code : PySem.W.codeIn K cd_law_code "_law_code" = true)
    (k_law_code : PySem.W.keepIn K (.ref a_law_code) = true)
    (g_law_letters : PySem.W.nsIn K mainGlobals "_law_letters" = some (some (.ref a_law_letters)))
    (l_law_letters : K.lookup a_law_letters = some ⟨oc_law_letters, od_law_letters, .func (PySem.W.fnOf "_law_letters" "_law_letters" (defArgs s_law_letters) (defBody s_law_letters) (defScope s_law_letters) .none kV_law_letters dc_law_letters pm_law_letters an_law_letters cd_law_letters ct_law_letters), sl_law_letters⟩)
    (c_law_letters : PySem.W.codeIn K cd_law_letters "_law_letters" = true)
    (k_law_letters : PySem.W.keepIn K (.ref a_law_letters) = true)
    (g_law_asked : PySem.W.nsIn K mainGlobals "_law_asked" = some (some (.ref a_law_asked)))
    (l_law_asked : K.lookup a_law_asked = some ⟨oc_law_asked, od_law_asked, .func (PySem.W.fnOf "_law_asked" "_law_asked" (defArgs s_law_asked) (defBody s_law_asked) (defScope s_law_asked) .none kV_law_asked dc_law_asked pm_law_asked an_law_asked cd_law_asked ct_law_asked), sl_law_asked⟩)
    (c_law_asked : PySem.W.codeIn K cd_law_asked "_law_asked" = true)
    (k_law_asked : PySem.W.keepIn K (.ref a_law_asked) = true)
    (g_law_row_words : PySem.W.nsIn K mainGlobals "_law_row_words" = some (some (.ref a_law_row_words)))
    (l_law_row_words : K.lookup a_law_row_words = some ⟨oc_law_row_words, od_law_row_words, .func (PySem.W.fnOf "_law_row_words" "_law_row_words" (defArgs s_law_row_words) (defBody s_law_row_words) (defScope s_law_row_words) .none kV_law_row_words dc_law_row_words pm_law_row_words an_law_row_words cd_law_row_words ct_law_row_words), sl_law_row_words⟩)
    (c_law_row_words : PySem.W.codeIn K cd_law_row_words "_law_row_words" = true)
    (k_law_row_words : PySem.W.keepIn K (.ref a_law_row_words) = true)
    (g_law_names : PySem.W.nsIn K mainGlobals "_law_names" = some (some (.ref a_law_names)))
    (l_law_names : K.lookup a_law_names = some ⟨oc_law_names, od_law_names, .func (PySem.W.fnOf "_law_names" "_law_names" (defArgs s_law_names) (defBody s_law_names) (defScope s_law_names) .none kV_law_names dc_law_names pm_law_names an_law_names cd_law_names ct_law_names), sl_law_names⟩)
    (c_law_names : PySem.W.codeIn K cd_law_names "_law_names" = true)
    (k_law_names : PySem.W.keepIn K (.ref a_law_names) = true)
    (g_law_gap : PySem.W.nsIn K mainGlobals "_law_gap" = some (some (.ref a_law_gap)))
    (l_law_gap : K.lookup a_law_gap = some ⟨oc_law_gap, od_law_gap, .func (PySem.W.fnOf "_law_gap" "_law_gap" (defArgs s_law_gap) (defBody s_law_gap) (defScope s_law_gap) .none kV_law_gap dc_law_gap pm_law_gap an_law_gap cd_law_gap ct_law_gap), sl_law_gap⟩)
    (c_law_gap : PySem.W.codeIn K cd_law_gap "_law_gap" = true)
    (k_law_gap : PySem.W.keepIn K (.ref a_law_gap) = true)
    (g_law_loose : PySem.W.nsIn K mainGlobals "_law_loose" = some (some (.ref a_law_loose)))
    (l_law_loose : K.lookup a_law_loose = some ⟨oc_law_loose, od_law_loose, .func (PySem.W.fnOf "_law_loose" "_law_loose" (defArgs s_law_loose) (defBody s_law_loose) (defScope s_law_loose) .none kV_law_loose dc_law_loose pm_law_loose an_law_loose cd_law_loose ct_law_loose), sl_law_loose⟩)
    (c_law_loose : PySem.W.codeIn K cd_law_loose "_law_loose" = true)
    (k_law_loose : PySem.W.keepIn K (.ref a_law_loose) = true)
    (g_law_other : PySem.W.nsIn K mainGlobals "_law_other" = some (some (.ref a_law_other)))
    (l_law_other : K.lookup a_law_other = some ⟨oc_law_other, od_law_other, .func (PySem.W.fnOf "_law_other" "_law_other" (defArgs s_law_other) (defBody s_law_other) (defScope s_law_other) .none kV_law_other dc_law_other pm_law_other an_law_other cd_law_other ct_law_other), sl_law_other⟩)
    (c_law_other : PySem.W.codeIn K cd_law_other "_law_other" = true)
    (k_law_other : PySem.W.keepIn K (.ref a_law_other) = true)
    (g_law_labels_right : PySem.W.nsIn K mainGlobals "_law_labels_right" = some (some (.ref a_law_labels_right)))
    (l_law_labels_right : K.lookup a_law_labels_right = some ⟨oc_law_labels_right, od_law_labels_right, .func (PySem.W.fnOf "_law_labels_right" "_law_labels_right" (defArgs s_law_labels_right) (defBody s_law_labels_right) (defScope s_law_labels_right) .none kV_law_labels_right dc_law_labels_right pm_law_labels_right an_law_labels_right cd_law_labels_right ct_law_labels_right), sl_law_labels_right⟩)
    (c_law_labels_right : PySem.W.codeIn K cd_law_labels_right "_law_labels_right" = true)
    (k_law_labels_right : PySem.W.keepIn K (.ref a_law_labels_right) = true)
    (g_law : PySem.W.nsIn K mainGlobals "law" = some (some (.ref a_law)))
    (l_law : K.lookup a_law = some ⟨oc_law, od_law, .func (PySem.W.fnOf "law" "law" (defArgs s_law) (defBody s_law) (defScope s_law) .none kV_law dc_law pm_law an_law cd_law ct_law), sl_law⟩)
    (c_law : PySem.W.codeIn K cd_law "law" = true)
    (k_law : PySem.W.keepIn K (.ref a_law) = true)
    (g_FIGURES : PySem.W.nsIn K mainGlobals "FIGURES" = some (some (.str "0123456789" t_FIGURES)))
    (g_FORMS : PySem.W.nsIn K mainGlobals "FORMS" = some (some (.ref a_FORMS)))
    (l_FORMS : K.lookup a_FORMS = some ⟨.type "dict", none, .dict es_FORMS n_FORMS, #[]⟩)
    (kl_FORMS : PySem.W.KeysLit w.params es_FORMS.toList)
    (lo_FORMS : (a_FORMS == sysModules) = false)
    (kn_FORMS : Tx.keysOf es_FORMS.toList = (["set", "copy", "add", "less", "times", "parts", "rest", "load", "keep", "go", "if", "below", "into", "by", "ask"] : List Str))
    (ni0_FORMS : PySem.W.nsIn K a_FORMS "set" = some (some (.str "rn" t0_FORMS)))
    (ni1_FORMS : PySem.W.nsIn K a_FORMS "copy" = some (some (.str "rr" t1_FORMS)))
    (ni2_FORMS : PySem.W.nsIn K a_FORMS "add" = some (some (.str "rr" t2_FORMS)))
    (ni3_FORMS : PySem.W.nsIn K a_FORMS "less" = some (some (.str "rr" t3_FORMS)))
    (ni4_FORMS : PySem.W.nsIn K a_FORMS "times" = some (some (.str "rr" t4_FORMS)))
    (ni5_FORMS : PySem.W.nsIn K a_FORMS "parts" = some (some (.str "rr" t5_FORMS)))
    (ni6_FORMS : PySem.W.nsIn K a_FORMS "rest" = some (some (.str "rr" t6_FORMS)))
    (ni7_FORMS : PySem.W.nsIn K a_FORMS "load" = some (some (.str "rrn" t7_FORMS)))
    (ni8_FORMS : PySem.W.nsIn K a_FORMS "keep" = some (some (.str "rrn" t8_FORMS)))
    (ni9_FORMS : PySem.W.nsIn K a_FORMS "go" = some (some (.str "t" t9_FORMS)))
    (ni10_FORMS : PySem.W.nsIn K a_FORMS "if" = some (some (.str "rt" t10_FORMS)))
    (ni11_FORMS : PySem.W.nsIn K a_FORMS "below" = some (some (.str "rrt" t11_FORMS)))
    (ni12_FORMS : PySem.W.nsIn K a_FORMS "into" = some (some (.str "tr" t12_FORMS)))
    (ni13_FORMS : PySem.W.nsIn K a_FORMS "by" = some (some (.str "r" t13_FORMS)))
    (ni14_FORMS : PySem.W.nsIn K a_FORMS "ask" = some (some (.str "" t14_FORMS)))
    (g_MOST_FIGURES : PySem.W.nsIn K mainGlobals "MOST_FIGURES" = some (some (.int 5 t_MOST_FIGURES)))
    (g_MOST_ROWS : PySem.W.nsIn K mainGlobals "MOST_ROWS" = some (some (.int 200 t_MOST_ROWS)))
    (g_MOST_SIGNS : PySem.W.nsIn K mainGlobals "MOST_SIGNS" = some (some (.int 8 t_MOST_SIGNS)))
    (g_REGISTERS : PySem.W.nsIn K mainGlobals "REGISTERS" = some (some (.str "abcdefgh" t_REGISTERS)))
    (g_SMALL : PySem.W.nsIn K mainGlobals "SMALL" = some (some (.str "abcdefghijklmnopqrstuvwxyz" t_SMALL)))
    (g_WORDS : PySem.W.nsIn K mainGlobals "WORDS" = some (some (.int 65536 t_WORDS)))
    (n_all : PySem.W.nsIn K mainGlobals "all" = some none)
    (n_bool : PySem.W.nsIn K mainGlobals "bool" = some none)
    (n_enumerate : PySem.W.nsIn K mainGlobals "enumerate" = some none)
    (n_int : PySem.W.nsIn K mainGlobals "int" = some none)
    (n_isinstance : PySem.W.nsIn K mainGlobals "isinstance" = some none)
    (n_len : PySem.W.nsIn K mainGlobals "len" = some none)
    (n_list : PySem.W.nsIn K mainGlobals "list" = some none)
    (n_min : PySem.W.nsIn K mainGlobals "min" = some none)
    (n_range : PySem.W.nsIn K mainGlobals "range" = some none)
    (n_sorted : PySem.W.nsIn K mainGlobals "sorted" = some none)
    (n_str : PySem.W.nsIn K mainGlobals "str" = some none)
    (n_sum : PySem.W.nsIn K mainGlobals "sum" = some none)
    (n_tuple : PySem.W.nsIn K mainGlobals "tuple" = some none)
    (n_zip : PySem.W.nsIn K mainGlobals "zip" = some none) :
    ∃ fd : FuncData, (∀ (s : Shared) (v : Value), BindsTo s fd ⟨[v], []⟩ [("_law_script", v)]) ∧ ∀ base : Heap, K.In base → base.Ns mainGlobals mg → FnOk l.prog w K mg base CX0 8 fa fd ["_law_script"] (sp_law K) := by
  have e := hfa.symm.trans (PySem.W.mg_of X G g_law)
  cases e
  have T : ∃ T : Txt K mg, T.a_law = fa ∧ T.d_law = (PySem.W.fnOf "law" "law" (defArgs s_law) (defBody s_law) (defScope s_law) .none kV_law dc_law pm_law an_law cd_law ct_law) ∧ T.wP = w.params := ⟨{
    C_Program := C_Program,
    cl_Program := ⟨h2_Program, h3_Program, h4_Program, h5_Program⟩,
    g_Program := PySem.W.mg_of X G h1_Program,
    n_Program_listed := n_Program_listed,
    C_Reading := C_Reading,
    cl_Reading := ⟨h2_Reading, h3_Reading, h4_Reading, h5_Reading⟩,
    g_Reading := PySem.W.mg_of X G h1_Reading,
    n_Reading_drafts := n_Reading_drafts,
    n_Reading_marks := n_Reading_marks,
    x_NoCode := x_NoCode,
    gx_NoCode := PySem.W.mg_of X G gx_NoCode,
    a_is_whole := a_is_whole,
    d_is_whole := (PySem.W.fnOf "is_whole" "is_whole" (defArgs s_is_whole) (defBody s_is_whole) (defScope s_is_whole) .none kV_is_whole dc_is_whole pm_is_whole an_is_whole cd_is_whole ct_is_whole),
    f_is_whole := fun_mk (st := s_is_whole) l_is_whole c_is_whole k_is_whole,
    b_is_whole := (fun_mk (st := s_is_whole) l_is_whole c_is_whole k_is_whole).binds (ps := ["thing"]) fun _ _ _ _ _ _ us hl => match us, hl with | [_], _ => rfl,
    g_is_whole := PySem.W.mg_of X G g_is_whole,
    a_is_among := a_is_among,
    d_is_among := (PySem.W.fnOf "is_among" "is_among" (defArgs s_is_among) (defBody s_is_among) (defScope s_is_among) .none kV_is_among dc_is_among pm_is_among an_is_among cd_is_among ct_is_among),
    f_is_among := fun_mk (st := s_is_among) l_is_among c_is_among k_is_among,
    b_is_among := (fun_mk (st := s_is_among) l_is_among c_is_among k_is_among).binds (ps := ["thing", "least", "most"]) fun _ _ _ _ _ _ us hl => match us, hl with | [_, _, _], _ => rfl,
    g_is_among := PySem.W.mg_of X G g_is_among,
    a_is_word := a_is_word,
    d_is_word := (PySem.W.fnOf "is_word" "is_word" (defArgs s_is_word) (defBody s_is_word) (defScope s_is_word) .none kV_is_word dc_is_word pm_is_word an_is_word cd_is_word ct_is_word),
    f_is_word := fun_mk (st := s_is_word) l_is_word c_is_word k_is_word,
    b_is_word := (fun_mk (st := s_is_word) l_is_word c_is_word k_is_word).binds (ps := ["thing"]) fun _ _ _ _ _ _ us hl => match us, hl with | [_], _ => rfl,
    g_is_word := PySem.W.mg_of X G g_is_word,
    a_is_place := a_is_place,
    d_is_place := (PySem.W.fnOf "is_place" "is_place" (defArgs s_is_place) (defBody s_is_place) (defScope s_is_place) .none kV_is_place dc_is_place pm_is_place an_is_place cd_is_place ct_is_place),
    f_is_place := fun_mk (st := s_is_place) l_is_place c_is_place k_is_place,
    b_is_place := (fun_mk (st := s_is_place) l_is_place c_is_place k_is_place).binds (ps := ["thing", "many"]) fun _ _ _ _ _ _ us hl => match us, hl with | [_, _], _ => rfl,
    g_is_place := PySem.W.mg_of X G g_is_place,
    a_is_register := a_is_register,
    d_is_register := (PySem.W.fnOf "is_register" "is_register" (defArgs s_is_register) (defBody s_is_register) (defScope s_is_register) .none kV_is_register dc_is_register pm_is_register an_is_register cd_is_register ct_is_register),
    f_is_register := fun_mk (st := s_is_register) l_is_register c_is_register k_is_register,
    b_is_register := (fun_mk (st := s_is_register) l_is_register c_is_register k_is_register).binds (ps := ["thing"]) fun _ _ _ _ _ _ us hl => match us, hl with | [_], _ => rfl,
    g_is_register := PySem.W.mg_of X G g_is_register,
    a_is_part := a_is_part,
    d_is_part := (PySem.W.fnOf "is_part" "is_part" (defArgs s_is_part) (defBody s_is_part) (defScope s_is_part) .none kV_is_part dc_is_part pm_is_part an_is_part cd_is_part ct_is_part),
    f_is_part := fun_mk (st := s_is_part) l_is_part c_is_part k_is_part,
    b_is_part := (fun_mk (st := s_is_part) l_is_part c_is_part k_is_part).binds (ps := ["form", "thing", "many"]) fun _ _ _ _ _ _ us hl => match us, hl with | [_, _, _], _ => rfl,
    g_is_part := PySem.W.mg_of X G g_is_part,
    a_is_row := a_is_row,
    d_is_row := (PySem.W.fnOf "is_row" "is_row" (defArgs s_is_row) (defBody s_is_row) (defScope s_is_row) .none kV_is_row dc_is_row pm_is_row an_is_row cd_is_row ct_is_row),
    f_is_row := fun_mk (st := s_is_row) l_is_row c_is_row k_is_row,
    b_is_row := (fun_mk (st := s_is_row) l_is_row c_is_row k_is_row).binds (ps := ["thing", "many"]) fun _ _ _ _ _ _ us hl => match us, hl with | [_, _], _ => rfl,
    g_is_row := PySem.W.mg_of X G g_is_row,
    a_target_of := a_target_of,
    d_target_of := (PySem.W.fnOf "target_of" "target_of" (defArgs s_target_of) (defBody s_target_of) (defScope s_target_of) .none kV_target_of dc_target_of pm_target_of an_target_of cd_target_of ct_target_of),
    f_target_of := fun_mk (st := s_target_of) l_target_of c_target_of k_target_of,
    b_target_of := (fun_mk (st := s_target_of) l_target_of c_target_of k_target_of).binds (ps := ["row"]) fun _ _ _ _ _ _ us hl => match us, hl with | [_], _ => rfl,
    g_target_of := PySem.W.mg_of X G g_target_of,
    a_label_of := a_label_of,
    d_label_of := (PySem.W.fnOf "label_of" "label_of" (defArgs s_label_of) (defBody s_label_of) (defScope s_label_of) .none kV_label_of dc_label_of pm_label_of an_label_of cd_label_of ct_label_of),
    f_label_of := fun_mk (st := s_label_of) l_label_of c_label_of k_label_of,
    b_label_of := (fun_mk (st := s_label_of) l_label_of c_label_of k_label_of).binds (ps := ["number"]) fun _ _ _ _ _ _ us hl => match us, hl with | [_], _ => rfl,
    g_label_of := PySem.W.mg_of X G g_label_of,
    a_Program_init := a_Program_init,
    d_Program_init := (PySem.W.fnOf "__init__" "Program.__init__" (defArgs s_Program_init) (defBody s_Program_init) (defScope s_Program_init) .none kV_Program_init dc_Program_init pm_Program_init an_Program_init cd_Program_init ct_Program_init),
    f_Program_init := fun_mk (st := s_Program_init) l_Program_init c_Program_init k_Program_init,
    b_Program_init := (fun_mk (st := s_Program_init) l_Program_init c_Program_init k_Program_init).binds (ps := ["self", "listed"]) fun _ _ _ _ _ _ us hl => match us, hl with | [_, _], _ => rfl,
    mk_Program := ⟨h6_Program, g_Program_init, i_Program_init, h7_Program⟩,
    a_Program_rows := a_Program_rows,
    d_Program_rows := (PySem.W.fnOf "rows" "Program.rows" (defArgs s_Program_rows) (defBody s_Program_rows) (defScope s_Program_rows) .none kV_Program_rows dc_Program_rows pm_Program_rows an_Program_rows cd_Program_rows ct_Program_rows),
    f_Program_rows := fun_mk (st := s_Program_rows) l_Program_rows c_Program_rows k_Program_rows,
    b_Program_rows := (fun_mk (st := s_Program_rows) l_Program_rows c_Program_rows k_Program_rows).binds (ps := ["self"]) fun _ _ _ _ _ _ us hl => match us, hl with | [_], _ => rfl,
    m_Program_rows := ⟨g_Program_rows, i_Program_rows, k_Program_rows⟩,
    a_Program_row := a_Program_row,
    d_Program_row := (PySem.W.fnOf "row" "Program.row" (defArgs s_Program_row) (defBody s_Program_row) (defScope s_Program_row) .none kV_Program_row dc_Program_row pm_Program_row an_Program_row cd_Program_row ct_Program_row),
    f_Program_row := fun_mk (st := s_Program_row) l_Program_row c_Program_row k_Program_row,
    b_Program_row := (fun_mk (st := s_Program_row) l_Program_row c_Program_row k_Program_row).binds (ps := ["self", "place"]) fun _ _ _ _ _ _ us hl => match us, hl with | [_, _], _ => rfl,
    m_Program_row := ⟨g_Program_row, i_Program_row, k_Program_row⟩,
    a_Program_labels := a_Program_labels,
    d_Program_labels := (PySem.W.fnOf "labels" "Program.labels" (defArgs s_Program_labels) (defBody s_Program_labels) (defScope s_Program_labels) .none kV_Program_labels dc_Program_labels pm_Program_labels an_Program_labels cd_Program_labels ct_Program_labels),
    f_Program_labels := fun_mk (st := s_Program_labels) l_Program_labels c_Program_labels k_Program_labels,
    b_Program_labels := (fun_mk (st := s_Program_labels) l_Program_labels c_Program_labels k_Program_labels).binds (ps := ["self"]) fun _ _ _ _ _ _ us hl => match us, hl with | [_], _ => rfl,
    m_Program_labels := ⟨g_Program_labels, i_Program_labels, k_Program_labels⟩,
    a_Program_text := a_Program_text,
    d_Program_text := (PySem.W.fnOf "text" "Program.text" (defArgs s_Program_text) (defBody s_Program_text) (defScope s_Program_text) .none kV_Program_text dc_Program_text pm_Program_text an_Program_text cd_Program_text ct_Program_text),
    f_Program_text := fun_mk (st := s_Program_text) l_Program_text c_Program_text k_Program_text,
    b_Program_text := (fun_mk (st := s_Program_text) l_Program_text c_Program_text k_Program_text).binds (ps := ["self"]) fun _ _ _ _ _ _ us hl => match us, hl with | [_], _ => rfl,
    m_Program_text := ⟨g_Program_text, i_Program_text, k_Program_text⟩,
    a_program_of := a_program_of,
    d_program_of := (PySem.W.fnOf "program_of" "program_of" (defArgs s_program_of) (defBody s_program_of) (defScope s_program_of) .none kV_program_of dc_program_of pm_program_of an_program_of cd_program_of ct_program_of),
    f_program_of := fun_mk (st := s_program_of) l_program_of c_program_of k_program_of,
    b_program_of := (fun_mk (st := s_program_of) l_program_of c_program_of k_program_of).binds (ps := ["rows"]) fun _ _ _ _ _ _ us hl => match us, hl with | [_], _ => rfl,
    g_program_of := PySem.W.mg_of X G g_program_of,
    a_is_label := a_is_label,
    d_is_label := (PySem.W.fnOf "is_label" "is_label" (defArgs s_is_label) (defBody s_is_label) (defScope s_is_label) .none kV_is_label dc_is_label pm_is_label an_is_label cd_is_label ct_is_label),
    f_is_label := fun_mk (st := s_is_label) l_is_label c_is_label k_is_label,
    b_is_label := (fun_mk (st := s_is_label) l_is_label c_is_label k_is_label).binds (ps := ["word"]) fun _ _ _ _ _ _ us hl => match us, hl with | [_], _ => rfl,
    g_is_label := PySem.W.mg_of X G g_is_label,
    a_number_in := a_number_in,
    d_number_in := (PySem.W.fnOf "number_in" "number_in" (defArgs s_number_in) (defBody s_number_in) (defScope s_number_in) .none kV_number_in dc_number_in pm_number_in an_number_in cd_number_in ct_number_in),
    f_number_in := fun_mk (st := s_number_in) l_number_in c_number_in k_number_in,
    b_number_in := (fun_mk (st := s_number_in) l_number_in c_number_in k_number_in).binds (ps := ["word"]) fun _ _ _ _ _ _ us hl => match us, hl with | [_], _ => rfl,
    g_number_in := PySem.W.mg_of X G g_number_in,
    a_is_written := a_is_written,
    d_is_written := (PySem.W.fnOf "is_written" "is_written" (defArgs s_is_written) (defBody s_is_written) (defScope s_is_written) .none kV_is_written dc_is_written pm_is_written an_is_written cd_is_written ct_is_written),
    f_is_written := fun_mk (st := s_is_written) l_is_written c_is_written k_is_written,
    b_is_written := (fun_mk (st := s_is_written) l_is_written c_is_written k_is_written).binds (ps := ["form", "word"]) fun _ _ _ _ _ _ us hl => match us, hl with | [_, _], _ => rfl,
    g_is_written := PySem.W.mg_of X G g_is_written,
    a_Reading_init := a_Reading_init,
    d_Reading_init := (PySem.W.fnOf "__init__" "Reading.__init__" (defArgs s_Reading_init) (defBody s_Reading_init) (defScope s_Reading_init) .none kV_Reading_init dc_Reading_init pm_Reading_init an_Reading_init cd_Reading_init ct_Reading_init),
    f_Reading_init := fun_mk (st := s_Reading_init) l_Reading_init c_Reading_init k_Reading_init,
    b_Reading_init := (fun_mk (st := s_Reading_init) l_Reading_init c_Reading_init k_Reading_init).binds (ps := ["self"]) fun _ _ _ _ _ _ us hl => match us, hl with | [_], _ => rfl,
    mk_Reading := ⟨h6_Reading, g_Reading_init, i_Reading_init, h7_Reading⟩,
    a_Reading_put := a_Reading_put,
    d_Reading_put := (PySem.W.fnOf "put" "Reading.put" (defArgs s_Reading_put) (defBody s_Reading_put) (defScope s_Reading_put) .none kV_Reading_put dc_Reading_put pm_Reading_put an_Reading_put cd_Reading_put ct_Reading_put),
    f_Reading_put := fun_mk (st := s_Reading_put) l_Reading_put c_Reading_put k_Reading_put,
    b_Reading_put := (fun_mk (st := s_Reading_put) l_Reading_put c_Reading_put k_Reading_put).binds (ps := ["self", "words", "line"]) fun _ _ _ _ _ _ us hl => match us, hl with | [_, _, _], _ => rfl,
    m_Reading_put := ⟨g_Reading_put, i_Reading_put, k_Reading_put⟩,
    a_Reading_part := a_Reading_part,
    d_Reading_part := (PySem.W.fnOf "part" "Reading.part" (defArgs s_Reading_part) (defBody s_Reading_part) (defScope s_Reading_part) .none kV_Reading_part dc_Reading_part pm_Reading_part an_Reading_part cd_Reading_part ct_Reading_part),
    f_Reading_part := fun_mk (st := s_Reading_part) l_Reading_part c_Reading_part k_Reading_part,
    b_Reading_part := (fun_mk (st := s_Reading_part) l_Reading_part c_Reading_part k_Reading_part).binds (ps := ["self", "form", "word", "line"]) fun _ _ _ _ _ _ us hl => match us, hl with | [_, _, _, _], _ => rfl,
    m_Reading_part := ⟨g_Reading_part, i_Reading_part, k_Reading_part⟩,
    a_Reading_code := a_Reading_code,
    d_Reading_code := (PySem.W.fnOf "code" "Reading.code" (defArgs s_Reading_code) (defBody s_Reading_code) (defScope s_Reading_code) .none kV_Reading_code dc_Reading_code pm_Reading_code an_Reading_code cd_Reading_code ct_Reading_code),
    f_Reading_code := fun_mk (st := s_Reading_code) l_Reading_code c_Reading_code k_Reading_code,
    b_Reading_code := (fun_mk (st := s_Reading_code) l_Reading_code c_Reading_code k_Reading_code).binds (ps := ["self", "last"]) fun _ _ _ _ _ _ us hl => match us, hl with | [_, _], _ => rfl,
    m_Reading_code := ⟨g_Reading_code, i_Reading_code, k_Reading_code⟩,
    a_read := a_read,
    d_read := (PySem.W.fnOf "read" "read" (defArgs s_read) (defBody s_read) (defScope s_read) .none kV_read dc_read pm_read an_read cd_read ct_read),
    f_read := fun_mk (st := s_read) l_read c_read k_read,
    b_read := (fun_mk (st := s_read) l_read c_read k_read).binds (ps := ["text"]) fun _ _ _ _ _ _ us hl => match us, hl with | [_], _ => rfl,
    g_read := PySem.W.mg_of X G g_read,
    a_law_mixed := a_law_mixed,
    d_law_mixed := (PySem.W.fnOf "_law_mixed" "_law_mixed" (defArgs s_law_mixed) (defBody s_law_mixed) (defScope s_law_mixed) .none kV_law_mixed dc_law_mixed pm_law_mixed an_law_mixed cd_law_mixed ct_law_mixed),
    f_law_mixed := fun_mk (st := s_law_mixed) l_law_mixed c_law_mixed k_law_mixed,
    b_law_mixed := (fun_mk (st := s_law_mixed) l_law_mixed c_law_mixed k_law_mixed).binds (ps := ["_law_cell", "_law_k"]) fun _ _ _ _ _ _ us hl => match us, hl with | [_, _], _ => rfl,
    g_law_mixed := PySem.W.mg_of X G g_law_mixed,
    a_law_next := a_law_next,
    d_law_next := (PySem.W.fnOf "_law_next" "_law_next" (defArgs s_law_next) (defBody s_law_next) (defScope s_law_next) .none kV_law_next dc_law_next pm_law_next an_law_next cd_law_next ct_law_next),
    f_law_next := fun_mk (st := s_law_next) l_law_next c_law_next k_law_next,
    b_law_next := (fun_mk (st := s_law_next) l_law_next c_law_next k_law_next).binds (ps := ["_law_state_here"]) fun _ _ _ _ _ _ us hl => match us, hl with | [_], _ => rfl,
    g_law_next := PySem.W.mg_of X G g_law_next,
    a_law_state := a_law_state,
    d_law_state := (PySem.W.fnOf "_law_state" "_law_state" (defArgs s_law_state) (defBody s_law_state) (defScope s_law_state) .none kV_law_state dc_law_state pm_law_state an_law_state cd_law_state ct_law_state),
    f_law_state := fun_mk (st := s_law_state) l_law_state c_law_state k_law_state,
    b_law_state := (fun_mk (st := s_law_state) l_law_state c_law_state k_law_state).binds (ps := ["_law_cell"]) fun _ _ _ _ _ _ us hl => match us, hl with | [_], _ => rfl,
    g_law_state := PySem.W.mg_of X G g_law_state,
    a_law_forms := a_law_forms,
    d_law_forms := (PySem.W.fnOf "_law_forms" "_law_forms" (defArgs s_law_forms) (defBody s_law_forms) (defScope s_law_forms) .none kV_law_forms dc_law_forms pm_law_forms an_law_forms cd_law_forms ct_law_forms),
    f_law_forms := fun_mk (st := s_law_forms) l_law_forms c_law_forms k_law_forms,
    b_law_forms := (fun_mk (st := s_law_forms) l_law_forms c_law_forms k_law_forms).binds (ps := []) fun _ _ _ _ _ _ us hl => match us, hl with | [], _ => rfl,
    g_law_forms := PySem.W.mg_of X G g_law_forms,
    a_law_part := a_law_part,
    d_law_part := (PySem.W.fnOf "_law_part" "_law_part" (defArgs s_law_part) (defBody s_law_part) (defScope s_law_part) .none kV_law_part dc_law_part pm_law_part an_law_part cd_law_part ct_law_part),
    f_law_part := fun_mk (st := s_law_part) l_law_part c_law_part k_law_part,
    b_law_part := (fun_mk (st := s_law_part) l_law_part c_law_part k_law_part).binds (ps := ["_law_state_here", "_law_sign", "_law_many"]) fun _ _ _ _ _ _ us hl => match us, hl with | [_, _, _], _ => rfl,
    g_law_part := PySem.W.mg_of X G g_law_part,
    a_law_code := a_law_code,
    d_law_code := (PySem.W.fnOf "_law_code" "_law_code" (defArgs s_law_code) (defBody s_law_code) (defScope s_law_code) .none kV_law_code dc_law_code pm_law_code an_law_code cd_law_code ct_law_code),
    f_law_code := fun_mk (st := s_law_code) l_law_code c_law_code k_law_code,
    b_law_code := (fun_mk (st := s_law_code) l_law_code c_law_code k_law_code).binds (ps := ["_law_state_here", "_law_most"]) fun _ _ _ _ _ _ us hl => match us, hl with | [_, _], _ => rfl,
    g_law_code := PySem.W.mg_of X G g_law_code,
    a_law_letters := a_law_letters,
    d_law_letters := (PySem.W.fnOf "_law_letters" "_law_letters" (defArgs s_law_letters) (defBody s_law_letters) (defScope s_law_letters) .none kV_law_letters dc_law_letters pm_law_letters an_law_letters cd_law_letters ct_law_letters),
    f_law_letters := fun_mk (st := s_law_letters) l_law_letters c_law_letters k_law_letters,
    b_law_letters := (fun_mk (st := s_law_letters) l_law_letters c_law_letters k_law_letters).binds (ps := ["_law_number"]) fun _ _ _ _ _ _ us hl => match us, hl with | [_], _ => rfl,
    g_law_letters := PySem.W.mg_of X G g_law_letters,
    a_law_asked := a_law_asked,
    d_law_asked := (PySem.W.fnOf "_law_asked" "_law_asked" (defArgs s_law_asked) (defBody s_law_asked) (defScope s_law_asked) .none kV_law_asked dc_law_asked pm_law_asked an_law_asked cd_law_asked ct_law_asked),
    f_law_asked := fun_mk (st := s_law_asked) l_law_asked c_law_asked k_law_asked,
    b_law_asked := (fun_mk (st := s_law_asked) l_law_asked c_law_asked k_law_asked).binds (ps := ["_law_code_here"]) fun _ _ _ _ _ _ us hl => match us, hl with | [_], _ => rfl,
    g_law_asked := PySem.W.mg_of X G g_law_asked,
    a_law_row_words := a_law_row_words,
    d_law_row_words := (PySem.W.fnOf "_law_row_words" "_law_row_words" (defArgs s_law_row_words) (defBody s_law_row_words) (defScope s_law_row_words) .none kV_law_row_words dc_law_row_words pm_law_row_words an_law_row_words cd_law_row_words ct_law_row_words),
    f_law_row_words := fun_mk (st := s_law_row_words) l_law_row_words c_law_row_words k_law_row_words,
    b_law_row_words := (fun_mk (st := s_law_row_words) l_law_row_words c_law_row_words k_law_row_words).binds (ps := ["_law_row", "_law_labels"]) fun _ _ _ _ _ _ us hl => match us, hl with | [_, _], _ => rfl,
    g_law_row_words := PySem.W.mg_of X G g_law_row_words,
    a_law_names := a_law_names,
    d_law_names := (PySem.W.fnOf "_law_names" "_law_names" (defArgs s_law_names) (defBody s_law_names) (defScope s_law_names) .none kV_law_names dc_law_names pm_law_names an_law_names cd_law_names ct_law_names),
    f_law_names := fun_mk (st := s_law_names) l_law_names c_law_names k_law_names,
    b_law_names := (fun_mk (st := s_law_names) l_law_names c_law_names k_law_names).binds (ps := ["_law_state_here"]) fun _ _ _ _ _ _ us hl => match us, hl with | [_], _ => rfl,
    g_law_names := PySem.W.mg_of X G g_law_names,
    a_law_gap := a_law_gap,
    d_law_gap := (PySem.W.fnOf "_law_gap" "_law_gap" (defArgs s_law_gap) (defBody s_law_gap) (defScope s_law_gap) .none kV_law_gap dc_law_gap pm_law_gap an_law_gap cd_law_gap ct_law_gap),
    f_law_gap := fun_mk (st := s_law_gap) l_law_gap c_law_gap k_law_gap,
    b_law_gap := (fun_mk (st := s_law_gap) l_law_gap c_law_gap k_law_gap).binds (ps := ["_law_state_here"]) fun _ _ _ _ _ _ us hl => match us, hl with | [_], _ => rfl,
    g_law_gap := PySem.W.mg_of X G g_law_gap,
    a_law_loose := a_law_loose,
    d_law_loose := (PySem.W.fnOf "_law_loose" "_law_loose" (defArgs s_law_loose) (defBody s_law_loose) (defScope s_law_loose) .none kV_law_loose dc_law_loose pm_law_loose an_law_loose cd_law_loose ct_law_loose),
    f_law_loose := fun_mk (st := s_law_loose) l_law_loose c_law_loose k_law_loose,
    b_law_loose := (fun_mk (st := s_law_loose) l_law_loose c_law_loose k_law_loose).binds (ps := ["_law_state_here", "_law_code_here"]) fun _ _ _ _ _ _ us hl => match us, hl with | [_, _], _ => rfl,
    g_law_loose := PySem.W.mg_of X G g_law_loose,
    a_law_other := a_law_other,
    d_law_other := (PySem.W.fnOf "_law_other" "_law_other" (defArgs s_law_other) (defBody s_law_other) (defScope s_law_other) .none kV_law_other dc_law_other pm_law_other an_law_other cd_law_other ct_law_other),
    f_law_other := fun_mk (st := s_law_other) l_law_other c_law_other k_law_other,
    b_law_other := (fun_mk (st := s_law_other) l_law_other c_law_other k_law_other).binds (ps := ["_law_state_here", "_law_code_here"]) fun _ _ _ _ _ _ us hl => match us, hl with | [_, _], _ => rfl,
    g_law_other := PySem.W.mg_of X G g_law_other,
    a_law_labels_right := a_law_labels_right,
    d_law_labels_right := (PySem.W.fnOf "_law_labels_right" "_law_labels_right" (defArgs s_law_labels_right) (defBody s_law_labels_right) (defScope s_law_labels_right) .none kV_law_labels_right dc_law_labels_right pm_law_labels_right an_law_labels_right cd_law_labels_right ct_law_labels_right),
    f_law_labels_right := fun_mk (st := s_law_labels_right) l_law_labels_right c_law_labels_right k_law_labels_right,
    b_law_labels_right := (fun_mk (st := s_law_labels_right) l_law_labels_right c_law_labels_right k_law_labels_right).binds (ps := ["_law_text", "_law_code_here"]) fun _ _ _ _ _ _ us hl => match us, hl with | [_, _], _ => rfl,
    g_law_labels_right := PySem.W.mg_of X G g_law_labels_right,
    a_law := fa,
    d_law := (PySem.W.fnOf "law" "law" (defArgs s_law) (defBody s_law) (defScope s_law) .none kV_law dc_law pm_law an_law cd_law ct_law),
    f_law := fun_mk (st := s_law) l_law c_law k_law,
    b_law := (fun_mk (st := s_law) l_law c_law k_law).binds (ps := ["_law_script"]) fun _ _ _ _ _ _ us hl => match us, hl with | [_], _ => rfl,
    g_law := PySem.W.mg_of X G g_law,
    g_FIGURES := ⟨_, PySem.W.mg_of X G g_FIGURES⟩,
    a_FORMS := a_FORMS,
    g_FORMS := PySem.W.mg_of X G g_FORMS,
    kd_FORMS := ⟨_, _, l_FORMS, kl_FORMS, lo_FORMS⟩,
    no_FORMS := Tx.ns_out l_FORMS kl_FORMS kn_FORMS,
    ni_FORMS_0 := ⟨_, ni0_FORMS⟩,
    ni_FORMS_1 := ⟨_, ni1_FORMS⟩,
    ni_FORMS_2 := ⟨_, ni2_FORMS⟩,
    ni_FORMS_3 := ⟨_, ni3_FORMS⟩,
    ni_FORMS_4 := ⟨_, ni4_FORMS⟩,
    ni_FORMS_5 := ⟨_, ni5_FORMS⟩,
    ni_FORMS_6 := ⟨_, ni6_FORMS⟩,
    ni_FORMS_7 := ⟨_, ni7_FORMS⟩,
    ni_FORMS_8 := ⟨_, ni8_FORMS⟩,
    ni_FORMS_9 := ⟨_, ni9_FORMS⟩,
    ni_FORMS_10 := ⟨_, ni10_FORMS⟩,
    ni_FORMS_11 := ⟨_, ni11_FORMS⟩,
    ni_FORMS_12 := ⟨_, ni12_FORMS⟩,
    ni_FORMS_13 := ⟨_, ni13_FORMS⟩,
    ni_FORMS_14 := ⟨_, ni14_FORMS⟩,
    g_MOST_FIGURES := ⟨_, PySem.W.mg_of X G g_MOST_FIGURES⟩,
    g_MOST_ROWS := ⟨_, PySem.W.mg_of X G g_MOST_ROWS⟩,
    g_MOST_SIGNS := ⟨_, PySem.W.mg_of X G g_MOST_SIGNS⟩,
    g_REGISTERS := ⟨_, PySem.W.mg_of X G g_REGISTERS⟩,
    g_SMALL := ⟨_, PySem.W.mg_of X G g_SMALL⟩,
    g_WORDS := ⟨_, PySem.W.mg_of X G g_WORDS⟩,
    n_all := PySem.W.mg_none_of X G n_all,
    n_bool := PySem.W.mg_none_of X G n_bool,
    n_enumerate := PySem.W.mg_none_of X G n_enumerate,
    n_int := PySem.W.mg_none_of X G n_int,
    n_isinstance := PySem.W.mg_none_of X G n_isinstance,
    n_len := PySem.W.mg_none_of X G n_len,
    n_list := PySem.W.mg_none_of X G n_list,
    n_min := PySem.W.mg_none_of X G n_min,
    n_range := PySem.W.mg_none_of X G n_range,
    n_sorted := PySem.W.mg_none_of X G n_sorted,
    n_str := PySem.W.mg_none_of X G n_str,
    n_sum := PySem.W.mg_none_of X G n_sum,
    n_tuple := PySem.W.mg_none_of X G n_tuple,
    n_zip := PySem.W.mg_none_of X G n_zip,
    wP := w.params
    }, rfl, rfl, rfl⟩
  obtain ⟨T, e1, e2, FW⟩ := T
  refine ⟨PySem.W.fnOf "law" "law" (defArgs s_law) (defBody s_law) (defScope s_law) .none kV_law dc_law pm_law an_law cd_law ct_law, fun s v => .of_eq rfl, fun base _ _ => ?_⟩
  have z := ok_law (P := l.prog) (w := w) (base := base) T FW
  rw [e1, e2] at z
  exact z
theorem walk {l : PySem.W.OpenLaw} {q : Program} {loose : List Str} {XP : (Str → Option Value) → Heap → Prop} {YP : World → Heap → Prop} {d : DefRec} {K : Params → PySem.W.Frag} (hn : l.most = some 63) (hdf : d.params.defaults = [])
    (hY : ∀ (w : World) (h : Heap), YP w h → (K w.params).In h)
    (F : ∀ (w : World) (mg : Str → Option Value) (fa : Addr) (h : Heap), (K w.params).In h → h.Ns mainGlobals mg → mg d.name = some (.ref fa) →
      ∃ fd : FuncData, (∀ (s : Shared) (u : Value), BindsTo s fd ⟨[u], []⟩ [("_law_script", u)]) ∧ ∀ base : Heap, (K w.params).In base → base.Ns mainGlobals mg → FnOk l.prog w (K w.params) mg base CX0 8 fa fd ["_law_script"] (sp_law (K w.params))) :
    PySem.W.WalkO q loose XP YP l.row.toRowW d [] (fun f vs => PySem.call f vs) :=
  L2.walk_of (n := 63) (k := 8) (x := "_law_script") (CX := fun _ => CX0) (sp := fun w => sp_law (K w.params)) hn (by decide) hdf ⟨rfl, by decide, by decide⟩ hY F (fun _ _ a ns hl _ hS => ⟨a, ns, rfl, hl, Hd.one hS, fun _ => rfl⟩) fun _ _ _ _ _ z => z
end My
open PySem PySem.W PyProof.Rows in
set_option maxRecDepth 100000 in
set_option maxHeartbeats 0 in
theorem PySem.Challenge.cw_keelroom_k05_whole_texts_there_and_back_holds : PySem.Challenge.rw_keelroom_k05_whole_texts_there_and_back.Holds := by
  w_on; o_law; k_head; (case hw => w_witness2)
  k_fill
  refine My.walk (l := PySem.Challenge.rw_keelroom_k05_whole_texts_there_and_back) rfl rfl (fun w h Y => PySem.W.kIn_of Y) ?F
  case F =>
    intro w mg fa h KX G hmg
    refine' My.all_mk KX G hmg ?h1_Program ?h2_Program ?h3_Program ?h4_Program ?h5_Program ?h6_Program ?h7_Program ?n_Program_listed ?h1_Reading ?h2_Reading ?h3_Reading ?h4_Reading ?h5_Reading ?h6_Reading ?h7_Reading ?n_Reading_drafts ?n_Reading_marks ?gx_NoCode ?g_is_whole ?l_is_whole ?c_is_whole ?k_is_whole ?g_is_among ?l_is_among ?c_is_among ?k_is_among ?g_is_word ?l_is_word ?c_is_word ?k_is_word ?g_is_place ?l_is_place ?c_is_place ?k_is_place ?g_is_register ?l_is_register ?c_is_register ?k_is_register ?g_is_part ?l_is_part ?c_is_part ?k_is_part ?g_is_row ?l_is_row ?c_is_row ?k_is_row ?g_target_of ?l_target_of ?c_target_of ?k_target_of ?g_label_of ?l_label_of ?c_label_of ?k_label_of ?g_Program_init ?i_Program_init ?l_Program_init ?c_Program_init ?k_Program_init ?g_Program_rows ?i_Program_rows ?l_Program_rows ?c_Program_rows ?k_Program_rows ?g_Program_row ?i_Program_row ?l_Program_row ?c_Program_row ?k_Program_row ?g_Program_labels ?i_Program_labels ?l_Program_labels ?c_Program_labels ?k_Program_labels ?g_Program_text ?i_Program_text ?l_Program_text ?c_Program_text ?k_Program_text ?g_program_of ?l_program_of ?c_program_of ?k_program_of ?g_is_label ?l_is_label ?c_is_label ?k_is_label ?g_number_in ?l_number_in ?c_number_in ?k_number_in ?g_is_written ?l_is_written ?c_is_written ?k_is_written ?g_Reading_init ?i_Reading_init ?l_Reading_init ?c_Reading_init ?k_Reading_init ?g_Reading_put ?i_Reading_put ?l_Reading_put ?c_Reading_put ?k_Reading_put ?g_Reading_part ?i_Reading_part ?l_Reading_part ?c_Reading_part ?k_Reading_part ?g_Reading_code ?i_Reading_code ?l_Reading_code ?c_Reading_code ?k_Reading_code ?g_read ?l_read ?c_read ?k_read ?g_law_mixed ?l_law_mixed ?c_law_mixed ?k_law_mixed ?g_law_next ?l_law_next ?c_law_next ?k_law_next ?g_law_state ?l_law_state ?c_law_state ?k_law_state ?g_law_forms ?l_law_forms ?c_law_forms ?k_law_forms ?g_law_part ?l_law_part ?c_law_part ?k_law_part ?g_law_code ?l_law_code ?c_law_code ?k_law_code ?g_law_letters ?l_law_letters ?c_law_letters ?k_law_letters ?g_law_asked ?l_law_asked ?c_law_asked ?k_law_asked ?g_law_row_words ?l_law_row_words ?c_law_row_words ?k_law_row_words ?g_law_names ?l_law_names ?c_law_names ?k_law_names ?g_law_gap ?l_law_gap ?c_law_gap ?k_law_gap ?g_law_loose ?l_law_loose ?c_law_loose ?k_law_loose ?g_law_other ?l_law_other ?c_law_other ?k_law_other ?g_law_labels_right ?l_law_labels_right ?c_law_labels_right ?k_law_labels_right ?g_law ?l_law ?c_law ?k_law ?g_FIGURES ?g_FORMS ?l_FORMS ?kl_FORMS ?lo_FORMS ?kn_FORMS ?ni0_FORMS ?ni1_FORMS ?ni2_FORMS ?ni3_FORMS ?ni4_FORMS ?ni5_FORMS ?ni6_FORMS ?ni7_FORMS ?ni8_FORMS ?ni9_FORMS ?ni10_FORMS ?ni11_FORMS ?ni12_FORMS ?ni13_FORMS ?ni14_FORMS ?g_MOST_FIGURES ?g_MOST_ROWS ?g_MOST_SIGNS ?g_REGISTERS ?g_SMALL ?g_WORDS ?n_all ?n_bool ?n_enumerate ?n_int ?n_isinstance ?n_len ?n_list ?n_min ?n_range ?n_sorted ?n_str ?n_sum ?n_tuple ?n_zip
    (case h1_Program => k_is)
    (case h2_Program => k_is)
    (case h3_Program => k_is)
    (case h4_Program => k_is)
    (case h5_Program => k_is)
    (case h6_Program => k_is)
    (case h7_Program => k_is)
    (case n_Program_listed => k_is)
    (case h1_Reading => k_is)
    (case h2_Reading => k_is)
    (case h3_Reading => k_is)
    (case h4_Reading => k_is)
    (case h5_Reading => k_is)
    (case h6_Reading => k_is)
    (case h7_Reading => k_is)
    (case n_Reading_drafts => k_is)
    (case n_Reading_marks => k_is)
    (case gx_NoCode => k_is)
    (case g_is_whole => k_is)
    (case l_is_whole => k_is)
    (case c_is_whole => k_is)
    (case k_is_whole => k_is)
    (case g_is_among => k_is)
    (case l_is_among => k_is)
    (case c_is_among => k_is)
    (case k_is_among => k_is)
    (case g_is_word => k_is)
    (case l_is_word => k_is)
    (case c_is_word => k_is)
    (case k_is_word => k_is)
    (case g_is_place => k_is)
    (case l_is_place => k_is)
    (case c_is_place => k_is)
    (case k_is_place => k_is)
    (case g_is_register => k_is)
    (case l_is_register => k_is)
    (case c_is_register => k_is)
    (case k_is_register => k_is)
    (case g_is_part => k_is)
    (case l_is_part => k_is)
    (case c_is_part => k_is)
    (case k_is_part => k_is)
    (case g_is_row => k_is)
    (case l_is_row => k_is)
    (case c_is_row => k_is)
    (case k_is_row => k_is)
    (case g_target_of => k_is)
    (case l_target_of => k_is)
    (case c_target_of => k_is)
    (case k_target_of => k_is)
    (case g_label_of => k_is)
    (case l_label_of => k_is)
    (case c_label_of => k_is)
    (case k_label_of => k_is)
    (case g_Program_init => k_is)
    (case i_Program_init => k_is)
    (case l_Program_init => k_is)
    (case c_Program_init => k_is)
    (case k_Program_init => k_is)
    (case g_Program_rows => k_is)
    (case i_Program_rows => k_is)
    (case l_Program_rows => k_is)
    (case c_Program_rows => k_is)
    (case k_Program_rows => k_is)
    (case g_Program_row => k_is)
    (case i_Program_row => k_is)
    (case l_Program_row => k_is)
    (case c_Program_row => k_is)
    (case k_Program_row => k_is)
    (case g_Program_labels => k_is)
    (case i_Program_labels => k_is)
    (case l_Program_labels => k_is)
    (case c_Program_labels => k_is)
    (case k_Program_labels => k_is)
    (case g_Program_text => k_is)
    (case i_Program_text => k_is)
    (case l_Program_text => k_is)
    (case c_Program_text => k_is)
    (case k_Program_text => k_is)
    (case g_program_of => k_is)
    (case l_program_of => k_is)
    (case c_program_of => k_is)
    (case k_program_of => k_is)
    (case g_is_label => k_is)
    (case l_is_label => k_is)
    (case c_is_label => k_is)
    (case k_is_label => k_is)
    (case g_number_in => k_is)
    (case l_number_in => k_is)
    (case c_number_in => k_is)
    (case k_number_in => k_is)
    (case g_is_written => k_is)
    (case l_is_written => k_is)
    (case c_is_written => k_is)
    (case k_is_written => k_is)
    (case g_Reading_init => k_is)
    (case i_Reading_init => k_is)
    (case l_Reading_init => k_is)
    (case c_Reading_init => k_is)
    (case k_Reading_init => k_is)
    (case g_Reading_put => k_is)
    (case i_Reading_put => k_is)
    (case l_Reading_put => k_is)
    (case c_Reading_put => k_is)
    (case k_Reading_put => k_is)
    (case g_Reading_part => k_is)
    (case i_Reading_part => k_is)
    (case l_Reading_part => k_is)
    (case c_Reading_part => k_is)
    (case k_Reading_part => k_is)
    (case g_Reading_code => k_is)
    (case i_Reading_code => k_is)
    (case l_Reading_code => k_is)
    (case c_Reading_code => k_is)
    (case k_Reading_code => k_is)
    (case g_read => k_is)
    (case l_read => k_is)
    (case c_read => k_is)
    (case k_read => k_is)
    (case g_law_mixed => k_is)
    (case l_law_mixed => k_is)
    (case c_law_mixed => k_is)
    (case k_law_mixed => k_is)
    (case g_law_next => k_is)
    (case l_law_next => k_is)
    (case c_law_next => k_is)
    (case k_law_next => k_is)
    (case g_law_state => k_is)
    (case l_law_state => k_is)
    (case c_law_state => k_is)
    (case k_law_state => k_is)
    (case g_law_forms => k_is)
    (case l_law_forms => k_is)
    (case c_law_forms => k_is)
    (case k_law_forms => k_is)
    (case g_law_part => k_is)
    (case l_law_part => k_is)
    (case c_law_part => k_is)
    (case k_law_part => k_is)
    (case g_law_code => k_is)
    (case l_law_code => k_is)
    (case c_law_code => k_is)
    (case k_law_code => k_is)
    (case g_law_letters => k_is)
    (case l_law_letters => k_is)
    (case c_law_letters => k_is)
    (case k_law_letters => k_is)
    (case g_law_asked => k_is)
    (case l_law_asked => k_is)
    (case c_law_asked => k_is)
    (case k_law_asked => k_is)
    (case g_law_row_words => k_is)
    (case l_law_row_words => k_is)
    (case c_law_row_words => k_is)
    (case k_law_row_words => k_is)
    (case g_law_names => k_is)
    (case l_law_names => k_is)
    (case c_law_names => k_is)
    (case k_law_names => k_is)
    (case g_law_gap => k_is)
    (case l_law_gap => k_is)
    (case c_law_gap => k_is)
    (case k_law_gap => k_is)
    (case g_law_loose => k_is)
    (case l_law_loose => k_is)
    (case c_law_loose => k_is)
    (case k_law_loose => k_is)
    (case g_law_other => k_is)
    (case l_law_other => k_is)
    (case c_law_other => k_is)
    (case k_law_other => k_is)
    (case g_law_labels_right => k_is)
    (case l_law_labels_right => k_is)
    (case c_law_labels_right => k_is)
    (case k_law_labels_right => k_is)
    (case g_law => k_is)
    (case l_law => k_is)
    (case c_law => k_is)
    (case k_law => k_is)
    (case g_FIGURES => k_is)
    (case g_FORMS => k_is)
    (case l_FORMS => k_is)
    (case kl_FORMS => k_keys)
    (case lo_FORMS => decide)
    (case kn_FORMS => kernel_rfl)
    (case ni0_FORMS => k_is)
    (case ni1_FORMS => k_is)
    (case ni2_FORMS => k_is)
    (case ni3_FORMS => k_is)
    (case ni4_FORMS => k_is)
    (case ni5_FORMS => k_is)
    (case ni6_FORMS => k_is)
    (case ni7_FORMS => k_is)
    (case ni8_FORMS => k_is)
    (case ni9_FORMS => k_is)
    (case ni10_FORMS => k_is)
    (case ni11_FORMS => k_is)
    (case ni12_FORMS => k_is)
    (case ni13_FORMS => k_is)
    (case ni14_FORMS => k_is)
    (case g_MOST_FIGURES => k_is)
    (case g_MOST_ROWS => k_is)
    (case g_MOST_SIGNS => k_is)
    (case g_REGISTERS => k_is)
    (case g_SMALL => k_is)
    (case g_WORDS => k_is)
    (case n_all => k_is)
    (case n_bool => k_is)
    (case n_enumerate => k_is)
    (case n_int => k_is)
    (case n_isinstance => k_is)
    (case n_len => k_is)
    (case n_list => k_is)
    (case n_min => k_is)
    (case n_range => k_is)
    (case n_sorted => k_is)
    (case n_str => k_is)
    (case n_sum => k_is)
    (case n_tuple => k_is)
    (case n_zip => k_is)
#print axioms PySem.Challenge.cw_keelroom_k05_whole_texts_there_and_back_holds
