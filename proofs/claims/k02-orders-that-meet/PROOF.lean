import PyProof.Rows.All
import Wide.All
import OpenK.AllK
import Wide.FinOn
import KE.KStateDown
import Lean
import HandS.ForMost
import HandS.More
import HandS.WordsExc
import HandS.Exc
import HandS.ExcInit
import HandS.ExcIs
import HandS.ExcField
import HandS.TryOnly
import HandS.IsInst
import HandS.Defaults
import HandS.Style
import HandS.Conv
import PyProof.ListStr
import HandS.StrMore
import HandS.TupAny
import HandS.TupLe
import HandS.Head0
import HandS.Head1
import HandS.Head2
import HandS.HeadEnd
import HandS.HeadHook1
import HandS.HeadHook2
import HandS.HeadHook3
import HandS.HeadHook4
import HandS.HeadNt
import PySem.Challenge.RW_coveredday_k02_orders_that_meet
set_option Elab.async false
set_option linter.all false
set_option maxRecDepth 100000
set_option maxHeartbeats 4000000
namespace G
open PySem PySem.Spec PyProof.Rows L2

abbrev St := L2.St

/-! ### the ledger: what stands at which address, no two addresses alike -/
abbrev Led := List (Addr × HO)
structure SH (L : Led) (H : Hp) : Prop where
  get : ∀ {a : Addr} {o : HO}, (a, o) ∈ L → H a = some o
  nd : (L.map (·.1)).Nodup
section
variable {L L' R : Led} {H : Hp} {a p : Addr} {o o' : HO}
theorem SH.nil : SH [] H := ⟨fun h => absurd h (by simp), List.nodup_nil⟩
theorem SH.new (h : SH L H) (hp : H p = none) : SH ((p, o) :: L) (upd H p o) := by
  have ne : ∀ {b : Addr} {u : HO}, (b, u) ∈ L → b ≠ p := fun m e => by
    have := h.get m
    rw [e, hp] at this
    cases this
  refine ⟨fun {b u} m => ?_, ?_⟩
  · rcases List.mem_cons.mp m with e | m
    · cases e
      exact upd_same
    · rw [upd_ne (ne m)]
      exact h.get m
  · rw [List.map_cons, List.nodup_cons]
    refine ⟨fun m => ?_, h.nd⟩
    obtain ⟨⟨b, u⟩, m2, e⟩ := List.mem_map.mp m
    exact ne m2 e
/-- o at a becomes o' -/
inductive Rpl (a : Addr) (o' : HO) : Led → Led → Prop
  | here {o : HO} {L : Led} : Rpl a o' ((a, o) :: L) ((a, o') :: L)
  | there {x : Addr × HO} {L L' : Led} : Rpl a o' L L' → Rpl a o' (x :: L) (x :: L')
  | app {A L L' : Led} : Rpl a o' L L' → Rpl a o' (A ++ L) (A ++ L')
theorem Rpl.keys (r : Rpl a o' L L') : L'.map (·.1) = L.map (·.1) := by
  induction r with
  | here => rfl
  | there _ ih => rw [List.map_cons, List.map_cons, ih]
  | app _ ih => rw [List.map_append, List.map_append, ih]
theorem Rpl.mem (r : Rpl a o' L L') : a ∈ L.map (·.1) := by
  induction r with
  | here => exact List.mem_cons_self
  | there _ ih => exact List.mem_cons_of_mem _ ih
  | app _ ih => rw [List.map_append]; exact List.mem_append_right _ ih
theorem Rpl.of (r : Rpl a o' L L') (nd : (L.map (·.1)).Nodup) : ∀ {b : Addr} {u : HO}, (b, u) ∈ L' → (b = a ∧ u = o') ∨ (b ≠ a ∧ (b, u) ∈ L) := by
  induction r with
  | @here o L =>
    intro b u m
    rcases List.mem_cons.mp m with e | m
    · cases e
      exact .inl ⟨rfl, rfl⟩
    · refine .inr ⟨fun e => ?_, List.mem_cons_of_mem _ m⟩
      rw [List.map_cons, List.nodup_cons] at nd
      exact nd.1 (e ▸ List.mem_map.mpr ⟨_, m, rfl⟩)
  | @there x L L' r ih =>
    intro b u m
    rw [List.map_cons, List.nodup_cons] at nd
    rcases List.mem_cons.mp m with e | m
    · subst e
      exact .inr ⟨fun e => nd.1 (by rw [show b = a from e]; exact r.mem), List.mem_cons_self⟩
    · rcases ih nd.2 m with q | ⟨q1, q2⟩
      · exact .inl q
      · exact .inr ⟨q1, List.mem_cons_of_mem _ q2⟩
  | @app A L L' r ih =>
    intro b u m
    rw [List.map_append, List.nodup_append] at nd
    rcases List.mem_append.mp m with m | m
    · refine .inr ⟨fun e => ?_, List.mem_append_left _ m⟩
      exact nd.2.2 b (List.mem_map.mpr ⟨_, m, rfl⟩) a r.mem e
    · rcases ih nd.2.1 m with q | ⟨q1, q2⟩
      · exact .inl q
      · exact .inr ⟨q1, List.mem_append_right _ q2⟩
theorem SH.wr (h : SH L H) (r : Rpl a o' L L') : SH L' (upd H a o') := by
  refine ⟨fun {b u} m => ?_, by rw [r.keys]; exact h.nd⟩
  rcases r.of h.nd m with ⟨rfl, rfl⟩ | ⟨ne, m⟩
  · exact upd_same
  · rw [upd_ne ne]
    exact h.get m
/-- one cell taken out -/
inductive Pick (x : Addr × HO) : Led → Led → Prop
  | here {L : Led} : Pick x (x :: L) L
  | there {y : Addr × HO} {L R : Led} : Pick x L R → Pick x (y :: L) (y :: R)
  | app {A L R : Led} : Pick x L R → Pick x (A ++ L) (A ++ R)
theorem Pick.perm {x : Addr × HO} (p : Pick x L R) : L.Perm (x :: R) := by
  induction p with
  | here => exact List.Perm.refl _
  | @there y L R _ ih => exact (List.Perm.cons y ih).trans (List.Perm.swap x y R)
  | @app A L R _ ih => exact (List.Perm.append_left A ih).trans (List.perm_middle)
theorem SH.perm (h : SH L H) (p : L.Perm L') : SH L' H := ⟨fun m => h.get (p.mem_iff.mpr m), (p.map _).nodup_iff.mp h.nd⟩
theorem SH.pick {x : Addr × HO} (h : SH L H) (p : Pick x L R) : SH (x :: R) H := h.perm p.perm
theorem SH.sub (h : SH L H) (s : L'.Sublist L) : SH L' H := ⟨fun m => h.get (s.subset m), (s.map _).nodup h.nd⟩
theorem SH.tail {x : Addr × HO} (h : SH (x :: L) H) : SH L H := h.sub (List.sublist_cons_self _ _)
theorem SH.drop {A : Led} (h : SH (A ++ L) H) : SH L H := h.sub (List.sublist_append_right _ _)
theorem SH.ne {b : Addr} {u : HO} (h : SH L H) (m : (a, o) ∈ L) (m' : (b, u) ∈ L) (d : o ≠ u) : a ≠ b := fun e => by
  have h1 := h.get m
  have h2 := h.get m'
  rw [e, h2] at h1
  exact d (Option.some.inj h1).symm
theorem SH.nmem {b : Addr} {u : HO} (h : SH ((a, o) :: L) H) (m' : (b, u) ∈ L) : b ≠ a := fun e => by
  have := h.nd
  rw [List.map_cons, List.nodup_cons] at this
  exact this.1 (e ▸ List.mem_map.mpr ⟨_, m', rfl⟩)
/-- cells of a ledger, in an order of one's own, some left out -/
inductive Ord : Led → Led → Prop
  | refl {L : Led} : Ord L L
  | cons {x : Addr × HO} {L' L R : Led} : Pick x L R → Ord L' R → Ord (x :: L') L
  | drop {y : Addr × HO} {L' L : Led} : Ord L' L → Ord L' (y :: L)
  | dropA {A L' L : Led} : Ord L' L → Ord L' (A ++ L)
  | app {A L' L : Led} : Ord L' L → Ord (A ++ L') (A ++ L)
theorem Ord.sp {L' L : Led} (o : Ord L' L) : ∃ M, M.Perm L ∧ L'.Sublist M := by
  induction o with
  | refl => exact ⟨_, List.Perm.refl _, List.Sublist.refl _⟩
  | cons p _ ih => obtain ⟨M, a, b⟩ := ih; exact ⟨_, (List.Perm.cons _ a).trans p.perm.symm, b.cons₂ _⟩
  | drop _ ih => obtain ⟨M, a, b⟩ := ih; exact ⟨_, List.Perm.cons _ a, b.cons _⟩
  | @dropA A _ _ _ ih => obtain ⟨M, a, b⟩ := ih; exact ⟨A ++ M, List.Perm.append_left A a, b.trans (List.sublist_append_right _ _)⟩
  | @app A _ _ _ ih => obtain ⟨M, a, b⟩ := ih; exact ⟨A ++ M, List.Perm.append_left A a, (List.Sublist.refl A).append b⟩
theorem SH.ord (h : SH L H) (o : Ord L' L) : SH L' H := by
  obtain ⟨M, a, b⟩ := o.sp
  exact (h.perm a.symm).sub b
/-- an instance is laid -/
theorem SH.ins {x dx C : Addr} (h : SH L H) (hx : H x = none) (hd : H dx = none) (ne : dx ≠ x) : SH ((x, .ins C dx []) :: L) (upd (upd H dx (.own x)) x (.ins C dx [])) :=
  ((h.new (o := .own x) hd).new (p := x) (o := .ins C dx []) (by rw [upd_ne (Ne.symm ne)]; exact hx)).sub ((List.sublist_cons_self _ _).cons₂ _)
end

/-! ### a list, a tuple of the ledger (or of the written part) -/
section
variable {K : PySem.W.Frag} {L L' : Led} {H : Hp} {a : Addr} {xs : List V}
inductive IsL (K : PySem.W.Frag) (L : Led) (a : Addr) (xs : List V) : Prop
  | here : (a, .lst xs) ∈ L → IsL K L a xs
  | frz {o : Obj} : (a, .frz o (.lst xs)) ∈ L → IsL K L a xs
  | glob : (∀ H, SqL K H a xs) → IsL K L a xs
inductive IsT (K : PySem.W.Frag) (L : Led) (a : Addr) (xs : List V) : Prop
  | here : (a, .tup xs) ∈ L → IsT K L a xs
  | glob : (∀ H, SqT K H a xs) → IsT K L a xs
theorem IsL.sq (m : IsL K L a xs) (h : SH L H) : SqL K H a xs := by
  rcases m with m | m | m
  · exact SqL.of (h.get m)
  · exact .inl (.inr ⟨_, h.get m⟩)
  · exact m H
theorem IsT.sq (m : IsT K L a xs) (h : SH L H) : SqT K H a xs := by
  rcases m with m | m
  · exact SqT.of (h.get m)
  · exact m H
theorem IsL.mono (m : IsL K L a xs) (s : L ⊆ L') : IsL K L' a xs := by
  rcases m with m | m | m
  · exact .here (s m)
  · exact .frz (s m)
  · exact .glob m
theorem IsT.mono (m : IsT K L a xs) (s : L ⊆ L') : IsT K L' a xs := by
  rcases m with m | m
  · exact .here (s m)
  · exact .glob m
inductive IsS (K : PySem.W.Frag) (L : Led) (a : Addr) (xs : List V) : Prop
  | lst : IsL K L a xs → IsS K L a xs
  | tup : IsT K L a xs → IsS K L a xs
theorem IsS.sq (m : IsS K L a xs) (h : SH L H) : SqL K H a xs ∨ SqT K H a xs := by
  rcases m with m | m
  · exact .inl (m.sq h)
  · exact .inr (m.sq h)
theorem IsS.mono (m : IsS K L a xs) (s : L ⊆ L') : IsS K L' a xs := by
  rcases m with m | m
  · exact .lst (m.mono s)
  · exact .tup (m.mono s)
theorem IsL.cons {x : Addr × HO} (m : IsL K L a xs) : IsL K (x :: L) a xs := m.mono (List.subset_cons_self _ _)
theorem IsT.cons {x : Addr × HO} (m : IsT K L a xs) : IsT K (x :: L) a xs := m.mono (List.subset_cons_self _ _)
theorem IsS.cons {x : Addr × HO} (m : IsS K L a xs) : IsS K (x :: L) a xs := m.mono (List.subset_cons_self _ _)
theorem IsL.app {A : Led} (m : IsL K L a xs) : IsL K (A ++ L) a xs := m.mono (List.subset_append_right _ _)
theorem IsT.app {A : Led} (m : IsT K L a xs) : IsT K (A ++ L) a xs := m.mono (List.subset_append_right _ _)
theorem IsS.app {A : Led} (m : IsS K L a xs) : IsS K (A ++ L) a xs := m.mono (List.subset_append_right _ _)
/-! data over a ledger -/
mutual
inductive Dl (K : PySem.W.Frag) (L : Led) : V → PyData → Prop
  | non : Dl K L .non .none
  | bl (b : Bool) : Dl K L (.bl b) (.bool b)
  | int (i : Int) : Dl K L (.int i) (.int i)
  | str (x : Str) : Dl K L (.str x) (.str x)
  | lst {a : Addr} {xs : List V} {ds : List PyData} : IsL K L a xs → DlAll K L xs ds → Dl K L (.ref a) (.list ds)
  | tup {a : Addr} {xs : List V} {ds : List PyData} : IsT K L a xs → DlAll K L xs ds → Dl K L (.ref a) (.tuple ds)
inductive DlAll (K : PySem.W.Frag) (L : Led) : List V → List PyData → Prop
  | nil : DlAll K L [] []
  | cons {v : V} {vs : List V} {d : PyData} {ds : List PyData} : Dl K L v d → DlAll K L vs ds → DlAll K L (v :: vs) (d :: ds)
end
mutual
theorem Dl.dp (h : SH L H) : ∀ {v : V} {d : PyData}, Dl K L v d → Dp K H v d
  | _, _, .non => .non
  | _, _, .bl b => .bl b
  | _, _, .int i => .int i
  | _, _, .str x => .str x
  | _, _, .lst m q => .lst (m.sq h) (DlAll.dp h q)
  | _, _, .tup m q => .tup (m.sq h) (DlAll.dp h q)
theorem DlAll.dp (h : SH L H) : ∀ {vs : List V} {ds : List PyData}, DlAll K L vs ds → DpAll K H vs ds
  | _, _, .nil => .nil
  | _, _, .cons q r => .cons (Dl.dp h q) (DlAll.dp h r)
end
mutual
theorem Dl.mono (s : L ⊆ L') : ∀ {v : V} {d : PyData}, Dl K L v d → Dl K L' v d
  | _, _, .non => .non
  | _, _, .bl b => .bl b
  | _, _, .int i => .int i
  | _, _, .str x => .str x
  | _, _, .lst m q => .lst (m.mono s) (DlAll.mono s q)
  | _, _, .tup m q => .tup (m.mono s) (DlAll.mono s q)
theorem DlAll.mono (s : L ⊆ L') : ∀ {vs : List V} {ds : List PyData}, DlAll K L vs ds → DlAll K L' vs ds
  | _, _, .nil => .nil
  | _, _, .cons q r => .cons (Dl.mono s q) (DlAll.mono s r)
end
theorem DlAll.strs : ∀ ss : List Str, DlAll K L (ss.map V.str) (ss.map PyData.str)
  | [] => .nil
  | x :: r => .cons (.str x) (DlAll.strs r)
theorem DlAll.ints : ∀ ss : List Int, DlAll K L (ss.map V.int) (ss.map PyData.int)
  | [] => .nil
  | x :: r => .cons (.int x) (DlAll.ints r)
end
end G

namespace G
open PySem PySem.Spec PyProof.Rows L2

/-! ### operators by values -/
def CDiv (i j : Int) : Prop := 0 < j ∧ j < 1073741824
def rAdd (K : PySem.W.Frag) : R2 := fun x y H Q => (rI0 (fun i j => .int (i + j)) x y H Q) ∨ (∃ i j, x = .str i ∧ y = .str j ∧ i.length + j.length ≤ sizeLine ∧ Q (.str (i ++ j)) H) ∨ rCat x y H Q ∨ rCatA K x y H Q
def rSub : R2 := rI0 fun i j => .int (i - j)
def rMul : R2 := fun x y H Q => rI CMul (fun i j => .int (i * j)) x y H Q ∨ rRep x y H Q
def rFdv : R2 := rI L2.CDiv fun i j => .int (i / j)
def rMod : R2 := rI (fun _ j => 0 < j) fun i j => .int (i % j)
def rPow : R2 := rI CPow fun i j => .int (i ^ j.toNat)
def rNeg : V → Hp → VK → Prop := rU fun i => .int (-i)
def rEq (K : PySem.W.Frag) : R2 := fun x y H Q => L2.rEq x y H Q ∨ rEqD K x y H Q
def rNe (K : PySem.W.Frag) : R2 := fun x y H Q => L2.rNe x y H Q ∨ rNeD K x y H Q
def rLt : R2 := rI0 fun i j => .bl (decide (i < j))
def rLe : R2 := rI0 fun i j => .bl (decide (i ≤ j))
def rGt : R2 := rI0 fun i j => .bl (decide (j < i))
def rGe : R2 := rI0 fun i j => .bl (decide (j ≤ i))
def rIsN : R2 := fun x y H Q => y = .non ∧ Q (.bl (decide (x = .non))) H
def rNotN : R2 := fun x y H Q => y = .non ∧ Q (.bl (!decide (x = .non))) H
def rIs : R2 := fun x y H Q => rIsN x y H Q ∨ ∃ a b, x = .bl a ∧ y = .bl b ∧ Q (.bl (decide (a = b))) H
def rIsNot : R2 := fun x y H Q => rNotN x y H Q ∨ ∃ a b, x = .bl a ∧ y = .bl b ∧ Q (.bl (!decide (a = b))) H
def rInSg (neg : Bool) : R2 := fun x y H Q => ∃ (c : Nat) (z : Str), x = .str ⟨#[c]⟩ ∧ y = .str z ∧ Q (.bl (if neg then !decide (c ∈ z.cps.toList) else decide (c ∈ z.cps.toList))) H
def rIn (K : PySem.W.Frag) : R2 := fun x y H Q => L2.rIn K false x y H Q ∨ rInSg false x y H Q
def rNin (K : PySem.W.Frag) : R2 := fun x y H Q => L2.rIn K true x y H Q ∨ rInSg true x y H Q
section
variable {X : Cx}
theorem op_add : OpR X (binaryOp .Add) (rAdd X.K) := L2.op_add.or (op_add_str.or (op_cat.or op_catA))
theorem op_sub : OpR X (binaryOp .Sub) rSub := L2.op_sub
theorem op_mul : OpR X (binaryOp .Mult) rMul := L2.op_mul.or op_rep
theorem op_fdv : OpR X (binaryOp .FloorDiv) rFdv := L2.op_fdiv
theorem op_mod : OpR X (binaryOp .Mod) rMod := L2.op_mod
theorem op_pow : OpR X (binaryOp .Pow) rPow := L2.op_pow
theorem un_neg : UnR X (unaryOp .USub) rNeg := L2.un_neg
theorem op_eq (hu : X.A.units + 64 < cLine) : OpR X (compareOp .Eq) (rEq X.K) := L2.op_eq.or (op_eqD hu)
theorem op_ne (hu : X.A.units + 64 < cLine) : OpR X (compareOp .NotEq) (rNe X.K) := L2.op_ne.or (op_neD hu)
theorem op_lt : OpR X (compareOp .Lt) rLt := L2.op_lt
theorem op_le : OpR X (compareOp .LtE) rLe := L2.op_le
theorem op_gt : OpR X (compareOp .Gt) rGt := L2.op_gt
theorem op_ge : OpR X (compareOp .GtE) rGe := L2.op_ge
theorem op_is : OpR X (compareOp .Is) rIs := op_isN.or op_is_bl
theorem op_isnot : OpR X (compareOp .IsNot) rIsNot := op_notN.or op_isnot_bl
theorem op_in : OpR X (compareOp .In) (rIn X.K) := op_in_seq.or (by
  intro pins s σ H x y v u Q I rx ry h
  obtain ⟨c, z, e1, e2, q⟩ := h
  exact op_in_sign pins s σ H x y v u Q I rx ry ⟨c, z, e1, e2, q⟩)
theorem op_nin : OpR X (compareOp .NotIn) (rNin X.K) := op_notIn_seq.or (by
  intro pins s σ H x y v u Q I rx ry h
  obtain ⟨c, z, e1, e2, q⟩ := h
  exact op_notIn_sign pins s σ H x y v u Q I rx ry ⟨c, z, e1, e2, q⟩)
end
/-! subscripts -/
def rIx (K : PySem.W.Frag) : R2 := L2.rIx K
theorem ix_seq {X : Cx} : IxR X (rIx X.K) := L2.ix_seq
def rSl (K : PySem.W.Frag) : V → Option Int → Option Int → Hp → VK → Prop := fun x lo hi H Q => rSlL K x lo hi H Q ∨ rSlA K x lo hi H Q ∨ rSlS x lo hi H Q
theorem sl_any {X : Cx} : SlR X (rSl X.K) := sl_list.or (sl_tupA.or sl_str)
/-! builtins -/
def rLen (K : PySem.W.Frag) : List V → Hp → VK → Prop := fun xs H Q => ∃ x n, xs = [x] ∧ LenV K x H n ∧ Q (.int n) H
theorem call_len {X : Cx} : CallR X (.builtin "len") (rLen X.K) := L2.call_len
def rInt : List V → Hp → VK → Prop := fun xs H Q => (∃ i, xs = [.int i] ∧ Q (.int i) H) ∨ ∃ k, xs = [.bl k] ∧ Q (.int (if k then 1 else 0)) H
theorem call_int {X : Cx} : CallR X (.type "int") rInt := call_int1
def rAbs : List V → Hp → VK → Prop := fun xs H Q => ∃ i, xs = [.int i] ∧ Q (.int (if i < 0 then -i else i)) H
theorem call_abs {X : Cx} : CallR X (.builtin "abs") rAbs := L2.call_abs
def rMax2 : List V → Hp → VK → Prop := fun xs H Q => ∃ i j, xs = [.int i, .int j] ∧ Q (.int (if j > i then j else i)) H
def rMin2 : List V → Hp → VK → Prop := fun xs H Q => ∃ i j, xs = [.int i, .int j] ∧ Q (.int (if j < i then j else i)) H
theorem call_max {X : Cx} (hc : X.calm = true) : CallR X (.builtin "max") rMax2 := call_max2 hc
theorem call_min {X : Cx} (hc : X.calm = true) : CallR X (.builtin "min") rMin2 := call_min2 hc
def rTuple (K : PySem.W.Frag) : List V → Hp → VK → Prop := fun xs H Q => ∃ p ys, xs = [.ref p] ∧ ((SqL K H p ys ∧ ∀ l, H l = none → Q (.ref l) (upd H l (.tup ys))) ∨ (SqT K H p ys ∧ Q (.ref p) H))
theorem call_tuple {X : Cx} : CallR X (.type "tuple") (rTuple X.K) := call_tuple_of
def rIsi (K : PySem.W.Frag) : List V → Hp → VK → Prop := fun xs H Q => L2.rIsi K xs H Q ∨ L2.rIsiT K xs H Q
theorem call_isi {X : Cx} : CallR X (.builtin "isinstance") (rIsi X.K) := L2.call_isi.or L2.call_isiT
end G

namespace G
open PySem PySem.Spec PyProof.Rows L2

/-- the row of one-letter texts -/
def sgns (x : Str) : List V := x.cps.toList.map fun c => V.str ⟨#[c]⟩
theorem call_listStr {X : Cx} (hc : X.calm = true) : CallR X (.type "list") (fun xs H Q => ∃ x, xs = [.str x] ∧ x.length ≤ sizeLine ∧ ∀ l, H l = none → Q (.ref l) (upd H l (.lst (sgns x)))) := by
  intro pins s σ H xs us Q I r h
  obtain ⟨x, rfl, hz, q⟩ := h
  obtain ⟨u, rfl, t, rfl⟩ := vals1 r
  refine call_list_str (I.ok.hd hc) x t (fun h' tk acc' c' hk hS hacc => ?_) hz
  have hv : Vals (sgns x) acc'.toList := by
    obtain ⟨hsz, hit⟩ := hacc
    refine vals_of_at ?_ fun j y u e1 e2 => ?_
    · unfold sgns
      rw [List.length_map, Array.length_toList, Array.length_toList, hsz]
    · unfold sgns at e1
      rw [List.getElem?_map] at e1
      obtain ⟨c, k, e3, e4⟩ := hit j u (by rw [← Array.getElem?_toList]; exact e2)
      rw [Array.getElem?_toList, e3] at e1
      cases e1
      rw [e4]
      exact ⟨k, rfl⟩
  exact ⟨.ref s.heap.objs.size, _, I.laid (t' := tk) hk (Nat.le_refl _) (show ObjOk X.prog X.w _ h' _ (.lst (sgns x)) from ⟨by unfold sgns; rw [List.length_map, Array.length_toList]; exact hz, acc'.toList, c', hv, by simpa using hS⟩), rfl, q _ (I.hok.fresh (Nat.le_refl _))⟩
def rList (K : PySem.W.Frag) : List V → Hp → VK → Prop := fun xs H Q => (∃ p ys, xs = [.ref p] ∧ (SqL K H p ys ∨ SqT K H p ys) ∧ ∀ l, H l = none → Q (.ref l) (upd H l (.lst ys))) ∨ (∃ x, xs = [.str x] ∧ x.length ≤ sizeLine ∧ ∀ l, H l = none → Q (.ref l) (upd H l (.lst (sgns x))))
theorem call_list {X : Cx} (hc : X.calm = true) : CallR X (.type "list") (rList X.K) := call_list_of.or (call_listStr hc)

/-! ### steps -/
/-- a new object of n places is let -/
def NewO (n : Nat) (o : HO) (H : Hp) (Q : VK) : Prop := n ≤ sizeLine ∧ ∀ p, H p = none → Q (.ref p) (upd H p o)
section
variable {K : PySem.W.Frag} {σ : St} {H : Hp} {Q : VK} {QB : Bool → Hp → Prop} {QA : List V → Hp → Prop} {L : Led} {D : Ends} {v x y : V} {i : Nat} {ta tb te : TE} {t u : TT} {tr : TA} {r : R2} {g : TG} {ts us : TS}
theorem st_var (h : σ[i]? = some (some v)) (q : Q v H) : tVar i σ H Q := ⟨v, h, q⟩
theorem st_c (q : Q v H) : tC v σ H Q := q
theorem st_op (q : ta σ H fun x H1 => tb σ H1 fun y H2 => r x y H2 Q) : tOp r ta tb σ H Q := q
theorem st_un {r : V → Hp → VK → Prop} (q : ta σ H fun x H1 => r x H1 Q) : tUn r ta σ H Q := q
theorem st_test (q : te σ H fun x H1 => ∃ k, x = .bl k ∧ QB k H1) : tTest te σ H QB := q
theorem st_B (q : te σ H fun x H1 => ∃ k, x = .bl k ∧ QB k H1) : tB te σ H QB := q
theorem st_bl {b : Bool} {Z : Bool → Prop} (q : Z b) : ∃ k, V.bl b = .bl k ∧ Z k := ⟨b, rfl, q⟩
theorem st_and (q : t σ H fun c H1 => if c = true then u σ H1 QB else QB false H1) : tAnd t u σ H QB := q
theorem st_or (q : t σ H fun c H1 => if c = true then QB true H1 else u σ H1 QB) : tOr t u σ H QB := q
theorem st_not (q : t σ H fun c H1 => QB (!c) H1) : tNot t σ H QB := q
theorem st_andV (q : ta σ H fun x H1 => ∃ c, x = .bl c ∧ if c = true then tb σ H1 Q else Q (.bl false) H1) : tAndV ta tb σ H Q := q
theorem st_orV (q : ta σ H fun x H1 => ∃ c, x = .bl c ∧ if c = true then Q (.bl true) H1 else tb σ H1 Q) : tOrV ta tb σ H Q := q
theorem st_notV (q : ta σ H fun x H1 => ∃ c, x = .bl c ∧ Q (.bl (!c)) H1) : tNotV ta σ H Q := q
theorem st_if (q : t σ H fun c H1 => if c = true then ta σ H1 Q else tb σ H1 Q) : tIf t ta tb σ H Q := q
theorem st_tup (q : tr σ H fun xs H1 => NewO xs.length (.tup xs) H1 Q) : tTup tr σ H Q := q
theorem st_lst (q : tr σ H fun xs H1 => NewO xs.length (.lst xs) H1 Q) : tLst tr σ H Q := q
theorem small_len {n : Nat} (h : n ≤ 1000) : n ≤ sizeLine := Nat.le_trans h (by decide)
theorem st_new {o : HO} (h : SH L H) (k : ∀ p H', SH ((p, o) :: L) H' → Q (.ref p) H') : ∀ p, H p = none → Q (.ref p) (upd H p o) := fun p hp => k p _ (h.new hp)
theorem st_newS {n : Nat} {o : HO} (hl : n ≤ 1000) (h : SH L H) (k : ∀ p H', SH ((p, o) :: L) H' → Q (.ref p) H') : NewO n o H Q := ⟨small_len hl, fun p hp => k p _ (h.new hp)⟩
theorem st_chain {r r' : R2} {tc : TE} (q : ta σ H fun x H1 => tb σ H1 fun y H2 => r x y H2 fun z H3 => ∃ k, z = .bl k ∧ (if k = true then tc σ H3 fun w' H4 => r' y w' H4 Q else Q (.bl false) H3)) : tChain r r' ta tb tc σ H Q := q
theorem st_fld {f : Str} (q : ta σ H fun x H1 => ∃ a C dx fs v, x = .ref a ∧ H1 a = some (.ins C dx fs) ∧ Cls K C ∧ NoAttr K C f ∧ fs.lookup f = some v ∧ Q v H1) : tFld K ta f σ H Q := q
theorem st_fldA {f : Str} {a C dx : Addr} {fs : List (Str × V)} (h : SH L H) (m : (a, HO.ins C dx fs) ∈ L) (c : Cls K C) (n : NoAttr K C f) (e : fs.lookup f = some v) (q : Q v H) : ∃ a' C' dx' fs' v', V.ref a = .ref a' ∧ H a' = some (.ins C' dx' fs') ∧ Cls K C' ∧ NoAttr K C' f ∧ fs'.lookup f = some v' ∧ Q v' H := ⟨a, C, dx, fs, v, rfl, h.get m, c, n, e, q⟩
theorem st_nil (q : QA [] H) : tNil σ H QA := q
theorem st_cons (q : te σ H fun x H1 => tr σ H1 fun xs H2 => QA (x :: xs) H2) : tCons te tr σ H QA := q
theorem st_cb {r : List V → Hp → VK → Prop} (q : tr σ H fun vs H1 => r vs H1 Q) : tCB r tr σ H Q := q
theorem st_call {sp : Sp} {dvs : List V} {E : XK} (q : tr σ H fun vs H1 => sp (vs ++ dvs) H1 Q E) : tCall sp dvs E tr σ H Q := q
/-! statements -/
inductive SetAt (v : V) : Nat → St → St → Prop
  | z {x : Option V} {σ : St} : SetAt v 0 (x :: σ) (some v :: σ)
  | s {x : Option V} {σ σ' : St} {i : Nat} : SetAt v i σ σ' → SetAt v (i + 1) (x :: σ) (x :: σ')
theorem SetAt.eq {σ' : St} (h : SetAt v i σ σ') : σ.set i (some v) = σ' := by
  induction h with
  | z => rfl
  | s _ ih => rw [List.set_cons_succ, ih]
variable {nx bk ct : St → Hp → Prop} {rt : VK}
theorem st_seq (q : ts ⟨us ⟨nx, rt, bk, ct⟩, rt, bk, ct⟩ σ H) : tSeq ts us ⟨nx, rt, bk, ct⟩ σ H := q
theorem st_next (q : nx σ H) : tNext ⟨nx, rt, bk, ct⟩ σ H := q
theorem st_drop (q : te σ H fun _ H1 => nx σ H1) : tDrop te ⟨nx, rt, bk, ct⟩ σ H := q
theorem st_ret (q : te σ H rt) : tRet te ⟨nx, rt, bk, ct⟩ σ H := q
theorem st_retN (q : rt .non H) : tRetN ⟨nx, rt, bk, ct⟩ σ H := q
theorem st_ifS {c : TT} (q : c σ H fun b H1 => if b = true then ts ⟨nx, rt, bk, ct⟩ σ H1 else us ⟨nx, rt, bk, ct⟩ σ H1) : tIfS c ts us ⟨nx, rt, bk, ct⟩ σ H := q
theorem st_asg (q : te σ H fun x H1 => g x σ H1 nx) : tAsg te g ⟨nx, rt, bk, ct⟩ σ H := q
theorem st_name {Qs : St → Hp → Prop} {σ' : St} (e : SetAt v i σ σ') (q : Qs σ' H) : gName i v σ H Qs := by
  show Qs (σ.set i (some v)) H
  rw [e.eq]
  exact q
theorem st_sub {tset : TSet} {Qs : St → Hp → Prop} (q : ta σ H fun o H1 => tb σ H1 fun j H2 => tset o j v H2 fun H3 => Qs σ H3) : gSub ta tb tset v σ H Qs := q
/-- a field is written: then Z -/
def FldP (K : PySem.W.Frag) (f : Str) (x y : V) (H : Hp) (Z : Hp → Prop) : Prop := ∃ a C dx fs, x = .ref a ∧ H a = some (.ins C dx fs) ∧ Cls K C ∧ NoAttr K C f ∧ fs.length < 1000 ∧ Z (upd H a (.ins C dx (putF f y fs)))
theorem st_sfld {f : Str} (q : tb σ H fun y H1 => ta σ H1 fun x H2 => FldP K f x y H2 fun H3 => nx σ H3) : sFld K ta tb f ⟨nx, rt, bk, ct⟩ σ H := q
theorem putF_new {f : Str} {v : V} : ∀ {fs : List (Str × V)}, fs.lookup f = none → putF f v fs = fs ++ [(f, v)]
  | [], _ => rfl
  | (g, x) :: r, h => by
    rw [List.lookup_cons] at h
    by_cases e : (f == g) = true
    · rw [e] at h
      cases h
    · rw [Bool.not_eq_true] at e
      rw [e] at h
      have ne : ¬ g = f := fun z => by rw [z, beq_self_eq_true] at e; cases e
      show (if g = f then _ else _) = _
      rw [if_neg ne, putF_new h]
      rfl
theorem st_sfldA {f : Str} {a C dx : Addr} {fs : List (Str × V)} {L' : Led} {Z : Hp → Prop} (h : SH L H) (m : (a, HO.ins C dx fs) ∈ L) (c : Cls K C) (n : NoAttr K C f) (hl : fs.length < 1000) (e : fs.lookup f = none) (rp : Rpl a (.ins C dx (fs ++ [(f, v)])) L L') (q : ∀ H', SH L' H' → Z H') : FldP K f (.ref a) v H Z := ⟨a, C, dx, fs, rfl, h.get m, c, n, hl, q _ (by rw [putF_new e]; exact h.wr rp)⟩
theorem st_blE {b b' : Bool} (q : Q (.bl b) H) (e : b = b') : Q (.bl b') H := e ▸ q
theorem st_break (q : bk σ H) : tBreak ⟨nx, rt, bk, ct⟩ σ H := q
theorem st_cont (q : ct σ H) : tCont ⟨nx, rt, bk, ct⟩ σ H := q
theorem st_tpar {j : Nat} (q : tr σ H fun vs H1 => ∃ v w, vs = [v, w] ∧ nx ((σ.set i (some v)).set j (some w)) H1) : tPar i j tr ⟨nx, rt, bk, ct⟩ σ H := q
theorem st_par {j : Nat} {v w : V} {σ1 σ2 : St} (e1 : SetAt v i σ σ1) (e2 : SetAt w j σ1 σ2) (q : nx σ2 H) : ∃ v' w', [v, w] = [v', w'] ∧ nx ((σ.set i (some v')).set j (some w')) H := ⟨v, w, rfl, by rw [e1.eq, e2.eq]; exact q⟩
theorem st_tpar3 {j l : Nat} (q : tr σ H fun vs H1 => ∃ u v w, vs = [u, v, w] ∧ nx (((σ.set i (some u)).set j (some v)).set l (some w)) H1) : tPar3 i j l tr ⟨nx, rt, bk, ct⟩ σ H := q
theorem st_par3 {j l : Nat} {u v w : V} {σ1 σ2 σ3 : St} (e1 : SetAt u i σ σ1) (e2 : SetAt v j σ1 σ2) (e3 : SetAt w l σ2 σ3) (q : nx σ3 H) : ∃ u' v' w', [u, v, w] = [u', v', w'] ∧ nx (((σ.set i (some u')).set j (some v')).set l (some w')) H := ⟨u, v, w, rfl, by rw [e1.eq, e2.eq, e3.eq]; exact q⟩
theorem st_gtup {n : Nat} {tgs : TGs} {a : Addr} {xs : List V} {Qs : St → Hp → Prop} (h : SH L H) (m : IsT K L a xs) (hl : xs.length = n) (q : tgs xs σ H Qs) : gTup K n tgs (.ref a) σ H Qs := ⟨a, xs, rfl, m.sq h, hl, q⟩
theorem st_gcons {tgs : TGs} {xs : List V} {Qs : St → Hp → Prop} (q : g x σ H fun σ' H' => tgs xs σ' H' Qs) : gCons g tgs (x :: xs) σ H Qs := ⟨x, xs, rfl, q⟩
theorem st_gnil {Qs : St → Hp → Prop} (q : Qs σ H) : gNil [] σ H Qs := ⟨rfl, q⟩
/-! ways -/
theorem ifT {c A B : Prop} [Decidable c] (hc : c) (h : A) : if c then A else B := by rw [if_pos hc]; exact h
theorem ifF {c A B : Prop} [Decidable c] (hc : ¬ c) (h : B) : if c then A else B := by rw [if_neg hc]; exact h
theorem ifD {c A B : Prop} [Decidable c] (h1 : c → A) (h2 : ¬ c → B) : if c then A else B := ite2 h1 h2
/-! values -/
theorem st_addI {i j : Int} (q : Q (.int (i + j)) H) : rAdd K (.int i) (.int j) H Q := .inl ⟨i, j, rfl, rfl, q⟩
theorem st_addS {a b : Str} (hz : a.length + b.length ≤ sizeLine) (q : Q (.str (a ++ b)) H) : rAdd K (.str a) (.str b) H Q := .inr (.inl ⟨a, b, rfl, rfl, hz, q⟩)
theorem st_addL {a b : Addr} {xs ys : List V} (h : SH L H) (ma : (a, HO.lst xs) ∈ L) (mb : (b, HO.lst ys) ∈ L) (hz : xs.length + ys.length ≤ sizeLine) (k : ∀ p H', SH ((p, .lst (xs ++ ys)) :: L) H' → Q (.ref p) H') : rAdd K (.ref a) (.ref b) H Q :=
  .inr (.inr (.inl ⟨a, b, xs, ys, rfl, rfl, h.get ma, h.get mb, hz, st_new h k⟩))
theorem st_sub_ {i j : Int} (q : Q (.int (i - j)) H) : rSub (.int i) (.int j) H Q := ⟨i, j, rfl, rfl, q⟩
theorem st_mulI {i j : Int} (hc : CMul i j) (q : Q (.int (i * j)) H) : rMul (.int i) (.int j) H Q := .inl ⟨i, j, rfl, rfl, hc, q⟩
theorem st_mulL {a : Addr} {xs : List V} {k : Int} (h : SH L H) (ma : (a, HO.lst xs) ∈ L) (h0 : -(2 ^ 63) ≤ k) (h1 : k < 2 ^ 63) (hz : xs.length * k.toNat ≤ sizeLine) (c : ∀ p H', SH ((p, .lst (List.replicate k.toNat xs).flatten) :: L) H' → Q (.ref p) H') : rMul (.ref a) (.int k) H Q :=
  .inr ⟨a, k, xs, rfl, rfl, h.get ma, h0, h1, hz, st_new h c⟩
theorem st_fdv {i j : Int} (h0 : 0 < j) (h1 : j < 1073741824) (q : Q (.int (i / j)) H) : rFdv (.int i) (.int j) H Q := ⟨i, j, rfl, rfl, ⟨h0, h1⟩, q⟩
theorem st_mod {i j : Int} (h0 : 0 < j) (q : Q (.int (i % j)) H) : rMod (.int i) (.int j) H Q := ⟨i, j, rfl, rfl, h0, q⟩
theorem st_pow {i j : Int} (hc : CPow i j) (q : Q (.int (i ^ j.toNat)) H) : rPow (.int i) (.int j) H Q := ⟨i, j, rfl, rfl, hc, q⟩
theorem st_neg {i : Int} (q : Q (.int (-i)) H) : rNeg (.int i) H Q := ⟨i, rfl, q⟩
theorem st_lt {i j : Int} (q : Q (.bl (decide (i < j))) H) : rLt (.int i) (.int j) H Q := ⟨i, j, rfl, rfl, q⟩
theorem st_le {i j : Int} (q : Q (.bl (decide (i ≤ j))) H) : rLe (.int i) (.int j) H Q := ⟨i, j, rfl, rfl, q⟩
theorem st_gt {i j : Int} (q : Q (.bl (decide (j < i))) H) : rGt (.int i) (.int j) H Q := ⟨i, j, rfl, rfl, q⟩
theorem st_ge {i j : Int} (q : Q (.bl (decide (j ≤ i))) H) : rGe (.int i) (.int j) H Q := ⟨i, j, rfl, rfl, q⟩
theorem st_eqI {i j : Int} (q : Q (.bl (decide (i = j))) H) : rEq K (.int i) (.int j) H Q := .inl ⟨rfl, by
  have e : decide (V.int i = V.int j) = decide (i = j) := by simp
  rw [e]; exact q⟩
theorem st_neI {i j : Int} (q : Q (.bl (!decide (i = j))) H) : rNe K (.int i) (.int j) H Q := .inl ⟨rfl, by
  have e : decide (V.int i = V.int j) = decide (i = j) := by simp
  rw [e]; exact q⟩
theorem st_eqS {i j : Str} (q : Q (.bl (decide (i = j))) H) : rEq K (.str i) (.str j) H Q := .inl ⟨rfl, by
  have e : decide (V.str i = V.str j) = decide (i = j) := by simp
  rw [e]; exact q⟩
theorem st_neS {i j : Str} (q : Q (.bl (!decide (i = j))) H) : rNe K (.str i) (.str j) H Q := .inl ⟨rfl, by
  have e : decide (V.str i = V.str j) = decide (i = j) := by simp
  rw [e]; exact q⟩
theorem st_eqB {i j : Bool} (q : Q (.bl (decide (i = j))) H) : rEq K (.bl i) (.bl j) H Q := .inl ⟨rfl, by
  have e : decide (V.bl i = V.bl j) = decide (i = j) := by simp
  rw [e]; exact q⟩
theorem st_neB {i j : Bool} (q : Q (.bl (!decide (i = j))) H) : rNe K (.bl i) (.bl j) H Q := .inl ⟨rfl, by
  have e : decide (V.bl i = V.bl j) = decide (i = j) := by simp
  rw [e]; exact q⟩
theorem st_eqV (hs : scal x y = true) (q : Q (.bl (decide (x = y))) H) : rEq K x y H Q := .inl ⟨hs, q⟩
theorem st_neV (hs : scal x y = true) (q : Q (.bl (!decide (x = y))) H) : rNe K x y H Q := .inl ⟨hs, q⟩
theorem st_eqD {d e : PyData} (h : SH L H) (hd : Dl K L x d) (he : Dl K L y e) (sd : SeqAt.shaped d = true) (se : SeqAt.shaped e = true) (q : Q (.bl (PyData.eqv d e)) H) : rEq K x y H Q := .inr ⟨d, e, hd.dp h, he.dp h, sd, se, q⟩
theorem st_neD {d e : PyData} (h : SH L H) (hd : Dl K L x d) (he : Dl K L y e) (sd : SeqAt.shaped d = true) (se : SeqAt.shaped e = true) (q : Q (.bl (!PyData.eqv d e)) H) : rNe K x y H Q := .inr ⟨d, e, hd.dp h, he.dp h, sd, se, q⟩
theorem st_isN (q : Q (.bl (decide (x = .non))) H) : rIs x .non H Q := .inl ⟨rfl, q⟩
theorem st_isnotN (q : Q (.bl (!decide (x = .non))) H) : rIsNot x .non H Q := .inl ⟨rfl, q⟩
theorem st_isB {a b : Bool} (q : Q (.bl (decide (a = b))) H) : rIs (.bl a) (.bl b) H Q := .inr ⟨a, b, rfl, rfl, q⟩
theorem st_isnotB {a b : Bool} (q : Q (.bl (!decide (a = b))) H) : rIsNot (.bl a) (.bl b) H Q := .inr ⟨a, b, rfl, rfl, q⟩
theorem st_inF {p : Addr} {xs : List V} (h : SH L H) (m : IsS K L p xs) (fx : flatV x = true) (fa : xs.all flatV = true) (q : Q (.bl (inV x xs)) H) : rIn K x (.ref p) H Q := .inl ⟨p, xs, rfl, m.sq h, fx, fa, q⟩
theorem st_ninF {p : Addr} {xs : List V} (h : SH L H) (m : IsS K L p xs) (fx : flatV x = true) (fa : xs.all flatV = true) (q : Q (.bl (!inV x xs)) H) : rNin K x (.ref p) H Q := .inl ⟨p, xs, rfl, m.sq h, fx, fa, q⟩
theorem st_inC {c : Nat} {z : Str} (q : Q (.bl (decide (c ∈ z.cps.toList))) H) : rIn K (.str ⟨#[c]⟩) (.str z) H Q := .inr ⟨c, z, rfl, rfl, q⟩
theorem st_ninC {c : Nat} {z : Str} (q : Q (.bl (!decide (c ∈ z.cps.toList))) H) : rNin K (.str ⟨#[c]⟩) (.str z) H Q := .inr ⟨c, z, rfl, rfl, q⟩
theorem st_ixL {p : Addr} {xs : List V} {i : Int} (h : SH L H) (m : IsL K L p xs) (ha : atI xs i = some v) (q : Q v H) : rIx K (.ref p) (.int i) H Q := .inl ⟨p, xs, i, v, rfl, rfl, m.sq h, ha, q⟩
theorem st_ixT {p : Addr} {xs : List V} {i : Int} (h : SH L H) (m : IsT K L p xs) (ha : atI xs i = some v) (q : Q v H) : rIx K (.ref p) (.int i) H Q := .inr (.inl ⟨p, xs, i, v, rfl, rfl, m.sq h, ha, q⟩)
theorem st_ixS {z : Str} {i : Int} {c : Nat} (hz : z.length ≤ sizeLine) (ha : atI z.cps.toList i = some c) (q : Q (.str ⟨#[c]⟩) H) : rIx K (.str z) (.int i) H Q := .inr (.inr ⟨z, i, c, rfl, rfl, hz, ha, q⟩)
theorem st_setL {p : Addr} {xs : List V} {k : Int} {j : Nat} {Qh : Hp → Prop} {L' : Led} (h : SH L H) (m : (p, HO.lst xs) ∈ L) (hi : ixN xs.length k = some j) (rp : Rpl p (.lst (xs.set j v)) L L') (q : ∀ H', SH L' H' → Qh H') : rSetL (.ref p) (.int k) v H Qh :=
  ⟨p, xs, k, j, rfl, rfl, h.get m, hi, q _ (h.wr rp)⟩
/-! slices -/
theorem st_sl {r : V → Option Int → Option Int → Hp → VK → Prop} {tl th : TO} (q : te σ H fun x H1 => tl σ H1 fun l H2 => th σ H2 fun u H3 => r x l u H3 Q) : tSl r te tl th σ H Q := q
theorem st_nopart {Qo : Option Int → Hp → Prop} (q : Qo none H) : tNoPart σ H Qo := q
theorem st_part {Qo : Option Int → Hp → Prop} (q : te σ H fun x H1 => ∃ i, x = .int i ∧ Qo (some i) H1) : tPart te σ H Qo := q
theorem st_partI {Z : Int → Prop} {i : Int} (q : Z i) : ∃ j, V.int i = .int j ∧ Z j := ⟨i, rfl, q⟩
theorem st_slL {p : Addr} {xs : List V} {lo hi : Option Int} (h : SH L H) (m : IsL K L p xs) (k : ∀ p H', SH ((p, .lst (cutV xs lo hi)) :: L) H' → Q (.ref p) H') : rSl K (.ref p) lo hi H Q := .inl ⟨p, xs, rfl, m.sq h, st_new h k⟩
theorem st_slT {p : Addr} {xs : List V} {lo hi : Option Int} (h : SH L H) (m : IsT K L p xs) (k1 : HT.sIx xs.length 0 lo = 0 ∧ HT.sIx xs.length xs.length hi = xs.length → Q (.ref p) H) (k : ∀ p H', SH ((p, .tup (cutV xs lo hi)) :: L) H' → Q (.ref p) H') : rSl K (.ref p) lo hi H Q :=
  .inr (.inl ⟨p, xs, rfl, m.sq h, k1, fun _ => st_new h k⟩)
theorem st_slS {z : Str} {lo hi : Option Int} (hz : z.length ≤ sizeLine) (q : Q (.str (cutS z lo hi)) H) : rSl K (.str z) lo hi H Q := .inr (.inr ⟨z, rfl, hz, q⟩)
/-! calls -/
theorem st_lenL {p : Addr} {xs : List V} (h : SH L H) (m : IsL K L p xs) (q : Q (.int xs.length) H) : rLen K [.ref p] H Q := ⟨_, _, rfl, .inl ⟨xs, m.sq h, rfl⟩, q⟩
theorem st_lenT {p : Addr} {xs : List V} (h : SH L H) (m : IsT K L p xs) (q : Q (.int xs.length) H) : rLen K [.ref p] H Q := ⟨_, _, rfl, .inr ⟨xs, m.sq h, rfl⟩, q⟩
theorem st_lenS {z : Str} (hz : z.length ≤ sizeLine) (q : Q (.int z.length) H) : rLen K [.str z] H Q := ⟨_, _, rfl, ⟨hz, rfl⟩, q⟩
theorem st_intI {i : Int} (q : Q (.int i) H) : rInt [.int i] H Q := .inl ⟨i, rfl, q⟩
theorem st_abs {i : Int} (q : Q (.int (if i < 0 then -i else i)) H) : rAbs [.int i] H Q := ⟨i, rfl, q⟩
theorem st_max2 {i j : Int} (q : Q (.int (if j > i then j else i)) H) : rMax2 [.int i, .int j] H Q := ⟨i, j, rfl, q⟩
theorem st_min2 {i j : Int} (q : Q (.int (if j < i then j else i)) H) : rMin2 [.int i, .int j] H Q := ⟨i, j, rfl, q⟩
theorem st_tupL {p : Addr} {xs : List V} (h : SH L H) (m : IsL K L p xs) (k : ∀ p H', SH ((p, .tup xs) :: L) H' → Q (.ref p) H') : rTuple K [.ref p] H Q := ⟨p, xs, rfl, .inl ⟨m.sq h, st_new h k⟩⟩
theorem st_tupT {p : Addr} {xs : List V} (h : SH L H) (m : IsT K L p xs) (q : Q (.ref p) H) : rTuple K [.ref p] H Q := ⟨p, xs, rfl, .inr ⟨m.sq h, q⟩⟩
theorem st_lstS {p : Addr} {xs : List V} (h : SH L H) (m : IsS K L p xs) (k : ∀ p H', SH ((p, .lst xs) :: L) H' → Q (.ref p) H') : rList K [.ref p] H Q := .inl ⟨p, xs, rfl, m.sq h, st_new h k⟩
theorem st_lstStr {z : Str} (h : SH L H) (hz : z.length ≤ sizeLine) (k : ∀ p H', SH ((p, .lst (sgns z)) :: L) H' → Q (.ref p) H') : rList K [.str z] H Q := .inr ⟨z, rfl, hz, st_new h k⟩
/-! isinstance -/
theorem st_isi {c : V} {t u : Value} {b : Bool} (k : ClsV c u) (ty : TyX K H x t) (e : PySem.W.kitOne K t u = some b) (q : Q (.bl b) H) : rIsi K [x, c] H Q := .inl ⟨x, c, t, u, b, rfl, k, ty, e, q⟩
theorem st_isiT {tp : Addr} {cs : List V} {t : Value} {us : List Value} {b : Bool} (h : SH L H) (m : (tp, HO.tup cs) ∈ L) (k : Paired ClsV cs us) (ty : TyX K H x t) (e : PySem.W.kitAny K t us = some b) (q : Q (.bl b) H) : rIsi K [x, .ref tp] H Q :=
  .inr ⟨x, tp, cs, t, us, b, rfl, h.get m, k, ty, e, q⟩
theorem st_isiI {c : String} {i : Int} {b : Bool} (e : PySem.W.kitOne K (.type "int") (.type c) = some b) (q : Q (.bl b) H) : rIsi K [.int i, .ty c] H Q := st_isi (.ty c) (.base (.int i)) e q
theorem st_isiS {c : String} {z : Str} {b : Bool} (e : PySem.W.kitOne K (.type "str") (.type c) = some b) (q : Q (.bl b) H) : rIsi K [.str z, .ty c] H Q := st_isi (.ty c) (.base (.str z)) e q
theorem st_isiB {c : String} {k b : Bool} (e : PySem.W.kitOne K (.type "bool") (.type c) = some b) (q : Q (.bl b) H) : rIsi K [.bl k, .ty c] H Q := st_isi (.ty c) (.base (.bl k)) e q
theorem st_isiN {c : String} {b : Bool} (e : PySem.W.kitOne K (.type "NoneType") (.type c) = some b) (q : Q (.bl b) H) : rIsi K [.non, .ty c] H Q := st_isi (.ty c) (.base .non) e q
theorem st_isiL {c : String} {p : Addr} {xs : List V} {b : Bool} (h : SH L H) (m : (p, HO.lst xs) ∈ L) (e : PySem.W.kitOne K (.type "list") (.type c) = some b) (q : Q (.bl b) H) : rIsi K [.ref p, .ty c] H Q := st_isi (.ty c) (.base (.lst (h.get m))) e q
theorem st_isiU {c : String} {p : Addr} {xs : List V} {b : Bool} (h : SH L H) (m : (p, HO.tup xs) ∈ L) (e : PySem.W.kitOne K (.type "tuple") (.type c) = some b) (q : Q (.bl b) H) : rIsi K [.ref p, .ty c] H Q := st_isi (.ty c) (.base (.tup (h.get m))) e q
theorem k_int_int : PySem.W.kitOne K (.type "int") (.type "int") = some true := rfl
theorem k_int_bool : PySem.W.kitOne K (.type "int") (.type "bool") = some false := rfl
theorem k_int_str : PySem.W.kitOne K (.type "int") (.type "str") = some false := rfl
theorem k_str_str : PySem.W.kitOne K (.type "str") (.type "str") = some true := rfl
theorem k_str_int : PySem.W.kitOne K (.type "str") (.type "int") = some false := rfl
theorem k_bool_int : PySem.W.kitOne K (.type "bool") (.type "int") = some true := rfl
theorem k_bool_bool : PySem.W.kitOne K (.type "bool") (.type "bool") = some true := rfl
theorem st_tys {z : Str} {Z : Prop} (q : Z) : tyV K "str" (.str z) H ∧ Z := ⟨rfl, q⟩
/-! methods of lists -/
theorem st_bm {T : String} {r : V → List V → Hp → VK → Prop} (q : ta σ H fun x H1 => tyV K T x H1 ∧ tr σ H1 fun xs H2 => r x xs H2 Q) : tBM K T r ta tr σ H Q := q
theorem st_bm0 {T : String} {r : V → List V → Hp → VK → Prop} (q : ta σ H fun x H1 => tyV K T x H1 ∧ r x [] H1 Q) : tBM0 K T r ta σ H Q := q
theorem ty_lst {p : Addr} {xs : List V} (h : SH L H) (m : (p, HO.lst xs) ∈ L) : tyV K "list" (.ref p) H := .inl ⟨rfl, _, SqL.of (h.get m)⟩
theorem st_tyl {p : Addr} {xs : List V} {Z : Prop} (h : SH L H) (m : (p, HO.lst xs) ∈ L) (q : Z) : tyV K "list" (.ref p) H ∧ Z := ⟨ty_lst h m, q⟩
theorem st_append {p : Addr} {xs : List V} {L' : Led} (h : SH L H) (m : (p, HO.lst xs) ∈ L) (hz : xs.length < sizeLine) (rp : Rpl p (.lst (xs ++ [v])) L L') (q : ∀ H', SH L' H' → Q .non H') : rAppend (.ref p) [v] H Q := ⟨p, xs, v, rfl, rfl, h.get m, hz, q _ (h.wr rp)⟩
theorem st_popAt {p : Addr} {xs : List V} {j : Int} {k : Nat} {L' : Led} (h : SH L H) (m : (p, HO.lst xs) ∈ L) (h0 : -(2 ^ 63) ≤ j) (h1 : j < 2 ^ 63) (hk : seqIndex? j xs.length = some k) (hv : xs[k]? = some v) (rp : Rpl p (.lst (xs.eraseIdx k)) L L') (q : ∀ H', SH L' H' → Q v H') : rPopAt (.ref p) [.int j] H Q :=
  ⟨p, xs, j, k, v, rfl, rfl, h.get m, h0, h1, hk, hv, q _ (h.wr rp)⟩
end
end G

namespace G
open PySem PySem.Spec PyProof.Rows L2

/-! ### names, constants -/
section
variable {X : Cx} {x : Str} {pos p1 p2 : Pos}
theorem pe_globI {i : Int} (hg : Gl X x) (h : ∃ t, X.mg x = some (.int i t)) (hd : (x == ("__debug__" : Str)) = false := by decide) : PE X (.Name x pos) (tC (.int i)) := by
  obtain ⟨t, h⟩ := h
  exact pe_glob hg h ⟨t, rfl⟩ hd
theorem pe_kpow {a b c : Int} {j1 j2 : Nat} (h : 0 ≤ b ∧ b ≤ 1000000 ∧ a.natAbs < 2 ^ 64) (e : a ^ b.toNat = c) : PE X (.BinOp (.Constant (.int a) j1 p1) .Pow (.Constant (.int b) j2 p2) pos) (tC (.int c)) := by
  have z := pe_op (pos := pos) (X := X) G.op_pow (pe_int (i := a) (j := j1) (pos := p1)) (pe_int (i := b) (j := j2) (pos := p2))
  exact ⟨fun pins s σ H Q I q => z.run pins s σ H Q I ⟨a, b, rfl, rfl, h, by show Q (.int (a ^ b.toNat)) H; rw [e]; exact q⟩⟩
end

/-! ### calls of the text's own defs -/
/-- the def at p keeps sp -/
def Ok (P : Program) (w : World) (K : PySem.W.Frag) (mg : Str → Option Value) (base : Heap) (k : Nat) (f : Addr) (ps : List Str) (dvs : List V) (sp : Sp) : Prop :=
  ∃ (fd : FuncData) (ds : List Value), FnOk P w K mg base (L2.CX P w) k f fd ps sp ∧ Binds K fd ps ds ∧ Vals dvs ds ∧ PySem.W.keepIn K (.ref f) = true
theorem Ok.mono {P : Program} {w : World} {K : PySem.W.Frag} {mg : Str → Option Value} {base : Heap} {j k : Nat} {f : Addr} {ps : List Str} {dvs : List V} {sp : Sp} (F : Ok P w K mg base j f ps dvs sp) (h : j ≤ k) : Ok P w K mg base k f ps dvs sp :=
  let ⟨fd, ds, a, b, c, d⟩ := F
  ⟨fd, ds, a.mono h, b, c, d⟩
abbrev wE (E : XK) : WX := fun cls d _ H => E cls d H
abbrev wN : WX := fun _ _ _ _ => False
def tCallG (sp : Sp) (dvs : List V) (W : WX) (t : TA) : TE := fun σ H Q => t σ H fun vs H1 => sp (vs ++ dvs) H1 Q (WE W σ)
def tMethG (C : Addr) (m : Str) (sp : Sp) (dvs : List V) (W : WX) (ta : TE) (t : TA) : TE := fun σ H Q => ta σ H fun x H1 => ∃ a dx fs, x = .ref a ∧ H1 a = some (.ins C dx fs) ∧ fs.lookup m = none ∧
  t σ H1 fun vs H2 => sp (x :: (vs ++ dvs)) H2 Q (WE W σ)
/-- an instance of C is laid: then Z -/
def MakeP (C : Addr) (H : Hp) (Z : Addr → Hp → Prop) : Prop := ∀ x dx, H x = none → H dx = none → dx ≠ x → Z x (upd (upd H dx (.own x)) x (.ins C dx []))
def tMakeG (C : Addr) (sp : Sp) (dvs : List V) (W : WX) (t : TA) : TE := fun σ H Q => t σ H fun vs H1 => ∀ x dx, H1 x = none → H1 dx = none → dx ≠ x →
  sp (.ref x :: (vs ++ dvs)) (upd (upd H1 dx (.own x)) x (.ins C dx [])) (fun v H2 => v = .non ∧ Q (.ref x) H2) (WE W σ)
theorem st_callG {sp : Sp} {dvs : List V} {W : WX} {t : TA} {σ : St} {H : Hp} {Q : VK} (q : t σ H fun vs H1 => sp (vs ++ dvs) H1 Q (WE W σ)) : tCallG sp dvs W t σ H Q := q
theorem st_methG {C : Addr} {m : Str} {sp : Sp} {dvs : List V} {W : WX} {ta : TE} {t : TA} {σ : St} {H : Hp} {Q : VK} (q : ta σ H fun x H1 => ∃ a dx fs, x = .ref a ∧ H1 a = some (.ins C dx fs) ∧ fs.lookup m = none ∧ t σ H1 fun vs H2 => sp (x :: (vs ++ dvs)) H2 Q (WE W σ)) : tMethG C m sp dvs W ta t σ H Q := q
theorem st_meth {C dx a : Addr} {m : Str} {fs : List (Str × V)} {Z : Prop} {H : Hp} {L : Led} (h : SH L H) (ma : (a, HO.ins C dx fs) ∈ L) (hn : fs.lookup m = none) (q : Z) : ∃ a' dx' fs', V.ref a = .ref a' ∧ H a' = some (.ins C dx' fs') ∧ fs'.lookup m = none ∧ Z := ⟨a, dx, fs, rfl, h.get ma, hn, q⟩
theorem st_makeG {C : Addr} {sp : Sp} {dvs : List V} {W : WX} {t : TA} {σ : St} {H : Hp} {Q : VK} (q : t σ H fun vs H1 => MakeP C H1 fun x H2 => sp (.ref x :: (vs ++ dvs)) H2 (fun v H3 => v = .non ∧ Q (.ref x) H3) (WE W σ)) : tMakeG C sp dvs W t σ H Q := q
theorem st_made {C : Addr} {H : Hp} {L : Led} {Z : Addr → Hp → Prop} (h : SH L H) (q : ∀ x dx H, SH ((x, HO.ins C dx []) :: L) H → Z x H) : MakeP C H Z := fun x dx h1 h2 h3 => q x dx _ (h.ins h1 h2 h3)
theorem st_nonE {Z : Prop} (q : Z) : V.non = V.non ∧ Z := ⟨rfl, q⟩
/-- two ways to one value -/
theorem st_cutE {c : Prop} [Decidable c] {ta tb : TE} {σ : St} {H : Hp} {Q : VK} (P : V → Hp → Prop) (h : ∀ Q' : VK, (∀ v H, P v H → Q' v H) → if c then ta σ H Q' else tb σ H Q') (hP : ∀ v H, P v H → Q v H) : if c then ta σ H Q else tb σ H Q := h Q hP
theorem st_cutS {c : Prop} [Decidable c] {ts us : TS} {σ : St} {H : Hp} {nx bk ct : St → Hp → Prop} {rt : VK} (P : St → Hp → Prop) (h : ∀ nx' : St → Hp → Prop, (∀ σ H, P σ H → nx' σ H) → if c then ts ⟨nx', rt, bk, ct⟩ σ H else us ⟨nx', rt, bk, ct⟩ σ H) (hP : ∀ σ H, P σ H → nx σ H) :
    if c then ts ⟨nx, rt, bk, ct⟩ σ H else us ⟨nx, rt, bk, ct⟩ σ H := h nx hP
section
variable {X : Cx} {k : Nat} {f C : Addr} {fd : FuncData} {ps : List Str} {sp : Sp} {dvs : List V} {ds : List Value} {W : WX} {x m : Str} {pn pos apos : Pos} {e o : Expr} {es : List Expr} {ta : TE} {t : TA}
theorem run_g {pins : List (Addr × Obj)} {σ : St} {H : Hp} {s : Shared} {Q : VK} {us : List Value} {vs : List V} {E : XK} (F : FnOk X.prog X.w X.K X.mg X.base (L2.CX X.prog X.w) k f fd ps sp) (hr : Room k X.A) (hb : Binds X.K fd ps ds) (hd : Vals dvs ds)
    (hx : PassesAt (L2.CX X.prog X.w) X σ E) (I : Inv X pins σ H s) (r : Vals vs us) (h : sp (vs ++ dvs) H Q E) : wpAny (model X.prog X.w) X.A (call (.ref f) us) (EP X pins σ Q) X.xe s := by
  have r2 : Vals (vs ++ dvs) (us ++ ds) := r.append hd
  have hl : (us ++ ds).length = ps.length := by rw [← r2.length]; exact F.len _ _ _ _ h
  refine wpAny_call (codeAny_mono (F.run X.A X.stack s H ⟨us, []⟩ (us ++ ds) (vs ++ dvs) Q E hr I.env0 (hb s us I.kIn hl) r2 h) fun r s' hq => ?_)
  cases r with
  | error e => exact hx pins H s e s' I hq
  | ok fl =>
    cases fl with
    | ret u => exact I.after hq
    | next => exact False.elim hq
    | brk => exact False.elim hq
    | cont => exact False.elim hq
theorem pe_callG (F : Ok X.prog X.w X.K X.mg X.base k f ps dvs sp) (hr : Room k X.A) (hg : Gl X x) (hm : X.mg x = some (.ref f)) (tk : Takes X W)
    (ha : PA X (e :: es) t) (hdb : (x == ("__debug__" : Str)) = false := by decide) (he : starEach (e :: es) X.env = (false, eval e X.env) :: starEach es X.env := by rfl) (hpl : (backTo pos (starEach es X.env)).any (·.1) = false := by rfl) :
    PE X (.Call (.Name x pn) (e :: es) [] pos) (tCallG sp dvs W t) := by
  obtain ⟨fd, ds, F, hb, hd, hk⟩ := F
  refine ⟨fun pins s σ H Q I h => ?_⟩
  refine wpAny_Call_Name_kw (ld_glob I hg hm ?_ hdb)
  refine PySem.W.callWith_K (h₀ := X.base) I.ok.mod.kin hk (thn (ha.run pos pins s σ H _ I h) fun us s1 ⟨vs, H1, I1, r, q⟩ => ⟨I1.kIn, ?_⟩) he hpl
  exact run_g F hr hb hd (passAt tk σ) I1 r q
theorem pe_callG0 (F : Ok X.prog X.w X.K X.mg X.base k f ps dvs sp) (hr : Room k X.A) (hg : Gl X x) (hm : X.mg x = some (.ref f)) (tk : Takes X W)
    (hdb : (x == ("__debug__" : Str)) = false := by decide) : PE X (.Call (.Name x pn) [] [] pos) (tCallG sp dvs W tNil) := by
  obtain ⟨fd, ds, F, hb, hd, hk⟩ := F
  refine ⟨fun pins s σ H Q I h => ?_⟩
  refine wpAny_Call_Name_kw (ld_glob I hg hm ?_ hdb)
  exact PySem.W.callWith_K0 I.kIn hk (run_g (us := []) F hr hb hd (passAt tk σ) I .nil h)
theorem pe_methG {pl : Sem Bool} (he : PE X o ta) (c : Cls X.K C) (hm : Meth X.K C m f) (F : Ok X.prog X.w X.K X.mg X.base k f ps dvs sp) (hr : Room k X.A) (tk : Takes X W) (ha : PA X (e :: es) t)
    (hst : starEach (e :: es) X.env = (false, eval e X.env) :: starEach es X.env := by rfl) (hpl : (backTo pos (starEach es X.env)).any (·.1) = false := by rfl)
    (ht : eval (.Call (.Attribute o m apos) (e :: es) [] pos) X.env = (do
      let ov ← eval o X.env
      standAt apos.atName
      let (f, first) ← holding [ov] (getMethod ov m pl)
      callWith pos f first (backTo pos (starEach (e :: es) X.env)) (backToKw pos (keywordEach [] X.env))) := by rfl) :
    PE X (.Call (.Attribute o m apos) (e :: es) [] pos) (tMethG C m sp dvs W ta t) := by
  obtain ⟨fd, ds, F, hb, hd, hk⟩ := F
  refine ⟨fun pins s σ H Q I h => ?_⟩
  refine PySem.W.methodCall_KW (pl := pl) (thn (he.run pins s σ H _ I h) fun u s1 ⟨x, H1, I1, rx, a, dx, fs, ex, ea, l, q⟩ => ?_) ht
  subst ex
  obtain rfl : u = Value.ref a := rx
  refine getmeth_ok I1 ea c hm l ?_
  refine PySem.W.callWith_K (first := [.ref a]) (h₀ := X.base) I.ok.mod.kin hm.kp (thn (ha.run pos pins s1 σ H1 _ I1 q) fun us s2 ⟨vs, H2, I2, r, q2⟩ => ⟨I2.kIn, ?_⟩) hst hpl
  exact run_g (us := .ref a :: us) (vs := .ref a :: vs) F hr hb hd (passAt tk σ) I2 (.cons rfl r) q2
theorem pe_methG0 {pl : Sem Bool} (he : PE X o ta) (c : Cls X.K C) (hm : Meth X.K C m f) (F : Ok X.prog X.w X.K X.mg X.base k f ps dvs sp) (hr : Room k X.A) (tk : Takes X W)
    (ht : eval (.Call (.Attribute o m apos) [] [] pos) X.env = (do
      let ov ← eval o X.env
      standAt apos.atName
      let (f, first) ← holding [ov] (getMethod ov m pl)
      callWith pos f first (backTo pos (starEach [] X.env)) (backToKw pos (keywordEach [] X.env))) := by rfl) :
    PE X (.Call (.Attribute o m apos) [] [] pos) (tMethG C m sp dvs W ta tNil) := by
  obtain ⟨fd, ds, F, hb, hd, hk⟩ := F
  refine ⟨fun pins s σ H Q I h => ?_⟩
  refine PySem.W.methodCall_KW (pl := pl) (thn (he.run pins s σ H _ I h) fun u s1 ⟨x, H1, I1, rx, a, dx, fs, ex, ea, l, q⟩ => ?_) ht
  subst ex
  obtain rfl : u = Value.ref a := rx
  refine getmeth_ok I1 ea c hm l ?_
  exact PySem.W.callWith_K0 (first := [.ref a]) I1.kIn hm.kp (run_g (us := [.ref a]) (vs := [.ref a]) F hr hb hd (passAt tk σ) I1 (.cons rfl .nil) q)
theorem run_makeG {pins : List (Addr × Obj)} {σ : St} {H : Hp} {s : Shared} {Q : VK} {us : List Value} {vs : List V} {E : XK} (M : Mk X.K C f) (F : FnOk X.prog X.w X.K X.mg X.base (L2.CX X.prog X.w) k f fd ps sp) (hr : Room (k + 1) X.A) (hb : Binds X.K fd ps ds) (hd : Vals dvs ds)
    (hx : ∀ H2 s2, Inv X pins σ H2 s2 → ∀ e s', L2.CX X.prog X.w X.stack H2 s2 E e s' → X.xe e s') (I : Inv X pins σ H s) (r : Vals vs us)
    (h : ∀ x dx, H x = none → H dx = none → dx ≠ x → sp (.ref x :: (vs ++ dvs)) (upd (upd H dx (.own x)) x (.ins C dx [])) (fun v H2 => v = .non ∧ Q (.ref x) H2) E) :
    wpAny (model X.prog X.w) X.A (call (.ref C) us) (EP X pins σ Q) X.xe s := by
  have hq := h (s.heap.objs.size + 1) s.heap.objs.size (I.hok.fresh (Nat.le_succ _)) (I.hok.fresh (Nat.le_refl _)) (Nat.ne_of_lt (Nat.lt_succ_self _))
  have I2 := Inv.made (C := C) I
  have r2 : Vals (V.ref (s.heap.objs.size + 1) :: (vs ++ dvs)) (Value.ref (s.heap.objs.size + 1) :: (us ++ ds)) := .cons rfl (r.append hd)
  have hl : (Value.ref (s.heap.objs.size + 1) :: us ++ ds).length = ps.length := by
    have e := r2.length
    rw [F.len _ _ _ _ hq] at e
    exact e.symm
  refine wpAny_call (make_map (f := f) I.kIn M.makes M.init (beq_iff_eq.mp M.fn) (codeAny_mono (F.run _ X.stack _ _ ⟨Value.ref (s.heap.objs.size + 1) :: us, []⟩ (Value.ref (s.heap.objs.size + 1) :: (us ++ ds)) _ _ E (hr.make C us [])
    (I2.env0.make C us []) (hb _ (Value.ref (s.heap.objs.size + 1) :: us) I2.kIn hl) r2 hq) fun r s' hq' => ?_))
  cases r with
  | error e => exact hx _ _ I2 e s' hq'
  | ok fl =>
    cases fl with
    | ret u =>
      obtain ⟨v, H', I3, rv, ev, q3⟩ := I2.after hq'
      subst ev
      exact ⟨rv, ⟨V.ref (s.heap.objs.size + 1), H', I3, rfl, q3⟩⟩
    | next => exact False.elim hq'
    | brk => exact False.elim hq'
    | cont => exact False.elim hq'
theorem pe_makeG (M : Mk X.K C f) (F : Ok X.prog X.w X.K X.mg X.base k f ps dvs sp) (hr : Room (k + 1) X.A) (hg : Gl X x) (hm : X.mg x = some (.ref C)) (tk : Takes X W)
    (ha : PA X (e :: es) t) (hdb : (x == ("__debug__" : Str)) = false := by decide) (he : starEach (e :: es) X.env = (false, eval e X.env) :: starEach es X.env := by rfl) (hpl : (backTo pos (starEach es X.env)).any (·.1) = false := by rfl) :
    PE X (.Call (.Name x pn) (e :: es) [] pos) (tMakeG C sp dvs W t) := by
  obtain ⟨fd, ds, F, hb, hd, hk⟩ := F
  refine ⟨fun pins s σ H Q I h => ?_⟩
  refine wpAny_Call_Name_kw (ld_glob I hg hm ?_ hdb)
  refine PySem.W.callWith_K (h₀ := X.base) I.ok.mod.kin M.kp (thn (ha.run pos pins s σ H _ I h) fun us s1 ⟨vs, H1, I1, r, q⟩ => ⟨I1.kIn, ?_⟩) he hpl
  exact run_makeG M F hr hb hd (fun H2 s2 I2 e s' c => passAt tk σ pins H2 s2 e s' I2 c) I1 r q
end

/-! ### a def, by its body -/
section
variable {P : Program} {w : World} {K : PySem.W.Frag} {mg : Str → Option Value} {base : Heap}
abbrev cxG (P : Program) (w : World) (K : PySem.W.Frag) (mg : Str → Option Value) (base : Heap) (N : List Str) (qual : Str) (scope : Scope) (f : Addr) (cdv : Value) (A : Around) (outer : List Env) (s : Shared) (H : Hp) (E : XK) : Cx :=
  cxOf (L2.CX P w) P w K mg base N qual scope f cdv A outer s H E
theorem takesE {N : List Str} {qual : Str} {scope : Scope} {f : Addr} {cdv : Value} {A : Around} {outer : List Env} {s : Shared} {H : Hp} {E : XK} : Takes (cxG P w K mg base N qual scope f cdv A outer s H E) (wE E) := takes_of rfl rfl rfl rfl
theorem ownE {N : List Str} {qual : Str} {scope : Scope} {f : Addr} {cdv : Value} {A : Around} {outer : List Env} {s : Shared} {H : Hp} {E : XK} : PassesOwn (model P w) (cxG P w K mg base N qual scope f cdv A outer s H E).A (cxG P w K mg base N qual scope f cdv A outer s H E).env (cxG P w K mg base N qual scope f cdv A outer s H E).xe := passes_of rfl
theorem Ok.mk {N ps : List Str} {k : Nat} {sp : Sp} {x qual : Str} {st : Stmt} {f : Addr}
    (F : ∃ fd, FunD K x qual (defArgs st) (defBody st) (defScope st) [] [] f fd) (S : FnScope N ps (defScope st)) (len : ∀ vs H Q E, sp vs H Q E → vs.length = ps.length)
    (bind : ∀ (kV doc pm : Value) (an : Option Addr) (cdv ct : Value) (us : List Value), us.length = ps.length → bindArgs (PySem.W.fnOf x qual (defArgs st) (defBody st) (defScope st) .none kV doc pm an cdv ct) ⟨us, []⟩ = pure (ps.zip us))
    (body : ∀ (cdv : Value) (A : Around) (outer : List Env) (s : Shared) (H : Hp) (vs : List V) (Q : VK) (E : XK), Room k (A.deeper (envOfC qual (defScope st) s.heap.objs.size f cdv)) → sp vs H Q E →
      ∃ t, PSs (cxG P w K mg base N qual (defScope st) f cdv A outer s H E) (defBody st) t ∧ t { nx := fun _ H' => Q .non H', rt := Q } (start N vs) H) : Ok P w K mg base (k + 1) f ps [] sp := by
  obtain ⟨fd, F⟩ := F
  exact ⟨fd, [], F.ok S len body, F.bindsN bind, .nil, F.kp⟩
end

/-! ### loops and comprehensions, over the ledger -/
def iSeq (K : PySem.W.Frag) (tl : TE) : TI := fun σ H R => tl σ H fun x H1 => (∃ a, x = .ref a ∧ (∃ xs, SqL K H1 a xs) ∧ R (Itl K a) H1) ∨ (∃ a, x = .ref a ∧ (∃ xs, SqT K H1 a xs) ∧ R (Itt K a) H1)
theorem pi_seq {X : Cx} {tg l : Expr} {tl : TE} (hl : PE X l tl) : PI X tg l (iSeq X.K tl) := by
  refine ⟨fun pins s σ H R I h => ?_⟩
  refine thn (hl.run pins s σ H _ I h) fun v s1 ⟨x, H1, I1, r1, q1⟩ => ?_
  rcases q1 with ⟨a, e, ⟨xs, hq⟩, q⟩ | ⟨a, e, ⟨xs, hq⟩, q⟩
  · subst e
    cases r1
    obtain ⟨its, rv, p, hz⟩ := I1.list hq
    refine wpAny_pyIter_list p.isList ?_
    refine ⟨s1.heap.objs.size, [s1.heap.objs.size], _, _, H1, rfl, I1.kept (t' := s1.toks) fun b o e => Heap.get?_push_of_some _ e, turn_list a _, ⟨_, Heap.get?_push_size _ rfl, rfl, rfl⟩, fun b hb => ?_, q⟩
    have e : b = s1.heap.objs.size := by simpa using hb
    subst e
    exact I1.fpOk (Nat.le_refl _) (I1.hok.fresh (Nat.le_refl _))
  · subst e
    cases r1
    obtain ⟨its, rv, p, hz⟩ := I1.tuple hq
    refine wpAny_pyIter_tuple (show s1.heap.IsTuple a its.toArray from p) ?_
    refine ⟨s1.heap.objs.size, [s1.heap.objs.size], _, _, H1, rfl, I1.kept (t' := s1.toks) fun b o e => Heap.get?_push_of_some _ e, turn_tuple a _, ⟨_, Heap.get?_push_size _ rfl, rfl, rfl⟩, fun b hb => ?_, q⟩
    have e : b = s1.heap.objs.size := by simpa using hb
    subst e
    exact I1.fpOk (Nat.le_refl _) (I1.hok.fresh (Nat.le_refl _))
/-- the loop behind its iterator -/
def ForP (J : It) (g : TG) (tb : TS) (nx : St → Hp → Prop) (rt : VK) (σ : St) (H : Hp) : Prop := ∃ W : Nat → Nat → St → Hp → Prop, (∃ m, W 0 m σ H) ∧ ∀ i m σ H, W i m σ H →
  (J.stop i H ∧ nx σ H) ∨ (J.go i H ∧ ∃ N : St → Hp → Prop, (∀ σ' H', N σ' H' → ∃ m', m' < m ∧ W (i + 1) m' σ' H') ∧ ∀ x H', J.yld i H x H' → g x σ H' fun σ2 H2 => tb ⟨N, rt, nx, N⟩ σ2 H2)
section
variable {K : PySem.W.Frag} {σ : St} {H : Hp} {L : Led} {g : TG} {tb : TS} {nx bk ct : St → Hp → Prop} {rt : VK} {wi : TI} {xs : List V} {a : Addr}
theorem st_for (q : wi σ H fun J H1 => ForP J g tb nx rt σ H1) : tFor wi g tb ⟨nx, rt, bk, ct⟩ σ H := q
theorem st_seqL {Z1 Z2 : Addr → Prop} (h : SH L H) (m : IsL K L a xs) (q : Z1 a) : (∃ b, V.ref a = .ref b ∧ (∃ xs, SqL K H b xs) ∧ Z1 b) ∨ (∃ b, V.ref a = .ref b ∧ (∃ xs, SqT K H b xs) ∧ Z2 b) := .inl ⟨a, rfl, ⟨xs, m.sq h⟩, q⟩
theorem st_seqT {Z1 Z2 : Addr → Prop} (h : SH L H) (m : IsT K L a xs) (q : Z2 a) : (∃ b, V.ref a = .ref b ∧ (∃ xs, SqL K H b xs) ∧ Z1 b) ∨ (∃ b, V.ref a = .ref b ∧ (∃ xs, SqT K H b xs) ∧ Z2 b) := .inr ⟨a, rfl, ⟨xs, m.sq h⟩, q⟩
theorem st_iseq {te : TE} {R : It → Hp → Prop} (q : te σ H fun x H1 => (∃ a, x = .ref a ∧ (∃ xs, SqL K H1 a xs) ∧ R (Itl K a) H1) ∨ (∃ a, x = .ref a ∧ (∃ xs, SqT K H1 a xs) ∧ R (Itt K a) H1)) : iSeq K te σ H R := q
theorem st_irng1 {ta : TA} {R : It → Hp → Prop} (q : ta σ H fun vs H1 => ∃ j : Int, vs = [.int j] ∧ -(2 ^ 62) ≤ j ∧ j < 2 ^ 62 ∧ R (Itr 0 j.toNat) H1) : iRng1 ta σ H R := q
theorem st_rng1 {Z : Int → Prop} {j : Int} (h0 : -(2 ^ 62) ≤ j) (h1 : j < 2 ^ 62) (q : Z j) : ∃ i : Int, [V.int j] = [.int i] ∧ -(2 ^ 62) ≤ i ∧ i < 2 ^ 62 ∧ Z i := ⟨j, rfl, h0, h1, q⟩
theorem st_irng2 {ta : TA} {R : It → Hp → Prop} (q : ta σ H fun vs H1 => ∃ i j : Int, vs = [.int i, .int j] ∧ (-(2 ^ 62) ≤ i ∧ i < 2 ^ 62 ∧ -(2 ^ 62) ≤ j ∧ j < 2 ^ 62) ∧ R (Itr i (j - i).toNat) H1) : iRng2 ta σ H R := q
theorem st_rng2 {Z : Int → Int → Prop} {i j : Int} (h : -(2 ^ 62) ≤ i ∧ i < 2 ^ 62 ∧ -(2 ^ 62) ≤ j ∧ j < 2 ^ 62) (q : Z i j) : ∃ i' j' : Int, [V.int i, V.int j] = [.int i', .int j'] ∧ (-(2 ^ 62) ≤ i' ∧ i' < 2 ^ 62 ∧ -(2 ^ 62) ≤ j' ∧ j' < 2 ^ 62) ∧ Z i' j' := ⟨i, j, rfl, h, q⟩
theorem st_ienum {ta : TA} {R : It → Hp → Prop} (q : ta σ H fun vs H1 => ∃ a xs, vs = [.ref a] ∧ SqL K H1 a xs ∧ R (Ite K a) H1) : iEnum K ta σ H R := q
theorem st_enum {Z : Addr → Prop} (h : SH L H) (m : IsL K L a xs) (q : Z a) : ∃ b ys, [V.ref a] = [.ref b] ∧ SqL K H b ys ∧ Z b := ⟨a, xs, rfl, m.sq h, q⟩
theorem st_izip {ta : TA} {R : It → Hp → Prop} (q : ta σ H fun vs H1 => ∃ a b xs ys, vs = [.ref a, .ref b] ∧ SqL K H1 a xs ∧ SqL K H1 b ys ∧ R (Itz K a b) H1) : iZip K ta σ H R := q
theorem st_zip {Z : Addr → Addr → Prop} {b : Addr} {ys : List V} (h : SH L H) (m : IsL K L a xs) (m' : IsL K L b ys) (q : Z a b) : ∃ a' b' xs ys, [V.ref a, V.ref b] = [.ref a', .ref b'] ∧ SqL K H a' xs ∧ SqL K H b' ys ∧ Z a' b' := ⟨a, b, xs, ys, rfl, m.sq h, m'.sq h, q⟩
/-- what holds between two turns: Iv by the turn, the slots, the ledger -/
abbrev Nx (Iv : Nat → St → Led → Prop) (i : Nat) : St → Hp → Prop := fun σ H => ∃ L, Iv i σ L ∧ SH L H
theorem fp_range {lo : Int} {n : Nat} (Iv : Nat → St → Led → Prop) (hS : SH L H) (h0 : Iv 0 σ L)
    (hs : ∀ i σ L H, i < n → Iv i σ L → SH L H → g (.int (lo + (i : Int))) σ H fun σ2 H2 => tb ⟨Nx Iv (i + 1), rt, nx, Nx Iv (i + 1)⟩ σ2 H2) (hd : ∀ σ L H, Iv n σ L → SH L H → nx σ H) : ForP (Itr lo n) g tb nx rt σ H := by
  refine ⟨fun i m σ H => m = n - i ∧ i ≤ n ∧ Nx Iv i σ H, ⟨n, by simp, Nat.zero_le _, L, h0, hS⟩, ?_⟩
  rintro i m σ H ⟨rfl, hi, L, p, h⟩
  by_cases hlt : i < n
  · refine .inr ⟨hlt, Nx Iv (i + 1), fun σ' H' p' => ⟨n - (i + 1), by omega, rfl, hlt, p'⟩, fun x H' y => ?_⟩
    obtain ⟨e, y⟩ := y
    subst e y
    exact hs i σ L _ hlt p h
  · have e : i = n := by omega
    subst e
    exact .inl ⟨Nat.le_refl _, hd σ L H p h⟩
theorem fp_list (xs : List V) (Iv : Nat → St → Led → Prop) (hS : SH L H) (h0 : Iv 0 σ L) (hl : ∀ i σ L, Iv i σ L → IsL K L a xs)
    (hs : ∀ i x σ L H, xs[i]? = some x → Iv i σ L → SH L H → g x σ H fun σ2 H2 => tb ⟨Nx Iv (i + 1), rt, nx, Nx Iv (i + 1)⟩ σ2 H2) (hd : ∀ σ L H, Iv xs.length σ L → SH L H → nx σ H) : ForP (Itl K a) g tb nx rt σ H := by
  refine ⟨fun i m σ H => m = xs.length - i ∧ i ≤ xs.length ∧ Nx Iv i σ H, ⟨xs.length, by simp, Nat.zero_le _, L, h0, hS⟩, ?_⟩
  rintro i m σ H ⟨rfl, hi, L, p, h⟩
  have q := (hl i σ L p).sq h
  by_cases hlt : i < xs.length
  · refine .inr ⟨⟨xs, xs[i], q, by simp [hlt]⟩, Nx Iv (i + 1), fun σ' H' p' => ⟨xs.length - (i + 1), by omega, rfl, hlt, p'⟩, fun x H' y => ?_⟩
    obtain ⟨e, y⟩ := y
    subst e
    exact hs i x σ L _ (y xs q) p h
  · have e : i = xs.length := by omega
    subst e
    exact .inl ⟨⟨xs, q, Nat.le_refl _⟩, hd σ L H p h⟩
/-- a loop that leaves the ledger -/
abbrev KeepL (L : Led) (Sv : Nat → St → Prop) : Nat → St → Led → Prop := fun i σ L' => Sv i σ ∧ L' = L
theorem fp_listC (xs : List V) (Sv : Nat → St → Prop) (hS : SH L H) (m : IsL K L a xs) (h0 : Sv 0 σ)
    (hs : ∀ i x σ H, xs[i]? = some x → Sv i σ → SH L H → g x σ H fun σ2 H2 => tb ⟨Nx (KeepL L Sv) (i + 1), rt, nx, Nx (KeepL L Sv) (i + 1)⟩ σ2 H2) (hd : ∀ σ H, Sv xs.length σ → SH L H → nx σ H) : ForP (Itl K a) g tb nx rt σ H :=
  fp_list xs (KeepL L Sv) hS ⟨h0, rfl⟩ (fun i σ L' p => p.2 ▸ m) (fun i x σ L' H hx p h => hs i x σ H hx p.1 (p.2 ▸ h)) (fun σ L' H p h => hd σ H p.1 (p.2 ▸ h))
/-- .. and changes its own slot alone -/
theorem fp_list1 (xs : List V) (k : Nat) (hS : SH L H) (m : IsL K L a xs) (t0 : Option V) (e0 : σ[k]? = some t0)
    (hs : ∀ i x t H, xs[i]? = some x → SH L H → g x (σ.set k t) H fun σ2 H2 => tb ⟨Nx (KeepL L fun _ σ' => ∃ t, σ' = σ.set k t) (i + 1), rt, nx, Nx (KeepL L fun _ σ' => ∃ t, σ' = σ.set k t) (i + 1)⟩ σ2 H2) (hd : ∀ t H, SH L H → nx (σ.set k t) H) : ForP (Itl K a) g tb nx rt σ H :=
  fp_listC xs (fun _ σ' => ∃ t, σ' = σ.set k t) hS m ⟨t0, by
    obtain ⟨h, e⟩ := List.getElem?_eq_some_iff.mp e0
    rw [← e, List.set_getElem_self]⟩ (fun i x σ' H hx ⟨t, e⟩ h => e ▸ hs i x t H hx h) (fun σ' H ⟨t, e⟩ h => e ▸ hd t H h)
theorem fp_tup (xs : List V) (Iv : Nat → St → Led → Prop) (hS : SH L H) (h0 : Iv 0 σ L) (hl : ∀ i σ L, Iv i σ L → IsT K L a xs)
    (hs : ∀ i x σ L H, xs[i]? = some x → Iv i σ L → SH L H → g x σ H fun σ2 H2 => tb ⟨Nx Iv (i + 1), rt, nx, Nx Iv (i + 1)⟩ σ2 H2) (hd : ∀ σ L H, Iv xs.length σ L → SH L H → nx σ H) : ForP (Itt K a) g tb nx rt σ H := by
  refine ⟨fun i m σ H => m = xs.length - i ∧ i ≤ xs.length ∧ Nx Iv i σ H, ⟨xs.length, by simp, Nat.zero_le _, L, h0, hS⟩, ?_⟩
  rintro i m σ H ⟨rfl, hi, L, p, h⟩
  have q := (hl i σ L p).sq h
  by_cases hlt : i < xs.length
  · refine .inr ⟨⟨xs, xs[i], q, by simp [hlt]⟩, Nx Iv (i + 1), fun σ' H' p' => ⟨xs.length - (i + 1), by omega, rfl, hlt, p'⟩, fun x H' y => ?_⟩
    obtain ⟨e, y⟩ := y
    subst e
    exact hs i x σ L _ (y xs q) p h
  · have e : i = xs.length := by omega
    subst e
    exact .inl ⟨⟨xs, q, Nat.le_refl _⟩, hd σ L H p h⟩
theorem fp_enum (xs : List V) (Iv : Nat → St → Led → Prop) (hS : SH L H) (h0 : Iv 0 σ L) (hl : ∀ i σ L, Iv i σ L → IsL K L a xs)
    (hs : ∀ i x σ L H T, xs[i]? = some x → Iv i σ L → SH ((T, .tup [.int (i : Int), x]) :: L) H → g (.ref T) σ H fun σ2 H2 => tb ⟨Nx Iv (i + 1), rt, nx, Nx Iv (i + 1)⟩ σ2 H2) (hd : ∀ σ L H, Iv xs.length σ L → SH L H → nx σ H) : ForP (Ite K a) g tb nx rt σ H := by
  refine ⟨fun i m σ H => m = xs.length - i ∧ i ≤ xs.length ∧ Nx Iv i σ H, ⟨xs.length, by simp, Nat.zero_le _, L, h0, hS⟩, ?_⟩
  rintro i m σ H ⟨rfl, hi, L, p, h⟩
  have q := (hl i σ L p).sq h
  by_cases hlt : i < xs.length
  · refine .inr ⟨⟨xs, xs[i], q, by simp [hlt]⟩, Nx Iv (i + 1), fun σ' H' p' => ⟨xs.length - (i + 1), by omega, rfl, hlt, p'⟩, fun v H' y => ?_⟩
    obtain ⟨T, x, rfl, hT, rfl, y⟩ := y
    exact hs i x σ L _ T (y xs q) p (h.new hT)
  · have e : i = xs.length := by omega
    subst e
    exact .inl ⟨⟨xs, q, Nat.le_refl _⟩, hd σ L H p h⟩
theorem fp_zip {b : Addr} (xs ys : List V) (n : Nat) (hn : n = min xs.length ys.length) (Iv : Nat → St → Led → Prop) (hS : SH L H) (h0 : Iv 0 σ L) (hl : ∀ i σ L, Iv i σ L → IsL K L a xs ∧ IsL K L b ys)
    (hs : ∀ i x y σ L H T, xs[i]? = some x → ys[i]? = some y → Iv i σ L → SH ((T, .tup [x, y]) :: L) H → g (.ref T) σ H fun σ2 H2 => tb ⟨Nx Iv (i + 1), rt, nx, Nx Iv (i + 1)⟩ σ2 H2) (hd : ∀ σ L H, Iv n σ L → SH L H → nx σ H) : ForP (Itz K a b) g tb nx rt σ H := by
  refine ⟨fun i m σ H => m = n - i ∧ i ≤ n ∧ Nx Iv i σ H, ⟨n, by simp, Nat.zero_le _, L, h0, hS⟩, ?_⟩
  rintro i m σ H ⟨rfl, hi, L, p, h⟩
  have q := (hl i σ L p).1.sq h
  have q' := (hl i σ L p).2.sq h
  by_cases hlt : i < n
  · have l1 : i < xs.length := by omega
    have l2 : i < ys.length := by omega
    refine .inr ⟨⟨xs, ys, xs[i], ys[i], q, q', by simp [l1], by simp [l2]⟩, Nx Iv (i + 1), fun σ' H' p' => ⟨n - (i + 1), by omega, rfl, hlt, p'⟩, fun v H' y => ?_⟩
    obtain ⟨T, x, y, rfl, hT, rfl, hx, hy⟩ := y
    exact hs i x y σ L _ T (hx xs q) (hy ys q') p (h.new hT)
  · have e : i = n := by omega
    subst e
    exact .inl ⟨⟨xs, ys, q, q', by omega⟩, hd σ L H p h⟩
/-- a comprehension behind its iterator -/
def LcP (J : It) (g : TG) (tt : TT) (te : TE) (vs : List Nat) (σ : St) (H1 : Hp) (Q : VK) : Prop := ∀ D, H1 D = none → ∃ W : Nat → Nat → Hp → Prop, (∃ m, W 0 m (upd H1 D (.lst []))) ∧ ∀ i m H, W i m H →
  (J.stop i H ∧ Q (.ref D) H) ∨ (J.go i H ∧ ∃ Nx : Hp → Prop, (∀ H', Nx H' → ∃ m', m' < m ∧ W (i + 1) m' H') ∧ ∀ x H', J.yld i H x H' → g x (wipe σ vs) H' fun σ2 H2 => wipe σ2 vs = wipe σ vs ∧ tt σ2 H2 fun b H3 =>
    if b = true then te σ2 H3 fun y H4 => ∃ acc, H4 D = some (.lst acc) ∧ acc.length < sizeLine ∧ Nx (upd H4 D (.lst (acc ++ [y]))) else Nx H3)
theorem st_lc {tt : TT} {te : TE} {vs : List Nat} {Q : VK} (q : wi σ H fun J H1 => LcP J g tt te vs σ H1 Q) : tLc wi g tt te vs σ H Q := q
/-- one turn's end: the list so far at Dl, what else -/
def Ac (Iv : Nat → List V → Led → Prop) (Dl : Addr) (i : Nat) : Hp → Prop := fun H => ∃ acc L, Iv i acc L ∧ SH ((Dl, .lst acc) :: L) H
/-- y is put behind the list at Dl -/
def AcP (Iv : Nat → List V → Led → Prop) (Dl : Addr) (i : Nat) (y : V) (H : Hp) : Prop := ∃ acc, H Dl = some (.lst acc) ∧ acc.length < sizeLine ∧ Ac Iv Dl (i + 1) (upd H Dl (.lst (acc ++ [y])))
theorem ac_add {Iv : Nat → List V → Led → Prop} {Dl : Addr} {i : Nat} {acc : List V} {y : V} {R : Led} (h : SH L H) (pk : Pick (Dl, .lst acc) L R) (hz : acc.length < sizeLine) (p : Iv (i + 1) (acc ++ [y]) R) : AcP Iv Dl i y H :=
  ⟨acc, (h.pick pk).get List.mem_cons_self, hz, _, R, p, (h.pick pk).wr .here⟩
theorem ac_no {Iv : Nat → List V → Led → Prop} {Dl : Addr} {i : Nat} {acc : List V} (h : SH ((Dl, .lst acc) :: L) H) (p : Iv (i + 1) acc L) : Ac Iv Dl (i + 1) H := ⟨acc, L, p, h⟩
theorem lp_range {tt : TT} {te : TE} {vs : List Nat} {Q : VK} {lo : Int} {n : Nat} (Iv : Nat → List V → Led → Prop) {σ' : St} (hw : wipe σ vs = σ') (hS : SH L H) (h0 : Iv 0 [] L)
    (hs : ∀ i acc Dl L H, i < n → Iv i acc L → SH ((Dl, .lst acc) :: L) H → g (.int (lo + (i : Int))) σ' H fun σ2 H2 => wipe σ2 vs = σ' ∧ tt σ2 H2 fun b H3 =>
      if b = true then te σ2 H3 fun y H4 => AcP Iv Dl i y H4 else Ac Iv Dl (i + 1) H3)
    (hd : ∀ acc Dl L H, Iv n acc L → SH ((Dl, .lst acc) :: L) H → Q (.ref Dl) H) : LcP (Itr lo n) g tt te vs σ H Q := by
  subst hw
  intro Dl hD
  refine ⟨fun i m H => m = n - i ∧ i ≤ n ∧ Ac Iv Dl i H, ⟨n, by simp, Nat.zero_le _, [], L, h0, hS.new hD⟩, ?_⟩
  rintro i m H ⟨rfl, hi, acc, L, p, h⟩
  by_cases hlt : i < n
  · refine .inr ⟨hlt, Ac Iv Dl (i + 1), fun H' p' => ⟨n - (i + 1), by omega, rfl, hlt, p'⟩, fun x H' y => ?_⟩
    obtain ⟨e, y⟩ := y
    subst e y
    exact hs i acc Dl L _ hlt p h
  · have e : i = n := by omega
    subst e
    exact .inl ⟨Nat.le_refl _, hd acc Dl L H p h⟩
theorem lp_list {tt : TT} {te : TE} {vs : List Nat} {Q : VK} (xs : List V) (Iv : Nat → List V → Led → Prop) {σ' : St} (hw : wipe σ vs = σ') (hS : SH L H) (h0 : Iv 0 [] L) (hl : ∀ i acc L, Iv i acc L → IsL K L a xs)
    (hs : ∀ i x acc Dl L H, xs[i]? = some x → Iv i acc L → SH ((Dl, .lst acc) :: L) H → g x σ' H fun σ2 H2 => wipe σ2 vs = σ' ∧ tt σ2 H2 fun b H3 =>
      if b = true then te σ2 H3 fun y H4 => AcP Iv Dl i y H4 else Ac Iv Dl (i + 1) H3)
    (hd : ∀ acc Dl L H, Iv xs.length acc L → SH ((Dl, .lst acc) :: L) H → Q (.ref Dl) H) : LcP (Itl K a) g tt te vs σ H Q := by
  subst hw
  intro Dl hD
  refine ⟨fun i m H => m = xs.length - i ∧ i ≤ xs.length ∧ Ac Iv Dl i H, ⟨xs.length, by simp, Nat.zero_le _, [], L, h0, hS.new hD⟩, ?_⟩
  rintro i m H ⟨rfl, hi, acc, L, p, h⟩
  have q := (hl i acc L p).sq h.tail
  by_cases hlt : i < xs.length
  · refine .inr ⟨⟨xs, xs[i], q, by simp [hlt]⟩, Ac Iv Dl (i + 1), fun H' p' => ⟨xs.length - (i + 1), by omega, rfl, hlt, p'⟩, fun x H' y => ?_⟩
    obtain ⟨e, y⟩ := y
    subst e
    exact hs i x acc Dl L _ (y xs q) p h
  · have e : i = xs.length := by omega
    subst e
    exact .inl ⟨⟨xs, q, Nat.le_refl _⟩, hd acc Dl L H p h⟩
theorem lp_tup {tt : TT} {te : TE} {vs : List Nat} {Q : VK} (xs : List V) (Iv : Nat → List V → Led → Prop) {σ' : St} (hw : wipe σ vs = σ') (hS : SH L H) (h0 : Iv 0 [] L) (hl : ∀ i acc L, Iv i acc L → IsT K L a xs)
    (hs : ∀ i x acc Dl L H, xs[i]? = some x → Iv i acc L → SH ((Dl, .lst acc) :: L) H → g x σ' H fun σ2 H2 => wipe σ2 vs = σ' ∧ tt σ2 H2 fun b H3 =>
      if b = true then te σ2 H3 fun y H4 => AcP Iv Dl i y H4 else Ac Iv Dl (i + 1) H3)
    (hd : ∀ acc Dl L H, Iv xs.length acc L → SH ((Dl, .lst acc) :: L) H → Q (.ref Dl) H) : LcP (Itt K a) g tt te vs σ H Q := by
  subst hw
  intro Dl hD
  refine ⟨fun i m H => m = xs.length - i ∧ i ≤ xs.length ∧ Ac Iv Dl i H, ⟨xs.length, by simp, Nat.zero_le _, [], L, h0, hS.new hD⟩, ?_⟩
  rintro i m H ⟨rfl, hi, acc, L, p, h⟩
  have q := (hl i acc L p).sq h.tail
  by_cases hlt : i < xs.length
  · refine .inr ⟨⟨xs, xs[i], q, by simp [hlt]⟩, Ac Iv Dl (i + 1), fun H' p' => ⟨xs.length - (i + 1), by omega, rfl, hlt, p'⟩, fun x H' y => ?_⟩
    obtain ⟨e, y⟩ := y
    subst e
    exact hs i x acc Dl L _ (y xs q) p h
  · have e : i = xs.length := by omega
    subst e
    exact .inl ⟨⟨xs, q, Nat.le_refl _⟩, hd acc Dl L H p h⟩
end

theorem st_wip {σ σ' : St} {vs : List Nat} {Z : Prop} (e : wipe σ vs = σ') (q : Z) : wipe σ vs = σ' ∧ Z := ⟨e, q⟩
theorem st_yes {σ : St} {H : Hp} {Q : Bool → Hp → Prop} (q : Q true H) : tYes σ H Q := q
theorem ifTt {A B : Prop} (q : A) : if true = true then A else B := q
theorem ifFf {A B : Prop} (q : B) : if false = true then A else B := q
/-! ### small facts -/
theorem mem_cutV {xs : List V} {lo hi : Option Int} {x : V} (h : x ∈ cutV xs lo hi) : x ∈ xs := List.mem_of_mem_drop (List.mem_of_mem_take h)
theorem atI_of {α : Type} {xs : List α} {i : Int} (h0 : 0 ≤ i) (h1 : i < xs.length) : ∃ v, atI xs i = some v ∧ v ∈ xs := by
  obtain ⟨n, rfl⟩ := Int.eq_ofNat_of_zero_le h0
  have hn : n < xs.length := by omega
  exact ⟨xs[n], atI_nat (by simp [hn]), List.getElem_mem hn⟩
theorem mem_int {ns : List Int} {v : V} (h : v ∈ ns.map V.int) : ∃ i, v = .int i ∧ i ∈ ns := by
  obtain ⟨i, h1, h2⟩ := List.mem_map.mp h
  exact ⟨i, h2.symm, h1⟩
theorem mem_str {ns : List Str} {v : V} (h : v ∈ ns.map V.str) : ∃ i, v = .str i ∧ i ∈ ns := by
  obtain ⟨i, h1, h2⟩ := List.mem_map.mp h
  exact ⟨i, h2.symm, h1⟩

/-! ### texts by their signs -/
abbrev cs (x : Str) : List Nat := x.cps.toList
theorem cs_len (x : Str) : (cs x).length = x.length := Array.length_toList
theorem cs_app (x y : Str) : cs (x ++ y) = cs x ++ cs y := by
  show (x.cps ++ y.cps).toList = _
  exact Array.toList_append
theorem len_app (x y : Str) : (x ++ y).length = x.length + y.length := by rw [← cs_len, cs_app, List.length_append, cs_len, cs_len]
theorem cs_ext {x y : Str} (h : cs x = cs y) : x = y := by
  cases x
  cases y
  simp only [cs] at h
  congr
  exact Array.toList_inj.mp h
theorem cs_take {z : Str} {k : Int} (h0 : 0 ≤ k) (h1 : k ≤ z.length) : cs (cutS z none (some k)) = (cs z).take k.toNat := by
  obtain ⟨n, rfl⟩ := Int.eq_ofNat_of_zero_le h0
  have hn : n ≤ z.length := by omega
  show ((z.cps.toList.drop (HT.sIx z.length 0 none)).take (HT.sIx z.length z.length (some (n : Int)) - HT.sIx z.length 0 none)).toArray.toList = _
  rw [HT.sIx_none, HT.sIx_nat, Nat.min_eq_left hn]
  simp
theorem cs_drop {z : Str} {k : Int} (h0 : 0 ≤ k) (h1 : k ≤ z.length) : cs (cutS z (some k) none) = (cs z).drop k.toNat := by
  obtain ⟨n, rfl⟩ := Int.eq_ofNat_of_zero_le h0
  have hn : n ≤ z.length := by omega
  show ((z.cps.toList.drop (HT.sIx z.length 0 (some (n : Int)))).take (HT.sIx z.length z.length none - HT.sIx z.length 0 (some (n : Int)))).toArray.toList = _
  rw [HT.sIx_none, HT.sIx_nat, Nat.min_eq_left hn]
  have e : (z.cps.toList.drop n).length = z.length - n := by rw [List.length_drop, Array.length_toList]; rfl
  simp only [List.toList_toArray, Int.toNat_natCast]
  rw [← e, List.take_length]
theorem erase_map {α β : Type} (f : α → β) : ∀ (xs : List α) (k : Nat), (xs.map f).eraseIdx k = (xs.eraseIdx k).map f
  | [], _ => rfl
  | _ :: _, 0 => rfl
  | x :: xs, k + 1 => by
    show f x :: (xs.map f).eraseIdx k = f x :: (xs.eraseIdx k).map f
    rw [erase_map f xs k]
theorem erase_perm {α : Type} : ∀ (xs : List α) (k : Nat) (h : k < xs.length), (xs[k] :: xs.eraseIdx k).Perm xs
  | x :: xs, 0, _ => List.Perm.refl _
  | x :: xs, k + 1, h => (List.Perm.swap x _ _).trans (List.Perm.cons x (erase_perm xs k (Nat.lt_of_succ_lt_succ h)))
theorem not_inV {s : Str} {ss : List Str} (h : inV (.str s) (ss.map V.str) = false) : s ∉ ss := fun m => by
  have e := List.any_eq_false.mp h (.str s) (List.mem_map.mpr ⟨s, m, rfl⟩)
  exact e (by simp [eqV])
theorem flat_strs (ss : List Str) : (ss.map V.str).all flatV = true := by
  rw [List.all_eq_true]
  intro x m
  obtain ⟨s, _, rfl⟩ := List.mem_map.mp m
  rfl
end G

namespace G
open PySem PySem.Spec PyProof.Rows L2

/-! ### the head's facts -/
abbrev AlG : Type := He.AlD × Bool
def obsK (fa : List He.Fa) (fn : List He5.DefA) (ex : List (PySem.W.Frag → Bool)) (K : PySem.W.Frag) : AlG := (He5.obsA fa fn K, ex.all fun e => e K)
def obsG (n : Nat) (fa : List He.Fa) (fn : List He5.DefA) (ex : List (PySem.W.Frag → Bool)) (g : Addr → Option Obj) : AlG := obsK fa fn ex (He.frG g (He5.asA g n))
structure Says (fa : List He.Fa) (fn : List He5.DefA) (ex : List (PySem.W.Frag → Bool)) (K : PySem.W.Frag) : Prop where
  d : He5.SaysA fa fn K
  e : (ex.all fun e => e K) = true
def hook (n : Nat) (fa : List He.Fa) (fn : List He5.DefA) (ex : List (PySem.W.Frag → Bool)) : PySem.W.Hook where
  α := AlG
  obs := fun s => obsG n fa fn ex s.heap.get?
  val := fun _ => (He5.valA fn, true)
  says := fun _ h => ∃ K : PySem.W.Frag, K.In h ∧ Says fa fn ex K
  of := fun _ _ e => ⟨_, He.frG_in, congrArg (fun z : AlG => z.1) e, congrArg (fun z : AlG => z.2) e⟩
  keeps := fun _ _ _ ⟨K, hK, c⟩ k => ⟨K, PySem.W.Frag.In.keeps hK k, c⟩
theorem obsG_eq {n : Nat} {fa : List He.Fa} {fn : List He5.DefA} {ex : List (PySem.W.Frag → Bool)} {g : Addr → Option Obj} {s : Shared} (h : ∀ a, g a = s.heap.get? a) : obsG n fa fn ex g = (hook n fa fn ex).obs s := by
  have e : g = s.heap.get? := funext h
  rw [e] <;> rfl
section
variable {fa : List He.Fa} {fn : List He5.DefA} {ex : List (PySem.W.Frag → Bool)} {K : PySem.W.Frag} {h : Heap} {mg : Str → Option Value}
theorem Says.fact (c : Says fa fn ex K) (i : Nat) {f : He.Fa} (h : fa[i]? = some f := by rfl) : f.ok K = true := c.d.fact i h
theorem Says.glo (c : Says fa fn ex K) (X : K.In h) (Y : h.Ns mainGlobals mg) (i : Nat) {x : Str} (hx : fa[i]? = some (.glo x) := by rfl) : mg x = some (.ref (He.ga K x)) := He.glo_ok X Y (c.fact i hx)
theorem Says.free (c : Says fa fn ex K) (X : K.In h) (Y : h.Ns mainGlobals mg) (i : Nat) {x : Str} (hx : fa[i]? = some (.free x) := by rfl) : mg x = none := He.free_ok X Y (c.fact i hx)
theorem Says.int (c : Says fa fn ex K) (X : K.In h) (Y : h.Ns mainGlobals mg) (i : Nat) {x : Str} {n : Int} (hx : fa[i]? = some (.int x n) := by rfl) : ∃ t, mg x = some (.int n t) := He.int_ok X Y (c.fact i hx)
theorem Says.exi (c : Says fa fn ex K) (i : Nat) {e : PySem.W.Frag → Bool} (h : ex[i]? = some e := by rfl) : e K = true := List.all_eq_true.mp c.e e (List.mem_of_getElem? h)
end

/-! ### built-in names -/
theorem bt_int : bootBuiltins "int" = some (.type "int") := by decide +kernel
theorem bt_str : bootBuiltins "str" = some (.type "str") := by decide +kernel
theorem bt_bool : bootBuiltins "bool" = some (.type "bool") := by decide +kernel
theorem bt_list : bootBuiltins "list" = some (.type "list") := by decide +kernel
theorem bt_tuple : bootBuiltins "tuple" = some (.type "tuple") := by decide +kernel
theorem bt_dict : bootBuiltins "dict" = some (.type "dict") := by decide +kernel
theorem bt_len : bootBuiltins "len" = some (.builtin "len") := by decide +kernel
theorem bt_abs : bootBuiltins "abs" = some (.builtin "abs") := by decide +kernel
theorem bt_max : bootBuiltins "max" = some (.builtin "max") := by decide +kernel
theorem bt_min : bootBuiltins "min" = some (.builtin "min") := by decide +kernel
theorem bt_sum : bootBuiltins "sum" = some (.builtin "sum") := by decide +kernel
theorem bt_all : bootBuiltins "all" = some (.builtin "all") := by decide +kernel
theorem bt_any : bootBuiltins "any" = some (.builtin "any") := by decide +kernel
theorem bt_repr : bootBuiltins "repr" = some (.builtin "repr") := by decide +kernel
theorem bt_isinstance : bootBuiltins "isinstance" = some (.builtin "isinstance") := by decide +kernel
theorem bt_sorted : bootBuiltins "sorted" = some (.builtin "sorted") := by decide +kernel
theorem bt_iter : bootBuiltins "iter" = some (.builtin "iter") := by decide +kernel
theorem bt_ValueError : bootBuiltins "ValueError" = some (.type "ValueError") := by decide +kernel

/-! ### facts beyond Fa's -/
/-- C.f, C a class named x: the constant v -/
def cvalB (K : PySem.W.Frag) (x f : Str) (v : He.Dv) : Bool := (match PySem.W.findCls K (.ref (He.ga K x)) (.type "type") f with
    | some (.val u) => He.relB (v.v K) u
    | _ => false) && (PySem.W.readsIn K (He.ga K x) (.type "type") && decide (PySem.W.specialIn K (.ref (He.ga K x)) "__getattribute__" = some (some (.builtin "type.__getattribute__"))))
structure CCon (K : PySem.W.Frag) (x f : Str) (v : V) : Prop where
  rd : ClX.CRead K (He.ga K x) (.type "type")
  val : ∃ u, ClX.CVal K (He.ga K x) (.type "type") f v u
theorem cvalB_ok {K : PySem.W.Frag} {x f : Str} {v : He.Dv} (h : cvalB K x f v = true) : CCon K x f (v.v K) := by
  obtain ⟨h1, h2⟩ := He.ba h
  obtain ⟨h2, h3⟩ := He.ba h2
  refine ⟨⟨h2, of_decide_eq_true h3⟩, ?_⟩
  split at h1
  · rename_i u e
    exact ⟨u, e, He.relB_ok h1⟩
  · cases h1
theorem pe_ccon {X : Cx} {f x : Str} {pos p1 : Pos} {v : V} (hg : Gl X x) (hm : X.mg x = some (.ref (He.ga X.K x))) (c : CCon X.K x f v) (hdb : (x == ("__debug__" : Str)) = false := by decide)
    (hb : attributeBase (.Name x p1) f X.env (eval (.Name x p1) X.env) = eval (.Name x p1) X.env := by rfl) : PE X (.Attribute (.Name x p1) f pos) (tC v) := by
  obtain ⟨u, hv⟩ := c.val
  refine ⟨fun pins s σ H Q I q => (ClX.pe_cval (X := X) (pos := pos) (pe_glob (pos := p1) hg hm (v := .ref (He.ga X.K x)) rfl hdb) hb).run pins s σ H Q I ⟨He.ga X.K x, .type "type", v, u, rfl, c.rd, hv, q⟩⟩
end G
namespace G
open PySem PySem.Spec PyProof.Rows L2
def rIsascii : V → List V → Hp → VK → Prop := fun x xs H Q => ∃ a, x = .str a ∧ xs = [] ∧ True ∧ Q (.bl (Txt.isascii a)) H
def rIsalpha : V → List V → Hp → VK → Prop := fun x xs H Q => ∃ a, x = .str a ∧ xs = [] ∧ True ∧ Q (.bl (Txt.isalpha a)) H
def rIslower : V → List V → Hp → VK → Prop := fun x xs H Q => ∃ a, x = .str a ∧ xs = [] ∧ True ∧ Q (.bl (Txt.islower a)) H
end G
namespace G
open PySem PySem.Spec PyProof.Rows L2
/-! ### the end -/
theorem sql_led {K : PySem.W.Frag} {H : Hp} {a : Addr} {xs : List V} (h : SqL K H a xs) : ∃ L, SH L H ∧ IsL K L a xs := by
  have one : ∀ o : HO, H a = some o → SH [(a, o)] H := fun o g => ⟨fun m => by cases List.mem_singleton.mp m; exact g, List.nodup_cons.mpr ⟨by simp, List.nodup_nil⟩⟩
  rcases h with (g | ⟨o, g⟩) | g
  · exact ⟨_, one _ g, .here List.mem_cons_self⟩
  · exact ⟨_, one _ g, .frz List.mem_cons_self⟩
  · exact ⟨[], SH.nil, .glob fun H => .inr g⟩
theorem ok_end {P : Program} {w : World} {K : PySem.W.Frag} {mg : Str → Option Value} {base : Heap} {k : Nat} {f : Addr} {fd : FuncData} {ps : List Str} {sp : Sp} (F : FnOk P w K mg base (L2.CX P w) k f fd ps sp)
    (h : ∀ vs H Q E, sp vs H Q E → sp vs H Q fun _ _ _ => False) : FnOk P w K mg base (fun _ _ _ _ _ _ => False) k f fd ps sp :=
  ⟨F.len, fun A outer s H args us vs Q E hr he hb hv hs => codeAny_mono (F.run A outer s H args us vs Q (fun _ _ _ => False) hr he hb hv (h _ _ _ _ hs)) fun r s' q => match r, q with
    | .ok (.ret _), q => q
    | .ok .next, q => q
    | .ok .brk, q => q
    | .ok .cont, q => q
    | .error _, ⟨_, _, _, _, _, _, _, _, _, _, _, _, z⟩ => z⟩
/-- a law's own promise -/
def LawSp (K : PySem.W.Frag) : Sp := fun vs H Q _ => ∃ (a : Addr) (ns : List Int) (L : Led), vs = [.ref a] ∧ SH L H ∧ IsL K L a (ns.map V.int) ∧ ns.length ≤ 63 ∧ ∀ H', Q (.bl true) H'
theorem len_lawSp {K : PySem.W.Frag} (vs : List V) (H : Hp) (Q : VK) (E : XK) (h : LawSp K vs H Q E) : vs.length = 1 := by
  obtain ⟨a, ns, L, rfl, _⟩ := h
  rfl
theorem lawSp_of {K : PySem.W.Frag} {H : Hp} {a : Addr} {ns : List Int} {E : XK} (hl : ns.length ≤ 63) (h : SqL K H a (ns.map V.int)) : LawSp K [.ref a] H (fun v _ => v = .bl true) E := by
  obtain ⟨L, hS, m⟩ := sql_led h
  exact ⟨a, ns, L, rfl, hS, m, hl, fun _ => rfl⟩
end G
namespace G
open PySem PySem.Spec PyProof.Rows L2
section
variable {H : Hp} {Q : VK} {s : Str}
theorem st_isascii (q : Q (.bl (Txt.isascii s)) H) : rIsascii (.str s) [] H Q := ⟨s, rfl, rfl, True.intro, q⟩
theorem st_isalpha (q : Q (.bl (Txt.isalpha s)) H) : rIsalpha (.str s) [] H Q := ⟨s, rfl, rfl, True.intro, q⟩
theorem st_islower (q : Q (.bl (Txt.islower s)) H) : rIslower (.str s) [] H Q := ⟨s, rfl, rfl, True.intro, q⟩
/-- small letters of the twenty-six, some -/
def Low (s : Str) : Prop := ∀ c ∈ s.cps.toList, 97 ≤ c ∧ c ≤ 122
instance (s : Str) : Decidable (Low s) := by unfold Low; exact inferInstance
theorem Low.app {x y : Str} (h : Low x) (k : Low y) : Low (x ++ y) := fun c m => by
  rw [show (x ++ y).cps.toList = cs x ++ cs y from cs_app x y] at m
  exact (List.mem_append.mp m).elim (h c) (k c)
def alpha : List Nat := (List.range 26).map (· + 97)
def lowB (c : Nat) : Bool := decide (97 ≤ c) && decide (c ≤ 122)
theorem low_tab : ∀ c : Nat, c < 123 → 97 ≤ c → (decide (c < 128) && (Unicode.isAlpha c && (Unicode.isLower c && !(Unicode.isUpper c || Unicode.isTitle c)))) = true := by decide +kernel
theorem low_all {s : Str} (h : Low s) {p : Nat → Bool} (hp : ∀ c : Nat, c < 123 → 97 ≤ c → p c = true) : s.cps.all p = true := by
  rw [Array.all_eq_true_iff_forall_mem]
  intro c m
  obtain ⟨a, b⟩ := h c (Array.mem_toList_iff.mpr m)
  exact hp c (by omega) a
theorem low_ok {s : Str} (h : Low s) : PyData.strOk s = true := low_all h fun c a b => decide_eq_true (Nat.lt_trans a (by decide))
theorem low_ascii {s : Str} (h : Low s) : Txt.isascii s = true := low_all h fun c a b => by
  have := low_tab c a b
  simp only [Bool.and_eq_true] at this
  exact this.1
theorem low_alpha {s : Str} (h : Low s) (h1 : 1 ≤ s.length) : Txt.isalpha s = true := by
  unfold Txt.isalpha
  rw [low_all h fun c a b => by
    have := low_tab c a b
    simp only [Bool.and_eq_true] at this
    exact this.2.1]
  simp
  omega
theorem low_lower {s : Str} (h : Low s) (h1 : 1 ≤ s.length) : Txt.islower s = true := by
  unfold Txt.islower
  have e : (s.cps.any fun c => Unicode.isUpper c || Unicode.isTitle c) = false := by
    rw [Bool.eq_false_iff]
    intro z
    obtain ⟨c, m, q⟩ := Array.any_eq_true'.mp z
    obtain ⟨a, b⟩ := h c (Array.mem_toList_iff.mpr m)
    have := low_tab c (by omega) a
    simp only [Bool.and_eq_true, Bool.not_eq_true'] at this
    rw [this.2.2.2] at q
    cases q
  rw [e]
  have h0 : 0 < s.cps.size := h1
  have m : s.cps[0] ∈ s.cps := Array.getElem_mem h0
  obtain ⟨a, b⟩ := h _ (Array.mem_toList_iff.mpr m)
  have := low_tab s.cps[0] (by omega) a
  simp only [Bool.and_eq_true] at this
  have e2 : s.cps.any Unicode.isLower = true := Array.any_eq_true'.mpr ⟨_, m, this.2.2.1⟩
  rw [e2]
  rfl
theorem st_isasciiL (h : Low s) (q : Q (.bl true) H) : rIsascii (.str s) [] H Q := st_isascii (by rw [low_ascii h]; exact q)
theorem st_isalphaL (h : Low s) (h1 : 1 ≤ s.length) (q : Q (.bl true) H) : rIsalpha (.str s) [] H Q := st_isalpha (by rw [low_alpha h h1]; exact q)
theorem st_islowerL (h : Low s) (h1 : 1 ≤ s.length) (q : Q (.bl true) H) : rIslower (.str s) [] H Q := st_islower (by rw [low_lower h h1]; exact q)
end
end G

namespace L
open PySem PySem.Spec PyProof.Rows L2 G
abbrev PR : Program := PySem.Challenge.pw_coveredday_k02_orders_that_meet
def top (i : Nat) : Stmt := PR.main.body.getD i (.Pass ⟨0, 0, 0, 0⟩)
abbrev s_is_name : Stmt := top 9
abbrev N_is_name : List Str := ["thing"]
abbrev s_is_whole : Stmt := top 8
abbrev N_is_whole : List Str := ["thing", "low", "high"]
abbrev s_Order_init : Stmt := inClass (top 11) 2
abbrev N_Order_init : List Str := ["self", "member", "thing", "side", "count", "limit"]
abbrev s_law_bag : Stmt := top 14
abbrev N_law_bag : List Str := ["script", "at", "cell", "mixed", "k", "each"]
abbrev s_law_due : Stmt := top 20
abbrev N_law_due : List Str := ["one", "other"]
abbrev s_law_take : Stmt := top 15
abbrev N_law_take : List Str := ["bag", "many", "digit"]
abbrev s_law_far : Stmt := top 18
abbrev N_law_far : List Str := ["bag", "most", "value"]
abbrev s_law_of : Stmt := top 16
abbrev N_law_of : List Str := ["bag", "some"]
abbrev s_law_names : Stmt := top 17
abbrev N_law_names : List Str := ["bag", "many", "left", "found", "stem", "turn", "place", "one"]
abbrev s_law_row : Stmt := top 19
abbrev N_law_row : List Str := ["bag", "members", "things", "base", "limit", "side"]
abbrev s_meets : Stmt := top 12
abbrev N_meets : List Str := ["one", "other", "buying", "selling"]
abbrev s_law : Stmt := top 21
abbrev N_law : List Str := ["script", "at", "bag", "members", "things", "turn", "base", "rows", "one", "other", "due", "told", "each"]
/-! ### promises: the draws -/
def Bag (bag : Addr) (L : Led) (H : Hp) : Prop := ∃ a b : Int, SH ((bag, .lst [.int a, .int b]) :: L) H
def sp_law_bag (K : PySem.W.Frag) : Sp := fun vs H Q _ => ∃ (sc : Addr) (at_ : Int) (ns : List Int) (L : Led), vs = [.ref sc, .int at_] ∧ SH L H ∧ IsL K L sc (ns.map V.int) ∧ 0 ≤ at_ ∧ at_ < 64 ∧ ns.length ≤ 63 ∧
  ∀ bag H', Bag bag L H' → Q (.ref bag) H'
def sp_law_take (K : PySem.W.Frag) : Sp := fun vs H Q _ => ∃ (bag : Addr) (many : Int) (L : Led), vs = [.ref bag, .int many] ∧ Bag bag L H ∧ 0 < many ∧ many < 1073741824 ∧
  ∀ r H', 0 ≤ r → r < many → Bag bag L H' → Q (.int r) H'
def sp_law_of (K : PySem.W.Frag) : Sp := fun vs H Q _ => ∃ (bag p : Addr) (xs : List V) (L : Led), vs = [.ref bag, .ref p] ∧ Bag bag L H ∧ IsL K L p xs ∧ 0 < xs.length ∧ xs.length < 1000 ∧
  ∀ v H', v ∈ xs → Bag bag L H' → Q v H'
def sp_law_far (K : PySem.W.Frag) : Sp := fun vs H Q _ => ∃ (bag : Addr) (most : Int) (L : Led), vs = [.ref bag, .int most] ∧ Bag bag L H ∧ 0 ≤ most ∧
  ∀ r H', 0 ≤ r → r ≤ most → Bag bag L H' → Q (.int r) H'
structure Nm (s : Str) : Prop where
  lo : 1 ≤ s.length
  hi : s.length ≤ 12
  low : Low s
  nc : s ≠ "cash"
def sp_law_names (K : PySem.W.Frag) : Sp := fun vs H Q _ => ∃ (bag : Addr) (many : Int) (L : Led), vs = [.ref bag, .int many] ∧ Bag bag L H ∧ 0 ≤ many ∧ many ≤ 26 ∧
  ∀ p (ss : List Str) H', (ss.length : Int) = many → ss.Nodup → (∀ s ∈ ss, Nm s) → Bag bag ((p, .lst (ss.map V.str)) :: L) H' → Q (.ref p) H'
/-! ### promises: names, orders -/
def sp_is_name (K : PySem.W.Frag) : Sp := fun vs H Q _ => ∃ (s : Str) (L : Led), vs = [.str s] ∧ SH L H ∧ Low s ∧ 1 ≤ s.length ∧ s.length ≤ 12 ∧ Q (.bl true) H
def sp_is_whole (K : PySem.W.Frag) : Sp := fun vs H Q _ => ∃ (i lo hi : Int), vs = [.int i, .int lo, .int hi] ∧ lo ≤ i ∧ i ≤ hi ∧ Q (.bl true) H
/-- an order's row -/
structure Row where
  m : Str
  t : Str
  s : Str
  c : Int
  l : Int
structure Row.Ok (r : Row) : Prop where
  m : Nm r.m
  t : Nm r.t
  s : r.s = "buy" ∨ r.s = "sell"
  c : 1 ≤ r.c ∧ r.c ≤ 1000000
  l : -1000000000000 ≤ r.l ∧ r.l ≤ 1000000000000
abbrev Row.vs (r : Row) : List V := [.str r.m, .str r.t, .str r.s, .int r.c, .int r.l]
abbrev Row.fs (r : Row) : List (Str × V) := [("member", .str r.m), ("thing", .str r.t), ("side", .str r.s), ("count", .int r.c), ("limit", .int r.l)]
def due (a b : Row) : Bool := if a.m = b.m ∨ a.t ≠ b.t then false else if a.s = "buy" ∧ b.s = "sell" then decide (b.l ≤ a.l) else if a.s = "sell" ∧ b.s = "buy" then decide (a.l ≤ b.l) else false
def sp_Order_init (K : PySem.W.Frag) : Sp := fun vs H Q _ => ∃ (x dx : Addr) (r : Row) (L : Led), vs = .ref x :: r.vs ∧ SH ((x, .ins (He.ga K "Order") dx []) :: L) H ∧ r.Ok ∧ ∀ H', SH ((x, .ins (He.ga K "Order") dx r.fs) :: L) H' → Q .non H'
def sp_meets (K : PySem.W.Frag) : Sp := fun vs H Q _ => ∃ (x dx y dy : Addr) (r q : Row) (L : Led), vs = [.ref x, .ref y] ∧ SH L H ∧ (x, .ins (He.ga K "Order") dx r.fs) ∈ L ∧ (y, .ins (He.ga K "Order") dy q.fs) ∈ L ∧ r.Ok ∧ q.Ok ∧ ∀ H', SH L H' → Q (.bl (due r q)) H'
def sp_law_row (K : PySem.W.Frag) : Sp := fun vs H Q _ => ∃ (bag pm pt : Addr) (ms ts : List Str) (base : Int) (L : Led), vs = [.ref bag, .ref pm, .ref pt, .int base] ∧ Bag bag L H ∧ IsL K L pm (ms.map V.str) ∧ IsL K L pt (ts.map V.str) ∧
  0 < ms.length ∧ ms.length < 1000 ∧ 0 < ts.length ∧ ts.length < 1000 ∧ (∀ s ∈ ms, Nm s) ∧ (∀ s ∈ ts, Nm s) ∧ -900000000000 ≤ base ∧ base ≤ 900000000000 ∧
  ∀ p (r : Row) H', r.Ok → r.m ∈ ms → Bag bag ((p, .lst r.vs) :: L) H' → Q (.ref p) H'
def sp_law_due (K : PySem.W.Frag) : Sp := fun vs H Q _ => ∃ (x y : Addr) (r q : Row) (L : Led), vs = [.ref x, .ref y] ∧ SH L H ∧ IsL K L x r.vs ∧ IsL K L y q.vs ∧ r.Ok ∧ q.Ok ∧ ∀ H', SH L H' → Q (.bl (due r q)) H'
abbrev sp_law (K : PySem.W.Frag) : Sp := LawSp K
def t_is_name (K : PySem.W.Frag) (E : XK) : TS := (tSeq (tIfS (tOr (tNot (tB (tCB (G.rIsi K) (tCons (tVar 0) (tCons (tC (.ty "str")) tNil))))) (tNot (tTest (tChain G.rLe G.rLe (tC (.int 1)) (tCB (G.rLen K) (tCons (tVar 0) tNil)) (tC (.int (12))))))) (tRet (tC (.bl false))) tNext) (tRet (tAndV (tBM0 K "str" G.rIsascii (tVar 0)) (tAndV (tBM0 K "str" G.rIsalpha (tVar 0)) (tBM0 K "str" G.rIslower (tVar 0))))))
theorem st_is_name (v0 : V) : start N_is_name [v0] = [some v0] := rfl
def t_is_whole (K : PySem.W.Frag) (E : XK) : TS := (tRet (tAndV (tCB (G.rIsi K) (tCons (tVar 0) (tCons (tC (.ty "int")) tNil))) (tAndV (tNotV (tCB (G.rIsi K) (tCons (tVar 0) (tCons (tC (.ty "bool")) tNil)))) (tChain G.rLe G.rLe (tVar 1) (tVar 0) (tVar 2)))))
theorem st_is_whole (v0 v1 v2 : V) : start N_is_whole [v0, v1, v2] = [some v0, some v1, some v2] := rfl
def t_Order_init (K : PySem.W.Frag) (E : XK) : TS := (tSeq (tIfS (tNot (tB (tCallG (sp_is_name K) [] (wE E) (tCons (tVar 1) tNil)))) tNever tNext) (tSeq (tIfS (tOr (tNot (tB (tCallG (sp_is_name K) [] (wE E) (tCons (tVar 2) tNil)))) (tTest (tOp (G.rEq K) (tVar 2) (tC (.str "cash"))))) tNever tNext) (tSeq (tIfS (tOr (tNot (tB (tCB (G.rIsi K) (tCons (tVar 3) (tCons (tC (.ty "str")) tNil))))) (tTest (tOp (G.rNin K) (tVar 3) (tTup (tCons (tC (.str "buy")) (tCons (tC (.str "sell")) tNil)))))) tNever tNext) (tSeq (tIfS (tNot (tB (tCallG (sp_is_whole K) [] (wE E) (tCons (tVar 4) (tCons (tC (.int 1)) (tCons (tC (.int (1000000))) tNil)))))) tNever tNext) (tSeq (tIfS (tNot (tB (tCallG (sp_is_whole K) [] (wE E) (tCons (tVar 5) (tCons (tUn rNeg (tC (.int (1000000000000)))) (tCons (tC (.int (1000000000000))) tNil)))))) tNever tNext) (tSeq (sFld K (tVar 0) (tVar 1) "member") (tSeq (sFld K (tVar 0) (tVar 2) "thing") (tSeq (sFld K (tVar 0) (tVar 3) "side") (tSeq (sFld K (tVar 0) (tVar 4) "count") (sFld K (tVar 0) (tVar 5) "limit"))))))))))
theorem st_Order_init (v0 v1 v2 v3 v4 v5 : V) : start N_Order_init [v0, v1, v2, v3, v4, v5] = [some v0, some v1, some v2, some v3, some v4, some v5] := rfl
def t_law_bag_1 (K : PySem.W.Frag) (E : XK) : TS := (tAsg (tOp rMod (tCB G.rInt (tCons (tOp (rAdd K) (tOp (rAdd K) (tOp rMul (tVar 3) (tC (.int 40692))) (tOp rMod (tCB G.rInt (tCons (tVar 5) tNil)) (tC (.int 2147483399)))) (tOp rMul (tC (.int 457)) (tVar 4))) tNil)) (tC (.int 2147483563))) (gName 3))
def t_law_bag (K : PySem.W.Frag) (E : XK) : TS := (tSeq (tAsg (tIf (tTest (tOp G.rLt (tVar 1) (tCB (G.rLen K) (tCons (tVar 0) tNil)))) (tOp (G.rIx K) (tVar 0) (tVar 1)) (tC (.int 0))) (gName 2)) (tSeq (tAsg (tOp (rAdd K) (tOp rMul (tC (.int 4483)) (tVar 1)) (tC (.int 2029))) (gName 3)) (tSeq (tFor (iEnum K (tCons (tSl (G.rSl K) (tVar 0) tNoPart (tPart (tC (.int 60)))) tNil)) (gTup K 2 (gCons (gName 4) (gCons (gName 5) gNil))) (t_law_bag_1 K E)) (tRet (tLst (tCons (tIf (tTest (tOp G.rGe (tCB G.rAbs (tCons (tVar 2) tNil)) (tC (.int 1000000000000000000)))) (tCB G.rAbs (tCons (tVar 2) tNil)) (tC (.int 0))) (tCons (tVar 3) tNil)))))))
theorem st_law_bag (v0 v1 : V) : start N_law_bag [v0, v1] = [some v0, some v1, none, none, none, none] := rfl
def t_law_due (K : PySem.W.Frag) (E : XK) : TS := (tSeq (tIfS (tOr (tTest (tOp (G.rEq K) (tOp (G.rIx K) (tVar 0) (tC (.int 0))) (tOp (G.rIx K) (tVar 1) (tC (.int 0))))) (tTest (tOp (G.rNe K) (tOp (G.rIx K) (tVar 0) (tC (.int 1))) (tOp (G.rIx K) (tVar 1) (tC (.int 1)))))) (tRet (tC (.bl false))) tNext) (tSeq (tIfS (tAnd (tTest (tOp (G.rEq K) (tOp (G.rIx K) (tVar 0) (tC (.int 2))) (tC (.str "buy")))) (tTest (tOp (G.rEq K) (tOp (G.rIx K) (tVar 1) (tC (.int 2))) (tC (.str "sell"))))) (tRet (tOp G.rGe (tOp (G.rIx K) (tVar 0) (tC (.int 4))) (tOp (G.rIx K) (tVar 1) (tC (.int 4))))) tNext) (tSeq (tIfS (tAnd (tTest (tOp (G.rEq K) (tOp (G.rIx K) (tVar 0) (tC (.int 2))) (tC (.str "sell")))) (tTest (tOp (G.rEq K) (tOp (G.rIx K) (tVar 1) (tC (.int 2))) (tC (.str "buy"))))) (tRet (tOp G.rLe (tOp (G.rIx K) (tVar 0) (tC (.int 4))) (tOp (G.rIx K) (tVar 1) (tC (.int 4))))) tNext) (tRet (tC (.bl false))))))
theorem st_law_due (v0 v1 : V) : start N_law_due [v0, v1] = [some v0, some v1] := rfl
def t_law_take (K : PySem.W.Frag) (E : XK) : TS := (tSeq (tIfS (tTest (tOp G.rGt (tOp (G.rIx K) (tVar 0) (tC (.int 0))) (tC (.int 0)))) (tSeq (tAsg (tOp rMod (tCB G.rInt (tCons (tOp (G.rIx K) (tVar 0) (tC (.int 0))) tNil)) (tVar 1)) (gName 2)) (tSeq (tAsg (tOp rFdv (tOp (G.rIx K) (tVar 0) (tC (.int 0))) (tVar 1)) (gSub (tVar 0) (tC (.int 0)) rSetL)) (tRet (tVar 2)))) tNext) (tSeq (tAsg (tOp rMod (tCB G.rInt (tCons (tOp (rAdd K) (tOp rMul (tOp (G.rIx K) (tVar 0) (tC (.int 1))) (tC (.int 48271))) (tC (.int 60013))) tNil)) (tC (.int 2147483629))) (gSub (tVar 0) (tC (.int 1)) rSetL)) (tRet (tOp rMod (tOp rFdv (tOp rMod (tCB G.rInt (tCons (tOp rMul (tOp rFdv (tOp (G.rIx K) (tVar 0) (tC (.int 1))) (tC (.int 13))) (tC (.int 39373))) tNil)) (tC (.int 2147483647))) (tC (.int 64))) (tVar 1)))))
theorem st_law_take (v0 v1 : V) : start N_law_take [v0, v1] = [some v0, some v1, none] := rfl
def t_law_far (K : PySem.W.Frag) (E : XK) : TS := (tSeq (tAsg (tOp (rAdd K) (tOp (rAdd K) (tOp rMul (tCallG (sp_law_take K) [] (wE E) (tCons (tVar 0) (tCons (tC (.int 1000000)) tNil))) (tC (.int 1000000000000))) (tOp rMul (tCallG (sp_law_take K) [] (wE E) (tCons (tVar 0) (tCons (tC (.int 1000000)) tNil))) (tC (.int 1000000)))) (tCallG (sp_law_take K) [] (wE E) (tCons (tVar 0) (tCons (tC (.int 1000000)) tNil)))) (gName 2)) (tRet (tOp rMod (tVar 2) (tOp (rAdd K) (tVar 1) (tC (.int 1))))))
theorem st_law_far (v0 v1 : V) : start N_law_far [v0, v1] = [some v0, some v1, none] := rfl
def t_law_of (K : PySem.W.Frag) (E : XK) : TS := (tRet (tOp (G.rIx K) (tVar 1) (tCallG (sp_law_take K) [] (wE E) (tCons (tVar 0) (tCons (tCB (G.rLen K) (tCons (tVar 1) tNil)) tNil)))))
theorem st_law_of (v0 v1 : V) : start N_law_of [v0, v1] = [some v0, some v1] := rfl
def t_law_names_1 (K : PySem.W.Frag) (E : XK) : TS := (tDrop (tBM K "list" rAppend (tVar 3) (tCons (tOp (rAdd K) (tOp (rAdd K) (tSl (G.rSl K) (tVar 4) tNoPart (tPart (tVar 6))) (tBM K "list" rPopAt (tVar 2) (tCons (tCallG (sp_law_take K) [] (wE E) (tCons (tVar 0) (tCons (tCB (G.rLen K) (tCons (tVar 2) tNil)) tNil))) tNil))) (tSl (G.rSl K) (tVar 4) (tPart (tVar 6)) tNoPart)) tNil)))
def t_law_names_2 (K : PySem.W.Frag) (E : XK) : TS := (tAsg (tOp (rAdd K) (tVar 4) (tCallG (sp_law_of K) [] (wE E) (tCons (tVar 0) (tCons (tLst (tCons (tC (.str "a")) (tCons (tC (.str "z")) (tCons (tC (.str "s")) (tCons (tC (.str "h")) (tCons (tC (.str "m")) tNil)))))) tNil)))) (gName 4))
def t_law_names (K : PySem.W.Frag) (E : XK) : TS := (tSeq (tPar3 2 3 4 (tCons (tCB (G.rList K) (tCons (tC (.str "abcdefghijklmnopqrstuvwxyz")) tNil)) (tCons (tLst tNil) (tCons (tC (.str "")) tNil)))) (tSeq (tFor (iRng1 (tCons (tCallG (sp_law_take K) [] (wE E) (tCons (tVar 0) (tCons (tC (.int 11)) tNil))) tNil)) (gName 5) (t_law_names_2 K E)) (tSeq (tAsg (tCallG (sp_law_take K) [] (wE E) (tCons (tVar 0) (tCons (tOp (rAdd K) (tCB (G.rLen K) (tCons (tVar 4) tNil)) (tC (.int 1))) tNil))) (gName 6)) (tSeq (tFor (iRng1 (tCons (tVar 1) tNil)) (gName 5) (t_law_names_1 K E)) (tRet (tIf (tTest (tOp (G.rIn K) (tC (.str "cash")) (tVar 3))) (tLc (iSeq K (tVar 3)) (gName 7) tYes (tOp (rAdd K) (tVar 7) (tC (.str "q"))) [7]) (tVar 3)))))))
theorem st_law_names (v0 v1 : V) : start N_law_names [v0, v1] = [some v0, some v1, none, none, none, none, none, none] := rfl
def t_law_row (K : PySem.W.Frag) (E : XK) : TS := (tSeq (tAsg (tOp (rAdd K) (tVar 3) (tCallG (sp_law_of K) [] (wE E) (tCons (tVar 0) (tCons (tLst (tCons (tC (.int 0)) (tCons (tC (.int 0)) (tCons (tC (.int 1)) (tCons (tUn rNeg (tC (.int 1))) (tCons (tC (.int 100000000000)) (tCons (tUn rNeg (tC (.int 100000000000))) tNil))))))) tNil)))) (gName 4)) (tSeq (tAsg (tCallG (sp_law_of K) [] (wE E) (tCons (tVar 0) (tCons (tLst (tCons (tC (.str "buy")) (tCons (tC (.str "sell")) tNil))) tNil))) (gName 5)) (tRet (tLst (tCons (tCallG (sp_law_of K) [] (wE E) (tCons (tVar 0) (tCons (tVar 1) tNil))) (tCons (tCallG (sp_law_of K) [] (wE E) (tCons (tVar 0) (tCons (tVar 2) tNil))) (tCons (tVar 5) (tCons (tOp (rAdd K) (tC (.int 1)) (tCallG (sp_law_take K) [] (wE E) (tCons (tVar 0) (tCons (tC (.int 1000000)) tNil)))) (tCons (tVar 4) tNil)))))))))
theorem st_law_row (v0 v1 v2 v3 : V) : start N_law_row [v0, v1, v2, v3] = [some v0, some v1, some v2, some v3, none, none] := rfl
def t_meets (K : PySem.W.Frag) (E : XK) : TS := (tSeq (tIfS (tOr (tTest (tOp (G.rEq K) (tFld K (tVar 0) "member") (tFld K (tVar 1) "member"))) (tOr (tTest (tOp (G.rNe K) (tFld K (tVar 0) "thing") (tFld K (tVar 1) "thing"))) (tTest (tOp (G.rEq K) (tFld K (tVar 0) "side") (tFld K (tVar 1) "side"))))) (tRet (tC (.bl false))) tNext) (tSeq (tAsg (tIf (tTest (tOp (G.rEq K) (tFld K (tVar 0) "side") (tC (.str "buy")))) (tTup (tCons (tVar 0) (tCons (tVar 1) tNil))) (tTup (tCons (tVar 1) (tCons (tVar 0) tNil)))) (gTup K 2 (gCons (gName 2) (gCons (gName 3) gNil)))) (tRet (tOp G.rGe (tFld K (tVar 2) "limit") (tFld K (tVar 3) "limit")))))
theorem st_meets (v0 v1 : V) : start N_meets [v0, v1] = [some v0, some v1, none, none] := rfl
def t_law_1 (K : PySem.W.Frag) (E : XK) : TS := (tIfS (tOr (tNot (tB (tCB (G.rIsi K) (tCons (tVar 11) (tCons (tC (.ty "bool")) tNil))))) (tTest (tOp (G.rNe K) (tVar 11) (tVar 10)))) (tRet (tC (.bl false))) tNext)
def t_law_2 (K : PySem.W.Frag) (E : XK) : TS := (tSeq (tAsg (tCallG (sp_law_of K) [] (wE E) (tCons (tVar 2) (tCons (tLst (tCons (tC (.int 0)) (tCons (tC (.int 5)) (tCons (tOp rMul (tC (.int 9)) (tC (.int 100000000000))) (tCons (tOp rMul (tUn rNeg (tC (.int 9))) (tC (.int 100000000000))) (tCons (tCallG (sp_law_far K) [] (wE E) (tCons (tVar 2) (tCons (tC (.int 100000000000)) tNil))) tNil)))))) tNil))) (gName 6)) (tSeq (tAsg (tLc (iRng1 (tCons (tC (.int 2)) tNil)) (gName 12) tYes (tCallG (sp_law_row K) [] wN (tCons (tVar 2) (tCons (tVar 3) (tCons (tVar 4) (tCons (tVar 6) tNil))))) [12]) (gName 7)) (tSeq (tIfS (tTest (tOp G.rGt (tVar 5) (tC (.int 5)))) (tSeq (tAsg (tIf (tTest (tOp (G.rEq K) (tOp (G.rIx K) (tOp (G.rIx K) (tVar 7) (tC (.int 0))) (tC (.int 2))) (tC (.str "sell")))) (tC (.str "buy")) (tC (.str "sell"))) (gSub (tOp (G.rIx K) (tVar 7) (tC (.int 1))) (tC (.int 2)) rSetL)) (tAsg (tIf (tTest (tOp (G.rEq K) (tOp (G.rIx K) (tOp (G.rIx K) (tVar 7) (tC (.int 0))) (tC (.int 0))) (tOp (G.rIx K) (tVar 3) (tC (.int 0))))) (tOp (G.rIx K) (tVar 3) (tC (.int 1))) (tOp (G.rIx K) (tVar 3) (tC (.int 0)))) (gSub (tOp (G.rIx K) (tVar 7) (tC (.int 1))) (tC (.int 0)) rSetL))) tNext) (tSeq (tAsg (tMakeG (He.ga K "Order") (sp_Order_init K) [] (wE E) (tCons (tOp (G.rIx K) (tOp (G.rIx K) (tVar 7) (tC (.int 0))) (tC (.int 0))) (tCons (tOp (G.rIx K) (tOp (G.rIx K) (tVar 7) (tC (.int 0))) (tC (.int 1))) (tCons (tOp (G.rIx K) (tOp (G.rIx K) (tVar 7) (tC (.int 0))) (tC (.int 2))) (tCons (tOp (G.rIx K) (tOp (G.rIx K) (tVar 7) (tC (.int 0))) (tC (.int 3))) (tCons (tOp (G.rIx K) (tOp (G.rIx K) (tVar 7) (tC (.int 0))) (tC (.int 4))) tNil)))))) (gName 8)) (tSeq (tAsg (tMakeG (He.ga K "Order") (sp_Order_init K) [] (wE E) (tCons (tOp (G.rIx K) (tOp (G.rIx K) (tVar 7) (tC (.int 1))) (tC (.int 0))) (tCons (tOp (G.rIx K) (tOp (G.rIx K) (tVar 7) (tC (.int 1))) (tC (.int 1))) (tCons (tOp (G.rIx K) (tOp (G.rIx K) (tVar 7) (tC (.int 1))) (tC (.int 2))) (tCons (tOp (G.rIx K) (tOp (G.rIx K) (tVar 7) (tC (.int 1))) (tC (.int 3))) (tCons (tOp (G.rIx K) (tOp (G.rIx K) (tVar 7) (tC (.int 1))) (tC (.int 4))) tNil)))))) (gName 9)) (tSeq (tAsg (tCallG (sp_law_due K) [] (wE E) (tCons (tOp (G.rIx K) (tVar 7) (tC (.int 0))) (tCons (tOp (G.rIx K) (tVar 7) (tC (.int 1))) tNil))) (gName 10)) (tSeq (tFor (iSeq K (tLst (tCons (tCallG (sp_meets K) [] (wE E) (tCons (tVar 8) (tCons (tVar 9) tNil))) (tCons (tCallG (sp_meets K) [] (wE E) (tCons (tVar 9) (tCons (tVar 8) tNil))) (tCons (tCallG (sp_meets K) [] (wE E) (tCons (tVar 8) (tCons (tVar 9) tNil))) tNil))))) (gName 11) (t_law_1 K E)) (tSeq (tIfS (tOr (tTest (tOp G.rIsNot (tCallG (sp_meets K) [] (wE E) (tCons (tVar 8) (tCons (tVar 8) tNil))) (tC (.bl false)))) (tTest (tOp G.rIsNot (tCallG (sp_meets K) [] (wE E) (tCons (tVar 9) (tCons (tVar 9) tNil))) (tC (.bl false))))) (tRet (tC (.bl false))) tNext) (tSeq (tIfS (tTest (tOp (G.rNe K) (tLst (tCons (tFld K (tVar 8) "member") (tCons (tFld K (tVar 8) "thing") (tCons (tFld K (tVar 8) "side") (tCons (tFld K (tVar 8) "count") (tCons (tFld K (tVar 8) "limit") tNil)))))) (tOp (G.rIx K) (tVar 7) (tC (.int 0))))) (tRet (tC (.bl false))) tNext) (tIfS (tTest (tOp (G.rNe K) (tLst (tCons (tFld K (tVar 9) "member") (tCons (tFld K (tVar 9) "thing") (tCons (tFld K (tVar 9) "side") (tCons (tFld K (tVar 9) "count") (tCons (tFld K (tVar 9) "limit") tNil)))))) (tOp (G.rIx K) (tVar 7) (tC (.int 1))))) (tRet (tC (.bl false))) tNext))))))))))
def t_law_3 (K : PySem.W.Frag) (E : XK) : TS := (tSeq (tAsg (tCallG (sp_law_bag K) [] (wE E) (tCons (tVar 0) (tCons (tVar 1) tNil))) (gName 2)) (tSeq (tAsg (tTup (tCons (tCallG (sp_law_names K) [] (wE E) (tCons (tVar 2) (tCons (tC (.int 2)) tNil))) (tCons (tCallG (sp_law_names K) [] (wE E) (tCons (tVar 2) (tCons (tC (.int 2)) tNil))) tNil))) (gTup K 2 (gCons (gName 3) (gCons (gName 4) gNil)))) (tSeq (tIfS (tTest (tOp (G.rEq K) (tCallG (sp_law_take K) [] (wE E) (tCons (tVar 2) (tCons (tC (.int 3)) tNil))) (tC (.int 0)))) (tAsg (tLst (tCons (tOp (G.rIx K) (tVar 4) (tC (.int 0))) (tCons (tOp (G.rIx K) (tVar 4) (tC (.int 0))) tNil))) (gName 4)) tNext) (tFor (iRng1 (tCons (tC (.int 12)) tNil)) (gName 5) (t_law_2 K E)))))
def t_law (K : PySem.W.Frag) (E : XK) : TS := (tSeq (tFor (iRng1 (tCons (tCB G.rMax2 (tCons (tC (.int 1)) (tCons (tCB G.rMin2 (tCons (tC (.int 4)) (tCons (tCB (G.rLen K) (tCons (tVar 0) tNil)) tNil))) tNil))) tNil)) (gName 1) (t_law_3 K E)) (tRet (tC (.bl true))))
theorem st_law (v0 : V) : start N_law [v0] = [some v0, none, none, none, none, none, none, none, none, none, none, none, none] := rfl
def fa : List He.Fa := [.free "str",
    .free "isinstance",
    .free "len",
    .int "MOST_LETTERS" (12),
    .free "int",
    .free "bool",
    .int "MOST" (1000000000000),
    .glo "is_whole",
    .int "MOST_COUNT" (1000000),
    .glo "Order",
    .glo "is_name",
    .free "abs",
    .free "enumerate",
    .glo "_law_take",
    .free "range",
    .glo "_law_of",
    .free "list",
    .free "min",
    .free "max",
    .glo "meets",
    .glo "_law_due",
    .mkr "Order",
    .glo "_law_row",
    .glo "_law_far",
    .glo "_law_names",
    .glo "_law_bag",
    .cls "Order",
    .noat "Order" "member",
    .noat "Order" "thing",
    .noat "Order" "side",
    .noat "Order" "count",
    .noat "Order" "limit",
    .glo "law"]
def ex : List (PySem.W.Frag → Bool) := [fun K => cvalB K "Order" "SELL" (.str "sell"),
    fun K => cvalB K "Order" "BUY" (.str "buy")]
def fn : List He5.DefA := [⟨fun K => (He.ga K "is_name"), "is_name", "is_name", defArgs s_is_name, defBody s_is_name, defScope s_is_name, [], []⟩,
    ⟨fun K => (He.ga K "is_whole"), "is_whole", "is_whole", defArgs s_is_whole, defBody s_is_whole, defScope s_is_whole, [], []⟩,
    ⟨fun K => (He.ma K (He.ga K "Order") "__init__"), "__init__", "Order.__init__", defArgs s_Order_init, defBody s_Order_init, defScope s_Order_init, [], []⟩,
    ⟨fun K => (He.ga K "_law_bag"), "_law_bag", "_law_bag", defArgs s_law_bag, defBody s_law_bag, defScope s_law_bag, [], []⟩,
    ⟨fun K => (He.ga K "_law_due"), "_law_due", "_law_due", defArgs s_law_due, defBody s_law_due, defScope s_law_due, [], []⟩,
    ⟨fun K => (He.ga K "_law_take"), "_law_take", "_law_take", defArgs s_law_take, defBody s_law_take, defScope s_law_take, [], []⟩,
    ⟨fun K => (He.ga K "_law_far"), "_law_far", "_law_far", defArgs s_law_far, defBody s_law_far, defScope s_law_far, [], []⟩,
    ⟨fun K => (He.ga K "_law_of"), "_law_of", "_law_of", defArgs s_law_of, defBody s_law_of, defScope s_law_of, [], []⟩,
    ⟨fun K => (He.ga K "_law_names"), "_law_names", "_law_names", defArgs s_law_names, defBody s_law_names, defScope s_law_names, [], []⟩,
    ⟨fun K => (He.ga K "_law_row"), "_law_row", "_law_row", defArgs s_law_row, defBody s_law_row, defScope s_law_row, [], []⟩,
    ⟨fun K => (He.ga K "meets"), "meets", "meets", defArgs s_meets, defBody s_meets, defScope s_meets, [], []⟩,
    ⟨fun K => (He.ga K "law"), "law", "law", defArgs s_law, defBody s_law, defScope s_law, [], []⟩]
def loose : List Str := ["_wall",
    "MarketError",
    "BadOrder",
    "MOST",
    "MOST_COUNT",
    "MOST_LETTERS",
    "is_whole",
    "is_name",
    "Order",
    "meets",
    "_law_bag",
    "_law_take",
    "_law_of",
    "_law_names",
    "_law_far",
    "_law_row",
    "_law_due"]
structure Txt (K : PySem.W.Frag) (mg : Str → Option Value) : Prop where
  f_str : mg "str" = none
  f_isinstance : mg "isinstance" = none
  f_len : mg "len" = none
  g_MOST_LETTERS : ∃ t, mg "MOST_LETTERS" = some (.int (12) t)
  f_int : mg "int" = none
  f_bool : mg "bool" = none
  g_MOST : ∃ t, mg "MOST" = some (.int (1000000000000) t)
  g_is_whole : mg "is_whole" = some (.ref (He.ga K "is_whole"))
  g_MOST_COUNT : ∃ t, mg "MOST_COUNT" = some (.int (1000000) t)
  g_Order : mg "Order" = some (.ref (He.ga K "Order"))
  v_Order_SELL : CCon K "Order" "SELL" (.str "sell")
  v_Order_BUY : CCon K "Order" "BUY" (.str "buy")
  g_is_name : mg "is_name" = some (.ref (He.ga K "is_name"))
  f_abs : mg "abs" = none
  f_enumerate : mg "enumerate" = none
  g__law_take : mg "_law_take" = some (.ref (He.ga K "_law_take"))
  f_range : mg "range" = none
  g__law_of : mg "_law_of" = some (.ref (He.ga K "_law_of"))
  f_list : mg "list" = none
  f_min : mg "min" = none
  f_max : mg "max" = none
  g_meets : mg "meets" = some (.ref (He.ga K "meets"))
  g__law_due : mg "_law_due" = some (.ref (He.ga K "_law_due"))
  mk_Order : Mk K (He.ga K "Order") (He.ma K (He.ga K "Order") "__init__")
  g__law_row : mg "_law_row" = some (.ref (He.ga K "_law_row"))
  g__law_far : mg "_law_far" = some (.ref (He.ga K "_law_far"))
  g__law_names : mg "_law_names" = some (.ref (He.ga K "_law_names"))
  g__law_bag : mg "_law_bag" = some (.ref (He.ga K "_law_bag"))
  c_Order : Cls K (He.ga K "Order")
  n_Order_member : NoAttr K (He.ga K "Order") "member"
  n_Order_thing : NoAttr K (He.ga K "Order") "thing"
  n_Order_side : NoAttr K (He.ga K "Order") "side"
  n_Order_count : NoAttr K (He.ga K "Order") "count"
  n_Order_limit : NoAttr K (He.ga K "Order") "limit"
  g_law : mg "law" = some (.ref (He.ga K "law"))
  d_is_name : ∃ fd, FunD K "is_name" "is_name" (defArgs s_is_name) (defBody s_is_name) (defScope s_is_name) [] [] (He.ga K "is_name") fd
  d_is_whole : ∃ fd, FunD K "is_whole" "is_whole" (defArgs s_is_whole) (defBody s_is_whole) (defScope s_is_whole) [] [] (He.ga K "is_whole") fd
  d_Order_init : ∃ fd, FunD K "__init__" "Order.__init__" (defArgs s_Order_init) (defBody s_Order_init) (defScope s_Order_init) [] [] (He.ma K (He.ga K "Order") "__init__") fd
  d_law_bag : ∃ fd, FunD K "_law_bag" "_law_bag" (defArgs s_law_bag) (defBody s_law_bag) (defScope s_law_bag) [] [] (He.ga K "_law_bag") fd
  d_law_due : ∃ fd, FunD K "_law_due" "_law_due" (defArgs s_law_due) (defBody s_law_due) (defScope s_law_due) [] [] (He.ga K "_law_due") fd
  d_law_take : ∃ fd, FunD K "_law_take" "_law_take" (defArgs s_law_take) (defBody s_law_take) (defScope s_law_take) [] [] (He.ga K "_law_take") fd
  d_law_far : ∃ fd, FunD K "_law_far" "_law_far" (defArgs s_law_far) (defBody s_law_far) (defScope s_law_far) [] [] (He.ga K "_law_far") fd
  d_law_of : ∃ fd, FunD K "_law_of" "_law_of" (defArgs s_law_of) (defBody s_law_of) (defScope s_law_of) [] [] (He.ga K "_law_of") fd
  d_law_names : ∃ fd, FunD K "_law_names" "_law_names" (defArgs s_law_names) (defBody s_law_names) (defScope s_law_names) [] [] (He.ga K "_law_names") fd
  d_law_row : ∃ fd, FunD K "_law_row" "_law_row" (defArgs s_law_row) (defBody s_law_row) (defScope s_law_row) [] [] (He.ga K "_law_row") fd
  d_meets : ∃ fd, FunD K "meets" "meets" (defArgs s_meets) (defBody s_meets) (defScope s_meets) [] [] (He.ga K "meets") fd
  d_law : ∃ fd, FunD K "law" "law" (defArgs s_law) (defBody s_law) (defScope s_law) [] [] (He.ga K "law") fd
theorem txt_of {K : PySem.W.Frag} {mg : Str → Option Value} {h : Heap} (c : Says fa fn ex K) (X : K.In h) (Y : h.Ns mainGlobals mg) : Txt K mg :=
  {
    f_str := c.free X Y 0
    f_isinstance := c.free X Y 1
    f_len := c.free X Y 2
    g_MOST_LETTERS := c.int X Y 3
    f_int := c.free X Y 4
    f_bool := c.free X Y 5
    g_MOST := c.int X Y 6
    g_is_whole := c.glo X Y 7
    g_MOST_COUNT := c.int X Y 8
    g_Order := c.glo X Y 9
    v_Order_SELL := cvalB_ok (v := (.str "sell")) (c.exi 0)
    v_Order_BUY := cvalB_ok (v := (.str "buy")) (c.exi 1)
    g_is_name := c.glo X Y 10
    f_abs := c.free X Y 11
    f_enumerate := c.free X Y 12
    g__law_take := c.glo X Y 13
    f_range := c.free X Y 14
    g__law_of := c.glo X Y 15
    f_list := c.free X Y 16
    f_min := c.free X Y 17
    f_max := c.free X Y 18
    g_meets := c.glo X Y 19
    g__law_due := c.glo X Y 20
    mk_Order := He.mkr_ok (c.fact 21 (f := .mkr "Order"))
    g__law_row := c.glo X Y 22
    g__law_far := c.glo X Y 23
    g__law_names := c.glo X Y 24
    g__law_bag := c.glo X Y 25
    c_Order := He.cls_ok (c.fact 26 (f := .cls "Order"))
    n_Order_member := He.noat_ok (c.fact 27 (f := .noat "Order" "member"))
    n_Order_thing := He.noat_ok (c.fact 28 (f := .noat "Order" "thing"))
    n_Order_side := He.noat_ok (c.fact 29 (f := .noat "Order" "side"))
    n_Order_count := He.noat_ok (c.fact 30 (f := .noat "Order" "count"))
    n_Order_limit := He.noat_ok (c.fact 31 (f := .noat "Order" "limit"))
    g_law := c.glo X Y 32
    d_is_name := c.d.def_ 0
    d_is_whole := c.d.def_ 1
    d_Order_init := c.d.def_ 2
    d_law_bag := c.d.def_ 3
    d_law_due := c.d.def_ 4
    d_law_take := c.d.def_ 5
    d_law_far := c.d.def_ 6
    d_law_of := c.d.def_ 7
    d_law_names := c.d.def_ 8
    d_law_row := c.d.def_ 9
    d_meets := c.d.def_ 10
    d_law := c.d.def_ 11
  }
section
variable {P : Program} {w : World} {K : PySem.W.Frag} {mg : Str → Option Value} {base : Heap}
theorem sc_is_name : FnScope N_is_name ["thing"] (defScope s_is_name) := ⟨rfl, rfl, rfl, by decide +kernel, rfl, by decide +kernel, by decide +kernel⟩
theorem bd_is_name (T : Txt K mg)  {f : Addr} {cdv : Value} {A : Around} {outer : List Env} {s : Shared} {H : Hp} {E : XK} (hr : Room 0 (A.deeper (envOfC "is_name" (defScope s_is_name) s.heap.objs.size f cdv))) :
    PSs (cxG P w K mg base N_is_name "is_name" (defScope s_is_name) f cdv A outer s H E) (defBody s_is_name) (t_is_name K E) := by
  have hu : (cxG P w K mg base N_is_name "is_name" (defScope s_is_name) f cdv A outer s H E).A.units + 64 < cLine := hr.units
  exact (pss_cons (ps_if (pw_or (pt_not (pt_val (pe_callB G.call_isi (by rfl) T.f_isinstance G.bt_isinstance (pa_cons (pv 0) (pa_cons (pe_bltn (v := .ty "str") (by rfl) T.f_str G.bt_str rfl) pa_nil))) (by intro _; rfl))) (pw_or1 (pt_not (pt_chain G.op_le G.op_le pe_int (pe_callB G.call_len (by rfl) T.f_len G.bt_len (pa_cons (pv 0) pa_nil)) (G.pe_globI (by rfl) T.g_MOST_LETTERS))))).pt (pss_one (ps_ret pe_bl)) pss_nil) (pss_one (ps_ret (pe_and (pe_bm0 PySem.F.plainAttrs_str PySem.F.slot_str_isascii PySem.F.type_str_isascii mt_isascii (pv 0)) (pe_and (pe_bm0 PySem.F.plainAttrs_str PySem.F.slot_str_isalpha PySem.F.type_str_isalpha mt_isalpha (pv 0)) (pe_one (pe_bm0 PySem.F.plainAttrs_str PySem.F.slot_str_islower PySem.F.type_str_islower mt_islower (pv 0))))))))
theorem sc_is_whole : FnScope N_is_whole ["thing", "low", "high"] (defScope s_is_whole) := ⟨rfl, rfl, rfl, by decide +kernel, rfl, by decide +kernel, by decide +kernel⟩
theorem bd_is_whole (T : Txt K mg)  {f : Addr} {cdv : Value} {A : Around} {outer : List Env} {s : Shared} {H : Hp} {E : XK} (hr : Room 0 (A.deeper (envOfC "is_whole" (defScope s_is_whole) s.heap.objs.size f cdv))) :
    PSs (cxG P w K mg base N_is_whole "is_whole" (defScope s_is_whole) f cdv A outer s H E) (defBody s_is_whole) (t_is_whole K E) := by
  have hu : (cxG P w K mg base N_is_whole "is_whole" (defScope s_is_whole) f cdv A outer s H E).A.units + 64 < cLine := hr.units
  exact (pss_one (ps_ret (pe_and (pe_callB G.call_isi (by rfl) T.f_isinstance G.bt_isinstance (pa_cons (pv 0) (pa_cons (pe_bltn (v := .ty "int") (by rfl) T.f_int G.bt_int rfl) pa_nil))) (pe_and (pe_not (pe_callB G.call_isi (by rfl) T.f_isinstance G.bt_isinstance (pa_cons (pv 0) (pa_cons (pe_bltn (v := .ty "bool") (by rfl) T.f_bool G.bt_bool rfl) pa_nil)))) (pe_one (pe_chain G.op_le G.op_le (pv 1) (pv 0) (pv 2)))))))
theorem sc_Order_init : FnScope N_Order_init ["self", "member", "thing", "side", "count", "limit"] (defScope s_Order_init) := ⟨rfl, rfl, rfl, by decide +kernel, rfl, by decide +kernel, by decide +kernel⟩
theorem bd_Order_init (T : Txt K mg) (O_is_whole : Ok P w K mg base 1 (He.ga K "is_whole") ["thing", "low", "high"] [] (sp_is_whole K)) (O_is_name : Ok P w K mg base 1 (He.ga K "is_name") ["thing"] [] (sp_is_name K)) {f : Addr} {cdv : Value} {A : Around} {outer : List Env} {s : Shared} {H : Hp} {E : XK} (hr : Room 1 (A.deeper (envOfC "Order.__init__" (defScope s_Order_init) s.heap.objs.size f cdv))) :
    PSs (cxG P w K mg base N_Order_init "Order.__init__" (defScope s_Order_init) f cdv A outer s H E) (defBody s_Order_init) (t_Order_init K E) := by
  have hu : (cxG P w K mg base N_Order_init "Order.__init__" (defScope s_Order_init) f cdv A outer s H E).A.units + 64 < cLine := hr.units
  exact (pss_cons (ps_if (pt_not (pt_val (G.pe_callG O_is_name (hr.mono (by decide)) (by rfl) T.g_is_name takesE (pa_cons (pv 1) pa_nil)) (by intro _; rfl))) (pss_one ps_never) pss_nil) (pss_cons (ps_if (pw_or (pt_not (pt_val (G.pe_callG O_is_name (hr.mono (by decide)) (by rfl) T.g_is_name takesE (pa_cons (pv 2) pa_nil)) (by intro _; rfl))) (pw_or1 (pt_cmpR (G.op_eq hu) (pv 2) pe_str (nomark _)))).pt (pss_one ps_never) pss_nil) (pss_cons (ps_if (pw_or (pt_not (pt_val (pe_callB G.call_isi (by rfl) T.f_isinstance G.bt_isinstance (pa_cons (pv 3) (pa_cons (pe_bltn (v := .ty "str") (by rfl) T.f_str G.bt_str rfl) pa_nil))) (by intro _; rfl))) (pw_or1 (pt_cmpR G.op_nin (pv 3) (pe_tup (pa_cons (G.pe_ccon (by rfl) T.g_Order T.v_Order_BUY) (pa_cons (G.pe_ccon (by rfl) T.g_Order T.v_Order_SELL) pa_nil))) (by rfl)))).pt (pss_one ps_never) pss_nil) (pss_cons (ps_if (pt_not (pt_val (G.pe_callG O_is_whole (hr.mono (by decide)) (by rfl) T.g_is_whole takesE (pa_cons (pv 4) (pa_cons pe_int (pa_cons (G.pe_globI (by rfl) T.g_MOST_COUNT) pa_nil)))) (by intro _; rfl))) (pss_one ps_never) pss_nil) (pss_cons (ps_if (pt_not (pt_val (G.pe_callG O_is_whole (hr.mono (by decide)) (by rfl) T.g_is_whole takesE (pa_cons (pv 5) (pa_cons (pe_un G.un_neg (G.pe_globI (by rfl) T.g_MOST)) (pa_cons (G.pe_globI (by rfl) T.g_MOST) pa_nil)))) (by intro _; rfl))) (pss_one ps_never) pss_nil) (pss_cons (ps_fld (pv 0) (pv 1) rfl) (pss_cons (ps_fld (pv 0) (pv 2) rfl) (pss_cons (ps_fld (pv 0) (pv 3) rfl) (pss_cons (ps_fld (pv 0) (pv 4) rfl) (pss_one (ps_fld (pv 0) (pv 5) rfl)))))))))))
theorem sc_law_bag : FnScope N_law_bag ["script", "at"] (defScope s_law_bag) := ⟨rfl, rfl, rfl, by decide +kernel, rfl, by decide +kernel, by decide +kernel⟩
theorem bd_law_bag (T : Txt K mg)  {f : Addr} {cdv : Value} {A : Around} {outer : List Env} {s : Shared} {H : Hp} {E : XK} (hr : Room 0 (A.deeper (envOfC "_law_bag" (defScope s_law_bag) s.heap.objs.size f cdv))) :
    PSs (cxG P w K mg base N_law_bag "_law_bag" (defScope s_law_bag) f cdv A outer s H E) (defBody s_law_bag) (t_law_bag K E) := by
  have hu : (cxG P w K mg base N_law_bag "_law_bag" (defScope s_law_bag) f cdv A outer s H E).A.units + 64 < cLine := hr.units
  exact (pss_cons (ps_set (i := 2) sc_law_bag.nd rfl (Or.inl rfl) (pe_ifExp (pt_cmpR G.op_lt (pv 1) (pe_callB G.call_len (by rfl) T.f_len G.bt_len (pa_cons (pv 0) pa_nil)) (nomark _)) (pe_ix G.ix_seq (pv 0) (pv 1) (fun _ _ => rfl)) pe_int)) (pss_cons (ps_set (i := 3) sc_law_bag.nd rfl (Or.inl rfl) (pe_op G.op_add (pe_op G.op_mul pe_int (pv 1)) pe_int)) (pss_cons (ps_for ownE rfl (pi_enum rfl T.f_enumerate (pa_cons (pe_slice G.sl_any (pv 0) po_none (po_some pe_int)) pa_nil)) (pg_tup rfl (pgs_cons (pg_name (i := 4) sc_law_bag.nd rfl (Or.inl rfl)) (pgs_cons (pg_name (i := 5) sc_law_bag.nd rfl (Or.inl rfl)) pgs_nil))) (tb := (t_law_bag_1 K E)) (pss_one (ps_set (i := 3) sc_law_bag.nd rfl (Or.inl rfl) (pe_op G.op_mod (pe_callTy G.call_int (by rfl) T.f_int G.bt_int (pa_cons (pe_op G.op_add (pe_op G.op_add (pe_op G.op_mul (pv 3) pe_int) (pe_op G.op_mod (pe_callTy G.call_int (by rfl) T.f_int G.bt_int (pa_cons (pv 5) pa_nil)) pe_int)) (pe_op G.op_mul pe_int (pv 4))) pa_nil)) pe_int)))) (pss_one (ps_ret (pe_lst (pa_cons (pe_ifExp (pt_cmpR G.op_ge (pe_callB G.call_abs (by rfl) T.f_abs G.bt_abs (pa_cons (pv 2) pa_nil)) (G.pe_kpow (by decide) (by decide +kernel)) (nomark _)) (pe_callB G.call_abs (by rfl) T.f_abs G.bt_abs (pa_cons (pv 2) pa_nil)) pe_int) (pa_cons (pv 3) pa_nil))))))))
theorem sc_law_due : FnScope N_law_due ["one", "other"] (defScope s_law_due) := ⟨rfl, rfl, rfl, by decide +kernel, rfl, by decide +kernel, by decide +kernel⟩
theorem bd_law_due (T : Txt K mg)  {f : Addr} {cdv : Value} {A : Around} {outer : List Env} {s : Shared} {H : Hp} {E : XK} (hr : Room 0 (A.deeper (envOfC "_law_due" (defScope s_law_due) s.heap.objs.size f cdv))) :
    PSs (cxG P w K mg base N_law_due "_law_due" (defScope s_law_due) f cdv A outer s H E) (defBody s_law_due) (t_law_due K E) := by
  have hu : (cxG P w K mg base N_law_due "_law_due" (defScope s_law_due) f cdv A outer s H E).A.units + 64 < cLine := hr.units
  exact (pss_cons (ps_if (pw_or (pt_cmpR (G.op_eq hu) (pe_ix G.ix_seq (pv 0) pe_int (fun _ _ => rfl)) (pe_ix G.ix_seq (pv 1) pe_int (fun _ _ => rfl)) (nomark _)) (pw_or1 (pt_cmpR (G.op_ne hu) (pe_ix G.ix_seq (pv 0) pe_int (fun _ _ => rfl)) (pe_ix G.ix_seq (pv 1) pe_int (fun _ _ => rfl)) (nomark _)))).pt (pss_one (ps_ret pe_bl)) pss_nil) (pss_cons (ps_if (pw_and (pt_cmpR (G.op_eq hu) (pe_ix G.ix_seq (pv 0) pe_int (fun _ _ => rfl)) pe_str (nomark _)) (pw_and1 (pt_cmpR (G.op_eq hu) (pe_ix G.ix_seq (pv 1) pe_int (fun _ _ => rfl)) pe_str (nomark _)))).pt (pss_one (ps_ret (pe_cmpR G.op_ge (pe_ix G.ix_seq (pv 0) pe_int (fun _ _ => rfl)) (pe_ix G.ix_seq (pv 1) pe_int (fun _ _ => rfl)) (nomark _)))) pss_nil) (pss_cons (ps_if (pw_and (pt_cmpR (G.op_eq hu) (pe_ix G.ix_seq (pv 0) pe_int (fun _ _ => rfl)) pe_str (nomark _)) (pw_and1 (pt_cmpR (G.op_eq hu) (pe_ix G.ix_seq (pv 1) pe_int (fun _ _ => rfl)) pe_str (nomark _)))).pt (pss_one (ps_ret (pe_cmpR G.op_le (pe_ix G.ix_seq (pv 0) pe_int (fun _ _ => rfl)) (pe_ix G.ix_seq (pv 1) pe_int (fun _ _ => rfl)) (nomark _)))) pss_nil) (pss_one (ps_ret pe_bl)))))
theorem sc_law_take : FnScope N_law_take ["bag", "many"] (defScope s_law_take) := ⟨rfl, rfl, rfl, by decide +kernel, rfl, by decide +kernel, by decide +kernel⟩
theorem bd_law_take (T : Txt K mg)  {f : Addr} {cdv : Value} {A : Around} {outer : List Env} {s : Shared} {H : Hp} {E : XK} (hr : Room 0 (A.deeper (envOfC "_law_take" (defScope s_law_take) s.heap.objs.size f cdv))) :
    PSs (cxG P w K mg base N_law_take "_law_take" (defScope s_law_take) f cdv A outer s H E) (defBody s_law_take) (t_law_take K E) := by
  have hu : (cxG P w K mg base N_law_take "_law_take" (defScope s_law_take) f cdv A outer s H E).A.units + 64 < cLine := hr.units
  exact (pss_cons (ps_if (pt_cmpR G.op_gt (pe_ix G.ix_seq (pv 0) pe_int (fun _ _ => rfl)) pe_int (nomark _)) (pss_cons (ps_set (i := 2) sc_law_take.nd rfl (Or.inl rfl) (pe_op G.op_mod (pe_callTy G.call_int (by rfl) T.f_int G.bt_int (pa_cons (pe_ix G.ix_seq (pv 0) pe_int (fun _ _ => rfl)) pa_nil)) (pv 1))) (pss_cons (ps_asg (pe_op G.op_fdv (pe_ix G.ix_seq (pv 0) pe_int (fun _ _ => rfl)) (pv 1)) (pg_sub (pv 0) pe_int set_list)) (pss_one (ps_ret (pv 2))))) pss_nil) (pss_cons (ps_asg (pe_op G.op_mod (pe_callTy G.call_int (by rfl) T.f_int G.bt_int (pa_cons (pe_op G.op_add (pe_op G.op_mul (pe_ix G.ix_seq (pv 0) pe_int (fun _ _ => rfl)) pe_int) pe_int) pa_nil)) pe_int) (pg_sub (pv 0) pe_int set_list)) (pss_one (ps_ret (pe_op G.op_mod (pe_op G.op_fdv (pe_op G.op_mod (pe_callTy G.call_int (by rfl) T.f_int G.bt_int (pa_cons (pe_op G.op_mul (pe_op G.op_fdv (pe_ix G.ix_seq (pv 0) pe_int (fun _ _ => rfl)) pe_int) pe_int) pa_nil)) pe_int) pe_int) (pv 1))))))
theorem sc_law_far : FnScope N_law_far ["bag", "most"] (defScope s_law_far) := ⟨rfl, rfl, rfl, by decide +kernel, rfl, by decide +kernel, by decide +kernel⟩
theorem bd_law_far (T : Txt K mg) (O_law_take : Ok P w K mg base 1 (He.ga K "_law_take") ["bag", "many"] [] (sp_law_take K)) {f : Addr} {cdv : Value} {A : Around} {outer : List Env} {s : Shared} {H : Hp} {E : XK} (hr : Room 1 (A.deeper (envOfC "_law_far" (defScope s_law_far) s.heap.objs.size f cdv))) :
    PSs (cxG P w K mg base N_law_far "_law_far" (defScope s_law_far) f cdv A outer s H E) (defBody s_law_far) (t_law_far K E) := by
  have hu : (cxG P w K mg base N_law_far "_law_far" (defScope s_law_far) f cdv A outer s H E).A.units + 64 < cLine := hr.units
  exact (pss_cons (ps_set (i := 2) sc_law_far.nd rfl (Or.inl rfl) (pe_op G.op_add (pe_op G.op_add (pe_op G.op_mul (G.pe_callG O_law_take (hr.mono (by decide)) (by rfl) T.g__law_take takesE (pa_cons (pv 0) (pa_cons (G.pe_kpow (by decide) (by decide +kernel)) pa_nil))) (G.pe_kpow (by decide) (by decide +kernel))) (pe_op G.op_mul (G.pe_callG O_law_take (hr.mono (by decide)) (by rfl) T.g__law_take takesE (pa_cons (pv 0) (pa_cons (G.pe_kpow (by decide) (by decide +kernel)) pa_nil))) (G.pe_kpow (by decide) (by decide +kernel)))) (G.pe_callG O_law_take (hr.mono (by decide)) (by rfl) T.g__law_take takesE (pa_cons (pv 0) (pa_cons (G.pe_kpow (by decide) (by decide +kernel)) pa_nil))))) (pss_one (ps_ret (pe_op G.op_mod (pv 2) (pe_op G.op_add (pv 1) pe_int)))))
theorem sc_law_of : FnScope N_law_of ["bag", "some"] (defScope s_law_of) := ⟨rfl, rfl, rfl, by decide +kernel, rfl, by decide +kernel, by decide +kernel⟩
theorem bd_law_of (T : Txt K mg) (O_law_take : Ok P w K mg base 1 (He.ga K "_law_take") ["bag", "many"] [] (sp_law_take K)) {f : Addr} {cdv : Value} {A : Around} {outer : List Env} {s : Shared} {H : Hp} {E : XK} (hr : Room 1 (A.deeper (envOfC "_law_of" (defScope s_law_of) s.heap.objs.size f cdv))) :
    PSs (cxG P w K mg base N_law_of "_law_of" (defScope s_law_of) f cdv A outer s H E) (defBody s_law_of) (t_law_of K E) := by
  have hu : (cxG P w K mg base N_law_of "_law_of" (defScope s_law_of) f cdv A outer s H E).A.units + 64 < cLine := hr.units
  exact (pss_one (ps_ret (pe_ix G.ix_seq (pv 1) (G.pe_callG O_law_take (hr.mono (by decide)) (by rfl) T.g__law_take takesE (pa_cons (pv 0) (pa_cons (pe_callB G.call_len (by rfl) T.f_len G.bt_len (pa_cons (pv 1) pa_nil)) pa_nil))) (fun _ _ => rfl))))
theorem sc_law_names : FnScope N_law_names ["bag", "many"] (defScope s_law_names) := ⟨rfl, rfl, rfl, by decide +kernel, rfl, by decide +kernel, by decide +kernel⟩
theorem bd_law_names (T : Txt K mg) (O_law_take : Ok P w K mg base 1 (He.ga K "_law_take") ["bag", "many"] [] (sp_law_take K)) (O_law_of : Ok P w K mg base 2 (He.ga K "_law_of") ["bag", "some"] [] (sp_law_of K)) {f : Addr} {cdv : Value} {A : Around} {outer : List Env} {s : Shared} {H : Hp} {E : XK} (hr : Room 2 (A.deeper (envOfC "_law_names" (defScope s_law_names) s.heap.objs.size f cdv))) :
    PSs (cxG P w K mg base N_law_names "_law_names" (defScope s_law_names) f cdv A outer s H E) (defBody s_law_names) (t_law_names K E) := by
  have hu : (cxG P w K mg base N_law_names "_law_names" (defScope s_law_names) f cdv A outer s H E).A.units + 64 < cLine := hr.units
  exact (pss_cons (ps_par3 (i := 2) (j := 3) (l := 4) rfl sc_law_names.nd rfl rfl rfl (by decide) (by decide) (by decide) rfl rfl rfl (pa_cons (pe_callTy (G.call_list rfl) (by rfl) T.f_list G.bt_list (pa_cons pe_str pa_nil)) (pa_cons (pe_lst pa_nil) (pa_cons pe_str pa_nil))) rfl) (pss_cons (ps_for ownE rfl (pi_range1 rfl T.f_range (pa_cons (G.pe_callG O_law_take (hr.mono (by decide)) (by rfl) T.g__law_take takesE (pa_cons (pv 0) (pa_cons pe_int pa_nil))) pa_nil)) (pg_name (i := 5) sc_law_names.nd rfl (Or.inl rfl)) (tb := (t_law_names_2 K E)) (pss_one (ps_set (i := 4) sc_law_names.nd rfl (Or.inl rfl) (pe_op G.op_add (pv 4) (G.pe_callG O_law_of (hr.mono (by decide)) (by rfl) T.g__law_of takesE (pa_cons (pv 0) (pa_cons (pe_lst (pa_cons pe_str (pa_cons pe_str (pa_cons pe_str (pa_cons pe_str (pa_cons pe_str pa_nil)))))) pa_nil))))))) (pss_cons (ps_set (i := 6) sc_law_names.nd rfl (Or.inl rfl) (G.pe_callG O_law_take (hr.mono (by decide)) (by rfl) T.g__law_take takesE (pa_cons (pv 0) (pa_cons (pe_op G.op_add (pe_callB G.call_len (by rfl) T.f_len G.bt_len (pa_cons (pv 4) pa_nil)) pe_int) pa_nil)))) (pss_cons (ps_for ownE rfl (pi_range1 rfl T.f_range (pa_cons (pv 1) pa_nil)) (pg_name (i := 5) sc_law_names.nd rfl (Or.inl rfl)) (tb := (t_law_names_1 K E)) (pss_one (ps_expr (pe_bm PySem.F.plainAttrs_list PySem.F.slot_list_append PySem.F.type_list_append mt_append (pv 3) (pa_cons (pe_op G.op_add (pe_op G.op_add (pe_slice G.sl_any (pv 4) po_none (po_some (pv 6))) (pe_bm PySem.F.plainAttrs_list PySem.F.slot_list_pop PySem.F.type_list_pop mt_popAt (pv 2) (pa_cons (G.pe_callG O_law_take (hr.mono (by decide)) (by rfl) T.g__law_take takesE (pa_cons (pv 0) (pa_cons (pe_callB G.call_len (by rfl) T.f_len G.bt_len (pa_cons (pv 2) pa_nil)) pa_nil))) pa_nil))) (pe_slice G.sl_any (pv 4) (po_some (pv 6)) po_none)) pa_nil))))) (pss_one (ps_ret (pe_ifExp (pt_cmpR G.op_in pe_str (pv 3) (by rfl)) (pe_lc (own := [("one", 7)]) (g := (gName 7)) (tt := tYes) (te := (tOp (rAdd K) (tVar 7) (tC (.str "q")))) rfl sc_law_names.nd (G.pi_seq (pv 3)) (blkOk_by (N := N_law_names) (sc := defScope s_law_names) (by decide +kernel)) (fun _ _ _ _ _ => (pg_name (i := 7) sc_law_names.nd rfl (Or.inl rfl))) (fun _ _ _ _ _ => pts_nil) (fun _ _ _ _ _ => (pe_op G.op_add (pv 7) pe_str))) (pv 3))))))))
theorem sc_law_row : FnScope N_law_row ["bag", "members", "things", "base"] (defScope s_law_row) := ⟨rfl, rfl, rfl, by decide +kernel, rfl, by decide +kernel, by decide +kernel⟩
theorem bd_law_row (T : Txt K mg) (O_law_take : Ok P w K mg base 1 (He.ga K "_law_take") ["bag", "many"] [] (sp_law_take K)) (O_law_of : Ok P w K mg base 2 (He.ga K "_law_of") ["bag", "some"] [] (sp_law_of K)) {f : Addr} {cdv : Value} {A : Around} {outer : List Env} {s : Shared} {H : Hp} {E : XK} (hr : Room 2 (A.deeper (envOfC "_law_row" (defScope s_law_row) s.heap.objs.size f cdv))) :
    PSs (cxG P w K mg base N_law_row "_law_row" (defScope s_law_row) f cdv A outer s H E) (defBody s_law_row) (t_law_row K E) := by
  have hu : (cxG P w K mg base N_law_row "_law_row" (defScope s_law_row) f cdv A outer s H E).A.units + 64 < cLine := hr.units
  exact (pss_cons (ps_set (i := 4) sc_law_row.nd rfl (Or.inl rfl) (pe_op G.op_add (pv 3) (G.pe_callG O_law_of (hr.mono (by decide)) (by rfl) T.g__law_of takesE (pa_cons (pv 0) (pa_cons (pe_lst (pa_cons pe_int (pa_cons pe_int (pa_cons pe_int (pa_cons (pe_un G.un_neg pe_int) (pa_cons (G.pe_kpow (by decide) (by decide +kernel)) (pa_cons (pe_un G.un_neg (G.pe_kpow (by decide) (by decide +kernel))) pa_nil))))))) pa_nil))))) (pss_cons (ps_set (i := 5) sc_law_row.nd rfl (Or.inl rfl) (G.pe_callG O_law_of (hr.mono (by decide)) (by rfl) T.g__law_of takesE (pa_cons (pv 0) (pa_cons (pe_lst (pa_cons pe_str (pa_cons pe_str pa_nil))) pa_nil)))) (pss_one (ps_ret (pe_lst (pa_cons (G.pe_callG O_law_of (hr.mono (by decide)) (by rfl) T.g__law_of takesE (pa_cons (pv 0) (pa_cons (pv 1) pa_nil))) (pa_cons (G.pe_callG O_law_of (hr.mono (by decide)) (by rfl) T.g__law_of takesE (pa_cons (pv 0) (pa_cons (pv 2) pa_nil))) (pa_cons (pv 5) (pa_cons (pe_op G.op_add pe_int (G.pe_callG O_law_take (hr.mono (by decide)) (by rfl) T.g__law_take takesE (pa_cons (pv 0) (pa_cons (G.pe_kpow (by decide) (by decide +kernel)) pa_nil)))) (pa_cons (pv 4) pa_nil))))))))))
theorem sc_meets : FnScope N_meets ["one", "other"] (defScope s_meets) := ⟨rfl, rfl, rfl, by decide +kernel, rfl, by decide +kernel, by decide +kernel⟩
theorem bd_meets (T : Txt K mg)  {f : Addr} {cdv : Value} {A : Around} {outer : List Env} {s : Shared} {H : Hp} {E : XK} (hr : Room 0 (A.deeper (envOfC "meets" (defScope s_meets) s.heap.objs.size f cdv))) :
    PSs (cxG P w K mg base N_meets "meets" (defScope s_meets) f cdv A outer s H E) (defBody s_meets) (t_meets K E) := by
  have hu : (cxG P w K mg base N_meets "meets" (defScope s_meets) f cdv A outer s H E).A.units + 64 < cLine := hr.units
  exact (pss_cons (ps_if (pw_or (pt_cmpR (G.op_eq hu) (pe_fld (pv 0) rfl) (pe_fld (pv 1) rfl) (nomark _)) (pw_or (pt_cmpR (G.op_ne hu) (pe_fld (pv 0) rfl) (pe_fld (pv 1) rfl) (nomark _)) (pw_or1 (pt_cmpR (G.op_eq hu) (pe_fld (pv 0) rfl) (pe_fld (pv 1) rfl) (nomark _))))).pt (pss_one (ps_ret pe_bl)) pss_nil) (pss_cons (ps_asg (pe_ifExp (pt_cmpR (G.op_eq hu) (pe_fld (pv 0) rfl) (G.pe_ccon (by rfl) T.g_Order T.v_Order_BUY) (nomark _)) (pe_tup (pa_cons (pv 0) (pa_cons (pv 1) pa_nil))) (pe_tup (pa_cons (pv 1) (pa_cons (pv 0) pa_nil)))) (pg_tup rfl (pgs_cons (pg_name (i := 2) sc_meets.nd rfl (Or.inl rfl)) (pgs_cons (pg_name (i := 3) sc_meets.nd rfl (Or.inl rfl)) pgs_nil)))) (pss_one (ps_ret (pe_cmpR G.op_ge (pe_fld (pv 2) rfl) (pe_fld (pv 3) rfl) (nomark _))))))
theorem sc_law : FnScope N_law ["script"] (defScope s_law) := ⟨rfl, rfl, rfl, by decide +kernel, rfl, by decide +kernel, by decide +kernel⟩
theorem bd_law (T : Txt K mg) (O_meets : Ok P w K mg base 1 (He.ga K "meets") ["one", "other"] [] (sp_meets K)) (O_law_due : Ok P w K mg base 1 (He.ga K "_law_due") ["one", "other"] [] (sp_law_due K)) (O_Order_init : Ok P w K mg base 2 (He.ma K (He.ga K "Order") "__init__") ["self", "member", "thing", "side", "count", "limit"] [] (sp_Order_init K)) (O_law_row : Ok P w K mg base 3 (He.ga K "_law_row") ["bag", "members", "things", "base"] [] (sp_law_row K)) (O_law_of : Ok P w K mg base 2 (He.ga K "_law_of") ["bag", "some"] [] (sp_law_of K)) (O_law_far : Ok P w K mg base 2 (He.ga K "_law_far") ["bag", "most"] [] (sp_law_far K)) (O_law_take : Ok P w K mg base 1 (He.ga K "_law_take") ["bag", "many"] [] (sp_law_take K)) (O_law_names : Ok P w K mg base 3 (He.ga K "_law_names") ["bag", "many"] [] (sp_law_names K)) (O_law_bag : Ok P w K mg base 1 (He.ga K "_law_bag") ["script", "at"] [] (sp_law_bag K)) {f : Addr} {cdv : Value} {A : Around} {outer : List Env} {s : Shared} {H : Hp} {E : XK} (hr : Room 3 (A.deeper (envOfC "law" (defScope s_law) s.heap.objs.size f cdv))) :
    PSs (cxG P w K mg base N_law "law" (defScope s_law) f cdv A outer s H E) (defBody s_law) (t_law K E) := by
  have hu : (cxG P w K mg base N_law "law" (defScope s_law) f cdv A outer s H E).A.units + 64 < cLine := hr.units
  exact (pss_cons (ps_for ownE rfl (pi_range1 rfl T.f_range (pa_cons (pe_callB (G.call_max rfl) (by rfl) T.f_max G.bt_max (pa_cons pe_int (pa_cons (pe_callB (G.call_min rfl) (by rfl) T.f_min G.bt_min (pa_cons pe_int (pa_cons (pe_callB G.call_len (by rfl) T.f_len G.bt_len (pa_cons (pv 0) pa_nil)) pa_nil))) pa_nil))) pa_nil)) (pg_name (i := 1) sc_law.nd rfl (Or.inl rfl)) (tb := (t_law_3 K E)) (pss_cons (ps_set (i := 2) sc_law.nd rfl (Or.inr rfl) (G.pe_callG O_law_bag (hr.mono (by decide)) (by rfl) T.g__law_bag takesE (pa_cons (pv 0) (pa_cons (pv 1) pa_nil)))) (pss_cons (ps_asg (pe_tup (pa_cons (G.pe_callG O_law_names (hr.mono (by decide)) (by rfl) T.g__law_names takesE (pa_cons (pv 2) (pa_cons pe_int pa_nil))) (pa_cons (G.pe_callG O_law_names (hr.mono (by decide)) (by rfl) T.g__law_names takesE (pa_cons (pv 2) (pa_cons pe_int pa_nil))) pa_nil))) (pg_tup rfl (pgs_cons (pg_name (i := 3) sc_law.nd rfl (Or.inr rfl)) (pgs_cons (pg_name (i := 4) sc_law.nd rfl (Or.inr rfl)) pgs_nil)))) (pss_cons (ps_if (pt_cmpR (G.op_eq hu) (G.pe_callG O_law_take (hr.mono (by decide)) (by rfl) T.g__law_take takesE (pa_cons (pv 2) (pa_cons pe_int pa_nil))) pe_int (nomark _)) (pss_one (ps_set (i := 4) sc_law.nd rfl (Or.inr rfl) (pe_lst (pa_cons (pe_ix G.ix_seq (pv 4) pe_int (fun _ _ => rfl)) (pa_cons (pe_ix G.ix_seq (pv 4) pe_int (fun _ _ => rfl)) pa_nil))))) pss_nil) (pss_one (ps_for ownE rfl (pi_range1 rfl T.f_range (pa_cons pe_int pa_nil)) (pg_name (i := 5) sc_law.nd rfl (Or.inl rfl)) (tb := (t_law_2 K E)) (pss_cons (ps_set (i := 6) sc_law.nd rfl (Or.inr rfl) (G.pe_callG O_law_of (hr.mono (by decide)) (by rfl) T.g__law_of takesE (pa_cons (pv 2) (pa_cons (pe_lst (pa_cons pe_int (pa_cons pe_int (pa_cons (pe_op G.op_mul pe_int (G.pe_kpow (by decide) (by decide +kernel))) (pa_cons (pe_op G.op_mul (pe_un G.un_neg pe_int) (G.pe_kpow (by decide) (by decide +kernel))) (pa_cons (G.pe_callG O_law_far (hr.mono (by decide)) (by rfl) T.g__law_far takesE (pa_cons (pv 2) (pa_cons (G.pe_kpow (by decide) (by decide +kernel)) pa_nil))) pa_nil)))))) pa_nil)))) (pss_cons (ps_setLc (i := 7) (own := [("each", 12)]) (g := (gName 12)) (tt := tYes) (te := (tCallG (sp_law_row K) [] wN (tCons (tVar 2) (tCons (tVar 3) (tCons (tVar 4) (tCons (tVar 6) tNil)))))) rfl sc_law.nd rfl rfl (sw_true rfl rfl rfl (by decide +kernel)) (pi_range1 rfl T.f_range (pa_cons pe_int pa_nil)) (blkOk_by (N := N_law) (sc := defScope s_law) (by decide +kernel)) (fun _ _ _ _ _ => (pg_name (i := 12) sc_law.nd rfl (Or.inl rfl))) (fun _ _ _ _ _ => pts_nil) (fun _ _ _ _ _ => (G.pe_callG O_law_row (hr.mono (by decide)) (by rfl) T.g__law_row takes0 (pa_cons (pv 2) (pa_cons (pv 3) (pa_cons (pv 4) (pa_cons (pv 6) pa_nil))))))) (pss_cons (ps_if (pt_cmpR G.op_gt (pv 5) pe_int (nomark _)) (pss_cons (ps_asg (pe_ifExp (pt_cmpR (G.op_eq hu) (pe_ix G.ix_seq (pe_ix G.ix_seq (pv 7) pe_int (fun _ _ => rfl)) pe_int (fun _ _ => rfl)) pe_str (nomark _)) pe_str pe_str) (pg_sub (pe_ix G.ix_seq (pv 7) pe_int (fun _ _ => rfl)) pe_int set_list)) (pss_one (ps_asg (pe_ifExp (pt_cmpR (G.op_eq hu) (pe_ix G.ix_seq (pe_ix G.ix_seq (pv 7) pe_int (fun _ _ => rfl)) pe_int (fun _ _ => rfl)) (pe_ix G.ix_seq (pv 3) pe_int (fun _ _ => rfl)) (nomark _)) (pe_ix G.ix_seq (pv 3) pe_int (fun _ _ => rfl)) (pe_ix G.ix_seq (pv 3) pe_int (fun _ _ => rfl))) (pg_sub (pe_ix G.ix_seq (pv 7) pe_int (fun _ _ => rfl)) pe_int set_list)))) pss_nil) (pss_cons (ps_set (i := 8) sc_law.nd rfl (Or.inl rfl) (G.pe_makeG T.mk_Order O_Order_init (hr.mono (by decide)) (by rfl) T.g_Order takesE (pa_cons (pe_ix G.ix_seq (pe_ix G.ix_seq (pv 7) pe_int (fun _ _ => rfl)) pe_int (fun _ _ => rfl)) (pa_cons (pe_ix G.ix_seq (pe_ix G.ix_seq (pv 7) pe_int (fun _ _ => rfl)) pe_int (fun _ _ => rfl)) (pa_cons (pe_ix G.ix_seq (pe_ix G.ix_seq (pv 7) pe_int (fun _ _ => rfl)) pe_int (fun _ _ => rfl)) (pa_cons (pe_ix G.ix_seq (pe_ix G.ix_seq (pv 7) pe_int (fun _ _ => rfl)) pe_int (fun _ _ => rfl)) (pa_cons (pe_ix G.ix_seq (pe_ix G.ix_seq (pv 7) pe_int (fun _ _ => rfl)) pe_int (fun _ _ => rfl)) pa_nil))))))) (pss_cons (ps_set (i := 9) sc_law.nd rfl (Or.inl rfl) (G.pe_makeG T.mk_Order O_Order_init (hr.mono (by decide)) (by rfl) T.g_Order takesE (pa_cons (pe_ix G.ix_seq (pe_ix G.ix_seq (pv 7) pe_int (fun _ _ => rfl)) pe_int (fun _ _ => rfl)) (pa_cons (pe_ix G.ix_seq (pe_ix G.ix_seq (pv 7) pe_int (fun _ _ => rfl)) pe_int (fun _ _ => rfl)) (pa_cons (pe_ix G.ix_seq (pe_ix G.ix_seq (pv 7) pe_int (fun _ _ => rfl)) pe_int (fun _ _ => rfl)) (pa_cons (pe_ix G.ix_seq (pe_ix G.ix_seq (pv 7) pe_int (fun _ _ => rfl)) pe_int (fun _ _ => rfl)) (pa_cons (pe_ix G.ix_seq (pe_ix G.ix_seq (pv 7) pe_int (fun _ _ => rfl)) pe_int (fun _ _ => rfl)) pa_nil))))))) (pss_cons (ps_set (i := 10) sc_law.nd rfl (Or.inl rfl) (G.pe_callG O_law_due (hr.mono (by decide)) (by rfl) T.g__law_due takesE (pa_cons (pe_ix G.ix_seq (pv 7) pe_int (fun _ _ => rfl)) (pa_cons (pe_ix G.ix_seq (pv 7) pe_int (fun _ _ => rfl)) pa_nil)))) (pss_cons (ps_for ownE rfl (G.pi_seq (pe_lst (pa_cons (G.pe_callG O_meets (hr.mono (by decide)) (by rfl) T.g_meets takesE (pa_cons (pv 8) (pa_cons (pv 9) pa_nil))) (pa_cons (G.pe_callG O_meets (hr.mono (by decide)) (by rfl) T.g_meets takesE (pa_cons (pv 9) (pa_cons (pv 8) pa_nil))) (pa_cons (G.pe_callG O_meets (hr.mono (by decide)) (by rfl) T.g_meets takesE (pa_cons (pv 8) (pa_cons (pv 9) pa_nil))) pa_nil))))) (pg_name (i := 11) sc_law.nd rfl (Or.inl rfl)) (tb := (t_law_1 K E)) (pss_one (ps_if (pw_or (pt_not (pt_val (pe_callB G.call_isi (by rfl) T.f_isinstance G.bt_isinstance (pa_cons (pv 11) (pa_cons (pe_bltn (v := .ty "bool") (by rfl) T.f_bool G.bt_bool rfl) pa_nil))) (by intro _; rfl))) (pw_or1 (pt_cmpR (G.op_ne hu) (pv 11) (pv 10) (nomark _)))).pt (pss_one (ps_ret pe_bl)) pss_nil))) (pss_cons (ps_if (pw_or (pt_cmpR G.op_isnot (G.pe_callG O_meets (hr.mono (by decide)) (by rfl) T.g_meets takesE (pa_cons (pv 8) (pa_cons (pv 8) pa_nil))) pe_bl (nomark _)) (pw_or1 (pt_cmpR G.op_isnot (G.pe_callG O_meets (hr.mono (by decide)) (by rfl) T.g_meets takesE (pa_cons (pv 9) (pa_cons (pv 9) pa_nil))) pe_bl (nomark _)))).pt (pss_one (ps_ret pe_bl)) pss_nil) (pss_cons (ps_if (pt_cmpR (G.op_ne hu) (pe_lst (pa_cons (pe_fld (pv 8) rfl) (pa_cons (pe_fld (pv 8) rfl) (pa_cons (pe_fld (pv 8) rfl) (pa_cons (pe_fld (pv 8) rfl) (pa_cons (pe_fld (pv 8) rfl) pa_nil)))))) (pe_ix G.ix_seq (pv 7) pe_int (fun _ _ => rfl)) (nomark _)) (pss_one (ps_ret pe_bl)) pss_nil) (pss_one (ps_if (pt_cmpR (G.op_ne hu) (pe_lst (pa_cons (pe_fld (pv 9) rfl) (pa_cons (pe_fld (pv 9) rfl) (pa_cons (pe_fld (pv 9) rfl) (pa_cons (pe_fld (pv 9) rfl) (pa_cons (pe_fld (pv 9) rfl) pa_nil)))))) (pe_ix G.ix_seq (pv 7) pe_int (fun _ _ => rfl)) (nomark _)) (pss_one (ps_ret pe_bl)) pss_nil))))))))))))))))) (pss_one (ps_ret pe_bl)))
end
end L

set_option hygiene false in
local macro_rules | `(tactic| walk_at "mem") => `(tactic| first | assumption | with_reducible exact List.mem_cons_self | ((with_reducible apply List.mem_cons_of_mem); walk_at "mem") | ((with_reducible apply List.mem_append_right); walk_at "mem") | ((with_reducible apply List.mem_append_left); walk_at "mem"))
set_option hygiene false in
local macro_rules | `(tactic| walk_at "rpl") => `(tactic| first | with_reducible exact Rpl.here | ((with_reducible apply Rpl.there); walk_at "rpl") | ((with_reducible apply Rpl.app); walk_at "rpl"))
set_option hygiene false in
local macro_rules | `(tactic| walk_at "pick") => `(tactic| first | with_reducible exact Pick.here | ((with_reducible apply Pick.there); walk_at "pick") | ((with_reducible apply Pick.app); walk_at "pick"))
set_option hygiene false in
local macro_rules | `(tactic| walk_at "ord") => `(tactic| first | with_reducible exact Ord.refl | ((with_reducible apply Ord.cons); (· walk_at "pick"); walk_at "ord") | ((with_reducible apply Ord.drop); walk_at "ord") | ((with_reducible apply Ord.dropA); walk_at "ord"))
set_option hygiene false in
local macro_rules | `(tactic| walk_at "end") => `(tactic| exact SH.ord hS (by walk_at "ord"))
set_option hygiene false in
local macro_rules | `(tactic| walk_at "isl") => `(tactic| first | assumption | ((with_reducible apply IsL.here); walk_at "mem") | ((with_reducible apply IsL.frz); walk_at "mem") | ((with_reducible apply IsL.cons); walk_at "isl") | ((with_reducible apply IsL.app); walk_at "isl"))
set_option hygiene false in
local macro_rules | `(tactic| walk_at "ist") => `(tactic| first | assumption | ((with_reducible apply IsT.here); walk_at "mem") | ((with_reducible apply IsT.cons); walk_at "ist") | ((with_reducible apply IsT.app); walk_at "ist"))
set_option hygiene false in
local macro_rules | `(tactic| walk_at "iss") => `(tactic| first | assumption | ((with_reducible apply IsS.lst); walk_at "isl") | ((with_reducible apply IsS.tup); walk_at "ist") | ((with_reducible apply IsS.cons); walk_at "iss") | ((with_reducible apply IsS.app); walk_at "iss"))
set_option hygiene false in
local macro_rules | `(tactic| walk_at "seta") => `(tactic| first | exact SetAt.z | (apply SetAt.s; walk_at "seta"))
set_option hygiene false in
local macro_rules | `(tactic| walk_at "dec") => `(tactic| first | rfl | assumption | omega | decide +kernel | (simp only [decide_eq_true_eq, decide_eq_false_iff_not, Bool.not_eq_true', Bool.not_eq_false', Bool.not_eq_true, Bool.false_eq_true, not_false_eq_true, reduceCtorEq, Classical.not_not] <;> first | assumption | omega))
set_option hygiene false in
local macro_rules | `(tactic| walk_at "om") => `(tactic| first | omega | ((simp only [List.length_map, List.length_append, List.length_cons, List.length_nil, List.length_take, List.length_set, List.length_replicate, len_app]); omega) | (simp only [List.length_map, List.length_append, List.length_cons, List.length_nil, List.length_take, List.length_set, List.length_replicate, len_app] at *; omega))
set_option hygiene false in
local macro_rules | `(tactic| walk_at "wipe") => `(tactic| (simp only [wipe, List.set_cons_succ, List.set_cons_zero]; exact rfl))
set_option hygiene false in
local macro_rules | `(tactic| walk_at "kit") => `(tactic| first | exact k_int_int | exact k_int_bool | exact k_int_str | exact k_str_str | exact k_str_int | exact k_bool_int | exact k_bool_bool | exact rfl)
set_option hygiene false in
local macro_rules | `(tactic| walk_at "s1") => `(tactic| first
  | ((with_reducible apply st_var); (· exact rfl))
  | with_reducible refine st_c ?_
  | with_reducible refine st_op ?_
  | with_reducible refine st_cb ?_
  | with_reducible refine st_cons ?_
  | with_reducible refine st_nil ?_
  | with_reducible refine st_seq ?_
  | with_reducible refine st_asg ?_
  | ((with_reducible apply st_name); (· walk_at "seta"))
  | with_reducible refine st_addI ?_
  | with_reducible refine st_sub_ ?_
  | ((with_reducible refine st_mulI ?_ ?_); (· (first | (exact .inl (by omega)) | (exact .inr (by omega)))))
  | ((with_reducible refine st_mod ?_ ?_); (· omega))
  | ((with_reducible refine st_fdv ?_ ?_ ?_); (· omega); (· omega))
  | ((with_reducible refine st_pow ?_ ?_); (· decide))
  | with_reducible refine st_lt ?_
  | with_reducible refine st_le ?_
  | with_reducible refine st_gt ?_
  | with_reducible refine st_ge ?_
  | with_reducible refine st_eqI ?_
  | with_reducible refine st_neI ?_
  | with_reducible refine st_eqS ?_
  | with_reducible refine st_neS ?_
  | with_reducible refine st_eqB ?_
  | with_reducible refine st_neB ?_
  | with_reducible refine st_isN ?_
  | with_reducible refine st_isnotN ?_
  | with_reducible refine st_isB ?_
  | with_reducible refine st_isnotB ?_
  | with_reducible refine st_test ?_
  | with_reducible refine st_B ?_
  | with_reducible refine st_bl ?_
  | with_reducible refine st_ifS ?_
  | with_reducible refine st_ret ?_
  | with_reducible refine st_next ?_
  | with_reducible refine st_and ?_
  | with_reducible refine st_or ?_
  | with_reducible refine st_not ?_
  | with_reducible refine st_andV ?_
  | with_reducible refine st_orV ?_
  | with_reducible refine st_notV ?_
  | with_reducible refine st_if ?_
  | with_reducible refine st_un ?_
  | with_reducible refine st_neg ?_
  | with_reducible refine st_tup ?_
  | with_reducible refine st_lst ?_
  | ((with_reducible refine st_newS ?_ hS ?_); (· first | decide | assumption | omega | (simp only [List.length_cons, List.length_nil]; omega) | (simp; omega) | simp); clear hS; intro p H hS)
  | ((with_reducible apply st_ixL hS); (· walk_at "isl"); (· exact rfl))
  | ((with_reducible apply st_ixT hS); (· walk_at "ist"); (· exact rfl))
  | with_reducible refine st_sl ?_
  | with_reducible refine st_nopart ?_
  | with_reducible refine st_part ?_
  | with_reducible refine st_partI ?_
  | ((with_reducible apply st_slL hS); (· walk_at "isl"); clear hS; intro p H hS)
  | ((with_reducible apply st_lenL hS); (· walk_at "isl"))
  | ((with_reducible apply st_lenT hS); (· walk_at "ist"))
  | ((with_reducible refine st_lenS ?_ ?_); (· first | exact small_len (by omega) | decide +kernel))
  | ((with_reducible refine st_lstStr hS ?_ ?_); (· first | exact small_len (by omega) | decide +kernel); clear hS; intro p H hS)
  | ((with_reducible refine st_slS ?_ ?_); (· first | exact small_len (by omega) | decide +kernel))
  | ((with_reducible refine st_addS ?_ ?_); (· exact small_len (by omega)))
  | ((with_reducible apply st_append hS); (· walk_at "mem"); (· exact Nat.lt_of_le_of_lt (show _ ≤ 1000 by walk_at "om") (by decide)); (· walk_at "rpl"); clear hS; intro H hS)
  | with_reducible refine st_intI ?_
  | with_reducible refine st_abs ?_
  | with_reducible refine st_max2 ?_
  | with_reducible refine st_min2 ?_
  | ((with_reducible apply st_tupL hS); (· walk_at "isl"); clear hS; intro p H hS)
  | ((with_reducible apply st_tupT hS); (· walk_at "ist"))
  | ((with_reducible apply st_lstS hS); (· walk_at "iss"); clear hS; intro p H hS)
  | with_reducible refine st_sub ?_
  | ((with_reducible apply st_setL hS); (· walk_at "mem"); (· exact rfl); (· walk_at "rpl"); clear hS; intro H hS)
  | with_reducible refine st_bm ?_
  | with_reducible refine st_bm0 ?_
  | ((with_reducible apply st_tyl hS); (· walk_at "mem"))
  | with_reducible refine st_drop ?_
  | with_reducible refine st_callG ?_
  | with_reducible refine st_methG ?_
  | with_reducible refine st_makeG ?_
  | ((with_reducible refine st_made hS ?_); clear hS; intro x dx H hS)
  | with_reducible refine st_yes ?_
  | with_reducible refine ifTt ?_
  | with_reducible refine ifFf ?_
  | with_reducible refine st_wip rfl ?_
  | with_reducible refine st_chain ?_
  | with_reducible refine st_fld ?_
  | ((with_reducible apply st_fldA hS); (· walk_at "mem"); (· walk_at "cls"); (· walk_at "noat"); (· exact rfl))
  | with_reducible refine st_sfld ?_
  | ((with_reducible apply st_sfldA hS); (· walk_at "mem"); (· walk_at "cls"); (· walk_at "noat"); (· (simp only [List.length_cons, List.length_nil]; omega)); (· exact rfl); (· walk_at "rpl"); clear hS; intro H hS; try simp only [List.cons_append, List.nil_append] at hS)
  | ((with_reducible apply st_isiI); (· walk_at "kit"))
  | ((with_reducible apply st_isiS); (· walk_at "kit"))
  | ((with_reducible apply st_isiB); (· walk_at "kit"))
  | ((with_reducible apply st_isiN); (· walk_at "kit"))
  | ((with_reducible apply st_isiL hS); (· walk_at "mem"); (· walk_at "kit"))
  | ((with_reducible apply st_isiU hS); (· walk_at "mem"); (· walk_at "kit"))
  | with_reducible refine st_tys ?_
  | ((with_reducible refine st_isasciiL ?_ ?_); (· assumption))
  | ((with_reducible refine st_isalphaL ?_ ?_ ?_); (· assumption); (· assumption))
  | ((with_reducible refine st_islowerL ?_ ?_ ?_); (· assumption); (· assumption))
  | ((with_reducible apply st_ninF hS); (· walk_at "iss"); (· exact rfl); (· first | exact rfl | exact flat_strs _))
  | ((with_reducible apply st_inF hS); (· walk_at "iss"); (· exact rfl); (· first | exact rfl | exact flat_strs _))
  | with_reducible refine st_nonE ?_
  | with_reducible refine st_for ?_
  | with_reducible refine st_iseq ?_
  | with_reducible refine st_irng1 ?_
  | with_reducible refine st_irng2 ?_
  | ((with_reducible refine st_rng1 ?_ ?_ ?_); (· omega); (· omega))
  | ((with_reducible refine st_rng2 ?_ ?_); (· omega))
  | with_reducible refine st_ienum ?_
  | ((with_reducible apply st_enum hS); (· walk_at "isl"))
  | with_reducible refine st_izip ?_
  | ((with_reducible apply st_zip hS); (· walk_at "isl"); (· walk_at "isl"))
  | ((with_reducible apply st_seqL hS); (· walk_at "isl"))
  | ((with_reducible apply st_seqT hS); (· walk_at "ist"))
  | with_reducible refine st_lc ?_
  | ((with_reducible apply st_gtup hS); (· walk_at "ist"); (· exact rfl))
  | with_reducible refine st_gcons ?_
  | with_reducible refine st_gnil ?_
  | with_reducible refine st_tpar ?_
  | ((with_reducible apply st_par); (· walk_at "seta"); (· walk_at "seta"))
  | with_reducible refine st_tpar3 ?_
  | ((with_reducible apply st_par3); (· walk_at "seta"); (· walk_at "seta"); (· walk_at "seta"))
  | ((with_reducible refine ifT ?_ ?_); (· walk_at "dec"))
  | ((with_reducible refine ifF ?_ ?_); (· walk_at "dec")))
set_option hygiene false in
local macro_rules | `(tactic| walk_at "go") => `(tactic| repeat (first | walk_at "s1" | walk_at "s2"))
set_option hygiene false in
local macro_rules | `(tactic| walk_at "cls") => `(tactic| first | with_reducible exact T.c_Order)
set_option hygiene false in
local macro_rules | `(tactic| walk_at "noat") => `(tactic| first | with_reducible exact T.n_Order_member | with_reducible exact T.n_Order_thing | with_reducible exact T.n_Order_side | with_reducible exact T.n_Order_count | with_reducible exact T.n_Order_limit)
namespace L
open PySem PySem.Spec PyProof.Rows L2 G
/-! ### the draws keep their promises -/
section
variable {K : PySem.W.Frag} {L R : Led} {H : Hp} {Q : VK} {E : XK}
theorem len_law_take (vs : List V) (H : Hp) (Q : VK) (E : XK) (h : sp_law_take K vs H Q E) : vs.length = 2 := by
  obtain ⟨_, _, _, rfl, _⟩ := h
  rfl
theorem pure_law_take (vs : List V) (H : Hp) (Q : VK) (E : XK) (h : sp_law_take K vs H Q E) : t_law_take K E { nx := fun _ H' => Q .non H', rt := Q } (start N_law_take vs) H := by
  obtain ⟨bag, many, L, rfl, ⟨a, b, hS⟩, h0, h1, k⟩ := h
  rw [st_law_take]
  unfold t_law_take
  walk_at "go"
  refine ifD (fun c => ?_) fun c => ?_
  · walk_at "go"
    exact k _ _ (Int.emod_nonneg _ (by omega)) (Int.emod_lt_of_pos _ h0) ⟨_, _, hS⟩
  · walk_at "go"
    exact k _ _ (Int.emod_nonneg _ (by omega)) (Int.emod_lt_of_pos _ h0) ⟨_, _, hS⟩
theorem st_take {bag : Addr} {many a b : Int} (h : SH L H) (pk : Pick (bag, .lst [.int a, .int b]) L R) (h0 : 0 < many) (h1 : many < 1073741824)
    (k : ∀ r a b H, 0 ≤ r → r < many → SH ((bag, .lst [.int a, .int b]) :: R) H → Q (.int r) H) : sp_law_take K ([.ref bag, .int many] ++ []) H Q E :=
  ⟨bag, many, R, rfl, ⟨a, b, h.pick pk⟩, h0, h1, fun r H h2 h3 ⟨a, b, h4⟩ => k r a b H h2 h3 h4⟩
end

set_option hygiene false in
local macro_rules | `(tactic| walk_at "s2") => `(tactic| first
  | ((with_reducible apply st_take hS); (· walk_at "pick"); (· walk_at "om"); (· walk_at "om"); clear hS; intro r a b H hr0 hr1 hS))
section
variable {K : PySem.W.Frag} {L R : Led} {H : Hp} {Q : VK} {E : XK}
theorem len_law_bag (vs : List V) (H : Hp) (Q : VK) (E : XK) (h : sp_law_bag K vs H Q E) : vs.length = 2 := by
  obtain ⟨_, _, _, _, rfl, _⟩ := h
  rfl
theorem len_law_of (vs : List V) (H : Hp) (Q : VK) (E : XK) (h : sp_law_of K vs H Q E) : vs.length = 2 := by
  obtain ⟨_, _, _, _, rfl, _⟩ := h
  rfl
theorem len_law_far (vs : List V) (H : Hp) (Q : VK) (E : XK) (h : sp_law_far K vs H Q E) : vs.length = 2 := by
  obtain ⟨_, _, _, rfl, _⟩ := h
  rfl
theorem len_law_names (vs : List V) (H : Hp) (Q : VK) (E : XK) (h : sp_law_names K vs H Q E) : vs.length = 2 := by
  obtain ⟨_, _, _, rfl, _⟩ := h
  rfl
theorem pure_law_bag (vs : List V) (H : Hp) (Q : VK) (E : XK) (h : sp_law_bag K vs H Q E) : t_law_bag K E { nx := fun _ H' => Q .non H', rt := Q } (start N_law_bag vs) H := by
  obtain ⟨sc, at_, ns, L, rfl, hS, hl, h0, h1, hn, k⟩ := h
  rw [st_law_bag]
  unfold t_law_bag
  walk_at "go"
  refine st_cutE (fun v H => ∃ i, v = .int i ∧ SH L H) (fun Q' hQ => ?_) ?_
  · refine ifD (fun c => ?_) fun c => ?_
    · walk_at "go"
      obtain ⟨v, e, m⟩ := atI_of (xs := ns.map V.int) h0 (of_decide_eq_true c)
      obtain ⟨i, rfl, _⟩ := mem_int m
      exact st_ixL hS hl e (hQ _ _ ⟨i, rfl, hS⟩)
    · walk_at "go"
      exact hQ _ _ ⟨0, rfl, hS⟩
  clear hS
  rintro v H ⟨cell, rfl, hS⟩
  walk_at "go"
  refine fp_enum (cutV (ns.map V.int) none (some 60)) (fun i σ L' => ∃ mx x y, σ = [some (.ref sc), some (.int at_), some (.int cell), some (.int mx), x, y] ∧ L' = (p, HO.lst (cutV (ns.map V.int) none (some 60))) :: L) hS ⟨_, _, _, rfl, rfl⟩ ?_ ?_ ?_
  · rintro i σ L' ⟨_, _, _, _, rfl⟩
    exact .here List.mem_cons_self
  · clear hS H
    rintro i x σ L' H T hx ⟨mx, _, _, rfl, rfl⟩ hS
    obtain ⟨z, rfl, _⟩ := mem_int (mem_cutV (List.mem_of_getElem? hx))
    unfold t_law_bag_1
    walk_at "go"
    exact ⟨_, ⟨_, _, _, rfl, rfl⟩, hS.tail⟩
  · clear hS H
    rintro σ L' H ⟨mx, _, _, rfl, rfl⟩ hS
    walk_at "go"
    refine ifD (fun c => ?_) fun c => ?_
    · walk_at "go"
      exact k _ _ ⟨_, _, hS.sub ((List.sublist_cons_self _ _).cons₂ _)⟩
    · walk_at "go"
      exact k _ _ ⟨_, _, hS.sub ((List.sublist_cons_self _ _).cons₂ _)⟩
theorem pure_law_far (vs : List V) (H : Hp) (Q : VK) (E : XK) (h : sp_law_far K vs H Q E) : t_law_far K E { nx := fun _ H' => Q .non H', rt := Q } (start N_law_far vs) H := by
  obtain ⟨bag, most, L, rfl, ⟨a, b, hS⟩, h0, k⟩ := h
  rw [st_law_far]
  unfold t_law_far
  walk_at "go"
  exact k _ _ (Int.emod_nonneg _ (by omega)) (Int.le_of_lt_add_one (Int.emod_lt_of_pos _ (by omega))) ⟨_, _, hS⟩
end

def psg (c : Nat) : V := .str ⟨#[c]⟩
theorem sgns_alpha : G.sgns "abcdefghijklmnopqrstuvwxyz" = alpha.map psg := by decide +kernel
section
variable {K : PySem.W.Frag} {L R : Led} {H : Hp} {Q : VK} {E : XK}
theorem pure_law_of (vs : List V) (H : Hp) (Q : VK) (E : XK) (h : sp_law_of K vs H Q E) : t_law_of K E { nx := fun _ H' => Q .non H', rt := Q } (start N_law_of vs) H := by
  obtain ⟨bag, p, xs, L, rfl, ⟨a, b, hS⟩, hx, h0, h1, k⟩ := h
  rw [st_law_of]
  unfold t_law_of
  walk_at "go"
  obtain ⟨v, e, m⟩ := atI_of (xs := xs) hr0 hr1
  exact st_ixL hS hx.cons e (k _ _ m ⟨_, _, hS⟩)
theorem st_of {bag p : Addr} {xs : List V} {a b : Int} (h : SH L H) (pk : Pick (bag, .lst [.int a, .int b]) L R) (hx : IsL K R p xs) (h0 : 0 < xs.length) (h1 : xs.length < 1000)
    (k : ∀ v a b H, v ∈ xs → SH ((bag, .lst [.int a, .int b]) :: R) H → Q v H) : sp_law_of K ([.ref bag, .ref p] ++ []) H Q E :=
  ⟨bag, p, xs, R, rfl, ⟨a, b, h.pick pk⟩, hx, h0, h1, fun v H m ⟨a, b, h4⟩ => k v a b H m h4⟩
theorem stem_sign {v : V} (h : v ∈ [V.str "a", V.str "z", V.str "s", V.str "h", V.str "m"]) : ∃ s : Str, v = .str s ∧ Low s ∧ s.length = 1 := by
  simp only [List.mem_cons, List.not_mem_nil, or_false] at h
  rcases h with rfl | rfl | rfl | rfl | rfl <;> exact ⟨_, rfl, by decide +kernel, by decide +kernel⟩
/-- a name: the stem with a sign put into it -/
def put (st : Str) (k : Int) (c : Nat) : Str := cutS st none (some k) ++ ⟨#[c]⟩ ++ cutS st (some k) none
theorem cs_put {st : Str} {k : Int} {c : Nat} (h0 : 0 ≤ k) (h1 : k ≤ st.length) : cs (put st k c) = (cs st).take k.toNat ++ [c] ++ (cs st).drop k.toNat := by
  unfold put
  rw [cs_app, cs_app, cs_take h0 h1, cs_drop h0 h1]
theorem put_low {st : Str} {k : Int} {c : Nat} (h0 : 0 ≤ k) (h1 : k ≤ st.length) (hs : Low st) (hc : c ∈ alpha) : Low (put st k c) := fun d m => by
  rw [show (put st k c).cps.toList = _ from cs_put h0 h1] at m
  rcases List.mem_append.mp m with m | m
  · rcases List.mem_append.mp m with m | m
    · exact hs d (List.mem_of_mem_take m)
    · rw [List.mem_singleton.mp m]
      obtain ⟨i, hi, rfl⟩ := List.mem_map.mp hc
      have := List.mem_range.mp hi
      omega
  · exact hs d (List.mem_of_mem_drop m)
theorem put_len {st : Str} {k : Int} {c : Nat} (h0 : 0 ≤ k) (h1 : k ≤ st.length) : (put st k c).length = st.length + 1 := by
  rw [← cs_len, cs_put h0 h1, List.length_append, List.length_append, List.length_take, List.length_drop, cs_len, List.length_singleton]
  omega
theorem put_inj {st : Str} {k : Int} {c d : Nat} (h0 : 0 ≤ k) (h1 : k ≤ st.length) (e : put st k c = put st k d) : c = d := by
  have e2 := congrArg cs e
  rw [cs_put h0 h1, cs_put h0 h1, List.append_assoc, List.append_assoc] at e2
  have e3 := List.append_cancel_left e2
  exact (List.cons.inj e3).1
end

theorem sg_len (c : Nat) : (⟨#[c]⟩ : Str).length = 1 := rfl
theorem cut_len1 {st : Str} {k : Int} (h0 : 0 ≤ k) (h1 : k ≤ st.length) : (cutS st none (some k)).length ≤ st.length := by
  rw [← cs_len, cs_take h0 h1, List.length_take, cs_len]
  omega
theorem cut_len2 {st : Str} {k : Int} (h0 : 0 ≤ k) (h1 : k ≤ st.length) : (cutS st (some k) none).length ≤ st.length := by
  rw [← cs_len, cs_drop h0 h1, List.length_drop, cs_len]
  omega
theorem alpha_nd : alpha.Nodup := by decide +kernel
theorem alpha_len : alpha.length = 26 := by decide +kernel
theorem map_nodup {α β : Type} {f : α → β} {xs : List α} (h : xs.Nodup) (inj : ∀ a b, f a = f b → a = b) : (xs.map f).Nodup := List.Pairwise.map f (fun _ _ n e => n (inj _ _ e)) h
theorem q_inj {x y z : Str} (e : x ++ z = y ++ z) : x = y := by
  have e2 := congrArg cs e
  rw [cs_app, cs_app] at e2
  exact cs_ext (List.append_cancel_right e2)
section
variable {K : PySem.W.Frag} {L R : Led} {H : Hp} {Q : VK} {E : XK}
theorem pure_law_names (vs : List V) (H : Hp) (Q : VK) (E : XK) (h : sp_law_names K vs H Q E) : t_law_names K E { nx := fun _ H' => Q .non H', rt := Q } (start N_law_names vs) H := by
  obtain ⟨bag, many, L, rfl, ⟨a, b, hS⟩, h0, h1, k⟩ := h
  rw [st_law_names]
  unfold t_law_names
  walk_at "go"
  rename_i pl H1 H2
  rw [sgns_alpha] at hS
  refine fp_range (fun i σ L' => ∃ stem t a b, σ = [some (.ref bag), some (.int many), some (.ref pl), some (.ref p), some (.str stem), t, none, none] ∧ stem.length ≤ i ∧ Low stem ∧
    L' = (bag, HO.lst [.int a, .int b]) :: (p, .lst []) :: (pl, .lst (alpha.map psg)) :: L) (by walk_at "end") ⟨_, _, _, _, rfl, Nat.le_refl _, (show Low "" by decide +kernel), rfl⟩ ?_ ?_
  · clear hS
    rintro i σ L' H hi ⟨stem, t, a, b, rfl, hl, hw, rfl⟩ hS
    unfold t_law_names_2
    walk_at "go"
    refine st_of hS (by walk_at "pick") (by walk_at "isl") (by decide) (by decide) ?_
    clear hS
    intro v a b H m hS
    obtain ⟨s, rfl, sl, s1⟩ := stem_sign m
    refine st_addS (small_len (by omega)) ?_
    walk_at "go"
    refine ⟨_, ⟨_, _, _, _, rfl, ?_, hw.app sl, rfl⟩, by walk_at "end"⟩
    rw [len_app]
    omega
  clear hS
  rintro σ L' H ⟨stem, t, a, b, rfl, hl, hw, rfl⟩ hS
  have hl : stem.length ≤ 10 := by omega
  walk_at "go"
  have d1 : many = ((many.toNat : Nat) : Int) := by omega
  rename_i st1 _ _ _ _ _
  refine fp_range (fun i σ L' => ∃ us lt t a b, σ = [some (.ref bag), some (.int many), some (.ref pl), some (.ref p), some (.str stem), t, some (.int r), none] ∧ (us ++ lt).Perm alpha ∧ us.length = i ∧
    L' = (bag, HO.lst [.int a, .int b]) :: (p, .lst ((us.map (put stem r)).map V.str)) :: (pl, .lst (lt.map psg)) :: L) hS ⟨[], alpha, _, _, _, rfl, List.Perm.refl _, rfl, rfl⟩ ?_ ?_
  · clear hS
    rintro i σ L' H hi ⟨us, lt, t, a, b, rfl, hp, hu, rfl⟩ hS
    have ll := hp.length_eq
    rw [List.length_append, alpha_len] at ll
    have c1 := cut_len1 hr0 (by omega : r ≤ stem.length)
    have c2 := cut_len2 hr0 (by omega : r ≤ stem.length)
    unfold t_law_names_1
    walk_at "go"
    rw [List.length_map] at hr1
    have hk : r.toNat < lt.length := by omega
    have hv : (lt.map psg)[r.toNat]? = some (psg lt[r.toNat]) := by simp [hk]
    refine st_popAt hS (by walk_at "mem") (by omega) (by omega) (PySem.seqIndex_of hr0 (by rw [List.length_map]; omega)) hv (by walk_at "rpl") ?_
    clear hS
    intro H hS
    generalize hc : lt[r.toNat] = c at hS hv
    refine st_addS (small_len (by rw [sg_len]; omega)) ?_
    walk_at "go"
    refine st_addS (small_len (by rw [len_app, sg_len]; omega)) ?_
    walk_at "go"
    refine ⟨_, ⟨us ++ [c], lt.eraseIdx r.toNat, _, a, b, rfl, ?_, by simp [hu], ?_⟩, hS⟩
    · rw [List.append_assoc]
      refine List.Perm.trans (List.Perm.append_left us ?_) hp
      rw [← hc]
      exact erase_perm _ _ hk
    · rw [List.map_append, List.map_append, erase_map]
      rfl
  clear hS
  rintro σ L' H ⟨us, lt, t, a, b, rfl, hp, hu, rfl⟩ hS
  have hrs : r ≤ (stem.length : Int) := by omega
  have hnd : us.Nodup := (List.nodup_append.mp (hp.nodup_iff.mpr alpha_nd)).1
  have hal : ∀ c ∈ us, c ∈ alpha := fun c m => hp.mem_iff.mp (List.mem_append_left _ m)
  walk_at "go"
  refine ifD (fun c => ?_) fun c => ?_
  · walk_at "go"
    refine lp_list ((us.map (put stem r)).map V.str) (fun i acc L' => acc = ((us.map (put stem r)).take i).map (fun s => V.str (s ++ ("q" : Str))) ∧ L' = (bag, HO.lst [.int a, .int b]) :: (p, .lst ((us.map (put stem r)).map V.str)) :: L) (by walk_at "wipe") (by walk_at "end") ⟨rfl, rfl⟩ ?_ ?_ ?_
    · rintro i acc L' ⟨_, rfl⟩
      walk_at "isl"
    · clear hS
      rintro i x acc Dl L' H hx ⟨rfl, rfl⟩ hS
      rw [List.getElem?_map] at hx
      obtain ⟨s, hs, rfl⟩ := Option.map_eq_some_iff.mp hx
      walk_at "go"
      obtain ⟨c, hc, rfl⟩ := List.mem_map.mp (List.mem_of_getElem? hs)
      refine st_addS (small_len (by rw [put_len hr0 hrs]; show _ + 1 ≤ _; omega)) ?_
      refine ac_add hS .here (Nat.lt_of_le_of_lt (show _ ≤ 1000 by walk_at "om") (by decide)) ⟨?_, rfl⟩
      rw [List.take_succ, hs, List.map_append]
      rfl
    · clear hS
      rintro acc Dl L' H ⟨rfl, rfl⟩ hS
      rw [List.length_map, List.take_length] at hS
      rw [show (us.map (put stem r)).map (fun s => V.str (s ++ ("q" : Str))) = ((us.map (put stem r)).map (· ++ ("q" : Str))).map V.str by simp only [List.map_map]; rfl] at hS
      refine k _ ((us.map (put stem r)).map (· ++ ("q" : Str))) _ (by rw [List.length_map, List.length_map, hu]; omega) (map_nodup (map_nodup hnd fun _ _ e => put_inj hr0 hrs e) fun _ _ e => q_inj e) (fun s m => ?_) ⟨_, _, by walk_at "end"⟩
      obtain ⟨s, m1, rfl⟩ := List.mem_map.mp m
      obtain ⟨c, mc, rfl⟩ := List.mem_map.mp m1
      have e : (put stem r c ++ ("q" : Str)).length = stem.length + 2 := by rw [len_app, put_len hr0 hrs]; rfl
      refine ⟨by omega, by omega, (put_low hr0 hrs hw (hal c mc)).app (by decide +kernel), fun z => ?_⟩
      have e2 := congrArg (fun x => (cs x).getLast?) z
      simp only [cs_app] at e2
      rw [List.getLast?_append] at e2
      rw [show (cs ("q" : Str)).getLast? = some 113 by decide +kernel, show (cs ("cash" : Str)).getLast? = some 104 by decide +kernel] at e2
      exact absurd (Option.some.inj e2) (by decide)
  · walk_at "go"
    have nc := not_inV (Bool.eq_false_iff.mpr c)
    refine k _ (us.map (put stem r)) _ (by rw [List.length_map, hu]; omega) (map_nodup hnd fun _ _ e => put_inj hr0 hrs e) (fun s m => ?_) ⟨_, _, by walk_at "end"⟩
    refine ⟨?_, ?_, ?_, fun z => nc (z ▸ m)⟩
    all_goals
      obtain ⟨c, mc, rfl⟩ := List.mem_map.mp m
      have e : (put stem r c).length = stem.length + 1 := put_len hr0 hrs
    · omega
    · omega
    · exact put_low hr0 hrs hw (hal c mc)
end

section
variable {K : PySem.W.Frag} {L R : Led} {H : Hp} {Q : VK} {E : XK} {bag : Addr} {a b : Int}
theorem st_far {most : Int} (h : SH L H) (pk : Pick (bag, .lst [.int a, .int b]) L R) (h0 : 0 ≤ most)
    (k : ∀ r a b H, 0 ≤ r → r ≤ most → SH ((bag, .lst [.int a, .int b]) :: R) H → Q (.int r) H) : sp_law_far K ([.ref bag, .int most] ++ []) H Q E :=
  ⟨bag, most, R, rfl, ⟨a, b, h.pick pk⟩, h0, fun r H h2 h3 ⟨a, b, h4⟩ => k r a b H h2 h3 h4⟩
theorem st_bag {sc : Addr} {at_ : Int} {ns : List Int} (h : SH L H) (m : IsL K L sc (ns.map V.int)) (h0 : 0 ≤ at_) (h1 : at_ < 64) (hn : ns.length ≤ 63)
    (k : ∀ bag a b H, SH ((bag, .lst [.int a, .int b]) :: L) H → Q (.ref bag) H) : sp_law_bag K ([.ref sc, .int at_] ++ []) H Q E :=
  ⟨sc, at_, ns, L, rfl, h, m, h0, h1, hn, fun bag H ⟨a, b, h4⟩ => k bag a b H h4⟩
theorem st_names {many : Int} (h : SH L H) (pk : Pick (bag, .lst [.int a, .int b]) L R) (h0 : 0 ≤ many) (h1 : many ≤ 26)
    (k : ∀ p (ss : List Str) a b H, (ss.length : Int) = many → ss.Nodup → (∀ s ∈ ss, Nm s) → SH ((bag, .lst [.int a, .int b]) :: (p, .lst (ss.map V.str)) :: R) H → Q (.ref p) H) : sp_law_names K ([.ref bag, .int many] ++ []) H Q E :=
  ⟨bag, many, R, rfl, ⟨a, b, h.pick pk⟩, h0, h1, fun p ss H h1 h2 h3 ⟨a, b, h4⟩ => k p ss a b H h1 h2 h3 h4⟩
end

set_option hygiene false in
local macro_rules | `(tactic| walk_at "s2") => `(tactic| first
  | ((with_reducible apply st_take hS); (· walk_at "pick"); (· walk_at "om"); (· walk_at "om"); clear hS; intro r a b H hr0 hr1 hS)
  | ((with_reducible apply st_of hS); (· walk_at "pick"); (· walk_at "isl"); (· first | decide | walk_at "om"); (· first | decide | walk_at "om"); clear hS; intro v a b H hv hS)
  | ((with_reducible apply st_far hS); (· walk_at "pick"); (· walk_at "om"); clear hS; intro r a b H hr0 hr1 hS)
  | ((with_reducible apply st_bag hS); (· walk_at "isl"); (· walk_at "om"); (· walk_at "om"); (· assumption); clear hS; intro bag a b H hS)
  | ((with_reducible apply st_names hS); (· walk_at "pick"); (· walk_at "om"); (· walk_at "om"); clear hS; intro p ss a b H hl hn hN hS))

section
variable {K : PySem.W.Frag} {mg : Str → Option Value} {L R : Led} {H : Hp} {Q : VK} {E : XK}
theorem len_is_name (vs : List V) (H : Hp) (Q : VK) (E : XK) (h : sp_is_name K vs H Q E) : vs.length = 1 := by
  obtain ⟨_, _, rfl, _⟩ := h
  rfl
theorem len_is_whole (vs : List V) (H : Hp) (Q : VK) (E : XK) (h : sp_is_whole K vs H Q E) : vs.length = 3 := by
  obtain ⟨_, _, _, rfl, _⟩ := h
  rfl
theorem len_Order_init (vs : List V) (H : Hp) (Q : VK) (E : XK) (h : sp_Order_init K vs H Q E) : vs.length = 6 := by
  obtain ⟨_, _, _, _, rfl, _⟩ := h
  rfl
theorem len_law_due (vs : List V) (H : Hp) (Q : VK) (E : XK) (h : sp_law_due K vs H Q E) : vs.length = 2 := by
  obtain ⟨_, _, _, _, _, rfl, _⟩ := h
  rfl
theorem len_law_row (vs : List V) (H : Hp) (Q : VK) (E : XK) (h : sp_law_row K vs H Q E) : vs.length = 4 := by
  obtain ⟨_, _, _, _, _, _, _, rfl, _⟩ := h
  rfl
theorem len_meets (vs : List V) (H : Hp) (Q : VK) (E : XK) (h : sp_meets K vs H Q E) : vs.length = 2 := by
  obtain ⟨_, _, _, _, _, _, _, rfl, _⟩ := h
  rfl
theorem len_law (vs : List V) (H : Hp) (Q : VK) (E : XK) (h : sp_law K vs H Q E) : vs.length = 1 := len_lawSp vs H Q E h
theorem pure_is_name (vs : List V) (H : Hp) (Q : VK) (E : XK) (h : sp_is_name K vs H Q E) : t_is_name K E { nx := fun _ H' => Q .non H', rt := Q } (start N_is_name vs) H := by
  obtain ⟨s, L, rfl, hS, hs, h1, h2, q⟩ := h
  rw [st_is_name]
  unfold t_is_name
  walk_at "go"
  exact q
theorem pure_is_whole (vs : List V) (H : Hp) (Q : VK) (E : XK) (h : sp_is_whole K vs H Q E) : t_is_whole K E { nx := fun _ H' => Q .non H', rt := Q } (start N_is_whole vs) H := by
  obtain ⟨i, lo, hi, rfl, h1, h2, q⟩ := h
  rw [st_is_whole]
  unfold t_is_whole
  walk_at "go"
  rw [decide_eq_true h2]
  exact q
theorem st_isname {s : Str} (hs : Low s) (h1 : 1 ≤ s.length) (h2 : s.length ≤ 12) (h : SH L H) (q : Q (.bl true) H) : sp_is_name K ([.str s] ++ []) H Q E := ⟨s, L, rfl, h, hs, h1, h2, q⟩
theorem st_iswhole {i lo hi : Int} (h1 : lo ≤ i) (h2 : i ≤ hi) (q : Q (.bl true) H) : sp_is_whole K ([.int i, .int lo, .int hi] ++ []) H Q E := ⟨i, lo, hi, rfl, h1, h2, q⟩
end
set_option hygiene false in
local macro_rules | `(tactic| walk_at "s2") => `(tactic| first
  | ((with_reducible refine st_isname ?_ ?_ ?_ hS ?_); (· assumption); (· assumption); (· assumption))
  | ((with_reducible refine st_iswhole ?_ ?_ ?_); (· omega); (· omega)))
section
variable {K : PySem.W.Frag} {mg : Str → Option Value} {L R : Led} {H : Hp} {Q : VK} {E : XK}
theorem pure_Order_init (T : Txt K mg) (vs : List V) (H : Hp) (Q : VK) (E : XK) (h : sp_Order_init K vs H Q E) : t_Order_init K E { nx := fun _ H' => Q .non H', rt := Q } (start N_Order_init vs) H := by
  obtain ⟨x, dx, r, L, rfl, hS, ok, q⟩ := h
  obtain ⟨m, t, s, c, l⟩ := r
  obtain ⟨⟨m1, m2, m3, m4⟩, ⟨t1, t2, t3, t4⟩, hs, ⟨hc1, hc2⟩, hl1, hl2⟩ := ok
  dsimp only at *
  rw [show V.ref x :: Row.vs ⟨m, t, s, c, l⟩ = [.ref x, .str m, .str t, .str s, .int c, .int l] from rfl, st_Order_init]
  unfold t_Order_init
  rcases hs with rfl | rfl
  · walk_at "go"
    exact q H (by walk_at "end")
  · walk_at "go"
    exact q H (by walk_at "end")
theorem st_order (T : Txt K mg) {x dx : Addr} {m t s : Str} {c l : Int} (h : SH L H) (pk : Pick (x, .ins (He.ga K "Order") dx []) L R) (ok : Row.Ok ⟨m, t, s, c, l⟩)
    (k : ∀ H, SH ((x, .ins (He.ga K "Order") dx (Row.fs ⟨m, t, s, c, l⟩)) :: R) H → Q .non H) : sp_Order_init K (V.ref x :: ([.str m, .str t, .str s, .int c, .int l] ++ [])) H Q E :=
  ⟨x, dx, ⟨m, t, s, c, l⟩, R, rfl, h.pick pk, ok, k⟩
theorem buy_sell : ("buy" : Str) ≠ "sell" := by decide +kernel
theorem due_comm (r q : Row) (hr : r.Ok) (hq : q.Ok) : due q r = due r q := by
  unfold due
  have e1 : ("buy" : Str) ≠ "sell" := by decide +kernel
  rcases hr.s with a | a <;> rcases hq.s with b | b <;> rw [a, b] <;> by_cases c : r.m = q.m <;> by_cases d : r.t = q.t <;> simp [c, d, e1, e1.symm, eq_comm]
theorem pure_law_due (vs : List V) (H : Hp) (Q : VK) (E : XK) (h : sp_law_due K vs H Q E) : t_law_due K E { nx := fun _ H' => Q .non H', rt := Q } (start N_law_due vs) H := by
  obtain ⟨x, y, r, q, L, rfl, hS, hx, hy, okr, okq, k⟩ := h
  obtain ⟨m, t, s, c, l⟩ := r
  obtain ⟨m', t', s', c', l'⟩ := q
  have hs := okr.s
  have hs' := okq.s
  unfold Row.vs at hx hy
  dsimp only at *
  rw [st_law_due]
  unfold t_law_due
  by_cases em : m = m'
  · walk_at "go"
    exact st_blE (k _ hS) (by simp [due, em])
  by_cases et : t = t'
  · rcases hs with rfl | rfl <;> rcases hs' with rfl | rfl
    all_goals
      walk_at "go"
      exact st_blE (k _ hS) (by simp [due, em, et, buy_sell, buy_sell.symm])
  · walk_at "go"
    exact st_blE (k _ hS) (by simp [due, em, et])
theorem pure_meets (T : Txt K mg) (vs : List V) (H : Hp) (Q : VK) (E : XK) (h : sp_meets K vs H Q E) : t_meets K E { nx := fun _ H' => Q .non H', rt := Q } (start N_meets vs) H := by
  obtain ⟨x, dx, y, dy, r, q, L, rfl, hS, hx, hy, okr, okq, k⟩ := h
  obtain ⟨m, t, s, c, l⟩ := r
  obtain ⟨m', t', s', c', l'⟩ := q
  have hs := okr.s
  have hs' := okq.s
  unfold Row.fs at hx hy
  dsimp only at *
  rw [st_meets]
  unfold t_meets
  by_cases em : m = m'
  · walk_at "go"
    exact st_blE (k _ hS) (by simp [due, em])
  by_cases et : t = t'
  · rcases hs with rfl | rfl <;> rcases hs' with rfl | rfl
    · walk_at "go"
      exact st_blE (k _ hS) (by simp [due, em, et, buy_sell])
    · walk_at "go"
      exact st_blE (Q := Q) (k _ (by walk_at "end")) (by simp [due, em, et])
    · walk_at "go"
      exact st_blE (Q := Q) (k _ (by walk_at "end")) (by simp [due, em, et, buy_sell.symm])
    · walk_at "go"
      exact st_blE (k _ hS) (by simp [due, em, et, buy_sell.symm])
  · walk_at "go"
    exact st_blE (k _ hS) (by simp [due, em, et])
end

set_option hygiene false in
local macro_rules | `(tactic| walk_at "s2") => `(tactic| ((with_reducible apply st_order T hS); (· walk_at "pick"); (· assumption); clear hS; intro H hS))

theorem two_of {α : Type} {xs : List α} (h : (xs.length : Int) = 2) : ∃ a b, xs = [a, b] := by
  match xs, h with
  | [a, b], _ => exact ⟨a, b, rfl⟩
  | [], h => cases h
  | [_], h => cases h
  | _ :: _ :: _ :: _, h => simp at h; omega
def Row.ds (r : Row) : List PyData := [.str r.m, .str r.t, .str r.s, .int r.c, .int r.l]
theorem Row.dl {K : PySem.W.Frag} {L : Led} (r : Row) : DlAll K L r.vs r.ds := .cons (.str _) (.cons (.str _) (.cons (.str _) (.cons (.int _) (.cons (.int _) .nil))))
theorem Row.can {r : Row} (h : r.Ok) : (PyData.list r.ds).canLay0 = true := by
  have s1 : PyData.strOk r.s = true := by rcases h.s with e | e <;> rw [e] <;> decide +kernel
  show (PyData.strOk r.m && (PyData.strOk r.t && (PyData.strOk r.s && true))) = true
  rw [low_ok h.m.low, low_ok h.t.low, s1]
  rfl
theorem Row.shp {r : Row} (h : r.Ok) : SeqAt.shaped (.list r.ds) = true := by
  unfold SeqAt.shaped
  rw [Row.can h]
  rfl
theorem st_neRow {K : PySem.W.Frag} {L : Led} {H : Hp} {Q : VK} {x y : Addr} {r : Row} (h : SH L H) (ok : r.Ok) (mx : IsL K L x r.vs) (my : IsL K L y r.vs) (q : Q (.bl false) H) : G.rNe K (.ref x) (.ref y) H Q :=
  st_neD h (.lst mx r.dl) (.lst my r.dl) (Row.shp ok) (Row.shp ok) (by rw [SeqAt.eqv_refl _ (Row.can ok)]; exact q)
theorem due_self (r : Row) : due r r = false := by simp [due]
theorem told_of {d e : Bool} {v : V} (h : e = d) (m : v ∈ [V.bl d, .bl e, .bl d]) : v = .bl d := by
  subst h
  simp only [List.mem_cons, List.not_mem_nil, or_false] at m
  rcases m with rfl | rfl | rfl <;> rfl
theorem off_mem {v : V} (h : v ∈ [V.int 0, .int 0, .int 1, .int (-1), .int 100000000000, .int (-100000000000)]) : ∃ i : Int, v = .int i ∧ -100000000000 ≤ i ∧ i ≤ 100000000000 := by
  simp only [List.mem_cons, List.not_mem_nil, or_false] at h
  rcases h with rfl | rfl | rfl | rfl | rfl | rfl <;> exact ⟨_, rfl, by decide, by decide⟩
theorem side_mem {v : V} (h : v ∈ [V.str "buy", .str "sell"]) : ∃ s : Str, v = .str s ∧ (s = "buy" ∨ s = "sell") := by
  simp only [List.mem_cons, List.not_mem_nil, or_false] at h
  rcases h with rfl | rfl
  · exact ⟨_, rfl, .inl rfl⟩
  · exact ⟨_, rfl, .inr rfl⟩
theorem base_mem {v : V} {r : Int} (h0 : 0 ≤ r) (h1 : r ≤ 100000000000) (h : v ∈ [V.int 0, .int 5, .int (9 * 100000000000), .int (-9 * 100000000000), .int r]) : ∃ i : Int, v = .int i ∧ -900000000000 ≤ i ∧ i ≤ 900000000000 := by
  simp only [List.mem_cons, List.not_mem_nil, or_false] at h
  rcases h with rfl | rfl | rfl | rfl | rfl
  · exact ⟨_, rfl, by decide, by decide⟩
  · exact ⟨_, rfl, by decide, by decide⟩
  · exact ⟨_, rfl, by decide, by decide⟩
  · exact ⟨_, rfl, by decide, by decide⟩
  · exact ⟨_, rfl, by omega, by omega⟩
section
variable {K : PySem.W.Frag} {mg : Str → Option Value} {L R : Led} {H : Hp} {Q : VK} {E : XK}
theorem pure_law_row (vs : List V) (H : Hp) (Q : VK) (E : XK) (h : sp_law_row K vs H Q E) : t_law_row K E { nx := fun _ H' => Q .non H', rt := Q } (start N_law_row vs) H := by
  obtain ⟨bag, pm, pt, ms, ts, base, L, rfl, ⟨a, b, hS⟩, im, it, m0, m1, t0, t1, nm, nt, b0, b1, k⟩ := h
  have lm : (ms.map V.str).length = ms.length := List.length_map ..
  have lt : (ts.map V.str).length = ts.length := List.length_map ..
  rw [st_law_row]
  unfold t_law_row
  walk_at "go"
  obtain ⟨d, rfl, d0, d1⟩ := off_mem hv
  walk_at "go"
  rename_i v1 _ _ _ hv1 v2 _ _ _ hv2 _ _ _ _
  obtain ⟨s, rfl, hs⟩ := side_mem hv1
  obtain ⟨m, rfl, hm⟩ := mem_str hv2
  obtain ⟨t, rfl, ht⟩ := mem_str hv
  exact k p ⟨m, t, s, _, _⟩ H ⟨nm _ hm, nt _ ht, hs, ⟨show 1 ≤ 1 + r by omega, show 1 + r ≤ 1000000 by omega⟩, ⟨show -1000000000000 ≤ base + d by omega, show base + d ≤ 1000000000000 by omega⟩⟩ hm ⟨_, _, by walk_at "end"⟩
theorem st_row {bag pm pt : Addr} {ms ts : List Str} {base a b : Int} (h : SH L H) (pk : Pick (bag, .lst [.int a, .int b]) L R) (im : IsL K R pm (ms.map V.str)) (it : IsL K R pt (ts.map V.str)) (hm : ms.length = 2) (ht : ts.length = 2)
    (nm : ∀ s ∈ ms, Nm s) (nt : ∀ s ∈ ts, Nm s) (b0 : -900000000000 ≤ base) (b1 : base ≤ 900000000000)
    (k : ∀ p (r : Row) a b H, r.Ok → r.m ∈ ms → SH ((bag, .lst [.int a, .int b]) :: (p, .lst r.vs) :: R) H → Q (.ref p) H) : sp_law_row K ([.ref bag, .ref pm, .ref pt, .int base] ++ []) H Q E :=
  ⟨bag, pm, pt, ms, ts, base, R, rfl, ⟨a, b, h.pick pk⟩, im, it, by omega, by omega, by omega, by omega, nm, nt, b0, b1, fun p r H h1 h2 ⟨a, b, h4⟩ => k p r a b H h1 h2 h4⟩
theorem st_due {x y : Addr} {r q : Row} (h : SH L H) (hx : IsL K L x r.vs) (hy : IsL K L y q.vs) (okr : r.Ok) (okq : q.Ok) (k : ∀ H, SH L H → Q (.bl (due r q)) H) : sp_law_due K ([.ref x, .ref y] ++ []) H Q E := ⟨x, y, r, q, L, rfl, h, hx, hy, okr, okq, k⟩
theorem st_meets2 {x dx y dy : Addr} {r q : Row} (h : SH L H) (hx : (x, HO.ins (He.ga K "Order") dx r.fs) ∈ L) (hy : (y, HO.ins (He.ga K "Order") dy q.fs) ∈ L) (okr : r.Ok) (okq : q.Ok) (k : ∀ H, SH L H → Q (.bl (due r q)) H) : sp_meets K ([.ref x, .ref y] ++ []) H Q E := ⟨x, dx, y, dy, r, q, L, rfl, h, hx, hy, okr, okq, k⟩
end
set_option hygiene false in
local macro_rules | `(tactic| walk_at "s2") => `(tactic| first
  | ((with_reducible apply st_row hS); (· walk_at "pick"); (· walk_at "isl"); (· walk_at "isl"); (· exact rfl); (· exact rfl); (· assumption); (· assumption); (· assumption); (· assumption); clear hS; intro p r a b H hr hm hS)
  | ((with_reducible apply st_due hS); (· walk_at "isl"); (· walk_at "isl"); (· assumption); (· assumption); clear hS; intro H hS)
  | ((with_reducible apply st_meets2 hS); (· walk_at "mem"); (· walk_at "mem"); (· assumption); (· assumption); clear hS; intro H hS))
section
variable {K : PySem.W.Frag} {mg : Str → Option Value} {L R : Led} {H : Hp} {Q : VK} {E : XK}
theorem pure_law (T : Txt K mg) (vs : List V) (H : Hp) (Q : VK) (E : XK) (h : sp_law K vs H Q E) : t_law K E { nx := fun _ H' => Q .non H', rt := Q } (start N_law vs) H := by
  obtain ⟨sc, ns, L, rfl, hS, im, hn, k⟩ := h
  rw [st_law]
  unfold t_law
  walk_at "go"
  have hmost : (if (if ((ns.map V.int).length : Int) < 4 then ((ns.map V.int).length : Int) else 4) > 1 then (if ((ns.map V.int).length : Int) < 4 then ((ns.map V.int).length : Int) else 4) else 1).toNat ≤ 4 := by
    split <;> (try split) <;> omega
  refine fp_range (fun i σ L' => ∃ x1 x2 x3 x4 x5 x6 x7 x8 x9 x10 x11 x12, σ = [some (V.ref sc), x1, x2, x3, x4, x5, x6, x7, x8, x9, x10, x11, x12] ∧ L' = L) hS ⟨_, _, _, _, _, _, _, _, _, _, _, _, rfl, rfl⟩ ?_ ?_
  · clear hS
    rintro i σ L' H hi ⟨x1, x2, x3, x4, x5, x6, x7, x8, x9, x10, x11, x12, rfl, rfl⟩ hS
    unfold t_law_3
    walk_at "go"
    rename_i pm ms _ _ _ hms _ nms pt _ _ _ _
    obtain ⟨m0, m1, rfl⟩ := two_of hms
    obtain ⟨t0, t1, rfl⟩ := two_of hl
    refine st_cutS (fun σ H => ∃ pt t0 t1 a b, σ = [some (V.ref sc), some (.int (0 + (i : Int))), some (.ref bag), some (.ref pm), some (.ref pt), x5, x6, x7, x8, x9, x10, x11, x12] ∧ (∀ s ∈ [t0, t1], Nm s) ∧
      SH ((bag, HO.lst [.int a, .int b]) :: (pt, .lst ([t0, t1].map V.str)) :: (pm, .lst ([m0, m1].map V.str)) :: L') H) (fun nx hnx => ?_) ?_
    · refine ifD (fun c => ?_) fun c => ?_
      · walk_at "go"
        refine hnx _ _ ⟨_, t0, t0, a, b, rfl, fun s m => hN s (by simp at m; simp [m]), ?_⟩
        exact SH.ord (L := _ :: _ :: _ :: (pt, .lst ([t0, t1].map V.str)) :: _ :: _) hS (Ord.cons (.there .here) (Ord.cons .here (by walk_at "ord")))
      · walk_at "go"
        exact hnx _ _ ⟨_, t0, t1, a, b, rfl, hN, by walk_at "end"⟩
    clear hS
    rintro σ H ⟨pt, t0, t1, a, b, rfl, nts, hS⟩
    walk_at "go"
    refine fp_range (fun j σ L'' => ∃ x5 x6 x7 x8 x9 x10 x11 x12 a b, σ = [some (V.ref sc), some (.int (0 + (i : Int))), some (.ref bag), some (.ref pm), some (.ref pt), x5, x6, x7, x8, x9, x10, x11, x12] ∧
      L'' = (bag, HO.lst [.int a, .int b]) :: (pt, .lst ([t0, t1].map V.str)) :: (pm, .lst ([m0, m1].map V.str)) :: L') hS ⟨_, _, _, _, _, _, _, _, _, _, rfl, rfl⟩ ?_ ?_
    · clear hS
      rintro j σ L'' H hj ⟨x5, x6, x7, x8, x9, x10, x11, x12, a, b, rfl, rfl⟩ hS
      unfold t_law_2
      walk_at "go"
      obtain ⟨base, rfl, b0, b1⟩ := base_mem hr0 hr1 hv
      refine lp_range (fun n acc L2 => ∃ a b, (n = 0 ∧ acc = [] ∧ L2 = (bag, HO.lst [.int a, .int b]) :: (pt, .lst ([t0, t1].map V.str)) :: (pm, .lst ([m0, m1].map V.str)) :: L') ∨
        (n = 1 ∧ ∃ (p : Addr) (r : Row), r.Ok ∧ acc = [V.ref p] ∧ L2 = (bag, HO.lst [.int a, .int b]) :: (p, .lst r.vs) :: (pt, .lst ([t0, t1].map V.str)) :: (pm, .lst ([m0, m1].map V.str)) :: L') ∨
        (n = 2 ∧ ∃ (p : Addr) (r : Row) (q : Addr) (u : Row), r.Ok ∧ u.Ok ∧ acc = [V.ref p, .ref q] ∧ L2 = (bag, HO.lst [.int a, .int b]) :: (q, .lst u.vs) :: (p, .lst r.vs) :: (pt, .lst ([t0, t1].map V.str)) :: (pm, .lst ([m0, m1].map V.str)) :: L'))
        (by walk_at "wipe") (by walk_at "end") ⟨_, _, .inl ⟨rfl, rfl, rfl⟩⟩ ?_ ?_
      · clear hS
        rintro n acc Dl L2 H hn ⟨a, b, ⟨rfl, rfl, rfl⟩ | ⟨rfl, p, r, hr, rfl, rfl⟩ | ⟨rfl, _⟩⟩ hS
        · walk_at "go"
          refine ac_add hS (by walk_at "pick") ?_ ?_
          · exact (by decide : 0 < sizeLine)
          exact ⟨a, b, .inr (.inl ⟨rfl, _, _, hr, rfl, rfl⟩)⟩
        · walk_at "go"
          rename_i hr0
          refine ac_add hS (by walk_at "pick") ?_ ?_
          · exact (by decide : 1 < sizeLine)
          exact ⟨a, b, .inr (.inr ⟨rfl, _, _, _, _, hr0, hr, rfl, rfl⟩)⟩
        · exact absurd hn (by decide)
      clear hS
      rintro acc Dl L2 H ⟨a, b, ⟨e, _⟩ | ⟨e, _⟩ | ⟨_, p, r, q, u, hr, hu, rfl, rfl⟩⟩ hS
      · cases e
      · cases e
      walk_at "go"
      refine st_cutS (fun σ H => ∃ u : Row, u.Ok ∧ σ = [some (V.ref sc), some (.int (0 + (i : Int))), some (.ref bag), some (.ref pm), some (.ref pt), some (.int (0 + (j : Int))), some (.int base), some (.ref Dl), x8, x9, x10, x11, x12] ∧
        SH ((Dl, .lst [.ref p, .ref q]) :: (bag, HO.lst [.int a, .int b]) :: (q, .lst u.vs) :: (p, .lst r.vs) :: (pt, .lst ([t0, t1].map V.str)) :: (pm, .lst ([m0, m1].map V.str)) :: L') H) (fun nx hnx => ?_) ?_
      · refine ifD (fun c => ?_) fun c => ?_
        · walk_at "go"
          refine st_cutE (fun v H => ∃ z : Str, v = .str z ∧ (z = "buy" ∨ z = "sell") ∧ SH ((Dl, .lst [.ref p, .ref q]) :: (bag, HO.lst [.int a, .int b]) :: (q, .lst u.vs) :: (p, .lst r.vs) :: (pt, .lst ([t0, t1].map V.str)) :: (pm, .lst ([m0, m1].map V.str)) :: L') H) (fun Q' hQ => ?_) ?_
          · refine ifD (fun c => ?_) fun c => ?_
            · walk_at "go"
              exact hQ _ _ ⟨_, rfl, .inl rfl, hS⟩
            · walk_at "go"
              exact hQ _ _ ⟨_, rfl, .inr rfl, hS⟩
          clear hS
          rintro v H ⟨z, rfl, hz, hS⟩
          walk_at "go"
          refine st_cutE (fun v H => ∃ y : Str, v = .str y ∧ Nm y ∧ SH ((Dl, .lst [.ref p, .ref q]) :: (bag, HO.lst [.int a, .int b]) :: (q, .lst (Row.vs ⟨u.m, u.t, z, u.c, u.l⟩)) :: (p, .lst r.vs) :: (pt, .lst ([t0, t1].map V.str)) :: (pm, .lst ([m0, m1].map V.str)) :: L') H) (fun Q' hQ => ?_) ?_
          · refine ifD (fun c => ?_) fun c => ?_
            · walk_at "go"
              exact hQ _ _ ⟨_, rfl, nms m1 (by simp), hS⟩
            · walk_at "go"
              exact hQ _ _ ⟨_, rfl, nms m0 (by simp), hS⟩
          clear hS
          rintro v H ⟨y, rfl, hy, hS⟩
          walk_at "go"
          exact hnx _ _ ⟨⟨y, u.t, z, u.c, u.l⟩, ⟨hy, hu.t, hz, hu.c, hu.l⟩, rfl, hS⟩
        · walk_at "go"
          exact hnx _ _ ⟨u, hu, rfl, hS⟩
      clear hS hu u
      rintro σ H ⟨u, hu, rfl, hS⟩
      walk_at "go"
      refine fp_list1 _ 11 hS (by walk_at "isl") _ rfl ?_ ?_
      · clear hS
        intro n v t H hx hS
        obtain rfl : v = .bl (due r u) := told_of (due_comm r u hr hu) (List.mem_of_getElem? hx)
        simp only [List.set_cons_succ, List.set_cons_zero]
        unfold t_law_1
        walk_at "go"
        exact ⟨_, ⟨⟨_, rfl⟩, rfl⟩, hS⟩
      clear hS
      intro t H hS
      simp only [List.set_cons_succ, List.set_cons_zero]
      walk_at "go"
      rw [due_self]
      walk_at "go"
      rw [due_self]
      walk_at "go"
      refine st_neRow (r := r) hS hr (by walk_at "isl") (by walk_at "isl") ?_
      walk_at "go"
      refine st_neRow (r := u) hS hu (by walk_at "isl") (by walk_at "isl") ?_
      walk_at "go"
      exact ⟨_, ⟨_, _, _, _, _, _, _, _, a, b, rfl, rfl⟩, by walk_at "end"⟩
    · clear hS
      rintro σ L'' H ⟨x5, x6, x7, x8, x9, x10, x11, x12, a, b, rfl, rfl⟩ hS
      exact ⟨_, ⟨_, _, _, _, _, _, _, _, _, _, _, _, rfl, rfl⟩, by walk_at "end"⟩
  · clear hS
    rintro σ L' H ⟨x1, x2, x3, x4, x5, x6, x7, x8, x9, x10, x11, x12, rfl, rfl⟩ hS
    walk_at "go"
    exact k H
end

section
variable {P : Program} {w : World} {K : PySem.W.Frag} {mg : Str → Option Value} {base : Heap}
theorem ok_is_name (T : Txt K mg) : Ok P w K mg base 1 (He.ga K "is_name") ["thing"] [] (sp_is_name K) :=
  Ok.mk T.d_is_name sc_is_name (fun vs H Q E h => len_is_name vs H Q E h) (fun _ _ _ _ _ _ us hl => match us, hl with | [_], _ => rfl)
    (fun cdv A outer s H vs Q E hr h => ⟨t_is_name K E, bd_is_name T  hr, pure_is_name vs H Q E h⟩)
theorem ok_is_whole (T : Txt K mg) : Ok P w K mg base 1 (He.ga K "is_whole") ["thing", "low", "high"] [] (sp_is_whole K) :=
  Ok.mk T.d_is_whole sc_is_whole (fun vs H Q E h => len_is_whole vs H Q E h) (fun _ _ _ _ _ _ us hl => match us, hl with | [_, _, _], _ => rfl)
    (fun cdv A outer s H vs Q E hr h => ⟨t_is_whole K E, bd_is_whole T  hr, pure_is_whole vs H Q E h⟩)
theorem ok_Order_init (T : Txt K mg) : Ok P w K mg base 2 (He.ma K (He.ga K "Order") "__init__") ["self", "member", "thing", "side", "count", "limit"] [] (sp_Order_init K) :=
  Ok.mk T.d_Order_init sc_Order_init (fun vs H Q E h => len_Order_init vs H Q E h) (fun _ _ _ _ _ _ us hl => match us, hl with | [_, _, _, _, _, _], _ => rfl)
    (fun cdv A outer s H vs Q E hr h => ⟨t_Order_init K E, bd_Order_init T (ok_is_whole T) (ok_is_name T) hr, pure_Order_init T vs H Q E h⟩)
theorem ok_law_bag (T : Txt K mg) : Ok P w K mg base 1 (He.ga K "_law_bag") ["script", "at"] [] (sp_law_bag K) :=
  Ok.mk T.d_law_bag sc_law_bag (fun vs H Q E h => len_law_bag vs H Q E h) (fun _ _ _ _ _ _ us hl => match us, hl with | [_, _], _ => rfl)
    (fun cdv A outer s H vs Q E hr h => ⟨t_law_bag K E, bd_law_bag T  hr, pure_law_bag vs H Q E h⟩)
theorem ok_law_due (T : Txt K mg) : Ok P w K mg base 1 (He.ga K "_law_due") ["one", "other"] [] (sp_law_due K) :=
  Ok.mk T.d_law_due sc_law_due (fun vs H Q E h => len_law_due vs H Q E h) (fun _ _ _ _ _ _ us hl => match us, hl with | [_, _], _ => rfl)
    (fun cdv A outer s H vs Q E hr h => ⟨t_law_due K E, bd_law_due T  hr, pure_law_due vs H Q E h⟩)
theorem ok_law_take (T : Txt K mg) : Ok P w K mg base 1 (He.ga K "_law_take") ["bag", "many"] [] (sp_law_take K) :=
  Ok.mk T.d_law_take sc_law_take (fun vs H Q E h => len_law_take vs H Q E h) (fun _ _ _ _ _ _ us hl => match us, hl with | [_, _], _ => rfl)
    (fun cdv A outer s H vs Q E hr h => ⟨t_law_take K E, bd_law_take T  hr, pure_law_take vs H Q E h⟩)
theorem ok_law_far (T : Txt K mg) : Ok P w K mg base 2 (He.ga K "_law_far") ["bag", "most"] [] (sp_law_far K) :=
  Ok.mk T.d_law_far sc_law_far (fun vs H Q E h => len_law_far vs H Q E h) (fun _ _ _ _ _ _ us hl => match us, hl with | [_, _], _ => rfl)
    (fun cdv A outer s H vs Q E hr h => ⟨t_law_far K E, bd_law_far T (ok_law_take T) hr, pure_law_far vs H Q E h⟩)
theorem ok_law_of (T : Txt K mg) : Ok P w K mg base 2 (He.ga K "_law_of") ["bag", "some"] [] (sp_law_of K) :=
  Ok.mk T.d_law_of sc_law_of (fun vs H Q E h => len_law_of vs H Q E h) (fun _ _ _ _ _ _ us hl => match us, hl with | [_, _], _ => rfl)
    (fun cdv A outer s H vs Q E hr h => ⟨t_law_of K E, bd_law_of T (ok_law_take T) hr, pure_law_of vs H Q E h⟩)
theorem ok_law_names (T : Txt K mg) : Ok P w K mg base 3 (He.ga K "_law_names") ["bag", "many"] [] (sp_law_names K) :=
  Ok.mk T.d_law_names sc_law_names (fun vs H Q E h => len_law_names vs H Q E h) (fun _ _ _ _ _ _ us hl => match us, hl with | [_, _], _ => rfl)
    (fun cdv A outer s H vs Q E hr h => ⟨t_law_names K E, bd_law_names T (ok_law_take T) (ok_law_of T) hr, pure_law_names vs H Q E h⟩)
theorem ok_law_row (T : Txt K mg) : Ok P w K mg base 3 (He.ga K "_law_row") ["bag", "members", "things", "base"] [] (sp_law_row K) :=
  Ok.mk T.d_law_row sc_law_row (fun vs H Q E h => len_law_row vs H Q E h) (fun _ _ _ _ _ _ us hl => match us, hl with | [_, _, _, _], _ => rfl)
    (fun cdv A outer s H vs Q E hr h => ⟨t_law_row K E, bd_law_row T (ok_law_take T) (ok_law_of T) hr, pure_law_row vs H Q E h⟩)
theorem ok_meets (T : Txt K mg) : Ok P w K mg base 1 (He.ga K "meets") ["one", "other"] [] (sp_meets K) :=
  Ok.mk T.d_meets sc_meets (fun vs H Q E h => len_meets vs H Q E h) (fun _ _ _ _ _ _ us hl => match us, hl with | [_, _], _ => rfl)
    (fun cdv A outer s H vs Q E hr h => ⟨t_meets K E, bd_meets T  hr, pure_meets T vs H Q E h⟩)
theorem ok_law (T : Txt K mg) : Ok P w K mg base 4 (He.ga K "law") ["script"] [] (sp_law K) :=
  Ok.mk T.d_law sc_law (fun vs H Q E h => len_law vs H Q E h) (fun _ _ _ _ _ _ us hl => match us, hl with | [_], _ => rfl)
    (fun cdv A outer s H vs Q E hr h => ⟨t_law K E, bd_law T (ok_meets T) (ok_law_due T) (ok_Order_init T) (ok_law_row T) (ok_law_of T) (ok_law_far T) (ok_law_take T) (ok_law_names T) (ok_law_bag T) hr, pure_law T vs H Q E h⟩)
end
abbrev R : PySem.W.OpenRow := PySem.W.OpenLaw.row PySem.Challenge.rw_coveredday_k02_orders_that_meet
abbrev hk : PySem.W.Hook := hook 6 fa fn ex
def ob (s : PySem.W.SharedT) : AlG := obsG 6 fa fn ex (HandSHeadRun.getT s)
theorem ob_eq (s : PySem.W.SharedT) : ob s = hk.obs s.abs := obsG_eq (HandSHeadRun.getT_eq s)
theorem run (w : World) : HandSHeadRun.RunEq R (PySem.W.view R.prog [21]) hk ob 2000 loose w := by
  intro os
  kernel_rfl
theorem fin {P : Program} {w : World} {K : PySem.W.Frag} {h : Heap} {mg : Str → Option Value} {f : Addr} (X : K.In h) (Y : h.Ns mainGlobals mg) (hfa : mg ("law" : Str) = some (.ref f)) (c : Says fa fn ex K) :
    ∃ fd : FuncData, (∀ (s : Shared) (v : Value), BindsTo s fd ⟨[v], []⟩ [("script", v)]) ∧ ∀ base : Heap, K.In base → base.Ns mainGlobals mg → FnOk P w K mg base (fun _ _ _ _ _ _ => False) 4 f fd ["script"] (sp_law K) := by
  have T := txt_of c X Y
  have e := hfa.symm.trans T.g_law
  cases e
  obtain ⟨fd, F⟩ := T.d_law
  have b := FunD.bindsA (ps := ["script"]) F fun _ _ _ _ _ _ us hl => match us, hl with | [_], _ => rfl
  exact ⟨fd, fun s v => b s [v] rfl, fun base _ _ => ok_end (F.ok sc_law (fun vs H Q E h => len_law vs H Q E h) (fun cdv A outer s H vs Q E hr h => ⟨t_law K E, bd_law T (ok_meets T) (ok_law_due T) (ok_Order_init T) (ok_law_row T) (ok_law_of T) (ok_law_far T) (ok_law_take T) (ok_law_names T) (ok_law_bag T) hr, pure_law T vs H Q E h⟩)) (fun _ _ _ _ h => h)⟩
end L
open PySem PySem.W PySem.Calls PyProof.Rows
theorem PySem.Challenge.cw_coveredday_k02_orders_that_meet_holds : PySem.Challenge.rw_coveredday_k02_orders_that_meet.Holds := by
  w_on; o_law
  refine HandSHeadRun.head_any (r := OpenLaw.row PySem.Challenge.rw_coveredday_k02_orders_that_meet) (q := view (OpenLaw.row PySem.Challenge.rw_coveredday_k02_orders_that_meet).prog [21]) (H := L.hk) (ob := L.ob) (M := 2000) (loose := L.loose) (d := HandSHeadRun.topDef (OpenLaw.row PySem.Challenge.rw_coveredday_k02_orders_that_meet).prog 21) (kwd := []) L.ob_eq
    (by kernel_rfl) (fun s => by kernel_rfl) L.run (by kernel_rfl) (by kernel_rfl) (by kernel_rfl) (by rfl) (by first | assumption | decide +kernel) (by decide +kernel) ⟨rfl, rfl, rfl, rfl, rfl, by decide +kernel⟩ ?hw ?hc
  case hw => w_witness2
  case hc =>
    refine L2.walk_ofE (l := PySem.Challenge.rw_coveredday_k02_orders_that_meet) (n := 63) (k := 4) (x := "script") (CX := fun _ _ _ _ _ _ => False) rfl (by decide) (by kernel_rfl) ⟨rfl, by decide, by decide⟩ ?F (fun _ _ _ _ z => z)
    intro w mg fa h Y G hmg0
    obtain ⟨K, KX, c⟩ := Y
    have hmg : mg ("law" : PySem.Str) = some (.ref fa) := by
      have e : (HandSHeadRun.topDef (OpenLaw.row PySem.Challenge.rw_coveredday_k02_orders_that_meet).prog 21).name = ("law" : PySem.Str) := by kernel_rfl
      rw [← e]
      exact hmg0
    obtain ⟨fd, hb, hF⟩ := L.fin (P := (PySem.Challenge.rw_coveredday_k02_orders_that_meet).prog) (w := w) KX G hmg c
    exact ⟨K, fd, L.sp_law K, KX, hb, fun H a ns hl _ hS => _root_.G.lawSp_of hl hS, hF⟩

