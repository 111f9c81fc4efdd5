import PyProof.Rows.All
import Wide.All
import OpenK.AllK
import Wide.FinOn
import HandS.ForMost
import HandS.Wide
import HandS.WideBits
import HandS.Replace
import HandS.StrMore
import HandS.IsInst
import HandS.Flow
import HandS.Style
import HandS.Steps
import PyProof.StrBlock2
import PySem.Challenge.RW_sealline_k03_whole_polynomials_over_two
set_option Elab.async false
set_option linter.all false
set_option maxRecDepth 100000
set_option maxHeartbeats 4000000
namespace Rd
open PySem L2 PyProof.Rows
/-! ### what is known of the heap: places with what stands there -/
abbrev Ent := Addr × (HO → Prop)
/-- just this object -/
abbrev Is (p : Addr) (o : HO) : Ent := (p, fun x => x = o)
structure Has (H : Hp) (L : List Ent) : Prop where
  nd : (L.map (·.1)).Nodup
  at_ : ∀ e ∈ L, ∃ o, H e.1 = some o ∧ e.2 o
section
variable {H : Hp} {L : List Ent} {p : Addr} {o : HO} {φ : HO → Prop}
theorem Has.nil : Has H [] := ⟨List.nodup_nil, fun _ h => nomatch h⟩
theorem Has.tail {e : Ent} (S : Has H (e :: L)) : Has H L := ⟨(List.nodup_cons.mp S.nd).2, fun x h => S.at_ x (List.mem_cons_of_mem _ h)⟩
theorem Has.get (S : Has H L) (h : Is p o ∈ L) : H p = some o := by
  obtain ⟨u, e, q⟩ := S.at_ _ h
  have q' : u = o := q
  rw [q'] at e
  exact e
theorem Has.fresh (S : Has H L) (h : H p = none) : p ∉ L.map (·.1) := by
  intro m
  obtain ⟨e, he, q⟩ := List.mem_map.mp m
  obtain ⟨u, e1, _⟩ := S.at_ e he
  rw [q, h] at e1
  cases e1
theorem Has.newP (S : Has H L) (h : H p = none) (k : φ o) : Has (upd H p o) ((p, φ) :: L) := by
  refine ⟨List.nodup_cons.mpr ⟨S.fresh h, S.nd⟩, fun e he => ?_⟩
  rcases List.mem_cons.mp he with rfl | he
  · exact ⟨o, upd_same, k⟩
  · obtain ⟨u, e1, q⟩ := S.at_ e he
    exact ⟨u, by rw [upd_ne (ne_of_none e1 h)]; exact e1, q⟩
theorem Has.new (S : Has H L) (h : H p = none) : Has (upd H p o) (Is p o :: L) := S.newP h rfl
/-- garbage -/
theorem Has.junk (S : Has H L) (h : H p = none) : Has (upd H p o) L := (S.new (o := o) h).tail
theorem key_inj : ∀ {L : List Ent}, (L.map (·.1)).Nodup → ∀ {a b : Ent}, a ∈ L → b ∈ L → a.1 = b.1 → a = b
  | [], _, _, _, h, _, _ => nomatch h
  | x :: r, nd, a, b, ha, hb, e => by
    obtain ⟨h1, h2⟩ := List.nodup_cons.mp nd
    rcases List.mem_cons.mp ha with za | za
    · rcases List.mem_cons.mp hb with zb | zb
      · rw [za, zb]
      · exact absurd (List.mem_map.mpr ⟨b, zb, by rw [← e, za]⟩) h1
    · rcases List.mem_cons.mp hb with zb | zb
      · exact absurd (List.mem_map.mpr ⟨a, za, by rw [e, zb]⟩) h1
      · exact key_inj h2 za zb e
/-- an object is written within its word -/
theorem Has.put (S : Has H L) (h : (p, φ) ∈ L) (k : φ o) : Has (upd H p o) L := by
  refine ⟨S.nd, fun e he => ?_⟩
  by_cases q : e.1 = p
  · have e' : e = (p, φ) := key_inj S.nd he h q
    subst e'
    exact ⟨o, upd_same, k⟩
  · obtain ⟨u, e1, r⟩ := S.at_ e he
    exact ⟨u, by rw [upd_ne q]; exact e1, r⟩
theorem Has.set {ψ : HO → Prop} (S : Has H ((p, φ) :: L)) (k : ψ o) : Has (upd H p o) ((p, ψ) :: L) := by
  obtain ⟨h1, h2⟩ := List.nodup_cons.mp S.nd
  refine ⟨S.nd, fun e he => ?_⟩
  rcases List.mem_cons.mp he with rfl | he
  · exact ⟨o, upd_same, k⟩
  · obtain ⟨u, e1, r⟩ := S.at_ e (List.mem_cons_of_mem _ he)
    have ne : e.1 ≠ p := fun z => h1 (List.mem_map.mpr ⟨e, he, z⟩)
    exact ⟨u, by rw [upd_ne ne]; exact e1, r⟩
theorem Has.setI {u : HO} (S : Has H (Is p u :: L)) : Has (upd H p o) (Is p o :: L) := S.set rfl
/-- two places change places -/
theorem Has.swap {a b : Ent} (S : Has H (a :: b :: L)) : Has H (b :: a :: L) := by
  refine ⟨?_, fun e he => S.at_ e ?_⟩
  · have h := S.nd
    simp only [List.map_cons, List.nodup_cons, List.mem_cons, not_or] at h ⊢
    exact ⟨⟨fun z => h.1.1 z.symm, h.2.1⟩, h.1.2, h.2.2⟩
  · rcases List.mem_cons.mp he with rfl | he
    · exact List.mem_cons_of_mem _ List.mem_cons_self
    · rcases List.mem_cons.mp he with rfl | he
      · exact List.mem_cons_self
      · exact List.mem_cons_of_mem _ (List.mem_cons_of_mem _ he)
theorem Has.drop2 {a b : Ent} (S : Has H (a :: b :: L)) : Has H (a :: L) := S.swap.tail
theorem Has.drop3 {a b c : Ent} (S : Has H (a :: b :: c :: L)) : Has H (a :: b :: L) := by
  refine ⟨?_, fun e he => S.at_ e ?_⟩
  · have h := S.nd
    simp only [List.map_cons, List.nodup_cons, List.mem_cons, not_or] at h ⊢
    exact ⟨⟨h.1.1, h.1.2.2⟩, h.2.1.2, h.2.2.2⟩
  · rcases List.mem_cons.mp he with rfl | he
    · exact List.mem_cons_self
    · rcases List.mem_cons.mp he with rfl | he
      · exact List.mem_cons_of_mem _ List.mem_cons_self
      · exact List.mem_cons_of_mem _ (List.mem_cons_of_mem _ (List.mem_cons_of_mem _ he))
theorem Has.subl {L' : List Ent} (S : Has H L') (h : List.Sublist L L') : Has H L := ⟨S.nd.sublist (h.map _), fun e he => S.at_ e (h.subset he)⟩
theorem Has.drop4 {a b c d : Ent} (S : Has H (a :: b :: c :: d :: L)) : Has H (a :: b :: c :: L) := S.subl (.cons_cons _ (.cons_cons _ (.cons_cons _ (.cons _ (.refl _)))))
/-- the second and the third change places -/
theorem Has.mid {a b c : Ent} (S : Has H (a :: b :: c :: L)) : Has H (a :: c :: b :: L) := by
  refine ⟨?_, fun e he => S.at_ e ?_⟩
  · have h := S.nd
    simp only [List.map_cons, List.nodup_cons, List.mem_cons, not_or] at h ⊢
    exact ⟨⟨h.1.2.1, h.1.1, h.1.2.2⟩, ⟨fun z => h.2.1.1 z.symm, h.2.2.1⟩, h.2.1.2, h.2.2.2⟩
  · simp only [List.mem_cons] at he ⊢
    rcases he with h | h | h | h
    · exact .inl h
    · exact .inr (.inr (.inl h))
    · exact .inr (.inl h)
    · exact .inr (.inr (.inr h))
theorem Has.sl {K : PySem.W.Frag} {xs : List V} (S : Has H L) (h : Is p (.lst xs) ∈ L) : SqL K H p xs := SqL.of (S.get h)
theorem Has.st {K : PySem.W.Frag} {xs : List V} (S : Has H L) (h : Is p (.tup xs) ∈ L) : SqT K H p xs := SqT.of (S.get h)
end
theorem m0 {α : Type} {a : α} {l : List α} : a ∈ a :: l := List.mem_cons_self
theorem m1 {α : Type} {a b : α} {l : List α} : a ∈ b :: a :: l := List.mem_cons_of_mem _ m0
theorem m2 {α : Type} {a b c : α} {l : List α} : a ∈ b :: c :: a :: l := List.mem_cons_of_mem _ m1
theorem m3 {α : Type} {a b c d : α} {l : List α} : a ∈ b :: c :: d :: a :: l := List.mem_cons_of_mem _ m2
theorem m4 {α : Type} {a b c d e : α} {l : List α} : a ∈ b :: c :: d :: e :: a :: l := List.mem_cons_of_mem _ m3

/-! ### the rules that were named here -/
section
variable {X : Cx}
def CPowW (i j : Int) : Prop := 0 ≤ j ∧ (Builtin.Int.intBits i : Int) * j ≤ 2 ^ 27
theorem op_powW : OpR X (binaryOp .Pow) (rI CPowW fun i j => .int (i ^ j.toNat)) := opI fun _ _ _ _ _ _ _ hc q => pow_int hc.1 hc.2 q
end

/-! ### what is wanted behind a new object, a loop, a comprehension: words that keep the rest of the reading whole -/
def newL (xs : List V) (H : Hp) (Q : VK) : Prop := xs.length ≤ sizeLine ∧ ∀ p, H p = none → Q (.ref p) (upd H p (.lst xs))
def newT (xs : List V) (H : Hp) (Q : VK) : Prop := xs.length ≤ sizeLine ∧ ∀ p, H p = none → Q (.ref p) (upd H p (.tup xs))
def revK (K : PySem.W.Frag) (x : V) (H : Hp) (Q : VK) : Prop := ∃ a xs, x = .ref a ∧ SqL K H a xs ∧ ∀ p, H p = none → Q (.ref p) (upd H p (.lst xs.reverse))
def forK (J : It) (g : TG) (t : TS) (rt : VK) (nx : L2.St → Hp → Prop) (σ : L2.St) (H1 : Hp) : Prop := ∃ W : Nat → Nat → L2.St → Hp → Prop, (∃ m, W 0 m σ H1) ∧ ∀ i m σ H, W i m σ H →
  (J.stop i H ∧ nx σ H) ∨ (J.go i H ∧ ∃ N : L2.St → Hp → Prop, (∀ σ' H', N σ' H' → ∃ m', m' < m ∧ W (i + 1) m' σ' H') ∧ ∀ x H', J.yld i H x H' → g x σ H' fun σ2 H2 => t ⟨N, rt, nx, N⟩ σ2 H2)
def lcK (J : It) (g : TG) (tt : TT) (te : TE) (vs : List Nat) (σ : L2.St) (Q : VK) (H1 : Hp) : Prop := ∀ D, H1 D = none → ∃ W : Nat → Nat → Hp → Prop, (∃ m, W 0 m (upd H1 D (.lst []))) ∧ ∀ i m H, W i m H →
      (J.stop i H ∧ Q (.ref D) H) ∨ (J.go i H ∧ ∃ Nx : Hp → Prop, (∀ H', Nx H' → ∃ m', m' < m ∧ W (i + 1) m' H') ∧ ∀ x H', J.yld i H x H' → g x (wipe σ vs) H' fun σ2 H2 => wipe σ2 vs = wipe σ vs ∧ tt σ2 H2 fun b H3 =>
        if b = true then te σ2 H3 fun y H4 => ∃ acc, H4 D = some (.lst acc) ∧ acc.length < sizeLine ∧ Nx (upd H4 D (.lst (acc ++ [y]))) else Nx H3)

/-! ### == of lists of ints -/
theorem eqvAll_ints : ∀ xs ys : List Int, PyData.eqvAll (xs.map PyData.int) (ys.map PyData.int) = decide (xs = ys)
  | [], [] => by simp [PyData.eqvAll]
  | [], _ :: _ => by simp [PyData.eqvAll]
  | _ :: _, [] => by simp [PyData.eqvAll]
  | x :: xs, y :: ys => by
    simp only [List.map_cons, PyData.eqvAll, PyData.eqv, eqvAll_ints xs ys, List.cons.injEq, Bool.decide_and]
    rfl
theorem lay_ints : ∀ xs : List Int, PyData.canLayAll0 (xs.map PyData.int) = true
  | [] => by simp [PyData.canLayAll0]
  | x :: xs => by
    simp only [List.map_cons, PyData.canLayAll0, lay_ints xs, Bool.and_true]
    simp [PyData.canLay0]
theorem depth_ints : ∀ xs : List Int, PyData.depthAll (xs.map PyData.int) ≤ 1
  | [] => by simp [PyData.depthAll]
  | x :: xs => by
    have := depth_ints xs
    simp only [List.map_cons, PyData.depthAll]
    have e : PyData.depth (.int x) ≤ 1 := by simp [PyData.depth]
    omega
theorem shaped_list (xs : List Int) : SeqAt.shaped (.list (xs.map PyData.int)) = true := by
  unfold SeqAt.shaped
  have h1 : PyData.canLay0 (.list (xs.map PyData.int)) = true := by simp [PyData.canLay0, lay_ints]
  have h2 : PyData.depth (.list (xs.map PyData.int)) ≤ 64 := by
    have := depth_ints xs
    simp only [PyData.depth]
    omega
  rw [h1, decide_eq_true h2]
  rfl
theorem shaped_tuple (xs : List Int) : SeqAt.shaped (.tuple (xs.map PyData.int)) = true := by
  unfold SeqAt.shaped
  have h1 : PyData.canLay0 (.tuple (xs.map PyData.int)) = true := by simp [PyData.canLay0, lay_ints]
  have h2 : PyData.depth (.tuple (xs.map PyData.int)) ≤ 64 := by
    have := depth_ints xs
    simp only [PyData.depth]
    omega
  rw [h1, decide_eq_true h2]
  rfl
theorem dp_ints {K : PySem.W.Frag} {H : Hp} : ∀ xs : List Int, DpAll K H (xs.map V.int) (xs.map PyData.int)
  | [] => .nil
  | _ :: xs => .cons (.int _) (dp_ints xs)
theorem shaped_int (i : Int) : SeqAt.shaped (.int i) = true := by
  unfold SeqAt.shaped
  have h1 : PyData.canLay0 (.int i) = true := by simp [PyData.canLay0]
  have h2 : PyData.depth (.int i) ≤ 64 := by simp [PyData.depth]
  rw [h1, decide_eq_true h2]
  rfl
section
variable {K : PySem.W.Frag} {H : Hp} {Q : VK} {p q : Addr} {xs ys : List Int}
theorem r_eqLI (h1 : SqL K H p (xs.map V.int)) (h2 : SqL K H q (ys.map V.int)) (h : Q (.bl (decide (xs = ys))) H) : rEqD K (.ref p) (.ref q) H Q := by
  refine ⟨_, _, .lst h1 (dp_ints xs), .lst h2 (dp_ints ys), shaped_list xs, shaped_list ys, ?_⟩
  simp only [PyData.eqv, eqvAll_ints]
  exact h
theorem r_neLI (h1 : SqL K H p (xs.map V.int)) (h2 : SqL K H q (ys.map V.int)) (h : Q (.bl (!decide (xs = ys))) H) : rNeD K (.ref p) (.ref q) H Q := by
  refine ⟨_, _, .lst h1 (dp_ints xs), .lst h2 (dp_ints ys), shaped_list xs, shaped_list ys, ?_⟩
  simp only [PyData.eqv, eqvAll_ints]
  exact h
theorem r_eqTI (h1 : SqT K H p (xs.map V.int)) (h2 : SqT K H q (ys.map V.int)) (h : Q (.bl (decide (xs = ys))) H) : rEqD K (.ref p) (.ref q) H Q := by
  refine ⟨_, _, .tup h1 (dp_ints xs), .tup h2 (dp_ints ys), shaped_tuple xs, shaped_tuple ys, ?_⟩
  simp only [PyData.eqv, eqvAll_ints]
  exact h
theorem r_neTI (h1 : SqT K H p (xs.map V.int)) (h2 : SqT K H q (ys.map V.int)) (h : Q (.bl (!decide (xs = ys))) H) : rNeD K (.ref p) (.ref q) H Q := by
  refine ⟨_, _, .tup h1 (dp_ints xs), .tup h2 (dp_ints ys), shaped_tuple xs, shaped_tuple ys, ?_⟩
  simp only [PyData.eqv, eqvAll_ints]
  exact h
theorem r_neDI {i j : Int} (h : Q (.bl (!decide (i = j))) H) : rNeD K (.int i) (.int j) H Q := by
  refine ⟨_, _, .int i, .int j, shaped_int i, shaped_int j, ?_⟩
  simp only [PyData.eqv]
  exact h
theorem r_eqDI {i j : Int} (h : Q (.bl (decide (i = j))) H) : rEqD K (.int i) (.int j) H Q := by
  refine ⟨_, _, .int i, .int j, shaped_int i, shaped_int j, ?_⟩
  simp only [PyData.eqv]
  exact h
theorem r_neDN (h : Q (.bl false) H) : rNeD K .non .non H Q := ⟨_, _, .non, .non, by decide +kernel, by decide +kernel, by simp only [PyData.eqv]; exact h⟩
end
theorem Has.sub {H : Hp} {L L' : List Ent} (S : Has H L') (nd : (L.map (·.1)).Nodup) (h : ∀ e ∈ L, e ∈ L') : Has H L := ⟨nd, fun e he => S.at_ e (h e he)⟩

/-! ### readings, step by step -/
section
variable {K : PySem.W.Frag} {σ : L2.St} {H : Hp} {Q : VK} {D : Ends} {ta tb te : TE} {t u : TS} {g : TG} {v x y : V} {i : Nat} {c c2 : TT}
theorem r_seq {nx ct bk} {rt : VK} (h : t ⟨u ⟨nx, rt, bk, ct⟩, rt, bk, ct⟩ σ H) : tSeq t u ⟨nx, rt, bk, ct⟩ σ H := h
theorem r_next {nx ct bk} {rt : VK} (h : nx σ H) : tNext ⟨nx, rt, bk, ct⟩ σ H := h
theorem r_brk {nx ct bk} {rt : VK} (h : bk σ H) : tBreak ⟨nx, rt, bk, ct⟩ σ H := h
theorem r_cont {nx ct bk} {rt : VK} (h : ct σ H) : tCont ⟨nx, rt, bk, ct⟩ σ H := h
theorem r_asg {nx ct bk} {rt : VK} (h : te σ H fun x H1 => nx (σ.set i (some x)) H1) : tAsg te (gName i) ⟨nx, rt, bk, ct⟩ σ H := h
theorem r_asgG {nx ct bk} {rt : VK} (h : te σ H fun x H1 => g x σ H1 nx) : tAsg te g ⟨nx, rt, bk, ct⟩ σ H := h
theorem r_drop {nx ct bk} {rt : VK} (h : te σ H fun _ H1 => nx σ H1) : tDrop te ⟨nx, rt, bk, ct⟩ σ H := h
theorem r_ret {nx ct bk} {rt : VK} (h : te σ H rt) : tRet te ⟨nx, rt, bk, ct⟩ σ H := h
theorem r_retN {nx ct bk} {rt : VK} (h : rt .non H) : tRetN ⟨nx, rt, bk, ct⟩ σ H := h
theorem r_par {nx ct bk} {rt : VK} {i j : Nat} {ta : TA} (h : ta σ H fun vs H1 => ∃ v w, vs = [v, w] ∧ nx ((σ.set i (some v)).set j (some w)) H1) : tPar i j ta ⟨nx, rt, bk, ct⟩ σ H := h
theorem r_if {nx ct bk} {rt : VK} (h : c σ H fun b H1 => if b = true then t ⟨nx, rt, bk, ct⟩ σ H1 else u ⟨nx, rt, bk, ct⟩ σ H1) : tIfS c t u ⟨nx, rt, bk, ct⟩ σ H := h
theorem r_aug {nx ct bk} {rt : VK} {ti : TIp} (e : σ[i]? = some (some x)) (h : te σ H fun y H1 => ti x y H1 fun z H2 => nx (σ.set i (some z)) H2) : tAug i te ti ⟨nx, rt, bk, ct⟩ σ H := ⟨x, e, h⟩
theorem r_for {nx ct bk} {rt : VK} {wi : TI} (h : wi σ H fun J H1 => forK J g t rt nx σ H1) : tFor wi g t ⟨nx, rt, bk, ct⟩ σ H := h
theorem r_while {nx ct bk} {rt : VK} (h : ∃ W : Nat → L2.St → Hp → Prop, (∃ m, W m σ H) ∧ ∀ m σ H, W m σ H →
  c σ H fun b H1 => if b = true then ∃ N : L2.St → Hp → Prop, (∀ σ' H', N σ' H' → ∃ m', m' < m ∧ W m' σ' H') ∧ t ⟨N, rt, nx, N⟩ σ H1 else nx σ H1) : tWhile c t ⟨nx, rt, bk, ct⟩ σ H := h
theorem r_var (e : σ[i]? = some (some v)) (h : Q v H) : tVar i σ H Q := ⟨v, e, h⟩
theorem r_c (h : Q v H) : tC v σ H Q := h
theorem r_op {r : R2} (h : ta σ H fun x H1 => tb σ H1 fun y H2 => r x y H2 Q) : tOp r ta tb σ H Q := h
theorem r_un {r : V → Hp → VK → Prop} (h : ta σ H fun x H1 => r x H1 Q) : tUn r ta σ H Q := h
theorem r_ifE (h : c σ H fun b H1 => if b = true then ta σ H1 Q else tb σ H1 Q) : tIf c ta tb σ H Q := h
theorem r_test {QB : Bool → Hp → Prop} (h : te σ H fun x H' => ∃ k, x = .bl k ∧ QB k H') : tTest te σ H QB := h
theorem r_B {QB : Bool → Hp → Prop} (h : te σ H fun x H' => ∃ k, x = .bl k ∧ QB k H') : tB te σ H QB := h
theorem r_not {QB : Bool → Hp → Prop} (h : c σ H fun b H1 => QB (!b) H1) : tNot c σ H QB := h
theorem r_and {QB : Bool → Hp → Prop} (h : c σ H fun b H1 => if b = true then c2 σ H1 QB else QB false H1) : tAnd c c2 σ H QB := h
theorem r_or {QB : Bool → Hp → Prop} (h : c σ H fun b H1 => if b = true then QB true H1 else c2 σ H1 QB) : tOr c c2 σ H QB := h
theorem r_andV (h : ta σ H fun x H1 => ∃ c, x = .bl c ∧ if c = true then tb σ H1 Q else Q (.bl false) H1) : tAndV ta tb σ H Q := h
theorem r_orV (h : ta σ H fun x H1 => ∃ c, x = .bl c ∧ if c = true then Q (.bl true) H1 else tb σ H1 Q) : tOrV ta tb σ H Q := h
theorem r_notV (h : ta σ H fun x H1 => ∃ c, x = .bl c ∧ Q (.bl (!c)) H1) : tNotV ta σ H Q := h
theorem r_nil {QA : List V → Hp → Prop} (h : QA [] H) : tNil σ H QA := h
theorem r_cons {tr : TA} {QA : List V → Hp → Prop} (h : ta σ H fun x H1 => tr σ H1 fun xs H2 => QA (x :: xs) H2) : tCons ta tr σ H QA := h
theorem r_cb {r : List V → Hp → VK → Prop} {tr : TA} (h : tr σ H fun vs H1 => r vs H1 Q) : tCB r tr σ H Q := h
theorem r_call {sp : Sp} {E : XK} {tr : TA} (h : tr σ H fun vs H1 => sp vs H1 Q E) : tCall sp [] E tr σ H Q := by
  show tr σ H fun vs H1 => sp (vs ++ []) H1 Q E
  simpa only [List.append_nil] using h
theorem r_lst {tr : TA} (h : tr σ H fun xs H1 => newL xs H1 Q) : tLst tr σ H Q := h
theorem r_tup {tr : TA} (h : tr σ H fun xs H1 => newT xs H1 Q) : tTup tr σ H Q := h
theorem r_bm {T : String} {r : V → List V → Hp → VK → Prop} {to : TE} {tr : TA} (h : to σ H fun x H1 => tyV K T x H1 ∧ tr σ H1 fun xs H2 => r x xs H2 Q) : tBM K T r to tr σ H Q := h
theorem r_m1 {r : V → List V → Hp → VK → Prop} {to : TE} (h : to σ H fun x H1 => (∃ a, x = .str a) ∧ te σ H1 fun y H2 => r x [y] H2 Q) : tM1 r to te σ H Q := h
theorem r_sl {r : V → Option Int → Option Int → Hp → VK → Prop} {tl th : TO} (h : te σ H fun x H1 => tl σ H1 fun l H2 => th σ H2 fun u H3 => r x l u H3 Q) : tSl r te tl th σ H Q := h
theorem r_np {QO : Option Int → Hp → Prop} (h : QO none H) : tNoPart σ H QO := h
theorem r_pt {QO : Option Int → Hp → Prop} (h : te σ H fun x H1 => ∃ i, x = .int i ∧ QO (some i) H1) : tPart te σ H QO := h
theorem r_rng {tr : TA} {R : It → Hp → Prop} (h : tr σ H fun vs H1 => ∃ j : Int, vs = [.int j] ∧ -(2 ^ 62) ≤ j ∧ j < 2 ^ 62 ∧ R (Itr 0 j.toNat) H1) : iRng1 tr σ H R := h
theorem r_rng2 {tr : TA} {R : It → Hp → Prop} (h : tr σ H fun vs H1 => ∃ i j : Int, vs = [.int i, .int j] ∧ (-(2 ^ 62) ≤ i ∧ i < 2 ^ 62 ∧ -(2 ^ 62) ≤ j ∧ j < 2 ^ 62) ∧ R (Itr i (j - i).toNat) H1) : iRng2 tr σ H R := h
theorem r_gname {QS : L2.St → Hp → Prop} (q : QS (σ.set i (some v)) H) : gName i v σ H QS := q
theorem r_ilist {tl : TE} {R : It → Hp → Prop} (h : tl σ H fun x H1 => ∃ a, x = .ref a ∧ (∃ xs, SqL K H1 a xs) ∧ R (Itl K a) H1) : iList K tl σ H R := h
theorem r_itup {tl : TE} {R : It → Hp → Prop} (h : tl σ H fun x H1 => ∃ a, x = .ref a ∧ (∃ xs, SqT K H1 a xs) ∧ R (Itt K a) H1) : iTup K tl σ H R := h
theorem r_istr {tl : TE} {R : It → Hp → Prop} (h : tl σ H fun v H1 => ∃ x, v = .str x ∧ R (Its x) H1) : iStr tl σ H R := h
theorem r_yes {QB : Bool → Hp → Prop} (h : QB true H) : tYes σ H QB := h
theorem r_revL (h : te σ H fun x H1 => revK K x H1 Q) : tRevL K te σ H Q := h
theorem r_lc {wi : TI} {tt : TT} {vs : List Nat} (h : wi σ H fun J H1 => lcK J g tt te vs σ Q H1) : tLc wi g tt te vs σ H Q := h
theorem r_ex1 {b : Bool} {R : Bool → Prop} (q : R b) : ∃ k, V.bl b = .bl k ∧ R k := ⟨b, rfl, q⟩
theorem r_ex2 {R : V → V → Prop} {a b : V} (q : R a b) : ∃ v w, [a, b] = [v, w] ∧ R v w := ⟨a, b, rfl, q⟩
theorem r_exI {R : Int → Prop} {a : Int} (q : R a) : ∃ i, V.int a = .int i ∧ R i := ⟨a, rfl, q⟩
theorem r_exLI {P R : Int → Prop} {a : Int} (p : P a) (q : R a) : ∃ i, [V.int a] = [.int i] ∧ P i ∧ R i := ⟨a, rfl, p, q⟩
theorem r_exS {R : Prop} {a : Str} (q : R) : (∃ z, V.str a = .str z) ∧ R := ⟨⟨a, rfl⟩, q⟩
/-! operations on values -/
theorem r_I0 {G : Int → Int → V} {a b : Int} (h : Q (G a b) H) : rI0 G (.int a) (.int b) H Q := ⟨a, b, rfl, rfl, h⟩
theorem r_I {C : Int → Int → Prop} {G : Int → Int → V} {a b : Int} (hc : C a b) (h : Q (G a b) H) : rI C G (.int a) (.int b) H Q := ⟨a, b, rfl, rfl, hc, h⟩
theorem r_U {G : Int → V} {a : Int} (h : Q (G a) H) : rU G (.int a) H Q := ⟨a, rfl, h⟩
theorem r_eq {a b : V} (hs : scal a b = true) (h : Q (.bl (decide (a = b))) H) : rEq a b H Q := ⟨hs, h⟩
theorem r_ne {a b : V} (hs : scal a b = true) (h : Q (.bl (!decide (a = b))) H) : rNe a b H Q := ⟨hs, h⟩
theorem r_eqI {a b : Int} (h : Q (.bl (decide (a = b))) H) : rEq (.int a) (.int b) H Q := ⟨rfl, by
  have e : decide (V.int a = V.int b) = decide (a = b) := by rw [dec_int, Bool.beq_eq_decide_eq]
  rw [e]; exact h⟩
theorem r_neI {a b : Int} (h : Q (.bl (!decide (a = b))) H) : rNe (.int a) (.int b) H Q := ⟨rfl, by
  have e : decide (V.int a = V.int b) = decide (a = b) := by rw [dec_int, Bool.beq_eq_decide_eq]
  rw [e]; exact h⟩
theorem r_eqS {a b : Str} (h : Q (.bl (decide (a = b))) H) : rEq (.str a) (.str b) H Q := ⟨rfl, by
  have e : decide (V.str a = V.str b) = decide (a = b) := by rw [dec_str, Bool.beq_eq_decide_eq]
  rw [e]; exact h⟩
theorem r_neS {a b : Str} (h : Q (.bl (!decide (a = b))) H) : rNe (.str a) (.str b) H Q := ⟨rfl, by
  have e : decide (V.str a = V.str b) = decide (a = b) := by rw [dec_str, Bool.beq_eq_decide_eq]
  rw [e]; exact h⟩
theorem r_ipI {f : Int → Int → Int} {a b : Int} (h : Q (.int (f a b)) H) : ipI f (.int a) (.int b) H Q := ⟨a, b, rfl, rfl, h⟩
theorem r_ixL {p : Addr} {xs : List V} {a : Int} (hs : SqL K H p xs) (ha : atI xs a = some v) (h : Q v H) : rIxL K (.ref p) (.int a) H Q := ⟨p, xs, a, v, rfl, rfl, hs, ha, h⟩
theorem r_ixT {p : Addr} {xs : List V} {a : Int} (hs : SqT K H p xs) (ha : atI xs a = some v) (h : Q v H) : rIxT K (.ref p) (.int a) H Q := ⟨p, xs, a, v, rfl, rfl, hs, ha, h⟩
theorem r_app {p : Addr} {xs : List V} (hp : H p = some (.lst xs)) (hl : xs.length < sizeLine) (h : Q .non (upd H p (.lst (xs ++ [v])))) : rAppend (.ref p) [v] H Q := ⟨p, xs, v, rfl, rfl, hp, hl, h⟩
theorem ty_l {p : Addr} {xs : List V} (hp : H p = some (.lst xs)) : tyV K "list" (.ref p) H := .inl ⟨rfl, xs, SqL.of hp⟩
theorem ty_s {a : Str} : tyV K "str" (.str a) H := by
  show "str" = "str"
  rfl
theorem ty_sR {R : Prop} {a : Str} (h : R) : tyV K "str" (.str a) H ∧ R := ⟨ty_s, h⟩
theorem r_ty_s {R : Prop} {a : Str} (h : R) : tyV K "str" (.str a) H ∧ R := ⟨ty_s, h⟩
theorem r_rev {L : List Ent} {p : Addr} {xs : List V} (S : Has H L) (hs : SqL K H p xs) (k : ∀ q H', Has H' (Is q (.lst xs.reverse) :: L) → Q (.ref q) H') : revK K (.ref p) H Q := ⟨p, xs, rfl, hs, fun q hq => k q _ (S.new hq)⟩
theorem r_new {L : List Ent} {o : HO} (S : Has H L) (k : ∀ p H', Has H' (Is p o :: L) → Q (.ref p) H') : ∀ p, H p = none → Q (.ref p) (upd H p o) := fun p hp => k p _ (S.new hp)
theorem r_newLP {L : List Ent} {xs : List V} {φ : HO → Prop} (S : Has H L) (hl : xs.length ≤ 16777216) (k : φ (.lst xs)) (c : ∀ p H', Has H' ((p, φ) :: L) → Q (.ref p) H') : newL xs H Q := ⟨by rw [sizeLine_eq]; exact hl, fun p hp => c p _ (S.newP hp k)⟩
theorem r_inT {p : Addr} {xs : List V} (hs : SqT K H p xs) (hx : flatV x = true) (ha : xs.all flatV = true) (h : Q (.bl (inV x xs)) H) : rIn K false x (.ref p) H Q := ⟨p, xs, rfl, .inr hs, hx, ha, h⟩
theorem r_inL {p : Addr} {xs : List V} (hs : SqL K H p xs) (hx : flatV x = true) (ha : xs.all flatV = true) (h : Q (.bl (inV x xs)) H) : rIn K false x (.ref p) H Q := ⟨p, xs, rfl, .inl hs, hx, ha, h⟩
theorem r_niT {p : Addr} {xs : List V} (hs : SqT K H p xs) (hx : flatV x = true) (ha : xs.all flatV = true) (h : Q (.bl (!inV x xs)) H) : rIn K true x (.ref p) H Q := ⟨p, xs, rfl, .inr hs, hx, ha, h⟩
theorem r_niL {p : Addr} {xs : List V} (hs : SqL K H p xs) (hx : flatV x = true) (ha : xs.all flatV = true) (h : Q (.bl (!inV x xs)) H) : rIn K true x (.ref p) H Q := ⟨p, xs, rfl, .inl hs, hx, ha, h⟩
def rXorN : R2 := fun x y H Q => ∃ a b : Nat, x = .int a ∧ y = .int b ∧ Q (.int ((a ^^^ b : Nat) : Int)) H
theorem r_xorN {a b : Nat} (h : Q (.int ((a ^^^ b : Nat) : Int)) H) : rXorN (.int a) (.int b) H Q := ⟨a, b, rfl, rfl, h⟩
def rShlN : R2 := fun x y H Q => ∃ a k : Nat, x = .int a ∧ y = .int k ∧ (Builtin.Int.intBits (a : Int)) + k ≤ 134217728 ∧ Q (.int ((a * 2 ^ k : Nat) : Int)) H
theorem r_shlN {a k : Nat} {i j : Int} (hi : i = a) (hj : j = k) (hb : (Builtin.Int.intBits (a : Int)) + k ≤ 134217728) (h : Q (.int ((a * 2 ^ k : Nat) : Int)) H) : rShlN (.int i) (.int j) H Q := by
  subst hi hj
  exact ⟨a, k, rfl, rfl, hb, h⟩
theorem r_bits {to : TE} (h : to σ H fun x H1 => ∃ i, x = .int i ∧ Q (.int (Builtin.Int.intBits i : Nat)) H1) : tBits to σ H Q := h
def rListOf (K : PySem.W.Frag) : List V → Hp → VK → Prop := fun xs H Q => ∃ p ys, xs = [.ref p] ∧ (SqL K H p ys ∨ SqT K H p ys) ∧ ∀ l, H l = none → Q (.ref l) (upd H l (.lst ys))
theorem r_listL {p : Addr} {xs : List V} {L : List Ent} (S : Has H L) (hs : SqL K H p xs) (k : ∀ q H', Has H' (Is q (.lst xs) :: L) → Q (.ref q) H') : rListOf K [.ref p] H Q := ⟨p, xs, rfl, .inl hs, fun q hq => k q _ (S.new hq)⟩
theorem r_listT {p : Addr} {xs : List V} {L : List Ent} (S : Has H L) (hs : SqT K H p xs) (k : ∀ q H', Has H' (Is q (.lst xs) :: L) → Q (.ref q) H') : rListOf K [.ref p] H Q := ⟨p, xs, rfl, .inr hs, fun q hq => k q _ (S.new hq)⟩
theorem r_neg {a : Int} (h : Q (.int (-a)) H) : rU (fun i => .int (-i)) (.int a) H Q := ⟨a, rfl, h⟩
theorem r_enumI {tr : TA} {R : It → Hp → Prop} (h : tr σ H fun vs H1 => ∃ a xs, vs = [.ref a] ∧ SqL K H1 a xs ∧ R (Ite K a) H1) : iEnum K tr σ H R := h
theorem r_zipI {tr : TA} {R : It → Hp → Prop} (h : tr σ H fun vs H1 => ∃ a b xs ys, vs = [.ref a, .ref b] ∧ SqL K H1 a xs ∧ SqL K H1 b ys ∧ R (Itz K a b) H1) : iZip K tr σ H R := h
theorem r_isi {b : Bool} {t n : String} (ty : TyX K H x (.type t)) (e : kitB t n = some b) (h : Q (.bl b) H) : rIsi K [x, .ty n] H Q := ⟨x, .ty n, .type t, .type n, b, rfl, .ty n, ty, kit_ty e, h⟩
theorem r_isiT {t n : String} (ty : TyX K H x (.type t)) (e : kitB t n = some true) (h : Q (.bl true) H) : rIsi K [x, .ty n] H Q := r_isi ty e h
theorem r_isiF {t n : String} (ty : TyX K H x (.type t)) (e : kitB t n = some false) (h : Q (.bl false) H) : rIsi K [x, .ty n] H Q := r_isi ty e h
theorem r_chain {r r' : R2} {tc : TE} (h : ta σ H fun x H1 => tb σ H1 fun y H2 => r x y H2 fun z H3 => ∃ k, z = .bl k ∧ (if k = true then tc σ H3 fun w' H4 => r' y w' H4 Q else Q (.bl false) H3)) : tChain r r' ta tb tc σ H Q := h
def rInt1 : List V → Hp → VK → Prop := fun xs H Q => (∃ i, xs = [.int i] ∧ Q (.int i) H) ∨ ∃ k, xs = [.bl k] ∧ Q (.int (if k then 1 else 0)) H
theorem r_int1 {a : Int} (h : Q (.int a) H) : rInt1 [.int a] H Q := .inl ⟨a, rfl, h⟩
theorem r_int1b {b : Bool} (h : Q (.int (if b then 1 else 0)) H) : rInt1 [.bl b] H Q := .inr ⟨b, rfl, h⟩
def rAbs : List V → Hp → VK → Prop := fun xs H Q => ∃ i, xs = [.int i] ∧ Q (.int (if i < 0 then -i else i)) H
theorem r_abs {a : Int} (h : Q (.int (if a < 0 then -a else a)) H) : rAbs [.int a] H Q := ⟨a, rfl, h⟩
def rMax2 : List V → Hp → VK → Prop := fun xs H Q => ∃ i j, xs = [.int i, .int j] ∧ Q (.int (if j > i then j else i)) H
theorem r_max2 {a b : Int} (h : Q (.int (if b > a then b else a)) H) : rMax2 [.int a, .int b] H Q := ⟨a, b, rfl, h⟩
def rMin2 : List V → Hp → VK → Prop := fun xs H Q => ∃ i j, xs = [.int i, .int j] ∧ Q (.int (if j < i then j else i)) H
theorem r_min2 {a b : Int} (h : Q (.int (if b < a then b else a)) H) : rMin2 [.int a, .int b] H Q := ⟨a, b, rfl, h⟩
def rLenSeq (K : PySem.W.Frag) : List V → Hp → VK → Prop := fun xs H Q => ∃ p ys, xs = [.ref p] ∧ (SqL K H p ys ∨ SqT K H p ys) ∧ Q (.int ys.length) H
theorem r_lenL {p : Addr} {xs : List V} (hs : SqL K H p xs) (h : Q (.int xs.length) H) : rLenSeq K [.ref p] H Q := ⟨p, xs, rfl, .inl hs, h⟩
theorem r_lenT {p : Addr} {xs : List V} (hs : SqT K H p xs) (h : Q (.int xs.length) H) : rLenSeq K [.ref p] H Q := ⟨p, xs, rfl, .inr hs, h⟩
def rLenStr : List V → Hp → VK → Prop := fun xs H Q => ∃ z : Str, xs = [.str z] ∧ z.length ≤ sizeLine ∧ Q (.int z.length) H
theorem r_lenS {z : Str} (hl : z.length ≤ sizeLine) (h : Q (.int z.length) H) : rLenStr [.str z] H Q := ⟨z, rfl, hl, h⟩
def rStrI : List V → Hp → VK → Prop := fun xs H Q => ∃ i : Int, xs = [.int i] ∧ i.natAbs.log2 < 1920 ∧ Q (.str (toString i)) H
theorem r_strI {a : Int} (hl : a.natAbs.log2 < 1920) (h : Q (.str (toString a)) H) : rStrI [.int a] H Q := ⟨a, rfl, hl, h⟩
theorem r_setL {p : Addr} {xs : List V} {a : Int} {j : Nat} {QH : Hp → Prop} (hp : H p = some (.lst xs)) (hj : ixN xs.length a = some j) (h : QH (upd H p (.lst (xs.set j v)))) : rSetL (.ref p) (.int a) v H QH := ⟨p, xs, a, j, rfl, rfl, hp, hj, h⟩
theorem r_gsub {to ti : TE} {ts : TSet} {QS : L2.St → Hp → Prop} (h : to σ H fun o H1 => ti σ H1 fun i H2 => ts o i v H2 fun H3 => QS σ H3) : gSub to ti ts v σ H QS := h
theorem r_gtup {n : Nat} {tg : TGs} {p : Addr} {xs : List V} {QS : L2.St → Hp → Prop} (hs : SqT K H p xs) (hl : xs.length = n) (h : tg xs σ H QS) : gTup K n tg (.ref p) σ H QS := ⟨p, xs, rfl, hs, hl, h⟩
theorem r_gcons {g : TG} {tg : TGs} {xs : List V} {QS : L2.St → Hp → Prop} (h : g v σ H fun σ' H' => tg xs σ' H' QS) : gCons g tg (v :: xs) σ H QS := ⟨v, xs, rfl, h⟩
theorem r_gnil {QS : L2.St → Hp → Prop} (h : QS σ H) : gNil [] σ H QS := ⟨rfl, h⟩
def rIndexS : V → List V → Hp → VK → Prop := fun x xs H Q => ∃ (a b : Str) (i : Nat) (rest : List Nat), x = .str a ∧ xs = [.str b] ∧ Builtin.Str.occurrences a b 0 a.length 1 = i :: rest ∧ Q (.int (i : Nat)) H
theorem r_indexS {a b : Str} {i : Nat} {rest : List Nat} (e : Builtin.Str.occurrences a b 0 a.length 1 = i :: rest) (h : Q (.int (i : Nat)) H) : rIndexS (.str a) [.str b] H Q := ⟨a, b, i, rest, rfl, rfl, e, h⟩
def rLstrip : V → List V → Hp → VK → Prop := fun x xs H Q => ∃ a b : Str, x = .str a ∧ xs = [.str b] ∧ a.length ≤ sizeLine ∧ Q (.str (Txt.lstripChars a b)) H
theorem r_lstrip {a b : Str} (hl : a.length ≤ sizeLine) (h : Q (.str (Txt.lstripChars a b)) H) : rLstrip (.str a) [.str b] H Q := ⟨a, b, rfl, rfl, hl, h⟩
theorem r_sum {p : Addr} {ns : List Int} (hs : SqL K H p (ns.map V.int)) (h : Q (.int ns.sum) H) : rSum K [.ref p] H Q := ⟨p, ns, rfl, hs, h⟩
theorem r_all {p : Addr} {bs : List Bool} (hs : SqL K H p (bs.map V.bl)) (h : Q (.bl (bs.all id)) H) : rAll K [.ref p] H Q := ⟨p, bs, rfl, hs, h⟩
theorem r_any {p : Addr} {bs : List Bool} (hs : SqL K H p (bs.map V.bl)) (h : Q (.bl (bs.any id)) H) : rAny K [.ref p] H Q := ⟨p, bs, rfl, hs, h⟩
theorem r_inS {c : Nat} {z : Str} (h : Q (.bl (decide (c ∈ z.cps.toList))) H) : rInS (.str ⟨#[c]⟩) (.str z) H Q := ⟨c, z, rfl, rfl, h⟩
theorem r_notInS {c : Nat} {z : Str} (h : Q (.bl (!decide (c ∈ z.cps.toList))) H) : rNotInS (.str ⟨#[c]⟩) (.str z) H Q := ⟨c, z, rfl, rfl, h⟩
def rCatS : R2 := fun x y H Q => ∃ i j : Str, x = .str i ∧ y = .str j ∧ i.length + j.length ≤ sizeLine ∧ Q (.str (i ++ j)) H
theorem r_catS {a b : Str} (hl : a.length + b.length ≤ sizeLine) (h : Q (.str (a ++ b)) H) : rCatS (.str a) (.str b) H Q := ⟨a, b, rfl, rfl, hl, h⟩
def rMulS : R2 := fun x y H Q => ∃ (i : Str) (j : Int), x = .str i ∧ y = .int j ∧ MulOk i j ∧ Q (.str (Txt.mul i j)) H
theorem r_mulS {a : Str} {j : Int} (hl : MulOk a j) (h : Q (.str (Txt.mul a j)) H) : rMulS (.str a) (.int j) H Q := ⟨a, j, rfl, rfl, hl, h⟩
def rJoin (K : PySem.W.Frag) : V → List V → Hp → VK → Prop := fun x xs H Q => ∃ a p, ∃ ys : List Str, x = .str a ∧ xs = [.ref p] ∧ (SqL K H p (ys.map V.str) ∨ SqT K H p (ys.map V.str)) ∧
      (ys.map (·.length)).sum + ys.length * a.length ≤ 16777216 ∧ Q (.str (Txt.join a ys)) H
theorem r_joinL {a : Str} {p : Addr} {ys : List Str} (hs : SqL K H p (ys.map V.str)) (hl : (ys.map (·.length)).sum + ys.length * a.length ≤ 16777216) (h : Q (.str (Txt.join a ys)) H) : rJoin K (.str a) [.ref p] H Q := ⟨a, p, ys, rfl, rfl, .inl hs, hl, h⟩
theorem r_eqD {a b : V} {d e : PyData} (h1 : Dp K H a d) (h2 : Dp K H b e) (h3 : SeqAt.shaped d = true) (h4 : SeqAt.shaped e = true) (h : Q (.bl (PyData.eqv d e)) H) : rEqD K a b H Q := ⟨d, e, h1, h2, h3, h4, h⟩
theorem r_neD {a b : V} {d e : PyData} (h1 : Dp K H a d) (h2 : Dp K H b e) (h3 : SeqAt.shaped d = true) (h4 : SeqAt.shaped e = true) (h : Q (.bl (!PyData.eqv d e)) H) : rNeD K a b H Q := ⟨d, e, h1, h2, h3, h4, h⟩
theorem r_catL {p q : Addr} {xs ys : List V} {L : List Ent} (S : Has H L) (h1 : Is p (.lst xs) ∈ L) (h2 : Is q (.lst ys) ∈ L) (hl : xs.length + ys.length ≤ sizeLine) (k : ∀ r H', Has H' (Is r (.lst (xs ++ ys)) :: L) → Q (.ref r) H') : rCat (.ref p) (.ref q) H Q := ⟨p, q, xs, ys, rfl, rfl, S.get h1, S.get h2, hl, r_new S k⟩
theorem r_repL {p : Addr} {xs : List V} {k : Int} {L : List Ent} (S : Has H L) (h1 : Is p (.lst xs) ∈ L) (hk : -(2 ^ 63) ≤ k) (hk2 : k < 2 ^ 63) (hl : xs.length * k.toNat ≤ sizeLine) (c : ∀ r H', Has H' (Is r (.lst (List.replicate k.toNat xs).flatten) :: L) → Q (.ref r) H') : rRep (.ref p) (.int k) H Q :=
  ⟨p, k, xs, rfl, rfl, S.get h1, hk, hk2, hl, r_new S c⟩
section
variable {X : Cx}
theorem op_xorN : OpR X (binaryOp .BitXor) rXorN := by
  intro pins s σ H x y v u Q I rx ry h
  obtain ⟨a, b, rfl, rfl, q⟩ := h
  refine op_xor pins s σ H _ _ v u Q I rx ry ⟨_, _, rfl, rfl, ?_⟩
  show Q (.int (Builtin.bitXor (a : Int) (b : Int))) H
  rw [Bits.bitXor_pp (Int.natCast_nonneg a) (Int.natCast_nonneg b), Int.toNat_natCast, Int.toNat_natCast]
  exact q
theorem op_shlNN : OpR X (binaryOp .LShift) rShlN := by
  intro pins s σ H x y v u Q I rx ry h
  obtain ⟨a, k, rfl, rfl, hb, q⟩ := h
  refine op_shlW pins s σ H _ _ v u Q I rx ry ⟨_, _, rfl, rfl, ⟨Int.natCast_nonneg _, ?_⟩, ?_⟩
  · have e2 : (2 : Int) ^ 27 = 134217728 := by decide
    rw [e2]
    omega
  · show Q (.int ((a : Int) * 2 ^ (k : Int).toNat)) H
    rw [Int.toNat_natCast]
    have e : ((a * 2 ^ k : Nat) : Int) = (a : Int) * 2 ^ k := by simp
    rw [← e]
    exact q
theorem call_listR : CallR X (.type "list") (rListOf X.K) := call_list_of
theorem call_int : CallR X (.type "int") rInt1 := call_int1
theorem call_absR : CallR X (.builtin "abs") rAbs := call_abs
theorem call_lenQ : CallR X (.builtin "len") (rLenSeq X.K) := call_len_seq
theorem call_lenS : CallR X (.builtin "len") rLenStr := call_len_str
theorem call_strI : CallR X (.type "str") rStrI := call_str_int
theorem call_maxR (hc : X.calm = true) : CallR X (.builtin "max") rMax2 := call_max2 hc
theorem call_minR (hc : X.calm = true) : CallR X (.builtin "min") rMin2 := call_min2 hc
theorem mt_indexS : MtR X "str.index" rIndexS := mt_sindex
theorem mt_lstripS : MtR X "str.lstrip" rLstrip := mt_lstripChars
theorem op_catS : OpR X (binaryOp .Add) rCatS := op_add_str
theorem op_mulS : OpR X (binaryOp .Mult) rMulS := by
  intro pins s σ H x y v u Q I rx ry h
  obtain ⟨i, j, rfl, rfl, hk, q⟩ := h
  obtain ⟨t, rfl⟩ := rx
  obtain ⟨t', rfl⟩ := ry
  exact SB.mul hk fun t' k => ⟨.str _, H, I.tok _, ⟨_, rfl⟩, q⟩
theorem pe_joinR {o e : Expr} {to te : TE} {apos pos : Pos} (ho : PE X o to) (he : PE X e te) (hs : starEach [e] X.env = [(false, eval e X.env)] := by rfl) (hbase : attributeBase o "join" X.env (eval o X.env) = eval o X.env := by rfl) (hline : (apos.endLine == pos.line) = true := by rfl) :
    PE X (.Call (.Attribute o "join" apos) [e] [] pos) (tM1 (rJoin X.K) to te) := pe_join ho he hs hbase hline
end
/-! tests -/
theorem r_dec {p : Prop} {ip : Decidable p} {A B : Prop} (h1 : p → A) (h2 : ¬ p → B) : if decide p = true then A else B := by
  by_cases h : p
  · rw [if_pos (decide_eq_true h)]; exact h1 h
  · rw [if_neg (by simpa using h)]; exact h2 h
theorem r_ndec {p : Prop} {ip : Decidable p} {A B : Prop} (h1 : ¬ p → A) (h2 : p → B) : if (!decide p) = true then A else B := by
  by_cases h : p
  · rw [if_neg (by simpa using h)]; exact h2 h
  · rw [if_pos (by simpa using h)]; exact h1 h
theorem r_bool {b : Bool} {A B : Prop} (h1 : b = true → A) (h2 : b = false → B) : if b = true then A else B := by
  cases b with
  | true => rw [if_pos rfl]; exact h1 rfl
  | false => rw [if_neg Bool.false_ne_true]; exact h2 rfl
theorem r_decT {p : Prop} {ip : Decidable p} {A B : Prop} (hp : p) (h : A) : if decide p = true then A else B := r_dec (fun _ => h) fun n => absurd hp n
theorem r_decF {p : Prop} {ip : Decidable p} {A B : Prop} (hp : ¬ p) (h : B) : if decide p = true then A else B := r_dec (fun n => absurd n hp) fun _ => h
theorem r_ndecT {p : Prop} {ip : Decidable p} {A B : Prop} (hp : ¬ p) (h : A) : if (!decide p) = true then A else B := r_ndec (fun _ => h) fun n => absurd n hp
theorem r_ndecF {p : Prop} {ip : Decidable p} {A B : Prop} (hp : p) (h : B) : if (!decide p) = true then A else B := r_ndec (fun n => absurd hp n) fun _ => h
theorem r_tt {A B : Prop} (h : A) : if true = true then A else B := iteT h
theorem r_ff {A B : Prop} (h : B) : if false = true then A else B := iteF h
theorem r_nt {A B : Prop} (h : B) : if (!true) = true then A else B := iteF h
theorem r_nf {A B : Prop} (h : A) : if (!false) = true then A else B := iteT h
/-! new objects -/
theorem r_newL {L : List Ent} {xs : List V} (S : Has H L) (hl : xs.length ≤ sizeLine) (k : ∀ p H', Has H' (Is p (.lst xs) :: L) → Q (.ref p) H') : newL xs H Q := ⟨hl, r_new S k⟩
theorem r_newT {L : List Ent} {xs : List V} (S : Has H L) (hl : xs.length ≤ sizeLine) (k : ∀ p H', Has H' (Is p (.tup xs) :: L) → Q (.ref p) H') : newT xs H Q := ⟨hl, r_new S k⟩
theorem r_slL {L : List Ent} {p : Addr} {xs : List V} {lo hi : Option Int} (S : Has H L) (hs : SqL K H p xs) (k : ∀ q H', Has H' (Is q (.lst (cutV xs lo hi)) :: L) → Q (.ref q) H') : rSlL K (.ref p) lo hi H Q := ⟨p, xs, rfl, hs, r_new S k⟩
end
/-! ### loops -/
section
variable {K : PySem.W.Frag} {σ : L2.St} {H : Hp} {Q : VK} {t : TS} {g : TG} {nx bk : L2.St → Hp → Prop} {rt : VK}
/-- for .. in range(n) -/
theorem l_rng1 {n : Int} (h1 : -(2 ^ 62) ≤ n) (h2 : n < 2 ^ 62) (Pv : Nat → L2.St → Hp → Prop) (h0 : Pv 0 σ H)
    (hs : ∀ (i : Nat) σ H, (i : Int) < n → Pv i σ H → g (.int (i : Int)) σ H fun σ2 H2 => t ⟨Pv (i + 1), rt, nx, Pv (i + 1)⟩ σ2 H2) (hd : ∀ σ H, Pv n.toNat σ H → nx σ H) :
    ∃ j : Int, [V.int n] = [.int j] ∧ -(2 ^ 62) ≤ j ∧ j < 2 ^ 62 ∧ forK (Itr 0 j.toNat) g t rt nx σ H :=
  ⟨n, rfl, h1, h2, for_range (lo := 0) (n := n.toNat) (D := ⟨nx, rt, nx, nx⟩) Pv h0 (fun i σ' H' hi p => by
    have e0 : (0 : Int) + (i : Int) = (i : Int) := Int.zero_add _
    rw [e0]
    exact hs i σ' H' (by omega) p) hd⟩
/-- for .. in range(a, b) -/
theorem l_rng2 {a b : Int} (h1 : -(2 ^ 62) ≤ a) (h2 : a < 2 ^ 62) (h3 : -(2 ^ 62) ≤ b) (h4 : b < 2 ^ 62) (Pv : Nat → L2.St → Hp → Prop) (h0 : Pv 0 σ H)
    (hs : ∀ (i : Nat) σ H, a + (i : Int) < b → Pv i σ H → g (.int (a + (i : Int))) σ H fun σ2 H2 => t ⟨Pv (i + 1), rt, nx, Pv (i + 1)⟩ σ2 H2) (hd : ∀ σ H, Pv (b - a).toNat σ H → nx σ H) :
    ∃ i j : Int, [V.int a, V.int b] = [.int i, .int j] ∧ (-(2 ^ 62) ≤ i ∧ i < 2 ^ 62 ∧ -(2 ^ 62) ≤ j ∧ j < 2 ^ 62) ∧ forK (Itr i (j - i).toNat) g t rt nx σ H :=
  ⟨a, b, rfl, ⟨h1, h2, h3, h4⟩, for_range (lo := a) (n := (b - a).toNat) (D := ⟨nx, rt, nx, nx⟩) Pv h0 (fun i σ' H' hi p => hs i σ' H' (by omega) p) hd⟩
/-- for .. in a list that stands -/
theorem l_list {p : Addr} {xs : List V} (hs0 : SqL K H p xs) (Pv : Nat → L2.St → Hp → Prop) (h0 : Pv 0 σ H) (hl : ∀ i σ H, i ≤ xs.length → Pv i σ H → SqL K H p xs)
    (hs : ∀ i x σ H, xs[i]? = some x → Pv i σ H → g x σ H fun σ2 H2 => t ⟨Pv (i + 1), rt, nx, Pv (i + 1)⟩ σ2 H2) (hd : ∀ σ H, Pv xs.length σ H → nx σ H) :
    ∃ a, V.ref p = .ref a ∧ (∃ xs, SqL K H a xs) ∧ forK (Itl K a) g t rt nx σ H :=
  ⟨p, rfl, ⟨xs, hs0⟩, for_list (D := ⟨nx, rt, nx, nx⟩) Pv h0 hl hs hd⟩
theorem l_tup {p : Addr} {xs : List V} (hs0 : SqT K H p xs) (Pv : Nat → L2.St → Hp → Prop) (h0 : Pv 0 σ H) (hl : ∀ i σ H, i ≤ xs.length → Pv i σ H → SqT K H p xs)
    (hs : ∀ i x σ H, xs[i]? = some x → Pv i σ H → g x σ H fun σ2 H2 => t ⟨Pv (i + 1), rt, nx, Pv (i + 1)⟩ σ2 H2) (hd : ∀ σ H, Pv xs.length σ H → nx σ H) :
    ∃ a, V.ref p = .ref a ∧ (∃ xs, SqT K H a xs) ∧ forK (Itt K a) g t rt nx σ H :=
  ⟨p, rfl, ⟨xs, hs0⟩, for_tup (D := ⟨nx, rt, nx, nx⟩) Pv h0 hl hs hd⟩
/-- for .. in a text -/
theorem l_str {x : Str} (Pv : Nat → L2.St → Hp → Prop) (h0 : Pv 0 σ H)
    (hs : ∀ (i c : Nat) σ H, x.cps.toList[i]? = some c → Pv i σ H → g (.str ⟨#[c]⟩) σ H fun σ2 H2 => t ⟨Pv (i + 1), rt, nx, Pv (i + 1)⟩ σ2 H2) (hd : ∀ σ H, Pv x.cps.toList.length σ H → nx σ H) :
    ∃ y, V.str x = .str y ∧ forK (Its y) g t rt nx σ H := by
  have el : x.cps.toList.length = x.cps.size := Array.length_toList
  refine ⟨x, rfl, fun i m σ H => m = x.cps.size - i ∧ i ≤ x.cps.size ∧ Pv i σ H, ⟨x.cps.size, by simp, Nat.zero_le _, h0⟩, ?_⟩
  rintro i m σ H ⟨rfl, hi, p⟩
  by_cases hlt : i < x.cps.size
  · refine .inr ⟨hlt, Pv (i + 1), fun σ' H' p' => ⟨x.cps.size - (i + 1), by omega, rfl, hlt, p'⟩, fun v H' y => ?_⟩
    obtain ⟨e, c, hc, ev⟩ := y
    subst e ev
    exact hs i c σ _ (by simpa using hc) p
  · have e : i = x.cps.size := by omega
    subst e
    exact .inl ⟨Nat.le_refl _, hd σ H (by rw [el]; exact p)⟩
end
section
variable {K : PySem.W.Frag} {σ : L2.St} {H : Hp} {Q : VK} {t : TS} {g : TG} {nx bk : L2.St → Hp → Prop} {rt : VK}
/-- for i, x in enumerate(list) -/
theorem l_enum {p : Addr} {xs : List V} (hs0 : SqL K H p xs) (Pv : Nat → L2.St → Hp → Prop) (h0 : Pv 0 σ H) (hl : ∀ i σ H, i ≤ xs.length → Pv i σ H → SqL K H p xs)
    (hs : ∀ (i : Nat) x T σ H, xs[i]? = some x → Pv i σ H → H T = none → g (.ref T) σ (upd H T (.tup [.int (i : Nat), x])) fun σ2 H2 => t ⟨Pv (i + 1), rt, nx, Pv (i + 1)⟩ σ2 H2) (hd : ∀ σ H, Pv xs.length σ H → nx σ H) :
    ∃ a ys, [V.ref p] = [.ref a] ∧ SqL K H a ys ∧ forK (Ite K a) g t rt nx σ H := by
  refine ⟨p, xs, rfl, hs0, fun i m σ H => m = xs.length - i ∧ i ≤ xs.length ∧ Pv i σ H, ⟨xs.length, by simp, Nat.zero_le _, h0⟩, ?_⟩
  rintro i m σ H ⟨rfl, hi, q⟩
  have hq := hl i σ H hi q
  by_cases hlt : i < xs.length
  · refine .inr ⟨⟨xs, xs[i], hq, by simp [hlt]⟩, Pv (i + 1), fun σ' H' p' => ⟨xs.length - (i + 1), by omega, rfl, hlt, p'⟩, fun v H' y => ?_⟩
    obtain ⟨T, x, rfl, hT, rfl, hx⟩ := y
    exact hs i x T σ H (hx xs hq) q hT
  · have e : i = xs.length := by omega
    subst e
    exact .inl ⟨⟨xs, hq, Nat.le_refl _⟩, hd σ H q⟩
end
/-! ### comprehensions: what is made so far is acc i; the rest of the heap stands as L says -/
section
variable {K : PySem.W.Frag} {σ : L2.St} {H : Hp} {Q : VK} {te : TE} {tt : TT} {g : TG} {vs : List Nat} {L : List Ent}
abbrev LcTurn (g : TG) (tt : TT) (te : TE) (vs : List Nat) (σ : L2.St) (L : List Ent) (D : Addr) (x : V) (a b : List V) (H : Hp) : Prop :=
  ∀ Nx : Hp → Prop, (∀ H', Has H' (Is D (.lst b) :: L) → Nx H') → g x (wipe σ vs) H fun σ2 H2 => wipe σ2 vs = wipe σ vs ∧ tt σ2 H2 fun b H3 =>
      if b = true then te σ2 H3 fun y H4 => ∃ acc, H4 D = some (.lst acc) ∧ acc.length < sizeLine ∧ Nx (upd H4 D (.lst (acc ++ [y]))) else Nx H3
theorem lc_put {D : Addr} {a b : List V} {y : V} {Nx : Hp → Prop} (S : Has H (Is D (.lst a) :: L)) (hl : a.length < 16777216) (e : b = a ++ [y]) (k : ∀ H', Has H' (Is D (.lst b) :: L) → Nx H') :
    ∃ acc, H D = some (.lst acc) ∧ acc.length < sizeLine ∧ Nx (upd H D (.lst (acc ++ [y]))) := by
  refine ⟨a, S.get m0, by rw [sizeLine_eq]; exact hl, k _ ?_⟩
  rw [e]
  exact S.setI
theorem l_lcL {p : Addr} {xs : List V} (S : Has H L) (hq : ∀ H', Has H' L → SqL K H' p xs) (acc : Nat → List V) (h0 : acc 0 = [])
    (hs : ∀ i x D H', xs[i]? = some x → Has H' (Is D (.lst (acc i)) :: L) → LcTurn g tt te vs σ L D x (acc i) (acc (i + 1)) H')
    (hd : ∀ D H', Has H' (Is D (.lst (acc xs.length)) :: L) → Q (.ref D) H') :
    ∃ a, V.ref p = .ref a ∧ (∃ xs, SqL K H a xs) ∧ lcK (Itl K a) g tt te vs σ Q H :=
  ⟨p, rfl, ⟨xs, hq _ S⟩, fun D hD => lc_list (K := K) (a := p) (xs := xs) (fun i H' => Has H' (Is D (.lst (acc i)) :: L)) (by rw [h0]; exact S.new hD) (fun i H' _ S' => hq _ S'.tail)
    (fun i x H' hx S' => hs i x D H' hx S' _ fun _ z => z) fun H' S' => hd D H' S'⟩
theorem l_lcT {p : Addr} {xs : List V} (S : Has H L) (hq : ∀ H', Has H' L → SqT K H' p xs) (acc : Nat → List V) (h0 : acc 0 = [])
    (hs : ∀ i x D H', xs[i]? = some x → Has H' (Is D (.lst (acc i)) :: L) → LcTurn g tt te vs σ L D x (acc i) (acc (i + 1)) H')
    (hd : ∀ D H', Has H' (Is D (.lst (acc xs.length)) :: L) → Q (.ref D) H') :
    ∃ a, V.ref p = .ref a ∧ (∃ xs, SqT K H a xs) ∧ lcK (Itt K a) g tt te vs σ Q H :=
  ⟨p, rfl, ⟨xs, hq _ S⟩, fun D hD => lc_tup (K := K) (a := p) (xs := xs) (fun i H' => Has H' (Is D (.lst (acc i)) :: L)) (by rw [h0]; exact S.new hD) (fun i H' _ S' => hq _ S'.tail)
    (fun i x H' hx S' => hs i x D H' hx S' _ fun _ z => z) fun H' S' => hd D H' S'⟩
theorem l_lcR {n : Int} (h1 : -(2 ^ 62) ≤ n) (h2 : n < 2 ^ 62) (S : Has H L) (acc : Nat → List V) (h0 : acc 0 = [])
    (hs : ∀ (i : Nat) D H', (i : Int) < n → Has H' (Is D (.lst (acc i)) :: L) → LcTurn g tt te vs σ L D (.int (i : Int)) (acc i) (acc (i + 1)) H')
    (hd : ∀ D H', Has H' (Is D (.lst (acc n.toNat)) :: L) → Q (.ref D) H') :
    ∃ j : Int, [V.int n] = [.int j] ∧ -(2 ^ 62) ≤ j ∧ j < 2 ^ 62 ∧ lcK (Itr 0 j.toNat) g tt te vs σ Q H :=
  ⟨n, rfl, h1, h2, fun D hD => lc_range (lo := 0) (n := n.toNat) (fun i H' => Has H' (Is D (.lst (acc i)) :: L)) (by rw [h0]; exact S.new hD)
    (fun i H' hi S' => by
      have e0 : (0 : Int) + (i : Int) = (i : Int) := Int.zero_add _
      rw [e0]
      exact hs i D H' (by omega) S' _ fun _ z => z) fun H' S' => hd D H' S'⟩
theorem l_lcZ {p q : Addr} {xs ys : List V} (S : Has H L) (hlen : xs.length = ys.length) (hq : ∀ H', Has H' L → SqL K H' p xs ∧ SqL K H' q ys) (acc : Nat → List V) (h0 : acc 0 = [])
    (hs : ∀ i x y D T H', xs[i]? = some x → ys[i]? = some y → Has H' (Is T (.tup [x, y]) :: Is D (.lst (acc i)) :: L) → LcTurn g tt te vs σ L D (.ref T) (acc i) (acc (i + 1)) H')
    (hd : ∀ D H', Has H' (Is D (.lst (acc xs.length)) :: L) → Q (.ref D) H') :
    ∃ a b us ws, [V.ref p, V.ref q] = [.ref a, .ref b] ∧ SqL K H a us ∧ SqL K H b ws ∧ lcK (Itz K a b) g tt te vs σ Q H := by
  refine ⟨p, q, xs, ys, rfl, (hq _ S).1, (hq _ S).2, fun D hD => ?_⟩
  refine ⟨fun i m H => m = xs.length - i ∧ i ≤ xs.length ∧ Has H (Is D (.lst (acc i)) :: L), ⟨xs.length, by simp, Nat.zero_le _, by rw [h0]; exact S.new hD⟩, ?_⟩
  rintro i m H ⟨rfl, hi, S'⟩
  obtain ⟨q1, q2⟩ := hq _ S'.tail
  by_cases hlt : i < xs.length
  · have hlt2 : i < ys.length := by omega
    refine .inr ⟨⟨xs, ys, xs[i], ys[i], q1, q2, by simp [hlt], by simp [hlt2]⟩, fun H' => Has H' (Is D (.lst (acc (i + 1))) :: L), fun H' p' => ⟨xs.length - (i + 1), by omega, rfl, hlt, p'⟩, fun v H' y => ?_⟩
    obtain ⟨T, x, y, rfl, hT, rfl, f1, f2⟩ := y
    exact hs i x y D T _ (f1 xs q1) (f2 ys q2) (S'.new hT) _ fun _ z => z
  · have e : i = xs.length := by omega
    subst e
    exact .inl ⟨⟨xs, ys, q1, q2, .inl (Nat.le_refl _)⟩, hd D H S'⟩
theorem l_lcS {x : Str} (S : Has H L) (acc : Nat → List V) (h0 : acc 0 = [])
    (hs : ∀ (i c : Nat) D H', x.cps.toList[i]? = some c → Has H' (Is D (.lst (acc i)) :: L) → LcTurn g tt te vs σ L D (.str ⟨#[c]⟩) (acc i) (acc (i + 1)) H')
    (hd : ∀ D H', Has H' (Is D (.lst (acc x.cps.toList.length)) :: L) → Q (.ref D) H') :
    ∃ y, V.str x = .str y ∧ lcK (Its y) g tt te vs σ Q H := by
  refine ⟨x, rfl, fun D hD => ?_⟩
  have el : x.cps.toList.length = x.cps.size := Array.length_toList
  refine ⟨fun i m H => m = x.cps.size - i ∧ i ≤ x.cps.size ∧ Has H (Is D (.lst (acc i)) :: L), ⟨x.cps.size, by simp, Nat.zero_le _, by rw [h0]; exact S.new hD⟩, ?_⟩
  rintro i m H ⟨rfl, hi, p⟩
  by_cases hlt : i < x.cps.size
  · refine .inr ⟨hlt, fun H' => Has H' (Is D (.lst (acc (i + 1))) :: L), fun H' p' => ⟨x.cps.size - (i + 1), by omega, rfl, hlt, p'⟩, fun v H' y => ?_⟩
    obtain ⟨e, c, hc, ev⟩ := y
    subst e ev
    exact hs i c D _ (by simpa using hc) p _ fun _ z => z
  · have e : i = x.cps.size := by omega
    subst e
    exact .inl ⟨Nat.le_refl _, hd D H (by rw [el]; exact p)⟩
end
/-- the script as something that stands: known to the heap, or written -/
theorem script_has {K : PySem.W.Frag} {H : Hp} {a : Addr} {xs : List V} (h : SqL K H a xs) : ∃ L : List Ent, Has H L ∧ ∀ H', Has H' L → SqL K H' a xs := by
  rcases h with (h | ⟨o, h⟩) | h
  · refine ⟨[(a, fun u => u = .lst xs)], ⟨by simp, fun e he => ?_⟩, fun H' S' => ?_⟩
    · rw [List.mem_singleton.mp he]
      exact ⟨_, h, rfl⟩
    · obtain ⟨u, e, q⟩ := S'.at_ _ List.mem_cons_self
      have q' : u = .lst xs := q
      rw [q'] at e
      exact .inl (.inl e)
  · refine ⟨[(a, fun u => u = .frz o (.lst xs))], ⟨by simp, fun e he => ?_⟩, fun H' S' => ?_⟩
    · rw [List.mem_singleton.mp he]
      exact ⟨_, h, rfl⟩
    · obtain ⟨u, e, q⟩ := S'.at_ _ List.mem_cons_self
      have q' : u = .frz o (.lst xs) := q
      rw [q'] at e
      exact .inl (.inr ⟨o, e⟩)
  · exact ⟨[], Has.nil, fun _ _ => .inr h⟩
theorem small_sz {n : Nat} (h : n ≤ 16777216) : n ≤ sizeLine := by rw [sizeLine_eq]; exact h
theorem small_szl {n : Nat} (h : n < 16777216) : n < sizeLine := by rw [sizeLine_eq]; exact h
theorem cmul_l {i j : Int} (h1 : -18446744073709551616 < i) (h2 : i < 18446744073709551616) : CMul i j := .inl ⟨h1, h2⟩
theorem cmul_r {i j : Int} (h1 : -18446744073709551616 < j) (h2 : j < 18446744073709551616) : CMul i j := .inr ⟨h1, h2⟩
end Rd

/-! Polynomials over two as natural numbers: xor is the sum. -/
namespace Gf
/-- how many bits -/
def blen (n : Nat) : Nat := if n = 0 then 0 else n.log2 + 1
theorem blen_zero : blen 0 = 0 := rfl
theorem blen_le {a n : Nat} : blen a ≤ n ↔ a < 2 ^ n := by
  unfold blen
  by_cases h : a = 0
  · rw [if_pos h]
    subst h
    exact ⟨fun _ => Nat.pow_pos (by decide), fun _ => Nat.zero_le _⟩
  · rw [if_neg h]
    constructor
    · intro z
      exact (Nat.log2_lt h).mp z
    · intro z
      exact (Nat.log2_lt h).mpr z
theorem lt_blen {a n : Nat} : n < blen a ↔ 2 ^ n ≤ a := by
  have := blen_le (a := a) (n := n)
  omega
theorem blen_pos {a : Nat} (h : a ≠ 0) : 0 < blen a := by
  rw [lt_blen]
  simp
  omega
theorem blen_eq_zero {a : Nat} (h : blen a = 0) : a = 0 := by
  have := (blen_le (a := a) (n := 0)).mp (by omega)
  simp at this
  exact this
theorem blen_lt_pow (a : Nat) : a < 2 ^ blen a := blen_le.mp (Nat.le_refl _)
theorem pow_le_blen {a : Nat} (h : a ≠ 0) : 2 ^ (blen a - 1) ≤ a := by
  have := blen_pos h
  rw [← lt_blen]
  omega
theorem blen_unique {a n : Nat} (h1 : 2 ^ n ≤ a) (h2 : a < 2 ^ (n + 1)) : blen a = n + 1 := by
  have a1 := lt_blen.mpr h1
  have a2 := blen_le.mpr h2
  omega
theorem blen_double {a : Nat} (h : a ≠ 0) : blen (2 * a) = blen a + 1 := by
  have h1 := pow_le_blen h
  have h2 := blen_lt_pow a
  have h3 := blen_pos h
  have e : blen (2 * a) = (blen a) + 1 := by
    refine blen_unique ?_ ?_
    · have : 2 ^ blen a = 2 * 2 ^ (blen a - 1) := by
        rw [← Nat.pow_succ']
        congr 1
        omega
      omega
    · rw [Nat.pow_succ]
      omega
  exact e
theorem blen_half {a : Nat} (h : a ≠ 0) : blen a = blen (a / 2) + 1 := by
  by_cases z : a / 2 = 0
  · have : a = 1 := by omega
    subst this
    decide
  · have h1 := pow_le_blen z
    have h2 := blen_lt_pow (a / 2)
    have h3 := blen_pos z
    refine blen_unique ?_ ?_
    · have : 2 ^ blen (a / 2) = 2 * 2 ^ (blen (a / 2) - 1) := by
        rw [← Nat.pow_succ']
        congr 1
        omega
      omega
    · rw [Nat.pow_succ]
      omega
theorem blen_xor_le {a b n : Nat} (ha : blen a ≤ n) (hb : blen b ≤ n) : blen (a ^^^ b) ≤ n := blen_le.mpr (Nat.xor_lt_two_pow (blen_le.mp ha) (blen_le.mp hb))
theorem top_bit {a k : Nat} (h1 : 2 ^ k ≤ a) (h2 : a < 2 ^ (k + 1)) : a.testBit k = true := by
  rw [Nat.testBit_eq_decide_div_mod_eq]
  have e : a / 2 ^ k = 1 := by
    have hp : 0 < 2 ^ k := Nat.pow_pos (by decide)
    rw [Nat.pow_succ] at h2
    exact Nat.div_eq_of_lt_le (by omega) (by omega)
  rw [e]
  rfl
/-- two of one length: the highest terms fall away -/
theorem blen_xor_lt {a b : Nat} (h : blen a = blen b) (h0 : a ≠ 0) : blen (a ^^^ b) < blen a := by
  have hp := blen_pos h0
  obtain ⟨k, hk⟩ : ∃ k, blen a = k + 1 := ⟨blen a - 1, by omega⟩
  have a1 : 2 ^ k ≤ a := lt_blen.mp (by omega)
  have a2 : a < 2 ^ (k + 1) := blen_le.mp (by omega)
  have b1 : 2 ^ k ≤ b := lt_blen.mp (by omega)
  have b2 : b < 2 ^ (k + 1) := blen_le.mp (by omega)
  have : a ^^^ b < 2 ^ k := by
    refine Nat.lt_pow_two_of_testBit _ fun i hi => ?_
    rw [Nat.testBit_xor]
    by_cases e : i = k
    · subst e
      rw [top_bit a1 a2, top_bit b1 b2]
      rfl
    · have hi2 : k + 1 ≤ i := by omega
      have p : 2 ^ (k + 1) ≤ 2 ^ i := Nat.pow_le_pow_right (by decide) hi2
      rw [Nat.testBit_lt_two_pow (by omega), Nat.testBit_lt_two_pow (by omega)]
      rfl
  have := blen_le.mpr this
  omega
theorem xor_cancel (a b : Nat) : a ^^^ (a ^^^ b) = b := by rw [← Nat.xor_assoc, Nat.xor_self, Nat.zero_xor]
theorem xor_cancel' (a b : Nat) : (a ^^^ b) ^^^ b = a := by rw [Nat.xor_assoc, Nat.xor_self, Nat.xor_zero]
theorem xor_eq_zero {a b : Nat} (h : a ^^^ b = 0) : a = b := by
  have : a ^^^ (a ^^^ b) = a ^^^ 0 := by rw [h]
  rw [xor_cancel, Nat.xor_zero] at this
  exact this.symm
/-- the longer one keeps its length -/
theorem blen_xor_of_lt {a b : Nat} (h : blen a < blen b) : blen (a ^^^ b) = blen b := by
  have h1 := blen_xor_le (a := a) (b := b) (n := blen b) (by omega) (Nat.le_refl _)
  have h2 : blen b ≤ blen (a ^^^ b) := by
    refine Nat.le_of_not_lt fun z => ?_
    have h3 := blen_xor_le (a := a) (b := a ^^^ b) (n := blen b - 1) (by omega) (by omega)
    rw [xor_cancel] at h3
    omega
  omega
theorem xor_comm4 (a b c d : Nat) : (a ^^^ b) ^^^ (c ^^^ d) = (a ^^^ c) ^^^ (b ^^^ d) := by
  rw [Nat.xor_assoc, Nat.xor_assoc, ← Nat.xor_assoc b c d, Nat.xor_comm b c, Nat.xor_assoc c b d]
theorem two_xor (a b : Nat) : 2 * (a ^^^ b) = (2 * a) ^^^ (2 * b) := by
  have e : ∀ x : Nat, 2 * x = x <<< 1 := fun x => by rw [Nat.shiftLeft_eq]; omega
  rw [e, e, e, Nat.shiftLeft_xor_distrib]
theorem xor_div2 (a b : Nat) : (a ^^^ b) / 2 = (a / 2) ^^^ (b / 2) := Nat.xor_div_two
theorem xor_mod2 (a b : Nat) : (a ^^^ b) % 2 = (a % 2 + b % 2) % 2 := by
  have h : (a ^^^ b).testBit 0 = (a.testBit 0 ^^ b.testBit 0) := Nat.testBit_xor a b 0
  rw [Nat.testBit_zero, Nat.testBit_zero, Nat.testBit_zero] at h
  have h1 : a % 2 = 0 ∨ a % 2 = 1 := by omega
  have h2 : b % 2 = 0 ∨ b % 2 = 1 := by omega
  have h3 : (a ^^^ b) % 2 = 0 ∨ (a ^^^ b) % 2 = 1 := by omega
  rcases h1 with h1 | h1 <;> rcases h2 with h2 | h2 <;> rcases h3 with h3 | h3 <;> simp [h1, h2, h3] at h ⊢
/-! ### the product -/
def mul (a b : Nat) : Nat := if h : a = 0 then 0 else (if a % 2 = 1 then b else 0) ^^^ 2 * mul (a / 2) b
termination_by a
decreasing_by omega
theorem mul_zero_left (b : Nat) : mul 0 b = 0 := by
  unfold mul
  rw [dif_pos rfl]
theorem mul_step (a b : Nat) : mul a b = (if a % 2 = 1 then b else 0) ^^^ 2 * mul (a / 2) b := by
  by_cases h : a = 0
  · subst h
    rw [mul_zero_left]
    simp [mul_zero_left]
  · conv => lhs; unfold mul
    rw [dif_neg h]
theorem bin_ind {P : Nat → Prop} (h0 : P 0) (hs : ∀ a, a ≠ 0 → P (a / 2) → P a) : ∀ a, P a := by
  intro a
  induction a using Nat.strongRecOn with
  | _ a ih =>
    by_cases h : a = 0
    · subst h
      exact h0
    · exact hs a h (ih (a / 2) (by omega))
theorem mul_zero_right (a : Nat) : mul a 0 = 0 := by
  refine bin_ind (P := fun a => mul a 0 = 0) (mul_zero_left 0) (fun a _ ih => ?_) a
  rw [mul_step, ih]
  split <;> rfl
theorem mul_xor_right (a b c : Nat) : mul a (b ^^^ c) = mul a b ^^^ mul a c := by
  refine bin_ind (P := fun a => mul a (b ^^^ c) = mul a b ^^^ mul a c) ?_ (fun a _ ih => ?_) a
  · rw [mul_zero_left, mul_zero_left, mul_zero_left]
    rfl
  · rw [mul_step a (b ^^^ c), mul_step a b, mul_step a c, ih, two_xor]
    split
    · exact xor_comm4 _ _ _ _
    · simp
theorem mul_double_right (a b : Nat) : mul a (2 * b) = 2 * mul a b := by
  refine bin_ind (P := fun a => mul a (2 * b) = 2 * mul a b) ?_ (fun a _ ih => ?_) a
  · rw [mul_zero_left, mul_zero_left]
  · rw [mul_step a (2 * b), mul_step a b, ih, two_xor]
    split <;> simp
theorem mul_xor_left (a b c : Nat) : mul (a ^^^ b) c = mul a c ^^^ mul b c := by
  have key : ∀ a b, mul (a ^^^ b) c = mul a c ^^^ mul b c := by
    intro a
    refine bin_ind (P := fun a => ∀ b, mul (a ^^^ b) c = mul a c ^^^ mul b c) (fun b => ?_) (fun a _ ih b => ?_) a
    · rw [Nat.zero_xor, mul_zero_left, Nat.zero_xor]
    · rw [mul_step (a ^^^ b), mul_step a, mul_step b, xor_div2, ih (b / 2), two_xor, xor_comm4]
      congr 1
      rw [xor_mod2]
      have ha : a % 2 = 0 ∨ a % 2 = 1 := by omega
      have hb : b % 2 = 0 ∨ b % 2 = 1 := by omega
      rcases ha with ha | ha <;> rcases hb with hb | hb <;> simp [ha, hb]
  exact key a b
theorem mul_one_left (b : Nat) : mul 1 b = b := by
  rw [mul_step]
  simp [mul_zero_left]
theorem mul_one_right (a : Nat) : mul a 1 = a := by
  refine bin_ind (P := fun a => mul a 1 = a) (mul_zero_left 1) (fun a _ ih => ?_) a
  rw [mul_step, ih]
  have h : a % 2 = 0 ∨ a % 2 = 1 := by omega
  rcases h with h | h
  · rw [if_neg (by omega), Nat.zero_xor]
    omega
  · rw [if_pos h]
    have e : (1 : Nat) ^^^ 2 * (a / 2) = 2 * (a / 2) + 1 := by
      apply Nat.eq_of_testBit_eq
      intro i
      cases i with
      | zero => simp [Nat.testBit_zero]
      | succ i =>
        rw [Nat.testBit_xor, Nat.testBit_succ, Nat.testBit_succ, Nat.testBit_succ]
        have e1 : 1 / 2 = 0 := rfl
        have e2 : 2 * (a / 2) / 2 = a / 2 := by omega
        have e3 : (2 * (a / 2) + 1) / 2 = a / 2 := by omega
        rw [e1, e2, e3]
        simp
    rw [e]
    omega
theorem parts_xor (a : Nat) : a = (if a % 2 = 1 then 1 else 0) ^^^ 2 * (a / 2) := by
  have := mul_step a 1
  rw [mul_one_right, mul_one_right] at this
  exact this
theorem mul_comm (a b : Nat) : mul a b = mul b a := by
  refine bin_ind (P := fun a => mul a b = mul b a) ?_ (fun a _ ih => ?_) a
  · rw [mul_zero_left, mul_zero_right]
  · rw [mul_step, ih]
    conv => rhs; rw [parts_xor a]
    rw [mul_xor_right, mul_double_right]
    congr 1
    split
    · rw [mul_one_right]
    · rw [mul_zero_right]
theorem mul_double_left (a b : Nat) : mul (2 * a) b = 2 * mul a b := by
  rw [mul_comm, mul_double_right, mul_comm]
theorem mul_assoc (a b c : Nat) : mul (mul a b) c = mul a (mul b c) := by
  refine bin_ind (P := fun a => mul (mul a b) c = mul a (mul b c)) ?_ (fun a _ ih => ?_) a
  · rw [mul_zero_left, mul_zero_left, mul_zero_left]
  · rw [mul_step a b, mul_step a (mul b c), mul_xor_left, mul_double_left, ih]
    congr 1
    split
    · rfl
    · rw [mul_zero_left]
theorem mul_left_comm (a b c : Nat) : mul a (mul b c) = mul b (mul a c) := by
  rw [← mul_assoc, mul_comm a b, mul_assoc]
theorem mul_pow (a k : Nat) : mul a (2 ^ k) = a * 2 ^ k := by
  induction k with
  | zero => rw [Nat.pow_zero, mul_one_right, Nat.mul_one]
  | succ k ih => rw [Nat.pow_succ, Nat.mul_comm (2 ^ k) 2, mul_double_right, ih, Nat.mul_left_comm]
theorem mul_pow_left (a k : Nat) : mul (2 ^ k) a = a * 2 ^ k := by rw [mul_comm, mul_pow]
theorem blen_mul {a b : Nat} (ha : a ≠ 0) (hb : b ≠ 0) : blen (mul a b) = blen a + blen b - 1 ∧ mul a b ≠ 0 := by
  refine bin_ind (P := fun a => a ≠ 0 → blen (mul a b) = blen a + blen b - 1 ∧ mul a b ≠ 0) (fun h => absurd rfl h) (fun a _ ih ha => ?_) a ha
  have hbp := blen_pos hb
  by_cases z : a / 2 = 0
  · have e : a = 1 := by omega
    subst e
    rw [mul_one_left]
    have : blen 1 = 1 := by decide
    exact ⟨by omega, hb⟩
  · obtain ⟨i1, i2⟩ := ih z
    have hz := blen_pos z
    have h2 := blen_half ha
    have e : blen (mul a b) = blen a + blen b - 1 := by
      rw [mul_step]
      have d := blen_double i2
      have hlt : blen (if a % 2 = 1 then b else 0) < blen (2 * mul (a / 2) b) := by
        split
        · omega
        · rw [blen_zero]
          omega
      rw [blen_xor_of_lt hlt]
      omega
    refine ⟨e, fun w => ?_⟩
    rw [w, blen_zero] at e
    omega
theorem mul_eq_zero {a b : Nat} (h : mul a b = 0) : a = 0 ∨ b = 0 := by
  by_cases ha : a = 0
  · exact .inl ha
  · by_cases hb : b = 0
    · exact .inr hb
    · exact absurd h (blen_mul ha hb).2
/-! ### quotient and rest -/
theorem blen_shift {a : Nat} (h : a ≠ 0) (k : Nat) : blen (a * 2 ^ k) = blen a + k := by
  induction k with
  | zero => simp
  | succ k ih =>
    have e : a * 2 ^ (k + 1) = 2 * (a * 2 ^ k) := by
      rw [Nat.pow_succ, ← Nat.mul_assoc, Nat.mul_comm]
    rw [e, blen_double (by
      intro z
      rcases Nat.mul_eq_zero.mp z with z | z
      · exact h z
      · exact absurd z (Nat.ne_of_gt (Nat.pow_pos (by decide)))), ih]
    omega
theorem step_lt {a m : Nat} (hm : m ≠ 0) (h : blen m ≤ blen a) : blen (a ^^^ m * 2 ^ (blen a - blen m)) < blen a := by
  have hp := blen_pos hm
  have ha : a ≠ 0 := by
    intro z
    subst z
    rw [blen_zero] at h
    omega
  refine blen_xor_lt ?_ ha
  rw [blen_shift hm]
  omega
/-- (the quotient, the rest) by m ≠ 0 -/
def divmod (a m : Nat) : Nat × Nat :=
  if h : m = 0 ∨ blen a < blen m then (0, a)
  else
    let k := blen a - blen m
    let r := divmod (a ^^^ m * 2 ^ k) m
    (r.1 ^^^ 2 ^ k, r.2)
termination_by blen a
decreasing_by exact step_lt (fun z => h (.inl z)) (by omega)
def pmod (a m : Nat) : Nat := (divmod a m).2
def pdiv (a m : Nat) : Nat := (divmod a m).1
theorem divmod_stop {a m : Nat} (h : blen a < blen m) : divmod a m = (0, a) := by
  unfold divmod
  rw [dif_pos (.inr h)]
theorem divmod_go {a m : Nat} (hm : m ≠ 0) (h : blen m ≤ blen a) : divmod a m = ((divmod (a ^^^ m * 2 ^ (blen a - blen m)) m).1 ^^^ 2 ^ (blen a - blen m), (divmod (a ^^^ m * 2 ^ (blen a - blen m)) m).2) := by
  conv => lhs; unfold divmod
  rw [dif_neg (by omega)]
theorem pmod_stop {a m : Nat} (h : blen a < blen m) : pmod a m = a := by
  unfold pmod
  rw [divmod_stop h]
theorem pmod_go {a m : Nat} (hm : m ≠ 0) (h : blen m ≤ blen a) : pmod a m = pmod (a ^^^ m * 2 ^ (blen a - blen m)) m := by
  unfold pmod
  rw [divmod_go hm h]
theorem len_ind {P : Nat → Prop} (hs : ∀ a, (∀ b, blen b < blen a → P b) → P a) : ∀ a, P a := by
  have key : ∀ n a, blen a ≤ n → P a := by
    intro n
    induction n with
    | zero => exact fun a h => hs a fun b hb => by omega
    | succ n ih => exact fun a h => hs a fun b hb => ih b (by omega)
  exact fun a => key _ a (Nat.le_refl _)
theorem divmod_ok {m : Nat} (hm : m ≠ 0) (a : Nat) : a = mul m (pdiv a m) ^^^ pmod a m ∧ blen (pmod a m) < blen m := by
  refine len_ind (P := fun a => a = mul m (pdiv a m) ^^^ pmod a m ∧ blen (pmod a m) < blen m) (fun a ih => ?_) a
  by_cases h : blen a < blen m
  · unfold pdiv pmod
    rw [divmod_stop h]
    exact ⟨by rw [mul_zero_right, Nat.zero_xor], h⟩
  · obtain ⟨h1, h2⟩ := ih _ (step_lt hm (by omega))
    simp only [pdiv, pmod] at h1 h2 ⊢
    rw [divmod_go hm (by omega)]
    refine ⟨?_, h2⟩
    show a = mul m (_ ^^^ 2 ^ (blen a - blen m)) ^^^ _
    rw [mul_xor_right, mul_pow, Nat.xor_assoc, Nat.xor_comm (m * 2 ^ _), ← Nat.xor_assoc, ← h1, xor_cancel']
theorem pmod_lt {m : Nat} (hm : m ≠ 0) (a : Nat) : blen (pmod a m) < blen m := (divmod_ok hm a).2
/-- only one way -/
theorem divmod_unique {m q r q' r' : Nat} (h : mul m q ^^^ r = mul m q' ^^^ r') (h1 : blen r < blen m) (h2 : blen r' < blen m) : q = q' ∧ r = r' := by
  have hm : m ≠ 0 := by
    intro z
    subst z
    rw [blen_zero] at h1
    omega
  have e : mul m (q ^^^ q') = r ^^^ r' := by
    rw [mul_xor_right]
    have h3 : (mul m q ^^^ r) ^^^ (mul m q' ^^^ r') = 0 := by rw [h, Nat.xor_self]
    rw [xor_comm4] at h3
    exact xor_eq_zero h3
  by_cases z : q ^^^ q' = 0
  · have eq := xor_eq_zero z
    subst eq
    rw [z, mul_zero_right] at e
    exact ⟨rfl, xor_eq_zero e.symm⟩
  · have h4 := (blen_mul hm z).1
    have h5 := blen_pos z
    have h6 := blen_xor_le (a := r) (b := r') (n := blen m - 1) (by omega) (by omega)
    rw [e] at h4
    have h7 := blen_pos hm
    omega
theorem pmod_unique {a m q r : Nat} (h : a = mul m q ^^^ r) (h1 : blen r < blen m) : pmod a m = r ∧ pdiv a m = q := by
  have hm : m ≠ 0 := by
    intro z
    subst z
    rw [blen_zero] at h1
    omega
  obtain ⟨h2, h3⟩ := divmod_ok hm a
  have := divmod_unique (h2.symm.trans h) h3 h1
  exact ⟨this.2, this.1⟩
/-! ### congruence -/
def Cg (m a b : Nat) : Prop := ∃ q, a ^^^ b = mul m q
theorem Cg.refl {m : Nat} (a : Nat) : Cg m a a := ⟨0, by rw [Nat.xor_self, mul_zero_right]⟩
theorem Cg.symm {m a b : Nat} (h : Cg m a b) : Cg m b a := by
  obtain ⟨q, h⟩ := h
  exact ⟨q, by rw [Nat.xor_comm]; exact h⟩
theorem Cg.trans {m a b c : Nat} (h : Cg m a b) (k : Cg m b c) : Cg m a c := by
  obtain ⟨q, h⟩ := h
  obtain ⟨p, k⟩ := k
  refine ⟨q ^^^ p, ?_⟩
  rw [mul_xor_right, ← h, ← k, Nat.xor_assoc, xor_cancel]
theorem Cg.xor {m a b c d : Nat} (h : Cg m a b) (k : Cg m c d) : Cg m (a ^^^ c) (b ^^^ d) := by
  obtain ⟨q, h⟩ := h
  obtain ⟨p, k⟩ := k
  exact ⟨q ^^^ p, by rw [mul_xor_right, ← h, ← k, xor_comm4]⟩
theorem Cg.mul_left {m a b : Nat} (c : Nat) (h : Cg m a b) : Cg m (mul c a) (mul c b) := by
  obtain ⟨q, h⟩ := h
  exact ⟨mul c q, by rw [← mul_xor_right, h, mul_left_comm]⟩
theorem Cg.mul {m a b c d : Nat} (h : Cg m a b) (k : Cg m c d) : Cg m (Gf.mul a c) (Gf.mul b d) := by
  refine Cg.trans (k.mul_left a) ?_
  rw [mul_comm a d, mul_comm b d]
  exact h.mul_left d
theorem Cg.pmod {m : Nat} (hm : m ≠ 0) (a : Nat) : Cg m (pmod a m) a := by
  have h := (divmod_ok hm a).1
  refine ⟨pdiv a m, ?_⟩
  have e : Gf.pmod a m ^^^ a = Gf.pmod a m ^^^ (Gf.mul m (pdiv a m) ^^^ Gf.pmod a m) := by rw [← h]
  rw [e, Nat.xor_comm (Gf.mul m _), xor_cancel]
theorem pmod_eq {m a b : Nat} (hm : m ≠ 0) (h : Cg m a b) : pmod a m = pmod b m := by
  obtain ⟨q, h⟩ := (Cg.pmod hm a).trans (h.trans (Cg.pmod hm b).symm)
  have e : Gf.mul m q ^^^ 0 = Gf.mul m 0 ^^^ (pmod a m ^^^ pmod b m) := by rw [← h, mul_zero_right, Nat.xor_zero, Nat.zero_xor]
  have hp := blen_pos hm
  have l := blen_xor_le (a := pmod a m) (b := pmod b m) (n := blen m - 1) (by have := pmod_lt hm a; omega) (by have := pmod_lt hm b; omega)
  have := (divmod_unique e (by rw [blen_zero]; omega) (by omega)).2
  exact xor_eq_zero this.symm
theorem cg_of {m a b : Nat} (hm : m ≠ 0) (h : pmod a m = pmod b m) : Cg m a b := by
  have := (Cg.pmod hm a).symm
  rw [h] at this
  exact this.trans (Cg.pmod hm b)
theorem pmod_self_lt {m a : Nat} (h : blen a < blen m) : pmod a m = a := pmod_stop h
theorem pmod_pmod {m : Nat} (hm : m ≠ 0) (a : Nat) : pmod (pmod a m) m = pmod a m := pmod_stop (pmod_lt hm a)
theorem pmod_mul {m : Nat} (hm : m ≠ 0) (a b : Nat) : pmod (mul (pmod a m) (pmod b m)) m = pmod (mul a b) m := pmod_eq hm ((Cg.pmod hm a).mul (Cg.pmod hm b))
theorem pmod_mul_left {m : Nat} (hm : m ≠ 0) (a b : Nat) : pmod (mul (pmod a m) b) m = pmod (mul a b) m := pmod_eq hm ((Cg.pmod hm a).mul (Cg.refl b))
theorem pmod_mul_right {m : Nat} (hm : m ≠ 0) (a b : Nat) : pmod (mul a (pmod b m)) m = pmod (mul a b) m := pmod_eq hm ((Cg.refl a).mul (Cg.pmod hm b))
theorem pmod_xor {m : Nat} (hm : m ≠ 0) (a b : Nat) : pmod (a ^^^ b) m = pmod a m ^^^ pmod b m := by
  have h : pmod (a ^^^ b) m = pmod (pmod a m ^^^ pmod b m) m := pmod_eq hm ((Cg.pmod hm a).symm.xor (Cg.pmod hm b).symm)
  rw [h]
  refine pmod_stop ?_
  have hp := blen_pos hm
  have l := blen_xor_le (a := pmod a m) (b := pmod b m) (n := blen m - 1) (by have := pmod_lt hm a; omega) (by have := pmod_lt hm b; omega)
  omega
/-! ### powers -/
def ppow (a : Nat) : Nat → Nat
  | 0 => 1
  | n + 1 => mul (ppow a n) a
theorem ppow_add (a m n : Nat) : ppow a (m + n) = mul (ppow a m) (ppow a n) := by
  induction n with
  | zero => rw [Nat.add_zero, ppow, mul_one_right]
  | succ n ih => rw [← Nat.add_assoc, ppow, ppow, ih, mul_assoc]
theorem ppow_mul_base (a b n : Nat) : ppow (mul a b) n = mul (ppow a n) (ppow b n) := by
  induction n with
  | zero => rw [ppow, ppow, ppow, mul_one_left]
  | succ n ih => rw [ppow, ppow, ppow, ih, mul_assoc, mul_assoc, mul_left_comm (ppow b n) a b]
theorem ppow_double (a n : Nat) : ppow a (2 * n) = ppow (mul a a) n := by
  rw [ppow_mul_base, Nat.two_mul, ppow_add]
theorem Cg.ppow {m a b : Nat} (h : Cg m a b) : ∀ n, Cg m (ppow a n) (ppow b n)
  | 0 => Cg.refl _
  | n + 1 => (Cg.ppow h n).mul h
theorem ppow_two (n : Nat) : ppow 2 n = 2 ^ n := by
  induction n with
  | zero => rfl
  | succ n ih =>
    rw [ppow, ih, mul_comm]
    have := mul_pow 2 n
    rw [this, Nat.pow_succ, Nat.mul_comm]
theorem one_ppow (n : Nat) : ppow 1 n = 1 := by
  induction n with
  | zero => rfl
  | succ n ih => rw [ppow, ih, mul_one_left]
theorem ppow_mul (a m n : Nat) : ppow a (m * n) = ppow (ppow a m) n := by
  induction n with
  | zero => rfl
  | succ n ih => rw [Nat.mul_succ, ppow_add, ih, ppow]
end Gf
namespace Gf
/-! ### common divisors -/
def pgcd (a b : Nat) : Nat := if h : b = 0 then a else pgcd b (pmod a b)
termination_by blen b
decreasing_by exact pmod_lt h a
theorem pgcd_zero (a : Nat) : pgcd a 0 = a := by
  unfold pgcd
  rw [dif_pos rfl]
theorem pgcd_step {b : Nat} (h : b ≠ 0) (a : Nat) : pgcd a b = pgcd b (pmod a b) := by
  conv => lhs; unfold pgcd
  rw [dif_neg h]
theorem one_lt {m : Nat} (h : 2 ≤ m) : blen 1 < blen m := by
  have : 1 < blen m := lt_blen.mpr (by simpa using h)
  have e : blen 1 = 1 := by decide
  omega
theorem pmod_one {m : Nat} (h : 2 ≤ m) : pmod 1 m = 1 := pmod_stop (one_lt h)
theorem pmod_zero (m : Nat) : pmod 0 m = 0 := by
  by_cases h : m = 0
  · subst h
    unfold pmod divmod
    rw [dif_pos (.inl rfl)]
  · exact pmod_stop (by rw [blen_zero]; exact blen_pos h)
/-- two inverses are one -/
theorem inv_unique {m a v w : Nat} (hm : m ≠ 0) (hv : blen v < blen m) (hw : blen w < blen m) (h1 : pmod (mul v a) m = pmod 1 m) (h2 : pmod (mul w a) m = pmod 1 m) : v = w := by
  have c1 := cg_of hm h1
  have c2 := cg_of hm h2
  have e : Cg m v w := by
    have a1 : Cg m (mul v (mul w a)) v := by
      have := c2.mul_left v
      rwa [mul_one_right] at this
    have a2 : Cg m (mul w (mul v a)) w := by
      have := c1.mul_left w
      rwa [mul_one_right] at this
    rw [mul_left_comm] at a1
    exact a1.symm.trans a2
  have := pmod_eq hm e
  rwa [pmod_stop hv, pmod_stop hw] at this
/-! ### rows of terms, x ** 0 first -/
def num : List Nat → Nat
  | [] => 0
  | b :: r => b + 2 * num r
def row (n : Nat) : List Nat := if h : n = 0 then [] else n % 2 :: row (n / 2)
termination_by n
decreasing_by omega
theorem row_zero : row 0 = [] := by
  unfold row
  rw [dif_pos rfl]
theorem row_pos {n : Nat} (h : n ≠ 0) : row n = n % 2 :: row (n / 2) := by
  conv => lhs; unfold row
  rw [dif_neg h]
def Bits (r : List Nat) : Prop := ∀ b ∈ r, b = 0 ∨ b = 1
theorem row_bits (n : Nat) : Bits (row n) := by
  refine bin_ind (P := fun n => Bits (row n)) ?_ (fun n hn ih => ?_) n
  · rw [row_zero]
    intro b hb
    cases hb
  · rw [row_pos hn]
    intro b hb
    rcases List.mem_cons.mp hb with rfl | hb
    · omega
    · exact ih b hb
theorem num_row (n : Nat) : num (row n) = n := by
  refine bin_ind (P := fun n => num (row n) = n) ?_ (fun n hn ih => ?_) n
  · rw [row_zero]
    rfl
  · rw [row_pos hn, num, ih]
    omega
theorem row_len (n : Nat) : (row n).length = blen n := by
  refine bin_ind (P := fun n => (row n).length = blen n) ?_ (fun n hn ih => ?_) n
  · rw [row_zero]
    rfl
  · rw [row_pos hn, List.length_cons, ih, blen_half hn]
theorem row_nil {n : Nat} : row n = [] ↔ n = 0 := by
  constructor
  · intro h
    have := num_row n
    rw [h] at this
    exact this.symm
  · rintro rfl
    exact row_zero
theorem row_inj {a b : Nat} (h : row a = row b) : a = b := by
  rw [← num_row a, ← num_row b, h]
theorem num_append (r s : List Nat) : num (r ++ s) = num r + 2 ^ r.length * num s := by
  induction r with
  | nil => simp [num]
  | cons b r ih =>
    rw [List.cons_append, num, num, ih, List.length_cons, Nat.pow_succ]
    rw [Nat.mul_add, Nat.mul_comm (2 ^ r.length) 2, Nat.mul_assoc, Nat.add_assoc]
theorem num_zeros (k : Nat) : num (List.replicate k 0) = 0 := by
  induction k with
  | zero => rfl
  | succ k ih => rw [List.replicate_succ, num, ih]
theorem num_pad (r : List Nat) (k : Nat) : num (r ++ List.replicate k 0) = num r := by
  rw [num_append, num_zeros, Nat.mul_zero, Nat.add_zero]
theorem num_shift (r : List Nat) (k : Nat) : num (List.replicate k 0 ++ r) = num r * 2 ^ k := by
  rw [num_append, num_zeros, List.length_replicate, Nat.zero_add, Nat.mul_comm]
/-- rows without noughts at the end -/
def Lean (r : List Nat) : Prop := ∀ x, r.getLast? = some x → x ≠ 0
theorem num_eq_zero {r : List Nat} (hl : Lean r) (h : num r = 0) : r = [] := by
  induction r with
  | nil => rfl
  | cons b r ih =>
    rw [num] at h
    have h1 : num r = 0 := by omega
    cases r with
    | nil =>
      have := hl b rfl
      omega
    | cons c q =>
      have := ih (fun x hx => hl x (by rw [List.getLast?_cons_cons]; exact hx)) h1
      cases this
theorem row_num {r : List Nat} (hb : Bits r) (hl : Lean r) : row (num r) = r := by
  induction r with
  | nil => exact row_zero
  | cons b r ih =>
    have hb0 := hb b List.mem_cons_self
    have hlr : Lean r := fun x hx => hl x (by
      cases r with
      | nil => cases hx
      | cons c q => rw [List.getLast?_cons_cons]; exact hx)
    have ih' := ih (fun x hx => hb x (List.mem_cons_of_mem _ hx)) hlr
    have hn : num (b :: r) ≠ 0 := by
      intro z
      have := num_eq_zero hl z
      cases this
    rw [row_pos hn, num]
    have e1 : (b + 2 * num r) % 2 = b := by omega
    have e2 : (b + 2 * num r) / 2 = num r := by omega
    rw [e1, e2, ih']
theorem lean_drop {r : List Nat} (h : r.getLast? = some 0) : num r.dropLast = num r := by
  have hne : r ≠ [] := by
    intro z
    subst z
    cases h
  have e : r = r.dropLast ++ [0] := by
    have h2 := List.dropLast_concat_getLast hne
    rw [List.getLast?_eq_some_getLast hne] at h
    injection h with h
    rw [h] at h2
    exact h2.symm
  conv => rhs; rw [e]
  rw [num_append]
  simp [num]
theorem bits_dropLast {r : List Nat} (h : Bits r) : Bits r.dropLast := fun b hb => h b (List.dropLast_subset r hb)
theorem xor_bit (a b x y : Nat) (hx : x = 0 ∨ x = 1) (hy : y = 0 ∨ y = 1) : (x + 2 * a) ^^^ (y + 2 * b) = (x + y) % 2 + 2 * (a ^^^ b) := by
  have h1 : ((x + 2 * a) ^^^ (y + 2 * b)) / 2 = a ^^^ b := by
    rw [xor_div2]
    have e1 : (x + 2 * a) / 2 = a := by omega
    have e2 : (y + 2 * b) / 2 = b := by omega
    rw [e1, e2]
  have h2 : ((x + 2 * a) ^^^ (y + 2 * b)) % 2 = (x + y) % 2 := by
    rw [xor_mod2]
    omega
  omega
theorem num_sum : ∀ (r s : List Nat), r.length = s.length → Bits r → Bits s → num (List.zipWith (fun x y => (x + y) % 2) r s) = num r ^^^ num s ∧ Bits (List.zipWith (fun x y => (x + y) % 2) r s)
  | [], [], _, _, _ => ⟨by simp [num], fun b hb => by cases hb⟩
  | [], _ :: _, h, _, _ => by simp at h
  | _ :: _, [], h, _, _ => by simp at h
  | x :: r, y :: s, h, hr, hs => by
    obtain ⟨h1, h2⟩ := num_sum r s (by simpa using h) (fun b hb => hr b (List.mem_cons_of_mem _ hb)) (fun b hb => hs b (List.mem_cons_of_mem _ hb))
    rw [List.zipWith_cons_cons]
    refine ⟨?_, fun b hb => ?_⟩
    · rw [num, num, num, h1, xor_bit _ _ _ _ (hr x List.mem_cons_self) (hs y List.mem_cons_self)]
    · rcases List.mem_cons.mp hb with rfl | hb
      · omega
      · exact h2 b hb
theorem num_set : ∀ (r : List Nat) (k x v : Nat), r[k]? = some x → (x = 0 ∨ x = 1) → (v = 0 ∨ v = 1) → Bits r → num (r.set k v) = num r ^^^ (if x = v then 0 else 2 ^ k)
  | [], k, x, v, h, _, _, _ => by simp at h
  | b :: r, 0, x, v, h, hx, hv, hb => by
    have e : b = x := by simpa using h
    subst e
    rw [List.set_cons_zero, num, num]
    split
    · rename_i z
      rw [z, Nat.xor_zero]
    · rename_i z
      have e1 : (2 : Nat) ^ 0 = 1 + 2 * 0 := rfl
      rw [e1, xor_bit _ _ _ _ hx (.inr rfl), Nat.xor_zero]
      omega
  | b :: r, k + 1, x, v, h, hx, hv, hb => by
    have h' : r[k]? = some x := by simpa using h
    have ih := num_set r k x v h' hx hv fun y hy => hb y (List.mem_cons_of_mem _ hy)
    rw [List.set_cons_succ, num, num, ih]
    have hb0 := hb b List.mem_cons_self
    split
    · rw [Nat.xor_zero, Nat.xor_zero]
    · have e1 : (2 : Nat) ^ (k + 1) = 0 + 2 * 2 ^ k := by rw [Nat.pow_succ]; omega
      rw [e1, xor_bit _ _ _ _ hb0 (.inl rfl)]
      omega
theorem bits_set {r : List Nat} {k v : Nat} (h : Bits r) (hv : v = 0 ∨ v = 1) : Bits (r.set k v) := fun b hb => by
  rcases List.mem_or_eq_of_mem_set hb with hb | rfl
  · exact h b hb
  · exact hv
theorem num_snoc (r : List Nat) (b : Nat) (h : b = 0 ∨ b = 1) (hr : num r < 2 ^ r.length) : num (r ++ [b]) = num r ^^^ b * 2 ^ r.length := by
  rw [num_append]
  simp only [num, Nat.mul_zero, Nat.add_zero]
  rcases h with rfl | rfl
  · simp
  · rw [Nat.mul_one, Nat.one_mul]
    have := Nat.two_pow_add_eq_or_of_lt hr 1
    rw [Nat.mul_one] at this
    rw [Nat.add_comm, this]
    apply Nat.eq_of_testBit_eq
    intro i
    rw [Nat.testBit_or, Nat.testBit_xor, Nat.testBit_two_pow]
    by_cases e : r.length = i
    · subst e
      rw [Nat.testBit_lt_two_pow hr]
      simp
    · simp [e]
theorem num_lt {r : List Nat} (h : Bits r) : num r < 2 ^ r.length := by
  induction r with
  | nil => exact Nat.one_pos
  | cons b r ih =>
    have h1 := ih fun x hx => h x (List.mem_cons_of_mem _ hx)
    have h2 := h b List.mem_cons_self
    rw [num, List.length_cons, Nat.pow_succ]
    omega
theorem foldl_num (r : List Nat) : r.reverse.foldl (fun a b => 2 * a + b) 0 = num r := by
  induction r with
  | nil => rfl
  | cons b r ih =>
    rw [List.reverse_cons, List.foldl_append, ih, num]
    show 2 * num r + b = b + 2 * num r
    omega
end Gf
namespace Gf
/-! ### reckoned by the kernel -/
def mulF : Nat → Nat → Nat → Nat
  | 0, _, _ => 0
  | n + 1, a, b => (if a % 2 = 1 then b else 0) ^^^ 2 * mulF n (a / 2) b
theorem mulF_eq : ∀ (n a b : Nat), a < 2 ^ n → mul a b = mulF n a b
  | 0, a, b, h => by
    have : a = 0 := by simpa using h
    subst this
    rw [mul_zero_left]
    rfl
  | n + 1, a, b, h => by
    rw [mul_step, mulF, mulF_eq n (a / 2) b (by rw [Nat.pow_succ] at h; omega)]
/-- the rest by a quotient that is told -/
theorem pmod_told {a m : Nat} (q r : Nat) (h : a = mulF 64 m q ^^^ r) (hm : m < 2 ^ 64) (hr : blen r < blen m) : pmod a m = r ∧ pdiv a m = q := pmod_unique (by rw [mulF_eq 64 m q hm]; exact h) hr
theorem cg_pow_cycle {m a t : Nat} (h : Cg m (ppow a t) 1) (q r : Nat) : Cg m (ppow a (t * q + r)) (ppow a r) := by
  rw [ppow_add, ppow_mul]
  have h1 : Cg m (ppow (ppow a t) q) 1 := by
    have := h.ppow q
    rwa [one_ppow] at this
  have h2 := h1.mul (Cg.refl (ppow a r))
  rwa [mul_one_left] at h2
end Gf

local macro_rules | `(tactic| walk_at "rd1") => `(tactic| first
  | ((with_reducible apply Rd.r_var); · rfl)
  | (with_reducible refine Rd.r_c ?_)
  | (with_reducible refine Rd.r_seq ?_)
  | (with_reducible refine Rd.r_op ?_)
  | (with_reducible refine Rd.r_I0 ?_)
  | (with_reducible refine Rd.r_cons ?_)
  | (with_reducible refine Rd.r_nil ?_)
  | (with_reducible refine Rd.r_call ?_)
  | (with_reducible refine Rd.r_cb ?_)
  | (with_reducible refine Rd.r_asg ?_)
  | (with_reducible refine Rd.r_if ?_)
  | (with_reducible refine Rd.r_test ?_)
  | (with_reducible refine Rd.r_ex1 ?_)
  | (with_reducible refine Rd.r_ret ?_)
  | (with_reducible refine Rd.r_next ?_)
  | (with_reducible refine Rd.r_par ?_)
  | (with_reducible refine Rd.r_ex2 ?_)
  | (with_reducible refine Rd.r_eqI ?_)
  | (with_reducible refine Rd.r_neI ?_)
  | (with_reducible refine Rd.r_eqS ?_)
  | (with_reducible refine Rd.r_neS ?_)
  | (with_reducible refine Rd.r_B ?_)
  | (with_reducible refine Rd.r_and ?_)
  | (with_reducible refine Rd.r_or ?_)
  | (with_reducible refine Rd.r_not ?_)
  | (with_reducible refine Rd.r_andV ?_)
  | (with_reducible refine Rd.r_orV ?_)
  | (with_reducible refine Rd.r_notV ?_)
  | (with_reducible refine Rd.r_ifE ?_)
  | (with_reducible refine Rd.r_drop ?_)
  | (with_reducible refine Rd.r_bm ?_)
  | (with_reducible refine Rd.r_m1 ?_)
  | (with_reducible refine Rd.r_exS ?_)
  | (with_reducible refine Rd.r_ty_s ?_)
  | (with_reducible refine Rd.r_un ?_)
  | (with_reducible refine Rd.r_U ?_)
  | (with_reducible refine Rd.r_sl ?_)
  | (with_reducible refine Rd.r_np ?_)
  | (with_reducible refine Rd.r_pt ?_)
  | (with_reducible refine Rd.r_exI ?_)
  | (with_reducible refine Rd.r_lst ?_)
  | (with_reducible refine Rd.r_tup ?_)
  | ((with_reducible apply Rd.r_aug); · rfl)
  | (with_reducible refine Rd.r_ipI ?_)
  | (with_reducible refine Rd.r_for ?_)
  | (with_reducible refine Rd.r_rng ?_)
  | (with_reducible refine Rd.r_rng2 ?_)
  | (with_reducible refine Rd.r_while ?_)
  | (with_reducible refine Rd.r_gname ?_)
  | (with_reducible refine Rd.r_ilist ?_)
  | (with_reducible refine Rd.r_itup ?_)
  | (with_reducible refine Rd.r_istr ?_)
  | (with_reducible refine Rd.r_lc ?_)
  | (with_reducible refine Rd.r_yes ?_)
  | (with_reducible refine Rd.r_revL ?_)
  | (with_reducible refine Rd.r_tt ?_)
  | (with_reducible refine Rd.r_ff ?_)
  | (with_reducible refine Rd.r_nt ?_)
  | (with_reducible refine Rd.r_nf ?_)
  | (with_reducible refine Rd.r_brk ?_)
  | (with_reducible refine Rd.r_xorN ?_)
  | (with_reducible refine Rd.r_bits ?_)
  | (with_reducible refine Rd.r_neg ?_)
  | (with_reducible refine Rd.r_enumI ?_)
  | (with_reducible refine Rd.r_zipI ?_)
  | (with_reducible refine Rd.r_chain ?_)
  | (with_reducible refine Rd.r_int1 ?_)
  | (with_reducible refine Rd.r_int1b ?_)
  | (with_reducible refine Rd.r_abs ?_)
  | (with_reducible refine Rd.r_max2 ?_)
  | (with_reducible refine Rd.r_min2 ?_)
  | (with_reducible refine Rd.r_asgG ?_)
  | (with_reducible refine Rd.r_gsub ?_)
  | (with_reducible refine Rd.r_gcons ?_)
  | (with_reducible refine Rd.r_gnil ?_)
  | (with_reducible refine Rd.r_inS ?_)
  | (with_reducible refine Rd.r_notInS ?_)
  | (with_reducible refine Rd.r_cont ?_)
  | (with_reducible refine Rd.r_retN ?_)
  | ((with_reducible refine Rd.r_I ?_ ?_); (focus first | omega | (exact Rd.cmul_l (by omega) (by omega)) | (exact Rd.cmul_r (by omega) (by omega)) | (exact ⟨by decide +kernel, by decide +kernel⟩) | decide +kernel)))
local macro_rules | `(tactic| walk_at "rd") => `(tactic| repeat (first | walk_at "rd1" | dsimp only))
namespace Toy
open PySem L2
open Gf (blen mul pmod pdiv pgcd ppow row num)
def top (i : Nat) : Stmt := PySem.Challenge.pw_sealline_k03_whole_polynomials_over_two.main.body.getD i (.Pass ⟨0, 0, 0, 0⟩)
abbrev s_is_integer : Stmt := top 6
abbrev s_is_within : Stmt := top 7
abbrev s_degree_in : Stmt := top 11
abbrev s_times_in : Stmt := top 12
abbrev s_divided_in : Stmt := top 13
abbrev s_rest_in : Stmt := top 14
abbrev s_common_in : Stmt := top 15
abbrev s_inverse_in : Stmt := top 16
abbrev s_times_rest : Stmt := top 17
abbrev s_power_in : Stmt := top 18
abbrev s_require_poly : Stmt := top 19
abbrev s_require_modulus : Stmt := top 20
abbrev s_degree : Stmt := top 21
abbrev s_plus : Stmt := top 22
abbrev s_times : Stmt := top 23
abbrev s_divided : Stmt := top 24
abbrev s_common : Stmt := top 25
abbrev s_inverse : Stmt := top 26
abbrev s_power : Stmt := top 27
abbrev s_law_roll : Stmt := top 29
abbrev s_law_pick : Stmt := top 30
abbrev s_law_power : Stmt := top 31
abbrev s_law_dice : Stmt := top 32
abbrev s_law_number : Stmt := top 33
abbrev s_law_sum : Stmt := top 34
abbrev s_law_row : Stmt := top 35
abbrev s_law_poly : Stmt := top 36
abbrev s_law_lean : Stmt := top 37
abbrev s_law_plus : Stmt := top 38
abbrev s_law_times : Stmt := top 39
abbrev s_law_divided : Stmt := top 40
abbrev s_law_common : Stmt := top 41
abbrev s_law_powered : Stmt := top 42
abbrev s_law_powers_right : Stmt := top 44
abbrev s_law_right : Stmt := top 43
abbrev s_law : Stmt := top 45
structure Txt (K : PySem.W.Frag) (mg : Str → Option Value) where
  f_is_integer : Addr
  d_is_integer : FuncData
  F_is_integer : Fun K "is_integer" "is_integer" s_is_integer f_is_integer d_is_integer
  m_is_integer : mg "is_integer" = some (.ref f_is_integer)
  b_is_integer : Binds K d_is_integer ["value"] []
  f_is_within : Addr
  d_is_within : FuncData
  F_is_within : Fun K "is_within" "is_within" s_is_within f_is_within d_is_within
  m_is_within : mg "is_within" = some (.ref f_is_within)
  b_is_within : Binds K d_is_within ["value", "low", "most"] []
  f_degree_in : Addr
  d_degree_in : FuncData
  F_degree_in : Fun K "degree_in" "degree_in" s_degree_in f_degree_in d_degree_in
  m_degree_in : mg "degree_in" = some (.ref f_degree_in)
  b_degree_in : Binds K d_degree_in ["one"] []
  f_times_in : Addr
  d_times_in : FuncData
  F_times_in : Fun K "times_in" "times_in" s_times_in f_times_in d_times_in
  m_times_in : mg "times_in" = some (.ref f_times_in)
  b_times_in : Binds K d_times_in ["one", "other"] []
  f_divided_in : Addr
  d_divided_in : FuncData
  F_divided_in : Fun K "divided_in" "divided_in" s_divided_in f_divided_in d_divided_in
  m_divided_in : mg "divided_in" = some (.ref f_divided_in)
  b_divided_in : Binds K d_divided_in ["one", "other"] []
  f_rest_in : Addr
  d_rest_in : FuncData
  F_rest_in : Fun K "rest_in" "rest_in" s_rest_in f_rest_in d_rest_in
  m_rest_in : mg "rest_in" = some (.ref f_rest_in)
  b_rest_in : Binds K d_rest_in ["one", "modulus"] []
  f_common_in : Addr
  d_common_in : FuncData
  F_common_in : Fun K "common_in" "common_in" s_common_in f_common_in d_common_in
  m_common_in : mg "common_in" = some (.ref f_common_in)
  b_common_in : Binds K d_common_in ["one", "other"] []
  f_inverse_in : Addr
  d_inverse_in : FuncData
  F_inverse_in : Fun K "inverse_in" "inverse_in" s_inverse_in f_inverse_in d_inverse_in
  m_inverse_in : mg "inverse_in" = some (.ref f_inverse_in)
  b_inverse_in : Binds K d_inverse_in ["one", "modulus"] []
  f_times_rest : Addr
  d_times_rest : FuncData
  F_times_rest : Fun K "times_rest" "times_rest" s_times_rest f_times_rest d_times_rest
  m_times_rest : mg "times_rest" = some (.ref f_times_rest)
  b_times_rest : Binds K d_times_rest ["one", "other", "modulus"] []
  f_power_in : Addr
  d_power_in : FuncData
  F_power_in : Fun K "power_in" "power_in" s_power_in f_power_in d_power_in
  m_power_in : mg "power_in" = some (.ref f_power_in)
  b_power_in : Binds K d_power_in ["one", "exponent", "modulus"] []
  f_require_poly : Addr
  d_require_poly : FuncData
  F_require_poly : Fun K "require_poly" "require_poly" s_require_poly f_require_poly d_require_poly
  m_require_poly : mg "require_poly" = some (.ref f_require_poly)
  b_require_poly : Binds K d_require_poly ["one"] []
  f_require_modulus : Addr
  d_require_modulus : FuncData
  F_require_modulus : Fun K "require_modulus" "require_modulus" s_require_modulus f_require_modulus d_require_modulus
  m_require_modulus : mg "require_modulus" = some (.ref f_require_modulus)
  b_require_modulus : Binds K d_require_modulus ["modulus"] []
  f_degree : Addr
  d_degree : FuncData
  F_degree : Fun K "degree" "degree" s_degree f_degree d_degree
  m_degree : mg "degree" = some (.ref f_degree)
  b_degree : Binds K d_degree ["one"] []
  f_plus : Addr
  d_plus : FuncData
  F_plus : Fun K "plus" "plus" s_plus f_plus d_plus
  m_plus : mg "plus" = some (.ref f_plus)
  b_plus : Binds K d_plus ["one", "other"] []
  f_times : Addr
  d_times : FuncData
  F_times : Fun K "times" "times" s_times f_times d_times
  m_times : mg "times" = some (.ref f_times)
  b_times : Binds K d_times ["one", "other"] []
  f_divided : Addr
  d_divided : FuncData
  F_divided : Fun K "divided" "divided" s_divided f_divided d_divided
  m_divided : mg "divided" = some (.ref f_divided)
  b_divided : Binds K d_divided ["one", "other"] []
  f_common : Addr
  d_common : FuncData
  F_common : Fun K "common" "common" s_common f_common d_common
  m_common : mg "common" = some (.ref f_common)
  b_common : Binds K d_common ["one", "other"] []
  f_inverse : Addr
  d_inverse : FuncData
  F_inverse : Fun K "inverse" "inverse" s_inverse f_inverse d_inverse
  m_inverse : mg "inverse" = some (.ref f_inverse)
  b_inverse : Binds K d_inverse ["one", "modulus"] []
  f_power : Addr
  d_power : FuncData
  F_power : Fun K "power" "power" s_power f_power d_power
  m_power : mg "power" = some (.ref f_power)
  b_power : Binds K d_power ["one", "exponent", "modulus"] []
  f_law_roll : Addr
  d_law_roll : FuncData
  F_law_roll : Fun K "_law_roll" "_law_roll" s_law_roll f_law_roll d_law_roll
  m_law_roll : mg "_law_roll" = some (.ref f_law_roll)
  b_law_roll : Binds K d_law_roll ["dice", "total"] []
  f_law_pick : Addr
  d_law_pick : FuncData
  F_law_pick : Fun K "_law_pick" "_law_pick" s_law_pick f_law_pick d_law_pick
  m_law_pick : mg "_law_pick" = some (.ref f_law_pick)
  b_law_pick : Binds K d_law_pick ["dice", "items"] []
  f_law_power : Addr
  d_law_power : FuncData
  F_law_power : Fun K "_law_power" "_law_power" s_law_power f_law_power d_law_power
  m_law_power : mg "_law_power" = some (.ref f_law_power)
  b_law_power : Binds K d_law_power ["number", "many"] []
  f_law_dice : Addr
  d_law_dice : FuncData
  F_law_dice : Fun K "_law_dice" "_law_dice" s_law_dice f_law_dice d_law_dice
  m_law_dice : mg "_law_dice" = some (.ref f_law_dice)
  b_law_dice : Binds K d_law_dice ["script", "spot"] []
  f_law_number : Addr
  d_law_number : FuncData
  F_law_number : Fun K "_law_number" "_law_number" s_law_number f_law_number d_law_number
  m_law_number : mg "_law_number" = some (.ref f_law_number)
  b_law_number : Binds K d_law_number ["bits"] []
  f_law_sum : Addr
  d_law_sum : FuncData
  F_law_sum : Fun K "_law_sum" "_law_sum" s_law_sum f_law_sum d_law_sum
  m_law_sum : mg "_law_sum" = some (.ref f_law_sum)
  b_law_sum : Binds K d_law_sum ["one", "other"] []
  f_law_row : Addr
  d_law_row : FuncData
  F_law_row : Fun K "_law_row" "_law_row" s_law_row f_law_row d_law_row
  m_law_row : mg "_law_row" = some (.ref f_law_row)
  b_law_row : Binds K d_law_row ["number"] []
  f_law_poly : Addr
  d_law_poly : FuncData
  F_law_poly : Fun K "_law_poly" "_law_poly" s_law_poly f_law_poly d_law_poly
  m_law_poly : mg "_law_poly" = some (.ref f_law_poly)
  b_law_poly : Binds K d_law_poly ["row"] []
  f_law_lean : Addr
  d_law_lean : FuncData
  F_law_lean : Fun K "_law_lean" "_law_lean" s_law_lean f_law_lean d_law_lean
  m_law_lean : mg "_law_lean" = some (.ref f_law_lean)
  b_law_lean : Binds K d_law_lean ["row"] []
  f_law_plus : Addr
  d_law_plus : FuncData
  F_law_plus : Fun K "_law_plus" "_law_plus" s_law_plus f_law_plus d_law_plus
  m_law_plus : mg "_law_plus" = some (.ref f_law_plus)
  b_law_plus : Binds K d_law_plus ["one", "other"] []
  f_law_times : Addr
  d_law_times : FuncData
  F_law_times : Fun K "_law_times" "_law_times" s_law_times f_law_times d_law_times
  m_law_times : mg "_law_times" = some (.ref f_law_times)
  b_law_times : Binds K d_law_times ["one", "other"] []
  f_law_divided : Addr
  d_law_divided : FuncData
  F_law_divided : Fun K "_law_divided" "_law_divided" s_law_divided f_law_divided d_law_divided
  m_law_divided : mg "_law_divided" = some (.ref f_law_divided)
  b_law_divided : Binds K d_law_divided ["one", "other"] []
  f_law_common : Addr
  d_law_common : FuncData
  F_law_common : Fun K "_law_common" "_law_common" s_law_common f_law_common d_law_common
  m_law_common : mg "_law_common" = some (.ref f_law_common)
  b_law_common : Binds K d_law_common ["one", "other"] []
  f_law_powered : Addr
  d_law_powered : FuncData
  F_law_powered : Fun K "_law_powered" "_law_powered" s_law_powered f_law_powered d_law_powered
  m_law_powered : mg "_law_powered" = some (.ref f_law_powered)
  b_law_powered : Binds K d_law_powered ["one", "many", "modulus"] []
  f_law_powers_right : Addr
  d_law_powers_right : FuncData
  F_law_powers_right : Fun K "_law_powers_right" "_law_powers_right" s_law_powers_right f_law_powers_right d_law_powers_right
  m_law_powers_right : mg "_law_powers_right" = some (.ref f_law_powers_right)
  b_law_powers_right : Binds K d_law_powers_right ["dice"] []
  f_law_right : Addr
  d_law_right : FuncData
  F_law_right : Fun K "_law_right" "_law_right" s_law_right f_law_right d_law_right
  m_law_right : mg "_law_right" = some (.ref f_law_right)
  b_law_right : Binds K d_law_right ["dice"] []
  f_law : Addr
  d_law : FuncData
  F_law : Fun K "law" "law" s_law f_law d_law
  m_law : mg "law" = some (.ref f_law)
  b_law : Binds K d_law ["script"] []
  z_abs : mg "abs" = none
  z_bool : mg "bool" = none
  z_enumerate : mg "enumerate" = none
  z_int : mg "int" = none
  z_isinstance : mg "isinstance" = none
  z_len : mg "len" = none
  z_list : mg "list" = none
  z_max : mg "max" = none
  z_min : mg "min" = none
  z_range : mg "range" = none
  z_zip : mg "zip" = none
  t_MOST_DEGREE : Tok
  c_MOST_DEGREE : mg "MOST_DEGREE" = some (.int 4096 t_MOST_DEGREE)
  t_MOST_FAR : Tok
  c_MOST_FAR : mg "MOST_FAR" = some (.int 10000000000000000000000000000000000000000000000000000000000000000000000 t_MOST_FAR)
theorem intBits_nat (a : Nat) : Builtin.Int.intBits (a : Int) = blen a := by
  unfold Builtin.Int.intBits Gf.blen
  by_cases h : a = 0
  · subst h
    rfl
  · have h2 : ((a : Int) == 0) = false := by simp [h]
    rw [h2, if_neg h]
    simp
theorem poly_bound {a n : Nat} (h : blen a ≤ n) : (a : Int) ≤ 1 * 2 ^ n - 1 := by
  have := Gf.blen_le.mp h
  have e : ((2 ^ n : Nat) : Int) = (2 : Int) ^ n := by simp
  omega
theorem deg_ge {a b : Nat} : ((blen b : Int) - 1 ≤ (blen a : Int) - 1) ↔ blen b ≤ blen a := by omega
/-! ### the law's dice: a list of three ints, whatever they are -/
def Dice : HO → Prop := fun o => ∃ a b c : Int, o = .lst [.int a, .int b, .int c]
def Sm (t : Int) : Prop := 0 < t ∧ t.natAbs.log2 < 9000
theorem sm_of {t : Int} (h0 : 0 < t) (h : t < 1766847064778384329583297500742918515827483896875618958121606201292619776) : Sm t := by
  refine ⟨h0, ?_⟩
  have h2 : t.natAbs < 2 ^ 240 := by
    have e : (2 : Nat) ^ 240 = 1766847064778384329583297500742918515827483896875618958121606201292619776 := by decide +kernel
    rw [e]
    omega
  have h3 : t.natAbs.log2 < 240 := (Nat.log2_lt (by omega)).mpr h2
  omega
theorem atL {xs : List V} {j : Nat} {i : Int} {v : V} (e : i = (j : Int)) (h : xs[j]? = some v) : atI xs i = some v := by
  rw [e]
  exact atI_nat h
/-! ### the law's rows of terms -/
abbrev nI (b : Nat) : Int := (b : Int)
abbrev rowV (r : List Nat) : List V := (r.map nI).map V.int
theorem rowV_len (r : List Nat) : (rowV r).length = r.length := by rw [List.length_map, List.length_map]
theorem rowV_at {r : List Nat} {i : Nat} {x : V} (h : (rowV r)[i]? = some x) : ∃ b, r[i]? = some b ∧ x = .int (b : Int) := by
  rw [List.getElem?_map, List.getElem?_map] at h
  cases e : r[i]? with
  | none => rw [e] at h; cases h
  | some b =>
    rw [e] at h
    exact ⟨b, rfl, (Option.some.inj h).symm⟩
theorem rowV_get {r : List Nat} {i b : Nat} (h : r[i]? = some b) : (rowV r)[i]? = some (.int (b : Int)) := by
  rw [List.getElem?_map, List.getElem?_map, h]
  rfl
theorem rowV_set (r : List Nat) (k v : Nat) : (rowV r).set k (.int (v : Int)) = rowV (r.set k v) := by
  rw [rowV, rowV, List.map_set, List.map_set]
theorem rowV_append (r s : List Nat) : rowV r ++ rowV s = rowV (r ++ s) := by
  rw [rowV, rowV, rowV, List.map_append, List.map_append]
theorem rowV_rep (k : Nat) : (List.replicate k [V.int 0]).flatten = rowV (List.replicate k 0) := by
  induction k with
  | zero => rfl
  | succ k ih =>
    rw [List.replicate_succ, List.flatten_cons, ih, List.replicate_succ]
    rfl
theorem nI_inj {r s : List Nat} : r.map nI = s.map nI ↔ r = s := by
  constructor
  · intro h
    have : (r.map nI).map Int.toNat = (s.map nI).map Int.toNat := by rw [h]
    rw [List.map_map, List.map_map] at this
    have e : (Int.toNat ∘ nI) = id := by
      funext x
      exact Int.toNat_natCast x
    rw [e, List.map_id, List.map_id] at this
    exact this
  · rintro rfl
    rfl
theorem atV_last {r : List Nat} {b : Nat} (h : r.getLast? = some b) : atI (rowV r) (-1) = some (.int (b : Int)) := by
  have hne : r ≠ [] := by
    intro z
    subst z
    cases h
  have e : r = r.dropLast ++ [b] := by
    have h2 := List.dropLast_concat_getLast hne
    rw [List.getLast?_eq_some_getLast hne] at h
    injection h with h
    rw [h] at h2
    exact h2.symm
  rw [e, ← rowV_append]
  exact atI_last _ _
theorem cutV_last (xs : List V) : cutV xs none (some (-1)) = xs.dropLast := by
  unfold cutV
  have e1 : HT.sIx xs.length 0 none = 0 := rfl
  have e2 : HT.sIx xs.length xs.length (some (-1)) = xs.length - 1 := by
    unfold HT.sIx
    simp
    omega
  rw [e1, e2, List.drop_zero, Nat.sub_zero, List.dropLast_eq_take]
theorem rowV_dropLast (r : List Nat) : (rowV r).dropLast = rowV r.dropLast := by
  rw [rowV, rowV, List.map_dropLast, List.map_dropLast]
/-- a row that is found: somewhere in the heap, all that stood stands -/
abbrev RowOut (L : List Rd.Ent) (r : List Nat) (Q : VK) : Prop := ∀ (q : Addr) (H' : Hp) (L' : List Rd.Ent), Rd.Has H' L' → (∀ e ∈ L, e ∈ L') → Rd.Is q (.lst (rowV r)) ∈ L' → Q (.ref q) H'
theorem sub_cons {L : List Rd.Ent} {a : Rd.Ent} : ∀ e ∈ L, e ∈ a :: L := fun _ h => List.mem_cons_of_mem _ h
theorem rowOut_new {L : List Rd.Ent} {r : List Nat} {Q : VK} (h : RowOut L r Q) {q : Addr} {H : Hp} (S : Rd.Has H (Rd.Is q (.lst (rowV r)) :: L)) : Q (.ref q) H := h q H _ S sub_cons Rd.m0
section
variable {P : Program} {w : World} {K : PySem.W.Frag} {mg : Str → Option Value} {base : Heap}
/-! ### is_integer -/
def sp_is_integer (K : PySem.W.Frag) : Sp := fun vs H Q _ => ∃ (i : Int), vs = [.int i] ∧ Q (.bl true) H
theorem sc_is_integer : FnScope ["value"] ["value"] (defScope s_is_integer) := ⟨rfl, rfl, rfl, by decide +kernel, rfl, by decide +kernel, by decide +kernel⟩
theorem ok_is_integer (T : Txt K mg) : FnOk P w K mg base CX0 1 T.f_is_integer T.d_is_integer ["value"] (sp_is_integer K) := by
  refine T.F_is_integer.ok sc_is_integer (fun vs H Q E h => ?_) (fun cdv A outer s H vs Q E hr h => ?_)
  · obtain ⟨i, rfl, h⟩ := h
    rfl
  · obtain ⟨i, rfl, h⟩ := h
    refine ⟨_, (pss_one (ps_ret (pe_and (pe_callB call_isi (by rfl) T.z_isinstance (by decide +kernel) (pa_cons (pv 0) (pa_cons (pe_bltn (v := .ty "int") (by rfl) T.z_int (by decide +kernel) rfl) pa_nil))) (pe_one (pe_not (pe_callB call_isi (by rfl) T.z_isinstance (by decide +kernel) (pa_cons (pv 0) (pa_cons (pe_bltn (v := .ty "bool") (by rfl) T.z_bool (by decide +kernel) rfl) pa_nil)))))))), ?_⟩
    try dsimp only [L2.cxOf]
    walk_at "rd"
    refine Rd.r_isiT (.base (.int i)) (by decide +kernel) ?_
    walk_at "rd"
    refine Rd.r_isiF (.base (.int i)) (by decide +kernel) ?_
    walk_at "rd"
    exact h
/-! ### is_within -/
def sp_is_within (K : PySem.W.Frag) : Sp := fun vs H Q _ => ∃ (i lo hi : Int), vs = [.int i, .int lo, .int hi] ∧ Q (.bl (decide (lo ≤ i ∧ i ≤ hi))) H
theorem sc_is_within : FnScope ["value", "low", "most"] ["value", "low", "most"] (defScope s_is_within) := ⟨rfl, rfl, rfl, by decide +kernel, rfl, by decide +kernel, by decide +kernel⟩
theorem ok_is_within (T : Txt K mg) : FnOk P w K mg base CX0 2 T.f_is_within T.d_is_within ["value", "low", "most"] (sp_is_within K) := by
  refine T.F_is_within.ok sc_is_within (fun vs H Q E h => ?_) (fun cdv A outer s H vs Q E hr h => ?_)
  · obtain ⟨i, lo, hi, rfl, h⟩ := h
    rfl
  · obtain ⟨i, lo, hi, rfl, h⟩ := h
    refine ⟨_, (pss_one (ps_ret (pe_and (pe_call (ok_is_integer T) (hr.mono (by decide)) rfl T.m_is_integer T.F_is_integer.kp T.b_is_integer .nil pass0 (pa_cons (pv 0) pa_nil)) (pe_one (pe_chain op_le op_le (pv 1) (pv 0) (pv 2)))))), ?_⟩
    try dsimp only [L2.cxOf]
    walk_at "rd"
    refine ⟨i, rfl, ?_⟩
    walk_at "rd"
    refine Rd.r_dec (fun h1 => ?_) (fun h1 => ?_)
    · walk_at "rd"
      simpa [h1] using h
    · simpa [h1] using h
/-! ### degree_in -/
def sp_degree_in (K : PySem.W.Frag) : Sp := fun vs H Q _ => ∃ (a : Nat), vs = [.int a] ∧ Q (.int ((blen a : Int) - 1)) H
theorem sc_degree_in : FnScope ["one"] ["one"] (defScope s_degree_in) := ⟨rfl, rfl, rfl, by decide +kernel, rfl, by decide +kernel, by decide +kernel⟩
theorem ok_degree_in (T : Txt K mg) : FnOk P w K mg base CX0 1 T.f_degree_in T.d_degree_in ["one"] (sp_degree_in K) := by
  refine T.F_degree_in.ok sc_degree_in (fun vs H Q E h => ?_) (fun cdv A outer s H vs Q E hr h => ?_)
  · obtain ⟨a, rfl, h⟩ := h
    rfl
  · obtain ⟨a, rfl, h⟩ := h
    refine ⟨_, (pss_one (ps_ret (pe_op op_sub (pe_bits (pv 0)) pe_int))), ?_⟩
    try dsimp only [L2.cxOf]
    walk_at "rd"
    rw [intBits_nat]
    exact h
/-! ### times_in -/
def sp_times_in (K : PySem.W.Frag) : Sp := fun vs H Q _ => ∃ (a b : Nat), vs = [.int a, .int b] ∧ Q (.int (mul a b : Nat)) H
theorem sc_times_in : FnScope ["one", "other", "found"] ["one", "other"] (defScope s_times_in) := ⟨rfl, rfl, rfl, by decide +kernel, rfl, by decide +kernel, by decide +kernel⟩
theorem ok_times_in (T : Txt K mg) : FnOk P w K mg base CX0 1 T.f_times_in T.d_times_in ["one", "other"] (sp_times_in K) := by
  refine T.F_times_in.ok sc_times_in (fun vs H Q E h => ?_) (fun cdv A outer s H vs Q E hr h => ?_)
  · obtain ⟨a, b, rfl, h⟩ := h
    rfl
  · obtain ⟨a, b, rfl, h⟩ := h
    refine ⟨_, (pss_cons (ps_set (i := 2) sc_times_in.nd rfl (by first | exact Or.inl rfl | exact Or.inr rfl) pe_int)
        (pss_cons (ps_while PassesOwn.never (pt_cmpR op_gt (pv 0) pe_int (nomark _)) (pss_cons (ps_if (pt_cmpR op_eq (pe_op op_mod (pv 0) pe_int) pe_int (nomark _)) (pss_one (ps_set (i := 2) sc_times_in.nd rfl (by first | exact Or.inl rfl | exact Or.inr rfl) (pe_op Rd.op_xorN (pv 2) (pv 1)))) pss_nil)
        (pss_one (ps_par (i := 0) (j := 1) (by rfl) sc_times_in.nd rfl rfl (by decide) rfl rfl (pa_cons (pe_op op_fdivW (pv 0) pe_int) (pa_cons (pe_op op_mul (pv 1) pe_int) pa_nil)) (by rfl)))))
        (pss_one (ps_ret (pv 2))))), ?_⟩
    try dsimp only [L2.cxOf]
    walk_at "rd"
    refine ⟨fun m σ H' => H' = H ∧ ∃ (y f : Nat), σ = [some (.int m), some (.int y), some (.int f)] ∧ f ^^^ mul m y = mul a b, ⟨a, rfl, b, 0, rfl, Nat.zero_xor _⟩, ?_⟩
    rintro m σ H' ⟨rfl, y, f, rfl, e⟩
    walk_at "rd"
    refine Rd.r_dec (fun h1 => ?_) (fun h1 => ?_)
    · refine ⟨_, fun _ _ z => z, ?_⟩
      have em := Gf.mul_step m y
      have ey : mul (m / 2) (y * 2) = 2 * mul (m / 2) y := by rw [Nat.mul_comm y 2, Gf.mul_double_right]
      walk_at "rd"
      refine Rd.r_dec (fun h2 => ?_) (fun h2 => ?_)
      · walk_at "rd"
        refine ⟨m / 2, ?_, rfl, y * 2, f ^^^ y, rfl, ?_⟩
        · omega
        · rw [if_pos (by omega)] at em
          rw [ey, Nat.xor_assoc, ← em]
          exact e
      · walk_at "rd"
        refine ⟨m / 2, ?_, rfl, y * 2, f, rfl, ?_⟩
        · omega
        · rw [if_neg (by omega), Nat.zero_xor] at em
          rw [ey, ← em]
          exact e
    · walk_at "rd"
      have hm : m = 0 := by omega
      subst hm
      rw [Gf.mul_zero_left, Nat.xor_zero] at e
      rw [e]
      exact h
/-! ### divided_in -/
def sp_divided_in (K : PySem.W.Frag) : Sp := fun vs H Q _ => ∃ (L : List Rd.Ent) (a m : Nat), vs = [.int a, .int m] ∧ Rd.Has H L ∧ m ≠ 0 ∧ blen a ≤ 100000 ∧ ∀ p H', Rd.Has H' (Rd.Is p (.tup [.int (pdiv a m : Nat), .int (pmod a m : Nat)]) :: L) → Q (.ref p) H'
theorem sc_divided_in : FnScope ["one", "other", "found", "high", "shift"] ["one", "other"] (defScope s_divided_in) := ⟨rfl, rfl, rfl, by decide +kernel, rfl, by decide +kernel, by decide +kernel⟩
theorem ok_divided_in (T : Txt K mg) : FnOk P w K mg base CX0 2 T.f_divided_in T.d_divided_in ["one", "other"] (sp_divided_in K) := by
  refine T.F_divided_in.ok sc_divided_in (fun vs H Q E h => ?_) (fun cdv A outer s H vs Q E hr h => ?_)
  · obtain ⟨L, a, m, rfl, S, hm, ha, h⟩ := h
    rfl
  · obtain ⟨L, a, m, rfl, S, hm, ha, h⟩ := h
    refine ⟨_, (pss_cons (ps_par (i := 2) (j := 3) (by rfl) sc_divided_in.nd rfl rfl (by decide) rfl rfl (pa_cons pe_int (pa_cons (pe_call (ok_degree_in T) (hr.mono (by decide)) rfl T.m_degree_in T.F_degree_in.kp T.b_degree_in .nil pass0 (pa_cons (pv 1) pa_nil)) pa_nil)) (by rfl))
        (pss_cons (ps_while PassesOwn.never (pt_cmpR op_ge (pe_call (ok_degree_in T) (hr.mono (by decide)) rfl T.m_degree_in T.F_degree_in.kp T.b_degree_in .nil pass0 (pa_cons (pv 0) pa_nil)) (pv 3) (nomark _)) (pss_cons (ps_set (i := 4) sc_divided_in.nd rfl (by first | exact Or.inl rfl | exact Or.inr rfl) (pe_op op_sub (pe_call (ok_degree_in T) (hr.mono (by decide)) rfl T.m_degree_in T.F_degree_in.kp T.b_degree_in .nil pass0 (pa_cons (pv 0) pa_nil)) (pv 3)))
        (pss_one (ps_par (i := 2) (j := 0) (by rfl) sc_divided_in.nd rfl rfl (by decide) rfl rfl (pa_cons (pe_op Rd.op_xorN (pv 2) (pe_op Rd.op_shlNN pe_int (pv 4))) (pa_cons (pe_op Rd.op_xorN (pv 0) (pe_op Rd.op_shlNN (pv 1) (pv 4))) pa_nil)) (by rfl)))))
        (pss_one (ps_ret (pe_tup (pa_cons (pv 2) (pa_cons (pv 0) pa_nil))))))), ?_⟩
    try dsimp only [L2.cxOf]
    walk_at "rd"
    refine ⟨m, rfl, ?_⟩
    walk_at "rd"
    refine ⟨fun k σ H' => Rd.Has H' L ∧ ∃ (x f : Nat) (sh : Option V), σ = [some (.int x), some (.int m), some (.int f), some (.int ((blen m : Int) - 1)), sh] ∧ k = blen x ∧ blen x ≤ blen a ∧ f ^^^ pdiv x m = pdiv a m ∧ pmod x m = pmod a m, ⟨blen a, S, a, 0, none, rfl, rfl, Nat.le_refl _, Nat.zero_xor _, rfl⟩, ?_⟩
    rintro k σ H ⟨S, x, f, sh, rfl, rfl, hx, e1, e2⟩
    walk_at "rd"
    refine ⟨x, rfl, ?_⟩
    walk_at "rd"
    refine Rd.r_dec (fun h1 => ?_) (fun h1 => ?_)
    · rw [deg_ge] at h1
      refine ⟨_, fun _ _ z => z, ?_⟩
      obtain ⟨d, hd⟩ : ∃ d, blen x = blen m + d := ⟨blen x - blen m, by omega⟩
      have hd2 : blen x - blen m = d := by omega
      have hlt := Gf.step_lt hm h1
      have hgo := Gf.divmod_go hm h1
      rw [hd2] at hlt hgo
      walk_at "rd"
      refine ⟨x, rfl, ?_⟩
      walk_at "rd"
      have b1 : Builtin.Int.intBits ((1 : Nat) : Int) = 1 := by decide
      refine Rd.r_shlN (a := 1) (k := d) rfl (by omega) (by rw [b1]; omega) ?_
      rw [Nat.one_mul]
      walk_at "rd"
      refine Rd.r_shlN (a := m) (k := d) rfl (by omega) (by rw [intBits_nat]; omega) ?_
      walk_at "rd"
      refine ⟨blen (x ^^^ m * 2 ^ d), hlt, S, x ^^^ m * 2 ^ d, f ^^^ 2 ^ d, _, rfl, rfl, by omega, ?_, ?_⟩
      · rw [← e1]
        have : pdiv x m = pdiv (x ^^^ m * 2 ^ d) m ^^^ 2 ^ d := congrArg Prod.fst hgo
        rw [this, Nat.xor_assoc, Nat.xor_comm (2 ^ d)]
      · rw [← e2]
        exact (congrArg Prod.snd hgo).symm
    · walk_at "rd"
      have hs := Gf.divmod_stop (a := x) (m := m) (by omega)
      have d0 : pdiv x m = 0 := congrArg Prod.fst hs
      have r0 : pmod x m = x := congrArg Prod.snd hs
      rw [d0, Nat.xor_zero] at e1
      rw [r0] at e2
      subst e1 e2
      exact Rd.r_newT S (Rd.small_sz (by simp)) h
/-! ### rest_in -/
def sp_rest_in (K : PySem.W.Frag) : Sp := fun vs H Q _ => ∃ (a m : Nat), vs = [.int a, .int m] ∧ m ≠ 0 ∧ blen a ≤ 100000 ∧ Q (.int (pmod a m : Nat)) H
theorem sc_rest_in : FnScope ["one", "modulus", "high"] ["one", "modulus"] (defScope s_rest_in) := ⟨rfl, rfl, rfl, by decide +kernel, rfl, by decide +kernel, by decide +kernel⟩
theorem ok_rest_in (T : Txt K mg) : FnOk P w K mg base CX0 2 T.f_rest_in T.d_rest_in ["one", "modulus"] (sp_rest_in K) := by
  refine T.F_rest_in.ok sc_rest_in (fun vs H Q E h => ?_) (fun cdv A outer s H vs Q E hr h => ?_)
  · obtain ⟨a, m, rfl, hm, ha, h⟩ := h
    rfl
  · obtain ⟨a, m, rfl, hm, ha, h⟩ := h
    refine ⟨_, (pss_cons (ps_set (i := 2) sc_rest_in.nd rfl (by first | exact Or.inl rfl | exact Or.inr rfl) (pe_call (ok_degree_in T) (hr.mono (by decide)) rfl T.m_degree_in T.F_degree_in.kp T.b_degree_in .nil pass0 (pa_cons (pv 1) pa_nil)))
        (pss_cons (ps_while PassesOwn.never (pt_cmpR op_ge (pe_call (ok_degree_in T) (hr.mono (by decide)) rfl T.m_degree_in T.F_degree_in.kp T.b_degree_in .nil pass0 (pa_cons (pv 0) pa_nil)) (pv 2) (nomark _)) (pss_one (ps_set (i := 0) sc_rest_in.nd rfl (by first | exact Or.inl rfl | exact Or.inr rfl) (pe_op Rd.op_xorN (pv 0) (pe_op Rd.op_shlNN (pv 1) (pe_op op_sub (pe_call (ok_degree_in T) (hr.mono (by decide)) rfl T.m_degree_in T.F_degree_in.kp T.b_degree_in .nil pass0 (pa_cons (pv 0) pa_nil)) (pv 2)))))))
        (pss_one (ps_ret (pv 0))))), ?_⟩
    try dsimp only [L2.cxOf]
    walk_at "rd"
    refine ⟨m, rfl, ?_⟩
    walk_at "rd"
    refine ⟨fun k σ H' => H' = H ∧ ∃ (x : Nat), σ = [some (.int x), some (.int m), some (.int ((blen m : Int) - 1))] ∧ k = blen x ∧ blen x ≤ blen a ∧ pmod x m = pmod a m, ⟨blen a, rfl, a, rfl, rfl, Nat.le_refl _, rfl⟩, ?_⟩
    rintro k σ H' ⟨rfl, x, rfl, rfl, hx, e2⟩
    walk_at "rd"
    refine ⟨x, rfl, ?_⟩
    walk_at "rd"
    refine Rd.r_dec (fun h1 => ?_) (fun h1 => ?_)
    · rw [deg_ge] at h1
      refine ⟨_, fun _ _ z => z, ?_⟩
      obtain ⟨d, hd⟩ : ∃ d, blen x = blen m + d := ⟨blen x - blen m, by omega⟩
      have hd2 : blen x - blen m = d := by omega
      have hlt := Gf.step_lt hm h1
      have hgo := Gf.pmod_go hm h1
      rw [hd2] at hlt hgo
      walk_at "rd"
      refine ⟨x, rfl, ?_⟩
      walk_at "rd"
      refine Rd.r_shlN (a := m) (k := d) rfl (by omega) (by rw [intBits_nat]; omega) ?_
      walk_at "rd"
      exact ⟨blen (x ^^^ m * 2 ^ d), hlt, rfl, x ^^^ m * 2 ^ d, rfl, rfl, by omega, by rw [← e2, hgo]⟩
    · walk_at "rd"
      have r0 := Gf.pmod_stop (a := x) (m := m) (by omega)
      rw [r0] at e2
      subst e2
      exact h
/-! ### common_in -/
def sp_common_in (K : PySem.W.Frag) : Sp := fun vs H Q _ => ∃ (a b : Nat), vs = [.int a, .int b] ∧ blen a ≤ 100000 ∧ blen b ≤ 100000 ∧ Q (.int (pgcd a b : Nat)) H
theorem sc_common_in : FnScope ["one", "other"] ["one", "other"] (defScope s_common_in) := ⟨rfl, rfl, rfl, by decide +kernel, rfl, by decide +kernel, by decide +kernel⟩
theorem ok_common_in (T : Txt K mg) : FnOk P w K mg base CX0 3 T.f_common_in T.d_common_in ["one", "other"] (sp_common_in K) := by
  refine T.F_common_in.ok sc_common_in (fun vs H Q E h => ?_) (fun cdv A outer s H vs Q E hr h => ?_)
  · obtain ⟨a, b, rfl, ha, hb, h⟩ := h
    rfl
  · obtain ⟨a, b, rfl, ha, hb, h⟩ := h
    refine ⟨_, (pss_cons (ps_while PassesOwn.never (pt_cmpR op_ne (pv 1) pe_int (nomark _)) (pss_one (ps_par (i := 0) (j := 1) (by rfl) sc_common_in.nd rfl rfl (by decide) rfl rfl (pa_cons (pv 1) (pa_cons (pe_call (ok_rest_in T) (hr.mono (by decide)) rfl T.m_rest_in T.F_rest_in.kp T.b_rest_in .nil pass0 (pa_cons (pv 0) (pa_cons (pv 1) pa_nil))) pa_nil)) (by rfl))))
        (pss_one (ps_ret (pv 0)))), ?_⟩
    try dsimp only [L2.cxOf]
    walk_at "rd"
    refine ⟨fun k σ H' => H' = H ∧ ∃ (x y : Nat), σ = [some (.int x), some (.int y)] ∧ k = blen y ∧ blen x ≤ 100000 ∧ blen y ≤ 100000 ∧ pgcd x y = pgcd a b, ⟨blen b, rfl, a, b, rfl, rfl, ha, hb, rfl⟩, ?_⟩
    rintro k σ H' ⟨rfl, x, y, rfl, rfl, hx, hy, e⟩
    walk_at "rd"
    refine Rd.r_ndec (fun h1 => ?_) (fun h1 => ?_)
    · refine ⟨_, fun _ _ z => z, ?_⟩
      have hy0 : y ≠ 0 := by omega
      walk_at "rd"
      refine ⟨x, y, rfl, hy0, hx, ?_⟩
      walk_at "rd"
      have hlt := Gf.pmod_lt hy0 x
      exact ⟨blen (pmod x y), hlt, rfl, y, pmod x y, rfl, rfl, hy, by omega, by rw [← e, Gf.pgcd_step hy0]⟩
    · walk_at "rd"
      have hy0 : y = 0 := by omega
      subst hy0
      rw [Gf.pgcd_zero] at e
      subst e
      exact h
/-! ### inverse_in -/
def sp_inverse_in (K : PySem.W.Frag) : Sp := fun vs H Q _ => ∃ (L : List Rd.Ent) (a m : Nat), vs = [.int a, .int m] ∧ Rd.Has H L ∧ 2 ≤ m ∧ blen a ≤ 40000 ∧ blen m ≤ 40000 ∧
  (pgcd m (pmod a m) ≠ 1 → ∀ H', Rd.Has H' L → Q .non H') ∧ (pgcd m (pmod a m) = 1 → ∀ v H', blen v < blen m → pmod (mul v a) m = 1 → Rd.Has H' L → Q (.int (v : Nat)) H')
theorem sc_inverse_in : FnScope ["one", "modulus", "here", "there", "quotient", "rest"] ["one", "modulus"] (defScope s_inverse_in) := ⟨rfl, rfl, rfl, by decide +kernel, rfl, by decide +kernel, by decide +kernel⟩
theorem ok_inverse_in (T : Txt K mg) : FnOk P w K mg base CX0 3 T.f_inverse_in T.d_inverse_in ["one", "modulus"] (sp_inverse_in K) := by
  refine T.F_inverse_in.ok sc_inverse_in (fun vs H Q E h => ?_) (fun cdv A outer s H vs Q E hr h => ?_)
  · obtain ⟨L, a, m, rfl, S, hm, ha, hmb, hN, hY⟩ := h
    rfl
  · obtain ⟨L, a, m, rfl, S, hm, ha, hmb, hN, hY⟩ := h
    refine ⟨_, (pss_cons (ps_par (i := 2) (j := 3) (by rfl) sc_inverse_in.nd rfl rfl (by decide) rfl rfl (pa_cons (pe_tup (pa_cons (pv 1) (pa_cons pe_int pa_nil))) (pa_cons (pe_tup (pa_cons (pe_call (ok_rest_in T) (hr.mono (by decide)) rfl T.m_rest_in T.F_rest_in.kp T.b_rest_in .nil pass0 (pa_cons (pv 0) (pa_cons (pv 1) pa_nil))) (pa_cons pe_int pa_nil))) pa_nil)) (by rfl))
        (pss_cons (ps_while PassesOwn.never (pt_cmpR op_ne (pe_ix ix_tup (pv 3) pe_int (fun _ _ => rfl)) pe_int (nomark _)) (pss_cons (ps_asg (pe_call (ok_divided_in T) (hr.mono (by decide)) rfl T.m_divided_in T.F_divided_in.kp T.b_divided_in .nil pass0 (pa_cons (pe_ix ix_tup (pv 2) pe_int (fun _ _ => rfl)) (pa_cons (pe_ix ix_tup (pv 3) pe_int (fun _ _ => rfl)) pa_nil))) (pg_tup rfl (pgs_cons (pg_name (i := 4) sc_inverse_in.nd rfl (Or.inl rfl)) (pgs_cons (pg_name (i := 5) sc_inverse_in.nd rfl (Or.inl rfl)) pgs_nil))))
        (pss_one (ps_par (i := 2) (j := 3) (by rfl) sc_inverse_in.nd rfl rfl (by decide) rfl rfl (pa_cons (pv 3) (pa_cons (pe_tup (pa_cons (pv 5) (pa_cons (pe_op Rd.op_xorN (pe_ix ix_tup (pv 2) pe_int (fun _ _ => rfl)) (pe_call (ok_times_in T) (hr.mono (by decide)) rfl T.m_times_in T.F_times_in.kp T.b_times_in .nil pass0 (pa_cons (pv 4) (pa_cons (pe_ix ix_tup (pv 3) pe_int (fun _ _ => rfl)) pa_nil)))) pa_nil))) pa_nil)) (by rfl)))))
        (pss_one (ps_ret (pe_ifExp (pt_cmpR op_eq (pe_ix ix_tup (pv 2) pe_int (fun _ _ => rfl)) pe_int (nomark _)) (pe_call (ok_rest_in T) (hr.mono (by decide)) rfl T.m_rest_in T.F_rest_in.kp T.b_rest_in .nil pass0 (pa_cons (pe_ix ix_tup (pv 2) pe_int (fun _ _ => rfl)) (pa_cons (pv 1) pa_nil))) pe_non))))), ?_⟩
    try dsimp only [L2.cxOf]
    have hm0 : m ≠ 0 := by omega
    have hr0 := Gf.pmod_lt hm0 a
    walk_at "rd"
    refine Rd.r_newT S (Rd.small_sz (by simp)) fun p H S => ?_
    walk_at "rd"
    refine ⟨a, m, rfl, hm0, by omega, ?_⟩
    walk_at "rd"
    refine Rd.r_newT S (Rd.small_sz (by simp)) fun q H S => ?_
    walk_at "rd"
    refine ⟨fun k σ H' => ∃ (p q : Addr) (h0 h1 t0 t1 : Nat) (u w : Option V), Rd.Has H' (Rd.Is q (.tup [.int t0, .int t1]) :: Rd.Is p (.tup [.int h0, .int h1]) :: L) ∧
      σ = [some (.int a), some (.int m), some (.ref p), some (.ref q), u, w] ∧ k = blen t0 ∧ blen t0 < blen h0 ∧ blen h0 ≤ blen m ∧ blen h1 + blen t0 ≤ blen m + 1 ∧ blen t1 + blen h0 ≤ blen m + 1 ∧
      Gf.Cg m h0 (mul h1 a) ∧ Gf.Cg m t0 (mul t1 a) ∧ pgcd h0 t0 = pgcd m (pmod a m), ⟨blen (pmod a m), p, q, m, 0, pmod a m, 1, none, none, S, rfl, rfl, hr0, Nat.le_refl _, ?_, ?_, ?_, ?_, rfl⟩, ?_⟩
    · rw [Gf.blen_zero]
      omega
    · have : blen 1 = 1 := by decide
      omega
    · exact ⟨1, by rw [Gf.mul_zero_left, Nat.xor_zero, Gf.mul_one_right]⟩
    · rw [Gf.mul_one_left]
      exact Gf.Cg.pmod hm0 a
    rintro k σ H ⟨p, q, h0, h1, t0, t1, u, w, S, rfl, rfl, l1, l2, l3, l4, c1, c2, e⟩
    walk_at "rd"
    refine Rd.r_ixT (S.st Rd.m0) (atL (j := 0) rfl rfl) ?_
    walk_at "rd"
    refine Rd.r_ndec (fun g1 => ?_) (fun g1 => ?_)
    · refine ⟨_, fun _ _ z => z, ?_⟩
      have ht0 : t0 ≠ 0 := by omega
      obtain ⟨d1, d2⟩ := Gf.divmod_ok ht0 h0
      walk_at "rd"
      refine Rd.r_ixT (S.st Rd.m1) (atL (j := 0) rfl rfl) ?_
      walk_at "rd"
      refine Rd.r_ixT (S.st Rd.m0) (atL (j := 0) rfl rfl) ?_
      walk_at "rd"
      refine ⟨_, h0, t0, rfl, S, ht0, by omega, fun z H S => ?_⟩
      walk_at "rd"
      refine Rd.r_gtup (S.st Rd.m0) rfl ?_
      walk_at "rd"
      refine Rd.r_ixT (S.st Rd.m2) (atL (j := 1) rfl rfl) ?_
      walk_at "rd"
      refine Rd.r_ixT (S.st Rd.m1) (atL (j := 1) rfl rfl) ?_
      walk_at "rd"
      refine ⟨_, t1, rfl, ?_⟩
      walk_at "rd"
      refine Rd.r_newT S (Rd.small_sz (by simp)) fun y H S => ?_
      walk_at "rd"
      have hh0 : h0 ≠ 0 := by
        intro z
        subst z
        rw [Gf.blen_zero] at l1
        omega
      have hq0 : pdiv h0 t0 ≠ 0 := by
        intro z
        rw [z, Gf.mul_zero_right, Nat.zero_xor] at d1
        rw [← d1] at d2
        omega
      have hbq : blen (pdiv h0 t0) + blen t0 = blen h0 + 1 := by
        have b1 := (Gf.blen_mul ht0 hq0).1
        have b2 : blen (mul t0 (pdiv h0 t0) ^^^ pmod h0 t0) = blen (mul t0 (pdiv h0 t0)) := by
          rw [Nat.xor_comm]
          refine Gf.blen_xor_of_lt ?_
          have := Gf.blen_pos hq0
          have := Gf.blen_pos ht0
          omega
        rw [← d1] at b2
        have := Gf.blen_pos hq0
        have := Gf.blen_pos ht0
        omega
      have hbt : blen (mul (pdiv h0 t0) t1) + 1 ≤ blen (pdiv h0 t0) + blen t1 ∨ blen (mul (pdiv h0 t0) t1) = 0 := by
        by_cases z : t1 = 0
        · subst z
          rw [Gf.mul_zero_right]
          exact .inr rfl
        · have := (Gf.blen_mul hq0 z).1
          have := Gf.blen_pos hq0
          have := Gf.blen_pos z
          exact .inl (by omega)
      have hx : blen (h1 ^^^ mul (pdiv h0 t0) t1) + blen t0 ≤ blen m + 1 := by
        have hmx := Gf.blen_xor_le (a := h1) (b := mul (pdiv h0 t0) t1) (n := blen m + 1 - blen t0) (by omega) (by omega)
        omega
      refine ⟨blen (pmod h0 t0), d2, q, y, t0, t1, pmod h0 t0, h1 ^^^ mul (pdiv h0 t0) t1, _, _, ?_, rfl, rfl, d2, by omega, by omega, hx, c2, ?_, ?_⟩
      · exact (S.drop2).drop3
      · have e5 : pmod h0 t0 = h0 ^^^ mul t0 (pdiv h0 t0) := by
          have : h0 ^^^ mul t0 (pdiv h0 t0) = (mul t0 (pdiv h0 t0) ^^^ pmod h0 t0) ^^^ mul t0 (pdiv h0 t0) := by rw [← d1]
          rw [this, Nat.xor_comm (mul t0 _), Gf.xor_cancel']
        rw [e5, Gf.mul_xor_left]
        refine c1.xor ?_
        have := c2.mul_left (pdiv h0 t0)
        rw [Gf.mul_comm t0, Gf.mul_assoc]
        exact this
      · rw [← e, Gf.pgcd_step ht0]
    · walk_at "rd"
      have ht0 : t0 = 0 := by omega
      subst ht0
      rw [Gf.pgcd_zero] at e
      refine Rd.r_ixT (S.st Rd.m1) (atL (j := 0) rfl rfl) ?_
      walk_at "rd"
      refine Rd.r_dec (fun g2 => ?_) (fun g2 => ?_)
      · have g3 : h0 = 1 := by omega
        subst g3
        walk_at "rd"
        refine Rd.r_ixT (S.st Rd.m1) (atL (j := 1) rfl rfl) ?_
        walk_at "rd"
        rw [Gf.blen_zero] at l3
        refine ⟨h1, m, rfl, hm0, by omega, ?_⟩
        refine hY e.symm (pmod h1 m) H (Gf.pmod_lt hm0 _) ?_ S.tail.tail
        rw [Gf.pmod_mul_left hm0, ← Gf.pmod_eq hm0 c1, Gf.pmod_one hm]
      · walk_at "rd"
        exact hN (by omega) _ S.tail.tail
/-! ### times_rest -/
def sp_times_rest (K : PySem.W.Frag) : Sp := fun vs H Q _ => ∃ (a b m : Nat), vs = [.int a, .int b, .int m] ∧ 2 ≤ m ∧ blen b < blen m ∧ blen m ≤ 100000 ∧ Q (.int (pmod (mul a b) m : Nat)) H
theorem sc_times_rest : FnScope ["one", "other", "modulus", "found", "high"] ["one", "other", "modulus"] (defScope s_times_rest) := ⟨rfl, rfl, rfl, by decide +kernel, rfl, by decide +kernel, by decide +kernel⟩
theorem ok_times_rest (T : Txt K mg) : FnOk P w K mg base CX0 2 T.f_times_rest T.d_times_rest ["one", "other", "modulus"] (sp_times_rest K) := by
  refine T.F_times_rest.ok sc_times_rest (fun vs H Q E h => ?_) (fun cdv A outer s H vs Q E hr h => ?_)
  · obtain ⟨a, b, m, rfl, hm, hb, hmb, h⟩ := h
    rfl
  · obtain ⟨a, b, m, rfl, hm, hb, hmb, h⟩ := h
    refine ⟨_, (pss_cons (ps_par (i := 3) (j := 4) (by rfl) sc_times_rest.nd rfl rfl (by decide) rfl rfl (pa_cons pe_int (pa_cons (pe_op Rd.op_shlNN pe_int (pe_call (ok_degree_in T) (hr.mono (by decide)) rfl T.m_degree_in T.F_degree_in.kp T.b_degree_in .nil pass0 (pa_cons (pv 2) pa_nil))) pa_nil)) (by rfl))
        (pss_cons (ps_while PassesOwn.never (pt_cmpR op_gt (pv 0) pe_int (nomark _)) (pss_cons (ps_if (pt_cmpR op_eq (pe_op op_mod (pv 0) pe_int) pe_int (nomark _)) (pss_one (ps_set (i := 3) sc_times_rest.nd rfl (by first | exact Or.inl rfl | exact Or.inr rfl) (pe_op Rd.op_xorN (pv 3) (pv 1)))) pss_nil)
        (pss_cons (ps_par (i := 0) (j := 1) (by rfl) sc_times_rest.nd rfl rfl (by decide) rfl rfl (pa_cons (pe_op op_fdivW (pv 0) pe_int) (pa_cons (pe_op op_mul (pv 1) pe_int) pa_nil)) (by rfl))
        (pss_one (ps_if (pt_cmpR op_ge (pv 1) (pv 4) (nomark _)) (pss_one (ps_set (i := 1) sc_times_rest.nd rfl (by first | exact Or.inl rfl | exact Or.inr rfl) (pe_op Rd.op_xorN (pv 1) (pv 2)))) pss_nil)))))
        (pss_one (ps_ret (pv 3))))), ?_⟩
    try dsimp only [L2.cxOf]
    have hm0 : m ≠ 0 := by omega
    have hmp := Gf.blen_pos hm0
    obtain ⟨d, hd⟩ : ∃ d, blen m = d + 1 := ⟨blen m - 1, by omega⟩
    walk_at "rd"
    refine ⟨m, rfl, ?_⟩
    walk_at "rd"
    have b1 : Builtin.Int.intBits ((1 : Nat) : Int) = 1 := by decide
    refine Rd.r_shlN (a := 1) (k := d) rfl (by omega) (by rw [b1]; omega) ?_
    rw [Nat.one_mul]
    walk_at "rd"
    refine ⟨fun k σ H' => H' = H ∧ ∃ (y f : Nat), σ = [some (.int k), some (.int y), some (.int m), some (.int f), some (.int ((2 ^ d : Nat) : Int))] ∧ blen y < blen m ∧ blen f < blen m ∧ Gf.Cg m (f ^^^ mul k y) (mul a b),
      ⟨a, rfl, b, 0, rfl, hb, by rw [Gf.blen_zero]; omega, by rw [Nat.zero_xor]; exact Gf.Cg.refl _⟩, ?_⟩
    rintro k σ H' ⟨rfl, y, f, rfl, hy, hf, c⟩
    walk_at "rd"
    refine Rd.r_dec (fun h1 => ?_) (fun h1 => ?_)
    · refine ⟨_, fun _ _ z => z, ?_⟩
      have em := Gf.mul_step k y
      have ey : mul (k / 2) (y * 2) = 2 * mul (k / 2) y := by rw [Nat.mul_comm y 2, Gf.mul_double_right]
      have hy2 : blen (y * 2) ≤ blen m := by
        by_cases z : y = 0
        · subst z
          exact Nat.zero_le _
        · rw [Nat.mul_comm, Gf.blen_double z]
          omega
      have big : (((2 ^ d : Nat) : Int) ≤ (y : Int) * 2) ↔ blen m ≤ blen (y * 2) := by
        have : d < blen (y * 2) ↔ 2 ^ d ≤ y * 2 := Gf.lt_blen
        omega
      have hy3 : blen m ≤ blen (y * 2) → blen (y * 2 ^^^ m) < blen m := by
        intro z
        have := Gf.blen_xor_lt (a := m) (b := y * 2) (by omega) hm0
        rwa [Nat.xor_comm] at this
      have cg3 : Gf.Cg m (mul (k / 2) (y * 2 ^^^ m)) (mul (k / 2) (y * 2)) := by
        refine Gf.Cg.mul_left _ ⟨1, ?_⟩
        rw [Gf.mul_one_right, Nat.xor_comm (y * 2), Gf.xor_cancel']
      walk_at "rd"
      refine Rd.r_dec (fun h2 => ?_) (fun h2 => ?_)
      · rw [if_pos (by omega)] at em
        have hf2 : blen (f ^^^ y) < blen m := by
          have := Gf.blen_xor_le (a := f) (b := y) (n := blen m - 1) (by omega) (by omega)
          omega
        have c2 : Gf.Cg m ((f ^^^ y) ^^^ mul (k / 2) (y * 2)) (mul a b) := by
          rw [ey, Nat.xor_assoc, ← em]
          exact c
        walk_at "rd"
        refine Rd.r_dec (fun h3 => ?_) (fun h3 => ?_)
        · walk_at "rd"
          refine ⟨y * 2, m, rfl, rfl, ?_⟩
          walk_at "rd"
          refine ⟨k / 2, ?_, rfl, y * 2 ^^^ m, f ^^^ y, rfl, hy3 (big.mp h3), hf2, ?_⟩
          · omega
          · exact ((Gf.Cg.refl _).xor cg3).trans c2
        · walk_at "rd"
          refine ⟨k / 2, ?_, rfl, y * 2, f ^^^ y, rfl, by omega, hf2, c2⟩
          omega
      · rw [if_neg (by omega), Nat.zero_xor] at em
        have c2 : Gf.Cg m (f ^^^ mul (k / 2) (y * 2)) (mul a b) := by
          rw [ey, ← em]
          exact c
        walk_at "rd"
        refine Rd.r_dec (fun h3 => ?_) (fun h3 => ?_)
        · walk_at "rd"
          refine ⟨y * 2, m, rfl, rfl, ?_⟩
          walk_at "rd"
          refine ⟨k / 2, ?_, rfl, y * 2 ^^^ m, f, rfl, hy3 (big.mp h3), hf, ?_⟩
          · omega
          · exact ((Gf.Cg.refl _).xor cg3).trans c2
        · walk_at "rd"
          refine ⟨k / 2, ?_, rfl, y * 2, f, rfl, by omega, hf, c2⟩
          omega
    · walk_at "rd"
      have hk : k = 0 := by omega
      subst hk
      rw [Gf.mul_zero_left, Nat.xor_zero] at c
      have e := Gf.pmod_eq hm0 c
      rw [Gf.pmod_stop hf] at e
      rw [e]
      exact h
/-! ### power_in -/
def sp_power_in (K : PySem.W.Frag) : Sp := fun vs H Q _ => ∃ (a e m : Nat), vs = [.int a, .int e, .int m] ∧ 2 ≤ m ∧ blen a ≤ 100000 ∧ blen m ≤ 100000 ∧ Q (.int (pmod (ppow a e) m : Nat)) H
theorem sc_power_in : FnScope ["one", "exponent", "modulus", "found"] ["one", "exponent", "modulus"] (defScope s_power_in) := ⟨rfl, rfl, rfl, by decide +kernel, rfl, by decide +kernel, by decide +kernel⟩
theorem ok_power_in (T : Txt K mg) : FnOk P w K mg base CX0 3 T.f_power_in T.d_power_in ["one", "exponent", "modulus"] (sp_power_in K) := by
  refine T.F_power_in.ok sc_power_in (fun vs H Q E h => ?_) (fun cdv A outer s H vs Q E hr h => ?_)
  · obtain ⟨a, e, m, rfl, hm, ha, hmb, h⟩ := h
    rfl
  · obtain ⟨a, e, m, rfl, hm, ha, hmb, h⟩ := h
    refine ⟨_, (pss_cons (ps_par (i := 3) (j := 0) (by rfl) sc_power_in.nd rfl rfl (by decide) rfl rfl (pa_cons pe_int (pa_cons (pe_call (ok_rest_in T) (hr.mono (by decide)) rfl T.m_rest_in T.F_rest_in.kp T.b_rest_in .nil pass0 (pa_cons (pv 0) (pa_cons (pv 2) pa_nil))) pa_nil)) (by rfl))
        (pss_cons (ps_while PassesOwn.never (pt_cmpR op_gt (pv 1) pe_int (nomark _)) (pss_cons (ps_if (pt_cmpR op_eq (pe_op op_mod (pv 1) pe_int) pe_int (nomark _)) (pss_one (ps_set (i := 3) sc_power_in.nd rfl (by first | exact Or.inl rfl | exact Or.inr rfl) (pe_call (ok_times_rest T) (hr.mono (by decide)) rfl T.m_times_rest T.F_times_rest.kp T.b_times_rest .nil pass0 (pa_cons (pv 3) (pa_cons (pv 0) (pa_cons (pv 2) pa_nil)))))) pss_nil)
        (pss_cons (ps_set (i := 1) sc_power_in.nd rfl (by first | exact Or.inl rfl | exact Or.inr rfl) (pe_op op_fdivW (pv 1) pe_int))
        (pss_one (ps_if (pt_cmpR op_gt (pv 1) pe_int (nomark _)) (pss_one (ps_set (i := 0) sc_power_in.nd rfl (by first | exact Or.inl rfl | exact Or.inr rfl) (pe_call (ok_times_rest T) (hr.mono (by decide)) rfl T.m_times_rest T.F_times_rest.kp T.b_times_rest .nil pass0 (pa_cons (pv 0) (pa_cons (pv 0) (pa_cons (pv 2) pa_nil)))))) pss_nil)))))
        (pss_one (ps_ret (pv 3))))), ?_⟩
    try dsimp only [L2.cxOf]
    have hm0 : m ≠ 0 := by omega
    have hr0 := Gf.pmod_lt hm0 a
    walk_at "rd"
    refine ⟨a, m, rfl, hm0, ha, ?_⟩
    walk_at "rd"
    refine ⟨fun k σ H' => H' = H ∧ ∃ (y f : Nat), σ = [some (.int y), some (.int k), some (.int m), some (.int f)] ∧ blen y < blen m ∧ blen f < blen m ∧ (k = 0 ∨ Gf.Cg m (mul f (ppow y k)) (ppow a e)) ∧ (k = 0 → Gf.Cg m f (ppow a e)),
      ⟨e, rfl, pmod a m, 1, rfl, hr0, Gf.one_lt hm, .inr ?_, ?_⟩, ?_⟩
    · rw [Gf.mul_one_left]
      exact (Gf.Cg.pmod hm0 a).ppow e
    · rintro rfl
      exact Gf.Cg.refl _
    rintro k σ H' ⟨rfl, y, f, rfl, hy, hf, c, c0⟩
    walk_at "rd"
    refine Rd.r_dec (fun h1 => ?_) (fun h1 => ?_)
    · refine ⟨_, fun _ _ z => z, ?_⟩
      have ck := c.resolve_left (by omega)
      have sq : ∀ n, Gf.Cg m (ppow (pmod (mul y y) m) n) (ppow y (2 * n)) := fun n => by
        rw [Gf.ppow_double]
        exact (Gf.Cg.pmod hm0 _).ppow n
      walk_at "rd"
      refine Rd.r_dec (fun h2 => ?_) (fun h2 => ?_)
      · have ek : k = 2 * (k / 2) + 1 := by omega
        walk_at "rd"
        refine ⟨f, y, m, rfl, hm, hy, hmb, ?_⟩
        walk_at "rd"
        have hf2 := Gf.pmod_lt hm0 (mul f y)
        have c2 : Gf.Cg m (mul (pmod (mul f y) m) (ppow y (2 * (k / 2)))) (ppow a e) := by
          refine Gf.Cg.trans ((Gf.Cg.pmod hm0 _).mul (Gf.Cg.refl _)) ?_
          rw [ek, ppow] at ck
          rw [Gf.mul_assoc, Gf.mul_comm y]
          exact ck
        refine Rd.r_dec (fun h3 => ?_) (fun h3 => ?_)
        · walk_at "rd"
          refine ⟨y, y, m, rfl, hm, hy, hmb, ?_⟩
          walk_at "rd"
          refine ⟨k / 2, ?_, rfl, pmod (mul y y) m, pmod (mul f y) m, rfl, Gf.pmod_lt hm0 _, hf2, .inr ?_, fun z => ?_⟩
          · omega
          · exact ((Gf.Cg.refl _).mul (sq _)).trans c2
          · omega
        · walk_at "rd"
          have z : k / 2 = 0 := by omega
          refine ⟨k / 2, ?_, rfl, y, pmod (mul f y) m, rfl, hy, hf2, .inl z, fun _ => ?_⟩
          · omega
          · rw [z, Nat.mul_zero, ppow, Gf.mul_one_right] at c2
            exact c2
      · have ek : k = 2 * (k / 2) := by omega
        walk_at "rd"
        refine Rd.r_dec (fun h3 => ?_) (fun h3 => ?_)
        · walk_at "rd"
          refine ⟨y, y, m, rfl, hm, hy, hmb, ?_⟩
          walk_at "rd"
          refine ⟨k / 2, ?_, rfl, pmod (mul y y) m, f, rfl, Gf.pmod_lt hm0 _, hf, .inr ?_, fun z => ?_⟩
          · omega
          · refine ((Gf.Cg.refl _).mul (sq _)).trans ?_
            rw [← ek]
            exact ck
          · omega
        · exfalso
          omega
    · walk_at "rd"
      have hk : k = 0 := by omega
      have e1 := Gf.pmod_eq hm0 (c0 hk)
      rw [Gf.pmod_stop hf] at e1
      rw [e1]
      exact h
/-! ### require_poly -/
def sp_require_poly (K : PySem.W.Frag) : Sp := fun vs H Q _ => ∃ (a : Nat), vs = [.int a] ∧ blen a ≤ 4096 ∧ Q .non H
theorem sc_require_poly : FnScope ["one"] ["one"] (defScope s_require_poly) := ⟨rfl, rfl, rfl, by decide +kernel, rfl, by decide +kernel, by decide +kernel⟩
theorem ok_require_poly (T : Txt K mg) : FnOk P w K mg base CX0 3 T.f_require_poly T.d_require_poly ["one"] (sp_require_poly K) := by
  refine T.F_require_poly.ok sc_require_poly (fun vs H Q E h => ?_) (fun cdv A outer s H vs Q E hr h => ?_)
  · obtain ⟨a, rfl, ha, h⟩ := h
    rfl
  · obtain ⟨a, rfl, ha, h⟩ := h
    refine ⟨_, (pss_one (ps_if (pt_not (pt_val (pe_call (ok_is_within T) (hr.mono (by decide)) rfl T.m_is_within T.F_is_within.kp T.b_is_within .nil pass0 (pa_cons (pv 0) (pa_cons pe_int (pa_cons (pe_op op_sub (pe_op op_shlW pe_int (pe_glob (v := .int 4096) rfl T.c_MOST_DEGREE ⟨_, rfl⟩)) pe_int) pa_nil)))))) (pss_one ps_never) pss_nil)), ?_⟩
    try dsimp only [L2.cxOf]
    walk_at "rd"
    refine ⟨_, _, _, rfl, ?_⟩
    walk_at "rd"
    refine Rd.r_ndecF ⟨Int.natCast_nonneg a, poly_bound (n := 4096) ha⟩ ?_
    walk_at "rd"
    exact h
/-! ### require_modulus -/
def sp_require_modulus (K : PySem.W.Frag) : Sp := fun vs H Q _ => ∃ (m : Nat), vs = [.int m] ∧ 2 ≤ m ∧ Q .non H
theorem sc_require_modulus : FnScope ["modulus"] ["modulus"] (defScope s_require_modulus) := ⟨rfl, rfl, rfl, by decide +kernel, rfl, by decide +kernel, by decide +kernel⟩
theorem ok_require_modulus (T : Txt K mg) : FnOk P w K mg base CX0 1 T.f_require_modulus T.d_require_modulus ["modulus"] (sp_require_modulus K) := by
  refine T.F_require_modulus.ok sc_require_modulus (fun vs H Q E h => ?_) (fun cdv A outer s H vs Q E hr h => ?_)
  · obtain ⟨m, rfl, hm, h⟩ := h
    rfl
  · obtain ⟨m, rfl, hm, h⟩ := h
    refine ⟨_, (pss_one (ps_if (pt_cmpR op_lt (pv 0) pe_int (nomark _)) (pss_one ps_never) pss_nil)), ?_⟩
    try dsimp only [L2.cxOf]
    walk_at "rd"
    refine Rd.r_decF (by omega) ?_
    walk_at "rd"
    exact h
/-! ### degree -/
def sp_degree (K : PySem.W.Frag) : Sp := fun vs H Q _ => ∃ (a : Nat), vs = [.int a] ∧ blen a ≤ 4096 ∧ Q (if a = 0 then .non else .int ((blen a : Int) - 1)) H
theorem sc_degree : FnScope ["one"] ["one"] (defScope s_degree) := ⟨rfl, rfl, rfl, by decide +kernel, rfl, by decide +kernel, by decide +kernel⟩
theorem ok_degree (T : Txt K mg) : FnOk P w K mg base CX0 4 T.f_degree T.d_degree ["one"] (sp_degree K) := by
  refine T.F_degree.ok sc_degree (fun vs H Q E h => ?_) (fun cdv A outer s H vs Q E hr h => ?_)
  · obtain ⟨a, rfl, ha, h⟩ := h
    rfl
  · obtain ⟨a, rfl, ha, h⟩ := h
    refine ⟨_, (pss_cons (ps_expr (pe_call (ok_require_poly T) (hr.mono (by decide)) rfl T.m_require_poly T.F_require_poly.kp T.b_require_poly .nil pass0 (pa_cons (pv 0) pa_nil)))
        (pss_one (ps_ret (pe_ifExp (pt_cmpR op_eq (pv 0) pe_int (nomark _)) pe_non (pe_call (ok_degree_in T) (hr.mono (by decide)) rfl T.m_degree_in T.F_degree_in.kp T.b_degree_in .nil pass0 (pa_cons (pv 0) pa_nil)))))), ?_⟩
    try dsimp only [L2.cxOf]
    walk_at "rd"
    refine ⟨a, rfl, ha, ?_⟩
    walk_at "rd"
    refine Rd.r_dec (fun h1 => ?_) (fun h1 => ?_)
    · walk_at "rd"
      rw [if_pos (by omega)] at h
      exact h
    · walk_at "rd"
      rw [if_neg (by omega)] at h
      exact ⟨a, rfl, h⟩
/-! ### plus -/
def sp_plus (K : PySem.W.Frag) : Sp := fun vs H Q _ => ∃ (a b : Nat), vs = [.int a, .int b] ∧ blen a ≤ 4096 ∧ blen b ≤ 4096 ∧ Q (.int (a ^^^ b : Nat)) H
theorem sc_plus : FnScope ["one", "other"] ["one", "other"] (defScope s_plus) := ⟨rfl, rfl, rfl, by decide +kernel, rfl, by decide +kernel, by decide +kernel⟩
theorem ok_plus (T : Txt K mg) : FnOk P w K mg base CX0 4 T.f_plus T.d_plus ["one", "other"] (sp_plus K) := by
  refine T.F_plus.ok sc_plus (fun vs H Q E h => ?_) (fun cdv A outer s H vs Q E hr h => ?_)
  · obtain ⟨a, b, rfl, ha, hb, h⟩ := h
    rfl
  · obtain ⟨a, b, rfl, ha, hb, h⟩ := h
    refine ⟨_, (pss_cons (ps_expr (pe_call (ok_require_poly T) (hr.mono (by decide)) rfl T.m_require_poly T.F_require_poly.kp T.b_require_poly .nil pass0 (pa_cons (pv 0) pa_nil)))
        (pss_cons (ps_expr (pe_call (ok_require_poly T) (hr.mono (by decide)) rfl T.m_require_poly T.F_require_poly.kp T.b_require_poly .nil pass0 (pa_cons (pv 1) pa_nil)))
        (pss_one (ps_ret (pe_op Rd.op_xorN (pv 0) (pv 1)))))), ?_⟩
    try dsimp only [L2.cxOf]
    walk_at "rd"
    refine ⟨a, rfl, ha, ?_⟩
    walk_at "rd"
    refine ⟨b, rfl, hb, ?_⟩
    walk_at "rd"
    exact h
/-! ### times -/
def sp_times (K : PySem.W.Frag) : Sp := fun vs H Q _ => ∃ (a b : Nat), vs = [.int a, .int b] ∧ blen a + blen b ≤ 4096 ∧ Q (.int (mul a b : Nat)) H
theorem sc_times : FnScope ["one", "other"] ["one", "other"] (defScope s_times) := ⟨rfl, rfl, rfl, by decide +kernel, rfl, by decide +kernel, by decide +kernel⟩
theorem ok_times (T : Txt K mg) : FnOk P w K mg base CX0 4 T.f_times T.d_times ["one", "other"] (sp_times K) := by
  refine T.F_times.ok sc_times (fun vs H Q E h => ?_) (fun cdv A outer s H vs Q E hr h => ?_)
  · obtain ⟨a, b, rfl, hab, h⟩ := h
    rfl
  · obtain ⟨a, b, rfl, hab, h⟩ := h
    refine ⟨_, (pss_cons (ps_expr (pe_call (ok_require_poly T) (hr.mono (by decide)) rfl T.m_require_poly T.F_require_poly.kp T.b_require_poly .nil pass0 (pa_cons (pv 0) pa_nil)))
        (pss_cons (ps_expr (pe_call (ok_require_poly T) (hr.mono (by decide)) rfl T.m_require_poly T.F_require_poly.kp T.b_require_poly .nil pass0 (pa_cons (pv 1) pa_nil)))
        (pss_cons (ps_if (PW.pt (pw_and (pt_cmpR op_gt (pv 0) pe_int (nomark _)) (pw_and (pt_cmpR op_gt (pv 1) pe_int (nomark _)) (pw_and1 (pt_cmpR op_ge (pe_op op_add (pe_call (ok_degree_in T) (hr.mono (by decide)) rfl T.m_degree_in T.F_degree_in.kp T.b_degree_in .nil pass0 (pa_cons (pv 0) pa_nil)) (pe_call (ok_degree_in T) (hr.mono (by decide)) rfl T.m_degree_in T.F_degree_in.kp T.b_degree_in .nil pass0 (pa_cons (pv 1) pa_nil))) (pe_glob (v := .int 4096) rfl T.c_MOST_DEGREE ⟨_, rfl⟩) (nomark _)))))) (pss_one ps_never) pss_nil)
        (pss_one (ps_ret (pe_call (ok_times_in T) (hr.mono (by decide)) rfl T.m_times_in T.F_times_in.kp T.b_times_in .nil pass0 (pa_cons (pv 0) (pa_cons (pv 1) pa_nil)))))))), ?_⟩
    try dsimp only [L2.cxOf]
    walk_at "rd"
    refine ⟨a, rfl, by omega, ?_⟩
    walk_at "rd"
    refine ⟨b, rfl, by omega, ?_⟩
    walk_at "rd"
    refine Rd.r_dec (fun h1 => ?_) (fun h1 => ?_)
    · walk_at "rd"
      refine Rd.r_dec (fun h2 => ?_) (fun h2 => ?_)
      · walk_at "rd"
        refine ⟨a, rfl, ?_⟩
        walk_at "rd"
        refine ⟨b, rfl, ?_⟩
        walk_at "rd"
        refine Rd.r_decF (by omega) ?_
        walk_at "rd"
        exact ⟨a, b, rfl, h⟩
      · walk_at "rd"
        exact ⟨a, b, rfl, h⟩
    · walk_at "rd"
      exact ⟨a, b, rfl, h⟩
/-! ### divided -/
def sp_divided (K : PySem.W.Frag) : Sp := fun vs H Q _ => ∃ (L : List Rd.Ent) (a m : Nat), vs = [.int a, .int m] ∧ Rd.Has H L ∧ m ≠ 0 ∧ blen a ≤ 4096 ∧ blen m ≤ 4096 ∧ ∀ p H', Rd.Has H' (Rd.Is p (.tup [.int (pdiv a m : Nat), .int (pmod a m : Nat)]) :: L) → Q (.ref p) H'
theorem sc_divided : FnScope ["one", "other"] ["one", "other"] (defScope s_divided) := ⟨rfl, rfl, rfl, by decide +kernel, rfl, by decide +kernel, by decide +kernel⟩
theorem ok_divided (T : Txt K mg) : FnOk P w K mg base CX0 4 T.f_divided T.d_divided ["one", "other"] (sp_divided K) := by
  refine T.F_divided.ok sc_divided (fun vs H Q E h => ?_) (fun cdv A outer s H vs Q E hr h => ?_)
  · obtain ⟨L, a, m, rfl, S, hm, ha, hmb, h⟩ := h
    rfl
  · obtain ⟨L, a, m, rfl, S, hm, ha, hmb, h⟩ := h
    refine ⟨_, (pss_cons (ps_expr (pe_call (ok_require_poly T) (hr.mono (by decide)) rfl T.m_require_poly T.F_require_poly.kp T.b_require_poly .nil pass0 (pa_cons (pv 0) pa_nil)))
        (pss_cons (ps_expr (pe_call (ok_require_poly T) (hr.mono (by decide)) rfl T.m_require_poly T.F_require_poly.kp T.b_require_poly .nil pass0 (pa_cons (pv 1) pa_nil)))
        (pss_cons (ps_if (pt_cmpR op_eq (pv 1) pe_int (nomark _)) (pss_one ps_never) pss_nil)
        (pss_one (ps_ret (pe_call (ok_divided_in T) (hr.mono (by decide)) rfl T.m_divided_in T.F_divided_in.kp T.b_divided_in .nil pass0 (pa_cons (pv 0) (pa_cons (pv 1) pa_nil)))))))), ?_⟩
    try dsimp only [L2.cxOf]
    walk_at "rd"
    refine ⟨a, rfl, ha, ?_⟩
    walk_at "rd"
    refine ⟨m, rfl, hmb, ?_⟩
    walk_at "rd"
    refine Rd.r_decF (by omega) ?_
    walk_at "rd"
    exact ⟨L, a, m, rfl, S, hm, by omega, h⟩
/-! ### common -/
def sp_common (K : PySem.W.Frag) : Sp := fun vs H Q _ => ∃ (a b : Nat), vs = [.int a, .int b] ∧ blen a ≤ 4096 ∧ blen b ≤ 4096 ∧ Q (.int (pgcd a b : Nat)) H
theorem sc_common : FnScope ["one", "other"] ["one", "other"] (defScope s_common) := ⟨rfl, rfl, rfl, by decide +kernel, rfl, by decide +kernel, by decide +kernel⟩
theorem ok_common (T : Txt K mg) : FnOk P w K mg base CX0 4 T.f_common T.d_common ["one", "other"] (sp_common K) := by
  refine T.F_common.ok sc_common (fun vs H Q E h => ?_) (fun cdv A outer s H vs Q E hr h => ?_)
  · obtain ⟨a, b, rfl, ha, hb, h⟩ := h
    rfl
  · obtain ⟨a, b, rfl, ha, hb, h⟩ := h
    refine ⟨_, (pss_cons (ps_expr (pe_call (ok_require_poly T) (hr.mono (by decide)) rfl T.m_require_poly T.F_require_poly.kp T.b_require_poly .nil pass0 (pa_cons (pv 0) pa_nil)))
        (pss_cons (ps_expr (pe_call (ok_require_poly T) (hr.mono (by decide)) rfl T.m_require_poly T.F_require_poly.kp T.b_require_poly .nil pass0 (pa_cons (pv 1) pa_nil)))
        (pss_one (ps_ret (pe_call (ok_common_in T) (hr.mono (by decide)) rfl T.m_common_in T.F_common_in.kp T.b_common_in .nil pass0 (pa_cons (pv 0) (pa_cons (pv 1) pa_nil))))))), ?_⟩
    try dsimp only [L2.cxOf]
    walk_at "rd"
    refine ⟨a, rfl, ha, ?_⟩
    walk_at "rd"
    refine ⟨b, rfl, hb, ?_⟩
    walk_at "rd"
    exact ⟨a, b, rfl, by omega, by omega, h⟩
/-! ### inverse -/
def sp_inverse (K : PySem.W.Frag) : Sp := fun vs H Q _ => ∃ (L : List Rd.Ent) (a m : Nat), vs = [.int a, .int m] ∧ Rd.Has H L ∧ 2 ≤ m ∧ blen a ≤ 4096 ∧ blen m ≤ 4096 ∧ pgcd m (pmod a m) = 1 ∧
  (∀ v H', blen v < blen m → pmod (mul v a) m = 1 → Rd.Has H' L → Q (.int (v : Nat)) H')
theorem sc_inverse : FnScope ["one", "modulus", "found"] ["one", "modulus"] (defScope s_inverse) := ⟨rfl, rfl, rfl, by decide +kernel, rfl, by decide +kernel, by decide +kernel⟩
theorem ok_inverse (T : Txt K mg) : FnOk P w K mg base CX0 4 T.f_inverse T.d_inverse ["one", "modulus"] (sp_inverse K) := by
  refine T.F_inverse.ok sc_inverse (fun vs H Q E h => ?_) (fun cdv A outer s H vs Q E hr h => ?_)
  · obtain ⟨L, a, m, rfl, S, hm, ha, hmb, hg, h⟩ := h
    rfl
  · obtain ⟨L, a, m, rfl, S, hm, ha, hmb, hg, h⟩ := h
    refine ⟨_, (pss_cons (ps_expr (pe_call (ok_require_poly T) (hr.mono (by decide)) rfl T.m_require_poly T.F_require_poly.kp T.b_require_poly .nil pass0 (pa_cons (pv 0) pa_nil)))
        (pss_cons (ps_expr (pe_call (ok_require_poly T) (hr.mono (by decide)) rfl T.m_require_poly T.F_require_poly.kp T.b_require_poly .nil pass0 (pa_cons (pv 1) pa_nil)))
        (pss_cons (ps_expr (pe_call (ok_require_modulus T) (hr.mono (by decide)) rfl T.m_require_modulus T.F_require_modulus.kp T.b_require_modulus .nil pass0 (pa_cons (pv 1) pa_nil)))
        (pss_cons (ps_set (i := 2) sc_inverse.nd rfl (by first | exact Or.inl rfl | exact Or.inr rfl) (pe_call (ok_inverse_in T) (hr.mono (by decide)) rfl T.m_inverse_in T.F_inverse_in.kp T.b_inverse_in .nil pass0 (pa_cons (pv 0) (pa_cons (pv 1) pa_nil))))
        (pss_cons (ps_if (pt_cmpR op_isN (pv 2) pe_non (nomark _)) (pss_one ps_never) pss_nil)
        (pss_one (ps_ret (pv 2)))))))), ?_⟩
    try dsimp only [L2.cxOf]
    walk_at "rd"
    refine ⟨a, rfl, ha, ?_⟩
    walk_at "rd"
    refine ⟨m, rfl, hmb, ?_⟩
    walk_at "rd"
    refine ⟨m, rfl, hm, ?_⟩
    walk_at "rd"
    refine ⟨L, a, m, rfl, S, hm, by omega, by omega, fun z => absurd hg z, fun _ v H' h1 h2 S => ?_⟩
    walk_at "rd"
    refine ⟨rfl, ?_⟩
    walk_at "rd"
    refine Rd.r_decF (fun z => nomatch z) ?_
    walk_at "rd"
    exact h v _ h1 h2 S
/-! ### power -/
def sp_power (K : PySem.W.Frag) : Sp := fun vs H Q _ => ∃ (L : List Rd.Ent) (a : Nat) (e : Int) (m : Nat), vs = [.int a, .int e, .int m] ∧ Rd.Has H L ∧ 2 ≤ m ∧ blen a ≤ 4096 ∧ blen m ≤ 4096 ∧ -10000000000000000000000000000000000000000000000000000000000000000000000 ≤ e ∧ e ≤ 10000000000000000000000000000000000000000000000000000000000000000000000 ∧
  (0 ≤ e → ∀ H', Rd.Has H' L → Q (.int (pmod (ppow a e.toNat) m : Nat)) H') ∧ (e < 0 → pgcd m (pmod a m) = 1 ∧ ∀ v H', blen v < blen m → pmod (mul v a) m = 1 → Rd.Has H' L → Q (.int (pmod (ppow v (-e).toNat) m : Nat)) H')
theorem sc_power : FnScope ["one", "exponent", "modulus"] ["one", "exponent", "modulus"] (defScope s_power) := ⟨rfl, rfl, rfl, by decide +kernel, rfl, by decide +kernel, by decide +kernel⟩
theorem ok_power (T : Txt K mg) : FnOk P w K mg base CX0 5 T.f_power T.d_power ["one", "exponent", "modulus"] (sp_power K) := by
  refine T.F_power.ok sc_power (fun vs H Q E h => ?_) (fun cdv A outer s H vs Q E hr h => ?_)
  · obtain ⟨L, a, e, m, rfl, S, hm, ha, hmb, he0, he1, hP, hN⟩ := h
    rfl
  · obtain ⟨L, a, e, m, rfl, S, hm, ha, hmb, he0, he1, hP, hN⟩ := h
    refine ⟨_, (pss_cons (ps_expr (pe_call (ok_require_poly T) (hr.mono (by decide)) rfl T.m_require_poly T.F_require_poly.kp T.b_require_poly .nil pass0 (pa_cons (pv 0) pa_nil)))
        (pss_cons (ps_if (pt_not (pt_val (pe_call (ok_is_within T) (hr.mono (by decide)) rfl T.m_is_within T.F_is_within.kp T.b_is_within .nil pass0 (pa_cons (pv 1) (pa_cons (pe_un un_neg (pe_glob (v := .int 10000000000000000000000000000000000000000000000000000000000000000000000) rfl T.c_MOST_FAR ⟨_, rfl⟩)) (pa_cons (pe_glob (v := .int 10000000000000000000000000000000000000000000000000000000000000000000000) rfl T.c_MOST_FAR ⟨_, rfl⟩) pa_nil)))))) (pss_one ps_never) pss_nil)
        (pss_cons (ps_expr (pe_call (ok_require_poly T) (hr.mono (by decide)) rfl T.m_require_poly T.F_require_poly.kp T.b_require_poly .nil pass0 (pa_cons (pv 2) pa_nil)))
        (pss_cons (ps_expr (pe_call (ok_require_modulus T) (hr.mono (by decide)) rfl T.m_require_modulus T.F_require_modulus.kp T.b_require_modulus .nil pass0 (pa_cons (pv 2) pa_nil)))
        (pss_cons (ps_if (pt_cmpR op_lt (pv 1) pe_int (nomark _)) (pss_one (ps_ret (pe_call (ok_power_in T) (hr.mono (by decide)) rfl T.m_power_in T.F_power_in.kp T.b_power_in .nil pass0 (pa_cons (pe_call (ok_inverse T) (hr.mono (by decide)) rfl T.m_inverse T.F_inverse.kp T.b_inverse .nil pass0 (pa_cons (pv 0) (pa_cons (pv 2) pa_nil))) (pa_cons (pe_un un_neg (pv 1)) (pa_cons (pv 2) pa_nil)))))) pss_nil)
        (pss_one (ps_ret (pe_call (ok_power_in T) (hr.mono (by decide)) rfl T.m_power_in T.F_power_in.kp T.b_power_in .nil pass0 (pa_cons (pv 0) (pa_cons (pv 1) (pa_cons (pv 2) pa_nil))))))))))), ?_⟩
    try dsimp only [L2.cxOf]
    walk_at "rd"
    refine ⟨a, rfl, ha, ?_⟩
    walk_at "rd"
    refine ⟨_, _, _, rfl, ?_⟩
    walk_at "rd"
    refine Rd.r_ndecF ⟨he0, he1⟩ ?_
    walk_at "rd"
    refine ⟨m, rfl, hmb, ?_⟩
    walk_at "rd"
    refine ⟨m, rfl, hm, ?_⟩
    walk_at "rd"
    refine Rd.r_dec (fun h1 => ?_) (fun h1 => ?_)
    · obtain ⟨hg, h⟩ := hN h1
      walk_at "rd"
      refine ⟨L, a, m, rfl, S, hm, ha, hmb, hg, fun v H' v1 v2 S => ?_⟩
      walk_at "rd"
      obtain ⟨n, hn⟩ : ∃ n : Nat, -e = n := ⟨(-e).toNat, by omega⟩
      rw [hn]
      refine ⟨v, n, m, rfl, hm, by omega, by omega, ?_⟩
      have := h v _ v1 v2 S
      rw [hn, Int.toNat_natCast] at this
      exact this
    · walk_at "rd"
      obtain ⟨n, hn⟩ : ∃ n : Nat, e = n := ⟨e.toNat, by omega⟩
      subst hn
      refine ⟨a, n, m, rfl, hm, by omega, by omega, ?_⟩
      have := hP (by omega) _ S
      rw [Int.toNat_natCast] at this
      exact this
/-! ### _law_roll -/
def sp_law_roll (K : PySem.W.Frag) : Sp := fun vs H Q _ => ∃ (L : List Rd.Ent) (p : Addr) (t : Int), vs = [.ref p, .int t] ∧ Rd.Has H L ∧ (p, Dice) ∈ L ∧ Sm t ∧
  ∀ (r : Int) (H' : Hp), 0 ≤ r → r < t → Rd.Has H' L → Q (.int r) H'
theorem sc_law_roll : FnScope ["dice", "total", "found", "one", "two"] ["dice", "total"] (defScope s_law_roll) := ⟨rfl, rfl, rfl, by decide +kernel, rfl, by decide +kernel, by decide +kernel⟩
theorem ok_law_roll (T : Txt K mg) : FnOk P w K mg base CX0 1 T.f_law_roll T.d_law_roll ["dice", "total"] (sp_law_roll K) := by
  refine T.F_law_roll.ok sc_law_roll (fun vs H Q E h => ?_) (fun cdv A outer s H vs Q E hr h => ?_)
  · obtain ⟨L, p, t, rfl, S, hm, ht, h⟩ := h
    rfl
  · obtain ⟨L, p, t, rfl, S, hm, ht, h⟩ := h
    refine ⟨_, (pss_cons (ps_if (pt_cmpR op_gt (pe_ix ix_list (pv 0) pe_int (fun _ _ => rfl)) pe_int (nomark _)) (pss_cons (ps_set (i := 2) sc_law_roll.nd rfl (by first | exact Or.inl rfl | exact Or.inr rfl) (pe_op op_mod (pe_ix ix_list (pv 0) pe_int (fun _ _ => rfl)) (pv 1)))
        (pss_cons (ps_asg (pe_op op_fdivW (pe_ix ix_list (pv 0) pe_int (fun _ _ => rfl)) (pv 1)) (pg_sub (pv 0) pe_int set_list))
        (pss_one (ps_ret (pe_callTy Rd.call_int (by rfl) T.z_int (by decide +kernel) (pa_cons (pv 2) pa_nil)))))) pss_nil)
        (pss_cons (ps_asg (pe_op op_add (pe_ix ix_list (pv 0) pe_int (fun _ _ => rfl)) pe_int) (pg_sub (pv 0) pe_int set_list))
        (pss_cons (ps_set (i := 3) sc_law_roll.nd rfl (by first | exact Or.inl rfl | exact Or.inr rfl) (pe_op op_mod (pe_op op_add (pe_ix ix_list (pv 0) pe_int (fun _ _ => rfl)) (pe_op op_mul pe_int (pe_ix ix_list (pv 0) pe_int (fun _ _ => rfl)))) pe_int))
        (pss_cons (ps_set (i := 4) sc_law_roll.nd rfl (by first | exact Or.inl rfl | exact Or.inr rfl) (pe_op op_add (pe_op op_mul (pe_op op_mod (pe_op op_add (pe_op op_mul (pv 3) (pv 3)) (pe_op op_mul pe_int (pe_ix ix_list (pv 0) pe_int (fun _ _ => rfl)))) pe_int) pe_int) (pv 3)))
        (pss_one (ps_ret (pe_op op_mod (pe_callTy Rd.call_int (by rfl) T.z_int (by decide +kernel) (pa_cons (pe_op op_fdivW (pv 4) pe_int) pa_nil)) (pv 1)))))))), ?_⟩
    try dsimp only [L2.cxOf]
    obtain ⟨o, hp, a, b, c, rfl⟩ := S.at_ _ hm
    have hp : H p = _ := hp
    have h0 := ht.1
    walk_at "rd"
    refine Rd.r_ixL (.of hp) (atL (j := 0) rfl rfl) ?_
    walk_at "rd"
    refine Rd.r_dec (fun h1 => ?_) (fun h1 => ?_)
    · walk_at "rd"
      refine Rd.r_ixL (.of hp) (atL (j := 0) rfl rfl) ?_
      walk_at "rd"
      refine Rd.r_ixL (.of hp) (atL (j := 0) rfl rfl) ?_
      walk_at "rd"
      refine Rd.r_I ht ?_
      walk_at "rd"
      refine Rd.r_setL hp rfl ?_
      walk_at "rd"
      exact h _ _ (Int.emod_nonneg _ (by omega)) (Int.emod_lt_of_pos _ h0) (S.put hm ⟨_, _, _, rfl⟩)
    · walk_at "rd"
      refine Rd.r_ixL (.of hp) (atL (j := 2) rfl rfl) ?_
      walk_at "rd"
      refine Rd.r_setL hp rfl ?_
      have S2 : Rd.Has _ L := S.put hm (o := .lst [.int a, .int b, .int (c + 1)]) ⟨_, _, _, rfl⟩
      have hp2 : (upd H p (.lst [.int a, .int b, .int (c + 1)])) p = some (.lst [.int a, .int b, .int (c + 1)]) := upd_same
      walk_at "rd"
      refine Rd.r_ixL (.of hp2) (atL (j := 1) rfl rfl) ?_
      walk_at "rd"
      refine Rd.r_ixL (.of hp2) (atL (j := 2) rfl rfl) ?_
      walk_at "rd"
      have g0 := Int.emod_nonneg (b + 86028157 * (c + 1)) (show (2305843009213693951 : Int) ≠ 0 by decide)
      have g1 := Int.emod_lt_of_pos (b + 86028157 * (c + 1)) (show (0 : Int) < 2305843009213693951 by decide)
      generalize (b + 86028157 * (c + 1)) % 2305843009213693951 = one at g0 g1 ⊢
      walk_at "rd"
      refine Rd.r_ixL (.of hp2) (atL (j := 2) rfl rfl) ?_
      walk_at "rd"
      exact h _ _ (Int.emod_nonneg _ (by omega)) (Int.emod_lt_of_pos _ h0) S2
/-! ### _law_pick -/
def sp_law_pick (K : PySem.W.Frag) : Sp := fun vs H Q _ => ∃ (L : List Rd.Ent) (p q : Addr) (xs : List V), vs = [.ref p, .ref q] ∧ Rd.Has H L ∧ (p, Dice) ∈ L ∧ Rd.Is q (.lst xs) ∈ L ∧ 0 < xs.length ∧ xs.length ≤ 1000 ∧
  ∀ (x : V) (H' : Hp), x ∈ xs → Rd.Has H' L → Q x H'
theorem sc_law_pick : FnScope ["dice", "items"] ["dice", "items"] (defScope s_law_pick) := ⟨rfl, rfl, rfl, by decide +kernel, rfl, by decide +kernel, by decide +kernel⟩
theorem ok_law_pick (T : Txt K mg) : FnOk P w K mg base CX0 2 T.f_law_pick T.d_law_pick ["dice", "items"] (sp_law_pick K) := by
  refine T.F_law_pick.ok sc_law_pick (fun vs H Q E h => ?_) (fun cdv A outer s H vs Q E hr h => ?_)
  · obtain ⟨L, p, q, xs, rfl, S, hm, hq, h0, h1, h⟩ := h
    rfl
  · obtain ⟨L, p, q, xs, rfl, S, hm, hq, h0, h1, h⟩ := h
    refine ⟨_, (pss_one (ps_ret (pe_ix ix_list (pv 1) (pe_call (ok_law_roll T) (hr.mono (by decide)) rfl T.m_law_roll T.F_law_roll.kp T.b_law_roll .nil pass0 (pa_cons (pv 0) (pa_cons (pe_callB Rd.call_lenQ (by rfl) T.z_len (by decide +kernel) (pa_cons (pv 1) pa_nil)) pa_nil))) (fun _ _ => rfl)))), ?_⟩
    try dsimp only [L2.cxOf]
    walk_at "rd"
    refine Rd.r_lenL (S.sl hq) ?_
    walk_at "rd"
    refine ⟨L, p, _, rfl, S, hm, sm_of (by omega) (by omega), fun r H hr0 hr1 S => ?_⟩
    walk_at "rd"
    have hlt : r.toNat < xs.length := by omega
    exact Rd.r_ixL (S.sl hq) (atL (j := r.toNat) (by omega) (List.getElem?_eq_getElem hlt)) (h _ _ (List.getElem_mem hlt) S)
/-! ### _law_power -/
def sp_law_power (K : PySem.W.Frag) : Sp := fun vs H Q _ => ∃ (a n : Int), vs = [.int a, .int n] ∧ -18446744073709551616 < a ∧ a < 18446744073709551616 ∧ 0 ≤ n ∧ n < 1000000 ∧ Q (.int (a ^ n.toNat)) H
theorem sc_law_power : FnScope ["number", "many", "found", "turn"] ["number", "many"] (defScope s_law_power) := ⟨rfl, rfl, rfl, by decide +kernel, rfl, by decide +kernel, by decide +kernel⟩
theorem ok_law_power (T : Txt K mg) : FnOk P w K mg base CX0 1 T.f_law_power T.d_law_power ["number", "many"] (sp_law_power K) := by
  refine T.F_law_power.ok sc_law_power (fun vs H Q E h => ?_) (fun cdv A outer s H vs Q E hr h => ?_)
  · obtain ⟨a, n, rfl, ha, ha1, hn, hn1, h⟩ := h
    rfl
  · obtain ⟨a, n, rfl, ha, ha1, hn, hn1, h⟩ := h
    refine ⟨_, (pss_cons (ps_set (i := 2) sc_law_power.nd rfl (by first | exact Or.inl rfl | exact Or.inr rfl) pe_int)
        (pss_cons (ps_for PassesOwn.never rfl (pi_range1 (by rfl) T.z_range (pa_cons (pv 1) pa_nil)) (pg_name (i := 3) sc_law_power.nd rfl (by first | exact Or.inl rfl | exact Or.inr rfl)) (pss_one (ps_set (i := 2) sc_law_power.nd rfl (by first | exact Or.inl rfl | exact Or.inr rfl) (pe_op op_mul (pv 2) (pv 0)))))
        (pss_one (ps_ret (pv 2))))), ?_⟩
    try dsimp only [L2.cxOf]
    walk_at "rd"
    refine Rd.l_rng1 (by omega) (by omega) (fun i σ H' => H' = H ∧ ∃ v, σ = [some (.int a), some (.int n), some (.int (a ^ i)), v]) ⟨rfl, none, by rw [Int.pow_zero]; rfl⟩ ?_ ?_
    · rintro i σ H' hi ⟨rfl, v, rfl⟩
      walk_at "rd"
      refine ⟨rfl, some (.int i), ?_⟩
      rw [Int.pow_succ]
      rfl
    · rintro σ H' ⟨rfl, v, rfl⟩
      walk_at "rd"
      exact h
/-! ### _law_dice -/
def sp_law_dice (K : PySem.W.Frag) : Sp := fun vs H Q _ => ∃ (L : List Rd.Ent) (a : Addr) (ns : List Int) (j : Nat), vs = [.ref a, .int j] ∧ Rd.Has H L ∧ (∀ H', Rd.Has H' L → SqL K H' a (ns.map V.int)) ∧ j < 1000 ∧
  ∀ (p : Addr) (H' : Hp), Rd.Has H' ((p, Dice) :: L) → Q (.ref p) H'
theorem sc_law_dice : FnScope ["script", "spot", "cell", "great", "seed"] ["script", "spot"] (defScope s_law_dice) := ⟨rfl, rfl, rfl, by decide +kernel, rfl, by decide +kernel, by decide +kernel⟩
theorem ok_law_dice (T : Txt K mg) : FnOk P w K mg base CX0 1 T.f_law_dice T.d_law_dice ["script", "spot"] (sp_law_dice K) := by
  refine T.F_law_dice.ok sc_law_dice (fun vs H Q E h => ?_) (fun cdv A outer s H vs Q E hr h => ?_)
  · obtain ⟨L, a, ns, j, rfl, S, hq, hj, h⟩ := h
    rfl
  · obtain ⟨L, a, ns, j, rfl, S, hq, hj, h⟩ := h
    refine ⟨_, (pss_cons (ps_set (i := 2) sc_law_dice.nd rfl (by first | exact Or.inl rfl | exact Or.inr rfl) (pe_ifExp (pt_cmpR op_lt (pv 1) (pe_callB Rd.call_lenQ (by rfl) T.z_len (by decide +kernel) (pa_cons (pv 0) pa_nil)) (nomark _)) (pe_callTy Rd.call_int (by rfl) T.z_int (by decide +kernel) (pa_cons (pe_ix ix_list (pv 0) (pv 1) (fun _ _ => rfl)) pa_nil)) (pe_op op_add (pe_op op_mul pe_int (pv 1)) pe_int)))
        (pss_cons (ps_set (i := 3) sc_law_dice.nd rfl (by first | exact Or.inl rfl | exact Or.inr rfl) (pe_op op_mod (pe_callTy Rd.call_int (by rfl) T.z_int (by decide +kernel) (pa_cons (pe_callB Rd.call_absR (by rfl) T.z_abs (by decide +kernel) (pa_cons (pv 2) pa_nil)) pa_nil)) (pe_op Rd.op_powW (pe_op Rd.op_powW pe_int pe_int) pe_int)))
        (pss_cons (ps_set (i := 4) sc_law_dice.nd rfl (by first | exact Or.inl rfl | exact Or.inr rfl) (pe_op op_add (pe_op op_add (pe_op op_add (pe_op op_mul (pe_op op_mod (pv 3) pe_int) pe_int) (pe_op op_mul pe_int (pv 1))) (pe_op op_mul pe_int (pe_callTy Rd.call_int (by rfl) T.z_int (by decide +kernel) (pa_cons (pe_cmpR op_lt (pv 2) pe_int (nomark _)) pa_nil)))) pe_int))
        (pss_one (ps_ret (pe_lst (pa_cons (pe_callB (Rd.call_maxR rfl) (by rfl) T.z_max (by decide +kernel) (pa_cons pe_int (pa_cons (pe_op op_sub (pv 3) (pe_op Rd.op_powW pe_int pe_int)) pa_nil))) (pa_cons (pv 4) (pa_cons pe_int pa_nil))))))))), ?_⟩
    try dsimp only [L2.cxOf]
    walk_at "rd"
    refine Rd.r_lenL (hq _ S) ?_
    walk_at "rd"
    refine Rd.r_dec (fun h1 => ?_) (fun h1 => ?_)
    · walk_at "rd"
      have hlt : j < ns.length := by
        rw [List.length_map] at h1
        omega
      refine Rd.r_ixL (hq _ S) (atL (j := j) rfl (by rw [List.getElem?_map, List.getElem?_eq_getElem hlt]; rfl)) ?_
      walk_at "rd"
      exact Rd.r_newLP S (by simp) ⟨_, _, _, rfl⟩ h
    · walk_at "rd"
      exact Rd.r_newLP S (by simp) ⟨_, _, _, rfl⟩ h
/-! ### _law_number -/
def sp_law_number (K : PySem.W.Frag) : Sp := fun vs H Q _ => ∃ (L : List Rd.Ent) (p : Addr) (r : List Nat), vs = [.ref p] ∧ Rd.Has H L ∧ Rd.Is p (.lst (rowV r)) ∈ L ∧ Q (.int (r.foldl (fun a b => 2 * a + b) 0 : Nat)) H
theorem sc_law_number : FnScope ["bits", "found", "bit"] ["bits"] (defScope s_law_number) := ⟨rfl, rfl, rfl, by decide +kernel, rfl, by decide +kernel, by decide +kernel⟩
theorem ok_law_number (T : Txt K mg) : FnOk P w K mg base CX0 1 T.f_law_number T.d_law_number ["bits"] (sp_law_number K) := by
  refine T.F_law_number.ok sc_law_number (fun vs H Q E h => ?_) (fun cdv A outer s H vs Q E hr h => ?_)
  · obtain ⟨L, p, r, rfl, S, hp, h⟩ := h
    rfl
  · obtain ⟨L, p, r, rfl, S, hp, h⟩ := h
    refine ⟨_, (pss_cons (ps_set (i := 1) sc_law_number.nd rfl (by first | exact Or.inl rfl | exact Or.inr rfl) pe_int)
        (pss_cons (ps_for PassesOwn.never rfl (pi_list (pv 0)) (pg_name (i := 2) sc_law_number.nd rfl (by first | exact Or.inl rfl | exact Or.inr rfl)) (pss_one (ps_set (i := 1) sc_law_number.nd rfl (by first | exact Or.inl rfl | exact Or.inr rfl) (pe_op op_add (pe_op op_mul pe_int (pv 1)) (pv 2)))))
        (pss_one (ps_ret (pv 1))))), ?_⟩
    try dsimp only [L2.cxOf]
    walk_at "rd"
    refine Rd.l_list (xs := rowV r) (S.sl hp) (fun i σ H' => H' = H ∧ ∃ v, σ = [some (.ref p), some (.int ((r.take i).foldl (fun a b => 2 * a + b) 0 : Nat)), v]) ⟨rfl, none, rfl⟩ (fun i σ H' _ ⟨e, _⟩ => by rw [e]; exact S.sl hp) ?_ ?_
    · rintro i x σ H' hx ⟨rfl, v, rfl⟩
      obtain ⟨b, hb, rfl⟩ := rowV_at hx
      walk_at "rd"
      refine ⟨rfl, some (.int (b : Int)), ?_⟩
      rw [List.take_succ, hb, List.foldl_append]
      rfl
    · rintro σ H' ⟨rfl, v, rfl⟩
      walk_at "rd"
      rw [rowV_len, List.take_length]
      exact h
/-! ### _law_sum -/
def sp_law_sum (K : PySem.W.Frag) : Sp := fun vs H Q _ => ∃ (L : List Rd.Ent) (p q : Addr) (r s : List Nat), vs = [.ref p, .ref q] ∧ Rd.Has H L ∧ Rd.Is p (.lst (rowV r)) ∈ L ∧ Rd.Is q (.lst (rowV s)) ∈ L ∧ r.length = s.length ∧ r.length ≤ 100000 ∧
  ∀ z H', Rd.Has H' (Rd.Is z (.lst (rowV (List.zipWith (fun x y => (x + y) % 2) r s))) :: L) → Q (.ref z) H'
theorem sc_law_sum : FnScope ["one", "other", "bit", "mate"] ["one", "other"] (defScope s_law_sum) := ⟨rfl, rfl, rfl, by decide +kernel, rfl, by decide +kernel, by decide +kernel⟩
theorem ok_law_sum (T : Txt K mg) : FnOk P w K mg base CX0 1 T.f_law_sum T.d_law_sum ["one", "other"] (sp_law_sum K) := by
  refine T.F_law_sum.ok sc_law_sum (fun vs H Q E h => ?_) (fun cdv A outer s H vs Q E hr h => ?_)
  · obtain ⟨L, p, q, r, s, rfl, S, hp, hq, hl, hl2, h⟩ := h
    rfl
  · obtain ⟨L, p, q, r, s, rfl, S, hp, hq, hl, hl2, h⟩ := h
    refine ⟨_, (pss_one (ps_ret (pe_lc (own := [("bit", 2), ("mate", 3)]) (g := gTup K 2 (gCons (gName 2) (gCons (gName 3) (gNil)))) (by rfl) sc_law_sum.nd (pi_zip (by rfl) T.z_zip (pa_cons (pv 0) (pa_cons (pv 1) pa_nil))) (blkOk_by (own := [("bit", 2), ("mate", 3)]) (N := ["one", "other", "bit", "mate"]) (sc := defScope s_law_sum) (by decide +kernel)) (fun _ _ _ _ _ => (pg_tup rfl (pgs_cons (pg_name (i := 2) sc_law_sum.nd rfl (by first | exact Or.inl rfl | exact Or.inr rfl)) (pgs_cons (pg_name (i := 3) sc_law_sum.nd rfl (by first | exact Or.inl rfl | exact Or.inr rfl)) pgs_nil)))) (fun _ _ _ _ _ => pts_nil) (fun _ _ _ _ _ => (pe_op op_mod (pe_op op_add (pv 2) (pv 3)) pe_int))))), ?_⟩
    try dsimp only [L2.cxOf]
    walk_at "rd"
    refine Rd.l_lcZ (xs := rowV r) (ys := rowV s) S (by rw [rowV_len, rowV_len, hl]) (fun H' S => ⟨S.sl hp, S.sl hq⟩) (fun i => rowV ((List.zipWith (fun x y => (x + y) % 2) r s).take i)) rfl ?_ ?_
    · intro i x y D T H' hx hy S Nx hN
      obtain ⟨a, ha, rfl⟩ := rowV_at hx
      obtain ⟨b, hb, rfl⟩ := rowV_at hy
      refine Rd.r_gtup (S.st Rd.m0) rfl ?_
      walk_at "rd"
      refine ⟨rfl, ?_⟩
      walk_at "rd"
      have hi := (List.getElem?_eq_some_iff.mp ha).1
      refine Rd.lc_put S.tail (by rw [rowV_len, List.length_take]; omega) ?_ hN
      have e : (List.zipWith (fun x y => (x + y) % 2) r s)[i]? = some ((a + b) % 2) := by
        rw [List.getElem?_zipWith, ha, hb]
      rw [List.take_succ, e, ← rowV_append]
      rfl
    · intro D H' S
      rw [rowV_len] at S
      have e : (List.zipWith (fun x y => (x + y) % 2) r s).take r.length = List.zipWith (fun x y => (x + y) % 2) r s := List.take_of_length_le (by rw [List.length_zipWith]; omega)
      rw [e] at S
      exact h D _ S
/-! ### _law_row -/
def sp_law_row (K : PySem.W.Frag) : Sp := fun vs H Q _ => ∃ (L : List Rd.Ent) (n : Nat), vs = [.int n] ∧ Rd.Has H L ∧ blen n ≤ 100000 ∧ ∀ p H', Rd.Has H' (Rd.Is p (.lst (rowV (row n))) :: L) → Q (.ref p) H'
theorem sc_law_row : FnScope ["number", "found"] ["number"] (defScope s_law_row) := ⟨rfl, rfl, rfl, by decide +kernel, rfl, by decide +kernel, by decide +kernel⟩
theorem ok_law_row (T : Txt K mg) : FnOk P w K mg base CX0 1 T.f_law_row T.d_law_row ["number"] (sp_law_row K) := by
  refine T.F_law_row.ok sc_law_row (fun vs H Q E h => ?_) (fun cdv A outer s H vs Q E hr h => ?_)
  · obtain ⟨L, n, rfl, S, hn, h⟩ := h
    rfl
  · obtain ⟨L, n, rfl, S, hn, h⟩ := h
    refine ⟨_, (pss_cons (ps_set (i := 1) sc_law_row.nd rfl (by first | exact Or.inl rfl | exact Or.inr rfl) (pe_lst pa_nil))
        (pss_cons (ps_while PassesOwn.never (pt_cmpR op_gt (pv 0) pe_int (nomark _)) (pss_cons (ps_expr (pe_bm PySem.F.plainAttrs_list PySem.F.slot_list_append PySem.F.type_list_append mt_append (pv 1) (pa_cons (pe_op op_mod (pv 0) pe_int) pa_nil)))
        (pss_one (ps_set (i := 0) sc_law_row.nd rfl (by first | exact Or.inl rfl | exact Or.inr rfl) (pe_op op_fdivW (pv 0) pe_int)))))
        (pss_one (ps_ret (pv 1))))), ?_⟩
    try dsimp only [L2.cxOf]
    walk_at "rd"
    refine Rd.r_newL S (by decide) fun p H S => ?_
    walk_at "rd"
    refine ⟨fun k σ H' => ∃ xs : List Nat, Rd.Has H' (Rd.Is p (.lst (rowV xs)) :: L) ∧ σ = [some (.int k), some (.ref p)] ∧ xs ++ row k = row n, ⟨n, [], S, rfl, rfl⟩, ?_⟩
    rintro k σ H ⟨xs, S, rfl, e⟩
    walk_at "rd"
    refine Rd.r_dec (fun h1 => ?_) (fun h1 => ?_)
    · refine ⟨_, fun _ _ z => z, ?_⟩
      have hlen : xs.length ≤ 100000 := by
        have := congrArg List.length e
        rw [List.length_append, Gf.row_len n] at this
        omega
      walk_at "rd"
      refine ⟨Rd.ty_l (S.get Rd.m0), ?_⟩
      walk_at "rd"
      refine Rd.r_app (S.get Rd.m0) (Rd.small_szl (by rw [rowV_len]; omega)) ?_
      walk_at "rd"
      refine ⟨k / 2, ?_, xs ++ [k % 2], ?_, rfl, ?_⟩
      · omega
      · rw [← rowV_append]
        exact S.setI
      · rw [Gf.row_pos (by omega)] at e
        rw [List.append_assoc]
        exact e
    · walk_at "rd"
      have hk : k = 0 := by omega
      subst hk
      rw [Gf.row_zero, List.append_nil] at e
      rw [e] at S
      exact h p _ S
/-! ### _law_poly -/
def sp_law_poly (K : PySem.W.Frag) : Sp := fun vs H Q _ => ∃ (L : List Rd.Ent) (p : Addr) (r : List Nat), vs = [.ref p] ∧ Rd.Has H L ∧ Rd.Is p (.lst (rowV r)) ∈ L ∧ ∀ H', Rd.Has H' L → Q (.int (num r : Nat)) H'
theorem sc_law_poly : FnScope ["row"] ["row"] (defScope s_law_poly) := ⟨rfl, rfl, rfl, by decide +kernel, rfl, by decide +kernel, by decide +kernel⟩
theorem ok_law_poly (T : Txt K mg) : FnOk P w K mg base CX0 2 T.f_law_poly T.d_law_poly ["row"] (sp_law_poly K) := by
  refine T.F_law_poly.ok sc_law_poly (fun vs H Q E h => ?_) (fun cdv A outer s H vs Q E hr h => ?_)
  · obtain ⟨L, p, r, rfl, S, hp, h⟩ := h
    rfl
  · obtain ⟨L, p, r, rfl, S, hp, h⟩ := h
    refine ⟨_, (pss_one (ps_ret (pe_call (ok_law_number T) (hr.mono (by decide)) rfl T.m_law_number T.F_law_number.kp T.b_law_number .nil pass0 (pa_cons (pe_revL (pv 0)) pa_nil)))), ?_⟩
    try dsimp only [L2.cxOf]
    walk_at "rd"
    refine Rd.r_rev S (S.sl hp) fun q H S => ?_
    have e : (rowV r).reverse = rowV r.reverse := by rw [rowV, rowV, ← List.map_reverse, ← List.map_reverse]
    rw [e] at S
    walk_at "rd"
    refine ⟨_, q, r.reverse, rfl, S, Rd.m0, ?_⟩
    rw [Gf.foldl_num]
    exact h _ S.tail
/-! ### _law_lean -/
def sp_law_lean (K : PySem.W.Frag) : Sp := fun vs H Q _ => ∃ (L : List Rd.Ent) (p : Addr) (r : List Nat), vs = [.ref p] ∧ Rd.Has H L ∧ Rd.Is p (.lst (rowV r)) ∈ L ∧ Gf.Bits r ∧ (row (num r) = r → ∀ H', Rd.Has H' L → Q (.ref p) H') ∧ (∀ q H', Rd.Has H' (Rd.Is q (.lst (rowV (row (num r)))) :: L) → Q (.ref q) H')
theorem sc_law_lean : FnScope ["row"] ["row"] (defScope s_law_lean) := ⟨rfl, rfl, rfl, by decide +kernel, rfl, by decide +kernel, by decide +kernel⟩
theorem ok_law_lean (T : Txt K mg) : FnOk P w K mg base CX0 1 T.f_law_lean T.d_law_lean ["row"] (sp_law_lean K) := by
  refine T.F_law_lean.ok sc_law_lean (fun vs H Q E h => ?_) (fun cdv A outer s H vs Q E hr h => ?_)
  · obtain ⟨L, p, r, rfl, S, hp, hb, hA, hB⟩ := h
    rfl
  · obtain ⟨L, p, r, rfl, S, hp, hb, hA, hB⟩ := h
    refine ⟨_, (pss_cons (ps_while PassesOwn.never (PW.pt (pw_and (pt_cmpR (op_neD hr.units) (pv 0) (pe_lst pa_nil) (nomark _)) (pw_and1 (pt_cmpR op_eq (pe_ix ix_list (pv 0) (pe_un un_neg pe_int) (fun _ _ => rfl)) pe_int (nomark _))))) (pss_one (ps_set (i := 0) sc_law_lean.nd rfl (by first | exact Or.inl rfl | exact Or.inr rfl) (pe_slice sl_list (pv 0) po_none (po_some (pe_un un_neg pe_int))))))
        (pss_one (ps_ret (pv 0)))), ?_⟩
    try dsimp only [L2.cxOf]
    walk_at "rd"
    refine ⟨fun k σ H' => ∃ (q : Addr) (s : List Nat) (L' : List Rd.Ent), Rd.Has H' L' ∧ Rd.Is q (.lst (rowV s)) ∈ L' ∧ σ = [some (.ref q)] ∧ k = s.length ∧ Gf.Bits s ∧ num s = num r ∧ (L' = L ∧ q = p ∧ s = r ∨ L' = Rd.Is q (.lst (rowV s)) :: L), ⟨r.length, p, r, L, S, hp, rfl, rfl, hb, rfl, .inl ⟨rfl, rfl, rfl⟩⟩, ?_⟩
    rintro k σ H ⟨q, s, L', S, hq, rfl, rfl, hbs, en, hL⟩
    walk_at "rd"
    refine Rd.r_newL S (by decide) fun z H S => ?_
    refine Rd.r_neLI (xs := s.map nI) (ys := []) (S.sl (List.mem_cons_of_mem _ hq)) (S.sl Rd.m0) ?_
    replace S := S.tail
    walk_at "rd"
    have fin : Gf.Lean s → Q (.ref q) H := fun hl => by
      have er := Gf.row_num hbs hl
      rw [en] at er
      rcases hL with ⟨g1, g2, g3⟩ | g1
      · rw [g1] at S
        rw [g2]
        exact hA (er.trans g3) _ S
      · rw [g1, ← er] at S
        exact hB q H S
    refine Rd.r_ndec (fun h1 => ?_) (fun h1 => ?_)
    · have hne : s ≠ [] := fun z => h1 (by rw [z]; rfl)
      obtain ⟨b, hlast⟩ : ∃ b, s.getLast? = some b := ⟨_, List.getLast?_eq_some_getLast hne⟩
      walk_at "rd"
      refine Rd.r_ixL (S.sl hq) (atV_last hlast) ?_
      walk_at "rd"
      refine Rd.r_dec (fun h2 => ?_) (fun h2 => ?_)
      · refine ⟨_, fun _ _ z => z, ?_⟩
        have hb0 : b = 0 := by omega
        subst hb0
        walk_at "rd"
        refine Rd.r_slL S (S.sl hq) fun y H S => ?_
        walk_at "rd"
        rw [cutV_last, rowV_dropLast] at S
        have S2 : Rd.Has H (Rd.Is y (.lst (rowV s.dropLast)) :: L) := by
          rcases hL with ⟨g1, g2, g3⟩ | g1
          · rw [g1] at S
            exact S
          · rw [g1] at S
            exact S.drop2
        refine ⟨s.dropLast.length, ?_, y, s.dropLast, _, S2, Rd.m0, rfl, rfl, Gf.bits_dropLast hbs, ?_, .inr rfl⟩
        · have := List.length_pos_iff.mpr hne
          rw [List.length_dropLast]
          omega
        · rw [Gf.lean_drop hlast]
          exact en
      · walk_at "rd"
        refine fin fun x hx => ?_
        rw [hlast] at hx
        injection hx with hx
        omega
    · walk_at "rd"
      refine fin fun x hx => ?_
      have hs : s = [] := by simpa using h1
      rw [hs] at hx
      cases hx
/-! ### _law_plus -/
def sp_law_plus (K : PySem.W.Frag) : Sp := fun vs H Q _ => ∃ (L : List Rd.Ent) (p q : Addr) (r s : List Nat), vs = [.ref p, .ref q] ∧ Rd.Has H L ∧ Rd.Is p (.lst (rowV r)) ∈ L ∧ Rd.Is q (.lst (rowV s)) ∈ L ∧ Gf.Bits r ∧ Gf.Bits s ∧ r.length ≤ 10000 ∧ s.length ≤ 10000 ∧ ∀ z H', Rd.Has H' (Rd.Is z (.lst (rowV (row (num r ^^^ num s)))) :: L) → Q (.ref z) H'
theorem sc_law_plus : FnScope ["one", "other", "size", "left", "right"] ["one", "other"] (defScope s_law_plus) := ⟨rfl, rfl, rfl, by decide +kernel, rfl, by decide +kernel, by decide +kernel⟩
theorem ok_law_plus (T : Txt K mg) : FnOk P w K mg base CX0 2 T.f_law_plus T.d_law_plus ["one", "other"] (sp_law_plus K) := by
  refine T.F_law_plus.ok sc_law_plus (fun vs H Q E h => ?_) (fun cdv A outer s H vs Q E hr h => ?_)
  · obtain ⟨L, p, q, r, s, rfl, S, hp, hq, hbr, hbs, hlr, hls, h⟩ := h
    rfl
  · obtain ⟨L, p, q, r, s, rfl, S, hp, hq, hbr, hbs, hlr, hls, h⟩ := h
    refine ⟨_, (pss_cons (ps_set (i := 2) sc_law_plus.nd rfl (by first | exact Or.inl rfl | exact Or.inr rfl) (pe_callB (Rd.call_maxR rfl) (by rfl) T.z_max (by decide +kernel) (pa_cons (pe_callB Rd.call_lenQ (by rfl) T.z_len (by decide +kernel) (pa_cons (pv 0) pa_nil)) (pa_cons (pe_callB Rd.call_lenQ (by rfl) T.z_len (by decide +kernel) (pa_cons (pv 1) pa_nil)) pa_nil))))
        (pss_cons (ps_par (i := 3) (j := 4) (by rfl) sc_law_plus.nd rfl rfl (by decide) rfl rfl (pa_cons (pe_op op_cat (pv 0) (pe_op op_rep (pe_lst (pa_cons pe_int pa_nil)) (pe_op op_sub (pv 2) (pe_callB Rd.call_lenQ (by rfl) T.z_len (by decide +kernel) (pa_cons (pv 0) pa_nil))))) (pa_cons (pe_op op_cat (pv 1) (pe_op op_rep (pe_lst (pa_cons pe_int pa_nil)) (pe_op op_sub (pv 2) (pe_callB Rd.call_lenQ (by rfl) T.z_len (by decide +kernel) (pa_cons (pv 1) pa_nil))))) pa_nil)) (by rfl))
        (pss_one (ps_ret (pe_call (ok_law_lean T) (hr.mono (by decide)) rfl T.m_law_lean T.F_law_lean.kp T.b_law_lean .nil pass0 (pa_cons (pe_call (ok_law_sum T) (hr.mono (by decide)) rfl T.m_law_sum T.F_law_sum.kp T.b_law_sum .nil pass0 (pa_cons (pv 3) (pa_cons (pv 4) pa_nil))) pa_nil)))))), ?_⟩
    try dsimp only [L2.cxOf]
    obtain ⟨n, hn, hn1, hn2, hn3⟩ : ∃ n : Nat, (if (s.length : Int) > (r.length : Int) then (s.length : Int) else (r.length : Int)) = n ∧ r.length ≤ n ∧ s.length ≤ n ∧ n ≤ 10000 := by
      split
      · exact ⟨s.length, rfl, by omega, Nat.le_refl _, hls⟩
      · exact ⟨r.length, rfl, Nat.le_refl _, by omega, hlr⟩
    walk_at "rd"
    refine Rd.r_lenL (S.sl hp) ?_
    walk_at "rd"
    refine Rd.r_lenL (S.sl hq) ?_
    walk_at "rd"
    rw [rowV_len, rowV_len, hn]
    refine Rd.r_newL S (by decide) fun z1 H S => ?_
    walk_at "rd"
    refine Rd.r_lenL (S.sl (List.mem_cons_of_mem _ hp)) ?_
    rw [rowV_len]
    walk_at "rd"
    have e1 : ((n : Int) - (r.length : Int)).toNat = n - r.length := by omega
    have e2 : ((n : Int) - (s.length : Int)).toNat = n - s.length := by omega
    refine Rd.r_repL S Rd.m0 (by omega) (by omega) (Rd.small_sz (by rw [e1]; simp; omega)) fun z2 H S => ?_
    rw [e1, rowV_rep] at S
    replace S := S.drop2
    refine Rd.r_catL S (List.mem_cons_of_mem _ hp) Rd.m0 (Rd.small_sz (by rw [rowV_len, rowV_len, List.length_replicate]; omega)) fun z3 H S => ?_
    rw [rowV_append] at S
    replace S := S.drop2
    walk_at "rd"
    refine Rd.r_newL S (by decide) fun z4 H S => ?_
    walk_at "rd"
    refine Rd.r_lenL (S.sl (List.mem_cons_of_mem _ (List.mem_cons_of_mem _ hq))) ?_
    rw [rowV_len]
    walk_at "rd"
    refine Rd.r_repL S Rd.m0 (by omega) (by omega) (Rd.small_sz (by rw [e2]; simp; omega)) fun z5 H S => ?_
    rw [e2, rowV_rep] at S
    replace S := S.drop2
    refine Rd.r_catL S (List.mem_cons_of_mem _ (List.mem_cons_of_mem _ hq)) Rd.m0 (Rd.small_sz (by rw [rowV_len, rowV_len, List.length_replicate]; omega)) fun z6 H S => ?_
    rw [rowV_append] at S
    replace S := S.drop2
    walk_at "rd"
    have l1 : (r ++ List.replicate (n - r.length) 0).length = n := by rw [List.length_append, List.length_replicate]; omega
    have l2 : (s ++ List.replicate (n - s.length) 0).length = n := by rw [List.length_append, List.length_replicate]; omega
    have pad : ∀ {t : List Nat} {k : Nat}, Gf.Bits t → Gf.Bits (t ++ List.replicate k 0) := fun ht b hb => by
      rcases List.mem_append.mp hb with hb | hb
      · exact ht b hb
      · exact .inl (List.eq_of_mem_replicate hb)
    obtain ⟨m1, m2⟩ := Gf.num_sum _ _ (l1.trans l2.symm) (pad (k := n - r.length) hbr) (pad (k := n - s.length) hbs)
    refine ⟨_, z3, z6, _, _, rfl, S, Rd.m1, Rd.m0, l1.trans l2.symm, by omega, fun z7 H S => ?_⟩
    walk_at "rd"
    refine ⟨_, z7, _, rfl, S, Rd.m0, m2, fun er H' S' => ?_, fun z H' S' => ?_⟩
    · rw [← er, m1, Gf.num_pad, Gf.num_pad] at S'
      exact h z7 H' S'.drop2.drop2
    · rw [m1, Gf.num_pad, Gf.num_pad] at S'
      exact h z H' S'.drop2.drop2.drop2
/-! ### _law_times -/
def sp_law_times (K : PySem.W.Frag) : Sp := fun vs H Q _ => ∃ (L : List Rd.Ent) (p q : Addr) (r s : List Nat), vs = [.ref p, .ref q] ∧ Rd.Has H L ∧ Rd.Is p (.lst (rowV r)) ∈ L ∧ Rd.Is q (.lst (rowV s)) ∈ L ∧ Gf.Bits r ∧ Gf.Bits s ∧ r.length ≤ 10000 ∧ s.length ≤ 10000 ∧ ∀ z H', Rd.Has H' (Rd.Is z (.lst (rowV (row (mul (num r) (num s))))) :: L) → Q (.ref z) H'
theorem sc_law_times : FnScope ["one", "other", "found", "at", "bit", "spot", "mate"] ["one", "other"] (defScope s_law_times) := ⟨rfl, rfl, rfl, by decide +kernel, rfl, by decide +kernel, by decide +kernel⟩
theorem ok_law_times (T : Txt K mg) : FnOk P w K mg base CX0 2 T.f_law_times T.d_law_times ["one", "other"] (sp_law_times K) := by
  refine T.F_law_times.ok sc_law_times (fun vs H Q E h => ?_) (fun cdv A outer s H vs Q E hr h => ?_)
  · obtain ⟨L, p, q, r, s, rfl, S, hp, hq, hbr, hbs, hlr, hls, h⟩ := h
    rfl
  · obtain ⟨L, p, q, r, s, rfl, S, hp, hq, hbr, hbs, hlr, hls, h⟩ := h
    refine ⟨_, (pss_cons (ps_set (i := 2) sc_law_times.nd rfl (by first | exact Or.inl rfl | exact Or.inr rfl) (pe_op op_rep (pe_lst (pa_cons pe_int pa_nil)) (pe_op op_add (pe_callB Rd.call_lenQ (by rfl) T.z_len (by decide +kernel) (pa_cons (pv 0) pa_nil)) (pe_callB Rd.call_lenQ (by rfl) T.z_len (by decide +kernel) (pa_cons (pv 1) pa_nil)))))
        (pss_cons (ps_for PassesOwn.never rfl (pi_enum (by rfl) T.z_enumerate (pa_cons (pv 0) pa_nil)) (pg_tup rfl (pgs_cons (pg_name (i := 3) sc_law_times.nd rfl (by first | exact Or.inl rfl | exact Or.inr rfl)) (pgs_cons (pg_name (i := 4) sc_law_times.nd rfl (by first | exact Or.inl rfl | exact Or.inr rfl)) pgs_nil))) (pss_one (ps_if (pt_cmpR op_eq (pv 4) pe_int (nomark _)) (pss_one (ps_for PassesOwn.never rfl (pi_enum (by rfl) T.z_enumerate (pa_cons (pv 1) pa_nil)) (pg_tup rfl (pgs_cons (pg_name (i := 5) sc_law_times.nd rfl (by first | exact Or.inl rfl | exact Or.inr rfl)) (pgs_cons (pg_name (i := 6) sc_law_times.nd rfl (by first | exact Or.inl rfl | exact Or.inr rfl)) pgs_nil))) (pss_one (ps_asg (pe_op op_mod (pe_op op_add (pe_ix ix_list (pv 2) (pe_op op_add (pv 3) (pv 5)) (fun _ _ => rfl)) (pv 6)) pe_int) (pg_sub (pv 2) (pe_op op_add (pv 3) (pv 5)) set_list))))) pss_nil)))
        (pss_one (ps_ret (pe_call (ok_law_lean T) (hr.mono (by decide)) rfl T.m_law_lean T.F_law_lean.kp T.b_law_lean .nil pass0 (pa_cons (pv 2) pa_nil)))))), ?_⟩
    try dsimp only [L2.cxOf]
    walk_at "rd"
    refine Rd.r_newL S (by decide) fun z1 H S => ?_
    walk_at "rd"
    refine Rd.r_lenL (S.sl (List.mem_cons_of_mem _ hp)) ?_
    walk_at "rd"
    refine Rd.r_lenL (S.sl (List.mem_cons_of_mem _ hq)) ?_
    rw [rowV_len, rowV_len]
    walk_at "rd"
    have e1 : ((r.length : Int) + (s.length : Int)).toNat = r.length + s.length := by omega
    refine Rd.r_repL S Rd.m0 (by omega) (by omega) (Rd.small_sz (by rw [e1]; simp; omega)) fun f H S => ?_
    rw [e1, rowV_rep] at S
    replace S := S.drop2
    walk_at "rd"
    have bz : Gf.Bits (List.replicate (r.length + s.length) 0) := fun b hb => .inl (List.eq_of_mem_replicate hb)
    refine Rd.l_enum (xs := rowV r) (S.sl (List.mem_cons_of_mem _ hp)) (fun i σ H' => ∃ (fs : List Nat) (u1 u2 u3 u4 : Option V), Rd.Has H' (Rd.Is f (.lst (rowV fs)) :: L) ∧ σ = [some (.ref p), some (.ref q), some (.ref f), u1, u2, u3, u4] ∧ fs.length = r.length + s.length ∧ Gf.Bits fs ∧ num fs = mul (num (r.take i)) (num s))
      ⟨_, none, none, none, none, S, rfl, List.length_replicate, bz, by rw [Gf.num_zeros]; exact (Gf.mul_zero_left _).symm⟩ (fun i σ H' _ ⟨fs, _, _, _, _, S, _⟩ => S.sl (List.mem_cons_of_mem _ hp)) ?_ ?_
    · rintro i x T σ H hx ⟨fs, u1, u2, u3, u4, S, rfl, hlen, hbf, en⟩ hT
      obtain ⟨b, hb, rfl⟩ := rowV_at hx
      have hi := (List.getElem?_eq_some_iff.mp hb).1
      have hbit := hbr b (List.mem_of_getElem? hb)
      have S2 := S.new (o := .tup [.int (i : Nat), .int (b : Int)]) hT
      have enext : num (r.take (i + 1)) = num (r.take i) ^^^ b * 2 ^ i := by
        have hl : (r.take i).length = i := by rw [List.length_take]; omega
        have := Gf.num_snoc (r.take i) b hbit (Gf.num_lt fun y hy => hbr y (List.mem_of_mem_take hy))
        rw [hl] at this
        rw [List.take_succ, hb]
        exact this
      refine Rd.r_gtup (S2.st Rd.m0) rfl ?_
      replace S2 := S2.tail
      walk_at "rd"
      refine Rd.r_dec (fun h1 => ?_) (fun h1 => ?_)
      · have hb1 : b = 1 := by omega
        subst hb1
        walk_at "rd"
        refine Rd.l_enum (xs := rowV s) (S2.sl (List.mem_cons_of_mem _ hq)) (fun j σ H' => ∃ (gs : List Nat) (w3 w4 : Option V), Rd.Has H' (Rd.Is f (.lst (rowV gs)) :: L) ∧ σ = [some (.ref p), some (.ref q), some (.ref f), some (.int (i : Nat)), some (.int 1), w3, w4] ∧ gs.length = r.length + s.length ∧ Gf.Bits gs ∧ num gs = num fs ^^^ num (s.take j) * 2 ^ i)
          ⟨fs, _, _, S2, rfl, hlen, hbf, by simp [num]⟩ (fun j σ H' _ ⟨gs, _, _, S, _⟩ => S.sl (List.mem_cons_of_mem _ hq)) ?_ ?_
        · rintro j y T2 σ H hy ⟨gs, w3, w4, S, rfl, glen, hbg, gn⟩ hT2
          obtain ⟨c, hc, rfl⟩ := rowV_at hy
          have hj := (List.getElem?_eq_some_iff.mp hc).1
          have hcbit := hbs c (List.mem_of_getElem? hc)
          have S3 := S.new (o := .tup [.int (j : Nat), .int (c : Int)]) hT2
          have hlt : i + j < gs.length := by omega
          obtain ⟨g, hg⟩ : ∃ g, gs[i + j]? = some g := ⟨_, List.getElem?_eq_getElem hlt⟩
          have hgbit := hbg g (List.mem_of_getElem? hg)
          refine Rd.r_gtup (S3.st Rd.m0) rfl ?_
          replace S3 := S3.tail
          walk_at "rd"
          refine Rd.r_ixL (S3.sl Rd.m0) (atL (j := i + j) rfl (rowV_get hg)) ?_
          walk_at "rd"
          refine Rd.r_setL (j := i + j) (S3.get Rd.m0) ?_ ?_
          · unfold ixN
            rw [rowV_len, if_pos (by omega), if_pos (by omega)]
            congr 1
          refine ⟨gs.set (i + j) ((g + c) % 2), _, _, ?_, rfl, ?_, ?_, ?_⟩
          · rw [← rowV_set]
            exact S3.setI
          · rw [List.length_set]
            exact glen
          · exact Gf.bits_set hbg (by omega)
          · rw [Gf.num_set gs (i + j) g ((g + c) % 2) hg hgbit (by omega) hbg, gn]
            have snext : num (s.take (j + 1)) = num (s.take j) ^^^ c * 2 ^ j := by
              have hl : (s.take j).length = j := by rw [List.length_take]; omega
              have := Gf.num_snoc (s.take j) c hcbit (Gf.num_lt fun y hy => hbs y (List.mem_of_mem_take hy))
              rw [hl] at this
              rw [List.take_succ, hc]
              exact this
            have e8 : (num (s.take j) ^^^ c * 2 ^ j) * 2 ^ i = num (s.take j) * 2 ^ i ^^^ (if g = (g + c) % 2 then 0 else 2 ^ (i + j)) := by
              rw [← Gf.mul_pow, Gf.mul_xor_left, Gf.mul_pow, Gf.mul_pow]
              congr 1
              rcases hcbit with rfl | rfl
              · rw [Nat.zero_mul, Nat.zero_mul, if_pos (by omega)]
              · rw [Nat.one_mul, if_neg (by omega), ← Nat.pow_add, Nat.add_comm]
            rw [snext, e8, Nat.xor_assoc]
        · rintro σ H ⟨gs, w3, w4, S, rfl, glen, hbg, gn⟩
          refine ⟨gs, _, _, _, _, S, rfl, glen, hbg, ?_⟩
          rw [rowV_len, List.take_length] at gn
          rw [gn, en, enext, Nat.one_mul, Gf.mul_xor_left, Gf.mul_pow_left]
      · have hb0 : b = 0 := by omega
        subst hb0
        walk_at "rd"
        refine ⟨fs, _, _, _, _, S2, rfl, hlen, hbf, ?_⟩
        rw [en, enext, Nat.zero_mul, Nat.xor_zero]
    · rintro σ H ⟨fs, u1, u2, u3, u4, S, rfl, hlen, hbf, en⟩
      rw [rowV_len, List.take_length] at en
      walk_at "rd"
      refine ⟨_, f, fs, rfl, S, Rd.m0, hbf, fun er H' S' => ?_, fun z H' S' => ?_⟩
      · rw [← er, en] at S'
        exact h f H' S'
      · rw [en] at S'
        exact h z H' S'.drop2
/-! ### _law_divided -/
def sp_law_divided (K : PySem.W.Frag) : Sp := fun vs H Q _ => ∃ (L : List Rd.Ent) (p q : Addr) (a m : Nat), vs = [.ref p, .ref q] ∧ Rd.Has H L ∧ Rd.Is p (.lst (rowV (row a))) ∈ L ∧ Rd.Is q (.lst (rowV (row m))) ∈ L ∧ m ≠ 0 ∧ blen a ≤ 10000 ∧ blen m ≤ 10000 ∧
  ∀ (t y z : Addr) (H' : Hp), Rd.Has H' (Rd.Is t (.tup [.ref y, .ref z]) :: Rd.Is y (.lst (rowV (row (pdiv a m)))) :: Rd.Is z (.lst (rowV (row (pmod a m)))) :: L) → Q (.ref t) H'
theorem sc_law_divided : FnScope ["one", "other", "rest", "found", "far"] ["one", "other"] (defScope s_law_divided) := ⟨rfl, rfl, rfl, by decide +kernel, rfl, by decide +kernel, by decide +kernel⟩
theorem ok_law_divided (T : Txt K mg) : FnOk P w K mg base CX0 3 T.f_law_divided T.d_law_divided ["one", "other"] (sp_law_divided K) := by
  refine T.F_law_divided.ok sc_law_divided (fun vs H Q E h => ?_) (fun cdv A outer s H vs Q E hr h => ?_)
  · obtain ⟨L, p, q, a, m, rfl, S, hp, hq, hm, ha, hmb, h⟩ := h
    rfl
  · obtain ⟨L, p, q, a, m, rfl, S, hp, hq, hm, ha, hmb, h⟩ := h
    refine ⟨_, (pss_cons (ps_par (i := 2) (j := 3) (by rfl) sc_law_divided.nd rfl rfl (by decide) rfl rfl (pa_cons (pe_callTy Rd.call_listR (by rfl) T.z_list (by decide +kernel) (pa_cons (pv 0) pa_nil)) (pa_cons (pe_op op_rep (pe_lst (pa_cons pe_int pa_nil)) (pe_callB (Rd.call_maxR rfl) (by rfl) T.z_max (by decide +kernel) (pa_cons pe_int (pa_cons (pe_callB Rd.call_lenQ (by rfl) T.z_len (by decide +kernel) (pa_cons (pv 0) pa_nil)) pa_nil)))) pa_nil)) (by rfl))
        (pss_cons (ps_while PassesOwn.never (pt_cmpR op_ge (pe_callB Rd.call_lenQ (by rfl) T.z_len (by decide +kernel) (pa_cons (pv 2) pa_nil)) (pe_callB Rd.call_lenQ (by rfl) T.z_len (by decide +kernel) (pa_cons (pv 1) pa_nil)) (nomark _)) (pss_cons (ps_set (i := 4) sc_law_divided.nd rfl (by first | exact Or.inl rfl | exact Or.inr rfl) (pe_op op_sub (pe_callB Rd.call_lenQ (by rfl) T.z_len (by decide +kernel) (pa_cons (pv 2) pa_nil)) (pe_callB Rd.call_lenQ (by rfl) T.z_len (by decide +kernel) (pa_cons (pv 1) pa_nil))))
        (pss_cons (ps_asg pe_int (pg_sub (pv 3) (pv 4) set_list))
        (pss_one (ps_set (i := 2) sc_law_divided.nd rfl (by first | exact Or.inl rfl | exact Or.inr rfl) (pe_call (ok_law_plus T) (hr.mono (by decide)) rfl T.m_law_plus T.F_law_plus.kp T.b_law_plus .nil pass0 (pa_cons (pv 2) (pa_cons (pe_op op_cat (pe_op op_rep (pe_lst (pa_cons pe_int pa_nil)) (pv 4)) (pv 1)) pa_nil))))))))
        (pss_one (ps_ret (pe_tup (pa_cons (pe_call (ok_law_lean T) (hr.mono (by decide)) rfl T.m_law_lean T.F_law_lean.kp T.b_law_lean .nil pass0 (pa_cons (pv 3) pa_nil)) (pa_cons (pv 2) pa_nil))))))), ?_⟩
    try dsimp only [L2.cxOf]
    have hmp := Gf.blen_pos hm
    walk_at "rd"
    refine Rd.r_listL S (S.sl hp) fun re H S => ?_
    walk_at "rd"
    refine Rd.r_newL S (by decide) fun z1 H S => ?_
    walk_at "rd"
    refine Rd.r_lenL (S.sl (List.mem_cons_of_mem _ (List.mem_cons_of_mem _ hp))) ?_
    rw [rowV_len, Gf.row_len]
    walk_at "rd"
    obtain ⟨n, hn, hn1, hn2⟩ : ∃ n : Nat, (if (blen a : Int) > 1 then (blen a : Int) else 1) = n ∧ blen a ≤ n ∧ n ≤ 10000 := by
      split
      · exact ⟨blen a, rfl, Nat.le_refl _, ha⟩
      · exact ⟨1, rfl, by omega, by omega⟩
    rw [hn]
    refine Rd.r_repL S Rd.m0 (by omega) (by omega) (Rd.small_sz (by rw [Int.toNat_natCast]; simp; omega)) fun f H S => ?_
    rw [Int.toNat_natCast, rowV_rep] at S
    replace S := S.drop2.swap
    walk_at "rd"
    have bz : Gf.Bits (List.replicate n 0) := fun b hb => .inl (List.eq_of_mem_replicate hb)
    refine ⟨fun k σ H' => ∃ (re : Addr) (x : Nat) (fs : List Nat) (u : Option V), Rd.Has H' (Rd.Is re (.lst (rowV (row x))) :: Rd.Is f (.lst (rowV fs)) :: L) ∧ σ = [some (.ref p), some (.ref q), some (.ref re), some (.ref f), u] ∧ k = blen x ∧ blen x ≤ blen a ∧
      fs.length = n ∧ Gf.Bits fs ∧ (∀ j, j + blen m ≤ blen x → j < n → fs[j]? = some 0) ∧ num fs ^^^ pdiv x m = pdiv a m ∧ pmod x m = pmod a m,
      ⟨blen a, re, a, _, none, S, rfl, rfl, Nat.le_refl _, List.length_replicate, bz, fun j _ hj => by rw [List.getElem?_replicate, if_pos hj], by rw [Gf.num_zeros, Nat.zero_xor], rfl⟩, ?_⟩
    rintro k σ H ⟨re, x, fs, u, S, rfl, rfl, hx, hlen, hbf, hz0, e1, e2⟩
    walk_at "rd"
    refine Rd.r_lenL (S.sl Rd.m0) ?_
    walk_at "rd"
    refine Rd.r_lenL (S.sl (List.mem_cons_of_mem _ (List.mem_cons_of_mem _ hq))) ?_
    rw [rowV_len, rowV_len, Gf.row_len, Gf.row_len]
    walk_at "rd"
    refine Rd.r_dec (fun h1 => ?_) (fun h1 => ?_)
    · have h1' : blen m ≤ blen x := by omega
      refine ⟨_, fun _ _ z => z, ?_⟩
      obtain ⟨d, hd⟩ : ∃ d, blen x = blen m + d := ⟨blen x - blen m, by omega⟩
      have hd2 : blen x - blen m = d := by omega
      have hlt := Gf.step_lt hm h1'
      have hgo := Gf.divmod_go hm h1'
      rw [hd2] at hlt hgo
      have hfd := hz0 d (by omega) (by omega)
      walk_at "rd"
      refine Rd.r_lenL (S.sl Rd.m0) ?_
      walk_at "rd"
      refine Rd.r_lenL (S.sl (List.mem_cons_of_mem _ (List.mem_cons_of_mem _ hq))) ?_
      rw [rowV_len, rowV_len, Gf.row_len, Gf.row_len]
      have efar : (blen x : Int) - (blen m : Int) = d := by omega
      walk_at "rd"
      rw [efar]
      refine Rd.r_setL (j := d) (S.get Rd.m1) ?_ ?_
      · unfold ixN
        rw [rowV_len, if_pos (by omega), if_pos (by omega), Int.toNat_natCast]
      have S2 := S.swap.setI (o := .lst ((rowV fs).set d (.int ((1 : Nat) : Int))))
      walk_at "rd"
      have hH : upd H f (.lst ((rowV fs).set d (.int (1 : Int)))) = upd H f (.lst ((rowV fs).set d (.int ((1 : Nat) : Int)))) := rfl
      rw [hH]
      generalize upd H f (.lst ((rowV fs).set d (.int ((1 : Nat) : Int)))) = H3 at S2 ⊢
      rw [rowV_set] at S2
      refine Rd.r_newL S2 (by decide) fun z2 H S => ?_
      walk_at "rd"
      refine Rd.r_repL S Rd.m0 (by omega) (by omega) (Rd.small_sz (by rw [Int.toNat_natCast]; simp; omega)) fun z3 H S => ?_
      rw [Int.toNat_natCast, rowV_rep] at S
      replace S := S.drop2
      walk_at "rd"
      refine Rd.r_catL S Rd.m0 (List.mem_cons_of_mem _ (List.mem_cons_of_mem _ (List.mem_cons_of_mem _ hq))) (Rd.small_sz (by rw [rowV_len, rowV_len, List.length_replicate, Gf.row_len]; omega)) fun z4 H S => ?_
      rw [rowV_append] at S
      replace S := S.drop2
      walk_at "rd"
      have bm : Gf.Bits (List.replicate d 0 ++ row m) := fun b hb => by
        rcases List.mem_append.mp hb with hb | hb
        · exact .inl (List.eq_of_mem_replicate hb)
        · exact Gf.row_bits m b hb
      refine ⟨_, re, z4, _, _, rfl, S, Rd.m2, Rd.m0, Gf.row_bits x, bm, by rw [Gf.row_len]; omega, by rw [List.length_append, List.length_replicate, Gf.row_len]; omega, fun y H' S => ?_⟩
      rw [Gf.num_row, Gf.num_shift, Gf.num_row] at S
      walk_at "rd"
      refine ⟨blen (x ^^^ m * 2 ^ d), hlt, y, x ^^^ m * 2 ^ d, fs.set d 1, _, S.drop2.drop3, rfl, rfl, by omega, by rw [List.length_set]; exact hlen, Gf.bits_set hbf (.inr rfl), fun j hj hjn => ?_, ?_, ?_⟩
      · rw [List.getElem?_set_ne (by omega)]
        exact hz0 j (by omega) hjn
      · rw [Gf.num_set fs d 0 1 hfd (.inl rfl) (.inr rfl) hbf, if_neg (by decide), ← e1]
        have : pdiv x m = pdiv (x ^^^ m * 2 ^ d) m ^^^ 2 ^ d := congrArg Prod.fst hgo
        rw [this, Nat.xor_assoc, Nat.xor_comm (2 ^ d)]
      · rw [← e2]
        exact (congrArg Prod.snd hgo).symm
    · have hs := Gf.divmod_stop (a := x) (m := m) (by omega)
      have d0 : pdiv x m = 0 := congrArg Prod.fst hs
      have r0 : pmod x m = x := congrArg Prod.snd hs
      rw [d0, Nat.xor_zero] at e1
      rw [r0] at e2
      subst e2
      walk_at "rd"
      refine ⟨_, f, fs, rfl, S, Rd.m1, hbf, fun er H S => ?_, fun y H S => ?_⟩
      · rw [← er, e1] at S
        walk_at "rd"
        refine Rd.r_newT S (Rd.small_sz (by simp)) fun t H S => ?_
        exact h t f re H S.mid
      · rw [e1] at S
        walk_at "rd"
        refine Rd.r_newT S (Rd.small_sz (by simp)) fun t H S => ?_
        exact h t y re H S.drop4
/-! ### _law_common -/
def sp_law_common (K : PySem.W.Frag) : Sp := fun vs H Q _ => ∃ (L : List Rd.Ent) (p q : Addr) (a b : Nat), vs = [.ref p, .ref q] ∧ Rd.Has H L ∧ Rd.Is p (.lst (rowV (row a))) ∈ L ∧ Rd.Is q (.lst (rowV (row b))) ∈ L ∧ blen a ≤ 10000 ∧ blen b ≤ 10000 ∧ RowOut L (row (pgcd a b)) Q
theorem sc_law_common : FnScope ["one", "other"] ["one", "other"] (defScope s_law_common) := ⟨rfl, rfl, rfl, by decide +kernel, rfl, by decide +kernel, by decide +kernel⟩
theorem ok_law_common (T : Txt K mg) : FnOk P w K mg base CX0 4 T.f_law_common T.d_law_common ["one", "other"] (sp_law_common K) := by
  refine T.F_law_common.ok sc_law_common (fun vs H Q E h => ?_) (fun cdv A outer s H vs Q E hr h => ?_)
  · obtain ⟨L, p, q, a, b, rfl, S, hp, hq, ha, hb, h⟩ := h
    rfl
  · obtain ⟨L, p, q, a, b, rfl, S, hp, hq, ha, hb, h⟩ := h
    refine ⟨_, (pss_cons (ps_while PassesOwn.never (pt_cmpR (op_neD hr.units) (pv 1) (pe_lst pa_nil) (nomark _)) (pss_one (ps_par (i := 0) (j := 1) (by rfl) sc_law_common.nd rfl rfl (by decide) rfl rfl (pa_cons (pv 1) (pa_cons (pe_ix ix_tup (pe_call (ok_law_divided T) (hr.mono (by decide)) rfl T.m_law_divided T.F_law_divided.kp T.b_law_divided .nil pass0 (pa_cons (pv 0) (pa_cons (pv 1) pa_nil))) pe_int (fun _ _ => rfl)) pa_nil)) (by rfl))))
        (pss_one (ps_ret (pv 0)))), ?_⟩
    try dsimp only [L2.cxOf]
    walk_at "rd"
    refine ⟨fun k σ H' => ∃ (p q : Addr) (x y : Nat) (L' : List Rd.Ent), Rd.Has H' L' ∧ (∀ e ∈ L, e ∈ L') ∧ Rd.Is p (.lst (rowV (row x))) ∈ L' ∧ Rd.Is q (.lst (rowV (row y))) ∈ L' ∧ σ = [some (.ref p), some (.ref q)] ∧ k = blen y ∧ blen x ≤ 10000 ∧ blen y ≤ 10000 ∧ pgcd x y = pgcd a b,
      ⟨blen b, p, q, a, b, L, S, fun _ z => z, hp, hq, rfl, rfl, ha, hb, rfl⟩, ?_⟩
    rintro k σ H ⟨p, q, x, y, L', S, hsub, hp, hq, rfl, rfl, hx, hy, e⟩
    walk_at "rd"
    refine Rd.r_newL S (by decide) fun z H S => ?_
    refine Rd.r_neLI (xs := (row y).map nI) (ys := []) (S.sl (List.mem_cons_of_mem _ hq)) (S.sl Rd.m0) ?_
    replace S := S.tail
    walk_at "rd"
    refine Rd.r_ndec (fun h1 => ?_) (fun h1 => ?_)
    · have hy0 : y ≠ 0 := fun z => h1 (by rw [z, Gf.row_zero]; rfl)
      refine ⟨_, fun _ _ z => z, ?_⟩
      walk_at "rd"
      refine ⟨L', p, q, x, y, rfl, S, hp, hq, hy0, hx, hy, fun t y1 z1 H S => ?_⟩
      walk_at "rd"
      refine Rd.r_ixT (S.st Rd.m0) (atL (j := 1) rfl rfl) ?_
      walk_at "rd"
      have hlt := Gf.pmod_lt hy0 x
      exact ⟨blen (pmod x y), hlt, q, z1, y, pmod x y, _, S, fun e he => List.mem_cons_of_mem _ (List.mem_cons_of_mem _ (List.mem_cons_of_mem _ (hsub e he))), List.mem_cons_of_mem _ (List.mem_cons_of_mem _ (List.mem_cons_of_mem _ hq)), Rd.m2, rfl, rfl, hy, by omega, by rw [← e, Gf.pgcd_step hy0]⟩
    · walk_at "rd"
      have hy0 : y = 0 := by
        have : row y = [] := by simpa using h1
        exact Gf.row_nil.mp this
      subst hy0
      rw [Gf.pgcd_zero] at e
      subst e
      exact h p H L' S hsub hp
/-! ### _law_powered -/
def sp_law_powered (K : PySem.W.Frag) : Sp := fun vs H Q _ => ∃ (L : List Rd.Ent) (p q : Addr) (a n m : Nat), vs = [.ref p, .int n, .ref q] ∧ Rd.Has H L ∧ Rd.Is p (.lst (rowV (row a))) ∈ L ∧ Rd.Is q (.lst (rowV (row m))) ∈ L ∧ 2 ≤ m ∧ blen a ≤ 1000 ∧ blen m ≤ 1000 ∧ n ≤ 1000 ∧
  ∀ z H', Rd.Has H' (Rd.Is z (.lst (rowV (row (pmod (ppow a n) m)))) :: L) → Q (.ref z) H'
theorem sc_law_powered : FnScope ["one", "many", "modulus", "found", "turn"] ["one", "many", "modulus"] (defScope s_law_powered) := ⟨rfl, rfl, rfl, by decide +kernel, rfl, by decide +kernel, by decide +kernel⟩
theorem ok_law_powered (T : Txt K mg) : FnOk P w K mg base CX0 4 T.f_law_powered T.d_law_powered ["one", "many", "modulus"] (sp_law_powered K) := by
  refine T.F_law_powered.ok sc_law_powered (fun vs H Q E h => ?_) (fun cdv A outer s H vs Q E hr h => ?_)
  · obtain ⟨L, p, q, a, n, m, rfl, S, hp, hq, hm, ha, hmb, hn, h⟩ := h
    rfl
  · obtain ⟨L, p, q, a, n, m, rfl, S, hp, hq, hm, ha, hmb, hn, h⟩ := h
    refine ⟨_, (pss_cons (ps_set (i := 3) sc_law_powered.nd rfl (by first | exact Or.inl rfl | exact Or.inr rfl) (pe_ix ix_tup (pe_call (ok_law_divided T) (hr.mono (by decide)) rfl T.m_law_divided T.F_law_divided.kp T.b_law_divided .nil pass0 (pa_cons (pe_lst (pa_cons pe_int pa_nil)) (pa_cons (pv 2) pa_nil))) pe_int (fun _ _ => rfl)))
        (pss_cons (ps_for PassesOwn.never rfl (pi_range1 (by rfl) T.z_range (pa_cons (pv 1) pa_nil)) (pg_name (i := 4) sc_law_powered.nd rfl (by first | exact Or.inl rfl | exact Or.inr rfl)) (pss_one (ps_set (i := 3) sc_law_powered.nd rfl (by first | exact Or.inl rfl | exact Or.inr rfl) (pe_ix ix_tup (pe_call (ok_law_divided T) (hr.mono (by decide)) rfl T.m_law_divided T.F_law_divided.kp T.b_law_divided .nil pass0 (pa_cons (pe_call (ok_law_times T) (hr.mono (by decide)) rfl T.m_law_times T.F_law_times.kp T.b_law_times .nil pass0 (pa_cons (pv 3) (pa_cons (pv 0) pa_nil))) (pa_cons (pv 2) pa_nil))) pe_int (fun _ _ => rfl)))))
        (pss_one (ps_ret (pv 3))))), ?_⟩
    try dsimp only [L2.cxOf]
    have hm0 : m ≠ 0 := by omega
    have e1 : ∀ z, Rd.Is z (HO.lst [V.int 1]) = Rd.Is z (.lst (rowV (row 1))) := fun z => by
      have : row 1 = [1] := by rw [Gf.row_pos (by decide)]; rw [Gf.row_zero]
      rw [this]
      rfl
    walk_at "rd"
    refine Rd.r_newL S (by decide) fun z1 H S => ?_
    rw [e1] at S
    walk_at "rd"
    refine ⟨_, z1, q, 1, m, rfl, S, Rd.m0, List.mem_cons_of_mem _ hq, hm0, by decide, by omega, fun t y z H S => ?_⟩
    walk_at "rd"
    refine Rd.r_ixT (S.st Rd.m0) (atL (j := 1) rfl rfl) ?_
    replace S := S.tail.tail.drop2
    walk_at "rd"
    refine Rd.l_rng1 (by omega) (by omega) (fun i σ H' => ∃ (f : Addr) (u : Option V), Rd.Has H' (Rd.Is f (.lst (rowV (row (pmod (ppow a i) m)))) :: L) ∧ σ = [some (.ref p), some (.int n), some (.ref q), some (.ref f), u]) ⟨z, none, S, rfl⟩ ?_ ?_
    · rintro i σ H hi ⟨f, u, S, rfl⟩
      have hf := Gf.pmod_lt hm0 (ppow a i)
      walk_at "rd"
      refine ⟨_, f, p, _, _, rfl, S, Rd.m0, List.mem_cons_of_mem _ hp, Gf.row_bits _, Gf.row_bits _, by rw [Gf.row_len]; omega, by rw [Gf.row_len]; omega, fun z2 H S => ?_⟩
      rw [Gf.num_row, Gf.num_row] at S
      walk_at "rd"
      have hb : blen (mul (pmod (ppow a i) m) a) ≤ 10000 := by
        by_cases z1 : pmod (ppow a i) m = 0
        · rw [z1, Gf.mul_zero_left, Gf.blen_zero]
          omega
        · by_cases z2 : a = 0
          · rw [z2, Gf.mul_zero_right, Gf.blen_zero]
            omega
          · have := (Gf.blen_mul z1 z2).1
            omega
      refine ⟨_, z2, q, _, m, rfl, S, Rd.m0, List.mem_cons_of_mem _ (List.mem_cons_of_mem _ hq), hm0, hb, by omega, fun t y z H S => ?_⟩
      walk_at "rd"
      refine Rd.r_ixT (S.st Rd.m0) (atL (j := 1) rfl rfl) ?_
      replace S := S.tail.tail.drop2.drop2
      refine ⟨z, _, ?_, rfl⟩
      rw [Gf.pmod_mul_left hm0] at S
      exact S
    · rintro σ H ⟨f, u, S, rfl⟩
      walk_at "rd"
      rw [Int.toNat_natCast] at S
      exact h f H S
/-! ### _law_powers_right -/
def sp_law_powers_right (K : PySem.W.Frag) : Sp := fun vs H Q _ => ∃ (L : List Rd.Ent) (p : Addr), vs = [.ref p] ∧ Rd.Has H L ∧ (p, Dice) ∈ L ∧ ∀ H', Rd.Has H' L → Q (.bl true) H'
theorem sc_law_powers_right : FnScope ["dice", "modulus", "base", "near", "row", "bound", "one", "other", "both", "turned"] ["dice"] (defScope s_law_powers_right) := ⟨rfl, rfl, rfl, by decide +kernel, rfl, by decide +kernel, by decide +kernel⟩
theorem rowE_one : ∀ z, Rd.Is z (HO.lst [V.int 1]) = Rd.Is z (.lst (rowV (row 1))) := fun z => by
  have : row 1 = [1] := by rw [Gf.row_pos (by decide)]; rw [Gf.row_zero]
  rw [this]
  rfl
theorem row_one : row 1 = [1] := by rw [Gf.row_pos (by decide)]; rw [Gf.row_zero]
theorem blen_of_lt {a n : Nat} (h : (a : Int) < 2 ^ n) : blen a ≤ n := by
  rw [Gf.blen_le]
  have e : ((2 ^ n : Nat) : Int) = (2 : Int) ^ n := by simp
  omega
theorem row_ne {a b : Nat} : ((row a).map nI = (row b).map nI) ↔ a = b := by
  rw [nI_inj]
  exact ⟨Gf.row_inj, fun h => by rw [h]⟩
theorem pow_pos2 (w : Nat) : (0 : Int) < 2 ^ w := Int.pow_pos (by decide)
theorem pow_le_60 {n : Nat} (h : n ≤ 60) : (2 : Int) ^ n ≤ 1152921504606846976 := by
  have h1 : (2 : Nat) ^ n ≤ 2 ^ 60 := Nat.pow_le_pow_right (by decide) h
  have e : ((2 ^ n : Nat) : Int) = (2 : Int) ^ n := by simp
  omega
theorem ok_law_powers_right (T : Txt K mg) : FnOk P w K mg base CX0 6 T.f_law_powers_right T.d_law_powers_right ["dice"] (sp_law_powers_right K) := by
  refine T.F_law_powers_right.ok sc_law_powers_right (fun vs H Q E h => ?_) (fun cdv A outer s H vs Q E hr h => ?_)
  · obtain ⟨L, p, rfl, S, hmd, h⟩ := h
    rfl
  · obtain ⟨L, p, rfl, S, hmd, h⟩ := h
    refine ⟨_, (pss_cons (ps_set (i := 1) sc_law_powers_right.nd rfl (by first | exact Or.inl rfl | exact Or.inr rfl) (pe_op op_add pe_int (pe_call (ok_law_roll T) (hr.mono (by decide)) rfl T.m_law_roll T.F_law_roll.kp T.b_law_roll .nil pass0 (pa_cons (pv 0) (pa_cons (pe_op op_sub (pe_call (ok_law_power T) (hr.mono (by decide)) rfl T.m_law_power T.F_law_power.kp T.b_law_power .nil pass0 (pa_cons pe_int (pa_cons (pe_op op_add pe_int (pe_call (ok_law_roll T) (hr.mono (by decide)) rfl T.m_law_roll T.F_law_roll.kp T.b_law_roll .nil pass0 (pa_cons (pv 0) (pa_cons pe_int pa_nil)))) pa_nil))) pe_int) pa_nil)))))
        (pss_cons (ps_par (i := 2) (j := 3) (by rfl) sc_law_powers_right.nd rfl rfl (by decide) rfl rfl (pa_cons (pe_call (ok_law_roll T) (hr.mono (by decide)) rfl T.m_law_roll T.F_law_roll.kp T.b_law_roll .nil pass0 (pa_cons (pv 0) (pa_cons (pe_op op_mul pe_int (pv 1)) pa_nil))) (pa_cons (pe_call (ok_law_roll T) (hr.mono (by decide)) rfl T.m_law_roll T.F_law_roll.kp T.b_law_roll .nil pass0 (pa_cons (pv 0) (pa_cons pe_int pa_nil))) pa_nil)) (by rfl))
        (pss_cons (ps_par (i := 4) (j := 5) (by rfl) sc_law_powers_right.nd rfl rfl (by decide) rfl rfl (pa_cons (pe_call (ok_law_row T) (hr.mono (by decide)) rfl T.m_law_row T.F_law_row.kp T.b_law_row .nil pass0 (pa_cons (pv 2) pa_nil)) (pa_cons (pe_call (ok_law_row T) (hr.mono (by decide)) rfl T.m_law_row T.F_law_row.kp T.b_law_row .nil pass0 (pa_cons (pv 1) pa_nil)) pa_nil)) (by rfl))
        (pss_cons (ps_if (pt_cmpR op_ne (pe_call (ok_power T) (hr.mono (by decide)) rfl T.m_power T.F_power.kp T.b_power .nil pass0 (pa_cons (pv 2) (pa_cons (pv 3) (pa_cons (pv 1) pa_nil)))) (pe_call (ok_law_poly T) (hr.mono (by decide)) rfl T.m_law_poly T.F_law_poly.kp T.b_law_poly .nil pass0 (pa_cons (pe_call (ok_law_powered T) (hr.mono (by decide)) rfl T.m_law_powered T.F_law_powered.kp T.b_law_powered .nil pass0 (pa_cons (pv 4) (pa_cons (pv 3) (pa_cons (pv 5) pa_nil)))) pa_nil)) (nomark _)) (pss_one (ps_ret pe_bl)) pss_nil)
        (pss_cons (ps_par (i := 6) (j := 7) (by rfl) sc_law_powers_right.nd rfl rfl (by decide) rfl rfl (pa_cons (pe_call (ok_law_roll T) (hr.mono (by decide)) rfl T.m_law_roll T.F_law_roll.kp T.b_law_roll .nil pass0 (pa_cons (pv 0) (pa_cons (pe_op Rd.op_powW pe_int pe_int) pa_nil))) (pa_cons (pe_call (ok_law_roll T) (hr.mono (by decide)) rfl T.m_law_roll T.F_law_roll.kp T.b_law_roll .nil pass0 (pa_cons (pv 0) (pa_cons (pe_op Rd.op_powW pe_int pe_int) pa_nil))) pa_nil)) (by rfl))
        (pss_cons (ps_set (i := 8) sc_law_powers_right.nd rfl (by first | exact Or.inl rfl | exact Or.inr rfl) (pe_call (ok_law_times T) (hr.mono (by decide)) rfl T.m_law_times T.F_law_times.kp T.b_law_times .nil pass0 (pa_cons (pe_call (ok_law_row T) (hr.mono (by decide)) rfl T.m_law_row T.F_law_row.kp T.b_law_row .nil pass0 (pa_cons (pe_call (ok_power T) (hr.mono (by decide)) rfl T.m_power T.F_power.kp T.b_power .nil pass0 (pa_cons (pv 2) (pa_cons (pv 6) (pa_cons (pv 1) pa_nil)))) pa_nil)) (pa_cons (pe_call (ok_law_row T) (hr.mono (by decide)) rfl T.m_law_row T.F_law_row.kp T.b_law_row .nil pass0 (pa_cons (pe_call (ok_power T) (hr.mono (by decide)) rfl T.m_power T.F_power.kp T.b_power .nil pass0 (pa_cons (pv 2) (pa_cons (pv 7) (pa_cons (pv 1) pa_nil)))) pa_nil)) pa_nil))))
        (pss_cons (ps_if (pt_cmpR (op_neD hr.units) (pe_call (ok_law_row T) (hr.mono (by decide)) rfl T.m_law_row T.F_law_row.kp T.b_law_row .nil pass0 (pa_cons (pe_call (ok_power T) (hr.mono (by decide)) rfl T.m_power T.F_power.kp T.b_power .nil pass0 (pa_cons (pv 2) (pa_cons (pe_op op_add (pv 6) (pv 7)) (pa_cons (pv 1) pa_nil)))) pa_nil)) (pe_ix ix_tup (pe_call (ok_law_divided T) (hr.mono (by decide)) rfl T.m_law_divided T.F_law_divided.kp T.b_law_divided .nil pass0 (pa_cons (pv 8) (pa_cons (pv 5) pa_nil))) pe_int (fun _ _ => rfl)) (nomark _)) (pss_one (ps_ret pe_bl)) pss_nil)
        (pss_cons (ps_if (pt_cmpR (op_neD hr.units) (pe_call (ok_law_common T) (hr.mono (by decide)) rfl T.m_law_common T.F_law_common.kp T.b_law_common .nil pass0 (pa_cons (pe_ix ix_tup (pe_call (ok_law_divided T) (hr.mono (by decide)) rfl T.m_law_divided T.F_law_divided.kp T.b_law_divided .nil pass0 (pa_cons (pv 4) (pa_cons (pv 5) pa_nil))) pe_int (fun _ _ => rfl)) (pa_cons (pv 5) pa_nil))) (pe_lst (pa_cons pe_int pa_nil)) (nomark _)) (pss_one (ps_ret pe_bl)) pss_nil)
        (pss_cons (ps_set (i := 9) sc_law_powers_right.nd rfl (by first | exact Or.inl rfl | exact Or.inr rfl) (pe_call (ok_inverse T) (hr.mono (by decide)) rfl T.m_inverse T.F_inverse.kp T.b_inverse .nil pass0 (pa_cons (pv 2) (pa_cons (pv 1) pa_nil))))
        (pss_cons (ps_if (pt_cmpR op_ge (pv 9) (pe_call (ok_law_power T) (hr.mono (by decide)) rfl T.m_law_power T.F_law_power.kp T.b_law_power .nil pass0 (pa_cons pe_int (pa_cons (pe_op op_sub (pe_callB Rd.call_lenQ (by rfl) T.z_len (by decide +kernel) (pa_cons (pv 5) pa_nil)) pe_int) pa_nil))) (nomark _)) (pss_one (ps_ret pe_bl)) pss_nil)
        (pss_cons (ps_if (pt_cmpR (op_neD hr.units) (pe_ix ix_tup (pe_call (ok_law_divided T) (hr.mono (by decide)) rfl T.m_law_divided T.F_law_divided.kp T.b_law_divided .nil pass0 (pa_cons (pe_call (ok_law_times T) (hr.mono (by decide)) rfl T.m_law_times T.F_law_times.kp T.b_law_times .nil pass0 (pa_cons (pe_call (ok_law_row T) (hr.mono (by decide)) rfl T.m_law_row T.F_law_row.kp T.b_law_row .nil pass0 (pa_cons (pv 9) pa_nil)) (pa_cons (pv 4) pa_nil))) (pa_cons (pv 5) pa_nil))) pe_int (fun _ _ => rfl)) (pe_ix ix_tup (pe_call (ok_law_divided T) (hr.mono (by decide)) rfl T.m_law_divided T.F_law_divided.kp T.b_law_divided .nil pass0 (pa_cons (pe_lst (pa_cons pe_int pa_nil)) (pa_cons (pv 5) pa_nil))) pe_int (fun _ _ => rfl)) (nomark _)) (pss_one (ps_ret pe_bl)) pss_nil)
        (pss_cons (ps_set (i := 8) sc_law_powers_right.nd rfl (by first | exact Or.inl rfl | exact Or.inr rfl) (pe_call (ok_law_times T) (hr.mono (by decide)) rfl T.m_law_times T.F_law_times.kp T.b_law_times .nil pass0 (pa_cons (pe_call (ok_law_row T) (hr.mono (by decide)) rfl T.m_law_row T.F_law_row.kp T.b_law_row .nil pass0 (pa_cons (pe_call (ok_power T) (hr.mono (by decide)) rfl T.m_power T.F_power.kp T.b_power .nil pass0 (pa_cons (pv 2) (pa_cons (pe_op op_sub pe_int (pv 6)) (pa_cons (pv 1) pa_nil)))) pa_nil)) (pa_cons (pe_call (ok_law_row T) (hr.mono (by decide)) rfl T.m_law_row T.F_law_row.kp T.b_law_row .nil pass0 (pa_cons (pe_call (ok_power T) (hr.mono (by decide)) rfl T.m_power T.F_power.kp T.b_power .nil pass0 (pa_cons (pv 2) (pa_cons (pv 6) (pa_cons (pv 1) pa_nil)))) pa_nil)) pa_nil))))
        (pss_one (ps_ret (pe_and (pe_cmpR (op_eqD hr.units) (pe_ix ix_tup (pe_call (ok_law_divided T) (hr.mono (by decide)) rfl T.m_law_divided T.F_law_divided.kp T.b_law_divided .nil pass0 (pa_cons (pv 8) (pa_cons (pv 5) pa_nil))) pe_int (fun _ _ => rfl)) (pe_ix ix_tup (pe_call (ok_law_divided T) (hr.mono (by decide)) rfl T.m_law_divided T.F_law_divided.kp T.b_law_divided .nil pass0 (pa_cons (pe_lst (pa_cons pe_int pa_nil)) (pa_cons (pv 5) pa_nil))) pe_int (fun _ _ => rfl)) (nomark _)) (pe_one (pe_cmpR op_eq (pe_call (ok_power T) (hr.mono (by decide)) rfl T.m_power T.F_power.kp T.b_power .nil pass0 (pa_cons (pv 2) (pa_cons (pe_un un_neg pe_int) (pa_cons (pv 1) pa_nil)))) (pv 9) (nomark _)))))))))))))))))), ?_⟩
    try dsimp only [L2.cxOf]
    walk_at "rd"
    refine ⟨L, p, 11, rfl, S, hmd, sm_of (by decide) (by decide), fun r H hr0 hr1 S => ?_⟩
    obtain ⟨r, rfl⟩ := Int.eq_ofNat_of_zero_le hr0
    walk_at "rd"
    refine ⟨2, _, rfl, by decide, by decide, by omega, by omega, ?_⟩
    have et : ((2 : Int) + (r : Int)).toNat = r + 2 := by omega
    rw [et]
    have hpw : (4 : Int) ≤ 2 ^ (r + 2) ∧ (2 : Int) ^ (r + 2) ≤ 4096 := by
      have h1 : (2 : Nat) ^ 2 ≤ 2 ^ (r + 2) := Nat.pow_le_pow_right (by decide) (by omega)
      have h2 : (2 : Nat) ^ (r + 2) ≤ 2 ^ 12 := Nat.pow_le_pow_right (by decide) (by omega)
      have e : ((2 ^ (r + 2) : Nat) : Int) = (2 : Int) ^ (r + 2) := by simp
      omega
    generalize (2 : Int) ^ (r + 2) = P2 at hpw ⊢
    obtain ⟨hp4, hp5⟩ := hpw
    walk_at "rd"
    refine ⟨L, p, _, rfl, S, hmd, sm_of (by omega) (by omega), fun m H hm0 hm1 S => ?_⟩
    walk_at "rd"
    obtain ⟨m, hmm⟩ : ∃ k : Nat, (2 : Int) + m = k := ⟨2 + m.toNat, by omega⟩
    rw [hmm]
    have hm2 : 2 ≤ m := by omega
    have hmz : m ≠ 0 := by omega
    have hmb : blen m ≤ 13 := by
      rw [Gf.blen_le]
      omega
    walk_at "rd"
    refine ⟨L, p, _, rfl, S, hmd, sm_of (by omega) (by omega), fun a H ha0 ha1 S => ?_⟩
    obtain ⟨a, rfl⟩ := Int.eq_ofNat_of_zero_le ha0
    have hab : blen a ≤ 20 := by
      rw [Gf.blen_le]
      omega
    walk_at "rd"
    refine ⟨L, p, 12, rfl, S, hmd, sm_of (by decide) (by decide), fun n H hn0 hn1 S => ?_⟩
    obtain ⟨n, rfl⟩ := Int.eq_ofNat_of_zero_le hn0
    walk_at "rd"
    refine ⟨L, a, rfl, S, by omega, fun ra H S => ?_⟩
    walk_at "rd"
    refine ⟨_, m, rfl, S, by omega, fun rm H S => ?_⟩
    walk_at "rd"
    refine ⟨_, a, n, m, rfl, S, hm2, by omega, by omega, by omega, by omega, fun _ H S => ?_, fun z => absurd z (by omega)⟩
    rw [Int.toNat_natCast]
    walk_at "rd"
    refine ⟨_, ra, rm, a, n, m, rfl, S, Rd.m1, Rd.m0, hm2, by omega, by omega, by omega, fun z H S => ?_⟩
    walk_at "rd"
    refine ⟨_, z, _, rfl, S, Rd.m0, fun H S => ?_⟩
    rw [Gf.num_row]
    walk_at "rd"
    refine Rd.r_ndecF rfl ?_
    replace S := S.tail
    have rlt : ∀ x, blen (pmod x m) ≤ 13 := fun x => by
      have := Gf.pmod_lt hmz x
      omega
    walk_at "rd"
    refine ⟨_, p, _, rfl, S, List.mem_cons_of_mem _ (List.mem_cons_of_mem _ hmd), ⟨by decide +kernel, by decide +kernel⟩, fun x H hx0 hx1 S => ?_⟩
    have t60 : (10 : Int) ^ Int.toNat 60 = 1000000000000000000000000000000000000000000000000000000000000 := by decide +kernel
    have t30 : (10 : Int) ^ Int.toNat 30 = 1000000000000000000000000000000 := by decide +kernel
    rw [t60] at hx1
    obtain ⟨x, rfl⟩ := Int.eq_ofNat_of_zero_le hx0
    walk_at "rd"
    refine ⟨_, p, _, rfl, S, List.mem_cons_of_mem _ (List.mem_cons_of_mem _ hmd), ⟨by decide +kernel, by decide +kernel⟩, fun y H hy0 hy1 S => ?_⟩
    rw [t30] at hy1
    obtain ⟨y, rfl⟩ := Int.eq_ofNat_of_zero_le hy0
    walk_at "rd"
    refine ⟨_, a, x, m, rfl, S, hm2, by omega, by omega, by omega, by omega, fun _ H S => ?_, fun z => absurd z (by omega)⟩
    rw [Int.toNat_natCast]
    walk_at "rd"
    refine ⟨_, _, rfl, S, by have := rlt (ppow a x); omega, fun z1 H S => ?_⟩
    walk_at "rd"
    refine ⟨_, a, y, m, rfl, S, hm2, by omega, by omega, by omega, by omega, fun _ H S => ?_, fun z => absurd z (by omega)⟩
    rw [Int.toNat_natCast]
    walk_at "rd"
    refine ⟨_, _, rfl, S, by have := rlt (ppow a y); omega, fun z2 H S => ?_⟩
    walk_at "rd"
    refine ⟨_, z1, z2, _, _, rfl, S, Rd.m1, Rd.m0, Gf.row_bits _, Gf.row_bits _, by rw [Gf.row_len]; have := rlt (ppow a x); omega, by rw [Gf.row_len]; have := rlt (ppow a y); omega, fun bo H S => ?_⟩
    rw [Gf.num_row, Gf.num_row] at S
    replace S := S.drop2.drop2
    walk_at "rd"
    have exy : (x : Int) + (y : Int) = ((x + y : Nat) : Int) := by omega
    rw [exy]
    refine ⟨_, a, (x + y : Nat), m, rfl, S, hm2, by omega, by omega, by omega, by omega, fun _ H S => ?_, fun z => absurd z (by omega)⟩
    rw [Int.toNat_natCast]
    walk_at "rd"
    refine ⟨_, _, rfl, S, by have := rlt (ppow a (x + y)); omega, fun z3 H S => ?_⟩
    walk_at "rd"
    have blenm : ∀ u v : Nat, blen u ≤ 20 → blen v ≤ 20 → blen (mul u v) ≤ 40 := fun u v hu hv => by
      by_cases z1 : u = 0
      · rw [z1, Gf.mul_zero_left, Gf.blen_zero]
        omega
      · by_cases z2 : v = 0
        · rw [z2, Gf.mul_zero_right, Gf.blen_zero]
          omega
        · have := (Gf.blen_mul z1 z2).1
          omega
    refine ⟨_, bo, rm, _, m, rfl, S, Rd.m1, Rd.m2, hmz, ?_, by omega, fun t y1 z4 H S => ?_⟩
    · have h1 := rlt (ppow a x)
      have h2 := rlt (ppow a y)
      have := blenm _ _ (show blen (pmod (ppow a x) m) ≤ 20 by omega) (show blen (pmod (ppow a y) m) ≤ 20 by omega)
      omega
    walk_at "rd"
    refine Rd.r_ixT (S.st Rd.m0) (atL (j := 1) rfl rfl) ?_
    walk_at "rd"
    refine Rd.r_neLI (S.sl Rd.m3) (S.sl Rd.m2) ?_
    walk_at "rd"
    refine Rd.r_ndecF ?_ ?_
    · rw [row_ne, Gf.pmod_mul hmz, Gf.ppow_add]
    replace S := S.tail.tail.tail.tail.tail
    walk_at "rd"
    refine ⟨_, ra, rm, a, m, rfl, S, Rd.m1, Rd.m0, hmz, by omega, by omega, fun t y1 z4 H S => ?_⟩
    walk_at "rd"
    refine Rd.r_ixT (S.st Rd.m0) (atL (j := 1) rfl rfl) ?_
    replace S := S.tail.tail
    walk_at "rd"
    have nd2 := S.nd
    refine ⟨_, z4, rm, _, m, rfl, S, Rd.m0, Rd.m1, by have := rlt a; omega, by omega, fun g H L' S hsub hg => ?_⟩
    walk_at "rd"
    refine Rd.r_newL S (by decide) fun z5 H S => ?_
    rw [rowE_one] at S
    refine Rd.r_neLI (S.sl (List.mem_cons_of_mem _ hg)) (S.sl Rd.m0) ?_
    replace S := (S.tail.sub nd2 hsub).tail
    walk_at "rd"
    have eg : pgcd (pmod a m) m = pgcd m (pmod a m) := by rw [Gf.pgcd_step hmz, Gf.pmod_pmod hmz]
    refine Rd.r_ndec (fun g1 => ?_) (fun g1 => ?_)
    · walk_at "rd"
      exact h _ S.tail.tail
    · rw [row_ne, eg] at g1
      walk_at "rd"
      refine ⟨_, a, m, rfl, S, hm2, by omega, by omega, g1, fun v H hv hv1 S => ?_⟩
      walk_at "rd"
      refine Rd.r_lenL (S.sl Rd.m0) ?_
      rw [rowV_len, Gf.row_len]
      walk_at "rd"
      have hmp := Gf.blen_pos hmz
      refine ⟨2, _, rfl, by decide, by decide, by omega, by omega, ?_⟩
      have em1 : ((blen m : Int) - 1).toNat = blen m - 1 := by omega
      rw [em1]
      walk_at "rd"
      refine Rd.r_decF ?_ ?_
      · have h1 : v < 2 ^ (blen m - 1) := Gf.blen_le.mp (by omega)
        have e : ((2 ^ (blen m - 1) : Nat) : Int) = (2 : Int) ^ (blen m - 1) := by simp
        omega
      walk_at "rd"
      refine ⟨_, v, rfl, S, by omega, fun rv H S => ?_⟩
      walk_at "rd"
      refine ⟨_, rv, ra, _, _, rfl, S, Rd.m0, Rd.m2, Gf.row_bits _, Gf.row_bits _, by rw [Gf.row_len]; omega, by rw [Gf.row_len]; omega, fun z6 H S => ?_⟩
      rw [Gf.num_row, Gf.num_row] at S
      walk_at "rd"
      refine ⟨_, z6, rm, _, m, rfl, S, Rd.m0, Rd.m2, hmz, ?_, by omega, fun t y1 z7 H S => ?_⟩
      · have := blenm v a (by omega) hab
        omega
      walk_at "rd"
      refine Rd.r_ixT (S.st Rd.m0) (atL (j := 1) rfl rfl) ?_
      replace S := S.tail.tail.drop2.drop2
      walk_at "rd"
      refine Rd.r_newL S (by decide) fun z8 H S => ?_
      rw [rowE_one] at S
      walk_at "rd"
      refine ⟨_, z8, rm, 1, m, rfl, S, Rd.m0, Rd.m2, hmz, by decide, by omega, fun t y1 z9 H S => ?_⟩
      walk_at "rd"
      refine Rd.r_ixT (S.st Rd.m0) (atL (j := 1) rfl rfl) ?_
      replace S := S.tail.tail.drop2
      refine Rd.r_neLI (S.sl Rd.m1) (S.sl Rd.m0) ?_
      walk_at "rd"
      refine Rd.r_ndecF (by rw [row_ne, hv1, Gf.pmod_one hm2]) ?_
      replace S := S.tail.tail
      walk_at "rd"
      have vinv : ∀ w, blen w < blen m → pmod (mul w a) m = 1 → w = v := fun w h1 h2 => Gf.inv_unique hmz h1 hv (by rw [h2, Gf.pmod_one hm2]) (by rw [hv1, Gf.pmod_one hm2])
      have cgv : Gf.Cg m (mul v a) 1 := Gf.cg_of hmz (by rw [hv1, Gf.pmod_one hm2])
      have pw : ∀ u : Nat, u = pmod (ppow v x) m → Gf.Cg m (mul u (ppow a x)) 1 := fun u e => by
        rw [e]
        refine ((Gf.Cg.pmod hmz _).mul (Gf.Cg.refl _)).trans ?_
        rw [← Gf.ppow_mul_base]
        have := cgv.ppow x
        rwa [Gf.one_ppow] at this
      refine ⟨_, a, (0 : Int) - (x : Int), m, rfl, S, hm2, by omega, by omega, by omega, by omega, fun z0 H S => ?_, fun z0 => ⟨g1, fun w H w1 w2 S => ?_⟩⟩
      obtain ⟨u, hu, bu, cu⟩ : ∃ u, pmod (ppow a ((0 : Int) - (x : Int)).toNat) m = u ∧ blen u ≤ 13 ∧ Gf.Cg m (mul u (ppow a x)) 1 := by
        refine ⟨_, rfl, rlt _, ?_⟩
        have hx0' : x = 0 := by omega
        subst hx0'
        have e0 : ((0 : Int) - ((0 : Nat) : Int)).toNat = 0 := by decide
        rw [e0, ppow, Gf.pmod_one hm2, Gf.mul_one_left]
        exact Gf.Cg.refl _
      rw [hu]
      rotate_left
      obtain ⟨u, hu, bu, cu⟩ : ∃ u, pmod (ppow w (-((0 : Int) - (x : Int))).toNat) m = u ∧ blen u ≤ 13 ∧ Gf.Cg m (mul u (ppow a x)) 1 := by
        refine ⟨_, rfl, rlt _, ?_⟩
        have e0 : (-((0 : Int) - (x : Int))).toNat = x := by omega
        rw [e0, vinv w w1 w2]
        exact pw _ rfl
      rw [hu]
      all_goals
        clear z0
        walk_at "rd"
        refine ⟨_, u, rfl, S, by omega, fun z1 H S => ?_⟩
        walk_at "rd"
        refine ⟨_, a, x, m, rfl, S, hm2, by omega, by omega, by omega, by omega, fun _ H S => ?_, fun z => absurd z (by omega)⟩
        rw [Int.toNat_natCast]
        walk_at "rd"
        refine ⟨_, _, rfl, S, by have := rlt (ppow a x); omega, fun z2 H S => ?_⟩
        walk_at "rd"
        refine ⟨_, z1, z2, _, _, rfl, S, Rd.m1, Rd.m0, Gf.row_bits _, Gf.row_bits _, by rw [Gf.row_len]; omega, by rw [Gf.row_len]; have := rlt (ppow a x); omega, fun bo H S => ?_⟩
        rw [Gf.num_row, Gf.num_row] at S
        replace S := S.drop2.drop2
        walk_at "rd"
        refine ⟨_, bo, rm, _, m, rfl, S, Rd.m0, Rd.m1, hmz, ?_, by omega, fun t y1 z7 H S => ?_⟩
        · have h2 := rlt (ppow a x)
          have := blenm u _ (by omega) (show blen (pmod (ppow a x) m) ≤ 20 by omega)
          omega
        walk_at "rd"
        refine Rd.r_ixT (S.st Rd.m0) (atL (j := 1) rfl rfl) ?_
        replace S := S.tail.tail.drop2
        walk_at "rd"
        refine Rd.r_newL S (by decide) fun z8 H S => ?_
        rw [rowE_one] at S
        walk_at "rd"
        refine ⟨_, z8, rm, 1, m, rfl, S, Rd.m0, Rd.m2, hmz, by decide, by omega, fun t y1 z9 H S => ?_⟩
        walk_at "rd"
        refine Rd.r_ixT (S.st Rd.m0) (atL (j := 1) rfl rfl) ?_
        replace S := S.tail.tail.drop2
        refine Rd.r_eqLI (S.sl Rd.m1) (S.sl Rd.m0) ?_
        walk_at "rd"
        refine Rd.r_decT ?_ ?_
        · rw [row_ne, Gf.pmod_mul_right hmz]
          exact Gf.pmod_eq hmz cu
        replace S := S.tail.tail
        walk_at "rd"
        refine ⟨_, a, -1, m, rfl, S, hm2, by omega, by omega, by omega, by omega, fun z0 => absurd z0 (by decide), fun z0 => ⟨g1, fun w H w1 w2 S => ?_⟩⟩
        have e1 : (-(-1 : Int)).toNat = 1 := by decide
        rw [e1, vinv w w1 w2, ppow, ppow, Gf.mul_one_left, Gf.pmod_stop hv]
        walk_at "rd"
        rw [decide_eq_true rfl]
        exact h _ S.tail.tail
/-! ### _law_right -/
def sp_law_right (K : PySem.W.Frag) : Sp := fun vs H Q _ => ∃ (L : List Rd.Ent) (p : Addr), vs = [.ref p] ∧ Rd.Has H L ∧ (p, Dice) ∈ L ∧ ∀ H', Rd.Has H' L → Q (.bl true) H'
theorem sc_law_right : FnScope ["dice", "size", "one", "other", "left", "right", "quotient", "rest"] ["dice"] (defScope s_law_right) := ⟨rfl, rfl, rfl, by decide +kernel, rfl, by decide +kernel, by decide +kernel⟩
theorem ok_law_right (T : Txt K mg) : FnOk P w K mg base CX0 7 T.f_law_right T.d_law_right ["dice"] (sp_law_right K) := by
  refine T.F_law_right.ok sc_law_right (fun vs H Q E h => ?_) (fun cdv A outer s H vs Q E hr h => ?_)
  · obtain ⟨L, p, rfl, S, hmd, h⟩ := h
    rfl
  · obtain ⟨L, p, rfl, S, hmd, h⟩ := h
    refine ⟨_, (pss_cons (ps_set (i := 1) sc_law_right.nd rfl (by first | exact Or.inl rfl | exact Or.inr rfl) (pe_call (ok_law_pick T) (hr.mono (by decide)) rfl T.m_law_pick T.F_law_pick.kp T.b_law_pick .nil pass0 (pa_cons (pv 0) (pa_cons (pe_lst (pa_cons pe_int (pa_cons pe_int (pa_cons pe_int (pa_cons pe_int pa_nil))))) pa_nil))))
        (pss_cons (ps_par (i := 2) (j := 3) (by rfl) sc_law_right.nd rfl rfl (by decide) rfl rfl (pa_cons (pe_call (ok_law_roll T) (hr.mono (by decide)) rfl T.m_law_roll T.F_law_roll.kp T.b_law_roll .nil pass0 (pa_cons (pv 0) (pa_cons (pe_call (ok_law_power T) (hr.mono (by decide)) rfl T.m_law_power T.F_law_power.kp T.b_law_power .nil pass0 (pa_cons pe_int (pa_cons (pv 1) pa_nil))) pa_nil))) (pa_cons (pe_call (ok_law_roll T) (hr.mono (by decide)) rfl T.m_law_roll T.F_law_roll.kp T.b_law_roll .nil pass0 (pa_cons (pv 0) (pa_cons (pe_call (ok_law_power T) (hr.mono (by decide)) rfl T.m_law_power T.F_law_power.kp T.b_law_power .nil pass0 (pa_cons pe_int (pa_cons (pe_op op_add pe_int (pe_call (ok_law_roll T) (hr.mono (by decide)) rfl T.m_law_roll T.F_law_roll.kp T.b_law_roll .nil pass0 (pa_cons (pv 0) (pa_cons (pv 1) pa_nil)))) pa_nil))) pa_nil))) pa_nil)) (by rfl))
        (pss_cons (ps_par (i := 4) (j := 5) (by rfl) sc_law_right.nd rfl rfl (by decide) rfl rfl (pa_cons (pe_call (ok_law_row T) (hr.mono (by decide)) rfl T.m_law_row T.F_law_row.kp T.b_law_row .nil pass0 (pa_cons (pv 2) pa_nil)) (pa_cons (pe_call (ok_law_row T) (hr.mono (by decide)) rfl T.m_law_row T.F_law_row.kp T.b_law_row .nil pass0 (pa_cons (pv 3) pa_nil)) pa_nil)) (by rfl))
        (pss_cons (ps_if (PW.pt (pw_or (pt_cmpR (op_neD hr.units) (pe_call (ok_degree T) (hr.mono (by decide)) rfl T.m_degree T.F_degree.kp T.b_degree .nil pass0 (pa_cons (pv 2) pa_nil)) (pe_ifExp (pt_cmpR (op_neD hr.units) (pv 4) (pe_lst pa_nil) (nomark _)) (pe_op op_sub (pe_callB Rd.call_lenQ (by rfl) T.z_len (by decide +kernel) (pa_cons (pv 4) pa_nil)) pe_int) pe_non) (nomark _)) (pw_or1 (pt_cmpR op_ne (pe_call (ok_plus T) (hr.mono (by decide)) rfl T.m_plus T.F_plus.kp T.b_plus .nil pass0 (pa_cons (pv 2) (pa_cons (pv 3) pa_nil))) (pe_call (ok_law_poly T) (hr.mono (by decide)) rfl T.m_law_poly T.F_law_poly.kp T.b_law_poly .nil pass0 (pa_cons (pe_call (ok_law_plus T) (hr.mono (by decide)) rfl T.m_law_plus T.F_law_plus.kp T.b_law_plus .nil pass0 (pa_cons (pv 4) (pa_cons (pv 5) pa_nil))) pa_nil)) (nomark _))))) (pss_one (ps_ret pe_bl)) pss_nil)
        (pss_cons (ps_if (pt_cmpR op_ne (pe_call (ok_times T) (hr.mono (by decide)) rfl T.m_times T.F_times.kp T.b_times .nil pass0 (pa_cons (pv 2) (pa_cons (pv 3) pa_nil))) (pe_call (ok_law_poly T) (hr.mono (by decide)) rfl T.m_law_poly T.F_law_poly.kp T.b_law_poly .nil pass0 (pa_cons (pe_call (ok_law_times T) (hr.mono (by decide)) rfl T.m_law_times T.F_law_times.kp T.b_law_times .nil pass0 (pa_cons (pv 4) (pa_cons (pv 5) pa_nil))) pa_nil)) (nomark _)) (pss_one (ps_ret pe_bl)) pss_nil)
        (pss_cons (ps_if (pt_cmpR op_ne (pe_call (ok_common T) (hr.mono (by decide)) rfl T.m_common T.F_common.kp T.b_common .nil pass0 (pa_cons (pv 2) (pa_cons (pv 3) pa_nil))) (pe_call (ok_law_poly T) (hr.mono (by decide)) rfl T.m_law_poly T.F_law_poly.kp T.b_law_poly .nil pass0 (pa_cons (pe_call (ok_law_common T) (hr.mono (by decide)) rfl T.m_law_common T.F_law_common.kp T.b_law_common .nil pass0 (pa_cons (pv 4) (pa_cons (pv 5) pa_nil))) pa_nil)) (nomark _)) (pss_one (ps_ret pe_bl)) pss_nil)
        (pss_cons (ps_if (pt_cmpR op_gt (pv 3) pe_int (nomark _)) (pss_cons (ps_asg (pe_call (ok_law_divided T) (hr.mono (by decide)) rfl T.m_law_divided T.F_law_divided.kp T.b_law_divided .nil pass0 (pa_cons (pv 4) (pa_cons (pv 5) pa_nil))) (pg_tup rfl (pgs_cons (pg_name (i := 6) sc_law_right.nd rfl (by first | exact Or.inl rfl | exact Or.inr rfl)) (pgs_cons (pg_name (i := 7) sc_law_right.nd rfl (by first | exact Or.inl rfl | exact Or.inr rfl)) pgs_nil))))
        (pss_one (ps_if (pt_cmpR (op_neD hr.units) (pe_call (ok_divided T) (hr.mono (by decide)) rfl T.m_divided T.F_divided.kp T.b_divided .nil pass0 (pa_cons (pv 2) (pa_cons (pv 3) pa_nil))) (pe_tup (pa_cons (pe_call (ok_law_poly T) (hr.mono (by decide)) rfl T.m_law_poly T.F_law_poly.kp T.b_law_poly .nil pass0 (pa_cons (pv 6) pa_nil)) (pa_cons (pe_call (ok_law_poly T) (hr.mono (by decide)) rfl T.m_law_poly T.F_law_poly.kp T.b_law_poly .nil pass0 (pa_cons (pv 7) pa_nil)) pa_nil))) (nomark _)) (pss_one (ps_ret pe_bl)) pss_nil))) pss_nil)
        (pss_one (ps_ret (pe_call (ok_law_powers_right T) (hr.mono (by decide)) rfl T.m_law_powers_right T.F_law_powers_right.kp T.b_law_powers_right .nil pass0 (pa_cons (pv 0) pa_nil))))))))))), ?_⟩
    try dsimp only [L2.cxOf]
    walk_at "rd"
    refine Rd.r_newL S (by decide) fun z0 H S => ?_
    walk_at "rd"
    refine ⟨_, p, z0, _, rfl, S, List.mem_cons_of_mem _ hmd, Rd.m0, by simp, by simp, fun x H hx S => ?_⟩
    have hx2 : ∃ m : Nat, x = .int m ∧ 0 < m ∧ m ≤ 60 := by
      simp only [List.mem_cons, List.not_mem_nil, or_false] at hx
      rcases hx with rfl | rfl | rfl | rfl
      · exact ⟨2, rfl, by decide, by decide⟩
      · exact ⟨5, rfl, by decide, by decide⟩
      · exact ⟨12, rfl, by decide, by decide⟩
      · exact ⟨60, rfl, by decide, by decide⟩
    clear hx
    obtain ⟨m, rfl, hm0, hm1⟩ := hx2
    replace S := S.tail
    have p60 := pow_le_60 hm1
    walk_at "rd"
    refine ⟨2, m, rfl, by decide, by decide, by omega, by omega, ?_⟩
    rw [Int.toNat_natCast]
    have pp := pow_pos2 m
    walk_at "rd"
    refine ⟨L, p, _, rfl, S, hmd, sm_of pp (by omega), fun a H ha0 ha1 S => ?_⟩
    obtain ⟨a, rfl⟩ := Int.eq_ofNat_of_zero_le ha0
    have hab : blen a ≤ 60 := by
      have := blen_of_lt ha1
      omega
    walk_at "rd"
    refine ⟨L, p, m, rfl, S, hmd, sm_of (by omega) (by omega), fun r H hr0 hr1 S => ?_⟩
    obtain ⟨r, rfl⟩ := Int.eq_ofNat_of_zero_le hr0
    walk_at "rd"
    refine ⟨2, _, rfl, by decide, by decide, by omega, by omega, ?_⟩
    have er : ((1 : Int) + (r : Int)).toNat = r + 1 := by omega
    rw [er]
    have p61 := pow_le_60 (show r + 1 ≤ 60 by omega)
    have pp2 := pow_pos2 (r + 1)
    walk_at "rd"
    refine ⟨L, p, _, rfl, S, hmd, sm_of pp2 (by omega), fun b H hb0 hb1 S => ?_⟩
    obtain ⟨b, rfl⟩ := Int.eq_ofNat_of_zero_le hb0
    have hbb : blen b ≤ 60 := by
      have := blen_of_lt hb1
      omega
    clear p60 p61 pp pp2
    walk_at "rd"
    refine ⟨L, a, rfl, S, by omega, fun ra H S => ?_⟩
    walk_at "rd"
    refine ⟨_, b, rfl, S, by omega, fun rb H S => ?_⟩
    walk_at "rd"
    refine ⟨a, rfl, by omega, ?_⟩
    walk_at "rd"
    refine Rd.r_newL S (by decide) fun z1 H S => ?_
    refine Rd.r_neLI (xs := (row a).map nI) (ys := []) (S.sl Rd.m2) (S.sl Rd.m0) ?_
    replace S := S.tail
    walk_at "rd"
    by_cases ha : a = 0
    have g1 : (row a).map nI = [] := by rw [ha, Gf.row_zero]; rfl
    rw [decide_eq_true g1, if_pos ha]
    walk_at "rd"
    refine Rd.r_neDN ?_
    walk_at "rd"
    rotate_left
    have g1 : ¬ (row a).map nI = [] := fun z => ha (Gf.row_nil.mp (by simpa using z))
    rw [decide_eq_false g1, if_neg ha]
    walk_at "rd"
    refine Rd.r_lenL (S.sl Rd.m1) ?_
    rw [rowV_len, Gf.row_len]
    walk_at "rd"
    refine Rd.r_neDI ?_
    walk_at "rd"
    refine Rd.r_ndecF rfl ?_
    all_goals
      clear g1
      walk_at "rd"
      refine ⟨a, b, rfl, by omega, by omega, ?_⟩
      walk_at "rd"
      refine ⟨_, ra, rb, _, _, rfl, S, Rd.m1, Rd.m0, Gf.row_bits _, Gf.row_bits _, by rw [Gf.row_len]; omega, by rw [Gf.row_len]; omega, fun z H S => ?_⟩
      rw [Gf.num_row, Gf.num_row] at S
      walk_at "rd"
      refine ⟨_, z, _, rfl, S, Rd.m0, fun H S => ?_⟩
      rw [Gf.num_row]
      replace S := S.tail
      walk_at "rd"
      refine Rd.r_ndecF rfl ?_
      walk_at "rd"
      refine ⟨a, b, rfl, by omega, ?_⟩
      walk_at "rd"
      refine ⟨_, ra, rb, _, _, rfl, S, Rd.m1, Rd.m0, Gf.row_bits _, Gf.row_bits _, by rw [Gf.row_len]; omega, by rw [Gf.row_len]; omega, fun z H S => ?_⟩
      rw [Gf.num_row, Gf.num_row] at S
      walk_at "rd"
      refine ⟨_, z, _, rfl, S, Rd.m0, fun H S => ?_⟩
      rw [Gf.num_row]
      replace S := S.tail
      walk_at "rd"
      refine Rd.r_ndecF rfl ?_
      walk_at "rd"
      refine ⟨a, b, rfl, by omega, by omega, ?_⟩
      walk_at "rd"
      have nd2 := S.nd
      refine ⟨_, ra, rb, a, b, rfl, S, Rd.m1, Rd.m0, by omega, by omega, fun g H L' S hsub hg => ?_⟩
      walk_at "rd"
      refine ⟨_, g, _, rfl, S, hg, fun H S => ?_⟩
      rw [Gf.num_row]
      replace S := S.sub nd2 hsub
      walk_at "rd"
      refine Rd.r_ndecF rfl ?_
      walk_at "rd"
      refine Rd.r_dec (fun g2 => ?_) (fun g2 => ?_)
      · have hb0 : b ≠ 0 := by omega
        walk_at "rd"
        refine ⟨_, ra, rb, a, b, rfl, S, Rd.m1, Rd.m0, hb0, by omega, by omega, fun t y z H S => ?_⟩
        walk_at "rd"
        refine Rd.r_gtup (S.st Rd.m0) rfl ?_
        walk_at "rd"
        refine ⟨_, a, b, rfl, S, hb0, by omega, by omega, fun dd H S => ?_⟩
        walk_at "rd"
        refine ⟨_, y, _, rfl, S, Rd.m2, fun H S => ?_⟩
        walk_at "rd"
        refine ⟨_, z, _, rfl, S, Rd.m3, fun H S => ?_⟩
        rw [Gf.num_row, Gf.num_row]
        walk_at "rd"
        refine Rd.r_newT S (Rd.small_sz (by simp)) fun tt H S => ?_
        refine Rd.r_neTI (xs := [(pdiv a b : Nat), (pmod a b : Nat)]) (ys := [(pdiv a b : Nat), (pmod a b : Nat)]) (S.st Rd.m1) (S.st Rd.m0) ?_
        walk_at "rd"
        refine Rd.r_ndecF rfl ?_
        walk_at "rd"
        exact ⟨_, p, rfl, S.tail.tail.tail.tail.tail.tail.tail, hmd, h⟩
      · walk_at "rd"
        exact ⟨_, p, rfl, S.tail.tail, hmd, h⟩
/-! ### law -/
def sp_law (K : PySem.W.Frag) : Sp := fun vs H Q _ => ∃ (L : List Rd.Ent) (a : Addr) (ns : List Int), vs = [.ref a] ∧ Rd.Has H L ∧ (∀ H', Rd.Has H' L → SqL K H' a (ns.map V.int)) ∧ ∀ H', Q (.bl true) H'
theorem sp_law_of {K : PySem.W.Frag} {H : Hp} {a : Addr} {ns : List Int} (hl : ns.length ≤ 63) (hO : Only H) (hS : SqL K H a (ns.map V.int)) : sp_law K [.ref a] H (fun v _ => v = .bl true) fun _ _ _ => False := by
  obtain ⟨L, S, hq⟩ := Rd.script_has hS
  exact ⟨L, a, ns, rfl, S, hq, fun _ => rfl⟩
theorem sc_law : FnScope ["script", "spot", "dice", "turn"] ["script"] (defScope s_law) := ⟨rfl, rfl, rfl, by decide +kernel, rfl, by decide +kernel, by decide +kernel⟩
theorem m33 : mul 3 3 = 5 := by rw [Gf.mulF_eq 8 3 3 (by decide)]; decide +kernel
theorem d511 : pmod 5 11 = 5 ∧ pdiv 5 11 = 0 := Gf.pmod_told 0 5 (by decide +kernel) (by decide) (by decide +kernel)
theorem g112 : pgcd 11 (pmod 2 11) = 1 := by
  have a1 : pmod 2 11 = 2 := (Gf.pmod_told 0 2 (by decide +kernel) (by decide) (by decide +kernel)).1
  have a2 : pmod 11 2 = 1 := (Gf.pmod_told 5 1 (by decide +kernel) (by decide) (by decide +kernel)).1
  have a3 : pmod 2 1 = 0 := (Gf.pmod_told 2 0 (by decide +kernel) (by decide) (by decide +kernel)).1
  rw [a1, Gf.pgcd_step (by decide), a2, Gf.pgcd_step (by decide), a3, Gf.pgcd_zero]
theorem g21 : pgcd 2 (pmod 1 2) = 1 := by
  have a1 : pmod 1 2 = 1 := Gf.pmod_one (by decide)
  have a3 : pmod 2 1 = 0 := (Gf.pmod_told 2 0 (by decide +kernel) (by decide) (by decide +kernel)).1
  rw [a1, Gf.pgcd_step (by decide), a3, Gf.pgcd_zero]
theorem i211 {v : Nat} (h : blen v < blen 11) (h1 : pmod (mul v 2) 11 = 1) : v = 5 := by
  refine Gf.inv_unique (a := 2) (by decide) h (by decide +kernel) (by rw [h1, Gf.pmod_one (by decide)]) ?_
  rw [Gf.mulF_eq 8 5 2 (by decide), Gf.pmod_one (by decide)]
  exact (Gf.pmod_told 1 1 (by decide +kernel) (by decide) (by decide +kernel)).1
theorem i12 {v : Nat} (h : blen v < blen 2) (h1 : pmod (mul v 1) 2 = 1) : v = 1 := by
  refine Gf.inv_unique (a := 1) (by decide) h (by decide +kernel) (by rw [h1, Gf.pmod_one (by decide)]) ?_
  rw [Gf.mul_one_left]
theorem p50 : pmod (ppow 2 (((10 : Int) ^ (50 : Int).toNat).toNat)) 11 = 4 := by
  have e : ((10 : Int) ^ (50 : Int).toNat).toNat = 7 * 14285714285714285714285714285714285714285714285714 + 2 := by decide +kernel
  rw [e]
  have c : Gf.Cg 11 (ppow 2 7) 1 := by
    rw [Gf.ppow_two]
    refine ⟨23, ?_⟩
    rw [Gf.mulF_eq 8 11 23 (by decide)]
    decide +kernel
  rw [Gf.pmod_eq (by decide) (Gf.cg_pow_cycle c _ 2), Gf.ppow_two]
  exact (Gf.pmod_told 0 4 (by decide +kernel) (by decide) (by decide +kernel)).1
theorem ok_law (T : Txt K mg) : FnOk P w K mg base CX0 8 T.f_law T.d_law ["script"] (sp_law K) := by
  refine T.F_law.ok sc_law (fun vs H Q E h => ?_) (fun cdv A outer s H vs Q E hr h => ?_)
  · obtain ⟨L, a, ns, rfl, S, hq, h⟩ := h
    rfl
  · obtain ⟨L, a, ns, rfl, S, hq, h⟩ := h
    refine ⟨_, (pss_cons (ps_for PassesOwn.never rfl (pi_range1 (by rfl) T.z_range (pa_cons (pe_callB (Rd.call_maxR rfl) (by rfl) T.z_max (by decide +kernel) (pa_cons pe_int (pa_cons (pe_callB (Rd.call_minR rfl) (by rfl) T.z_min (by decide +kernel) (pa_cons pe_int (pa_cons (pe_callB Rd.call_lenQ (by rfl) T.z_len (by decide +kernel) (pa_cons (pv 0) pa_nil)) pa_nil))) pa_nil))) pa_nil)) (pg_name (i := 1) sc_law.nd rfl (by first | exact Or.inl rfl | exact Or.inr rfl)) (pss_cons (ps_set (i := 2) sc_law.nd rfl (by first | exact Or.inl rfl | exact Or.inr rfl) (pe_call (ok_law_dice T) (hr.mono (by decide)) rfl T.m_law_dice T.F_law_dice.kp T.b_law_dice .nil pass0 (pa_cons (pv 0) (pa_cons (pv 1) pa_nil))))
        (pss_one (ps_for PassesOwn.never rfl (pi_range1 (by rfl) T.z_range (pa_cons pe_int pa_nil)) (pg_name (i := 3) sc_law.nd rfl (by first | exact Or.inl rfl | exact Or.inr rfl)) (pss_one (ps_if (pt_not (pt_val (pe_call (ok_law_right T) (hr.mono (by decide)) rfl T.m_law_right T.F_law_right.kp T.b_law_right .nil pass0 (pa_cons (pv 2) pa_nil)))) (pss_one (ps_ret pe_bl)) pss_nil))))))
        (pss_one (ps_ret (pe_cmpR (op_eqD hr.units) (pe_lst (pa_cons (pe_call (ok_times T) (hr.mono (by decide)) rfl T.m_times T.F_times.kp T.b_times .nil pass0 (pa_cons pe_int (pa_cons pe_int pa_nil))) (pa_cons (pe_call (ok_divided T) (hr.mono (by decide)) rfl T.m_divided T.F_divided.kp T.b_divided .nil pass0 (pa_cons pe_int (pa_cons pe_int pa_nil))) (pa_cons (pe_call (ok_inverse T) (hr.mono (by decide)) rfl T.m_inverse T.F_inverse.kp T.b_inverse .nil pass0 (pa_cons pe_int (pa_cons pe_int pa_nil))) (pa_cons (pe_call (ok_power T) (hr.mono (by decide)) rfl T.m_power T.F_power.kp T.b_power .nil pass0 (pa_cons pe_int (pa_cons (pe_op Rd.op_powW pe_int pe_int) (pa_cons pe_int pa_nil)))) (pa_cons (pe_call (ok_inverse T) (hr.mono (by decide)) rfl T.m_inverse T.F_inverse.kp T.b_inverse .nil pass0 (pa_cons pe_int (pa_cons pe_int pa_nil))) pa_nil)))))) (pe_lst (pa_cons pe_int (pa_cons (pe_tup (pa_cons pe_int (pa_cons pe_int pa_nil))) (pa_cons pe_int (pa_cons pe_int (pa_cons pe_int pa_nil)))))) (nomark _))))), ?_⟩
    try dsimp only [L2.cxOf]
    walk_at "rd"
    refine Rd.r_lenL (hq _ S) ?_
    walk_at "rd"
    refine Rd.l_rng1 (by (repeat' split) <;> omega) (by (repeat' split) <;> omega) (fun i σ H' => Rd.Has H' L ∧ ∃ u v w, σ = [some (.ref a), u, v, w]) ⟨S, none, none, none, rfl⟩ ?_ ?_
    · rintro i σ H hi ⟨S, u, v, w, rfl⟩
      have hi5 : i < 5 := by
        revert hi
        (repeat' split) <;> intro hi <;> omega
      walk_at "rd"
      refine ⟨L, a, ns, i, rfl, S, hq, by omega, fun p H S => ?_⟩
      walk_at "rd"
      refine Rd.l_rng1 (by decide) (by decide) (fun j σ H' => Rd.Has H' ((p, Dice) :: L) ∧ ∃ w, σ = [some (.ref a), some (.int i), some (.ref p), w]) ⟨S, _, rfl⟩ ?_ ?_
      · rintro j σ H hj ⟨S, w, rfl⟩
        walk_at "rd"
        refine ⟨_, p, rfl, S, Rd.m0, fun H S => ?_⟩
        walk_at "rd"
        exact ⟨S, _, rfl⟩
      · rintro σ H ⟨S, w, rfl⟩
        exact ⟨S.tail, _, _, _, rfl⟩
    · rintro σ H ⟨S, u, v, w, rfl⟩
      have b11 : blen 11 ≤ 4096 := by decide +kernel
      have b5 : blen 5 ≤ 4096 := by decide +kernel
      have b3 : blen 3 + blen 3 ≤ 4096 := by decide +kernel
      have b2 : blen 2 ≤ 4096 := by decide +kernel
      have b1 : blen 1 ≤ 4096 := by decide +kernel
      walk_at "rd"
      refine ⟨3, 3, rfl, b3, ?_⟩
      walk_at "rd"
      refine ⟨L, 5, 11, rfl, S, by decide, b5, b11, fun d H S => ?_⟩
      walk_at "rd"
      refine ⟨_, 2, 11, rfl, S, by decide, b2, b11, g112, fun v H v1 v2 S => ?_⟩
      rw [i211 v1 v2]
      walk_at "rd"
      refine ⟨_, 2, _, 11, rfl, S, by decide, b2, b11, by decide +kernel, by decide +kernel, fun _ H S => ?_, fun z => absurd z (by decide +kernel)⟩
      rw [p50]
      walk_at "rd"
      refine ⟨_, 1, 2, rfl, S, by decide, b1, b2, g21, fun v H v1 v2 S => ?_⟩
      rw [i12 v1 v2, m33]
      rw [d511.1, d511.2] at S
      walk_at "rd"
      refine Rd.r_newL S (Rd.small_sz (by simp)) fun l1 H S => ?_
      walk_at "rd"
      refine Rd.r_newT S (Rd.small_sz (by simp)) fun t1 H S => ?_
      walk_at "rd"
      refine Rd.r_newL S (Rd.small_sz (by simp)) fun l2 H S => ?_
      have dt : ∀ {t : Addr}, SqT K H t [.int 0, .int 5] → Dp K H (.ref t) (.tuple [.int 0, .int 5]) := fun hs => .tup hs (.cons (.int _) (.cons (.int _) .nil))
      refine Rd.r_eqD (d := .list [.int 5, .tuple [.int 0, .int 5], .int 5, .int 4, .int 1]) (e := .list [.int 5, .tuple [.int 0, .int 5], .int 5, .int 4, .int 1])
        (.lst (S.sl Rd.m2) (.cons (.int _) (.cons (dt (S.st Rd.m3)) (.cons (.int _) (.cons (.int _) (.cons (.int _) .nil))))))
        (.lst (S.sl Rd.m0) (.cons (.int _) (.cons (dt (S.st Rd.m1)) (.cons (.int _) (.cons (.int _) (.cons (.int _) .nil)))))) (by decide +kernel) (by decide +kernel) ?_
      have ev : PyData.eqv (.list [.int 5, .tuple [.int 0, .int 5], .int 5, .int 4, .int 1]) (.list [.int 5, .tuple [.int 0, .int 5], .int 5, .int 4, .int 1]) = true := by decide +kernel
      rw [ev]
      exact h _
end
end Toy
namespace Toy
open PySem L2
theorem all_mk {l : PySem.W.OpenLaw} {w : World} {K : PySem.W.Frag} {h : Heap} {mg : Str → Option Value} {fa : Addr} (X : K.In h) (G : h.Ns mainGlobals mg) (hfa : mg "law" = some (.ref fa))
    {f0 : Addr} {od0 an0 : Option Addr} {sl0 : Array (Option Value)} {oc0 kV0 dc0 pm0 cd0 ct0 : Value}
    {f1 : Addr} {od1 an1 : Option Addr} {sl1 : Array (Option Value)} {oc1 kV1 dc1 pm1 cd1 ct1 : Value}
    {f2 : Addr} {od2 an2 : Option Addr} {sl2 : Array (Option Value)} {oc2 kV2 dc2 pm2 cd2 ct2 : Value}
    {f3 : Addr} {od3 an3 : Option Addr} {sl3 : Array (Option Value)} {oc3 kV3 dc3 pm3 cd3 ct3 : Value}
    {f4 : Addr} {od4 an4 : Option Addr} {sl4 : Array (Option Value)} {oc4 kV4 dc4 pm4 cd4 ct4 : Value}
    {f5 : Addr} {od5 an5 : Option Addr} {sl5 : Array (Option Value)} {oc5 kV5 dc5 pm5 cd5 ct5 : Value}
    {f6 : Addr} {od6 an6 : Option Addr} {sl6 : Array (Option Value)} {oc6 kV6 dc6 pm6 cd6 ct6 : Value}
    {f7 : Addr} {od7 an7 : Option Addr} {sl7 : Array (Option Value)} {oc7 kV7 dc7 pm7 cd7 ct7 : Value}
    {f8 : Addr} {od8 an8 : Option Addr} {sl8 : Array (Option Value)} {oc8 kV8 dc8 pm8 cd8 ct8 : Value}
    {f9 : Addr} {od9 an9 : Option Addr} {sl9 : Array (Option Value)} {oc9 kV9 dc9 pm9 cd9 ct9 : Value}
    {f10 : Addr} {od10 an10 : Option Addr} {sl10 : Array (Option Value)} {oc10 kV10 dc10 pm10 cd10 ct10 : Value}
    {f11 : Addr} {od11 an11 : Option Addr} {sl11 : Array (Option Value)} {oc11 kV11 dc11 pm11 cd11 ct11 : Value}
    {f12 : Addr} {od12 an12 : Option Addr} {sl12 : Array (Option Value)} {oc12 kV12 dc12 pm12 cd12 ct12 : Value}
    {f13 : Addr} {od13 an13 : Option Addr} {sl13 : Array (Option Value)} {oc13 kV13 dc13 pm13 cd13 ct13 : Value}
    {f14 : Addr} {od14 an14 : Option Addr} {sl14 : Array (Option Value)} {oc14 kV14 dc14 pm14 cd14 ct14 : Value}
    {f15 : Addr} {od15 an15 : Option Addr} {sl15 : Array (Option Value)} {oc15 kV15 dc15 pm15 cd15 ct15 : Value}
    {f16 : Addr} {od16 an16 : Option Addr} {sl16 : Array (Option Value)} {oc16 kV16 dc16 pm16 cd16 ct16 : Value}
    {f17 : Addr} {od17 an17 : Option Addr} {sl17 : Array (Option Value)} {oc17 kV17 dc17 pm17 cd17 ct17 : Value}
    {f18 : Addr} {od18 an18 : Option Addr} {sl18 : Array (Option Value)} {oc18 kV18 dc18 pm18 cd18 ct18 : Value}
    {f19 : Addr} {od19 an19 : Option Addr} {sl19 : Array (Option Value)} {oc19 kV19 dc19 pm19 cd19 ct19 : Value}
    {f20 : Addr} {od20 an20 : Option Addr} {sl20 : Array (Option Value)} {oc20 kV20 dc20 pm20 cd20 ct20 : Value}
    {f21 : Addr} {od21 an21 : Option Addr} {sl21 : Array (Option Value)} {oc21 kV21 dc21 pm21 cd21 ct21 : Value}
    {f22 : Addr} {od22 an22 : Option Addr} {sl22 : Array (Option Value)} {oc22 kV22 dc22 pm22 cd22 ct22 : Value}
    {f23 : Addr} {od23 an23 : Option Addr} {sl23 : Array (Option Value)} {oc23 kV23 dc23 pm23 cd23 ct23 : Value}
    {f24 : Addr} {od24 an24 : Option Addr} {sl24 : Array (Option Value)} {oc24 kV24 dc24 pm24 cd24 ct24 : Value}
    {f25 : Addr} {od25 an25 : Option Addr} {sl25 : Array (Option Value)} {oc25 kV25 dc25 pm25 cd25 ct25 : Value}
    {f26 : Addr} {od26 an26 : Option Addr} {sl26 : Array (Option Value)} {oc26 kV26 dc26 pm26 cd26 ct26 : Value}
    {f27 : Addr} {od27 an27 : Option Addr} {sl27 : Array (Option Value)} {oc27 kV27 dc27 pm27 cd27 ct27 : Value}
    {f28 : Addr} {od28 an28 : Option Addr} {sl28 : Array (Option Value)} {oc28 kV28 dc28 pm28 cd28 ct28 : Value}
    {f29 : Addr} {od29 an29 : Option Addr} {sl29 : Array (Option Value)} {oc29 kV29 dc29 pm29 cd29 ct29 : Value}
    {f30 : Addr} {od30 an30 : Option Addr} {sl30 : Array (Option Value)} {oc30 kV30 dc30 pm30 cd30 ct30 : Value}
    {f31 : Addr} {od31 an31 : Option Addr} {sl31 : Array (Option Value)} {oc31 kV31 dc31 pm31 cd31 ct31 : Value}
    {f32 : Addr} {od32 an32 : Option Addr} {sl32 : Array (Option Value)} {oc32 kV32 dc32 pm32 cd32 ct32 : Value}
    {f33 : Addr} {od33 an33 : Option Addr} {sl33 : Array (Option Value)} {oc33 kV33 dc33 pm33 cd33 ct33 : Value}
    {f34 : Addr} {od34 an34 : Option Addr} {sl34 : Array (Option Value)} {oc34 kV34 dc34 pm34 cd34 ct34 : Value}
    {f35 : Addr} {od35 an35 : Option Addr} {sl35 : Array (Option Value)} {oc35 kV35 dc35 pm35 cd35 ct35 : Value}
    {t_MOST_DEGREE : Tok}
    {t_MOST_FAR : Tok}
    (a0 : PySem.W.nsIn K mainGlobals "is_integer" = some (some (.ref f0)))
    (l0 : K.lookup f0 = some ⟨oc0, od0, .func (PySem.W.fnOf "is_integer" "is_integer" (defArgs s_is_integer) (defBody s_is_integer) (defScope s_is_integer) .none kV0 dc0 pm0 an0 cd0 ct0), sl0⟩)
    (c0 : PySem.W.codeIn K cd0 "is_integer" = true) (k0 : PySem.W.keepIn K (.ref f0) = true)
    (a1 : PySem.W.nsIn K mainGlobals "is_within" = some (some (.ref f1)))
    (l1 : K.lookup f1 = some ⟨oc1, od1, .func (PySem.W.fnOf "is_within" "is_within" (defArgs s_is_within) (defBody s_is_within) (defScope s_is_within) .none kV1 dc1 pm1 an1 cd1 ct1), sl1⟩)
    (c1 : PySem.W.codeIn K cd1 "is_within" = true) (k1 : PySem.W.keepIn K (.ref f1) = true)
    (a2 : PySem.W.nsIn K mainGlobals "degree_in" = some (some (.ref f2)))
    (l2 : K.lookup f2 = some ⟨oc2, od2, .func (PySem.W.fnOf "degree_in" "degree_in" (defArgs s_degree_in) (defBody s_degree_in) (defScope s_degree_in) .none kV2 dc2 pm2 an2 cd2 ct2), sl2⟩)
    (c2 : PySem.W.codeIn K cd2 "degree_in" = true) (k2 : PySem.W.keepIn K (.ref f2) = true)
    (a3 : PySem.W.nsIn K mainGlobals "times_in" = some (some (.ref f3)))
    (l3 : K.lookup f3 = some ⟨oc3, od3, .func (PySem.W.fnOf "times_in" "times_in" (defArgs s_times_in) (defBody s_times_in) (defScope s_times_in) .none kV3 dc3 pm3 an3 cd3 ct3), sl3⟩)
    (c3 : PySem.W.codeIn K cd3 "times_in" = true) (k3 : PySem.W.keepIn K (.ref f3) = true)
    (a4 : PySem.W.nsIn K mainGlobals "divided_in" = some (some (.ref f4)))
    (l4 : K.lookup f4 = some ⟨oc4, od4, .func (PySem.W.fnOf "divided_in" "divided_in" (defArgs s_divided_in) (defBody s_divided_in) (defScope s_divided_in) .none kV4 dc4 pm4 an4 cd4 ct4), sl4⟩)
    (c4 : PySem.W.codeIn K cd4 "divided_in" = true) (k4 : PySem.W.keepIn K (.ref f4) = true)
    (a5 : PySem.W.nsIn K mainGlobals "rest_in" = some (some (.ref f5)))
    (l5 : K.lookup f5 = some ⟨oc5, od5, .func (PySem.W.fnOf "rest_in" "rest_in" (defArgs s_rest_in) (defBody s_rest_in) (defScope s_rest_in) .none kV5 dc5 pm5 an5 cd5 ct5), sl5⟩)
    (c5 : PySem.W.codeIn K cd5 "rest_in" = true) (k5 : PySem.W.keepIn K (.ref f5) = true)
    (a6 : PySem.W.nsIn K mainGlobals "common_in" = some (some (.ref f6)))
    (l6 : K.lookup f6 = some ⟨oc6, od6, .func (PySem.W.fnOf "common_in" "common_in" (defArgs s_common_in) (defBody s_common_in) (defScope s_common_in) .none kV6 dc6 pm6 an6 cd6 ct6), sl6⟩)
    (c6 : PySem.W.codeIn K cd6 "common_in" = true) (k6 : PySem.W.keepIn K (.ref f6) = true)
    (a7 : PySem.W.nsIn K mainGlobals "inverse_in" = some (some (.ref f7)))
    (l7 : K.lookup f7 = some ⟨oc7, od7, .func (PySem.W.fnOf "inverse_in" "inverse_in" (defArgs s_inverse_in) (defBody s_inverse_in) (defScope s_inverse_in) .none kV7 dc7 pm7 an7 cd7 ct7), sl7⟩)
    (c7 : PySem.W.codeIn K cd7 "inverse_in" = true) (k7 : PySem.W.keepIn K (.ref f7) = true)
    (a8 : PySem.W.nsIn K mainGlobals "times_rest" = some (some (.ref f8)))
    (l8 : K.lookup f8 = some ⟨oc8, od8, .func (PySem.W.fnOf "times_rest" "times_rest" (defArgs s_times_rest) (defBody s_times_rest) (defScope s_times_rest) .none kV8 dc8 pm8 an8 cd8 ct8), sl8⟩)
    (c8 : PySem.W.codeIn K cd8 "times_rest" = true) (k8 : PySem.W.keepIn K (.ref f8) = true)
    (a9 : PySem.W.nsIn K mainGlobals "power_in" = some (some (.ref f9)))
    (l9 : K.lookup f9 = some ⟨oc9, od9, .func (PySem.W.fnOf "power_in" "power_in" (defArgs s_power_in) (defBody s_power_in) (defScope s_power_in) .none kV9 dc9 pm9 an9 cd9 ct9), sl9⟩)
    (c9 : PySem.W.codeIn K cd9 "power_in" = true) (k9 : PySem.W.keepIn K (.ref f9) = true)
    (a10 : PySem.W.nsIn K mainGlobals "require_poly" = some (some (.ref f10)))
    (l10 : K.lookup f10 = some ⟨oc10, od10, .func (PySem.W.fnOf "require_poly" "require_poly" (defArgs s_require_poly) (defBody s_require_poly) (defScope s_require_poly) .none kV10 dc10 pm10 an10 cd10 ct10), sl10⟩)
    (c10 : PySem.W.codeIn K cd10 "require_poly" = true) (k10 : PySem.W.keepIn K (.ref f10) = true)
    (a11 : PySem.W.nsIn K mainGlobals "require_modulus" = some (some (.ref f11)))
    (l11 : K.lookup f11 = some ⟨oc11, od11, .func (PySem.W.fnOf "require_modulus" "require_modulus" (defArgs s_require_modulus) (defBody s_require_modulus) (defScope s_require_modulus) .none kV11 dc11 pm11 an11 cd11 ct11), sl11⟩)
    (c11 : PySem.W.codeIn K cd11 "require_modulus" = true) (k11 : PySem.W.keepIn K (.ref f11) = true)
    (a12 : PySem.W.nsIn K mainGlobals "degree" = some (some (.ref f12)))
    (l12 : K.lookup f12 = some ⟨oc12, od12, .func (PySem.W.fnOf "degree" "degree" (defArgs s_degree) (defBody s_degree) (defScope s_degree) .none kV12 dc12 pm12 an12 cd12 ct12), sl12⟩)
    (c12 : PySem.W.codeIn K cd12 "degree" = true) (k12 : PySem.W.keepIn K (.ref f12) = true)
    (a13 : PySem.W.nsIn K mainGlobals "plus" = some (some (.ref f13)))
    (l13 : K.lookup f13 = some ⟨oc13, od13, .func (PySem.W.fnOf "plus" "plus" (defArgs s_plus) (defBody s_plus) (defScope s_plus) .none kV13 dc13 pm13 an13 cd13 ct13), sl13⟩)
    (c13 : PySem.W.codeIn K cd13 "plus" = true) (k13 : PySem.W.keepIn K (.ref f13) = true)
    (a14 : PySem.W.nsIn K mainGlobals "times" = some (some (.ref f14)))
    (l14 : K.lookup f14 = some ⟨oc14, od14, .func (PySem.W.fnOf "times" "times" (defArgs s_times) (defBody s_times) (defScope s_times) .none kV14 dc14 pm14 an14 cd14 ct14), sl14⟩)
    (c14 : PySem.W.codeIn K cd14 "times" = true) (k14 : PySem.W.keepIn K (.ref f14) = true)
    (a15 : PySem.W.nsIn K mainGlobals "divided" = some (some (.ref f15)))
    (l15 : K.lookup f15 = some ⟨oc15, od15, .func (PySem.W.fnOf "divided" "divided" (defArgs s_divided) (defBody s_divided) (defScope s_divided) .none kV15 dc15 pm15 an15 cd15 ct15), sl15⟩)
    (c15 : PySem.W.codeIn K cd15 "divided" = true) (k15 : PySem.W.keepIn K (.ref f15) = true)
    (a16 : PySem.W.nsIn K mainGlobals "common" = some (some (.ref f16)))
    (l16 : K.lookup f16 = some ⟨oc16, od16, .func (PySem.W.fnOf "common" "common" (defArgs s_common) (defBody s_common) (defScope s_common) .none kV16 dc16 pm16 an16 cd16 ct16), sl16⟩)
    (c16 : PySem.W.codeIn K cd16 "common" = true) (k16 : PySem.W.keepIn K (.ref f16) = true)
    (a17 : PySem.W.nsIn K mainGlobals "inverse" = some (some (.ref f17)))
    (l17 : K.lookup f17 = some ⟨oc17, od17, .func (PySem.W.fnOf "inverse" "inverse" (defArgs s_inverse) (defBody s_inverse) (defScope s_inverse) .none kV17 dc17 pm17 an17 cd17 ct17), sl17⟩)
    (c17 : PySem.W.codeIn K cd17 "inverse" = true) (k17 : PySem.W.keepIn K (.ref f17) = true)
    (a18 : PySem.W.nsIn K mainGlobals "power" = some (some (.ref f18)))
    (l18 : K.lookup f18 = some ⟨oc18, od18, .func (PySem.W.fnOf "power" "power" (defArgs s_power) (defBody s_power) (defScope s_power) .none kV18 dc18 pm18 an18 cd18 ct18), sl18⟩)
    (c18 : PySem.W.codeIn K cd18 "power" = true) (k18 : PySem.W.keepIn K (.ref f18) = true)
    (a19 : PySem.W.nsIn K mainGlobals "_law_roll" = some (some (.ref f19)))
    (l19 : K.lookup f19 = some ⟨oc19, od19, .func (PySem.W.fnOf "_law_roll" "_law_roll" (defArgs s_law_roll) (defBody s_law_roll) (defScope s_law_roll) .none kV19 dc19 pm19 an19 cd19 ct19), sl19⟩)
    (c19 : PySem.W.codeIn K cd19 "_law_roll" = true) (k19 : PySem.W.keepIn K (.ref f19) = true)
    (a20 : PySem.W.nsIn K mainGlobals "_law_pick" = some (some (.ref f20)))
    (l20 : K.lookup f20 = some ⟨oc20, od20, .func (PySem.W.fnOf "_law_pick" "_law_pick" (defArgs s_law_pick) (defBody s_law_pick) (defScope s_law_pick) .none kV20 dc20 pm20 an20 cd20 ct20), sl20⟩)
    (c20 : PySem.W.codeIn K cd20 "_law_pick" = true) (k20 : PySem.W.keepIn K (.ref f20) = true)
    (a21 : PySem.W.nsIn K mainGlobals "_law_power" = some (some (.ref f21)))
    (l21 : K.lookup f21 = some ⟨oc21, od21, .func (PySem.W.fnOf "_law_power" "_law_power" (defArgs s_law_power) (defBody s_law_power) (defScope s_law_power) .none kV21 dc21 pm21 an21 cd21 ct21), sl21⟩)
    (c21 : PySem.W.codeIn K cd21 "_law_power" = true) (k21 : PySem.W.keepIn K (.ref f21) = true)
    (a22 : PySem.W.nsIn K mainGlobals "_law_dice" = some (some (.ref f22)))
    (l22 : K.lookup f22 = some ⟨oc22, od22, .func (PySem.W.fnOf "_law_dice" "_law_dice" (defArgs s_law_dice) (defBody s_law_dice) (defScope s_law_dice) .none kV22 dc22 pm22 an22 cd22 ct22), sl22⟩)
    (c22 : PySem.W.codeIn K cd22 "_law_dice" = true) (k22 : PySem.W.keepIn K (.ref f22) = true)
    (a23 : PySem.W.nsIn K mainGlobals "_law_number" = some (some (.ref f23)))
    (l23 : K.lookup f23 = some ⟨oc23, od23, .func (PySem.W.fnOf "_law_number" "_law_number" (defArgs s_law_number) (defBody s_law_number) (defScope s_law_number) .none kV23 dc23 pm23 an23 cd23 ct23), sl23⟩)
    (c23 : PySem.W.codeIn K cd23 "_law_number" = true) (k23 : PySem.W.keepIn K (.ref f23) = true)
    (a24 : PySem.W.nsIn K mainGlobals "_law_sum" = some (some (.ref f24)))
    (l24 : K.lookup f24 = some ⟨oc24, od24, .func (PySem.W.fnOf "_law_sum" "_law_sum" (defArgs s_law_sum) (defBody s_law_sum) (defScope s_law_sum) .none kV24 dc24 pm24 an24 cd24 ct24), sl24⟩)
    (c24 : PySem.W.codeIn K cd24 "_law_sum" = true) (k24 : PySem.W.keepIn K (.ref f24) = true)
    (a25 : PySem.W.nsIn K mainGlobals "_law_row" = some (some (.ref f25)))
    (l25 : K.lookup f25 = some ⟨oc25, od25, .func (PySem.W.fnOf "_law_row" "_law_row" (defArgs s_law_row) (defBody s_law_row) (defScope s_law_row) .none kV25 dc25 pm25 an25 cd25 ct25), sl25⟩)
    (c25 : PySem.W.codeIn K cd25 "_law_row" = true) (k25 : PySem.W.keepIn K (.ref f25) = true)
    (a26 : PySem.W.nsIn K mainGlobals "_law_poly" = some (some (.ref f26)))
    (l26 : K.lookup f26 = some ⟨oc26, od26, .func (PySem.W.fnOf "_law_poly" "_law_poly" (defArgs s_law_poly) (defBody s_law_poly) (defScope s_law_poly) .none kV26 dc26 pm26 an26 cd26 ct26), sl26⟩)
    (c26 : PySem.W.codeIn K cd26 "_law_poly" = true) (k26 : PySem.W.keepIn K (.ref f26) = true)
    (a27 : PySem.W.nsIn K mainGlobals "_law_lean" = some (some (.ref f27)))
    (l27 : K.lookup f27 = some ⟨oc27, od27, .func (PySem.W.fnOf "_law_lean" "_law_lean" (defArgs s_law_lean) (defBody s_law_lean) (defScope s_law_lean) .none kV27 dc27 pm27 an27 cd27 ct27), sl27⟩)
    (c27 : PySem.W.codeIn K cd27 "_law_lean" = true) (k27 : PySem.W.keepIn K (.ref f27) = true)
    (a28 : PySem.W.nsIn K mainGlobals "_law_plus" = some (some (.ref f28)))
    (l28 : K.lookup f28 = some ⟨oc28, od28, .func (PySem.W.fnOf "_law_plus" "_law_plus" (defArgs s_law_plus) (defBody s_law_plus) (defScope s_law_plus) .none kV28 dc28 pm28 an28 cd28 ct28), sl28⟩)
    (c28 : PySem.W.codeIn K cd28 "_law_plus" = true) (k28 : PySem.W.keepIn K (.ref f28) = true)
    (a29 : PySem.W.nsIn K mainGlobals "_law_times" = some (some (.ref f29)))
    (l29 : K.lookup f29 = some ⟨oc29, od29, .func (PySem.W.fnOf "_law_times" "_law_times" (defArgs s_law_times) (defBody s_law_times) (defScope s_law_times) .none kV29 dc29 pm29 an29 cd29 ct29), sl29⟩)
    (c29 : PySem.W.codeIn K cd29 "_law_times" = true) (k29 : PySem.W.keepIn K (.ref f29) = true)
    (a30 : PySem.W.nsIn K mainGlobals "_law_divided" = some (some (.ref f30)))
    (l30 : K.lookup f30 = some ⟨oc30, od30, .func (PySem.W.fnOf "_law_divided" "_law_divided" (defArgs s_law_divided) (defBody s_law_divided) (defScope s_law_divided) .none kV30 dc30 pm30 an30 cd30 ct30), sl30⟩)
    (c30 : PySem.W.codeIn K cd30 "_law_divided" = true) (k30 : PySem.W.keepIn K (.ref f30) = true)
    (a31 : PySem.W.nsIn K mainGlobals "_law_common" = some (some (.ref f31)))
    (l31 : K.lookup f31 = some ⟨oc31, od31, .func (PySem.W.fnOf "_law_common" "_law_common" (defArgs s_law_common) (defBody s_law_common) (defScope s_law_common) .none kV31 dc31 pm31 an31 cd31 ct31), sl31⟩)
    (c31 : PySem.W.codeIn K cd31 "_law_common" = true) (k31 : PySem.W.keepIn K (.ref f31) = true)
    (a32 : PySem.W.nsIn K mainGlobals "_law_powered" = some (some (.ref f32)))
    (l32 : K.lookup f32 = some ⟨oc32, od32, .func (PySem.W.fnOf "_law_powered" "_law_powered" (defArgs s_law_powered) (defBody s_law_powered) (defScope s_law_powered) .none kV32 dc32 pm32 an32 cd32 ct32), sl32⟩)
    (c32 : PySem.W.codeIn K cd32 "_law_powered" = true) (k32 : PySem.W.keepIn K (.ref f32) = true)
    (a33 : PySem.W.nsIn K mainGlobals "_law_powers_right" = some (some (.ref f33)))
    (l33 : K.lookup f33 = some ⟨oc33, od33, .func (PySem.W.fnOf "_law_powers_right" "_law_powers_right" (defArgs s_law_powers_right) (defBody s_law_powers_right) (defScope s_law_powers_right) .none kV33 dc33 pm33 an33 cd33 ct33), sl33⟩)
    (c33 : PySem.W.codeIn K cd33 "_law_powers_right" = true) (k33 : PySem.W.keepIn K (.ref f33) = true)
    (a34 : PySem.W.nsIn K mainGlobals "_law_right" = some (some (.ref f34)))
    (l34 : K.lookup f34 = some ⟨oc34, od34, .func (PySem.W.fnOf "_law_right" "_law_right" (defArgs s_law_right) (defBody s_law_right) (defScope s_law_right) .none kV34 dc34 pm34 an34 cd34 ct34), sl34⟩)
    (c34 : PySem.W.codeIn K cd34 "_law_right" = true) (k34 : PySem.W.keepIn K (.ref f34) = true)
    (a35 : PySem.W.nsIn K mainGlobals "law" = some (some (.ref f35)))
    (l35 : K.lookup f35 = some ⟨oc35, od35, .func (PySem.W.fnOf "law" "law" (defArgs s_law) (defBody s_law) (defScope s_law) .none kV35 dc35 pm35 an35 cd35 ct35), sl35⟩)
    (c35 : PySem.W.codeIn K cd35 "law" = true) (k35 : PySem.W.keepIn K (.ref f35) = true)
    (z_abs : PySem.W.nsIn K mainGlobals "abs" = some none)
    (z_bool : PySem.W.nsIn K mainGlobals "bool" = some none)
    (z_enumerate : PySem.W.nsIn K mainGlobals "enumerate" = some none)
    (z_int : PySem.W.nsIn K mainGlobals "int" = some none)
    (z_isinstance : PySem.W.nsIn K mainGlobals "isinstance" = some none)
    (z_len : PySem.W.nsIn K mainGlobals "len" = some none)
    (z_list : PySem.W.nsIn K mainGlobals "list" = some none)
    (z_max : PySem.W.nsIn K mainGlobals "max" = some none)
    (z_min : PySem.W.nsIn K mainGlobals "min" = some none)
    (z_range : PySem.W.nsIn K mainGlobals "range" = some none)
    (z_zip : PySem.W.nsIn K mainGlobals "zip" = some none)
    (c_MOST_DEGREE : PySem.W.nsIn K mainGlobals "MOST_DEGREE" = some (some (.int 4096 t_MOST_DEGREE)))
    (c_MOST_FAR : PySem.W.nsIn K mainGlobals "MOST_FAR" = some (some (.int 10000000000000000000000000000000000000000000000000000000000000000000000 t_MOST_FAR))) :
    ∃ fd : FuncData, (∀ (s : Shared) (v : Value), BindsTo s fd ⟨[v], []⟩ [("script", v)]) ∧ ∀ base : Heap, K.In base → base.Ns mainGlobals mg → FnOk l.prog w K mg base CX0 8 fa fd ["script"] (sp_law K) := by
  have e := hfa.symm.trans (PySem.W.mg_of X G a35)
  cases e
  let T : Txt K mg := { f_is_integer := _, d_is_integer := _, F_is_integer := fun_mk (st := s_is_integer) l0 c0 k0, m_is_integer := PySem.W.mg_of X G a0, b_is_integer := (fun_mk (st := s_is_integer) l0 c0 k0).binds (ps := ["value"]) (fun _ _ _ _ _ _ us hl => match us, hl with | [_], _ => rfl), f_is_within := _, d_is_within := _, F_is_within := fun_mk (st := s_is_within) l1 c1 k1, m_is_within := PySem.W.mg_of X G a1, b_is_within := (fun_mk (st := s_is_within) l1 c1 k1).binds (ps := ["value", "low", "most"]) (fun _ _ _ _ _ _ us hl => match us, hl with | [_, _, _], _ => rfl), f_degree_in := _, d_degree_in := _, F_degree_in := fun_mk (st := s_degree_in) l2 c2 k2, m_degree_in := PySem.W.mg_of X G a2, b_degree_in := (fun_mk (st := s_degree_in) l2 c2 k2).binds (ps := ["one"]) (fun _ _ _ _ _ _ us hl => match us, hl with | [_], _ => rfl), f_times_in := _, d_times_in := _, F_times_in := fun_mk (st := s_times_in) l3 c3 k3, m_times_in := PySem.W.mg_of X G a3, b_times_in := (fun_mk (st := s_times_in) l3 c3 k3).binds (ps := ["one", "other"]) (fun _ _ _ _ _ _ us hl => match us, hl with | [_, _], _ => rfl), f_divided_in := _, d_divided_in := _, F_divided_in := fun_mk (st := s_divided_in) l4 c4 k4, m_divided_in := PySem.W.mg_of X G a4, b_divided_in := (fun_mk (st := s_divided_in) l4 c4 k4).binds (ps := ["one", "other"]) (fun _ _ _ _ _ _ us hl => match us, hl with | [_, _], _ => rfl), f_rest_in := _, d_rest_in := _, F_rest_in := fun_mk (st := s_rest_in) l5 c5 k5, m_rest_in := PySem.W.mg_of X G a5, b_rest_in := (fun_mk (st := s_rest_in) l5 c5 k5).binds (ps := ["one", "modulus"]) (fun _ _ _ _ _ _ us hl => match us, hl with | [_, _], _ => rfl), f_common_in := _, d_common_in := _, F_common_in := fun_mk (st := s_common_in) l6 c6 k6, m_common_in := PySem.W.mg_of X G a6, b_common_in := (fun_mk (st := s_common_in) l6 c6 k6).binds (ps := ["one", "other"]) (fun _ _ _ _ _ _ us hl => match us, hl with | [_, _], _ => rfl), f_inverse_in := _, d_inverse_in := _, F_inverse_in := fun_mk (st := s_inverse_in) l7 c7 k7, m_inverse_in := PySem.W.mg_of X G a7, b_inverse_in := (fun_mk (st := s_inverse_in) l7 c7 k7).binds (ps := ["one", "modulus"]) (fun _ _ _ _ _ _ us hl => match us, hl with | [_, _], _ => rfl), f_times_rest := _, d_times_rest := _, F_times_rest := fun_mk (st := s_times_rest) l8 c8 k8, m_times_rest := PySem.W.mg_of X G a8, b_times_rest := (fun_mk (st := s_times_rest) l8 c8 k8).binds (ps := ["one", "other", "modulus"]) (fun _ _ _ _ _ _ us hl => match us, hl with | [_, _, _], _ => rfl), f_power_in := _, d_power_in := _, F_power_in := fun_mk (st := s_power_in) l9 c9 k9, m_power_in := PySem.W.mg_of X G a9, b_power_in := (fun_mk (st := s_power_in) l9 c9 k9).binds (ps := ["one", "exponent", "modulus"]) (fun _ _ _ _ _ _ us hl => match us, hl with | [_, _, _], _ => rfl), f_require_poly := _, d_require_poly := _, F_require_poly := fun_mk (st := s_require_poly) l10 c10 k10, m_require_poly := PySem.W.mg_of X G a10, b_require_poly := (fun_mk (st := s_require_poly) l10 c10 k10).binds (ps := ["one"]) (fun _ _ _ _ _ _ us hl => match us, hl with | [_], _ => rfl), f_require_modulus := _, d_require_modulus := _, F_require_modulus := fun_mk (st := s_require_modulus) l11 c11 k11, m_require_modulus := PySem.W.mg_of X G a11, b_require_modulus := (fun_mk (st := s_require_modulus) l11 c11 k11).binds (ps := ["modulus"]) (fun _ _ _ _ _ _ us hl => match us, hl with | [_], _ => rfl), f_degree := _, d_degree := _, F_degree := fun_mk (st := s_degree) l12 c12 k12, m_degree := PySem.W.mg_of X G a12, b_degree := (fun_mk (st := s_degree) l12 c12 k12).binds (ps := ["one"]) (fun _ _ _ _ _ _ us hl => match us, hl with | [_], _ => rfl), f_plus := _, d_plus := _, F_plus := fun_mk (st := s_plus) l13 c13 k13, m_plus := PySem.W.mg_of X G a13, b_plus := (fun_mk (st := s_plus) l13 c13 k13).binds (ps := ["one", "other"]) (fun _ _ _ _ _ _ us hl => match us, hl with | [_, _], _ => rfl), f_times := _, d_times := _, F_times := fun_mk (st := s_times) l14 c14 k14, m_times := PySem.W.mg_of X G a14, b_times := (fun_mk (st := s_times) l14 c14 k14).binds (ps := ["one", "other"]) (fun _ _ _ _ _ _ us hl => match us, hl with | [_, _], _ => rfl), f_divided := _, d_divided := _, F_divided := fun_mk (st := s_divided) l15 c15 k15, m_divided := PySem.W.mg_of X G a15, b_divided := (fun_mk (st := s_divided) l15 c15 k15).binds (ps := ["one", "other"]) (fun _ _ _ _ _ _ us hl => match us, hl with | [_, _], _ => rfl), f_common := _, d_common := _, F_common := fun_mk (st := s_common) l16 c16 k16, m_common := PySem.W.mg_of X G a16, b_common := (fun_mk (st := s_common) l16 c16 k16).binds (ps := ["one", "other"]) (fun _ _ _ _ _ _ us hl => match us, hl with | [_, _], _ => rfl), f_inverse := _, d_inverse := _, F_inverse := fun_mk (st := s_inverse) l17 c17 k17, m_inverse := PySem.W.mg_of X G a17, b_inverse := (fun_mk (st := s_inverse) l17 c17 k17).binds (ps := ["one", "modulus"]) (fun _ _ _ _ _ _ us hl => match us, hl with | [_, _], _ => rfl), f_power := _, d_power := _, F_power := fun_mk (st := s_power) l18 c18 k18, m_power := PySem.W.mg_of X G a18, b_power := (fun_mk (st := s_power) l18 c18 k18).binds (ps := ["one", "exponent", "modulus"]) (fun _ _ _ _ _ _ us hl => match us, hl with | [_, _, _], _ => rfl), f_law_roll := _, d_law_roll := _, F_law_roll := fun_mk (st := s_law_roll) l19 c19 k19, m_law_roll := PySem.W.mg_of X G a19, b_law_roll := (fun_mk (st := s_law_roll) l19 c19 k19).binds (ps := ["dice", "total"]) (fun _ _ _ _ _ _ us hl => match us, hl with | [_, _], _ => rfl), f_law_pick := _, d_law_pick := _, F_law_pick := fun_mk (st := s_law_pick) l20 c20 k20, m_law_pick := PySem.W.mg_of X G a20, b_law_pick := (fun_mk (st := s_law_pick) l20 c20 k20).binds (ps := ["dice", "items"]) (fun _ _ _ _ _ _ us hl => match us, hl with | [_, _], _ => rfl), f_law_power := _, d_law_power := _, F_law_power := fun_mk (st := s_law_power) l21 c21 k21, m_law_power := PySem.W.mg_of X G a21, b_law_power := (fun_mk (st := s_law_power) l21 c21 k21).binds (ps := ["number", "many"]) (fun _ _ _ _ _ _ us hl => match us, hl with | [_, _], _ => rfl), f_law_dice := _, d_law_dice := _, F_law_dice := fun_mk (st := s_law_dice) l22 c22 k22, m_law_dice := PySem.W.mg_of X G a22, b_law_dice := (fun_mk (st := s_law_dice) l22 c22 k22).binds (ps := ["script", "spot"]) (fun _ _ _ _ _ _ us hl => match us, hl with | [_, _], _ => rfl), f_law_number := _, d_law_number := _, F_law_number := fun_mk (st := s_law_number) l23 c23 k23, m_law_number := PySem.W.mg_of X G a23, b_law_number := (fun_mk (st := s_law_number) l23 c23 k23).binds (ps := ["bits"]) (fun _ _ _ _ _ _ us hl => match us, hl with | [_], _ => rfl), f_law_sum := _, d_law_sum := _, F_law_sum := fun_mk (st := s_law_sum) l24 c24 k24, m_law_sum := PySem.W.mg_of X G a24, b_law_sum := (fun_mk (st := s_law_sum) l24 c24 k24).binds (ps := ["one", "other"]) (fun _ _ _ _ _ _ us hl => match us, hl with | [_, _], _ => rfl), f_law_row := _, d_law_row := _, F_law_row := fun_mk (st := s_law_row) l25 c25 k25, m_law_row := PySem.W.mg_of X G a25, b_law_row := (fun_mk (st := s_law_row) l25 c25 k25).binds (ps := ["number"]) (fun _ _ _ _ _ _ us hl => match us, hl with | [_], _ => rfl), f_law_poly := _, d_law_poly := _, F_law_poly := fun_mk (st := s_law_poly) l26 c26 k26, m_law_poly := PySem.W.mg_of X G a26, b_law_poly := (fun_mk (st := s_law_poly) l26 c26 k26).binds (ps := ["row"]) (fun _ _ _ _ _ _ us hl => match us, hl with | [_], _ => rfl), f_law_lean := _, d_law_lean := _, F_law_lean := fun_mk (st := s_law_lean) l27 c27 k27, m_law_lean := PySem.W.mg_of X G a27, b_law_lean := (fun_mk (st := s_law_lean) l27 c27 k27).binds (ps := ["row"]) (fun _ _ _ _ _ _ us hl => match us, hl with | [_], _ => rfl), f_law_plus := _, d_law_plus := _, F_law_plus := fun_mk (st := s_law_plus) l28 c28 k28, m_law_plus := PySem.W.mg_of X G a28, b_law_plus := (fun_mk (st := s_law_plus) l28 c28 k28).binds (ps := ["one", "other"]) (fun _ _ _ _ _ _ us hl => match us, hl with | [_, _], _ => rfl), f_law_times := _, d_law_times := _, F_law_times := fun_mk (st := s_law_times) l29 c29 k29, m_law_times := PySem.W.mg_of X G a29, b_law_times := (fun_mk (st := s_law_times) l29 c29 k29).binds (ps := ["one", "other"]) (fun _ _ _ _ _ _ us hl => match us, hl with | [_, _], _ => rfl), f_law_divided := _, d_law_divided := _, F_law_divided := fun_mk (st := s_law_divided) l30 c30 k30, m_law_divided := PySem.W.mg_of X G a30, b_law_divided := (fun_mk (st := s_law_divided) l30 c30 k30).binds (ps := ["one", "other"]) (fun _ _ _ _ _ _ us hl => match us, hl with | [_, _], _ => rfl), f_law_common := _, d_law_common := _, F_law_common := fun_mk (st := s_law_common) l31 c31 k31, m_law_common := PySem.W.mg_of X G a31, b_law_common := (fun_mk (st := s_law_common) l31 c31 k31).binds (ps := ["one", "other"]) (fun _ _ _ _ _ _ us hl => match us, hl with | [_, _], _ => rfl), f_law_powered := _, d_law_powered := _, F_law_powered := fun_mk (st := s_law_powered) l32 c32 k32, m_law_powered := PySem.W.mg_of X G a32, b_law_powered := (fun_mk (st := s_law_powered) l32 c32 k32).binds (ps := ["one", "many", "modulus"]) (fun _ _ _ _ _ _ us hl => match us, hl with | [_, _, _], _ => rfl), f_law_powers_right := _, d_law_powers_right := _, F_law_powers_right := fun_mk (st := s_law_powers_right) l33 c33 k33, m_law_powers_right := PySem.W.mg_of X G a33, b_law_powers_right := (fun_mk (st := s_law_powers_right) l33 c33 k33).binds (ps := ["dice"]) (fun _ _ _ _ _ _ us hl => match us, hl with | [_], _ => rfl), f_law_right := _, d_law_right := _, F_law_right := fun_mk (st := s_law_right) l34 c34 k34, m_law_right := PySem.W.mg_of X G a34, b_law_right := (fun_mk (st := s_law_right) l34 c34 k34).binds (ps := ["dice"]) (fun _ _ _ _ _ _ us hl => match us, hl with | [_], _ => rfl), f_law := _, d_law := _, F_law := fun_mk (st := s_law) l35 c35 k35, m_law := PySem.W.mg_of X G a35, b_law := (fun_mk (st := s_law) l35 c35 k35).binds (ps := ["script"]) (fun _ _ _ _ _ _ us hl => match us, hl with | [_], _ => rfl), z_abs := PySem.W.mg_none_of X G z_abs, z_bool := PySem.W.mg_none_of X G z_bool, z_enumerate := PySem.W.mg_none_of X G z_enumerate, z_int := PySem.W.mg_none_of X G z_int, z_isinstance := PySem.W.mg_none_of X G z_isinstance, z_len := PySem.W.mg_none_of X G z_len, z_list := PySem.W.mg_none_of X G z_list, z_max := PySem.W.mg_none_of X G z_max, z_min := PySem.W.mg_none_of X G z_min, z_range := PySem.W.mg_none_of X G z_range, z_zip := PySem.W.mg_none_of X G z_zip, t_MOST_DEGREE := _, c_MOST_DEGREE := PySem.W.mg_of X G c_MOST_DEGREE, t_MOST_FAR := _, c_MOST_FAR := PySem.W.mg_of X G c_MOST_FAR }
  exact ⟨T.d_law, fun s v => .of_eq rfl, fun base _ _ => ok_law T⟩
theorem walk {l : PySem.W.OpenLaw} {q : Program} {loose : List Str} {XP : (Str → Option Value) → Heap → Prop} {YP : World → Heap → Prop} {d : DefRec} {K : Params → PySem.W.Frag} (hn : l.most = some 63) (hdf : d.params.defaults = [])
    (hY : ∀ (w : World) (h : Heap), YP w h → (K w.params).In h)
    (F : ∀ (w : World) (mg : Str → Option Value) (fa : Addr) (h : Heap), (K w.params).In h → h.Ns mainGlobals mg → mg d.name = some (.ref fa) →
      ∃ fd : FuncData, (∀ (s : Shared) (u : Value), BindsTo s fd ⟨[u], []⟩ [("script", u)]) ∧ ∀ base : Heap, (K w.params).In base → base.Ns mainGlobals mg → FnOk l.prog w (K w.params) mg base CX0 8 fa fd ["script"] (sp_law (K w.params))) :
    PySem.W.WalkO q loose XP YP l.row.toRowW d [] (fun f vs => PySem.call f vs) :=
  L2.walk_of (n := 63) (k := 8) (x := "script") (CX := fun _ => CX0) (sp := fun w => sp_law (K w.params)) hn (by decide) hdf ⟨rfl, by decide, by decide⟩ hY F (fun _ H a ns hl hO hS => sp_law_of hl hO hS) fun _ _ _ _ _ z => z
end Toy
open PySem PySem.W PyProof.Rows
set_option maxRecDepth 100000 in
set_option maxHeartbeats 0 in
theorem PySem.Challenge.cw_sealline_k03_whole_polynomials_over_two_holds : PySem.Challenge.rw_sealline_k03_whole_polynomials_over_two.Holds := by
  w_on; o_law; k_head; (case hw => w_witness2)
  k_fill
  refine Toy.walk (l := PySem.Challenge.rw_sealline_k03_whole_polynomials_over_two) rfl rfl (fun w h Y => PySem.W.kIn_of Y) ?F
  case F =>
    intro w mg fa h KX G hmg
    refine' Toy.all_mk KX G hmg ?a0 ?l0 ?c0 ?k0 ?a1 ?l1 ?c1 ?k1 ?a2 ?l2 ?c2 ?k2 ?a3 ?l3 ?c3 ?k3 ?a4 ?l4 ?c4 ?k4 ?a5 ?l5 ?c5 ?k5 ?a6 ?l6 ?c6 ?k6 ?a7 ?l7 ?c7 ?k7 ?a8 ?l8 ?c8 ?k8 ?a9 ?l9 ?c9 ?k9 ?a10 ?l10 ?c10 ?k10 ?a11 ?l11 ?c11 ?k11 ?a12 ?l12 ?c12 ?k12 ?a13 ?l13 ?c13 ?k13 ?a14 ?l14 ?c14 ?k14 ?a15 ?l15 ?c15 ?k15 ?a16 ?l16 ?c16 ?k16 ?a17 ?l17 ?c17 ?k17 ?a18 ?l18 ?c18 ?k18 ?a19 ?l19 ?c19 ?k19 ?a20 ?l20 ?c20 ?k20 ?a21 ?l21 ?c21 ?k21 ?a22 ?l22 ?c22 ?k22 ?a23 ?l23 ?c23 ?k23 ?a24 ?l24 ?c24 ?k24 ?a25 ?l25 ?c25 ?k25 ?a26 ?l26 ?c26 ?k26 ?a27 ?l27 ?c27 ?k27 ?a28 ?l28 ?c28 ?k28 ?a29 ?l29 ?c29 ?k29 ?a30 ?l30 ?c30 ?k30 ?a31 ?l31 ?c31 ?k31 ?a32 ?l32 ?c32 ?k32 ?a33 ?l33 ?c33 ?k33 ?a34 ?l34 ?c34 ?k34 ?a35 ?l35 ?c35 ?k35 ?z_abs ?z_bool ?z_enumerate ?z_int ?z_isinstance ?z_len ?z_list ?z_max ?z_min ?z_range ?z_zip ?c_MOST_DEGREE ?c_MOST_FAR
    (case a0 => k_is)
    (case l0 => k_is)
    (case c0 => k_is)
    (case k0 => k_is)
    (case a1 => k_is)
    (case l1 => k_is)
    (case c1 => k_is)
    (case k1 => k_is)
    (case a2 => k_is)
    (case l2 => k_is)
    (case c2 => k_is)
    (case k2 => k_is)
    (case a3 => k_is)
    (case l3 => k_is)
    (case c3 => k_is)
    (case k3 => k_is)
    (case a4 => k_is)
    (case l4 => k_is)
    (case c4 => k_is)
    (case k4 => k_is)
    (case a5 => k_is)
    (case l5 => k_is)
    (case c5 => k_is)
    (case k5 => k_is)
    (case a6 => k_is)
    (case l6 => k_is)
    (case c6 => k_is)
    (case k6 => k_is)
    (case a7 => k_is)
    (case l7 => k_is)
    (case c7 => k_is)
    (case k7 => k_is)
    (case a8 => k_is)
    (case l8 => k_is)
    (case c8 => k_is)
    (case k8 => k_is)
    (case a9 => k_is)
    (case l9 => k_is)
    (case c9 => k_is)
    (case k9 => k_is)
    (case a10 => k_is)
    (case l10 => k_is)
    (case c10 => k_is)
    (case k10 => k_is)
    (case a11 => k_is)
    (case l11 => k_is)
    (case c11 => k_is)
    (case k11 => k_is)
    (case a12 => k_is)
    (case l12 => k_is)
    (case c12 => k_is)
    (case k12 => k_is)
    (case a13 => k_is)
    (case l13 => k_is)
    (case c13 => k_is)
    (case k13 => k_is)
    (case a14 => k_is)
    (case l14 => k_is)
    (case c14 => k_is)
    (case k14 => k_is)
    (case a15 => k_is)
    (case l15 => k_is)
    (case c15 => k_is)
    (case k15 => k_is)
    (case a16 => k_is)
    (case l16 => k_is)
    (case c16 => k_is)
    (case k16 => k_is)
    (case a17 => k_is)
    (case l17 => k_is)
    (case c17 => k_is)
    (case k17 => k_is)
    (case a18 => k_is)
    (case l18 => k_is)
    (case c18 => k_is)
    (case k18 => k_is)
    (case a19 => k_is)
    (case l19 => k_is)
    (case c19 => k_is)
    (case k19 => k_is)
    (case a20 => k_is)
    (case l20 => k_is)
    (case c20 => k_is)
    (case k20 => k_is)
    (case a21 => k_is)
    (case l21 => k_is)
    (case c21 => k_is)
    (case k21 => k_is)
    (case a22 => k_is)
    (case l22 => k_is)
    (case c22 => k_is)
    (case k22 => k_is)
    (case a23 => k_is)
    (case l23 => k_is)
    (case c23 => k_is)
    (case k23 => k_is)
    (case a24 => k_is)
    (case l24 => k_is)
    (case c24 => k_is)
    (case k24 => k_is)
    (case a25 => k_is)
    (case l25 => k_is)
    (case c25 => k_is)
    (case k25 => k_is)
    (case a26 => k_is)
    (case l26 => k_is)
    (case c26 => k_is)
    (case k26 => k_is)
    (case a27 => k_is)
    (case l27 => k_is)
    (case c27 => k_is)
    (case k27 => k_is)
    (case a28 => k_is)
    (case l28 => k_is)
    (case c28 => k_is)
    (case k28 => k_is)
    (case a29 => k_is)
    (case l29 => k_is)
    (case c29 => k_is)
    (case k29 => k_is)
    (case a30 => k_is)
    (case l30 => k_is)
    (case c30 => k_is)
    (case k30 => k_is)
    (case a31 => k_is)
    (case l31 => k_is)
    (case c31 => k_is)
    (case k31 => k_is)
    (case a32 => k_is)
    (case l32 => k_is)
    (case c32 => k_is)
    (case k32 => k_is)
    (case a33 => k_is)
    (case l33 => k_is)
    (case c33 => k_is)
    (case k33 => k_is)
    (case a34 => k_is)
    (case l34 => k_is)
    (case c34 => k_is)
    (case k34 => k_is)
    (case a35 => k_is)
    (case l35 => k_is)
    (case c35 => k_is)
    (case k35 => k_is)
    (case z_abs => k_is)
    (case z_bool => k_is)
    (case z_enumerate => k_is)
    (case z_int => k_is)
    (case z_isinstance => k_is)
    (case z_len => k_is)
    (case z_list => k_is)
    (case z_max => k_is)
    (case z_min => k_is)
    (case z_range => k_is)
    (case z_zip => k_is)
    (case c_MOST_DEGREE => k_is)
    (case c_MOST_FAR => k_is)
#print axioms PySem.Challenge.cw_sealline_k03_whole_polynomials_over_two_holds

