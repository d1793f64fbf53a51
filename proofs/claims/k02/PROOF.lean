import PyProof.Rows.All
import Wide.All
import OpenK.AllK
import Wide.FinOn
import HandS.ForMost
import HandS.ForExc
import HandS.Wide
import HandS.IsInst
import HandS.Style
import HandS.Flow
import HandS.More
import HandS.TupAny
import HandS.Defaults
import HandS.Head0
import HandS.Head1
import HandS.Head2
import HandS.HeadEnd
import HandS.HeadHook1
import HandS.HeadHook2
import PySem.Challenge.RW_sipstack_k02_laid
set_option Elab.async false
set_option linter.all false
set_option maxRecDepth 100000
set_option maxHeartbeats 4000000
namespace Z
open PySem PySem.Spec L2
/-! ### what is owned: a list of addresses and their objects -/
abbrev HL := List (Addr × HO)
structure Own (H : Hp) (L : HL) : Prop where
  nd : (L.map (·.1)).Nodup
  get : ∀ a o, (a, o) ∈ L → H a = some o
/-- L is b and R in some order -/
def Pk (L b R : HL) : Prop := L.Perm (b ++ R)
theorem Pk.here {b R : HL} : Pk (b ++ R) b R := List.Perm.refl _
theorem Pk.only {b : HL} : Pk b b [] := by unfold Pk; rw [List.append_nil]
theorem Pk.there {b c R R' : HL} (h : Pk R b R') : Pk (c ++ R) b (c ++ R') := by
  unfold Pk at *
  refine (h.append_left c).trans ?_
  rw [← List.append_assoc, ← List.append_assoc]
  exact List.Perm.append_right _ List.perm_append_comm
/-- T is a part of L -/
def Sub (T L : HL) : Prop := ∃ R, L.Perm (T ++ R)
theorem Sub.all {L : HL} : Sub L L := ⟨[], by rw [List.append_nil]⟩
theorem Sub.nil {L : HL} : Sub [] L := ⟨L, List.Perm.refl _⟩
theorem Sub.cons {L b R T : HL} (h : Pk L b R) (k : Sub T R) : Sub (b ++ T) L := by
  obtain ⟨S, k⟩ := k
  refine ⟨S, List.Perm.trans h ?_⟩
  rw [List.append_assoc]
  exact k.append_left b
theorem Sub.one {L b R : HL} (h : Pk L b R) : Sub b L := ⟨R, h⟩
theorem Sub.rest {L b R : HL} (h : Pk L b R) : Sub R L := ⟨b, List.Perm.trans h List.perm_append_comm⟩
theorem Sub.trans {A B C : HL} (h : Sub A B) (k : Sub B C) : Sub A C := by
  obtain ⟨R, h⟩ := h
  obtain ⟨S, k⟩ := k
  exact ⟨R ++ S, k.trans (by rw [← List.append_assoc]; exact h.append_right S)⟩
section
variable {H : Hp} {L T R b : HL} {a p : Addr} {o o' : HO}
theorem Own.sub (O : Own H L) (h : Sub T L) : Own H T := by
  obtain ⟨R, h⟩ := h
  have nd : ((T ++ R).map (·.1)).Nodup := (h.map (·.1)).nodup_iff.mp O.nd
  rw [List.map_append] at nd
  exact ⟨(List.nodup_append.mp nd).1, fun a o m => O.get a o (h.mem_iff.mpr (List.mem_append_left _ m))⟩
theorem Own.pk (O : Own H L) (h : Pk L b R) : Own H (b ++ R) := ⟨(h.map (·.1)).nodup_iff.mp O.nd, fun a o m => O.get a o (h.mem_iff.mpr m)⟩
theorem Own.at1 (O : Own H L) (h : Pk L [(a, o)] R) : H a = some o := O.get a o (h.mem_iff.mpr (by simp))
theorem Own.new (O : Own H L) (hp : H p = none) : Own (upd H p o) ([(p, o)] ++ L) := by
  have ne : ∀ e ∈ L, e.1 ≠ p := fun e m z => by
    have := O.get e.1 e.2 m
    rw [z, hp] at this
    cases this
  refine ⟨?_, fun a u m => ?_⟩
  · show (p :: L.map (·.1)).Nodup
    refine List.nodup_cons.mpr ⟨fun m => ?_, O.nd⟩
    obtain ⟨e, he, z⟩ := List.mem_map.mp m
    exact ne e he z
  · rcases List.mem_cons.mp (show (a, u) ∈ (p, o) :: L from m) with e | m
    · cases e
      exact upd_same
    · rw [upd_ne (ne _ m)]
      exact O.get a u m
theorem Own.put (O : Own H L) (h : Pk L [(a, o)] R) : Own (upd H a o') ([(a, o')] ++ R) := by
  have O2 := O.pk h
  have nd : (a :: R.map (·.1)).Nodup := O2.nd
  refine ⟨nd, fun c u m => ?_⟩
  rcases List.mem_cons.mp (show (c, u) ∈ (a, o') :: R from m) with e | m
  · cases e
    exact upd_same
  · have ne : c ≠ a := fun z => (List.nodup_cons.mp nd).1 (List.mem_map.mpr ⟨(c, u), m, z⟩)
    rw [upd_ne ne]
    exact O2.get c u (List.mem_append_right _ m)
end
/-! ### slots -/
inductive GetAt : List (Option V) → Nat → V → Prop where
  | z {v : V} {l : List (Option V)} : GetAt (some v :: l) 0 v
  | s {x : Option V} {v : V} {l : List (Option V)} {i : Nat} : GetAt l i v → GetAt (x :: l) (i + 1) v
theorem GetAt.get {l : List (Option V)} {i : Nat} {v : V} (h : GetAt l i v) : l[i]? = some (some v) := by
  induction h with
  | z => rfl
  | s _ ih => simpa using ih
inductive SetAt : List (Option V) → Nat → V → List (Option V) → Prop where
  | z {v : V} {x : Option V} {l : List (Option V)} : SetAt (x :: l) 0 v (some v :: l)
  | s {x : Option V} {v : V} {l l' : List (Option V)} {i : Nat} : SetAt l i v l' → SetAt (x :: l) (i + 1) v (x :: l')
theorem SetAt.set {l l' : List (Option V)} {i : Nat} {v : V} (h : SetAt l i v l') : l.set i (some v) = l' := by
  induction h with
  | z => rfl
  | s _ ih => simp [ih]
/-! ### ints -/
inductive Ints : List V → List Int → Prop where
  | nil : Ints [] []
  | cons {i : Int} {xs : List V} {ns : List Int} : Ints xs ns → Ints (.int i :: xs) (i :: ns)
  | map {ns : List Int} : Ints (ns.map V.int) ns
theorem Ints.eq {xs : List V} {ns : List Int} (h : Ints xs ns) : xs = ns.map V.int := by
  induction h with
  | nil => rfl
  | cons _ ih => rw [ih]; rfl
  | map => rfl
theorem line {n : Nat} (h : n ≤ 16777216) : n ≤ sizeLine := by rw [sizeLine_eq]; exact h
theorem lineS {n : Nat} (h : n < 16777216) : n < sizeLine := by rw [sizeLine_eq]; exact h
/-! ### statements -/
section
variable {K : PySem.W.Frag} {σ σ' : St} {H : Hp} {L R : HL} {D : Ends} {t u : TS} {te ta tb tc : TE} {g : TG} {Q : VK} {v x y : V} {i j : Int} {n : Nat} {nx : St → Hp → Prop} {rt : VK} {bk ct : St → Hp → Prop}
theorem w_seq (h : t ⟨u ⟨nx, rt, bk, ct⟩, rt, bk, ct⟩ σ H) : tSeq t u ⟨nx, rt, bk, ct⟩ σ H := h
theorem w_next (h : nx σ H) : tNext ⟨nx, rt, bk, ct⟩ σ H := h
theorem w_break (h : bk σ H) : tBreak ⟨nx, rt, bk, ct⟩ σ H := h
theorem w_cont (h : ct σ H) : tCont ⟨nx, rt, bk, ct⟩ σ H := h
theorem w_drop (h : te σ H fun _ H1 => nx σ H1) : tDrop te ⟨nx, rt, bk, ct⟩ σ H := h
theorem w_ret (h : te σ H rt) : tRet te ⟨nx, rt, bk, ct⟩ σ H := h
theorem w_retN (h : rt .non H) : tRetN ⟨nx, rt, bk, ct⟩ σ H := h
theorem w_ifs {c : TT} (h : c σ H fun b H1 => if b = true then t ⟨nx, rt, bk, ct⟩ σ H1 else u ⟨nx, rt, bk, ct⟩ σ H1) : tIfS c t u ⟨nx, rt, bk, ct⟩ σ H := h
theorem w_asg (h : te σ H fun x H1 => g x σ H1 nx) : tAsg te g ⟨nx, rt, bk, ct⟩ σ H := h
theorem w_gname {R : St → Hp → Prop} (h : SetAt σ n v σ') (k : R σ' H) : gName n v σ H R := by unfold gName; rw [h.set]; exact k
theorem w_gsub {R : St → Hp → Prop} {to ti : TE} {ts : TSet} (h : to σ H fun o H1 => ti σ H1 fun i H2 => ts o i v H2 fun H3 => R σ H3) : gSub to ti ts v σ H R := h
/-! ### expressions -/
theorem w_var (h : GetAt σ n v) (k : Q v H) : tVar n σ H Q := ⟨v, h.get, k⟩
theorem w_c (k : Q v H) : tC v σ H Q := k
theorem w_op {r : R2} (h : ta σ H fun x H1 => tb σ H1 fun y H2 => r x y H2 Q) : tOp r ta tb σ H Q := h
theorem w_un {r : V → Hp → VK → Prop} (h : ta σ H fun x H1 => r x H1 Q) : tUn r ta σ H Q := h
theorem w_rI0 {f : Int → Int → V} (k : Q (f i j) H) : rI0 f (.int i) (.int j) H Q := ⟨i, j, rfl, rfl, k⟩
theorem w_rU {f : Int → V} (k : Q (f i) H) : rU f (.int i) H Q := ⟨i, rfl, k⟩
theorem w_test {Q : Bool → Hp → Prop} (h : te σ H fun x H' => ∃ k, x = .bl k ∧ Q k H') : tTest te σ H Q := h
theorem w_bl {b : Bool} {R : Bool → Prop} (h : R b) : ∃ k, V.bl b = .bl k ∧ R k := ⟨b, rfl, h⟩
theorem w_and {Q : Bool → Hp → Prop} {a b : TT} (h : a σ H fun c H1 => if c = true then b σ H1 Q else Q false H1) : tAnd a b σ H Q := h
theorem w_or {Q : Bool → Hp → Prop} {a b : TT} (h : a σ H fun c H1 => if c = true then Q true H1 else b σ H1 Q) : tOr a b σ H Q := h
theorem w_not {Q : Bool → Hp → Prop} {a : TT} (h : a σ H fun c H1 => Q (!c) H1) : tNot a σ H Q := h
theorem w_if {a : TT} (h : a σ H fun c H1 => if c = true then ta σ H1 Q else tb σ H1 Q) : tIf a ta tb σ H Q := h
/-- a value's truth -/
def zTru (K : PySem.W.Frag) (ta : TE) : TT := fun σ H Q => ta σ H fun x H' => ∃ k, TruV K x H' k ∧ Q k H'
theorem w_tru {Q : Bool → Hp → Prop} (h : ta σ H fun x H' => ∃ k, TruV K x H' k ∧ Q k H') : zTru K ta σ H Q := h
theorem w_truB {b : Bool} {R : Bool → Prop} (h : R b) : ∃ k, TruV K (V.bl b) H k ∧ R k := ⟨b, rfl, h⟩
/-! conditions -/
theorem w_dec {p : Prop} [Decidable p] {A B : Prop} (h1 : p → A) (h2 : ¬ p → B) : if decide p = true then A else B := by
  by_cases h : p
  · rw [decide_eq_true h]; exact h1 h
  · rw [decide_eq_false h]; exact h2 h
theorem w_ndec {p : Prop} [Decidable p] {A B : Prop} (h1 : ¬ p → A) (h2 : p → B) : if (!decide p) = true then A else B := by
  by_cases h : p
  · rw [decide_eq_true h]; exact h2 h
  · rw [decide_eq_false h]; exact h1 h
theorem w_ndec2 {p : Prop} [Decidable p] {A B : Prop} (h1 : p → A) (h2 : ¬ p → B) : if (!!decide p) = true then A else B := by
  by_cases h : p
  · rw [decide_eq_true h]; exact h1 h
  · rw [decide_eq_false h]; exact h2 h
theorem w_decR {α : Type} [DecidableEq α] {x : α} {A B : Prop} (h : A) : if decide (x = x) = true then A else B := by rw [decide_eq_true rfl]; exact h
theorem w_ndecR {α : Type} [DecidableEq α] {x : α} {A B : Prop} (h : B) : if (!decide (x = x)) = true then A else B := by rw [decide_eq_true rfl]; exact h
theorem w_ndec2R {α : Type} [DecidableEq α] {x : α} {A B : Prop} (h : A) : if (!!decide (x = x)) = true then A else B := by rw [decide_eq_true rfl]; exact h
theorem w_T {A B : Prop} (h : A) : if true = true then A else B := by rw [if_pos rfl]; exact h
theorem w_F {A B : Prop} (h : B) : if false = true then A else B := by rw [if_neg Bool.false_ne_true]; exact h
theorem w_nT {A B : Prop} (h : B) : if (!true) = true then A else B := by rw [if_neg (by decide)]; exact h
theorem w_nF {A B : Prop} (h : A) : if (!false) = true then A else B := by rw [if_pos (by decide)]; exact h
/-! arguments -/
theorem w_anil {Q : List V → Hp → Prop} (k : Q [] H) : tNil σ H Q := k
theorem w_acons {Q : List V → Hp → Prop} {tr : TA} (h : ta σ H fun x H1 => tr σ H1 fun xs H2 => Q (x :: xs) H2) : tCons ta tr σ H Q := h
theorem w_cb {r : List V → Hp → VK → Prop} {t : TA} (h : t σ H fun vs H1 => r vs H1 Q) : tCB r t σ H Q := h
theorem w_call {sp : Sp} {E : XK} {t : TA} (h : t σ H fun vs H1 => sp vs H1 Q E) : tCall sp [] E t σ H Q := by
  unfold tCall
  simpa only [List.append_nil] using h
/-- a new object -/
theorem w_new {o : HO} {R : Addr → Hp → Prop} (O : Own H L) (k : ∀ p H', Own H' ([(p, o)] ++ L) → R p H') : ∀ p, H p = none → R p (upd H p o) := fun p hp => k p _ (O.new hp)
def zTup (t : TA) : TE := tTup t
def NewL (xs : List V) (H : Hp) (Q : VK) : Prop := xs.length ≤ sizeLine ∧ ∀ p, H p = none → Q (.ref p) (upd H p (.lst xs))
def NewT (xs : List V) (H : Hp) (Q : VK) : Prop := xs.length ≤ sizeLine ∧ ∀ p, H p = none → Q (.ref p) (upd H p (.tup xs))
theorem w_tup {t : TA} (h : t σ H fun xs H1 => NewT xs H1 Q) : tTup t σ H Q := h
theorem w_lst {t : TA} (h : t σ H fun xs H1 => NewL xs H1 Q) : tLst t σ H Q := h
theorem w_newI {xs : List V} {ns : List Int} (hi : Ints xs ns) (hl : ns.length ≤ 16777216) (O : Own H L) (k : ∀ p H', Own H' ([(p, .lst (ns.map V.int))] ++ L) → Q (.ref p) H') : NewL xs H Q := by
  have e := hi.eq
  subst e
  exact ⟨by rw [List.length_map]; exact line hl, w_new O k⟩
theorem w_newL {xs : List V} (hl : xs.length ≤ 16777216) (O : Own H L) (k : ∀ p H', Own H' ([(p, .lst xs)] ++ L) → Q (.ref p) H') : NewL xs H Q := ⟨line hl, w_new O k⟩
theorem w_newT {xs : List V} (hl : xs.length ≤ 16777216) (O : Own H L) (k : ∀ p H', Own H' ([(p, .tup xs)] ++ L) → Q (.ref p) H') : NewT xs H Q := ⟨line hl, w_new O k⟩
/-! ### operators on values -/
theorem w_add (k : Q (.int (i + j)) H) : rI0 (fun i j => .int (i + j)) (.int i) (.int j) H Q := ⟨i, j, rfl, rfl, k⟩
theorem w_mod (h : 0 < j) (k : Q (.int (i % j)) H) : rI (fun _ j => 0 < j) (fun i j => .int (i % j)) (.int i) (.int j) H Q := ⟨i, j, rfl, rfl, h, k⟩
theorem w_pow (h : 0 ≤ j ∧ j ≤ 1000000 ∧ i.natAbs < 2 ^ 64) (k : Q (.int (i ^ j.toNat)) H) : rI CPow (fun i j => .int (i ^ j.toNat)) (.int i) (.int j) H Q := ⟨i, j, rfl, rfl, h, k⟩
end
/-! ### operators of any kind -/
section
variable {X : Cx} {K : PySem.W.Frag} {σ σ' : St} {H : Hp} {L R R' : HL} {te ta tb tc : TE} {Q : VK} {v x y : V} {i j : Int} {n : Nat} {a b p : Addr} {xs ys : List V} {ns ms : List Int} {s z : Str}
def zAdd (K : PySem.W.Frag) : R2 := fun x y H Q => match x, y with
  | .int i, .int j => Q (.int (i + j)) H
  | .str s, .str z => s.length + z.length ≤ 16777216 ∧ Q (.str (s ++ z)) H
  | .ref a, .ref b => (∃ xs ys, H a = some (.lst xs) ∧ H b = some (.lst ys) ∧ xs.length + ys.length ≤ 16777216 ∧ ∀ p, H p = none → Q (.ref p) (upd H p (.lst (xs ++ ys)))) ∨ rCatA K (.ref a) (.ref b) H Q
  | _, _ => False
theorem op_zAdd : OpR X (binaryOp .Add) (zAdd X.K) := by
  intro pins s σ H x y v u Q I rx ry h
  unfold zAdd at h
  split at h
  · exact op_add pins s σ H _ _ v u Q I rx ry ⟨_, _, rfl, rfl, h⟩
  · exact op_add_str pins s σ H _ _ v u Q I rx ry ⟨_, _, rfl, rfl, line h.1, h.2⟩
  · rcases h with ⟨xs, ys, h1, h2, h3, h4⟩ | h
    · exact op_cat pins s σ H _ _ v u Q I rx ry ⟨_, _, xs, ys, rfl, rfl, h1, h2, line h3, h4⟩
    · exact op_catA pins s σ H _ _ v u Q I rx ry h
  · exact h.elim
theorem w_addI (k : Q (.int (i + j)) H) : zAdd K (.int i) (.int j) H Q := k
theorem w_addS (h : s.length + z.length ≤ 16777216) (k : Q (.str (s ++ z)) H) : zAdd K (.str s) (.str z) H Q := ⟨h, k⟩
theorem w_addL (O : Own H L) (ha : Pk L [(a, .lst xs)] R) (hb : Pk L [(b, .lst ys)] R') (hl : xs.length + ys.length ≤ 16777216) (k : ∀ p H', Own H' ([(p, .lst (xs ++ ys))] ++ L) → Q (.ref p) H') : zAdd K (.ref a) (.ref b) H Q :=
  .inl ⟨xs, ys, O.at1 ha, O.at1 hb, hl, w_new O k⟩
theorem w_addLI (O : Own H L) (ha : Pk L [(a, .lst (ns.map V.int))] R) (hb : Pk L [(b, .lst (ms.map V.int))] R') (hl : ns.length + ms.length ≤ 16777216) (k : ∀ p H', Own H' ([(p, .lst ((ns ++ ms).map V.int))] ++ L) → Q (.ref p) H') : zAdd K (.ref a) (.ref b) H Q :=
  .inl ⟨_, _, O.at1 ha, O.at1 hb, by rw [List.length_map, List.length_map]; exact hl, by rw [← List.map_append]; exact w_new O k⟩
def zMul : R2 := fun x y H Q => match x, y with
  | .int i, .int j => CMul i j ∧ Q (.int (i * j)) H
  | .ref a, .int j => ∃ xs, H a = some (.lst xs) ∧ -(2 ^ 63) ≤ j ∧ j < 2 ^ 63 ∧ xs.length * j.toNat ≤ 16777216 ∧ ∀ p, H p = none → Q (.ref p) (upd H p (.lst (List.replicate j.toNat xs).flatten))
  | _, _ => False
theorem op_zMul : OpR X (binaryOp .Mult) zMul := by
  intro pins s σ H x y v u Q I rx ry h
  unfold zMul at h
  split at h
  · exact op_mul pins s σ H _ _ v u Q I rx ry ⟨_, _, rfl, rfl, h⟩
  · obtain ⟨xs, h1, h2, h3, h4, h5⟩ := h
    exact op_rep pins s σ H _ _ v u Q I rx ry ⟨_, _, xs, rfl, rfl, h1, h2, h3, line h4, h5⟩
  · exact h.elim
theorem w_mulI (h : (-18446744073709551616 < i ∧ i < 18446744073709551616) ∨ (-18446744073709551616 < j ∧ j < 18446744073709551616)) (k : Q (.int (i * j)) H) : zMul (.int i) (.int j) H Q := ⟨h, k⟩
theorem flat_one (m : Nat) (v : V) : (List.replicate m [v]).flatten = List.replicate m v := by
  induction m with
  | zero => rfl
  | succ m ih => rw [List.replicate_succ, List.flatten_cons, ih]; rfl
theorem w_repI (O : Own H L) (ha : Pk L [(a, .lst ([i].map V.int))] R) (hl : j ≤ 16777216) (h0 : -16777216 ≤ j) (k : ∀ p H', Own H' ([(p, .lst ((List.replicate j.toNat i).map V.int))] ++ L) → Q (.ref p) H') : zMul (.ref a) (.int j) H Q := by
  refine ⟨[.int i], O.at1 ha, by omega, by omega, ?_, ?_⟩
  · show 1 * j.toNat ≤ 16777216
    omega
  · rw [flat_one, ← List.map_replicate]
    exact w_new O k
/-- // by a positive number -/
def zDiv : R2 := fun x y H Q => ∃ i j, x = .int i ∧ y = .int j ∧ (0 < j ∧ j < 18446744073709551616) ∧ Q (.int (i / j)) H
theorem op_zDiv : OpR X (binaryOp .FloorDiv) zDiv := by
  intro pins s σ H x y v u Q I rx ry h
  obtain ⟨i, j, e1, e2, ⟨h1, h2⟩, q⟩ := h
  refine op_fdivW pins s σ H _ _ v u Q I rx ry ⟨i, j, e1, e2, ⟨h1, ?_⟩, q⟩
  have h3 : j.natAbs ≠ 0 := by omega
  have h4 : j.natAbs < 2 ^ 9000 := Nat.lt_of_lt_of_le (show j.natAbs < 2 ^ 64 by omega) (Nat.pow_le_pow_right (by decide) (by decide))
  exact (Nat.log2_lt h3).mpr h4
theorem w_div (h1 : 0 < j) (h2 : j < 18446744073709551616) (k : Q (.int (i / j)) H) : zDiv (.int i) (.int j) H Q := ⟨i, j, rfl, rfl, ⟨h1, h2⟩, k⟩
def zMod : R2 := rI (fun _ j => 0 < j) fun i j => .int (i % j)
theorem op_zMod : OpR X (binaryOp .Mod) zMod := op_mod
theorem w_modI (h : 0 < j) (k : Q (.int (i % j)) H) : zMod (.int i) (.int j) H Q := ⟨i, j, rfl, rfl, h, k⟩
def zPow : R2 := rI CPow fun i j => .int (i ^ j.toNat)
theorem op_zPow : OpR X (binaryOp .Pow) zPow := op_pow
theorem w_powI (h0 : 0 ≤ j) (h1 : j ≤ 1000000) (h : -18446744073709551616 < i) (h2 : i < 18446744073709551616) (k : Q (.int (i ^ j.toNat)) H) : zPow (.int i) (.int j) H Q := ⟨i, j, rfl, rfl, ⟨h0, h1, by omega⟩, k⟩
def zSub : R2 := rI0 fun i j => .int (i - j)
theorem op_zSub : OpR X (binaryOp .Sub) zSub := op_sub
theorem w_subI (k : Q (.int (i - j)) H) : zSub (.int i) (.int j) H Q := ⟨i, j, rfl, rfl, k⟩
def zNeg : V → Hp → VK → Prop := rU fun i => .int (-i)
theorem un_zNeg : UnR X (unaryOp .USub) zNeg := un_neg
theorem w_neg (k : Q (.int (-i)) H) : zNeg (.int i) H Q := ⟨i, rfl, k⟩
/-! comparisons -/
def zLt : R2 := rI0 fun i j => .bl (decide (i < j))
def zLe : R2 := rI0 fun i j => .bl (decide (i ≤ j))
def zGt : R2 := rI0 fun i j => .bl (decide (j < i))
def zGe : R2 := rI0 fun i j => .bl (decide (j ≤ i))
theorem op_zLt : OpR X (compareOp .Lt) zLt := op_lt
theorem op_zLe : OpR X (compareOp .LtE) zLe := op_le
theorem op_zGt : OpR X (compareOp .Gt) zGt := op_gt
theorem op_zGe : OpR X (compareOp .GtE) zGe := op_ge
theorem w_lt (k : Q (.bl (decide (i < j))) H) : zLt (.int i) (.int j) H Q := ⟨i, j, rfl, rfl, k⟩
theorem w_le (k : Q (.bl (decide (i ≤ j))) H) : zLe (.int i) (.int j) H Q := ⟨i, j, rfl, rfl, k⟩
theorem w_gt (k : Q (.bl (decide (j < i))) H) : zGt (.int i) (.int j) H Q := ⟨i, j, rfl, rfl, k⟩
theorem w_ge (k : Q (.bl (decide (j ≤ i))) H) : zGe (.int i) (.int j) H Q := ⟨i, j, rfl, rfl, k⟩
def zEq (K : PySem.W.Frag) : R2 := fun x y H Q => (scal x y = true ∧ Q (.bl (decide (x = y))) H) ∨ rEqD K x y H Q
def zNe (K : PySem.W.Frag) : R2 := fun x y H Q => (scal x y = true ∧ Q (.bl (!decide (x = y))) H) ∨ rNeD K x y H Q
theorem op_zEq (hu : X.A.units + 64 < cLine) : OpR X (compareOp .Eq) (zEq X.K) := by
  intro pins s σ H x y v u Q I rx ry h
  rcases h with h | h
  · exact op_eq pins s σ H _ _ v u Q I rx ry h
  · exact op_eqD hu pins s σ H _ _ v u Q I rx ry h
theorem op_zNe (hu : X.A.units + 64 < cLine) : OpR X (compareOp .NotEq) (zNe X.K) := by
  intro pins s σ H x y v u Q I rx ry h
  rcases h with h | h
  · exact op_ne pins s σ H _ _ v u Q I rx ry h
  · exact op_neD hu pins s σ H _ _ v u Q I rx ry h
theorem dI : decide (V.int i = V.int j) = decide (i = j) := by simp
theorem dS : decide (V.str s = V.str z) = decide (s = z) := by simp
theorem dB {c d : Bool} : decide (V.bl c = V.bl d) = decide (c = d) := by simp
theorem w_eqI (k : Q (.bl (decide (i = j))) H) : zEq K (.int i) (.int j) H Q := .inl ⟨rfl, by rw [dI]; exact k⟩
theorem w_neI (k : Q (.bl (!decide (i = j))) H) : zNe K (.int i) (.int j) H Q := .inl ⟨rfl, by rw [dI]; exact k⟩
theorem w_eqS (k : Q (.bl (decide (s = z))) H) : zEq K (.str s) (.str z) H Q := .inl ⟨rfl, by rw [dS]; exact k⟩
theorem w_neS (k : Q (.bl (!decide (s = z))) H) : zNe K (.str s) (.str z) H Q := .inl ⟨rfl, by rw [dS]; exact k⟩
theorem w_eqB {c d : Bool} (k : Q (.bl (decide (c = d))) H) : zEq K (.bl c) (.bl d) H Q := .inl ⟨rfl, by rw [dB]; exact k⟩
theorem w_neB {c d : Bool} (k : Q (.bl (!decide (c = d))) H) : zNe K (.bl c) (.bl d) H Q := .inl ⟨rfl, by rw [dB]; exact k⟩
theorem dpI : ∀ ns : List Int, DpAll K H (ns.map V.int) (ns.map PyData.int)
  | [] => .nil
  | i :: ns => .cons (.int i) (dpI ns)
theorem eqvI : ∀ ns ms : List Int, PyData.eqvAll (ns.map PyData.int) (ms.map PyData.int) = decide (ns = ms)
  | [], [] => rfl
  | [], _ :: _ => rfl
  | _ :: _, [] => rfl
  | i :: ns, j :: ms => by
    show (PyData.eqv (.int i) (.int j) && PyData.eqvAll (ns.map PyData.int) (ms.map PyData.int)) = _
    rw [eqvI ns ms]
    show ((i == j) && decide (ns = ms)) = _
    by_cases h : i = j
    · subst h; simp
    · simp [h]
theorem shI : ∀ ns : List Int, SeqAt.shaped (.list (ns.map PyData.int)) = true := fun ns => by
  have h1 : ∀ ns : List Int, PyData.canLayAll0 (ns.map PyData.int) = true := fun ns => by
    induction ns with
    | nil => rfl
    | cons i ns ih => show (PyData.canLay0 (.int i) && PyData.canLayAll0 (ns.map PyData.int)) = true; rw [ih]; rfl
  have h2 : ∀ ns : List Int, PyData.depthAll (ns.map PyData.int) = 0 := fun ns => by
    induction ns with
    | nil => rfl
    | cons i ns ih => show max (PyData.depth (.int i)) (PyData.depthAll (ns.map PyData.int)) = 0; rw [ih]; rfl
  show (PyData.canLayAll0 (ns.map PyData.int) && decide (PyData.depthAll (ns.map PyData.int) + 1 ≤ 64)) = true
  rw [h1, h2]
  rfl
theorem w_eqL (O : Own H L) (ha : Pk L [(a, .lst (ns.map V.int))] R) (hb : Pk L [(b, .lst (ms.map V.int))] R') (k : Q (.bl (decide (ns = ms))) H) : zEq K (.ref a) (.ref b) H Q :=
  .inr ⟨.list (ns.map PyData.int), .list (ms.map PyData.int), .lst (.of (O.at1 ha)) (dpI ns), .lst (.of (O.at1 hb)) (dpI ms), shI ns, shI ms, by show Q (.bl (PyData.eqvAll _ _)) H; rw [eqvI]; exact k⟩
theorem w_neL (O : Own H L) (ha : Pk L [(a, .lst (ns.map V.int))] R) (hb : Pk L [(b, .lst (ms.map V.int))] R') (k : Q (.bl (!decide (ns = ms))) H) : zNe K (.ref a) (.ref b) H Q :=
  .inr ⟨.list (ns.map PyData.int), .list (ms.map PyData.int), .lst (.of (O.at1 ha)) (dpI ns), .lst (.of (O.at1 hb)) (dpI ms), shI ns, shI ms, by show Q (.bl (!PyData.eqvAll _ _)) H; rw [eqvI]; exact k⟩
def zIs : R2 := fun x y H Q => y = .non ∧ Q (.bl (decide (x = .non))) H
def zIsNot : R2 := fun x y H Q => y = .non ∧ Q (.bl (!decide (x = .non))) H
theorem op_zIs : OpR X (compareOp .Is) zIs := op_isN
theorem op_zIsNot : OpR X (compareOp .IsNot) zIsNot := op_notN
theorem w_isN (k : Q (.bl true) H) : zIs .non .non H Q := ⟨rfl, k⟩
theorem w_isR (k : Q (.bl false) H) : zIs (.ref a) .non H Q := ⟨rfl, k⟩
theorem w_isI (k : Q (.bl false) H) : zIs (.int i) .non H Q := ⟨rfl, k⟩
theorem w_nisN (k : Q (.bl false) H) : zIsNot .non .non H Q := ⟨rfl, k⟩
theorem w_nisR (k : Q (.bl true) H) : zIsNot (.ref a) .non H Q := ⟨rfl, k⟩
theorem w_nisI (k : Q (.bl true) H) : zIsNot (.int i) .non H Q := ⟨rfl, k⟩
/-! ### items and slices -/
theorem atI_int {i : Int} (h0 : 0 ≤ i) (h1 : i < ns.length) : atI (ns.map V.int) i = some (.int (ns.getD i.toNat 0)) := by
  obtain ⟨k, rfl⟩ : ∃ k : Nat, i = k := ⟨i.toNat, by omega⟩
  have hk : k < ns.length := by omega
  refine atI_nat ?_
  rw [List.getElem?_map, List.getElem?_eq_getElem hk]
  simp [List.getD, hk]
theorem w_ixI (O : Own H L) (ha : Pk L [(a, .lst (ns.map V.int))] R) (h0 : 0 ≤ i) (h1 : i < ns.length) (k : Q (.int (ns.getD i.toNat 0)) H) : rIx K (.ref a) (.int i) H Q :=
  .inl ⟨a, _, i, _, rfl, rfl, .of (O.at1 ha), atI_int h0 h1, k⟩
/-- an item of a short written list -/
theorem w_ixM (O : Own H L) (ha : Pk L [(a, .lst (ns.map V.int))] R) (h0 : 0 ≤ i) (h1 : i < ns.length) (k : ∀ m, m ∈ ns → Q (.int m) H) : rIx K (.ref a) (.int i) H Q := by
  refine w_ixI O ha h0 h1 (k _ ?_)
  have hk : i.toNat < ns.length := by omega
  simp only [List.getD, List.getElem?_eq_getElem hk, Option.getD_some]
  exact List.getElem_mem hk
theorem w_ixL (O : Own H L) (ha : Pk L [(a, .lst xs)] R) (h : atI xs i = some v) (k : Q v H) : rIx K (.ref a) (.int i) H Q := .inl ⟨a, _, i, _, rfl, rfl, .of (O.at1 ha), h, k⟩
theorem w_ixT (O : Own H L) (ha : Pk L [(a, .tup xs)] R) (h : atI xs i = some v) (k : Q v H) : rIx K (.ref a) (.int i) H Q := .inr (.inl ⟨a, _, i, _, rfl, rfl, .of (O.at1 ha), h, k⟩)
def zSl (K : PySem.W.Frag) : V → Option Int → Option Int → Hp → VK → Prop := fun x lo hi H Q => rSlL K x lo hi H Q ∨ rSlT K x lo hi H Q ∨ rSlS x lo hi H Q
theorem sl_z : SlR X (zSl X.K) := sl_list.or (sl_tup.or sl_str)
theorem w_sl {r : V → Option Int → Option Int → Hp → VK → Prop} {tl th : TO} (h : te σ H fun x H1 => tl σ H1 fun l H2 => th σ H2 fun u H3 => r x l u H3 Q) : tSl r te tl th σ H Q := h
def PartR (x : V) (Q : Option Int → Hp → Prop) (H : Hp) : Prop := ∃ i, x = .int i ∧ Q (some i) H
theorem w_part {Q : Option Int → Hp → Prop} (h : te σ H fun x H1 => PartR x Q H1) : tPart te σ H Q := h
theorem w_partI {Q : Option Int → Hp → Prop} (h : Q (some i) H) : PartR (.int i) Q H := ⟨i, rfl, h⟩
theorem w_npart {Q : Option Int → Hp → Prop} (h : Q none H) : tNoPart σ H Q := h
/-- a slice of ints -/
def cutI (ns : List Int) (lo hi : Option Int) : List Int := (ns.drop (HT.sIx ns.length 0 lo)).take (HT.sIx ns.length ns.length hi - HT.sIx ns.length 0 lo)
theorem cut_int (ns : List Int) (lo hi : Option Int) : cutV (ns.map V.int) lo hi = (cutI ns lo hi).map V.int := by
  unfold cutV cutI
  rw [List.length_map, List.map_take, List.map_drop]
theorem w_slI {lo hi : Option Int} (O : Own H L) (ha : Pk L [(a, .lst (ns.map V.int))] R) (k : ∀ p H', Own H' ([(p, .lst ((cutI ns lo hi).map V.int))] ++ L) → Q (.ref p) H') : zSl K (.ref a) lo hi H Q :=
  .inl ⟨a, _, rfl, .of (O.at1 ha), by rw [cut_int]; exact w_new O k⟩
theorem cutI_take {k : Int} (h : 0 ≤ k) : cutI ns none (some k) = ns.take k.toNat := by
  obtain ⟨m, rfl⟩ : ∃ m : Nat, k = m := ⟨k.toNat, by omega⟩
  unfold cutI
  rw [HT.sIx_none, HT.sIx_nat]
  simp only [List.drop_zero, Nat.sub_zero, Int.toNat_natCast]
  exact List.take_eq_take_min.symm
theorem cutI_drop {k : Int} (h : 0 ≤ k) : cutI ns (some k) none = ns.drop k.toNat := by
  obtain ⟨m, rfl⟩ : ∃ m : Nat, k = m := ⟨k.toNat, by omega⟩
  unfold cutI
  rw [HT.sIx_none, HT.sIx_nat]
  simp only [Int.toNat_natCast]
  by_cases h : m ≤ ns.length
  · rw [Nat.min_eq_left h]
    exact List.take_of_length_le (by simp)
  · rw [Nat.min_eq_right (show ns.length ≤ m by omega), List.drop_eq_nil_of_le (Nat.le_refl _), List.drop_eq_nil_of_le (by omega), List.take_nil]
theorem cutI_mid {k m : Int} (h : 0 ≤ k) (h2 : 0 ≤ m) : cutI ns (some k) (some m) = (ns.take m.toNat).drop k.toNat := by
  obtain ⟨k, rfl⟩ : ∃ x : Nat, k = x := ⟨k.toNat, by omega⟩
  obtain ⟨m, rfl⟩ : ∃ x : Nat, m = x := ⟨m.toNat, by omega⟩
  unfold cutI
  rw [HT.sIx_nat, HT.sIx_nat]
  simp only [Int.toNat_natCast]
  rw [List.drop_take]
  refine List.ext_getElem? fun i => ?_
  simp only [List.getElem?_take, List.getElem?_drop]
  by_cases h1 : k ≤ ns.length
  · rw [Nat.min_eq_left h1]
    by_cases h3 : m ≤ ns.length
    · rw [Nat.min_eq_left h3]
    · rw [Nat.min_eq_right (show ns.length ≤ m by omega)]
      by_cases h4 : i < ns.length - k
      · rw [if_pos h4, if_pos (by omega)]
      · rw [if_neg h4]
        split
        · exact (List.getElem?_eq_none (by omega)).symm
        · rfl
  · rw [Nat.min_eq_right (show ns.length ≤ k by omega)]
    rw [if_neg (by omega)]
    split
    · exact (List.getElem?_eq_none (by omega)).symm
    · rfl
theorem w_slTake (O : Own H L) (ha : Pk L [(a, .lst (ns.map V.int))] R) (h : 0 ≤ i) (k : ∀ p H', Own H' ([(p, .lst ((ns.take i.toNat).map V.int))] ++ L) → Q (.ref p) H') : zSl K (.ref a) none (some i) H Q :=
  w_slI O ha (by rw [cutI_take h]; exact k)
theorem w_slDrop (O : Own H L) (ha : Pk L [(a, .lst (ns.map V.int))] R) (h : 0 ≤ i) (k : ∀ p H', Own H' ([(p, .lst ((ns.drop i.toNat).map V.int))] ++ L) → Q (.ref p) H') : zSl K (.ref a) (some i) none H Q :=
  w_slI O ha (by rw [cutI_drop h]; exact k)
theorem w_slMid (O : Own H L) (ha : Pk L [(a, .lst (ns.map V.int))] R) (h : 0 ≤ i) (h2 : 0 ≤ j) (k : ∀ p H', Own H' ([(p, .lst (((ns.take j.toNat).drop i.toNat).map V.int))] ++ L) → Q (.ref p) H') : zSl K (.ref a) (some i) (some j) H Q :=
  w_slI O ha (by rw [cutI_mid h h2]; exact k)
theorem w_slL {lo hi : Option Int} (O : Own H L) (ha : Pk L [(a, .lst xs)] R) (k : ∀ p H', Own H' ([(p, .lst (cutV xs lo hi))] ++ L) → Q (.ref p) H') : zSl K (.ref a) lo hi H Q :=
  .inl ⟨a, _, rfl, .of (O.at1 ha), w_new O k⟩
theorem w_slS {lo hi : Option Int} (h : s.length ≤ 16777216) (k : Q (.str (cutS s lo hi)) H) : zSl K (.str s) lo hi H Q := .inr (.inr ⟨s, rfl, line h, k⟩)
/-! stores -/
theorem ixN_nn {n : Nat} {i : Int} (h0 : 0 ≤ i) (h1 : i < n) : ixN n i = some i.toNat := by unfold ixN; rw [if_pos h0, if_pos h1]
theorem map_setI (ns : List Int) (k : Nat) (j : Int) : (ns.map V.int).set k (.int j) = (ns.set k j).map V.int := by rw [List.map_set]
theorem w_setI {R2 : Hp → Prop} (O : Own H L) (ha : Pk L [(a, .lst (ns.map V.int))] R) (h0 : 0 ≤ i) (h1 : i < ns.length) (k : ∀ H', Own H' ([(a, .lst ((ns.set i.toNat j).map V.int))] ++ R) → R2 H') : rSetL (.ref a) (.int i) (.int j) H R2 :=
  ⟨a, _, i, i.toNat, rfl, rfl, O.at1 ha, ixN_nn h0 (by rw [List.length_map]; exact h1), by rw [map_setI]; exact k _ (O.put ha)⟩
theorem w_setL {R2 : Hp → Prop} (O : Own H L) (ha : Pk L [(a, .lst xs)] R) (h0 : 0 ≤ i) (h1 : i < xs.length) (k : ∀ H', Own H' ([(a, .lst (xs.set i.toNat v))] ++ R) → R2 H') : rSetL (.ref a) (.int i) v H R2 :=
  ⟨a, _, i, i.toNat, rfl, rfl, O.at1 ha, ixN_nn h0 h1, k _ (O.put ha)⟩
/-! ### built-ins -/
def zLen (K : PySem.W.Frag) : List V → Hp → VK → Prop := fun xs H Q => ∃ x n, xs = [x] ∧ LenV K x H n ∧ Q (.int n) H
theorem call_zLen : CallR X (.builtin "len") (zLen X.K) := call_len
theorem w_lenI (O : Own H L) (ha : Pk L [(a, .lst (ns.map V.int))] R) (k : Q (.int ns.length) H) : zLen K [.ref a] H Q := ⟨_, ns.length, rfl, .inl ⟨_, .of (O.at1 ha), by rw [List.length_map]⟩, k⟩
theorem w_lenL (O : Own H L) (ha : Pk L [(a, .lst xs)] R) (k : Q (.int xs.length) H) : zLen K [.ref a] H Q := ⟨_, xs.length, rfl, .inl ⟨_, .of (O.at1 ha), rfl⟩, k⟩
theorem w_lenT (O : Own H L) (ha : Pk L [(a, .tup xs)] R) (k : Q (.int xs.length) H) : zLen K [.ref a] H Q := ⟨_, xs.length, rfl, .inr ⟨_, .of (O.at1 ha), rfl⟩, k⟩
theorem w_lenS (h : s.length ≤ 16777216) (k : Q (.int s.length) H) : zLen K [.str s] H Q := ⟨_, s.length, rfl, ⟨line h, rfl⟩, k⟩
def zList (K : PySem.W.Frag) : List V → Hp → VK → Prop := fun xs H Q => ∃ p ys, xs = [.ref p] ∧ (SqL K H p ys ∨ SqT K H p ys) ∧ ∀ l, H l = none → Q (.ref l) (upd H l (.lst ys))
theorem call_zList : CallR X (.type "list") (zList X.K) := call_list_of
theorem w_list (O : Own H L) (ha : Pk L [(a, .lst xs)] R) (k : ∀ p H', Own H' ([(p, .lst xs)] ++ L) → Q (.ref p) H') : zList K [.ref a] H Q := ⟨a, _, rfl, .inl (.of (O.at1 ha)), w_new O k⟩
theorem w_listT (O : Own H L) (ha : Pk L [(a, .tup xs)] R) (k : ∀ p H', Own H' ([(p, .lst xs)] ++ L) → Q (.ref p) H') : zList K [.ref a] H Q := ⟨a, _, rfl, .inr (.of (O.at1 ha)), w_new O k⟩
def zMax : List V → Hp → VK → Prop := fun xs H Q => ∃ i j, xs = [.int i, .int j] ∧ Q (.int (max i j)) H
def zMin : List V → Hp → VK → Prop := fun xs H Q => ∃ i j, xs = [.int i, .int j] ∧ Q (.int (min i j)) H
theorem call_zMax (hc : X.calm = true) : CallR X (.builtin "max") zMax := by
  intro pins s σ H xs us Q I r h
  obtain ⟨i, j, e, q⟩ := h
  refine call_max2 hc pins s σ H xs us Q I r ⟨i, j, e, ?_⟩
  have z : (if j > i then j else i) = max i j := by split <;> omega
  rw [z]
  exact q
theorem call_zMin (hc : X.calm = true) : CallR X (.builtin "min") zMin := by
  intro pins s σ H xs us Q I r h
  obtain ⟨i, j, e, q⟩ := h
  refine call_min2 hc pins s σ H xs us Q I r ⟨i, j, e, ?_⟩
  have z : (if j < i then j else i) = min i j := by split <;> omega
  rw [z]
  exact q
theorem w_max (k : Q (.int (max i j)) H) : zMax [.int i, .int j] H Q := ⟨i, j, rfl, k⟩
theorem w_min (k : Q (.int (min i j)) H) : zMin [.int i, .int j] H Q := ⟨i, j, rfl, k⟩
def zIsi (K : PySem.W.Frag) : List V → Hp → VK → Prop := rIsi K
theorem call_zIsi : CallR X (.builtin "isinstance") (zIsi X.K) := call_isi
theorem w_isiL {T : String} {c : Bool} (O : Own H L) (ha : Pk L [(a, .lst xs)] R) (h : kitB "list" T = some c) (k : Q (.bl c) H) : zIsi K [.ref a, .ty T] H Q :=
  ⟨_, _, _, _, c, rfl, .ty T, .base (.lst (O.at1 ha)), h, k⟩
theorem w_isiT {T : String} {c : Bool} (O : Own H L) (ha : Pk L [(a, .tup xs)] R) (h : kitB "tuple" T = some c) (k : Q (.bl c) H) : zIsi K [.ref a, .ty T] H Q :=
  ⟨_, _, _, _, c, rfl, .ty T, .base (.tup (O.at1 ha)), h, k⟩
theorem w_isiI {T : String} {c : Bool} (h : kitB "int" T = some c) (k : Q (.bl c) H) : zIsi K [.int i, .ty T] H Q := ⟨_, _, _, _, c, rfl, .ty T, .base (.int i), h, k⟩
theorem w_isiS {T : String} {c : Bool} (h : kitB "str" T = some c) (k : Q (.bl c) H) : zIsi K [.str s, .ty T] H Q := ⟨_, _, _, _, c, rfl, .ty T, .base (.str s), h, k⟩
theorem w_isiN {T : String} {c : Bool} (h : kitB "NoneType" T = some c) (k : Q (.bl c) H) : zIsi K [.non, .ty T] H Q := ⟨_, _, _, _, c, rfl, .ty T, .base .non, h, k⟩
theorem w_isiB {T : String} {c d : Bool} (h : kitB "bool" T = some c) (k : Q (.bl c) H) : zIsi K [.bl d, .ty T] H Q := ⟨_, _, _, _, c, rfl, .ty T, .base (.bl d), h, k⟩
def zInt : List V → Hp → VK → Prop := fun xs H Q => (∃ i, xs = [.int i] ∧ Q (.int i) H) ∨ ∃ k, xs = [.bl k] ∧ Q (.int (if k then 1 else 0)) H
theorem call_zInt : CallR X (.type "int") zInt := call_int1
theorem w_intI (k : Q (.int i) H) : zInt [.int i] H Q := .inl ⟨i, rfl, k⟩
theorem w_intB {c : Bool} (k : Q (.int (if c then 1 else 0)) H) : zInt [.bl c] H Q := .inr ⟨c, rfl, k⟩
def zAll (K : PySem.W.Frag) : List V → Hp → VK → Prop := rAll K
theorem call_zAll (hc : X.calm = true) : CallR X (.builtin "all") (zAll X.K) := cr_all hc
theorem w_all {bs : List Bool} (O : Own H L) (ha : Pk L [(a, .lst (bs.map V.bl))] R) (k : Q (.bl (bs.all id)) H) : zAll K [.ref a] H Q := ⟨a, bs, rfl, .of (O.at1 ha), k⟩
def zAny (K : PySem.W.Frag) : List V → Hp → VK → Prop := rAny K
theorem call_zAny (hc : X.calm = true) : CallR X (.builtin "any") (zAny X.K) := cr_any hc
theorem w_any {bs : List Bool} (O : Own H L) (ha : Pk L [(a, .lst (bs.map V.bl))] R) (k : Q (.bl (bs.any id)) H) : zAny K [.ref a] H Q := ⟨a, bs, rfl, .of (O.at1 ha), k⟩
/-! ### methods of lists -/
theorem tyL (K : PySem.W.Frag) (O : Own H L) (ha : Pk L [(a, .lst xs)] R) : tyV K "list" (.ref a) H := .inl ⟨rfl, _, .of (O.at1 ha)⟩
theorem w_bm {T : String} {r : V → List V → Hp → VK → Prop} {to : TE} {t : TA} (h : to σ H fun x H1 => tyV K T x H1 ∧ t σ H1 fun xs H2 => r x xs H2 Q) : tBM K T r to t σ H Q := h
theorem w_bm0 {T : String} {r : V → List V → Hp → VK → Prop} {to : TE} (h : to σ H fun x H1 => tyV K T x H1 ∧ r x [] H1 Q) : tBM0 K T r to σ H Q := h
theorem w_tyL {P : Prop} (O : Own H L) (ha : Pk L [(a, .lst xs)] R) (k : P) : tyV K "list" (.ref a) H ∧ P := ⟨tyL K O ha, k⟩
theorem w_appI (O : Own H L) (ha : Pk L [(a, .lst (ns.map V.int))] R) (h : ns.length < 16777216) (k : ∀ H', Own H' ([(a, .lst ((ns ++ [i]).map V.int))] ++ R) → Q .non H') : rAppend (.ref a) [.int i] H Q :=
  ⟨a, _, _, rfl, rfl, O.at1 ha, by rw [List.length_map]; exact lineS h, by
    have e : ns.map V.int ++ [V.int i] = (ns ++ [i]).map V.int := by rw [List.map_append]; rfl
    rw [e]
    exact k _ (O.put ha)⟩
theorem w_appL (O : Own H L) (ha : Pk L [(a, .lst xs)] R) (h : xs.length < 16777216) (k : ∀ H', Own H' ([(a, .lst (xs ++ [v]))] ++ R) → Q .non H') : rAppend (.ref a) [v] H Q :=
  ⟨a, _, _, rfl, rfl, O.at1 ha, lineS h, k _ (O.put ha)⟩
end

/-! ### built-in names -/
theorem bt_len : bootBuiltins "len" = some (.builtin "len") := by decide +kernel
theorem bt_max : bootBuiltins "max" = some (.builtin "max") := by decide +kernel
theorem bt_min : bootBuiltins "min" = some (.builtin "min") := by decide +kernel
theorem bt_all : bootBuiltins "all" = some (.builtin "all") := by decide +kernel
theorem bt_any : bootBuiltins "any" = some (.builtin "any") := by decide +kernel
theorem bt_sum : bootBuiltins "sum" = some (.builtin "sum") := by decide +kernel
theorem bt_repr : bootBuiltins "repr" = some (.builtin "repr") := by decide +kernel
theorem bt_divmod : bootBuiltins "divmod" = some (.builtin "divmod") := by decide +kernel
theorem bt_isinstance : bootBuiltins "isinstance" = some (.builtin "isinstance") := by decide +kernel
theorem bt_list : bootBuiltins "list" = some (.type "list") := by decide +kernel
theorem bt_int : bootBuiltins "int" = some (.type "int") := by decide +kernel
theorem bt_str : bootBuiltins "str" = some (.type "str") := by decide +kernel
theorem bt_bool : bootBuiltins "bool" = some (.type "bool") := by decide +kernel
theorem bt_tuple : bootBuiltins "tuple" = some (.type "tuple") := by decide +kernel
theorem bt_dict : bootBuiltins "dict" = some (.type "dict") := by decide +kernel
theorem bt_ValueError : bootBuiltins "ValueError" = some (.type "ValueError") := by decide +kernel
/-! ### defs -/
/-- a def that may be called by its name -/
structure Cal (P : Program) (w : World) (K : PySem.W.Frag) (mg : Str → Option Value) (base : Heap) (k : Nat) (x : Str) (sp : Sp) (dvs : List V) : Prop where
  ex : ∃ (f : Addr) (fd : FuncData) (ps : List Str) (ds : List Value), FnOk P w K mg base (L2.CX P w) k f fd ps sp ∧ mg x = some (.ref f) ∧ PySem.W.keepIn K (.ref f) = true ∧ Binds K fd ps ds ∧ Vals dvs ds
/-- a def of the text, as the top left it -/
structure Dfn (K : PySem.W.Frag) (mg : Str → Option Value) (x : Str) (st : Stmt) (dvs : List V) (kws : List (Str × V)) (f : Addr) (fd : FuncData) : Prop where
  fn : FunD K x x (defArgs st) (defBody st) (defScope st) dvs kws f fd
  mgf : mg x = some (.ref f)
section
variable {P : Program} {w : World} {K : PySem.W.Frag} {mg : Str → Option Value} {base : Heap}
/-- a def that raises nothing, by its body -/
theorem cal_nox {x : Str} {st : Stmt} {N ps : List Str} {k : Nat} {sp : Sp} (d : ∃ f fd, Dfn K mg x st [] [] f fd) (S : FnScope N ps (defScope st))
    (hb : ∀ (kV doc pm : Value) (an : Option Addr) (cdv ct : Value) (us : List Value), us.length = ps.length → bindArgs (PySem.W.fnOf x x (defArgs st) (defBody st) (defScope st) .none kV doc pm an cdv ct) ⟨us, []⟩ = pure (ps.zip us))
    (len : ∀ vs H Q E, sp vs H Q E → vs.length = ps.length)
    (hbody : ∀ (cdv : Value) (A : Around) (outer : List Env) (s : Shared) (f : Addr) (H : Hp) (vs : List V) (Q : VK) (E : XK), Room k (A.deeper (PyProof.Rows.envOfC x (defScope st) s.heap.objs.size f cdv)) → sp vs H Q E →
      ∃ t, PSs (cxOf (L2.CX P w) P w K mg base N x (defScope st) f cdv A outer s H E).nox (defBody st) t ∧ t ⟨fun _ H' => Q .non H', Q, fun _ _ => False, fun _ _ => False⟩ (start N vs) H) : Cal P w K mg base (k + 1) x sp [] := by
  obtain ⟨f, fd, F, hm⟩ := d
  refine ⟨f, fd, ps, [], ?_, hm, F.kp, F.bindsN hb, .nil⟩
  refine F.ok S len fun cdv A outer s H vs Q E hr h => ?_
  obtain ⟨t, h1, h2⟩ := hbody cdv A outer s f H vs Q E hr h
  exact ⟨t, h1.nox, h2⟩
/-- the law's own def -/
theorem law_nox {x : Str} {st : Stmt} {f : Addr} {fd : FuncData} {N ps : List Str} {k : Nat} {sp : Sp} (F : FunD K x x (defArgs st) (defBody st) (defScope st) [] [] f fd) (S : FnScope N ps (defScope st))
    (len : ∀ vs H Q E, sp vs H Q E → vs.length = ps.length)
    (hbody : ∀ (cdv : Value) (A : Around) (outer : List Env) (s : Shared) (H : Hp) (vs : List V) (Q : VK) (E : XK), Room k (A.deeper (PyProof.Rows.envOfC x (defScope st) s.heap.objs.size f cdv)) → sp vs H Q E →
      ∃ t, PSs (cxOf CX0 P w K mg base N x (defScope st) f cdv A outer s H E).nox (defBody st) t ∧ t ⟨fun _ H' => Q .non H', Q, fun _ _ => False, fun _ _ => False⟩ (start N vs) H) : FnOk P w K mg base CX0 (k + 1) f fd ps sp := by
  refine F.ok S len fun cdv A outer s H vs Q E hr h => ?_
  obtain ⟨t, h1, h2⟩ := hbody cdv A outer s H vs Q E hr h
  exact ⟨t, h1.nox, h2⟩
end
section
variable {X : Cx} {j k : Nat} {x : Str} {sp : Sp} {dvs : List V} {p pos : Pos} {e : Expr} {es : List Expr} {t : TA} {te : TE}
/-- f(..), nothing is raised -/
theorem pe_c0 (c : Cal X.prog X.w X.K X.mg X.base k x sp dvs) (hr : Room j X.A) (hk : k ≤ j) (hg : Gl X x) (ha : PA X (e :: es) t)
    (hdb : (x == ("__debug__" : Str)) = false := by decide) (he : starEach (e :: es) X.env = (false, eval e X.env) :: starEach es X.env := by rfl) (hpl : (backTo pos (starEach es X.env)).any (·.1) = false := by rfl) :
    PE X (.Call (.Name x p) (e :: es) [] pos) (tCall sp dvs E0 t) := by
  obtain ⟨f, fd, ps, ds, F, hm, kp, b, d⟩ := c.ex
  exact pe_call F (hr.mono hk) hg hm kp b d passL ha hdb he hpl
theorem pe_c00 (c : Cal X.prog X.w X.K X.mg X.base k x sp dvs) (hr : Room j X.A) (hk : k ≤ j) (hg : Gl X x) (hdb : (x == ("__debug__" : Str)) = false := by decide) :
    PE X (.Call (.Name x p) [] [] pos) (tCall sp dvs E0 tNil) := by
  obtain ⟨f, fd, ps, ds, F, hm, kp, b, d⟩ := c.ex
  exact pe_call0 F (hr.mono hk) hg hm kp b d passL hdb
theorem pt_z {a : Expr} {ta : TE} (ha : PE X a ta) (he : ∀ whole, isTrue a X.env whole = (do let v ← whole; standAt a.pos; holding [v] (truthy v)) := by intro _; rfl) : PT X a (zTru X.K ta) := pt_truth ha he
end
theorem uI {A : Around} {k : Nat} (hr : Room k A) : A.units + 64 < cLine := by have := hr.un; omega
/-- the names at the entry -/
theorem w_start {N : List Str} {vs : List V} {σ : St} {H : Hp} {t : TS} {D : Ends} (e : start N vs = σ) (h : t D σ H) : t D (start N vs) H := by rw [e]; exact h

/-! ### items of written lists -/
inductive GetI {α : Type} : List α → Nat → α → Prop where
  | z {x : α} {l : List α} : GetI (x :: l) 0 x
  | s {x y : α} {l : List α} {i : Nat} : GetI l i x → GetI (y :: l) (i + 1) x
theorem GetI.get {α : Type} {l : List α} {i : Nat} {x : α} (h : GetI l i x) : l[i]? = some x := by
  induction h with
  | z => rfl
  | s _ ih => simpa using ih
inductive PutI {α : Type} : List α → Nat → α → List α → Prop where
  | z {x y : α} {l : List α} : PutI (x :: l) 0 y (y :: l)
  | s {x y : α} {l l' : List α} {i : Nat} : PutI l i y l' → PutI (x :: l) (i + 1) y (x :: l')
theorem PutI.put {α : Type} {l l' : List α} {i : Nat} {x : α} (h : PutI l i x l') : l.set i x = l' ∧ i < l.length := by
  induction h with
  | z => simp
  | s _ ih => simp [ih.1, ih.2]
section
variable {K : PySem.W.Frag} {σ : St} {H : Hp} {L R : HL} {Q : VK} {v : V} {i j : Int} {n : Nat} {a : Addr} {xs : List V} {ns ms : List Int}
theorem w_ixC (O : Own H L) (ha : Pk L [(a, .lst (ns.map V.int))] R) (h : GetI ns n i) (k : Q (.int i) H) : rIx K (.ref a) (.int (OfNat.ofNat n)) H Q :=
  w_ixL O ha (atI_nat (by rw [List.getElem?_map, h.get]; rfl)) k
theorem w_ixCL (O : Own H L) (ha : Pk L [(a, .lst xs)] R) (h : GetI xs n v) (k : Q v H) : rIx K (.ref a) (.int (OfNat.ofNat n)) H Q := w_ixL O ha (atI_nat h.get) k
theorem w_ixCT (O : Own H L) (ha : Pk L [(a, .tup xs)] R) (h : GetI xs n v) (k : Q v H) : rIx K (.ref a) (.int (OfNat.ofNat n)) H Q := w_ixT O ha (atI_nat h.get) k
theorem w_setC {R2 : Hp → Prop} (O : Own H L) (ha : Pk L [(a, .lst (ns.map V.int))] R) (h : PutI ns n j ms) (k : ∀ H', Own H' ([(a, .lst (ms.map V.int))] ++ R) → R2 H') : rSetL (.ref a) (.int (OfNat.ofNat n)) (.int j) H R2 := by
  have e := h.put.1
  have l : n < ns.length := h.put.2
  refine w_setI O ha (Int.natCast_nonneg n) (show (n : Int) < ns.length by omega) ?_
  show ∀ H', Own H' ([(a, .lst ((ns.set n j).map V.int))] ++ R) → R2 H'
  rw [e]
  exact k
end

/-! ### the script -/
/-- S holds what is needed to read the list at a -/
def Scr (K : PySem.W.Frag) (a : Addr) (ns : List Int) (S : HL) : Prop := ∀ H L R, Own H L → Pk L S R → SqL K H a (ns.map V.int)
theorem scr_of {K : PySem.W.Frag} {H : Hp} {a : Addr} {ns : List Int} (h : SqL K H a (ns.map V.int)) : ∃ S : HL, Scr K a ns S ∧ Own H S := by
  rcases h with (h | ⟨o, h⟩) | h
  · exact ⟨[(a, .lst (ns.map V.int))], fun H L R O p => .of (O.at1 p), ⟨by simp, fun b u m => by
      rcases List.mem_singleton.mp m with e
      cases e
      exact h⟩⟩
  · exact ⟨[(a, .frz o (.lst (ns.map V.int)))], fun H L R O p => .inl (.inr ⟨o, O.at1 p⟩), ⟨by simp, fun b u m => by
      rcases List.mem_singleton.mp m with e
      cases e
      exact h⟩⟩
  · exact ⟨[], fun H L R O p => .inr h, ⟨by simp, fun b u m => nomatch m⟩⟩
section
variable {K : PySem.W.Frag} {σ : St} {H : Hp} {L R S : HL} {Q : VK} {v : V} {i j lo hi : Int} {n : Nat} {a : Addr} {xs : List V} {ns ms : List Int} {ta tl te : TE} {tt : TT} {g : TG} {tb : TS} {wi : TI} {is : List Nat} {nx : St → Hp → Prop} {rt : VK} {bk ct : St → Hp → Prop}
theorem w_ixScr (hS : Scr K a ns S) (O : Own H L) (p : Pk L S R) (h0 : 0 ≤ i) (h1 : i < ns.length) (k : Q (.int (ns.getD i.toNat 0)) H) : rIx K (.ref a) (.int i) H Q :=
  .inl ⟨a, _, i, _, rfl, rfl, hS H L R O p, atI_int h0 h1, k⟩
theorem w_lenScr (hS : Scr K a ns S) (O : Own H L) (p : Pk L S R) (k : Q (.int ns.length) H) : zLen K [.ref a] H Q := ⟨_, ns.length, rfl, .inl ⟨_, hS H L R O p, by rw [List.length_map]⟩, k⟩
/-! ### loops -/
def ForR (J : It) (g : TG) (tb : TS) (nx : St → Hp → Prop) (rt : VK) (σ : St) (H : Hp) : Prop := ∃ W : Nat → Nat → St → Hp → Prop, (∃ m, W 0 m σ H) ∧ ∀ i m σ H, W i m σ H →
  (J.stop i H ∧ nx σ H) ∨ (J.go i H ∧ ∃ N : St → Hp → Prop, (∀ σ' H', N σ' H' → ∃ m', m' < m ∧ W (i + 1) m' σ' H') ∧ ∀ x H', J.yld i H x H' → g x σ H' fun σ2 H2 => tb ⟨N, rt, nx, N⟩ σ2 H2)
theorem w_for (h : wi σ H fun J H1 => ForR J g tb nx rt σ H1) : tFor wi g tb ⟨nx, rt, bk, ct⟩ σ H := h
def Rng1 (vs : List V) (R : It → Hp → Prop) (H : Hp) : Prop := ∃ j : Int, vs = [.int j] ∧ -(2 ^ 62) ≤ j ∧ j < 2 ^ 62 ∧ R (Itr 0 j.toNat) H
def Rng2 (vs : List V) (R : It → Hp → Prop) (H : Hp) : Prop := ∃ i j : Int, vs = [.int i, .int j] ∧ (-(2 ^ 62) ≤ i ∧ i < 2 ^ 62 ∧ -(2 ^ 62) ≤ j ∧ j < 2 ^ 62) ∧ R (Itr i (j - i).toNat) H
theorem w_iRng1 {ta : TA} {R : It → Hp → Prop} (h : ta σ H fun vs H1 => Rng1 vs R H1) : iRng1 ta σ H R := h
theorem w_iRng2 {ta : TA} {R : It → Hp → Prop} (h : ta σ H fun vs H1 => Rng2 vs R H1) : iRng2 ta σ H R := h
theorem w_rng1 {R : It → Hp → Prop} (h1 : -4611686018427387904 ≤ i) (h2 : i < 4611686018427387904) (k : R (Itr 0 i.toNat) H) : Rng1 [.int i] R H := ⟨i, rfl, h1, h2, k⟩
theorem w_rng2 {R : It → Hp → Prop} (h1 : -4611686018427387904 ≤ lo) (h2 : lo < 4611686018427387904) (h3 : -4611686018427387904 ≤ hi) (h4 : hi < 4611686018427387904) (k : R (Itr lo (hi - lo).toNat) H) : Rng2 [.int lo, .int hi] R H := ⟨lo, hi, rfl, ⟨h1, h2, h3, h4⟩, k⟩
def IsL (K : PySem.W.Frag) (x : V) (R : It → Hp → Prop) (H : Hp) : Prop := ∃ a, x = .ref a ∧ (∃ xs, SqL K H a xs) ∧ R (Itl K a) H
def IsT (K : PySem.W.Frag) (x : V) (R : It → Hp → Prop) (H : Hp) : Prop := ∃ a, x = .ref a ∧ (∃ xs, SqT K H a xs) ∧ R (Itt K a) H
theorem w_iList {R : It → Hp → Prop} (h : tl σ H fun x H1 => IsL K x R H1) : iList K tl σ H R := h
theorem w_itL {R' : It → Hp → Prop} (O : Own H L) (p : Pk L [(a, .lst xs)] R) (k : R' (Itl K a) H) : IsL K (.ref a) R' H := ⟨a, rfl, ⟨xs, .of (O.at1 p)⟩, k⟩
theorem w_itScr {R' : It → Hp → Prop} (hS : Scr K a ns S) (O : Own H L) (p : Pk L S R) (k : R' (Itl K a) H) : IsL K (.ref a) R' H := ⟨a, rfl, ⟨_, hS H L R O p⟩, k⟩
theorem w_iTup {R : It → Hp → Prop} (h : tl σ H fun x H1 => IsT K x R H1) : iTup K tl σ H R := h
theorem w_itT {R' : It → Hp → Prop} (O : Own H L) (p : Pk L [(a, .tup xs)] R) (k : R' (Itt K a) H) : IsT K (.ref a) R' H := ⟨a, rfl, ⟨xs, .of (O.at1 p)⟩, k⟩
theorem w_forR {lo : Int} (Pv : Nat → St → Hp → Prop) (h0 : Pv 0 σ H) (hs : ∀ i σ H, i < n → Pv i σ H → g (.int (lo + i)) σ H fun σ2 H2 => tb ⟨Pv (i + 1), rt, nx, Pv (i + 1)⟩ σ2 H2) (hd : ∀ σ H, Pv n σ H → nx σ H) : ForR (Itr lo n) g tb nx rt σ H :=
  for_range (D := ⟨nx, rt, fun _ _ => False, fun _ _ => False⟩) Pv h0 hs hd
theorem w_forL (Pv : Nat → St → Hp → Prop) (h0 : Pv 0 σ H) (hl : ∀ i σ H, i ≤ xs.length → Pv i σ H → SqL K H a xs) (hs : ∀ i x σ H, xs[i]? = some x → Pv i σ H → g x σ H fun σ2 H2 => tb ⟨Pv (i + 1), rt, nx, Pv (i + 1)⟩ σ2 H2) (hd : ∀ σ H, Pv xs.length σ H → nx σ H) : ForR (Itl K a) g tb nx rt σ H :=
  for_list (D := ⟨nx, rt, fun _ _ => False, fun _ _ => False⟩) Pv h0 hl hs hd
theorem w_forT (Pv : Nat → St → Hp → Prop) (h0 : Pv 0 σ H) (hl : ∀ i σ H, i ≤ xs.length → Pv i σ H → SqT K H a xs) (hs : ∀ i x σ H, xs[i]? = some x → Pv i σ H → g x σ H fun σ2 H2 => tb ⟨Pv (i + 1), rt, nx, Pv (i + 1)⟩ σ2 H2) (hd : ∀ σ H, Pv xs.length σ H → nx σ H) : ForR (Itt K a) g tb nx rt σ H :=
  for_tup (D := ⟨nx, rt, fun _ _ => False, fun _ _ => False⟩) Pv h0 hl hs hd
/-! comprehensions -/
def LcR (J : It) (g : TG) (tt : TT) (te : TE) (is : List Nat) (σ : St) (H : Hp) (Q : VK) : Prop := ∀ D, H D = none → ∃ W : Nat → Nat → Hp → Prop, (∃ m, W 0 m (upd H D (.lst []))) ∧ ∀ i m H, W i m H →
  (J.stop i H ∧ Q (.ref D) H) ∨ (J.go i H ∧ ∃ Nx : Hp → Prop, (∀ H', Nx H' → ∃ m', m' < m ∧ W (i + 1) m' H') ∧ ∀ x H', J.yld i H x H' → g x (wipe σ is) H' fun σ2 H2 => wipe σ2 is = wipe σ is ∧ tt σ2 H2 fun b H3 =>
    if b = true then te σ2 H3 fun y H4 => ∃ acc, H4 D = some (.lst acc) ∧ acc.length < sizeLine ∧ Nx (upd H4 D (.lst (acc ++ [y]))) else Nx H3)
theorem w_lc (h : wi σ H fun J H1 => LcR J g tt te is σ H1 Q) : tLc wi g tt te is σ H Q := h
theorem w_tyes {Q : Bool → Hp → Prop} (h : Q true H) : tYes σ H Q := h
theorem take_snoc {α : Type} : ∀ {l : List α} {i : Nat} {x : α}, l[i]? = some x → l.take (i + 1) = l.take i ++ [x]
  | [], i, x, h => by simp at h
  | a :: l, 0, x, h => by
    have e : a = x := Option.some.inj h
    subst e
    rfl
  | a :: l, i + 1, x, h => by
    show a :: l.take (i + 1) = a :: l.take i ++ [x]
    rw [take_snoc (l := l) (i := i) (by simpa using h)]
    rfl
/-- [f(x) for x in ints], the element made without a trace -/
theorem w_lcI {f : Int → V} (O : Own H L) (p : Pk L [(a, .lst (ns.map V.int))] R) (hl : ns.length ≤ 16777216)
    (hs : ∀ i x D H' (Qe : VK), ns[i]? = some x → Own H' ([(D, .lst ((ns.take i).map f))] ++ L) → (∀ H4, Own H4 ([(D, .lst ((ns.take i).map f))] ++ L) → Qe (f x) H4) → ∀ Nx : Hp → Prop, g (.int x) (wipe σ is) H' fun σ2 H2 => wipe σ2 is = wipe σ is ∧ tt σ2 H2 fun b H3 => if b = true then te σ2 H3 Qe else Nx H3)
    (k : ∀ D H', Own H' ([(D, .lst (ns.map f))] ++ L) → Q (.ref D) H') : LcR (Itl K a) g tt te is σ H Q := by
  intro D hD
  refine lc_list (K := K) (a := a) (xs := ns.map V.int) (fun i H' => Own H' ([(D, .lst ((ns.take i).map f))] ++ L)) (O.new hD) (fun i H' _ O' => .of (O'.at1 (Pk.there p))) (fun i x H' hx O' => ?_) (fun H' O' => ?_)
  · obtain ⟨z, rfl, hz⟩ : ∃ z, x = V.int z ∧ ns[i]? = some z := by
      rw [List.getElem?_map] at hx
      cases e : ns[i]? with
      | none => rw [e] at hx; cases hx
      | some z => rw [e] at hx; exact ⟨z, (Option.some.inj hx).symm, rfl⟩
    refine hs i z D H' _ hz O' (fun H4 O4 => ⟨_, O4.at1 Pk.here, ?_, ?_⟩) _
    · have h1 : i < ns.length := (List.getElem?_eq_some_iff.mp hz).1
      rw [List.length_map, List.length_take]
      exact lineS (by omega)
    · have e : (ns.take (i + 1)).map f = (ns.take i).map f ++ [f z] := by rw [take_snoc hz, List.map_append]; rfl
      rw [e]
      exact O4.put Pk.here
  · rw [List.length_map, List.take_length] at O'
    exact k D H' O'
/-- bools of ints -/
theorem w_lcB {f : Int → Bool} (O : Own H L) (p : Pk L [(a, .lst (ns.map V.int))] R) (hl : ns.length ≤ 16777216)
    (hs : ∀ i x D H' (Qe : VK), ns[i]? = some x → Own H' ([(D, .lst ((ns.take i).map fun x => V.bl (f x)))] ++ L) → (∀ H4, Own H4 ([(D, .lst ((ns.take i).map fun x => V.bl (f x)))] ++ L) → Qe (.bl (f x)) H4) → ∀ Nx : Hp → Prop, g (.int x) (wipe σ is) H' fun σ2 H2 => wipe σ2 is = wipe σ is ∧ tt σ2 H2 fun b H3 => if b = true then te σ2 H3 Qe else Nx H3)
    (k : ∀ D H', Own H' ([(D, .lst ((ns.map f).map V.bl))] ++ L) → Q (.ref D) H') : LcR (Itl K a) g tt te is σ H Q :=
  w_lcI (f := fun x => .bl (f x)) O p hl hs fun D H' O' => k D H' (by rw [List.map_map]; exact O')
theorem all_const (ns : List Int) : (ns.map fun _ => true).all id = true := by induction ns with
  | nil => rfl
  | cons _ _ ih => simpa using ih
end
theorem Cal.mono {P : Program} {w : World} {K : PySem.W.Frag} {mg : Str → Option Value} {base : Heap} {x : Str} {k j : Nat} {sp : Sp} {dvs : List V} (c : Cal P w K mg base k x sp dvs) (h : k ≤ j) : Cal P w K mg base j x sp dvs := by
  obtain ⟨f, fd, ps, ds, F, r⟩ := c.ex
  exact ⟨f, fd, ps, ds, F.mono h, r⟩

section
variable {K : PySem.W.Frag} {σ : St} {H : Hp} {Q : VK} {ta tb : TE}
theorem w_andT (h : ta σ H fun x H1 => ∃ k, TruV K x H1 k ∧ if k = true then tb σ H1 Q else Q x H1) : tAndT K ta tb σ H Q := h
theorem w_orT (h : ta σ H fun x H1 => ∃ k, TruV K x H1 k ∧ if k = true then Q x H1 else tb σ H1 Q) : tOrT K ta tb σ H Q := h
theorem w_notT (h : ta σ H fun x H1 => ∃ k, TruV K x H1 k ∧ Q (.bl (!k)) H1) : tNotT K ta σ H Q := h
end

theorem all_snoc {α : Type} {P : α → Prop} {l : List α} {y : α} (h : ∀ x ∈ l, P x) (hy : P y) : ∀ x ∈ l ++ [y], P x := fun x hx => by
  rcases List.mem_append.mp hx with m | m
  · exact h x m
  · rw [List.mem_singleton.mp m]; exact hy
theorem mem_menu {ns : List Int} {i : Int} {P : Int → Prop} (h0 : 0 ≤ i) (h1 : i < ns.length) (h : ∀ x ∈ ns, P x) : P (ns.getD i.toNat 0) := by
  have hk : i.toNat < ns.length := by omega
  simp only [List.getD, List.getElem?_eq_getElem hk, Option.getD_some]
  exact h _ (List.getElem_mem hk)

theorem w_wipe {σ σ2 : St} {P : Prop} (e : σ2 = σ) (k : P) : σ2 = σ ∧ P := ⟨e, k⟩
theorem range_map_succ {α : Type} (f : Nat → α) (i : Nat) : (List.range (i + 1)).map f = (List.range i).map f ++ [f i] := by rw [List.range_succ, List.map_append]; rfl
end Z

set_option Elab.async false
set_option linter.all false
set_option maxRecDepth 100000
set_option maxHeartbeats 4000000
set_option pp.maxSteps 400
namespace Zl
open PySem PySem.Spec L2 Z
set_option hygiene false
local macro_rules | `(tactic| wtm_at "zpk") => `(tactic| first | with_reducible exact Pk.here | with_reducible exact Pk.only | (with_reducible apply Pk.there; wtm_at "zpk"))
local macro_rules | `(tactic| wtm_at "zga") => `(tactic| first | with_reducible exact GetAt.z | (apply GetAt.s; wtm_at "zga"))
local macro_rules | `(tactic| wtm_at "zsa") => `(tactic| first | with_reducible exact SetAt.z | (apply SetAt.s; wtm_at "zsa"))
local macro_rules | `(tactic| wtm_at "zgi") => `(tactic| first | with_reducible exact GetI.z | (apply GetI.s; wtm_at "zgi"))
local macro_rules | `(tactic| wtm_at "zpi") => `(tactic| first | with_reducible exact PutI.z | (apply PutI.s; wtm_at "zpi"))
local macro_rules | `(tactic| wtm_at "zii") => `(tactic| first | with_reducible exact Ints.nil | with_reducible exact Ints.map | (apply Ints.cons; wtm_at "zii"))
local macro_rules | `(tactic| wtm_at "zsub") => `(tactic| first | with_reducible exact Sub.all | with_reducible exact Sub.nil | (with_reducible apply Sub.cons; (· wtm_at "zpk"); wtm_at "zsub") | (with_reducible apply Sub.one; wtm_at "zpk"))
local macro_rules | `(tactic| wtm_at "zown") => `(tactic| (refine Own.sub O ?_; wtm_at "zsub"))
local macro_rules | `(tactic| wtm_at "zsd") => `(tactic| first | omega | decide | (simp only [List.length_map, List.length_append, List.length_cons, List.length_nil, List.length_replicate, List.length_set, List.length_take, List.length_drop]; omega) | assumption | exact Int.emod_nonneg _ (by omega) | exact Int.emod_lt_of_pos _ (by omega))
local macro_rules | `(tactic| wtm_at "znw") => `(tactic| (intro q H₁ O₁; clear O; (try clear H); revert H₁; intro H O))
local macro_rules | `(tactic| wtm_at "znx") => `(tactic| (intro H₁ O₁; clear O; (try clear H); revert H₁; intro H O))
local macro_rules | `(tactic| wtm_at "zc1") => `(tactic| first
  | with_reducible refine w_decR ?_ | with_reducible refine w_ndecR ?_ | with_reducible refine w_ndec2R ?_ | with_reducible refine w_T ?_ | with_reducible refine w_F ?_ | with_reducible refine w_nT ?_ | with_reducible refine w_nF ?_
  | (with_reducible apply w_dec; (· (intro h; exfalso; omega)); intro _) | (with_reducible apply w_dec; rotate_left; (· (intro h; exfalso; omega)); intro _)
  | (with_reducible apply w_dec <;> intro h <;> try simp only [Int.reduceToNat, Int.reducePow] at h)
  | (with_reducible apply w_ndec; (· (intro h; exfalso; omega)); intro _) | (with_reducible apply w_ndec; rotate_left; (· (intro h; exfalso; omega)); intro _)
  | (with_reducible apply w_ndec <;> intro h)
  | (with_reducible apply w_ndec2 <;> intro h))
local macro_rules | `(tactic| wtm_at "zs1") => `(tactic| first | with_reducible refine w_seq ?_ | wtm_at "zs0" | fail "z")
local macro_rules | `(tactic| wtm_at "zn") => `(tactic| (with_reducible refine w_seq ?_; repeat' wtm_at "zs0"))
local macro_rules | `(tactic| wtm_at "zs0") => `(tactic| first
  | with_reducible refine w_asg ?_ | with_reducible refine w_ifs ?_ | with_reducible refine w_ret ?_ | with_reducible refine w_drop ?_ | with_reducible refine w_next ?_
  | (with_reducible apply w_gname; (· wtm_at "zsa")) | with_reducible refine w_gsub ?_
  | (with_reducible apply w_var; (· wtm_at "zga")) | with_reducible refine w_c ?_ | with_reducible refine w_op ?_ | with_reducible refine w_un ?_
  | with_reducible refine w_test ?_ | with_reducible refine w_bl ?_ | with_reducible refine w_and ?_ | with_reducible refine w_or ?_ | with_reducible refine w_not ?_ | with_reducible refine w_if ?_
  | with_reducible refine w_tru ?_ | with_reducible refine w_truB ?_ | with_reducible refine w_anil ?_ | with_reducible refine w_acons ?_ | with_reducible refine w_cb ?_ | with_reducible refine w_call ?_
  | with_reducible refine w_for ?_ | with_reducible refine w_iRng1 ?_ | with_reducible refine w_iRng2 ?_ | with_reducible refine w_iList ?_ | with_reducible refine w_iTup ?_ | with_reducible refine w_lc ?_ | with_reducible refine w_andT ?_ | with_reducible refine w_orT ?_ | with_reducible refine w_notT ?_ | with_reducible refine w_tyes ?_ | (refine w_wipe ?_ ?_; (· exact rfl))
  | with_reducible refine w_tup ?_ | with_reducible refine w_lst ?_
  | wtm_at "zc1" | wtm_at "zs2" | fail "z1")
local macro_rules | `(tactic| wtm_at "zs2") => `(tactic| first
  | with_reducible refine w_addI ?_ | with_reducible refine w_subI ?_ | with_reducible refine w_neg ?_
  | (with_reducible apply w_mulI; (· omega)) | (with_reducible apply w_div; (· omega); (· omega)) | (with_reducible apply w_modI; (· omega)) | (with_reducible apply w_powI; (· decide); (· decide); (· omega); (· omega))
  | with_reducible refine w_lt ?_ | with_reducible refine w_le ?_ | with_reducible refine w_gt ?_ | with_reducible refine w_ge ?_
  | with_reducible refine w_eqI ?_ | with_reducible refine w_neI ?_ | with_reducible refine w_eqS ?_ | with_reducible refine w_neS ?_ | with_reducible refine w_eqB ?_ | with_reducible refine w_neB ?_
  | with_reducible refine w_isN ?_ | with_reducible refine w_isR ?_ | with_reducible refine w_isI ?_ | with_reducible refine w_nisN ?_ | with_reducible refine w_nisR ?_ | with_reducible refine w_nisI ?_
  | with_reducible refine w_max ?_ | with_reducible refine w_min ?_ | with_reducible refine w_intI ?_ | with_reducible refine w_intB ?_
  | with_reducible refine w_part ?_ | with_reducible refine w_partI ?_ | with_reducible refine w_npart ?_ | with_reducible refine w_sl ?_ | with_reducible refine w_bm ?_ | with_reducible refine w_bm0 ?_
  | wtm_at "zs3" | fail "z2")
local macro_rules | `(tactic| wtm_at "zs3") => `(tactic| first
  | (with_reducible apply w_ixC O; (· wtm_at "zpk"); (· wtm_at "zgi")) | (with_reducible apply w_ixCT O; (· wtm_at "zpk"); (· wtm_at "zgi")) | (with_reducible apply w_ixCL O; (· wtm_at "zpk"); (· wtm_at "zgi"))
  | (with_reducible apply w_setC O; (· wtm_at "zpk"); (· wtm_at "zpi"); wtm_at "znx")
  | (with_reducible apply w_ixI O; (· wtm_at "zpk"); (· wtm_at "zsd"); (· wtm_at "zsd"))
  | (with_reducible apply w_setI O; (· wtm_at "zpk"); (· wtm_at "zsd"); (· wtm_at "zsd"); wtm_at "znx")
  | (with_reducible apply w_newI (O := O); (· wtm_at "zii"); (· wtm_at "zsd"); wtm_at "znw")
  | (with_reducible apply w_lenI O; (· wtm_at "zpk")) | (with_reducible apply w_list O; (· wtm_at "zpk"); wtm_at "znw")
  | (with_reducible apply w_addLI O; (· wtm_at "zpk"); (· wtm_at "zpk"); (· wtm_at "zsd"); wtm_at "znw")
  | (with_reducible apply w_repI O; (· wtm_at "zpk"); (· wtm_at "zsd"); (· wtm_at "zsd"); wtm_at "znw")
  | (with_reducible apply w_slTake O; (· wtm_at "zpk"); (· wtm_at "zsd"); wtm_at "znw") | (with_reducible apply w_slDrop O; (· wtm_at "zpk"); (· wtm_at "zsd"); wtm_at "znw") | (with_reducible apply w_slMid O; (· wtm_at "zpk"); (· wtm_at "zsd"); (· wtm_at "zsd"); wtm_at "znw") | (with_reducible apply w_slI O; (· wtm_at "zpk"); wtm_at "znw")
  | (with_reducible apply w_tyL O; (· wtm_at "zpk")) | (with_reducible apply w_appI O; (· wtm_at "zpk"); (· wtm_at "zsd"); wtm_at "znx")
  | (with_reducible apply w_eqL O; (· wtm_at "zpk"); (· wtm_at "zpk")) | (with_reducible apply w_neL O; (· wtm_at "zpk"); (· wtm_at "zpk"))
  | (with_reducible apply w_isiL (c := true) O; (· wtm_at "zpk"); (· decide +kernel)) | (with_reducible apply w_isiT (c := true) O; (· wtm_at "zpk"); (· decide +kernel)) | (with_reducible apply w_isiI (c := true); (· decide +kernel)) | (with_reducible apply w_isiS (c := true); (· decide +kernel)) | (with_reducible apply w_isiN (c := true); (· decide +kernel)) | (with_reducible apply w_isiB (c := true); (· decide +kernel)) | (with_reducible apply w_isiL (c := false) O; (· wtm_at "zpk"); (· decide +kernel)) | (with_reducible apply w_isiT (c := false) O; (· wtm_at "zpk"); (· decide +kernel)) | (with_reducible apply w_isiI (c := false); (· decide +kernel)) | (with_reducible apply w_isiS (c := false); (· decide +kernel)) | (with_reducible apply w_isiN (c := false); (· decide +kernel)) | (with_reducible apply w_isiB (c := false); (· decide +kernel))
  | (with_reducible apply w_rng1; (· wtm_at "zsd"); (· wtm_at "zsd")) | (with_reducible apply w_rng2; (· wtm_at "zsd"); (· wtm_at "zsd"); (· wtm_at "zsd"); (· wtm_at "zsd"))
  | (with_reducible apply w_itL O; (· wtm_at "zpk")) | (with_reducible apply w_itT O; (· wtm_at "zpk"))
  | (with_reducible apply w_ixScr hS O; (· wtm_at "zpk"); (· wtm_at "zsd"); (· wtm_at "zsd")) | (with_reducible apply w_lenScr hS O; (· wtm_at "zpk"))
  | (with_reducible apply w_all O; (· wtm_at "zpk")) | (with_reducible apply w_any O; (· wtm_at "zpk"))
  | wtm_at "zcall" | fail "z3")
/-- a comprehension of bools over ints: the goal is the turn -/
local macro_rules | `(tactic| wtm_at "zlcB") => `(tactic| (with_reducible apply w_lcB O; (· wtm_at "zpk"); (· wtm_at "zsd"); (· intro i x D H₁ Qe hx O₁ hk Nx; clear O; revert H₁; intro H O; dsimp only [wipe, List.map, List.set]; wtm_at "zgo"; exact hk _ O); wtm_at "znw"))
local macro_rules | `(tactic| wtm_at "zgo") => `(tactic| repeat' wtm_at "zs1")

/-- the i-th statement of the top -/
def top (i : Nat) : Stmt := PySem.Challenge.pw_sipstack_k02_laid.main.body.getD i (.Pass ⟨0, 0, 0, 0⟩)
abbrev s_laid : Stmt := top 1
abbrev s__law_pool : Stmt := top 3
abbrev s__law_take : Stmt := top 4
abbrev s__law_bytes : Stmt := top 5
abbrev s__law_due : Stmt := top 6
abbrev s__law_fits : Stmt := top 7
abbrev s_law : Stmt := top 8
theorem sc_laid : FnScope ["row", "place", "data", "filled"] ["row", "place", "data"] (defScope s_laid) := ⟨rfl, rfl, rfl, by decide +kernel, rfl, by decide +kernel, by decide +kernel⟩
theorem sc__law_pool : FnScope ["_law_script", "_law_at", "_law_cell", "_law_digits"] ["_law_script", "_law_at"] (defScope s__law_pool) := ⟨rfl, rfl, rfl, by decide +kernel, rfl, by decide +kernel, by decide +kernel⟩
theorem sc__law_take : FnScope ["_law_pool_here", "_law_wide", "_law_seed", "_law_found"] ["_law_pool_here", "_law_wide"] (defScope s__law_take) := ⟨rfl, rfl, rfl, by decide +kernel, rfl, by decide +kernel, by decide +kernel⟩
theorem sc__law_bytes : FnScope ["_law_pool_here", "_law_many", "_law_found", "_law_k"] ["_law_pool_here"] (defScope s__law_bytes) := ⟨rfl, rfl, rfl, by decide +kernel, rfl, by decide +kernel, by decide +kernel⟩
theorem sc__law_due : FnScope ["_law_row", "_law_place", "_law_data", "_law_found", "_law_k"] ["_law_row", "_law_place", "_law_data"] (defScope s__law_due) := ⟨rfl, rfl, rfl, by decide +kernel, rfl, by decide +kernel, by decide +kernel⟩
theorem sc__law_fits : FnScope ["_law_found", "_law_due_here", "_law_thing"] ["_law_found", "_law_due_here"] (defScope s__law_fits) := ⟨rfl, rfl, rfl, by decide +kernel, rfl, by decide +kernel, by decide +kernel⟩
theorem sc_law : FnScope ["_law_script", "_law_pool_here", "_law_row", "_law_way", "_law_place", "_law_data", "_law_due_here", "_law_handed", "_law_other", "_law_found", "_law_again"] ["_law_script"] (defScope s_law) := ⟨rfl, rfl, rfl, by decide +kernel, rfl, by decide +kernel, by decide +kernel⟩
/-- what the top leaves -/
structure Txt (K : PySem.W.Frag) (mg : Str → Option Value) : Prop where
  f_all : mg "all" = none
  f_bool : mg "bool" = none
  f_int : mg "int" = none
  f_isinstance : mg "isinstance" = none
  f_len : mg "len" = none
  f_list : mg "list" = none
  f_max : mg "max" = none
  f_range : mg "range" = none
  d_laid : ∃ f fd, Dfn K mg "laid" s_laid [] [] f fd
  d__law_pool : ∃ f fd, Dfn K mg "_law_pool" s__law_pool [] [] f fd
  d__law_take : ∃ f fd, Dfn K mg "_law_take" s__law_take [] [] f fd
  d__law_bytes : ∃ f fd, Dfn K mg "_law_bytes" s__law_bytes [] [] f fd
  d__law_due : ∃ f fd, Dfn K mg "_law_due" s__law_due [] [] f fd
  d__law_fits : ∃ f fd, Dfn K mg "_law_fits" s__law_fits [] [] f fd
section
variable {P : Program} {w : World} {K : PySem.W.Frag} {mg : Str → Option Value} {base : Heap}
/-! ### the law's pool and its draws -/
def pool (p : Addr) (d n c : Int) : HL := [(p, .lst ([d, n, c].map V.int))]
def sp__law_take (_ : PySem.W.Frag) : Sp := fun vs H Q _ => ∃ (p : Addr) (d n c w : Int) (F : HL), vs = [.ref p, .int w] ∧ 0 < w ∧ w < 4000000000 ∧ 0 ≤ d ∧ 0 ≤ n ∧ n < 4000000000 ∧ Own H (pool p d n c ++ F) ∧
  ∀ r d' n' H', 0 ≤ r → r < w → 0 ≤ d' → n ≤ n' → n' ≤ n + 1 → Own H' (pool p d' n' c ++ F) → Q (.int r) H'
theorem len__law_take {vs H Q E} (h : sp__law_take K vs H Q E) : vs.length = 2 := by
  obtain ⟨p, d, n, c, w, F, rfl, _⟩ := h
  rfl
theorem ap__law_take {H : Hp} {L F : HL} {Q : VK} {E : XK} {p : Addr} {d n c w : Int} (O : Own H L) (pk : Pk L (pool p d n c) F) (h1 : 0 < w) (h2 : w < 4000000000) (h3 : 0 ≤ d) (h4 : 0 ≤ n) (h5 : n < 4000000000)
    (k : ∀ r d' n', 0 ≤ r → r < w → 0 ≤ d' → n ≤ n' → n' ≤ n + 1 → ∀ H', Own H' (pool p d' n' c ++ F) → Q (.int r) H') : sp__law_take K [.ref p, .int w] H Q E :=
  ⟨p, d, n, c, w, F, rfl, h1, h2, h3, h4, h5, O.pk pk, fun r d' n' H' a1 a2 a3 a4 a5 O' => k r d' n' a1 a2 a3 a4 a5 H' O'⟩
def sp__law_pool (K : PySem.W.Frag) : Sp := fun vs H Q _ => ∃ (a : Addr) (t : Int) (ns : List Int) (S F : HL), vs = [.ref a, .int t] ∧ Scr K a ns S ∧ ns.length ≤ 63 ∧ 0 ≤ t ∧ t < 1000000 ∧ Own H (S ++ F) ∧
  ∀ p d c H', 0 ≤ d → Own H' (pool p d (1000 * t) c ++ (S ++ F)) → Q (.ref p) H'
theorem len__law_pool {vs H Q E} (h : sp__law_pool K vs H Q E) : vs.length = 2 := by
  obtain ⟨a, t, ns, S, F, rfl, _⟩ := h
  rfl
theorem ap__law_pool {H : Hp} {L S F : HL} {Q : VK} {E : XK} {a : Addr} {t : Int} {ns : List Int} (O : Own H L) (hS : Scr K a ns S) (hl : ns.length ≤ 63) (pk : Pk L S F) (h1 : 0 ≤ t) (h2 : t < 1000000)
    (k : ∀ p d c, 0 ≤ d → ∀ H', Own H' (pool p d (1000 * t) c ++ (S ++ F)) → Q (.ref p) H') : sp__law_pool K [.ref a, .int t] H Q E :=
  ⟨a, t, ns, S, F, rfl, hS, hl, h1, h2, O.pk pk, fun p d c H' a1 O' => k p d c a1 H' O'⟩
theorem ok__law_take (T : Txt K mg) : Cal P w K mg base 1 "_law_take" (sp__law_take K) [] := by

  refine cal_nox T.d__law_take sc__law_take (fun _ _ _ _ _ _ us hl => match us, hl with | [_, _], _ => rfl) (fun vs H Q E h => len__law_take h) (fun cdv A outer s f H vs Q E hr h => ?_)
  refine ⟨_, (pss_cons (ps_if (pt_cmpR op_zGt (pe_ix ix_seq (pv 0) pe_int (fun _ _ => rfl)) pe_int (nomark _))
      (pss_cons (ps_set (i := 3) sc__law_take.nd rfl (Or.inl rfl) (pe_op op_zMod (pe_ix ix_seq (pv 0) pe_int (fun _ _ => rfl)) (pv 1)))
      (pss_cons (ps_asg (pe_op op_zDiv (pe_ix ix_seq (pv 0) pe_int (fun _ _ => rfl)) (pv 1)) (pg_sub (pv 0) pe_int set_list))
      (pss_one (ps_ret (pv 3)))))
      pss_nil)
      (pss_cons (ps_asg (pe_op op_zAdd (pe_ix ix_seq (pv 0) pe_int (fun _ _ => rfl)) pe_int) (pg_sub (pv 0) pe_int set_list))
      (pss_cons (ps_set (i := 2) sc__law_take.nd rfl (Or.inl rfl) (pe_op op_zMod (pe_op op_zPow (pe_op op_zAdd (pe_op op_zMod (pe_ix ix_seq (pv 0) pe_int (fun _ _ => rfl)) pe_int) (pe_op op_zMul pe_int (pe_ix ix_seq (pv 0) pe_int (fun _ _ => rfl)))) pe_int) pe_int))
      (pss_cons (ps_set (i := 2) sc__law_take.nd rfl (Or.inl rfl) (pe_op op_zAdd (pe_op op_zMul (pv 2) pe_int) (pe_op op_zMul (pe_op op_zMul (pe_ix ix_seq (pv 0) pe_int (fun _ _ => rfl)) (pe_ix ix_seq (pv 0) pe_int (fun _ _ => rfl))) pe_int)))
      (pss_one (ps_ret (pe_op op_zMod (pe_op op_zDiv (pe_op op_zMod (pe_op op_zAdd (pv 2) (pe_op op_zDiv (pe_ix ix_seq (pv 0) pe_int (fun _ _ => rfl)) pe_int)) pe_int) pe_int) (pv 1)))))))), ?_⟩
  dsimp only [cxOf]
  obtain ⟨p, d, n, c, w, F, rfl, hw, hw2, hd, hn, hn2, O, k⟩ := h
  unfold pool at O
  refine w_start (σ := [some (.ref p), some (.int w), none, none]) rfl ?_
  wtm_at "zgo"
  · exact k _ _ _ _ (Int.emod_nonneg _ (by omega)) (Int.emod_lt_of_pos _ hw) (Int.ediv_nonneg hd (by omega)) (by omega) (by omega) O
  · have h5 := Int.emod_nonneg c (show (2147483647 : Int) ≠ 0 by decide)
    have h6 := Int.emod_lt_of_pos c (show (0 : Int) < 2147483647 by decide)
    wtm_at "zgo"
    exact k _ _ _ _ (Int.emod_nonneg _ (by omega)) (Int.emod_lt_of_pos _ hw) hd (by omega) (by omega) O
local macro_rules | `(tactic| wtm_at "zcall") => `(tactic| (with_reducible apply ap__law_take O; (· wtm_at "zpk"); (· omega); (· omega); (· omega); (· omega); (· omega); intro r d n h1 h2 h3 h4 h5; wtm_at "znx"))
theorem ok__law_pool (T : Txt K mg) : Cal P w K mg base 1 "_law_pool" (sp__law_pool K) [] := by

  refine cal_nox T.d__law_pool sc__law_pool (fun _ _ _ _ _ _ us hl => match us, hl with | [_, _], _ => rfl) (fun vs H Q E h => len__law_pool h) (fun cdv A outer s f H vs Q E hr h => ?_)
  refine ⟨_, (pss_cons (ps_set (i := 2) sc__law_pool.nd rfl (Or.inl rfl) pe_int)
      (pss_cons (ps_if (pt_cmpR op_zGt (pe_callB call_zLen rfl T.f_len bt_len (pa_cons (pv 0) pa_nil)) pe_int (nomark _))
      (pss_one (ps_set (i := 2) sc__law_pool.nd rfl (Or.inl rfl) (pe_ix ix_seq (pv 0) (pe_op op_zMod (pv 1) (pe_callB call_zLen rfl T.f_len bt_len (pa_cons (pv 0) pa_nil))) (fun _ _ => rfl))))
      pss_nil)
      (pss_cons (ps_set (i := 3) sc__law_pool.nd rfl (Or.inl rfl) pe_int)
      (pss_cons (ps_if (PW.pt (pw_and (pt_cmpR op_zGe (pv 2) (pe_op op_zPow pe_int pe_int) (nomark _)) (pw_and1 (pt_cmpR op_zLt (pv 1) (pe_callB call_zLen rfl T.f_len bt_len (pa_cons (pv 0) pa_nil)) (nomark _)))))
      (pss_one (ps_set (i := 3) sc__law_pool.nd rfl (Or.inl rfl) (pv 2)))
      pss_nil)
      (pss_one (ps_ret (pe_lst (pa_cons (pv 3) (pa_cons (pe_op op_zMul pe_int (pv 1)) (pa_cons (pv 2) pa_nil)))))))))), ?_⟩
  dsimp only [cxOf]
  obtain ⟨a, t, ns, S, F, rfl, hS, hlen, h0, h1, O, k⟩ := h
  refine w_start (σ := [some (.ref a), some (.int t), none, none]) rfl ?_
  wtm_at "zgo"
  all_goals exact k _ _ _ _ (by omega) O

local macro_rules | `(tactic| wtm_at "zcall") => `(tactic| (with_reducible apply ap__law_pool O hS hlen; (· wtm_at "zpk"); (· omega); (· omega); intro p d c h1; wtm_at "znx"))
/-! ### drawn bytes -/
def Bytes (ns : List Int) : Prop := ns.length ≤ 400 ∧ ∀ x ∈ ns, 0 ≤ x ∧ x ≤ 255
def sp__law_bytes (_ : PySem.W.Frag) : Sp := fun vs H Q _ => ∃ (p : Addr) (d n c : Int) (F : HL), vs = [.ref p] ∧ 0 ≤ d ∧ 0 ≤ n ∧ n < 3000000000 ∧ Own H (pool p d n c ++ F) ∧
  ∀ q ns d' n' H', Bytes ns → 0 ≤ d' → n ≤ n' → n' ≤ n + 1000 → Own H' ([(q, .lst (ns.map V.int))] ++ (pool p d' n' c ++ F)) → Q (.ref q) H'
theorem len__law_bytes {vs H Q E} (h : sp__law_bytes K vs H Q E) : vs.length = 1 := by
  obtain ⟨p, d, n, c, F, rfl, _⟩ := h
  rfl
theorem ok__law_bytes (T : Txt K mg) : Cal P w K mg base 2 "_law_bytes" (sp__law_bytes K) [] := by
  have c__law_take : Cal P w K mg base 1 "_law_take" (sp__law_take K) [] := (ok__law_take T).mono (by decide)
  refine cal_nox T.d__law_bytes sc__law_bytes (fun _ _ _ _ _ _ us hl => match us, hl with | [_], _ => rfl) (fun vs H Q E h => len__law_bytes h) (fun cdv A outer s f H vs Q E hr h => ?_)
  refine ⟨_, (pss_cons (ps_set (i := 1) sc__law_bytes.nd rfl (Or.inl rfl) (pe_ix ix_seq (pe_lst (pa_cons pe_int (pa_cons pe_int (pa_cons pe_int (pa_cons pe_int (pa_cons pe_int (pa_cons pe_int (pa_cons pe_int (pa_cons pe_int (pa_cons pe_int (pa_cons pe_int pa_nil))))))))))) (pe_c0 c__law_take hr (by decide) rfl (pa_cons (pv 0) (pa_cons pe_int pa_nil))) (fun _ _ => rfl)))
      (pss_cons (ps_set (i := 2) sc__law_bytes.nd rfl (Or.inl rfl) (pe_lst pa_nil))
      (pss_cons (ps_for PassesOwn.never rfl (pi_range1 rfl T.f_range (pa_cons (pv 1) pa_nil)) (pg_name (i := 3) sc__law_bytes.nd rfl (Or.inl rfl))
      (pss_one (ps_if (pt_cmpR (op_zEq (uI hr)) (pe_c0 c__law_take hr (by decide) rfl (pa_cons (pv 0) (pa_cons pe_int pa_nil))) pe_int (nomark _))
      (pss_one (ps_expr (pe_bm PySem.F.plainAttrs_list PySem.F.slot_list_append PySem.F.type_list_append mt_append (pv 2) (pa_cons (pe_ix ix_seq (pe_lst (pa_cons pe_int (pa_cons pe_int (pa_cons pe_int (pa_cons pe_int pa_nil))))) (pe_c0 c__law_take hr (by decide) rfl (pa_cons (pv 0) (pa_cons pe_int pa_nil))) (fun _ _ => rfl)) pa_nil))))
      (pss_one (ps_expr (pe_bm PySem.F.plainAttrs_list PySem.F.slot_list_append PySem.F.type_list_append mt_append (pv 2) (pa_cons (pe_c0 c__law_take hr (by decide) rfl (pa_cons (pv 0) (pa_cons pe_int pa_nil))) pa_nil)))))))
      (pss_one (ps_ret (pv 2)))))), ?_⟩
  dsimp only [cxOf]
  obtain ⟨p, d, n, c, F, rfl, hd, hn, hn2, O, k⟩ := h
  refine w_start (σ := [some (.ref p), none, none, none]) rfl ?_
  wtm_at "zgo"
  have hm := mem_menu (ns := [0, 1, 2, 3, 5, 8, 13, 30, 60, 400]) (P := fun x => 0 ≤ x ∧ x ≤ 400) h1 h2 (by decide)
  generalize ([0, 1, 2, 3, 5, 8, 13, 30, 60, 400] : List Int).getD r.toNat 0 = m at hm ⊢
  wtm_at "zgo"
  refine w_forR (lo := 0) (n := m.toNat) (fun i σ H => ∃ (d' n' : Int) (ns : List Int) (v : Option V), σ = [some (.ref p), some (.int m), some (.ref q), v] ∧ 0 ≤ d' ∧ n ≤ n' ∧ n' ≤ n + 2 * i ∧ ns.length = i ∧ (∀ x ∈ ns, 0 ≤ x ∧ x ≤ 255) ∧ Own H ([(q, .lst (ns.map V.int))] ++ (pool p d' n' c ++ F))) ?_ ?_ ?_
  · exact ⟨d, n, [], none, rfl, h3, by omega, by omega, rfl, (fun _ h => nomatch h), by wtm_at "zown"⟩
  · rintro i σ H hi ⟨d', n', ns, v, rfl, g1, g2, g3, g4, g5, O⟩
    wtm_at "zgo"
    · exact ⟨d, n, ns ++ [([0, 10, 13, 255] : List Int).getD r.toNat 0], _, rfl, h3, by omega, by omega, by simp [g4], all_snoc g5 (mem_menu (ns := [0, 10, 13, 255]) (P := fun x => 0 ≤ x ∧ x ≤ 255) h1 h2 (by decide)), by wtm_at "zown"⟩
    · exact ⟨d, n, ns ++ [r], _, rfl, h3, by omega, by omega, by simp [g4], all_snoc g5 (by omega), by wtm_at "zown"⟩
  · rintro σ H ⟨d', n', ns, v, rfl, g1, g2, g3, g4, g5, O⟩
    wtm_at "zgo"
    refine k _ _ _ _ _ ⟨?_, g5⟩ g1 ?_ ?_ O
    all_goals omega

/-! ### one row laid over another, place by place -/
def due (row : List Int) (place : Int) (data : List Int) : List Int :=
  if data.length = 0 then row else (List.range (max row.length (place.toNat + data.length))).map fun k => if place.toNat ≤ k ∧ k < place.toNat + data.length then data.getD (k - place.toNat) 0 else row.getD k 0
def laidL (row : List Int) (place : Int) (data : List Int) : List Int :=
  if data.length = 0 then row else
    let filled := row ++ List.replicate (place - row.length).toNat 0
    filled.take place.toNat ++ data ++ filled.drop (place + data.length).toNat
theorem due_get (row : List Int) (pl : Int) (data : List Int) (hd : data.length ≠ 0) (i : Nat) : (due row pl data)[i]? = if i < max row.length (pl.toNat + data.length) then some (if pl.toNat ≤ i ∧ i < pl.toNat + data.length then data.getD (i - pl.toNat) 0 else row.getD i 0) else none := by
  unfold due
  rw [if_neg hd, List.getElem?_map]
  by_cases hi : i < max row.length (pl.toNat + data.length)
  · rw [List.getElem?_range hi, if_pos hi]; rfl
  · rw [List.getElem?_eq_none (by rw [List.length_range]; omega), if_neg hi]; rfl
theorem laid_due (row : List Int) (pl : Int) (data : List Int) (h : 0 ≤ pl) : laidL row pl data = due row pl data := by
  obtain ⟨p, rfl⟩ : ∃ p : Nat, pl = p := ⟨pl.toNat, by omega⟩
  by_cases hd : data.length = 0
  · unfold laidL due; rw [if_pos hd, if_pos hd]
  · refine List.ext_getElem? fun i => ?_
    rw [due_get _ _ _ hd]
    unfold laidL
    rw [if_neg hd]
    have e1 : ((p : Int) + data.length).toNat = p + data.length := by omega
    have e2 : ((p : Int) - row.length).toNat = p - row.length := by omega
    dsimp only
    rw [e1, e2]
    simp only [Int.toNat_natCast]
    rw [List.getElem?_append, List.getElem?_append]
    simp only [List.length_append, List.length_take, List.length_replicate, List.getElem?_take, List.getElem?_drop, List.getElem?_append, List.getElem?_replicate, List.getD]
    grind
theorem due_len (row : List Int) (pl : Int) (data : List Int) (h : 0 ≤ pl) : (due row pl data).length ≤ row.length + pl.toNat + data.length := by
  unfold due
  split
  · omega
  · rw [List.length_map, List.length_range]; omega
theorem due_due (row : List Int) (pl : Int) (data : List Int) (h : 0 ≤ pl) : due (due row pl data) pl data = due row pl data := by
  by_cases hd : data.length = 0
  · unfold due; rw [if_pos hd, if_pos hd]
  · have hl : (due row pl data).length = max row.length (pl.toNat + data.length) := by
      unfold due; rw [if_neg hd, List.length_map, List.length_range]
    refine List.ext_getElem? fun i => ?_
    rw [due_get _ _ _ hd, due_get _ _ _ hd, hl]
    by_cases h1 : i < max row.length (pl.toNat + data.length)
    · rw [if_pos h1, if_pos (by omega)]
      by_cases h2 : pl.toNat ≤ i ∧ i < pl.toNat + data.length
      · rw [if_pos h2, if_pos h2]
      · rw [if_neg h2, if_neg h2]
        simp only [List.getD, due_get _ _ _ hd, if_pos h1, if_neg h2]
        rfl
    · rw [if_neg h1, if_neg (by omega)]
def sp_laid (_ : PySem.W.Frag) : Sp := fun vs H Q _ => ∃ (a b : Addr) (row data : List Int) (pl : Int) (F : HL), vs = [.ref a, .int pl, .ref b] ∧ 0 ≤ pl ∧ pl ≤ 5000 ∧ row.length ≤ 10000 ∧ data.length ≤ 10000 ∧ Own H ([(a, .lst (row.map V.int))] ++ ([(b, .lst (data.map V.int))] ++ F)) ∧
  ∀ q H', Own H' ([(q, .lst ((due row pl data).map V.int))] ++ ([(a, .lst (row.map V.int))] ++ ([(b, .lst (data.map V.int))] ++ F))) → Q (.ref q) H'
theorem len_laid {vs H Q E} (h : sp_laid K vs H Q E) : vs.length = 3 := by
  obtain ⟨a, b, row, data, pl, F, rfl, _⟩ := h
  rfl
theorem ok_laid (T : Txt K mg) : Cal P w K mg base 1 "laid" (sp_laid K) [] := by

  refine cal_nox T.d_laid sc_laid (fun _ _ _ _ _ _ us hl => match us, hl with | [_, _, _], _ => rfl) (fun vs H Q E h => len_laid h) (fun cdv A outer s f H vs Q E hr h => ?_)
  refine ⟨_, (pss_cons (ps_if (pt_cmpR (op_zEq (uI hr)) (pe_callB call_zLen rfl T.f_len bt_len (pa_cons (pv 2) pa_nil)) pe_int (nomark _))
      (pss_one (ps_ret (pe_callTy call_zList rfl T.f_list bt_list (pa_cons (pv 0) pa_nil))))
      pss_nil)
      (pss_cons (ps_set (i := 3) sc_laid.nd rfl (Or.inl rfl) (pe_op op_zAdd (pe_callTy call_zList rfl T.f_list bt_list (pa_cons (pv 0) pa_nil)) (pe_op op_zMul (pe_lst (pa_cons pe_int pa_nil)) (pe_op op_zSub (pv 1) (pe_callB call_zLen rfl T.f_len bt_len (pa_cons (pv 0) pa_nil))))))
      (pss_one (ps_ret (pe_op op_zAdd (pe_op op_zAdd (pe_slice sl_z (pv 3) po_none (po_some (pv 1))) (pe_callTy call_zList rfl T.f_list bt_list (pa_cons (pv 2) pa_nil))) (pe_slice sl_z (pv 3) (po_some (pe_op op_zAdd (pv 1) (pe_callB call_zLen rfl T.f_len bt_len (pa_cons (pv 2) pa_nil)))) po_none)))))), ?_⟩
  dsimp only [cxOf]
  obtain ⟨a, b, row, data, pl, F, rfl, h0, h1, h2, h3, O, k⟩ := h
  refine w_start (σ := [some (.ref a), some (.int pl), some (.ref b), none]) rfl ?_
  wtm_at "zgo"
  · have e : laidL row pl data = row := if_pos (by omega)
    rw [← laid_due _ _ _ h0, e] at k
    exact k _ _ O
  · have e : laidL row pl data = (row ++ List.replicate (pl - row.length).toNat 0).take pl.toNat ++ data ++ (row ++ List.replicate (pl - row.length).toNat 0).drop (pl + data.length).toNat := if_neg (by omega)
    rw [← laid_due _ _ _ h0, e] at k
    refine k _ _ (by wtm_at "zown")
def sp__law_due (_ : PySem.W.Frag) : Sp := fun vs H Q _ => ∃ (a b : Addr) (row data : List Int) (pl : Int) (F : HL), vs = [.ref a, .int pl, .ref b] ∧ 0 ≤ pl ∧ pl ≤ 5000 ∧ row.length ≤ 10000 ∧ data.length ≤ 10000 ∧ Own H ([(a, .lst (row.map V.int))] ++ ([(b, .lst (data.map V.int))] ++ F)) ∧
  ∀ q H', Own H' ([(q, .lst ((due row pl data).map V.int))] ++ ([(a, .lst (row.map V.int))] ++ ([(b, .lst (data.map V.int))] ++ F))) → Q (.ref q) H'
theorem len__law_due {vs H Q E} (h : sp__law_due K vs H Q E) : vs.length = 3 := by
  obtain ⟨a, b, row, data, pl, F, rfl, _⟩ := h
  rfl
theorem ok__law_due (T : Txt K mg) : Cal P w K mg base 1 "_law_due" (sp__law_due K) [] := by

  refine cal_nox T.d__law_due sc__law_due (fun _ _ _ _ _ _ us hl => match us, hl with | [_, _, _], _ => rfl) (fun vs H Q E h => len__law_due h) (fun cdv A outer s f H vs Q E hr h => ?_)
  refine ⟨_, (pss_cons (ps_if (pt_cmpR (op_zEq (uI hr)) (pe_callB call_zLen rfl T.f_len bt_len (pa_cons (pv 2) pa_nil)) pe_int (nomark _))
      (pss_one (ps_ret (pe_callTy call_zList rfl T.f_list bt_list (pa_cons (pv 0) pa_nil))))
      pss_nil)
      (pss_cons (ps_set (i := 3) sc__law_due.nd rfl (Or.inl rfl) (pe_lst pa_nil))
      (pss_cons (ps_for PassesOwn.never rfl (pi_range1 rfl T.f_range (pa_cons (pe_callB (call_zMax rfl) rfl T.f_max bt_max (pa_cons (pe_callB call_zLen rfl T.f_len bt_len (pa_cons (pv 0) pa_nil)) (pa_cons (pe_op op_zAdd (pv 1) (pe_callB call_zLen rfl T.f_len bt_len (pa_cons (pv 2) pa_nil))) pa_nil))) pa_nil)) (pg_name (i := 4) sc__law_due.nd rfl (Or.inl rfl))
      (pss_one (ps_if (PW.pt (pw_and (pt_cmpR op_zGe (pv 4) (pv 1) (nomark _)) (pw_and1 (pt_cmpR op_zLt (pv 4) (pe_op op_zAdd (pv 1) (pe_callB call_zLen rfl T.f_len bt_len (pa_cons (pv 2) pa_nil))) (nomark _)))))
      (pss_one (ps_expr (pe_bm PySem.F.plainAttrs_list PySem.F.slot_list_append PySem.F.type_list_append mt_append (pv 3) (pa_cons (pe_ix ix_seq (pv 2) (pe_op op_zSub (pv 4) (pv 1)) (fun _ _ => rfl)) pa_nil))))
      (pss_one (ps_if (pt_cmpR op_zLt (pv 4) (pe_callB call_zLen rfl T.f_len bt_len (pa_cons (pv 0) pa_nil)) (nomark _))
      (pss_one (ps_expr (pe_bm PySem.F.plainAttrs_list PySem.F.slot_list_append PySem.F.type_list_append mt_append (pv 3) (pa_cons (pe_ix ix_seq (pv 0) (pv 4) (fun _ _ => rfl)) pa_nil))))
      (pss_one (ps_expr (pe_bm PySem.F.plainAttrs_list PySem.F.slot_list_append PySem.F.type_list_append mt_append (pv 3) (pa_cons pe_int pa_nil)))))))))
      (pss_one (ps_ret (pv 3)))))), ?_⟩
  dsimp only [cxOf]
  obtain ⟨a, b, row, data, pl, F, rfl, h0, h1, h2, h3, O, k⟩ := h
  refine w_start (σ := [some (.ref a), some (.int pl), some (.ref b), none, none]) rfl ?_
  wtm_at "zgo"
  · have e : due row pl data = row := if_pos (by omega)
    rw [e] at k
    exact k _ _ O
  · have hn : (max (row.length : Int) (pl + data.length)).toNat = max row.length (pl.toNat + data.length) := by omega
    have e : due row pl data = (List.range (max row.length (pl.toNat + data.length))).map fun k => if pl.toNat ≤ k ∧ k < pl.toNat + data.length then data.getD (k - pl.toNat) 0 else row.getD k 0 := if_neg (by omega)
    rw [hn]
    generalize hf : (fun k => if pl.toNat ≤ k ∧ k < pl.toNat + data.length then data.getD (k - pl.toNat) 0 else row.getD k 0) = f at e
    refine w_forR (lo := 0) (fun i σ H => ∃ (v : Option V), σ = [some (.ref a), some (.int pl), some (.ref b), some (.ref q), v] ∧ Own H ([(q, .lst (((List.range i).map f).map V.int))] ++ ([(a, .lst (row.map V.int))] ++ ([(b, .lst (data.map V.int))] ++ F)))) ⟨_, rfl, O⟩ ?_ ?_
    · rintro i σ H hi ⟨v, rfl, O⟩
      have hl : ((List.range i).map f).length = i := by simp
      wtm_at "zgo"
      all_goals refine ⟨_, rfl, ?_⟩
      all_goals rw [range_map_succ, ← hf]
      all_goals dsimp only
      · rw [if_pos ⟨by omega, by omega⟩, show i - pl.toNat = (0 + (i : Int) - pl).toNat by omega, hf]
        exact O
      · rw [if_neg (by omega), show row.getD i 0 = row.getD (0 + (i : Int)).toNat 0 by rw [show (0 + (i : Int)).toNat = i by omega], hf]
        exact O
      · rw [if_neg (by omega), show row.getD i 0 = row.getD (0 + (i : Int)).toNat 0 by rw [show (0 + (i : Int)).toNat = i by omega], hf]
        exact O
      · rw [if_neg (by omega), show row.getD i 0 = 0 by rw [List.getD, List.getElem?_eq_none (by omega)]; rfl, hf]
        exact O
    · rintro σ H ⟨v, rfl, O⟩
      wtm_at "zgo"
      rw [e] at k
      exact k _ _ O
def sp__law_fits (_ : PySem.W.Frag) : Sp := fun vs H Q _ => ∃ (a b : Addr) (xs ys : List Int) (F : HL), vs = [.ref a, .ref b] ∧ xs.length ≤ 16777216 ∧ Own H ([(a, .lst (xs.map V.int))] ++ ([(b, .lst (ys.map V.int))] ++ F)) ∧
  ∀ H', Own H' ([(a, .lst (xs.map V.int))] ++ ([(b, .lst (ys.map V.int))] ++ F)) → Q (.bl (decide (xs = ys))) H'
theorem len__law_fits {vs H Q E} (h : sp__law_fits K vs H Q E) : vs.length = 2 := by
  obtain ⟨a, b, xs, ys, F, rfl, _⟩ := h
  rfl
theorem ok__law_fits (T : Txt K mg) : Cal P w K mg base 1 "_law_fits" (sp__law_fits K) [] := by

  refine cal_nox T.d__law_fits sc__law_fits (fun _ _ _ _ _ _ us hl => match us, hl with | [_, _], _ => rfl) (fun vs H Q E h => len__law_fits h) (fun cdv A outer s f H vs Q E hr h => ?_)
  refine ⟨_, (pss_cons (ps_if (PW.pt (pw_or (pt_not (pt_z (pe_callB call_zIsi rfl T.f_isinstance bt_isinstance (pa_cons (pv 0) (pa_cons (pe_bltn (v := .ty "list") rfl T.f_list bt_list rfl) pa_nil))))) (pw_or1 (pt_cmpR (op_zNe (uI hr)) (pe_callB call_zLen rfl T.f_len bt_len (pa_cons (pv 0) pa_nil)) (pe_callB call_zLen rfl T.f_len bt_len (pa_cons (pv 1) pa_nil)) (nomark _)))))
      (pss_one (ps_ret pe_bl))
      pss_nil)
      (pss_one (ps_ret (pe_andT (pe_callB (call_zAll rfl) rfl T.f_all bt_all (pa_cons (pe_lc (own := [("_law_thing", 2)]) (g := (gName 2)) (tt := tYes) (te := (tAndT K (tCB (zIsi K) (tCons (tVar 2) (tCons (tC (.ty "int")) tNil))) (tNotT K (tCB (zIsi K) (tCons (tVar 2) (tCons (tC (.ty "bool")) tNil)))))) rfl sc__law_fits.nd (pi_list (pv 0)) (blkOk_by (own := [("_law_thing", 2)]) (N := ["_law_found", "_law_due_here", "_law_thing"]) (sc := defScope s__law_fits) (by decide +kernel)) (fun _ _ _ _ _ => by exact (pg_name (i := 2) sc__law_fits.nd rfl (Or.inl rfl))) (fun _ _ _ _ _ => by exact pts_nil) (fun _ _ _ _ _ => by exact (pe_andT (pe_callB call_zIsi rfl T.f_isinstance bt_isinstance (pa_cons (pv 2) (pa_cons (pe_bltn (v := .ty "int") rfl T.f_int bt_int rfl) pa_nil))) (pe_one (pe_notT (pe_callB call_zIsi rfl T.f_isinstance bt_isinstance (pa_cons (pv 2) (pa_cons (pe_bltn (v := .ty "bool") rfl T.f_bool bt_bool rfl) pa_nil)))))))) pa_nil)) (pe_one (pe_cmpR (op_zEq (uI hr)) (pv 0) (pv 1) (nomark _))))))), ?_⟩
  dsimp only [cxOf]
  obtain ⟨a, b, xs, ys, F, rfl, hx, O, k⟩ := h
  refine w_start (σ := [some (.ref a), some (.ref b), none]) rfl ?_
  wtm_at "zgo"
  · have e : decide (xs = ys) = false := decide_eq_false fun e => h (by rw [e])
    rw [e] at k
    exact k _ O
  · with_reducible apply w_lcB (f := fun _ => true) O
    · wtm_at "zpk"
    · exact hx
    · intro i x D H₁ Qe hx O₁ hk Nx
      clear O; revert H₁; intro H O
      dsimp only [wipe, List.map, List.set]
      wtm_at "zgo"
      exact hk _ O
    wtm_at "znw"
    wtm_at "zgo"
    rw [all_const, if_pos rfl]
    wtm_at "zgo"
    exact k _ (by wtm_at "zown")
/-! ### the law -/
theorem ap__law_bytes {H : Hp} {L F : HL} {Q : VK} {E : XK} {p : Addr} {d n c : Int} (O : Own H L) (pk : Pk L (pool p d n c) F) (h3 : 0 ≤ d) (h4 : 0 ≤ n) (h5 : n < 3000000000)
    (k : ∀ (q : Addr) (ns : List Int) (d' n' : Int), ns.length ≤ 400 → (∀ x ∈ ns, 0 ≤ x ∧ x ≤ 255) → 0 ≤ d' → n ≤ n' → n' ≤ n + 1000 → ∀ H', Own H' ([(q, .lst (ns.map V.int))] ++ (pool p d' n' c ++ F)) → Q (.ref q) H') : sp__law_bytes K [.ref p] H Q E :=
  ⟨p, d, n, c, F, rfl, h3, h4, h5, O.pk pk, fun q ns d' n' H' a1 a2 a3 a4 O' => k q ns d' n' a1.1 a1.2 a2 a3 a4 H' O'⟩
theorem ap__law_due {H : Hp} {L R R' : HL} {Q : VK} {E : XK} {a b : Addr} {row data : List Int} {pl : Int} (O : Own H L) (p1 : Pk L [(a, .lst (row.map V.int))] R) (p2 : Pk R [(b, .lst (data.map V.int))] R') (h0 : 0 ≤ pl) (h1 : pl ≤ 5000) (h2 : row.length ≤ 10000) (h3 : data.length ≤ 10000)
    (k : ∀ q H', Own H' ([(q, .lst ((due row pl data).map V.int))] ++ ([(a, .lst (row.map V.int))] ++ ([(b, .lst (data.map V.int))] ++ R'))) → Q (.ref q) H') : sp__law_due K [.ref a, .int pl, .ref b] H Q E :=
  ⟨a, b, row, data, pl, R', rfl, h0, h1, h2, h3, O.sub (.cons p1 (.cons p2 .all)), k⟩
theorem ap_laid {H : Hp} {L R R' : HL} {Q : VK} {E : XK} {a b : Addr} {row data : List Int} {pl : Int} (O : Own H L) (p1 : Pk L [(a, .lst (row.map V.int))] R) (p2 : Pk R [(b, .lst (data.map V.int))] R') (h0 : 0 ≤ pl) (h1 : pl ≤ 5000) (h2 : row.length ≤ 10000) (h3 : data.length ≤ 10000)
    (k : ∀ q H', Own H' ([(q, .lst ((due row pl data).map V.int))] ++ ([(a, .lst (row.map V.int))] ++ ([(b, .lst (data.map V.int))] ++ R'))) → Q (.ref q) H') : sp_laid K [.ref a, .int pl, .ref b] H Q E :=
  ⟨a, b, row, data, pl, R', rfl, h0, h1, h2, h3, O.sub (.cons p1 (.cons p2 .all)), k⟩
theorem ap__law_fits {H : Hp} {L R R' : HL} {Q : VK} {E : XK} {a b : Addr} {xs ys : List Int} (O : Own H L) (p1 : Pk L [(a, .lst (xs.map V.int))] R) (p2 : Pk R [(b, .lst (ys.map V.int))] R') (h1 : xs.length ≤ 16777216)
    (k : ∀ H', Own H' ([(a, .lst (xs.map V.int))] ++ ([(b, .lst (ys.map V.int))] ++ R')) → Q (.bl (decide (xs = ys))) H') : sp__law_fits K [.ref a, .ref b] H Q E :=
  ⟨a, b, xs, ys, R', rfl, h1, O.sub (.cons p1 (.cons p2 .all)), k⟩
local macro_rules | `(tactic| wtm_at "zcall") => `(tactic| (with_reducible apply ap__law_bytes O; (· wtm_at "zpk"); (· omega); (· omega); (· omega); intro q ns d n hB1 hB2 h1 h2 h3; wtm_at "znx"))
local macro_rules | `(tactic| wtm_at "zcall") => `(tactic| (with_reducible apply ap__law_due O; (· wtm_at "zpk"); (· wtm_at "zpk"); (· omega); (· omega); (· wtm_at "zsd"); (· wtm_at "zsd"); wtm_at "znw"))
local macro_rules | `(tactic| wtm_at "zcall") => `(tactic| (with_reducible apply ap_laid O; (· wtm_at "zpk"); (· wtm_at "zpk"); (· omega); (· omega); (· wtm_at "zsd"); (· wtm_at "zsd"); wtm_at "znw"))
local macro_rules | `(tactic| wtm_at "zcall") => `(tactic| (with_reducible apply ap__law_fits O; (· wtm_at "zpk"); (· wtm_at "zpk"); (· wtm_at "zsd"); wtm_at "znx"))
def sp_law (K : PySem.W.Frag) : Sp := fun vs H Q _ => ∃ (a : Addr) (ns : List Int), vs = [.ref a] ∧ SqL K H a (ns.map V.int) ∧ ns.length ≤ 63 ∧ ∀ H', Q (.bl true) H'
theorem ok_law (T : Txt K mg) {f : Addr} {fd : FuncData} (F : FunD K "law" "law" (defArgs s_law) (defBody s_law) (defScope s_law) [] [] f fd) : FnOk P w K mg base CX0 4 f fd ["_law_script"] (sp_law K) := by
  have c__law_pool : Cal P w K mg base 3 "_law_pool" (sp__law_pool K) [] := (ok__law_pool T).mono (by decide)
  have c__law_bytes : Cal P w K mg base 3 "_law_bytes" (sp__law_bytes K) [] := (ok__law_bytes T).mono (by decide)
  have c__law_take : Cal P w K mg base 3 "_law_take" (sp__law_take K) [] := (ok__law_take T).mono (by decide)
  have c__law_due : Cal P w K mg base 3 "_law_due" (sp__law_due K) [] := (ok__law_due T).mono (by decide)
  have c_laid : Cal P w K mg base 3 "laid" (sp_laid K) [] := (ok_laid T).mono (by decide)
  have c__law_fits : Cal P w K mg base 3 "_law_fits" (sp__law_fits K) [] := (ok__law_fits T).mono (by decide)
  refine law_nox F sc_law (fun vs H Q E h => (by obtain ⟨a, ns, rfl, _⟩ := h; rfl)) (fun cdv A outer s H vs Q E hr h => ?_)
  refine ⟨_, (pss_cons (ps_set (i := 1) sc_law.nd rfl (Or.inl rfl) (pe_c0 c__law_pool hr (by decide) rfl (pa_cons (pv 0) (pa_cons pe_int pa_nil))))
      (pss_cons (ps_set (i := 2) sc_law.nd rfl (Or.inl rfl) (pe_c0 c__law_bytes hr (by decide) rfl (pa_cons (pv 1) pa_nil)))
      (pss_cons (ps_set (i := 3) sc_law.nd rfl (Or.inl rfl) (pe_c0 c__law_take hr (by decide) rfl (pa_cons (pv 1) (pa_cons pe_int pa_nil))))
      (pss_cons (ps_set (i := 4) sc_law.nd rfl (Or.inl rfl) (pe_ix ix_seq (pe_lst (pa_cons (pe_callB call_zLen rfl T.f_len bt_len (pa_cons (pv 2) pa_nil)) (pa_cons (pe_c0 c__law_take hr (by decide) rfl (pa_cons (pv 1) (pa_cons (pe_op op_zAdd (pe_callB call_zLen rfl T.f_len bt_len (pa_cons (pv 2) pa_nil)) pe_int) pa_nil))) (pa_cons (pe_op op_zAdd (pe_callB call_zLen rfl T.f_len bt_len (pa_cons (pv 2) pa_nil)) (pe_c0 c__law_take hr (by decide) rfl (pa_cons (pv 1) (pa_cons pe_int pa_nil)))) (pa_cons (pe_c0 c__law_take hr (by decide) rfl (pa_cons (pv 1) (pa_cons pe_int pa_nil))) pa_nil))))) (pv 3) (fun _ _ => rfl)))
      (pss_cons (ps_set (i := 5) sc_law.nd rfl (Or.inl rfl) (pe_c0 c__law_bytes hr (by decide) rfl (pa_cons (pe_c0 c__law_pool hr (by decide) rfl (pa_cons (pv 0) (pa_cons pe_int pa_nil))) pa_nil)))
      (pss_cons (ps_set (i := 6) sc_law.nd rfl (Or.inl rfl) (pe_c0 c__law_due hr (by decide) rfl (pa_cons (pv 2) (pa_cons (pv 4) (pa_cons (pv 5) pa_nil)))))
      (pss_cons (ps_set (i := 7) sc_law.nd rfl (Or.inl rfl) (pe_callTy call_zList rfl T.f_list bt_list (pa_cons (pv 2) pa_nil)))
      (pss_cons (ps_set (i := 8) sc_law.nd rfl (Or.inl rfl) (pe_callTy call_zList rfl T.f_list bt_list (pa_cons (pv 5) pa_nil)))
      (pss_cons (ps_set (i := 9) sc_law.nd rfl (Or.inl rfl) (pe_c0 c_laid hr (by decide) rfl (pa_cons (pv 7) (pa_cons (pv 4) (pa_cons (pv 8) pa_nil)))))
      (pss_cons (ps_if (PW.pt (pw_or (pt_not (pt_z (pe_c0 c__law_fits hr (by decide) rfl (pa_cons (pv 9) (pa_cons (pv 6) pa_nil))))) (pw_or (pt_cmpR (op_zNe (uI hr)) (pv 7) (pv 2) (nomark _)) (pw_or1 (pt_cmpR (op_zNe (uI hr)) (pv 8) (pv 5) (nomark _))))))
      (pss_one (ps_ret pe_bl))
      pss_nil)
      (pss_cons (ps_expr (pe_bm PySem.F.plainAttrs_list PySem.F.slot_list_append PySem.F.type_list_append mt_append (pv 9) (pa_cons pe_int pa_nil)))
      (pss_cons (ps_asg pe_int (pg_sub (pv 9) pe_int set_list))
      (pss_cons (ps_if (PW.pt (pw_or (pt_cmpR (op_zNe (uI hr)) (pv 7) (pv 2) (nomark _)) (pw_or1 (pt_cmpR (op_zNe (uI hr)) (pv 8) (pv 5) (nomark _)))))
      (pss_one (ps_ret pe_bl))
      pss_nil)
      (pss_cons (ps_expr (pe_bm PySem.F.plainAttrs_list PySem.F.slot_list_append PySem.F.type_list_append mt_append (pv 7) (pa_cons pe_int pa_nil)))
      (pss_cons (ps_expr (pe_bm PySem.F.plainAttrs_list PySem.F.slot_list_append PySem.F.type_list_append mt_append (pv 8) (pa_cons pe_int pa_nil)))
      (pss_cons (ps_set (i := 10) sc_law.nd rfl (Or.inl rfl) (pe_c0 c_laid hr (by decide) rfl (pa_cons (pe_callTy call_zList rfl T.f_list bt_list (pa_cons (pv 2) pa_nil)) (pa_cons (pv 4) (pa_cons (pe_callTy call_zList rfl T.f_list bt_list (pa_cons (pv 5) pa_nil)) pa_nil)))))
      (pss_cons (ps_if (pt_not (pt_z (pe_c0 c__law_fits hr (by decide) rfl (pa_cons (pv 10) (pa_cons (pv 6) pa_nil)))))
      (pss_one (ps_ret pe_bl))
      pss_nil)
      (pss_one (ps_ret (pe_orT (pe_cmpR op_zGt (pe_callB call_zLen rfl T.f_len bt_len (pa_cons (pv 10) pa_nil)) pe_int (nomark _)) (pe_one (pe_c0 c__law_fits hr (by decide) rfl (pa_cons (pe_c0 c_laid hr (by decide) rfl (pa_cons (pv 10) (pa_cons (pv 4) (pa_cons (pe_callTy call_zList rfl T.f_list bt_list (pa_cons (pv 5) pa_nil)) pa_nil)))) (pa_cons (pv 6) pa_nil)))))))))))))))))))))))), ?_⟩
  dsimp only [cxOf]
  obtain ⟨a, ns, rfl, hq, hlen, k⟩ := h
  obtain ⟨S, hS, O⟩ := scr_of hq
  refine w_start (σ := [some (.ref a), none, none, none, none, none, none, none, none, none, none]) rfl ?_
  wtm_at "zn"
  wtm_at "zn"
  rename List Int => row
  rename row.length ≤ 400 => hrow
  wtm_at "zn"
  wtm_at "zn"
  generalize hpl : ([_, _, _, _] : List Int).getD _ 0 = pl
  have hp : 0 ≤ pl ∧ pl ≤ 4999 := by
    rw [← hpl]
    refine mem_menu (P := fun x => 0 ≤ x ∧ x ≤ 4999) ?_ ?_ fun x hx => ?_
    · assumption
    · wtm_at "zsd"
    · simp only [List.mem_cons, List.not_mem_nil, or_false] at hx
      omega
  wtm_at "zn"
  rename List Int => data
  rename data.length ≤ 400 => hdata
  have hl := due_len row pl data hp.1
  wtm_at "zgo"
  · rw [decide_eq_true h]
    exact k _
  · rw [due_due _ _ _ hp.1] at O
    wtm_at "zgo"
    rw [decide_eq_true rfl]
    exact k _
end
def D_laid : He.DefD := ⟨("laid", none), "laid", "laid", defArgs s_laid, defBody s_laid, defScope s_laid, [], []⟩
def D__law_pool : He.DefD := ⟨("_law_pool", none), "_law_pool", "_law_pool", defArgs s__law_pool, defBody s__law_pool, defScope s__law_pool, [], []⟩
def D__law_take : He.DefD := ⟨("_law_take", none), "_law_take", "_law_take", defArgs s__law_take, defBody s__law_take, defScope s__law_take, [], []⟩
def D__law_bytes : He.DefD := ⟨("_law_bytes", none), "_law_bytes", "_law_bytes", defArgs s__law_bytes, defBody s__law_bytes, defScope s__law_bytes, [], []⟩
def D__law_due : He.DefD := ⟨("_law_due", none), "_law_due", "_law_due", defArgs s__law_due, defBody s__law_due, defScope s__law_due, [], []⟩
def D__law_fits : He.DefD := ⟨("_law_fits", none), "_law_fits", "_law_fits", defArgs s__law_fits, defBody s__law_fits, defScope s__law_fits, [], []⟩
def D_law : He.DefD := ⟨("law", none), "law", "law", defArgs s_law, defBody s_law, defScope s_law, [], []⟩
def fn : List He.DefD := [D_laid, D__law_pool, D__law_take, D__law_bytes, D__law_due, D__law_fits, D_law]
def fa : List He.Fa := [.glo "laid", .glo "_law_pool", .glo "_law_take", .glo "_law_bytes", .glo "_law_due", .glo "_law_fits", .glo "law", .free "all", .free "bool", .free "int", .free "isinstance", .free "len", .free "list", .free "max", .free "range"]
abbrev R : PySem.W.OpenRow := PySem.W.OpenLaw.row PySem.Challenge.rw_sipstack_k02_laid
abbrev hk : PySem.W.Hook := He.hookD 5 fa fn
def ob (s : PySem.W.SharedT) : He.AlD := He.obsDG 5 fa fn (HandSHeadRun.getT s)
theorem ob_eq (s : PySem.W.SharedT) : ob s = hk.obs s.abs := He.obsDG_eq (HandSHeadRun.getT_eq s)
abbrev loose : List Str := ["laid", "_law_pool", "_law_take", "_law_bytes", "_law_due", "_law_fits"]
theorem run (w : World) : HandSHeadRun.RunEq R (PySem.W.view R.prog [8]) hk ob 1200 loose w := by
  intro os
  kernel_rfl
theorem txt_of {K : PySem.W.Frag} {h : Heap} {mg : Str → Option Value} (X : K.In h) (G : h.Ns mainGlobals mg) (c : He.SaysD fa fn K) : Txt K mg where
  f_all := He.free_ok X G (c.fact 7 (f := .free "all") rfl)
  f_bool := He.free_ok X G (c.fact 8 (f := .free "bool") rfl)
  f_int := He.free_ok X G (c.fact 9 (f := .free "int") rfl)
  f_isinstance := He.free_ok X G (c.fact 10 (f := .free "isinstance") rfl)
  f_len := He.free_ok X G (c.fact 11 (f := .free "len") rfl)
  f_list := He.free_ok X G (c.fact 12 (f := .free "list") rfl)
  f_max := He.free_ok X G (c.fact 13 (f := .free "max") rfl)
  f_range := He.free_ok X G (c.fact 14 (f := .free "range") rfl)
  d_laid := let ⟨fd, F⟩ := c.def_ 0 (d := D_laid) rfl; ⟨_, fd, F, He.glo_ok X G (c.fact 0 (f := .glo "laid") rfl)⟩
  d__law_pool := let ⟨fd, F⟩ := c.def_ 1 (d := D__law_pool) rfl; ⟨_, fd, F, He.glo_ok X G (c.fact 1 (f := .glo "_law_pool") rfl)⟩
  d__law_take := let ⟨fd, F⟩ := c.def_ 2 (d := D__law_take) rfl; ⟨_, fd, F, He.glo_ok X G (c.fact 2 (f := .glo "_law_take") rfl)⟩
  d__law_bytes := let ⟨fd, F⟩ := c.def_ 3 (d := D__law_bytes) rfl; ⟨_, fd, F, He.glo_ok X G (c.fact 3 (f := .glo "_law_bytes") rfl)⟩
  d__law_due := let ⟨fd, F⟩ := c.def_ 4 (d := D__law_due) rfl; ⟨_, fd, F, He.glo_ok X G (c.fact 4 (f := .glo "_law_due") rfl)⟩
  d__law_fits := let ⟨fd, F⟩ := c.def_ 5 (d := D__law_fits) rfl; ⟨_, fd, F, He.glo_ok X G (c.fact 5 (f := .glo "_law_fits") rfl)⟩
theorem facts {P : Program} {w : World} {K : PySem.W.Frag} {h : Heap} {mg : Str → Option Value} {f : Addr} (X : K.In h) (G : h.Ns mainGlobals mg) (hfa : mg ("law" : Str) = some (.ref f)) (c : He.SaysD fa fn K) :
    ∃ fd : FuncData, (∀ (s : Shared) (v : Value), BindsTo s fd ⟨[v], []⟩ [("_law_script", v)]) ∧ ∀ base : Heap, K.In base → base.Ns mainGlobals mg → FnOk P w K mg base CX0 4 f fd ["_law_script"] (sp_law K) := by
  obtain ⟨fd, F⟩ := c.def_ 6 (d := D_law) rfl
  have e := hfa.symm.trans (He.glo_ok X G (c.fact 6 (f := .glo "law") rfl))
  cases e
  have b := FunD.bindsA (ps := ["_law_script"]) F fun _ _ _ _ _ _ us hl => match us, hl with | [_], _ => rfl
  exact ⟨fd, fun s v => b s [v] rfl, fun base _ _ => ok_law (txt_of X G c) F⟩
end Zl
open PySem PySem.W PySem.Calls PyProof.Rows
set_option maxRecDepth 100000 in
set_option maxHeartbeats 0 in
theorem PySem.Challenge.cw_sipstack_k02_laid_holds : PySem.Challenge.rw_sipstack_k02_laid.Holds := by
  w_on; o_law
  refine HandSHeadRun.head_any (r := OpenLaw.row PySem.Challenge.rw_sipstack_k02_laid) (q := view (OpenLaw.row PySem.Challenge.rw_sipstack_k02_laid).prog [8]) (H := Zl.hk) (ob := Zl.ob) (M := 1200) (loose := Zl.loose) (d := HandSHeadRun.topDef (OpenLaw.row PySem.Challenge.rw_sipstack_k02_laid).prog 8) (kwd := []) Zl.ob_eq
    (by kernel_rfl) (fun s => by kernel_rfl) Zl.run (by kernel_rfl) (by kernel_rfl) (by kernel_rfl) (by rfl) (by first | assumption | decide +kernel) (by decide +kernel) ⟨rfl, rfl, rfl, rfl, rfl, by decide +kernel⟩ ?hw ?hc
  case hw => w_witness2
  case hc =>
    refine L2.walk_ofE (l := PySem.Challenge.rw_sipstack_k02_laid) (n := 63) (k := 4) (x := "_law_script") (CX := L2.CX0) rfl (by decide) (by kernel_rfl) ⟨rfl, by decide, by decide⟩ ?F (fun _ _ _ _ z => z)
    intro w mg fa h Y G hmg0
    obtain ⟨K, KX, c⟩ := Y
    have hmg : mg ("law" : PySem.Str) = some (.ref fa) := by
      have e : (HandSHeadRun.topDef (OpenLaw.row PySem.Challenge.rw_sipstack_k02_laid).prog 8).name = ("law" : PySem.Str) := by kernel_rfl
      rw [← e]
      exact hmg0
    obtain ⟨fd, hb, hF⟩ := Zl.facts (P := (PySem.Challenge.rw_sipstack_k02_laid).prog) (w := w) KX G hmg c
    exact ⟨K, fd, Zl.sp_law K, KX, hb, fun H a ns hl _ hS => ⟨a, ns, rfl, hS, hl, fun _ => rfl⟩, hF⟩
#print axioms PySem.Challenge.cw_sipstack_k02_laid_holds

