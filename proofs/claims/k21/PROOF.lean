import PyProof.Rows.All
import Wide.All
import OpenK.AllK
import Wide.FinOn
import HandS.ForMost
import HandS.ForExc
import HandS.Wide
import HandS.IsInst
import HandS.Style
import HandS.Flow
import HandS.More
import HandS.TupAny
import HandS.Defaults
import HandS.Walk
import HandS.MakeKw
import HandS.TryOnly
import HandS.TryMany
import HandS.Head0
import HandS.Head1
import HandS.Head2
import HandS.HeadEnd
import HandS.HeadHook1
import HandS.HeadHook2
import HandS.Deep
import HandS.MakeKwOnly
import PySem.Challenge.RW_sipstack_k21_plain_seek_and_cut
set_option Elab.async false
set_option linter.all false
set_option maxRecDepth 100000
set_option maxHeartbeats 4000000
namespace Z
open PySem PySem.Spec L2
/-! ### what is owned: a list of addresses and their objects -/
abbrev HL := List (Addr × HO)
structure Own (H : Hp) (L : HL) : Prop where
  nd : (L.map (·.1)).Nodup
  get : ∀ a o, (a, o) ∈ L → H a = some o
/-- L is b and R in some order -/
def Pk (L b R : HL) : Prop := L.Perm (b ++ R)
theorem Pk.here {b R : HL} : Pk (b ++ R) b R := List.Perm.refl _
theorem Pk.only {b : HL} : Pk b b [] := by unfold Pk; rw [List.append_nil]
theorem Pk.there {b c R R' : HL} (h : Pk R b R') : Pk (c ++ R) b (c ++ R') := by
  unfold Pk at *
  refine (h.append_left c).trans ?_
  rw [← List.append_assoc, ← List.append_assoc]
  exact List.Perm.append_right _ List.perm_append_comm
/-- T is a part of L -/
def Sub (T L : HL) : Prop := ∃ R, L.Perm (T ++ R)
theorem Sub.all {L : HL} : Sub L L := ⟨[], by rw [List.append_nil]⟩
theorem Sub.nil {L : HL} : Sub [] L := ⟨L, List.Perm.refl _⟩
theorem Sub.cons {L b R T : HL} (h : Pk L b R) (k : Sub T R) : Sub (b ++ T) L := by
  obtain ⟨S, k⟩ := k
  refine ⟨S, List.Perm.trans h ?_⟩
  rw [List.append_assoc]
  exact k.append_left b
theorem Sub.one {L b R : HL} (h : Pk L b R) : Sub b L := ⟨R, h⟩
theorem Sub.rest {L b R : HL} (h : Pk L b R) : Sub R L := ⟨b, List.Perm.trans h List.perm_append_comm⟩
theorem Sub.trans {A B C : HL} (h : Sub A B) (k : Sub B C) : Sub A C := by
  obtain ⟨R, h⟩ := h
  obtain ⟨S, k⟩ := k
  exact ⟨R ++ S, k.trans (by rw [← List.append_assoc]; exact h.append_right S)⟩
section
variable {H : Hp} {L T R b : HL} {a p : Addr} {o o' : HO}
theorem Own.sub (O : Own H L) (h : Sub T L) : Own H T := by
  obtain ⟨R, h⟩ := h
  have nd : ((T ++ R).map (·.1)).Nodup := (h.map (·.1)).nodup_iff.mp O.nd
  rw [List.map_append] at nd
  exact ⟨(List.nodup_append.mp nd).1, fun a o m => O.get a o (h.mem_iff.mpr (List.mem_append_left _ m))⟩
theorem Own.pk (O : Own H L) (h : Pk L b R) : Own H (b ++ R) := ⟨(h.map (·.1)).nodup_iff.mp O.nd, fun a o m => O.get a o (h.mem_iff.mpr m)⟩
theorem Own.at1 (O : Own H L) (h : Pk L [(a, o)] R) : H a = some o := O.get a o (h.mem_iff.mpr (by simp))
theorem Own.new (O : Own H L) (hp : H p = none) : Own (upd H p o) ([(p, o)] ++ L) := by
  have ne : ∀ e ∈ L, e.1 ≠ p := fun e m z => by
    have := O.get e.1 e.2 m
    rw [z, hp] at this
    cases this
  refine ⟨?_, fun a u m => ?_⟩
  · show (p :: L.map (·.1)).Nodup
    refine List.nodup_cons.mpr ⟨fun m => ?_, O.nd⟩
    obtain ⟨e, he, z⟩ := List.mem_map.mp m
    exact ne e he z
  · rcases List.mem_cons.mp (show (a, u) ∈ (p, o) :: L from m) with e | m
    · cases e
      exact upd_same
    · rw [upd_ne (ne _ m)]
      exact O.get a u m
theorem Own.put (O : Own H L) (h : Pk L [(a, o)] R) : Own (upd H a o') ([(a, o')] ++ R) := by
  have O2 := O.pk h
  have nd : (a :: R.map (·.1)).Nodup := O2.nd
  refine ⟨nd, fun c u m => ?_⟩
  rcases List.mem_cons.mp (show (c, u) ∈ (a, o') :: R from m) with e | m
  · cases e
    exact upd_same
  · have ne : c ≠ a := fun z => (List.nodup_cons.mp nd).1 (List.mem_map.mpr ⟨(c, u), m, z⟩)
    rw [upd_ne ne]
    exact O2.get c u (List.mem_append_right _ m)
end
/-! ### slots -/
inductive GetAt : List (Option V) → Nat → V → Prop where
  | z {v : V} {l : List (Option V)} : GetAt (some v :: l) 0 v
  | s {x : Option V} {v : V} {l : List (Option V)} {i : Nat} : GetAt l i v → GetAt (x :: l) (i + 1) v
theorem GetAt.get {l : List (Option V)} {i : Nat} {v : V} (h : GetAt l i v) : l[i]? = some (some v) := by
  induction h with
  | z => rfl
  | s _ ih => simpa using ih
inductive SetAt : List (Option V) → Nat → V → List (Option V) → Prop where
  | z {v : V} {x : Option V} {l : List (Option V)} : SetAt (x :: l) 0 v (some v :: l)
  | s {x : Option V} {v : V} {l l' : List (Option V)} {i : Nat} : SetAt l i v l' → SetAt (x :: l) (i + 1) v (x :: l')
theorem SetAt.set {l l' : List (Option V)} {i : Nat} {v : V} (h : SetAt l i v l') : l.set i (some v) = l' := by
  induction h with
  | z => rfl
  | s _ ih => simp [ih]
/-! ### ints -/
inductive Ints : List V → List Int → Prop where
  | nil : Ints [] []
  | cons {i : Int} {xs : List V} {ns : List Int} : Ints xs ns → Ints (.int i :: xs) (i :: ns)
  | map {ns : List Int} : Ints (ns.map V.int) ns
theorem Ints.eq {xs : List V} {ns : List Int} (h : Ints xs ns) : xs = ns.map V.int := by
  induction h with
  | nil => rfl
  | cons _ ih => rw [ih]; rfl
  | map => rfl
theorem line {n : Nat} (h : n ≤ 16777216) : n ≤ sizeLine := by rw [sizeLine_eq]; exact h
theorem lineS {n : Nat} (h : n < 16777216) : n < sizeLine := by rw [sizeLine_eq]; exact h
/-! ### statements -/
section
variable {K : PySem.W.Frag} {σ σ' : St} {H : Hp} {L R : HL} {D : Ends} {t u : TS} {te ta tb tc : TE} {g : TG} {Q : VK} {v x y : V} {i j : Int} {n : Nat} {nx : St → Hp → Prop} {rt : VK} {bk ct : St → Hp → Prop}
theorem w_seq (h : t ⟨u ⟨nx, rt, bk, ct⟩, rt, bk, ct⟩ σ H) : tSeq t u ⟨nx, rt, bk, ct⟩ σ H := h
theorem w_next (h : nx σ H) : tNext ⟨nx, rt, bk, ct⟩ σ H := h
theorem w_break (h : bk σ H) : tBreak ⟨nx, rt, bk, ct⟩ σ H := h
theorem w_cont (h : ct σ H) : tCont ⟨nx, rt, bk, ct⟩ σ H := h
theorem w_drop (h : te σ H fun _ H1 => nx σ H1) : tDrop te ⟨nx, rt, bk, ct⟩ σ H := h
theorem w_ret (h : te σ H rt) : tRet te ⟨nx, rt, bk, ct⟩ σ H := h
theorem w_retN (h : rt .non H) : tRetN ⟨nx, rt, bk, ct⟩ σ H := h
theorem w_ifs {c : TT} (h : c σ H fun b H1 => if b = true then t ⟨nx, rt, bk, ct⟩ σ H1 else u ⟨nx, rt, bk, ct⟩ σ H1) : tIfS c t u ⟨nx, rt, bk, ct⟩ σ H := h
theorem w_asg (h : te σ H fun x H1 => g x σ H1 nx) : tAsg te g ⟨nx, rt, bk, ct⟩ σ H := h
theorem w_gname {R : St → Hp → Prop} (h : SetAt σ n v σ') (k : R σ' H) : gName n v σ H R := by unfold gName; rw [h.set]; exact k
theorem w_gsub {R : St → Hp → Prop} {to ti : TE} {ts : TSet} (h : to σ H fun o H1 => ti σ H1 fun i H2 => ts o i v H2 fun H3 => R σ H3) : gSub to ti ts v σ H R := h
/-! ### expressions -/
theorem w_var (h : GetAt σ n v) (k : Q v H) : tVar n σ H Q := ⟨v, h.get, k⟩
theorem w_c (k : Q v H) : tC v σ H Q := k
theorem w_op {r : R2} (h : ta σ H fun x H1 => tb σ H1 fun y H2 => r x y H2 Q) : tOp r ta tb σ H Q := h
theorem w_un {r : V → Hp → VK → Prop} (h : ta σ H fun x H1 => r x H1 Q) : tUn r ta σ H Q := h
theorem w_rI0 {f : Int → Int → V} (k : Q (f i j) H) : rI0 f (.int i) (.int j) H Q := ⟨i, j, rfl, rfl, k⟩
theorem w_rU {f : Int → V} (k : Q (f i) H) : rU f (.int i) H Q := ⟨i, rfl, k⟩
theorem w_test {Q : Bool → Hp → Prop} (h : te σ H fun x H' => ∃ k, x = .bl k ∧ Q k H') : tTest te σ H Q := h
theorem w_bl {b : Bool} {R : Bool → Prop} (h : R b) : ∃ k, V.bl b = .bl k ∧ R k := ⟨b, rfl, h⟩
theorem w_and {Q : Bool → Hp → Prop} {a b : TT} (h : a σ H fun c H1 => if c = true then b σ H1 Q else Q false H1) : tAnd a b σ H Q := h
theorem w_or {Q : Bool → Hp → Prop} {a b : TT} (h : a σ H fun c H1 => if c = true then Q true H1 else b σ H1 Q) : tOr a b σ H Q := h
theorem w_not {Q : Bool → Hp → Prop} {a : TT} (h : a σ H fun c H1 => Q (!c) H1) : tNot a σ H Q := h
theorem w_if {a : TT} (h : a σ H fun c H1 => if c = true then ta σ H1 Q else tb σ H1 Q) : tIf a ta tb σ H Q := h
/-- a value's truth -/
def zTru (K : PySem.W.Frag) (ta : TE) : TT := fun σ H Q => ta σ H fun x H' => ∃ k, TruV K x H' k ∧ Q k H'
theorem w_tru {Q : Bool → Hp → Prop} (h : ta σ H fun x H' => ∃ k, TruV K x H' k ∧ Q k H') : zTru K ta σ H Q := h
theorem w_truB {b : Bool} {R : Bool → Prop} (h : R b) : ∃ k, TruV K (V.bl b) H k ∧ R k := ⟨b, rfl, h⟩
/-! conditions -/
theorem w_dec {p : Prop} [Decidable p] {A B : Prop} (h1 : p → A) (h2 : ¬ p → B) : if decide p = true then A else B := by
  by_cases h : p
  · rw [decide_eq_true h]; exact h1 h
  · rw [decide_eq_false h]; exact h2 h
theorem w_ndec {p : Prop} [Decidable p] {A B : Prop} (h1 : ¬ p → A) (h2 : p → B) : if (!decide p) = true then A else B := by
  by_cases h : p
  · rw [decide_eq_true h]; exact h2 h
  · rw [decide_eq_false h]; exact h1 h
theorem w_ndec2 {p : Prop} [Decidable p] {A B : Prop} (h1 : p → A) (h2 : ¬ p → B) : if (!!decide p) = true then A else B := by
  by_cases h : p
  · rw [decide_eq_true h]; exact h1 h
  · rw [decide_eq_false h]; exact h2 h
theorem w_decR {α : Type} [DecidableEq α] {x : α} {A B : Prop} (h : A) : if decide (x = x) = true then A else B := by rw [decide_eq_true rfl]; exact h
theorem w_ndecR {α : Type} [DecidableEq α] {x : α} {A B : Prop} (h : B) : if (!decide (x = x)) = true then A else B := by rw [decide_eq_true rfl]; exact h
theorem w_ndec2R {α : Type} [DecidableEq α] {x : α} {A B : Prop} (h : A) : if (!!decide (x = x)) = true then A else B := by rw [decide_eq_true rfl]; exact h
theorem w_T {A B : Prop} (h : A) : if true = true then A else B := by rw [if_pos rfl]; exact h
theorem w_F {A B : Prop} (h : B) : if false = true then A else B := by rw [if_neg Bool.false_ne_true]; exact h
theorem w_nT {A B : Prop} (h : B) : if (!true) = true then A else B := by rw [if_neg (by decide)]; exact h
theorem w_nF {A B : Prop} (h : A) : if (!false) = true then A else B := by rw [if_pos (by decide)]; exact h
/-! arguments -/
theorem w_anil {Q : List V → Hp → Prop} (k : Q [] H) : tNil σ H Q := k
theorem w_acons {Q : List V → Hp → Prop} {tr : TA} (h : ta σ H fun x H1 => tr σ H1 fun xs H2 => Q (x :: xs) H2) : tCons ta tr σ H Q := h
theorem w_cb {r : List V → Hp → VK → Prop} {t : TA} (h : t σ H fun vs H1 => r vs H1 Q) : tCB r t σ H Q := h
theorem w_call {sp : Sp} {E : XK} {t : TA} (h : t σ H fun vs H1 => sp vs H1 Q E) : tCall sp [] E t σ H Q := by
  unfold tCall
  simpa only [List.append_nil] using h
/-- a new object -/
theorem w_new {o : HO} {R : Addr → Hp → Prop} (O : Own H L) (k : ∀ p H', Own H' ([(p, o)] ++ L) → R p H') : ∀ p, H p = none → R p (upd H p o) := fun p hp => k p _ (O.new hp)
def zTup (t : TA) : TE := tTup t
def NewL (xs : List V) (H : Hp) (Q : VK) : Prop := xs.length ≤ sizeLine ∧ ∀ p, H p = none → Q (.ref p) (upd H p (.lst xs))
def NewT (xs : List V) (H : Hp) (Q : VK) : Prop := xs.length ≤ sizeLine ∧ ∀ p, H p = none → Q (.ref p) (upd H p (.tup xs))
theorem w_tup {t : TA} (h : t σ H fun xs H1 => NewT xs H1 Q) : tTup t σ H Q := h
theorem w_lst {t : TA} (h : t σ H fun xs H1 => NewL xs H1 Q) : tLst t σ H Q := h
theorem w_newI {xs : List V} {ns : List Int} (hi : Ints xs ns) (hl : ns.length ≤ 16777216) (O : Own H L) (k : ∀ p H', Own H' ([(p, .lst (ns.map V.int))] ++ L) → Q (.ref p) H') : NewL xs H Q := by
  have e := hi.eq
  subst e
  exact ⟨by rw [List.length_map]; exact line hl, w_new O k⟩
theorem w_newL {xs : List V} (hl : xs.length ≤ 16777216) (O : Own H L) (k : ∀ p H', Own H' ([(p, .lst xs)] ++ L) → Q (.ref p) H') : NewL xs H Q := ⟨line hl, w_new O k⟩
theorem w_newT {xs : List V} (hl : xs.length ≤ 16777216) (O : Own H L) (k : ∀ p H', Own H' ([(p, .tup xs)] ++ L) → Q (.ref p) H') : NewT xs H Q := ⟨line hl, w_new O k⟩
/-! ### operators on values -/
theorem w_add (k : Q (.int (i + j)) H) : rI0 (fun i j => .int (i + j)) (.int i) (.int j) H Q := ⟨i, j, rfl, rfl, k⟩
theorem w_mod (h : 0 < j) (k : Q (.int (i % j)) H) : rI (fun _ j => 0 < j) (fun i j => .int (i % j)) (.int i) (.int j) H Q := ⟨i, j, rfl, rfl, h, k⟩
theorem w_pow (h : 0 ≤ j ∧ j ≤ 1000000 ∧ i.natAbs < 2 ^ 64) (k : Q (.int (i ^ j.toNat)) H) : rI CPow (fun i j => .int (i ^ j.toNat)) (.int i) (.int j) H Q := ⟨i, j, rfl, rfl, h, k⟩
end
/-! ### operators of any kind -/
section
variable {X : Cx} {K : PySem.W.Frag} {σ σ' : St} {H : Hp} {L R R' : HL} {te ta tb tc : TE} {Q : VK} {v x y : V} {i j : Int} {n : Nat} {a b p : Addr} {xs ys : List V} {ns ms : List Int} {s z : Str}
def zAdd (K : PySem.W.Frag) : R2 := fun x y H Q => match x, y with
  | .int i, .int j => Q (.int (i + j)) H
  | .str s, .str z => s.length + z.length ≤ 16777216 ∧ Q (.str (s ++ z)) H
  | .ref a, .ref b => (∃ xs ys, H a = some (.lst xs) ∧ H b = some (.lst ys) ∧ xs.length + ys.length ≤ 16777216 ∧ ∀ p, H p = none → Q (.ref p) (upd H p (.lst (xs ++ ys)))) ∨ rCatA K (.ref a) (.ref b) H Q
  | _, _ => False
theorem op_zAdd : OpR X (binaryOp .Add) (zAdd X.K) := by
  intro pins s σ H x y v u Q I rx ry h
  unfold zAdd at h
  split at h
  · exact op_add pins s σ H _ _ v u Q I rx ry ⟨_, _, rfl, rfl, h⟩
  · exact op_add_str pins s σ H _ _ v u Q I rx ry ⟨_, _, rfl, rfl, line h.1, h.2⟩
  · rcases h with ⟨xs, ys, h1, h2, h3, h4⟩ | h
    · exact op_cat pins s σ H _ _ v u Q I rx ry ⟨_, _, xs, ys, rfl, rfl, h1, h2, line h3, h4⟩
    · exact op_catA pins s σ H _ _ v u Q I rx ry h
  · exact h.elim
theorem w_addI (k : Q (.int (i + j)) H) : zAdd K (.int i) (.int j) H Q := k
theorem w_addS (h : s.length + z.length ≤ 16777216) (k : Q (.str (s ++ z)) H) : zAdd K (.str s) (.str z) H Q := ⟨h, k⟩
theorem w_addL (O : Own H L) (ha : Pk L [(a, .lst xs)] R) (hb : Pk L [(b, .lst ys)] R') (hl : xs.length + ys.length ≤ 16777216) (k : ∀ p H', Own H' ([(p, .lst (xs ++ ys))] ++ L) → Q (.ref p) H') : zAdd K (.ref a) (.ref b) H Q :=
  .inl ⟨xs, ys, O.at1 ha, O.at1 hb, hl, w_new O k⟩
theorem w_addLI (O : Own H L) (ha : Pk L [(a, .lst (ns.map V.int))] R) (hb : Pk L [(b, .lst (ms.map V.int))] R') (hl : ns.length + ms.length ≤ 16777216) (k : ∀ p H', Own H' ([(p, .lst ((ns ++ ms).map V.int))] ++ L) → Q (.ref p) H') : zAdd K (.ref a) (.ref b) H Q :=
  .inl ⟨_, _, O.at1 ha, O.at1 hb, by rw [List.length_map, List.length_map]; exact hl, by rw [← List.map_append]; exact w_new O k⟩
def zMul : R2 := fun x y H Q => match x, y with
  | .int i, .int j => CMul i j ∧ Q (.int (i * j)) H
  | .ref a, .int j => ∃ xs, H a = some (.lst xs) ∧ -(2 ^ 63) ≤ j ∧ j < 2 ^ 63 ∧ xs.length * j.toNat ≤ 16777216 ∧ ∀ p, H p = none → Q (.ref p) (upd H p (.lst (List.replicate j.toNat xs).flatten))
  | _, _ => False
theorem op_zMul : OpR X (binaryOp .Mult) zMul := by
  intro pins s σ H x y v u Q I rx ry h
  unfold zMul at h
  split at h
  · exact op_mul pins s σ H _ _ v u Q I rx ry ⟨_, _, rfl, rfl, h⟩
  · obtain ⟨xs, h1, h2, h3, h4, h5⟩ := h
    exact op_rep pins s σ H _ _ v u Q I rx ry ⟨_, _, xs, rfl, rfl, h1, h2, h3, line h4, h5⟩
  · exact h.elim
theorem w_mulI (h : (-18446744073709551616 < i ∧ i < 18446744073709551616) ∨ (-18446744073709551616 < j ∧ j < 18446744073709551616)) (k : Q (.int (i * j)) H) : zMul (.int i) (.int j) H Q := ⟨h, k⟩
theorem flat_one (m : Nat) (v : V) : (List.replicate m [v]).flatten = List.replicate m v := by
  induction m with
  | zero => rfl
  | succ m ih => rw [List.replicate_succ, List.flatten_cons, ih]; rfl
theorem w_repI (O : Own H L) (ha : Pk L [(a, .lst ([i].map V.int))] R) (hl : j ≤ 16777216) (h0 : -16777216 ≤ j) (k : ∀ p H', Own H' ([(p, .lst ((List.replicate j.toNat i).map V.int))] ++ L) → Q (.ref p) H') : zMul (.ref a) (.int j) H Q := by
  refine ⟨[.int i], O.at1 ha, by omega, by omega, ?_, ?_⟩
  · show 1 * j.toNat ≤ 16777216
    omega
  · rw [flat_one, ← List.map_replicate]
    exact w_new O k
/-- // by a positive number -/
def zDiv : R2 := fun x y H Q => ∃ i j, x = .int i ∧ y = .int j ∧ (0 < j ∧ j < 18446744073709551616) ∧ Q (.int (i / j)) H
theorem op_zDiv : OpR X (binaryOp .FloorDiv) zDiv := by
  intro pins s σ H x y v u Q I rx ry h
  obtain ⟨i, j, e1, e2, ⟨h1, h2⟩, q⟩ := h
  refine op_fdivW pins s σ H _ _ v u Q I rx ry ⟨i, j, e1, e2, ⟨h1, ?_⟩, q⟩
  have h3 : j.natAbs ≠ 0 := by omega
  have h4 : j.natAbs < 2 ^ 9000 := Nat.lt_of_lt_of_le (show j.natAbs < 2 ^ 64 by omega) (Nat.pow_le_pow_right (by decide) (by decide))
  exact (Nat.log2_lt h3).mpr h4
theorem w_div (h1 : 0 < j) (h2 : j < 18446744073709551616) (k : Q (.int (i / j)) H) : zDiv (.int i) (.int j) H Q := ⟨i, j, rfl, rfl, ⟨h1, h2⟩, k⟩
def zMod : R2 := rI (fun _ j => 0 < j) fun i j => .int (i % j)
theorem op_zMod : OpR X (binaryOp .Mod) zMod := op_mod
theorem w_modI (h : 0 < j) (k : Q (.int (i % j)) H) : zMod (.int i) (.int j) H Q := ⟨i, j, rfl, rfl, h, k⟩
def zPow : R2 := rI CPow fun i j => .int (i ^ j.toNat)
theorem op_zPow : OpR X (binaryOp .Pow) zPow := op_pow
theorem w_powI (h0 : 0 ≤ j) (h1 : j ≤ 1000000) (h : -18446744073709551616 < i) (h2 : i < 18446744073709551616) (k : Q (.int (i ^ j.toNat)) H) : zPow (.int i) (.int j) H Q := ⟨i, j, rfl, rfl, ⟨h0, h1, by omega⟩, k⟩
def zSub : R2 := rI0 fun i j => .int (i - j)
theorem op_zSub : OpR X (binaryOp .Sub) zSub := op_sub
theorem w_subI (k : Q (.int (i - j)) H) : zSub (.int i) (.int j) H Q := ⟨i, j, rfl, rfl, k⟩
def zNeg : V → Hp → VK → Prop := rU fun i => .int (-i)
theorem un_zNeg : UnR X (unaryOp .USub) zNeg := un_neg
theorem w_neg (k : Q (.int (-i)) H) : zNeg (.int i) H Q := ⟨i, rfl, k⟩
/-! comparisons -/
def zLt : R2 := rI0 fun i j => .bl (decide (i < j))
def zLe : R2 := rI0 fun i j => .bl (decide (i ≤ j))
def zGt : R2 := rI0 fun i j => .bl (decide (j < i))
def zGe : R2 := rI0 fun i j => .bl (decide (j ≤ i))
theorem op_zLt : OpR X (compareOp .Lt) zLt := op_lt
theorem op_zLe : OpR X (compareOp .LtE) zLe := op_le
theorem op_zGt : OpR X (compareOp .Gt) zGt := op_gt
theorem op_zGe : OpR X (compareOp .GtE) zGe := op_ge
theorem w_lt (k : Q (.bl (decide (i < j))) H) : zLt (.int i) (.int j) H Q := ⟨i, j, rfl, rfl, k⟩
theorem w_le (k : Q (.bl (decide (i ≤ j))) H) : zLe (.int i) (.int j) H Q := ⟨i, j, rfl, rfl, k⟩
theorem w_gt (k : Q (.bl (decide (j < i))) H) : zGt (.int i) (.int j) H Q := ⟨i, j, rfl, rfl, k⟩
theorem w_ge (k : Q (.bl (decide (j ≤ i))) H) : zGe (.int i) (.int j) H Q := ⟨i, j, rfl, rfl, k⟩
def zEq (K : PySem.W.Frag) : R2 := fun x y H Q => (scal x y = true ∧ Q (.bl (decide (x = y))) H) ∨ rEqD K x y H Q
def zNe (K : PySem.W.Frag) : R2 := fun x y H Q => (scal x y = true ∧ Q (.bl (!decide (x = y))) H) ∨ rNeD K x y H Q
theorem op_zEq (hu : X.A.units + 64 < cLine) : OpR X (compareOp .Eq) (zEq X.K) := by
  intro pins s σ H x y v u Q I rx ry h
  rcases h with h | h
  · exact op_eq pins s σ H _ _ v u Q I rx ry h
  · exact op_eqD hu pins s σ H _ _ v u Q I rx ry h
theorem op_zNe (hu : X.A.units + 64 < cLine) : OpR X (compareOp .NotEq) (zNe X.K) := by
  intro pins s σ H x y v u Q I rx ry h
  rcases h with h | h
  · exact op_ne pins s σ H _ _ v u Q I rx ry h
  · exact op_neD hu pins s σ H _ _ v u Q I rx ry h
theorem dI : decide (V.int i = V.int j) = decide (i = j) := by simp
theorem dS : decide (V.str s = V.str z) = decide (s = z) := by simp
theorem dB {c d : Bool} : decide (V.bl c = V.bl d) = decide (c = d) := by simp
theorem w_eqI (k : Q (.bl (decide (i = j))) H) : zEq K (.int i) (.int j) H Q := .inl ⟨rfl, by rw [dI]; exact k⟩
theorem w_neI (k : Q (.bl (!decide (i = j))) H) : zNe K (.int i) (.int j) H Q := .inl ⟨rfl, by rw [dI]; exact k⟩
theorem w_eqS (k : Q (.bl (decide (s = z))) H) : zEq K (.str s) (.str z) H Q := .inl ⟨rfl, by rw [dS]; exact k⟩
theorem w_neS (k : Q (.bl (!decide (s = z))) H) : zNe K (.str s) (.str z) H Q := .inl ⟨rfl, by rw [dS]; exact k⟩
theorem w_eqB {c d : Bool} (k : Q (.bl (decide (c = d))) H) : zEq K (.bl c) (.bl d) H Q := .inl ⟨rfl, by rw [dB]; exact k⟩
theorem w_neB {c d : Bool} (k : Q (.bl (!decide (c = d))) H) : zNe K (.bl c) (.bl d) H Q := .inl ⟨rfl, by rw [dB]; exact k⟩
theorem dpI : ∀ ns : List Int, DpAll K H (ns.map V.int) (ns.map PyData.int)
  | [] => .nil
  | i :: ns => .cons (.int i) (dpI ns)
theorem eqvI : ∀ ns ms : List Int, PyData.eqvAll (ns.map PyData.int) (ms.map PyData.int) = decide (ns = ms)
  | [], [] => rfl
  | [], _ :: _ => rfl
  | _ :: _, [] => rfl
  | i :: ns, j :: ms => by
    show (PyData.eqv (.int i) (.int j) && PyData.eqvAll (ns.map PyData.int) (ms.map PyData.int)) = _
    rw [eqvI ns ms]
    show ((i == j) && decide (ns = ms)) = _
    by_cases h : i = j
    · subst h; simp
    · simp [h]
theorem shI : ∀ ns : List Int, SeqAt.shaped (.list (ns.map PyData.int)) = true := fun ns => by
  have h1 : ∀ ns : List Int, PyData.canLayAll0 (ns.map PyData.int) = true := fun ns => by
    induction ns with
    | nil => rfl
    | cons i ns ih => show (PyData.canLay0 (.int i) && PyData.canLayAll0 (ns.map PyData.int)) = true; rw [ih]; rfl
  have h2 : ∀ ns : List Int, PyData.depthAll (ns.map PyData.int) = 0 := fun ns => by
    induction ns with
    | nil => rfl
    | cons i ns ih => show max (PyData.depth (.int i)) (PyData.depthAll (ns.map PyData.int)) = 0; rw [ih]; rfl
  show (PyData.canLayAll0 (ns.map PyData.int) && decide (PyData.depthAll (ns.map PyData.int) + 1 ≤ 64)) = true
  rw [h1, h2]
  rfl
theorem w_eqL (O : Own H L) (ha : Pk L [(a, .lst (ns.map V.int))] R) (hb : Pk L [(b, .lst (ms.map V.int))] R') (k : Q (.bl (decide (ns = ms))) H) : zEq K (.ref a) (.ref b) H Q :=
  .inr ⟨.list (ns.map PyData.int), .list (ms.map PyData.int), .lst (.of (O.at1 ha)) (dpI ns), .lst (.of (O.at1 hb)) (dpI ms), shI ns, shI ms, by show Q (.bl (PyData.eqvAll _ _)) H; rw [eqvI]; exact k⟩
theorem w_neL (O : Own H L) (ha : Pk L [(a, .lst (ns.map V.int))] R) (hb : Pk L [(b, .lst (ms.map V.int))] R') (k : Q (.bl (!decide (ns = ms))) H) : zNe K (.ref a) (.ref b) H Q :=
  .inr ⟨.list (ns.map PyData.int), .list (ms.map PyData.int), .lst (.of (O.at1 ha)) (dpI ns), .lst (.of (O.at1 hb)) (dpI ms), shI ns, shI ms, by show Q (.bl (!PyData.eqvAll _ _)) H; rw [eqvI]; exact k⟩
def zIs : R2 := fun x y H Q => y = .non ∧ Q (.bl (decide (x = .non))) H
def zIsNot : R2 := fun x y H Q => y = .non ∧ Q (.bl (!decide (x = .non))) H
theorem op_zIs : OpR X (compareOp .Is) zIs := op_isN
theorem op_zIsNot : OpR X (compareOp .IsNot) zIsNot := op_notN
theorem w_isN (k : Q (.bl true) H) : zIs .non .non H Q := ⟨rfl, k⟩
theorem w_isR (k : Q (.bl false) H) : zIs (.ref a) .non H Q := ⟨rfl, k⟩
theorem w_isI (k : Q (.bl false) H) : zIs (.int i) .non H Q := ⟨rfl, k⟩
theorem w_nisN (k : Q (.bl false) H) : zIsNot .non .non H Q := ⟨rfl, k⟩
theorem w_nisR (k : Q (.bl true) H) : zIsNot (.ref a) .non H Q := ⟨rfl, k⟩
theorem w_nisI (k : Q (.bl true) H) : zIsNot (.int i) .non H Q := ⟨rfl, k⟩
/-! ### items and slices -/
theorem atI_int {i : Int} (h0 : 0 ≤ i) (h1 : i < ns.length) : atI (ns.map V.int) i = some (.int (ns.getD i.toNat 0)) := by
  obtain ⟨k, rfl⟩ : ∃ k : Nat, i = k := ⟨i.toNat, by omega⟩
  have hk : k < ns.length := by omega
  refine atI_nat ?_
  rw [List.getElem?_map, List.getElem?_eq_getElem hk]
  simp [List.getD, hk]
theorem w_ixI (O : Own H L) (ha : Pk L [(a, .lst (ns.map V.int))] R) (h0 : 0 ≤ i) (h1 : i < ns.length) (k : Q (.int (ns.getD i.toNat 0)) H) : rIx K (.ref a) (.int i) H Q :=
  .inl ⟨a, _, i, _, rfl, rfl, .of (O.at1 ha), atI_int h0 h1, k⟩
/-- an item of a short written list -/
theorem w_ixM (O : Own H L) (ha : Pk L [(a, .lst (ns.map V.int))] R) (h0 : 0 ≤ i) (h1 : i < ns.length) (k : ∀ m, m ∈ ns → Q (.int m) H) : rIx K (.ref a) (.int i) H Q := by
  refine w_ixI O ha h0 h1 (k _ ?_)
  have hk : i.toNat < ns.length := by omega
  simp only [List.getD, List.getElem?_eq_getElem hk, Option.getD_some]
  exact List.getElem_mem hk
theorem w_ixL (O : Own H L) (ha : Pk L [(a, .lst xs)] R) (h : atI xs i = some v) (k : Q v H) : rIx K (.ref a) (.int i) H Q := .inl ⟨a, _, i, _, rfl, rfl, .of (O.at1 ha), h, k⟩
theorem w_ixT (O : Own H L) (ha : Pk L [(a, .tup xs)] R) (h : atI xs i = some v) (k : Q v H) : rIx K (.ref a) (.int i) H Q := .inr (.inl ⟨a, _, i, _, rfl, rfl, .of (O.at1 ha), h, k⟩)
def zSl (K : PySem.W.Frag) : V → Option Int → Option Int → Hp → VK → Prop := fun x lo hi H Q => rSlL K x lo hi H Q ∨ rSlT K x lo hi H Q ∨ rSlS x lo hi H Q
theorem sl_z : SlR X (zSl X.K) := sl_list.or (sl_tup.or sl_str)
theorem w_sl {r : V → Option Int → Option Int → Hp → VK → Prop} {tl th : TO} (h : te σ H fun x H1 => tl σ H1 fun l H2 => th σ H2 fun u H3 => r x l u H3 Q) : tSl r te tl th σ H Q := h
def PartR (x : V) (Q : Option Int → Hp → Prop) (H : Hp) : Prop := ∃ i, x = .int i ∧ Q (some i) H
theorem w_part {Q : Option Int → Hp → Prop} (h : te σ H fun x H1 => PartR x Q H1) : tPart te σ H Q := h
theorem w_partI {Q : Option Int → Hp → Prop} (h : Q (some i) H) : PartR (.int i) Q H := ⟨i, rfl, h⟩
theorem w_npart {Q : Option Int → Hp → Prop} (h : Q none H) : tNoPart σ H Q := h
/-- a slice of ints -/
def cutI (ns : List Int) (lo hi : Option Int) : List Int := (ns.drop (HT.sIx ns.length 0 lo)).take (HT.sIx ns.length ns.length hi - HT.sIx ns.length 0 lo)
theorem cut_int (ns : List Int) (lo hi : Option Int) : cutV (ns.map V.int) lo hi = (cutI ns lo hi).map V.int := by
  unfold cutV cutI
  rw [List.length_map, List.map_take, List.map_drop]
theorem w_slI {lo hi : Option Int} (O : Own H L) (ha : Pk L [(a, .lst (ns.map V.int))] R) (k : ∀ p H', Own H' ([(p, .lst ((cutI ns lo hi).map V.int))] ++ L) → Q (.ref p) H') : zSl K (.ref a) lo hi H Q :=
  .inl ⟨a, _, rfl, .of (O.at1 ha), by rw [cut_int]; exact w_new O k⟩
theorem cutI_take {k : Int} (h : 0 ≤ k) : cutI ns none (some k) = ns.take k.toNat := by
  obtain ⟨m, rfl⟩ : ∃ m : Nat, k = m := ⟨k.toNat, by omega⟩
  unfold cutI
  rw [HT.sIx_none, HT.sIx_nat]
  simp only [List.drop_zero, Nat.sub_zero, Int.toNat_natCast]
  exact List.take_eq_take_min.symm
theorem cutI_drop {k : Int} (h : 0 ≤ k) : cutI ns (some k) none = ns.drop k.toNat := by
  obtain ⟨m, rfl⟩ : ∃ m : Nat, k = m := ⟨k.toNat, by omega⟩
  unfold cutI
  rw [HT.sIx_none, HT.sIx_nat]
  simp only [Int.toNat_natCast]
  by_cases h : m ≤ ns.length
  · rw [Nat.min_eq_left h]
    exact List.take_of_length_le (by simp)
  · rw [Nat.min_eq_right (show ns.length ≤ m by omega), List.drop_eq_nil_of_le (Nat.le_refl _), List.drop_eq_nil_of_le (by omega), List.take_nil]
theorem cutI_mid {k m : Int} (h : 0 ≤ k) (h2 : 0 ≤ m) : cutI ns (some k) (some m) = (ns.take m.toNat).drop k.toNat := by
  obtain ⟨k, rfl⟩ : ∃ x : Nat, k = x := ⟨k.toNat, by omega⟩
  obtain ⟨m, rfl⟩ : ∃ x : Nat, m = x := ⟨m.toNat, by omega⟩
  unfold cutI
  rw [HT.sIx_nat, HT.sIx_nat]
  simp only [Int.toNat_natCast]
  rw [List.drop_take]
  refine List.ext_getElem? fun i => ?_
  simp only [List.getElem?_take, List.getElem?_drop]
  by_cases h1 : k ≤ ns.length
  · rw [Nat.min_eq_left h1]
    by_cases h3 : m ≤ ns.length
    · rw [Nat.min_eq_left h3]
    · rw [Nat.min_eq_right (show ns.length ≤ m by omega)]
      by_cases h4 : i < ns.length - k
      · rw [if_pos h4, if_pos (by omega)]
      · rw [if_neg h4]
        split
        · exact (List.getElem?_eq_none (by omega)).symm
        · rfl
  · rw [Nat.min_eq_right (show ns.length ≤ k by omega)]
    rw [if_neg (by omega)]
    split
    · exact (List.getElem?_eq_none (by omega)).symm
    · rfl
theorem w_slTake (O : Own H L) (ha : Pk L [(a, .lst (ns.map V.int))] R) (h : 0 ≤ i) (k : ∀ p H', Own H' ([(p, .lst ((ns.take i.toNat).map V.int))] ++ L) → Q (.ref p) H') : zSl K (.ref a) none (some i) H Q :=
  w_slI O ha (by rw [cutI_take h]; exact k)
theorem w_slDrop (O : Own H L) (ha : Pk L [(a, .lst (ns.map V.int))] R) (h : 0 ≤ i) (k : ∀ p H', Own H' ([(p, .lst ((ns.drop i.toNat).map V.int))] ++ L) → Q (.ref p) H') : zSl K (.ref a) (some i) none H Q :=
  w_slI O ha (by rw [cutI_drop h]; exact k)
theorem w_slMid (O : Own H L) (ha : Pk L [(a, .lst (ns.map V.int))] R) (h : 0 ≤ i) (h2 : 0 ≤ j) (k : ∀ p H', Own H' ([(p, .lst (((ns.take j.toNat).drop i.toNat).map V.int))] ++ L) → Q (.ref p) H') : zSl K (.ref a) (some i) (some j) H Q :=
  w_slI O ha (by rw [cutI_mid h h2]; exact k)
theorem w_slL {lo hi : Option Int} (O : Own H L) (ha : Pk L [(a, .lst xs)] R) (k : ∀ p H', Own H' ([(p, .lst (cutV xs lo hi))] ++ L) → Q (.ref p) H') : zSl K (.ref a) lo hi H Q :=
  .inl ⟨a, _, rfl, .of (O.at1 ha), w_new O k⟩
theorem w_slS {lo hi : Option Int} (h : s.length ≤ 16777216) (k : Q (.str (cutS s lo hi)) H) : zSl K (.str s) lo hi H Q := .inr (.inr ⟨s, rfl, line h, k⟩)
/-! stores -/
theorem ixN_nn {n : Nat} {i : Int} (h0 : 0 ≤ i) (h1 : i < n) : ixN n i = some i.toNat := by unfold ixN; rw [if_pos h0, if_pos h1]
theorem map_setI (ns : List Int) (k : Nat) (j : Int) : (ns.map V.int).set k (.int j) = (ns.set k j).map V.int := by rw [List.map_set]
theorem w_setI {R2 : Hp → Prop} (O : Own H L) (ha : Pk L [(a, .lst (ns.map V.int))] R) (h0 : 0 ≤ i) (h1 : i < ns.length) (k : ∀ H', Own H' ([(a, .lst ((ns.set i.toNat j).map V.int))] ++ R) → R2 H') : rSetL (.ref a) (.int i) (.int j) H R2 :=
  ⟨a, _, i, i.toNat, rfl, rfl, O.at1 ha, ixN_nn h0 (by rw [List.length_map]; exact h1), by rw [map_setI]; exact k _ (O.put ha)⟩
theorem w_setL {R2 : Hp → Prop} (O : Own H L) (ha : Pk L [(a, .lst xs)] R) (h0 : 0 ≤ i) (h1 : i < xs.length) (k : ∀ H', Own H' ([(a, .lst (xs.set i.toNat v))] ++ R) → R2 H') : rSetL (.ref a) (.int i) v H R2 :=
  ⟨a, _, i, i.toNat, rfl, rfl, O.at1 ha, ixN_nn h0 h1, k _ (O.put ha)⟩
/-! ### built-ins -/
def zLen (K : PySem.W.Frag) : List V → Hp → VK → Prop := fun xs H Q => ∃ x n, xs = [x] ∧ LenV K x H n ∧ Q (.int n) H
theorem call_zLen : CallR X (.builtin "len") (zLen X.K) := call_len
theorem w_lenI (O : Own H L) (ha : Pk L [(a, .lst (ns.map V.int))] R) (k : Q (.int ns.length) H) : zLen K [.ref a] H Q := ⟨_, ns.length, rfl, .inl ⟨_, .of (O.at1 ha), by rw [List.length_map]⟩, k⟩
theorem w_lenL (O : Own H L) (ha : Pk L [(a, .lst xs)] R) (k : Q (.int xs.length) H) : zLen K [.ref a] H Q := ⟨_, xs.length, rfl, .inl ⟨_, .of (O.at1 ha), rfl⟩, k⟩
theorem w_lenT (O : Own H L) (ha : Pk L [(a, .tup xs)] R) (k : Q (.int xs.length) H) : zLen K [.ref a] H Q := ⟨_, xs.length, rfl, .inr ⟨_, .of (O.at1 ha), rfl⟩, k⟩
theorem w_lenS (h : s.length ≤ 16777216) (k : Q (.int s.length) H) : zLen K [.str s] H Q := ⟨_, s.length, rfl, ⟨line h, rfl⟩, k⟩
def zList (K : PySem.W.Frag) : List V → Hp → VK → Prop := fun xs H Q => ∃ p ys, xs = [.ref p] ∧ (SqL K H p ys ∨ SqT K H p ys) ∧ ∀ l, H l = none → Q (.ref l) (upd H l (.lst ys))
theorem call_zList : CallR X (.type "list") (zList X.K) := call_list_of
theorem w_list (O : Own H L) (ha : Pk L [(a, .lst xs)] R) (k : ∀ p H', Own H' ([(p, .lst xs)] ++ L) → Q (.ref p) H') : zList K [.ref a] H Q := ⟨a, _, rfl, .inl (.of (O.at1 ha)), w_new O k⟩
theorem w_listT (O : Own H L) (ha : Pk L [(a, .tup xs)] R) (k : ∀ p H', Own H' ([(p, .lst xs)] ++ L) → Q (.ref p) H') : zList K [.ref a] H Q := ⟨a, _, rfl, .inr (.of (O.at1 ha)), w_new O k⟩
def zMax : List V → Hp → VK → Prop := fun xs H Q => ∃ i j, xs = [.int i, .int j] ∧ Q (.int (max i j)) H
def zMin : List V → Hp → VK → Prop := fun xs H Q => ∃ i j, xs = [.int i, .int j] ∧ Q (.int (min i j)) H
theorem call_zMax (hc : X.calm = true) : CallR X (.builtin "max") zMax := by
  intro pins s σ H xs us Q I r h
  obtain ⟨i, j, e, q⟩ := h
  refine call_max2 hc pins s σ H xs us Q I r ⟨i, j, e, ?_⟩
  have z : (if j > i then j else i) = max i j := by split <;> omega
  rw [z]
  exact q
theorem call_zMin (hc : X.calm = true) : CallR X (.builtin "min") zMin := by
  intro pins s σ H xs us Q I r h
  obtain ⟨i, j, e, q⟩ := h
  refine call_min2 hc pins s σ H xs us Q I r ⟨i, j, e, ?_⟩
  have z : (if j < i then j else i) = min i j := by split <;> omega
  rw [z]
  exact q
theorem w_max (k : Q (.int (max i j)) H) : zMax [.int i, .int j] H Q := ⟨i, j, rfl, k⟩
theorem w_min (k : Q (.int (min i j)) H) : zMin [.int i, .int j] H Q := ⟨i, j, rfl, k⟩
def zIsi (K : PySem.W.Frag) : List V → Hp → VK → Prop := rIsi K
theorem call_zIsi : CallR X (.builtin "isinstance") (zIsi X.K) := call_isi
theorem w_isiL {T : String} {c : Bool} (O : Own H L) (ha : Pk L [(a, .lst xs)] R) (h : kitB "list" T = some c) (k : Q (.bl c) H) : zIsi K [.ref a, .ty T] H Q :=
  ⟨_, _, _, _, c, rfl, .ty T, .base (.lst (O.at1 ha)), h, k⟩
theorem w_isiT {T : String} {c : Bool} (O : Own H L) (ha : Pk L [(a, .tup xs)] R) (h : kitB "tuple" T = some c) (k : Q (.bl c) H) : zIsi K [.ref a, .ty T] H Q :=
  ⟨_, _, _, _, c, rfl, .ty T, .base (.tup (O.at1 ha)), h, k⟩
theorem w_isiI {T : String} {c : Bool} (h : kitB "int" T = some c) (k : Q (.bl c) H) : zIsi K [.int i, .ty T] H Q := ⟨_, _, _, _, c, rfl, .ty T, .base (.int i), h, k⟩
theorem w_isiS {T : String} {c : Bool} (h : kitB "str" T = some c) (k : Q (.bl c) H) : zIsi K [.str s, .ty T] H Q := ⟨_, _, _, _, c, rfl, .ty T, .base (.str s), h, k⟩
theorem w_isiN {T : String} {c : Bool} (h : kitB "NoneType" T = some c) (k : Q (.bl c) H) : zIsi K [.non, .ty T] H Q := ⟨_, _, _, _, c, rfl, .ty T, .base .non, h, k⟩
theorem w_isiB {T : String} {c d : Bool} (h : kitB "bool" T = some c) (k : Q (.bl c) H) : zIsi K [.bl d, .ty T] H Q := ⟨_, _, _, _, c, rfl, .ty T, .base (.bl d), h, k⟩
def zInt : List V → Hp → VK → Prop := fun xs H Q => (∃ i, xs = [.int i] ∧ Q (.int i) H) ∨ ∃ k, xs = [.bl k] ∧ Q (.int (if k then 1 else 0)) H
theorem call_zInt : CallR X (.type "int") zInt := call_int1
theorem w_intI (k : Q (.int i) H) : zInt [.int i] H Q := .inl ⟨i, rfl, k⟩
theorem w_intB {c : Bool} (k : Q (.int (if c then 1 else 0)) H) : zInt [.bl c] H Q := .inr ⟨c, rfl, k⟩
def zAll (K : PySem.W.Frag) : List V → Hp → VK → Prop := rAll K
theorem call_zAll (hc : X.calm = true) : CallR X (.builtin "all") (zAll X.K) := cr_all hc
theorem w_all {bs : List Bool} (O : Own H L) (ha : Pk L [(a, .lst (bs.map V.bl))] R) (k : Q (.bl (bs.all id)) H) : zAll K [.ref a] H Q := ⟨a, bs, rfl, .of (O.at1 ha), k⟩
def zAny (K : PySem.W.Frag) : List V → Hp → VK → Prop := rAny K
theorem call_zAny (hc : X.calm = true) : CallR X (.builtin "any") (zAny X.K) := cr_any hc
theorem w_any {bs : List Bool} (O : Own H L) (ha : Pk L [(a, .lst (bs.map V.bl))] R) (k : Q (.bl (bs.any id)) H) : zAny K [.ref a] H Q := ⟨a, bs, rfl, .of (O.at1 ha), k⟩
/-! ### methods of lists -/
theorem tyL (K : PySem.W.Frag) (O : Own H L) (ha : Pk L [(a, .lst xs)] R) : tyV K "list" (.ref a) H := .inl ⟨rfl, _, .of (O.at1 ha)⟩
theorem w_bm {T : String} {r : V → List V → Hp → VK → Prop} {to : TE} {t : TA} (h : to σ H fun x H1 => tyV K T x H1 ∧ t σ H1 fun xs H2 => r x xs H2 Q) : tBM K T r to t σ H Q := h
theorem w_bm0 {T : String} {r : V → List V → Hp → VK → Prop} {to : TE} (h : to σ H fun x H1 => tyV K T x H1 ∧ r x [] H1 Q) : tBM0 K T r to σ H Q := h
theorem w_tyL {P : Prop} (O : Own H L) (ha : Pk L [(a, .lst xs)] R) (k : P) : tyV K "list" (.ref a) H ∧ P := ⟨tyL K O ha, k⟩
theorem w_appI (O : Own H L) (ha : Pk L [(a, .lst (ns.map V.int))] R) (h : ns.length < 16777216) (k : ∀ H', Own H' ([(a, .lst ((ns ++ [i]).map V.int))] ++ R) → Q .non H') : rAppend (.ref a) [.int i] H Q :=
  ⟨a, _, _, rfl, rfl, O.at1 ha, by rw [List.length_map]; exact lineS h, by
    have e : ns.map V.int ++ [V.int i] = (ns ++ [i]).map V.int := by rw [List.map_append]; rfl
    rw [e]
    exact k _ (O.put ha)⟩
theorem w_appL (O : Own H L) (ha : Pk L [(a, .lst xs)] R) (h : xs.length < 16777216) (k : ∀ H', Own H' ([(a, .lst (xs ++ [v]))] ++ R) → Q .non H') : rAppend (.ref a) [v] H Q :=
  ⟨a, _, _, rfl, rfl, O.at1 ha, lineS h, k _ (O.put ha)⟩
end

/-! ### built-in names -/
theorem bt_len : bootBuiltins "len" = some (.builtin "len") := by decide +kernel
theorem bt_max : bootBuiltins "max" = some (.builtin "max") := by decide +kernel
theorem bt_min : bootBuiltins "min" = some (.builtin "min") := by decide +kernel
theorem bt_all : bootBuiltins "all" = some (.builtin "all") := by decide +kernel
theorem bt_any : bootBuiltins "any" = some (.builtin "any") := by decide +kernel
theorem bt_sum : bootBuiltins "sum" = some (.builtin "sum") := by decide +kernel
theorem bt_repr : bootBuiltins "repr" = some (.builtin "repr") := by decide +kernel
theorem bt_divmod : bootBuiltins "divmod" = some (.builtin "divmod") := by decide +kernel
theorem bt_isinstance : bootBuiltins "isinstance" = some (.builtin "isinstance") := by decide +kernel
theorem bt_list : bootBuiltins "list" = some (.type "list") := by decide +kernel
theorem bt_int : bootBuiltins "int" = some (.type "int") := by decide +kernel
theorem bt_str : bootBuiltins "str" = some (.type "str") := by decide +kernel
theorem bt_bool : bootBuiltins "bool" = some (.type "bool") := by decide +kernel
theorem bt_tuple : bootBuiltins "tuple" = some (.type "tuple") := by decide +kernel
theorem bt_dict : bootBuiltins "dict" = some (.type "dict") := by decide +kernel
theorem bt_ValueError : bootBuiltins "ValueError" = some (.type "ValueError") := by decide +kernel
/-! ### defs -/
/-- a def that may be called by its name -/
structure Cal (P : Program) (w : World) (K : PySem.W.Frag) (mg : Str → Option Value) (base : Heap) (k : Nat) (x : Str) (sp : Sp) (dvs : List V) : Prop where
  ex : ∃ (f : Addr) (fd : FuncData) (ps : List Str) (ds : List Value), FnOk P w K mg base (L2.CX P w) k f fd ps sp ∧ mg x = some (.ref f) ∧ PySem.W.keepIn K (.ref f) = true ∧ Binds K fd ps ds ∧ Vals dvs ds
/-- a def of the text, as the top left it -/
structure Dfn (K : PySem.W.Frag) (mg : Str → Option Value) (x : Str) (st : Stmt) (dvs : List V) (kws : List (Str × V)) (f : Addr) (fd : FuncData) : Prop where
  fn : FunD K x x (defArgs st) (defBody st) (defScope st) dvs kws f fd
  mgf : mg x = some (.ref f)
section
variable {P : Program} {w : World} {K : PySem.W.Frag} {mg : Str → Option Value} {base : Heap}
/-- a def that raises nothing, by its body -/
theorem cal_nox {x : Str} {st : Stmt} {N ps : List Str} {k : Nat} {sp : Sp} (d : ∃ f fd, Dfn K mg x st [] [] f fd) (S : FnScope N ps (defScope st))
    (hb : ∀ (kV doc pm : Value) (an : Option Addr) (cdv ct : Value) (us : List Value), us.length = ps.length → bindArgs (PySem.W.fnOf x x (defArgs st) (defBody st) (defScope st) .none kV doc pm an cdv ct) ⟨us, []⟩ = pure (ps.zip us))
    (len : ∀ vs H Q E, sp vs H Q E → vs.length = ps.length)
    (hbody : ∀ (cdv : Value) (A : Around) (outer : List Env) (s : Shared) (f : Addr) (H : Hp) (vs : List V) (Q : VK) (E : XK), Room k (A.deeper (PyProof.Rows.envOfC x (defScope st) s.heap.objs.size f cdv)) → sp vs H Q E →
      ∃ t, PSs (cxOf (L2.CX P w) P w K mg base N x (defScope st) f cdv A outer s H E).nox (defBody st) t ∧ t ⟨fun _ H' => Q .non H', Q, fun _ _ => False, fun _ _ => False⟩ (start N vs) H) : Cal P w K mg base (k + 1) x sp [] := by
  obtain ⟨f, fd, F, hm⟩ := d
  refine ⟨f, fd, ps, [], ?_, hm, F.kp, F.bindsN hb, .nil⟩
  refine F.ok S len fun cdv A outer s H vs Q E hr h => ?_
  obtain ⟨t, h1, h2⟩ := hbody cdv A outer s f H vs Q E hr h
  exact ⟨t, h1.nox, h2⟩
/-- the law's own def -/
theorem law_nox {x : Str} {st : Stmt} {f : Addr} {fd : FuncData} {N ps : List Str} {k : Nat} {sp : Sp} (F : FunD K x x (defArgs st) (defBody st) (defScope st) [] [] f fd) (S : FnScope N ps (defScope st))
    (len : ∀ vs H Q E, sp vs H Q E → vs.length = ps.length)
    (hbody : ∀ (cdv : Value) (A : Around) (outer : List Env) (s : Shared) (H : Hp) (vs : List V) (Q : VK) (E : XK), Room k (A.deeper (PyProof.Rows.envOfC x (defScope st) s.heap.objs.size f cdv)) → sp vs H Q E →
      ∃ t, PSs (cxOf CX0 P w K mg base N x (defScope st) f cdv A outer s H E).nox (defBody st) t ∧ t ⟨fun _ H' => Q .non H', Q, fun _ _ => False, fun _ _ => False⟩ (start N vs) H) : FnOk P w K mg base CX0 (k + 1) f fd ps sp := by
  refine F.ok S len fun cdv A outer s H vs Q E hr h => ?_
  obtain ⟨t, h1, h2⟩ := hbody cdv A outer s H vs Q E hr h
  exact ⟨t, h1.nox, h2⟩
end
section
variable {X : Cx} {j k : Nat} {x : Str} {sp : Sp} {dvs : List V} {p pos : Pos} {e : Expr} {es : List Expr} {t : TA} {te : TE}
/-- f(..), nothing is raised -/
theorem pe_c0 (c : Cal X.prog X.w X.K X.mg X.base k x sp dvs) (hr : Room j X.A) (hk : k ≤ j) (hg : Gl X x) (ha : PA X (e :: es) t)
    (hdb : (x == ("__debug__" : Str)) = false := by decide) (he : starEach (e :: es) X.env = (false, eval e X.env) :: starEach es X.env := by rfl) (hpl : (backTo pos (starEach es X.env)).any (·.1) = false := by rfl) :
    PE X (.Call (.Name x p) (e :: es) [] pos) (tCall sp dvs E0 t) := by
  obtain ⟨f, fd, ps, ds, F, hm, kp, b, d⟩ := c.ex
  exact pe_call F (hr.mono hk) hg hm kp b d passL ha hdb he hpl
theorem pe_c00 (c : Cal X.prog X.w X.K X.mg X.base k x sp dvs) (hr : Room j X.A) (hk : k ≤ j) (hg : Gl X x) (hdb : (x == ("__debug__" : Str)) = false := by decide) :
    PE X (.Call (.Name x p) [] [] pos) (tCall sp dvs E0 tNil) := by
  obtain ⟨f, fd, ps, ds, F, hm, kp, b, d⟩ := c.ex
  exact pe_call0 F (hr.mono hk) hg hm kp b d passL hdb
theorem pt_z {a : Expr} {ta : TE} (ha : PE X a ta) (he : ∀ whole, isTrue a X.env whole = (do let v ← whole; standAt a.pos; holding [v] (truthy v)) := by intro _; rfl) : PT X a (zTru X.K ta) := pt_truth ha he
end
theorem uI {A : Around} {k : Nat} (hr : Room k A) : A.units + 64 < cLine := by have := hr.un; omega
/-- the names at the entry -/
theorem w_start {N : List Str} {vs : List V} {σ : St} {H : Hp} {t : TS} {D : Ends} (e : start N vs = σ) (h : t D σ H) : t D (start N vs) H := by rw [e]; exact h

/-! ### items of written lists -/
inductive GetI {α : Type} : List α → Nat → α → Prop where
  | z {x : α} {l : List α} : GetI (x :: l) 0 x
  | s {x y : α} {l : List α} {i : Nat} : GetI l i x → GetI (y :: l) (i + 1) x
theorem GetI.get {α : Type} {l : List α} {i : Nat} {x : α} (h : GetI l i x) : l[i]? = some x := by
  induction h with
  | z => rfl
  | s _ ih => simpa using ih
inductive PutI {α : Type} : List α → Nat → α → List α → Prop where
  | z {x y : α} {l : List α} : PutI (x :: l) 0 y (y :: l)
  | s {x y : α} {l l' : List α} {i : Nat} : PutI l i y l' → PutI (x :: l) (i + 1) y (x :: l')
theorem PutI.put {α : Type} {l l' : List α} {i : Nat} {x : α} (h : PutI l i x l') : l.set i x = l' ∧ i < l.length := by
  induction h with
  | z => simp
  | s _ ih => simp [ih.1, ih.2]
section
variable {K : PySem.W.Frag} {σ : St} {H : Hp} {L R : HL} {Q : VK} {v : V} {i j : Int} {n : Nat} {a : Addr} {xs : List V} {ns ms : List Int}
theorem w_ixC (O : Own H L) (ha : Pk L [(a, .lst (ns.map V.int))] R) (h : GetI ns n i) (k : Q (.int i) H) : rIx K (.ref a) (.int (OfNat.ofNat n)) H Q :=
  w_ixL O ha (atI_nat (by rw [List.getElem?_map, h.get]; rfl)) k
theorem w_ixCL (O : Own H L) (ha : Pk L [(a, .lst xs)] R) (h : GetI xs n v) (k : Q v H) : rIx K (.ref a) (.int (OfNat.ofNat n)) H Q := w_ixL O ha (atI_nat h.get) k
theorem w_ixCT (O : Own H L) (ha : Pk L [(a, .tup xs)] R) (h : GetI xs n v) (k : Q v H) : rIx K (.ref a) (.int (OfNat.ofNat n)) H Q := w_ixT O ha (atI_nat h.get) k
theorem w_setC {R2 : Hp → Prop} (O : Own H L) (ha : Pk L [(a, .lst (ns.map V.int))] R) (h : PutI ns n j ms) (k : ∀ H', Own H' ([(a, .lst (ms.map V.int))] ++ R) → R2 H') : rSetL (.ref a) (.int (OfNat.ofNat n)) (.int j) H R2 := by
  have e := h.put.1
  have l : n < ns.length := h.put.2
  refine w_setI O ha (Int.natCast_nonneg n) (show (n : Int) < ns.length by omega) ?_
  show ∀ H', Own H' ([(a, .lst ((ns.set n j).map V.int))] ++ R) → R2 H'
  rw [e]
  exact k
end

/-! ### the script -/
/-- S holds what is needed to read the list at a -/
def Scr (K : PySem.W.Frag) (a : Addr) (ns : List Int) (S : HL) : Prop := ∀ H L R, Own H L → Pk L S R → SqL K H a (ns.map V.int)
theorem scr_of {K : PySem.W.Frag} {H : Hp} {a : Addr} {ns : List Int} (h : SqL K H a (ns.map V.int)) : ∃ S : HL, Scr K a ns S ∧ Own H S := by
  rcases h with (h | ⟨o, h⟩) | h
  · exact ⟨[(a, .lst (ns.map V.int))], fun H L R O p => .of (O.at1 p), ⟨by simp, fun b u m => by
      rcases List.mem_singleton.mp m with e
      cases e
      exact h⟩⟩
  · exact ⟨[(a, .frz o (.lst (ns.map V.int)))], fun H L R O p => .inl (.inr ⟨o, O.at1 p⟩), ⟨by simp, fun b u m => by
      rcases List.mem_singleton.mp m with e
      cases e
      exact h⟩⟩
  · exact ⟨[], fun H L R O p => .inr h, ⟨by simp, fun b u m => nomatch m⟩⟩
section
variable {K : PySem.W.Frag} {σ : St} {H : Hp} {L R S : HL} {Q : VK} {v : V} {i j lo hi : Int} {n : Nat} {a : Addr} {xs : List V} {ns ms : List Int} {ta tl te : TE} {tt : TT} {g : TG} {tb : TS} {wi : TI} {is : List Nat} {nx : St → Hp → Prop} {rt : VK} {bk ct : St → Hp → Prop}
theorem w_ixScr (hS : Scr K a ns S) (O : Own H L) (p : Pk L S R) (h0 : 0 ≤ i) (h1 : i < ns.length) (k : Q (.int (ns.getD i.toNat 0)) H) : rIx K (.ref a) (.int i) H Q :=
  .inl ⟨a, _, i, _, rfl, rfl, hS H L R O p, atI_int h0 h1, k⟩
theorem w_lenScr (hS : Scr K a ns S) (O : Own H L) (p : Pk L S R) (k : Q (.int ns.length) H) : zLen K [.ref a] H Q := ⟨_, ns.length, rfl, .inl ⟨_, hS H L R O p, by rw [List.length_map]⟩, k⟩
/-! ### loops -/
def ForR (J : It) (g : TG) (tb : TS) (nx : St → Hp → Prop) (rt : VK) (σ : St) (H : Hp) : Prop := ∃ W : Nat → Nat → St → Hp → Prop, (∃ m, W 0 m σ H) ∧ ∀ i m σ H, W i m σ H →
  (J.stop i H ∧ nx σ H) ∨ (J.go i H ∧ ∃ N : St → Hp → Prop, (∀ σ' H', N σ' H' → ∃ m', m' < m ∧ W (i + 1) m' σ' H') ∧ ∀ x H', J.yld i H x H' → g x σ H' fun σ2 H2 => tb ⟨N, rt, nx, N⟩ σ2 H2)
theorem w_for (h : wi σ H fun J H1 => ForR J g tb nx rt σ H1) : tFor wi g tb ⟨nx, rt, bk, ct⟩ σ H := h
def Rng1 (vs : List V) (R : It → Hp → Prop) (H : Hp) : Prop := ∃ j : Int, vs = [.int j] ∧ -(2 ^ 62) ≤ j ∧ j < 2 ^ 62 ∧ R (Itr 0 j.toNat) H
def Rng2 (vs : List V) (R : It → Hp → Prop) (H : Hp) : Prop := ∃ i j : Int, vs = [.int i, .int j] ∧ (-(2 ^ 62) ≤ i ∧ i < 2 ^ 62 ∧ -(2 ^ 62) ≤ j ∧ j < 2 ^ 62) ∧ R (Itr i (j - i).toNat) H
theorem w_iRng1 {ta : TA} {R : It → Hp → Prop} (h : ta σ H fun vs H1 => Rng1 vs R H1) : iRng1 ta σ H R := h
theorem w_iRng2 {ta : TA} {R : It → Hp → Prop} (h : ta σ H fun vs H1 => Rng2 vs R H1) : iRng2 ta σ H R := h
theorem w_rng1 {R : It → Hp → Prop} (h1 : -4611686018427387904 ≤ i) (h2 : i < 4611686018427387904) (k : R (Itr 0 i.toNat) H) : Rng1 [.int i] R H := ⟨i, rfl, h1, h2, k⟩
theorem w_rng2 {R : It → Hp → Prop} (h1 : -4611686018427387904 ≤ lo) (h2 : lo < 4611686018427387904) (h3 : -4611686018427387904 ≤ hi) (h4 : hi < 4611686018427387904) (k : R (Itr lo (hi - lo).toNat) H) : Rng2 [.int lo, .int hi] R H := ⟨lo, hi, rfl, ⟨h1, h2, h3, h4⟩, k⟩
def IsL (K : PySem.W.Frag) (x : V) (R : It → Hp → Prop) (H : Hp) : Prop := ∃ a, x = .ref a ∧ (∃ xs, SqL K H a xs) ∧ R (Itl K a) H
def IsT (K : PySem.W.Frag) (x : V) (R : It → Hp → Prop) (H : Hp) : Prop := ∃ a, x = .ref a ∧ (∃ xs, SqT K H a xs) ∧ R (Itt K a) H
theorem w_iList {R : It → Hp → Prop} (h : tl σ H fun x H1 => IsL K x R H1) : iList K tl σ H R := h
theorem w_itL {R' : It → Hp → Prop} (O : Own H L) (p : Pk L [(a, .lst xs)] R) (k : R' (Itl K a) H) : IsL K (.ref a) R' H := ⟨a, rfl, ⟨xs, .of (O.at1 p)⟩, k⟩
theorem w_itScr {R' : It → Hp → Prop} (hS : Scr K a ns S) (O : Own H L) (p : Pk L S R) (k : R' (Itl K a) H) : IsL K (.ref a) R' H := ⟨a, rfl, ⟨_, hS H L R O p⟩, k⟩
theorem w_iTup {R : It → Hp → Prop} (h : tl σ H fun x H1 => IsT K x R H1) : iTup K tl σ H R := h
theorem w_itT {R' : It → Hp → Prop} (O : Own H L) (p : Pk L [(a, .tup xs)] R) (k : R' (Itt K a) H) : IsT K (.ref a) R' H := ⟨a, rfl, ⟨xs, .of (O.at1 p)⟩, k⟩
theorem w_forR {lo : Int} (Pv : Nat → St → Hp → Prop) (h0 : Pv 0 σ H) (hs : ∀ i σ H, i < n → Pv i σ H → g (.int (lo + i)) σ H fun σ2 H2 => tb ⟨Pv (i + 1), rt, nx, Pv (i + 1)⟩ σ2 H2) (hd : ∀ σ H, Pv n σ H → nx σ H) : ForR (Itr lo n) g tb nx rt σ H :=
  for_range (D := ⟨nx, rt, fun _ _ => False, fun _ _ => False⟩) Pv h0 hs hd
theorem w_forL (Pv : Nat → St → Hp → Prop) (h0 : Pv 0 σ H) (hl : ∀ i σ H, i ≤ xs.length → Pv i σ H → SqL K H a xs) (hs : ∀ i x σ H, xs[i]? = some x → Pv i σ H → g x σ H fun σ2 H2 => tb ⟨Pv (i + 1), rt, nx, Pv (i + 1)⟩ σ2 H2) (hd : ∀ σ H, Pv xs.length σ H → nx σ H) : ForR (Itl K a) g tb nx rt σ H :=
  for_list (D := ⟨nx, rt, fun _ _ => False, fun _ _ => False⟩) Pv h0 hl hs hd
theorem w_forT (Pv : Nat → St → Hp → Prop) (h0 : Pv 0 σ H) (hl : ∀ i σ H, i ≤ xs.length → Pv i σ H → SqT K H a xs) (hs : ∀ i x σ H, xs[i]? = some x → Pv i σ H → g x σ H fun σ2 H2 => tb ⟨Pv (i + 1), rt, nx, Pv (i + 1)⟩ σ2 H2) (hd : ∀ σ H, Pv xs.length σ H → nx σ H) : ForR (Itt K a) g tb nx rt σ H :=
  for_tup (D := ⟨nx, rt, fun _ _ => False, fun _ _ => False⟩) Pv h0 hl hs hd
/-! comprehensions -/
def LcR (J : It) (g : TG) (tt : TT) (te : TE) (is : List Nat) (σ : St) (H : Hp) (Q : VK) : Prop := ∀ D, H D = none → ∃ W : Nat → Nat → Hp → Prop, (∃ m, W 0 m (upd H D (.lst []))) ∧ ∀ i m H, W i m H →
  (J.stop i H ∧ Q (.ref D) H) ∨ (J.go i H ∧ ∃ Nx : Hp → Prop, (∀ H', Nx H' → ∃ m', m' < m ∧ W (i + 1) m' H') ∧ ∀ x H', J.yld i H x H' → g x (wipe σ is) H' fun σ2 H2 => wipe σ2 is = wipe σ is ∧ tt σ2 H2 fun b H3 =>
    if b = true then te σ2 H3 fun y H4 => ∃ acc, H4 D = some (.lst acc) ∧ acc.length < sizeLine ∧ Nx (upd H4 D (.lst (acc ++ [y]))) else Nx H3)
theorem w_lc (h : wi σ H fun J H1 => LcR J g tt te is σ H1 Q) : tLc wi g tt te is σ H Q := h
theorem w_tyes {Q : Bool → Hp → Prop} (h : Q true H) : tYes σ H Q := h
theorem take_snoc {α : Type} : ∀ {l : List α} {i : Nat} {x : α}, l[i]? = some x → l.take (i + 1) = l.take i ++ [x]
  | [], i, x, h => by simp at h
  | a :: l, 0, x, h => by
    have e : a = x := Option.some.inj h
    subst e
    rfl
  | a :: l, i + 1, x, h => by
    show a :: l.take (i + 1) = a :: l.take i ++ [x]
    rw [take_snoc (l := l) (i := i) (by simpa using h)]
    rfl
/-- [f(x) for x in ints], the element made without a trace -/
theorem w_lcI {f : Int → V} (O : Own H L) (p : Pk L [(a, .lst (ns.map V.int))] R) (hl : ns.length ≤ 16777216)
    (hs : ∀ i x D H' (Qe : VK), ns[i]? = some x → Own H' ([(D, .lst ((ns.take i).map f))] ++ L) → (∀ H4, Own H4 ([(D, .lst ((ns.take i).map f))] ++ L) → Qe (f x) H4) → ∀ Nx : Hp → Prop, g (.int x) (wipe σ is) H' fun σ2 H2 => wipe σ2 is = wipe σ is ∧ tt σ2 H2 fun b H3 => if b = true then te σ2 H3 Qe else Nx H3)
    (k : ∀ D H', Own H' ([(D, .lst (ns.map f))] ++ L) → Q (.ref D) H') : LcR (Itl K a) g tt te is σ H Q := by
  intro D hD
  refine lc_list (K := K) (a := a) (xs := ns.map V.int) (fun i H' => Own H' ([(D, .lst ((ns.take i).map f))] ++ L)) (O.new hD) (fun i H' _ O' => .of (O'.at1 (Pk.there p))) (fun i x H' hx O' => ?_) (fun H' O' => ?_)
  · obtain ⟨z, rfl, hz⟩ : ∃ z, x = V.int z ∧ ns[i]? = some z := by
      rw [List.getElem?_map] at hx
      cases e : ns[i]? with
      | none => rw [e] at hx; cases hx
      | some z => rw [e] at hx; exact ⟨z, (Option.some.inj hx).symm, rfl⟩
    refine hs i z D H' _ hz O' (fun H4 O4 => ⟨_, O4.at1 Pk.here, ?_, ?_⟩) _
    · have h1 : i < ns.length := (List.getElem?_eq_some_iff.mp hz).1
      rw [List.length_map, List.length_take]
      exact lineS (by omega)
    · have e : (ns.take (i + 1)).map f = (ns.take i).map f ++ [f z] := by rw [take_snoc hz, List.map_append]; rfl
      rw [e]
      exact O4.put Pk.here
  · rw [List.length_map, List.take_length] at O'
    exact k D H' O'
/-- bools of ints -/
theorem w_lcB {f : Int → Bool} (O : Own H L) (p : Pk L [(a, .lst (ns.map V.int))] R) (hl : ns.length ≤ 16777216)
    (hs : ∀ i x D H' (Qe : VK), ns[i]? = some x → Own H' ([(D, .lst ((ns.take i).map fun x => V.bl (f x)))] ++ L) → (∀ H4, Own H4 ([(D, .lst ((ns.take i).map fun x => V.bl (f x)))] ++ L) → Qe (.bl (f x)) H4) → ∀ Nx : Hp → Prop, g (.int x) (wipe σ is) H' fun σ2 H2 => wipe σ2 is = wipe σ is ∧ tt σ2 H2 fun b H3 => if b = true then te σ2 H3 Qe else Nx H3)
    (k : ∀ D H', Own H' ([(D, .lst ((ns.map f).map V.bl))] ++ L) → Q (.ref D) H') : LcR (Itl K a) g tt te is σ H Q :=
  w_lcI (f := fun x => .bl (f x)) O p hl hs fun D H' O' => k D H' (by rw [List.map_map]; exact O')
theorem all_const (ns : List Int) : (ns.map fun _ => true).all id = true := by induction ns with
  | nil => rfl
  | cons _ _ ih => simpa using ih
end
theorem Cal.mono {P : Program} {w : World} {K : PySem.W.Frag} {mg : Str → Option Value} {base : Heap} {x : Str} {k j : Nat} {sp : Sp} {dvs : List V} (c : Cal P w K mg base k x sp dvs) (h : k ≤ j) : Cal P w K mg base j x sp dvs := by
  obtain ⟨f, fd, ps, ds, F, r⟩ := c.ex
  exact ⟨f, fd, ps, ds, F.mono h, r⟩

section
variable {K : PySem.W.Frag} {σ : St} {H : Hp} {Q : VK} {ta tb : TE}
theorem w_andT (h : ta σ H fun x H1 => ∃ k, TruV K x H1 k ∧ if k = true then tb σ H1 Q else Q x H1) : tAndT K ta tb σ H Q := h
theorem w_orT (h : ta σ H fun x H1 => ∃ k, TruV K x H1 k ∧ if k = true then Q x H1 else tb σ H1 Q) : tOrT K ta tb σ H Q := h
theorem w_notT (h : ta σ H fun x H1 => ∃ k, TruV K x H1 k ∧ Q (.bl (!k)) H1) : tNotT K ta σ H Q := h
end

theorem all_snoc {α : Type} {P : α → Prop} {l : List α} {y : α} (h : ∀ x ∈ l, P x) (hy : P y) : ∀ x ∈ l ++ [y], P x := fun x hx => by
  rcases List.mem_append.mp hx with m | m
  · exact h x m
  · rw [List.mem_singleton.mp m]; exact hy
theorem mem_menu {ns : List Int} {i : Int} {P : Int → Prop} (h0 : 0 ≤ i) (h1 : i < ns.length) (h : ∀ x ∈ ns, P x) : P (ns.getD i.toNat 0) := by
  have hk : i.toNat < ns.length := by omega
  simp only [List.getD, List.getElem?_eq_getElem hk, Option.getD_some]
  exact h _ (List.getElem_mem hk)

theorem w_wipe {σ σ2 : St} {P : Prop} (e : σ2 = σ) (k : P) : σ2 = σ ∧ P := ⟨e, k⟩
theorem range_map_succ {α : Type} (f : Nat → α) (i : Nat) : (List.range (i + 1)).map f = (List.range i).map f ++ [f i] := by rw [List.range_succ, List.map_append]; rfl

/-! ### objects -/
def obj (a C dx : Addr) (fs : List (Str × V)) : HL := [(a, .ins C dx fs), (dx, .own a)]
inductive FGet : List (Str × V) → Str → V → Prop where
  | z {f : Str} {v : V} {l : List (Str × V)} : FGet ((f, v) :: l) f v
  | s {f g : Str} {v x : V} {l : List (Str × V)} : (f == g) = false → FGet l f v → FGet ((g, x) :: l) f v
theorem FGet.get {l : List (Str × V)} {f : Str} {v : V} (h : FGet l f v) : l.lookup f = some v := by
  induction h with
  | z => simp [List.lookup]
  | s e _ ih => simp only [List.lookup, e]; exact ih
inductive FNo : List (Str × V) → Str → Prop where
  | z {f : Str} : FNo [] f
  | s {f g : Str} {x : V} {l : List (Str × V)} : (f == g) = false → FNo l f → FNo ((g, x) :: l) f
theorem FNo.get {l : List (Str × V)} {f : Str} (h : FNo l f) : l.lookup f = none := by
  induction h with
  | z => rfl
  | s e _ ih => simp only [List.lookup, e]; exact ih
inductive FPut : List (Str × V) → Str → V → List (Str × V) → Prop where
  | n {f : Str} {v : V} : FPut [] f v [(f, v)]
  | z {f : Str} {v x : V} {l : List (Str × V)} : FPut ((f, x) :: l) f v ((f, v) :: l)
  | s {f g : Str} {v x : V} {l l' : List (Str × V)} : (f == g) = false → FPut l f v l' → FPut ((g, x) :: l) f v ((g, x) :: l')
theorem FPut.put {l l' : List (Str × V)} {f : Str} {v : V} (h : FPut l f v l') : putF f v l = l' := by
  induction h with
  | n => rfl
  | z => unfold putF; rw [if_pos rfl]
  | s e _ ih =>
    unfold putF
    rw [if_neg (by intro z; rw [z] at e; simp at e), ih]
section
variable {K : PySem.W.Frag} {σ : St} {H : Hp} {L R S : HL} {Q : VK} {v x : V} {a C dx : Addr} {fs fs' : List (Str × V)} {f m : Str} {ta tv te : TE} {D : Ends} {nx : St → Hp → Prop} {rt : VK} {bk ct : St → Hp → Prop}
theorem Own.ins (O : Own H L) (p : Pk L (obj a C dx fs) R) : H a = some (.ins C dx fs) := (O.pk p).get _ _ (by simp [obj])
def FldR (K : PySem.W.Frag) (f : Str) (x : V) (H : Hp) (Q : VK) : Prop := ∃ a C dx fs v, x = .ref a ∧ H a = some (.ins C dx fs) ∧ Cls K C ∧ NoAttr K C f ∧ fs.lookup f = some v ∧ Q v H
theorem w_fld (h : ta σ H fun x H1 => FldR K f x H1 Q) : tFld K ta f σ H Q := h
theorem w_fldR (O : Own H L) (p : Pk L (obj a C dx fs) R) (g : FGet fs f v) (hc : Cls K C) (hn : NoAttr K C f) (k : Q v H) : FldR K f (.ref a) H Q := ⟨a, C, dx, fs, v, rfl, O.ins p, hc, hn, g.get, k⟩
def SFldR (K : PySem.W.Frag) (f : Str) (y x : V) (H : Hp) (R : Hp → Prop) : Prop := ∃ a C dx fs, x = .ref a ∧ H a = some (.ins C dx fs) ∧ Cls K C ∧ NoAttr K C f ∧ fs.length < 1000 ∧ R (upd H a (.ins C dx (putF f y fs)))
theorem w_sfld (h : tv σ H fun y H1 => ta σ H1 fun x H2 => SFldR K f y x H2 (nx σ)) : sFld K ta tv f ⟨nx, rt, bk, ct⟩ σ H := h
theorem Own.putO (O : Own H L) (p : Pk L (obj a C dx fs) R) : Own (upd H a (.ins C dx fs')) (obj a C dx fs' ++ R) := by
  have O2 : Own H ([(a, .ins C dx fs)] ++ ([(dx, .own a)] ++ R)) := O.pk p
  exact O2.put Pk.here
theorem w_sfldR {R' : Hp → Prop} (O : Own H L) (p : Pk L (obj a C dx fs) R) (g : FPut fs f v fs') (hc : Cls K C) (hn : NoAttr K C f) (hl : fs.length < 1000) (k : ∀ H', Own H' (obj a C dx fs' ++ R) → R' H') : SFldR K f v (.ref a) H R' :=
  ⟨a, C, dx, fs, rfl, O.ins p, hc, hn, hl, by rw [g.put]; exact k _ (O.putO p)⟩
/-! methods -/
def MethR (C : Addr) (m : Str) (x : V) (H : Hp) (P : Prop) : Prop := ∃ a dx fs, x = .ref a ∧ H a = some (.ins C dx fs) ∧ fs.lookup m = none ∧ P
theorem w_meth {sp : Sp} {dvs : List V} {E : XK} {t : TA} (h : ta σ H fun x H1 => MethR C m x H1 (t σ H1 fun vs H2 => sp (x :: (vs ++ dvs)) H2 Q E)) : tMeth C m sp dvs E ta t σ H Q := h
theorem w_methR {P : Prop} (O : Own H L) (p : Pk L (obj a C dx fs) R) (g : FNo fs m) (k : P) : MethR C m (.ref a) H P := ⟨a, dx, fs, rfl, O.ins p, g.get, k⟩
/-! making -/
def MakeR (C : Addr) (sp : Sp) (ws : V → List V) (E : XK) (H : Hp) (Q : VK) : Prop := ∀ x dx, H x = none → H dx = none → dx ≠ x → sp (ws (.ref x)) (upd (upd H dx (.own x)) x (.ins C dx [])) (fun v H2 => v = .non ∧ Q (.ref x) H2) E
theorem w_make {sp : Sp} {dvs : List V} {E : XK} {t : TA} (h : t σ H fun vs H1 => MakeR C sp (fun x => x :: (vs ++ dvs)) E H1 Q) : tMake C sp dvs E t σ H Q := h
theorem w_makeR {sp : Sp} {ws : V → List V} {E : XK} (O : Own H L) (k : ∀ x dx H', Own H' (obj x C dx [] ++ L) → sp (ws (.ref x)) H' (fun v H2 => v = .non ∧ Q (.ref x) H2) E) : MakeR C sp ws E H Q := by
  intro x dx hx hdx ne
  refine k x dx _ ?_
  have O1 : Own (upd H dx (.own x)) ([(dx, .own x)] ++ L) := O.new hdx
  have O2 := O1.new (p := x) (o := .ins C dx []) (by rw [upd_ne ne.symm]; exact hx)
  exact O2
theorem w_nonE {P : Prop} (k : P) : V.non = V.non ∧ P := ⟨rfl, k⟩
/-! targets that are tuples -/
theorem w_gtup {n : Nat} {t : TGs} {xs : List V} {R' : St → Hp → Prop} (O : Own H L) (p : Pk L [(a, .tup xs)] R) (hl : xs.length = n) (k : t xs σ H R') : gTup K n t (.ref a) σ H R' := ⟨a, xs, rfl, .of (O.at1 p), hl, k⟩
theorem w_gcons {t : TG} {u : TGs} {r : List V} {R' : St → Hp → Prop} (k : t v σ H fun σ' H' => u r σ' H' R') : gCons t u (v :: r) σ H R' := ⟨v, r, rfl, k⟩
theorem w_gnil {R' : St → Hp → Prop} (k : R' σ H) : gNil [] σ H R' := ⟨rfl, k⟩
/-! chains -/
def ChR (z : V) (H : Hp) (A : Hp → Prop) (Q : VK) : Prop := ∃ k, z = .bl k ∧ if k = true then A H else Q (.bl false) H
end
/-! ### any walk -/
theorem w_forW {J : It} {n : Nat} {G : Hp → Prop} {Y : Nat → Hp → V → Hp → Prop} {g : TG} {tb : TS} {nx : St → Hp → Prop} {rt : VK} {σ : St} {H : Hp} (w : Walk J n G Y) (Pv : Nat → St → Hp → Prop) (h0 : Pv 0 σ H) (hG : ∀ i σ H, i ≤ n → Pv i σ H → G H)
    (hs : ∀ i x σ H H', i < n → Pv i σ H → Y i H x H' → g x σ H' fun σ2 H2 => tb ⟨Pv (i + 1), rt, nx, Pv (i + 1)⟩ σ2 H2) (hd : ∀ σ H, Pv n σ H → nx σ H) : ForR J g tb nx rt σ H :=
  for_it w (D := ⟨nx, rt, fun _ _ => False, fun _ _ => False⟩) Pv h0 hG hs hd
def EnR (K : PySem.W.Frag) (vs : List V) (R : It → Hp → Prop) (H : Hp) : Prop := ∃ a xs, vs = [.ref a] ∧ SqL K H a xs ∧ R (Ite K a) H
section
variable {K : PySem.W.Frag} {σ : St} {H : Hp} {L R : HL} {a : Addr} {xs : List V} {ta : TA}
theorem w_iEnum {R : It → Hp → Prop} (h : ta σ H fun vs H1 => EnR K vs R H1) : iEnum K ta σ H R := h
theorem w_enR {R' : It → Hp → Prop} (O : Own H L) (p : Pk L [(a, .lst xs)] R) (k : R' (Ite K a) H) : EnR K [.ref a] R' H := ⟨a, xs, rfl, .of (O.at1 p), k⟩
/-- for i, x in enumerate(xs): the pair is a new tuple at T -/
theorem w_forE {g : TG} {tb : TS} {nx : St → Hp → Prop} {rt : VK} (Pv : Nat → St → Hp → Prop) (h0 : Pv 0 σ H) (hl : ∀ i σ H, i ≤ xs.length → Pv i σ H → SqL K H a xs)
    (hs : ∀ i x σ H T, xs[i]? = some x → Pv i σ H → H T = none → g (.ref T) σ (upd H T (.tup [.int (i : Nat), x])) fun σ2 H2 => tb ⟨Pv (i + 1), rt, nx, Pv (i + 1)⟩ σ2 H2) (hd : ∀ σ H, Pv xs.length σ H → nx σ H) : ForR (Ite K a) g tb nx rt σ H := by
  refine w_forW (walk_enum (K := K) (a := a) (xs := xs)) Pv h0 hl (fun i v σ H H' hi p y => ?_) hd
  obtain ⟨T, x, y', rfl, hT, rfl, e1, e2⟩ := y
  cases e1
  exact hs i y' σ H T e2 p hT
end
/-! ### methods and classes of the text -/
structure Met (P : Program) (w : World) (K : PySem.W.Frag) (mg : Str → Option Value) (base : Heap) (k : Nat) (C : Addr) (m : Str) (sp : Sp) (dvs : List V) : Prop where
  ex : ∃ (f : Addr) (fd : FuncData) (ps : List Str) (ds : List Value), Cls K C ∧ Meth K C m f ∧ FnOk P w K mg base (L2.CX P w) k f fd ps sp ∧ Binds K fd ps ds ∧ Vals dvs ds
structure Mak (P : Program) (w : World) (K : PySem.W.Frag) (mg : Str → Option Value) (base : Heap) (k : Nat) (x : Str) (C : Addr) (sp : Sp) (dvs : List V) : Prop where
  ex : ∃ (f : Addr) (fd : FuncData) (ps : List Str) (ds : List Value), Mk K C f ∧ FnOk P w K mg base (L2.CX P w) k f fd ps sp ∧ mg x = some (.ref C) ∧ Binds K fd ps ds ∧ Vals dvs ds
section
variable {P : Program} {w : World} {K : PySem.W.Frag} {mg : Str → Option Value} {base : Heap}
theorem Met.mono {k j : Nat} {C : Addr} {m : Str} {sp : Sp} {dvs : List V} (c : Met P w K mg base k C m sp dvs) (h : k ≤ j) : Met P w K mg base j C m sp dvs := by
  obtain ⟨f, fd, ps, ds, c1, c2, F, r⟩ := c.ex
  exact ⟨f, fd, ps, ds, c1, c2, F.mono h, r⟩
theorem Mak.mono {k j : Nat} {C : Addr} {x : Str} {sp : Sp} {dvs : List V} (c : Mak P w K mg base k x C sp dvs) (h : k ≤ j) : Mak P w K mg base j x C sp dvs := by
  obtain ⟨f, fd, ps, ds, c1, F, r⟩ := c.ex
  exact ⟨f, fd, ps, ds, c1, F.mono h, r⟩
/-- a def that raises nothing, by its body: the promise alone -/
theorem fo_nox {x qual : Str} {st : Stmt} {dvs : List V} {kws : List (Str × V)} {f : Addr} {fd : FuncData} {N ps : List Str} {k : Nat} {sp : Sp} (F : FunD K x qual (defArgs st) (defBody st) (defScope st) dvs kws f fd) (S : FnScope N ps (defScope st))
    (len : ∀ vs H Q E, sp vs H Q E → vs.length = ps.length)
    (hbody : ∀ (cdv : Value) (A : Around) (outer : List Env) (s : Shared) (H : Hp) (vs : List V) (Q : VK) (E : XK), Room k (A.deeper (PyProof.Rows.envOfC qual (defScope st) s.heap.objs.size f cdv)) → sp vs H Q E →
      ∃ t, PSs (cxOf (L2.CX P w) P w K mg base N qual (defScope st) f cdv A outer s H E).nox (defBody st) t ∧ t ⟨fun _ H' => Q .non H', Q, fun _ _ => False, fun _ _ => False⟩ (start N vs) H) : FnOk P w K mg base (L2.CX P w) (k + 1) f fd ps sp := by
  refine F.ok S len fun cdv A outer s H vs Q E hr h => ?_
  obtain ⟨t, h1, h2⟩ := hbody cdv A outer s H vs Q E hr h
  exact ⟨t, h1.nox, h2⟩
theorem met_of {C f : Addr} {m x qual : Str} {st : Stmt} {dvs dvs' : List V} {kws : List (Str × V)} {ps : List Str} {k : Nat} {sp : Sp} (c : Cls K C) (me : Meth K C m f) (d : ∃ fd, FunD K x qual (defArgs st) (defBody st) (defScope st) dvs kws f fd)
    (ok : ∀ fd, FunD K x qual (defArgs st) (defBody st) (defScope st) dvs kws f fd → FnOk P w K mg base (L2.CX P w) k f fd ps sp) (bi : ∀ fd, FunD K x qual (defArgs st) (defBody st) (defScope st) dvs kws f fd → ∃ ds, Vals dvs' ds ∧ Binds K fd ps ds) : Met P w K mg base k C m sp dvs' := by
  obtain ⟨fd, F⟩ := d
  obtain ⟨ds, h1, h2⟩ := bi fd F
  exact ⟨f, fd, ps, ds, c, me, ok fd F, h2, h1⟩
theorem mak_of {C f : Addr} {cx x qual : Str} {st : Stmt} {dvs dvs' : List V} {kws : List (Str × V)} {ps : List Str} {k : Nat} {sp : Sp} (M : Mk K C f) (hm : mg cx = some (.ref C)) (d : ∃ fd, FunD K x qual (defArgs st) (defBody st) (defScope st) dvs kws f fd)
    (ok : ∀ fd, FunD K x qual (defArgs st) (defBody st) (defScope st) dvs kws f fd → FnOk P w K mg base (L2.CX P w) k f fd ps sp) (bi : ∀ fd, FunD K x qual (defArgs st) (defBody st) (defScope st) dvs kws f fd → ∃ ds, Vals dvs' ds ∧ Binds K fd ps ds) : Mak P w K mg base k cx C sp dvs' := by
  obtain ⟨fd, F⟩ := d
  obtain ⟨ds, h1, h2⟩ := bi fd F
  exact ⟨f, fd, ps, ds, M, ok fd F, hm, h2, h1⟩
theorem bi_all {x qual : Str} {st : Stmt} {f : Addr} {fd : FuncData} {ps : List Str} (F : FunD K x qual (defArgs st) (defBody st) (defScope st) [] [] f fd)
    (h : ∀ (kV doc pm : Value) (an : Option Addr) (cdv ct : Value) (us : List Value), us.length = ps.length → bindArgs (PySem.W.fnOf x qual (defArgs st) (defBody st) (defScope st) .none kV doc pm an cdv ct) ⟨us, []⟩ = pure (ps.zip us)) : ∃ ds, Vals [] ds ∧ Binds K fd ps ds := ⟨[], .nil, F.bindsN h⟩
end
section
variable {X : Cx} {j k : Nat} {C : Addr} {x m : Str} {sp : Sp} {dvs : List V} {p pos apos : Pos} {e o : Expr} {es : List Expr} {t : TA} {ta te : TE}
theorem pe_m0c {pl : Sem Bool} (c : Met X.prog X.w X.K X.mg X.base k C m sp dvs) (hr : Room j X.A) (hk : k ≤ j) (he : PE X o ta)
    (ht : eval (.Call (.Attribute o m apos) [] [] pos) X.env = (do
      let ov ← eval o X.env
      standAt apos.atName
      let (f, first) ← holding [ov] (getMethod ov m pl)
      callWith pos f first (backTo pos (starEach [] X.env)) (backToKw pos (keywordEach [] X.env))) := by rfl) :
    PE X (.Call (.Attribute o m apos) [] [] pos) (tMeth C m sp dvs E0 ta tNil) := by
  obtain ⟨f, fd, ps, ds, c1, c2, F, b, d⟩ := c.ex
  exact pe_meth0 (pl := pl) he c1 c2 F (hr.mono hk) b d passL ht
theorem pe_mc {pl : Sem Bool} (c : Met X.prog X.w X.K X.mg X.base k C m sp dvs) (hr : Room j X.A) (hk : k ≤ j) (he : PE X o ta) (ha : PA X (e :: es) t)
    (hst : starEach (e :: es) X.env = (false, eval e X.env) :: starEach es X.env := by rfl) (hpl : (backTo pos (starEach es X.env)).any (·.1) = false := by rfl)
    (ht : eval (.Call (.Attribute o m apos) (e :: es) [] pos) X.env = (do
      let ov ← eval o X.env
      standAt apos.atName
      let (f, first) ← holding [ov] (getMethod ov m pl)
      callWith pos f first (backTo pos (starEach (e :: es) X.env)) (backToKw pos (keywordEach [] X.env))) := by rfl) :
    PE X (.Call (.Attribute o m apos) (e :: es) [] pos) (tMeth C m sp dvs E0 ta t) := by
  obtain ⟨f, fd, ps, ds, c1, c2, F, b, d⟩ := c.ex
  exact pe_meth (pl := pl) he c1 c2 F (hr.mono hk) b d passL ha hst hpl ht
theorem pe_mkc (c : Mak X.prog X.w X.K X.mg X.base k x C sp dvs) (hr : Room j X.A) (hk : k + 1 ≤ j) (hg : Gl X x) (ha : PA X (e :: es) t)
    (hdb : (x == ("__debug__" : Str)) = false := by decide) (he : starEach (e :: es) X.env = (false, eval e X.env) :: starEach es X.env := by rfl) (hpl : (backTo pos (starEach es X.env)).any (·.1) = false := by rfl) :
    PE X (.Call (.Name x p) (e :: es) [] pos) (tMake C sp dvs E0 t) := by
  obtain ⟨f, fd, ps, ds, M, F, hm, b, d⟩ := c.ex
  exact pe_make M F (hr.mono hk) hg hm b d passL ha hdb he hpl
theorem pe_mkc0 (c : Mak X.prog X.w X.K X.mg X.base k x C sp dvs) (hr : Room j X.A) (hk : k + 1 ≤ j) (hg : Gl X x) (hdb : (x == ("__debug__" : Str)) = false := by decide) :
    PE X (.Call (.Name x p) [] [] pos) (tMake C sp dvs E0 tNil) := by
  obtain ⟨f, fd, ps, ds, M, F, hm, b, d⟩ := c.ex
  exact pe_make0 M F (hr.mono hk) hg hm b d passL hdb
theorem pe_gi {i : Int} (hg : Gl X x) (h : ∃ t, X.mg x = some (.int i t)) (hd : (x == ("__debug__" : Str)) = false := by decide) : PE X (.Name x p) (tC (.int i)) := by
  obtain ⟨t, h⟩ := h
  exact pe_glob (v := .int i) hg h ⟨t, rfl⟩ hd
theorem pe_gs {z : Str} (hg : Gl X x) (h : ∃ t, X.mg x = some (.str z t)) (hd : (x == ("__debug__" : Str)) = false := by decide) : PE X (.Name x p) (tC (.str z)) := by
  obtain ⟨t, h⟩ := h
  exact pe_glob (v := .str z) hg h ⟨t, rfl⟩ hd
end

section
variable {σ : St} {H : Hp} {Q : VK} {ta tb tc : TE}
theorem w_chain {r r' : R2} (h : ta σ H fun x H1 => tb σ H1 fun y H2 => r x y H2 fun z H3 => ∃ k, z = .bl k ∧ (if k = true then tc σ H3 fun w' H4 => r' y w' H4 Q else Q (.bl false) H3)) : tChain r r' ta tb tc σ H Q := h
end

/-! ### more loops and comprehensions -/
section
variable {K : PySem.W.Frag} {σ : St} {H : Hp} {L R : HL} {Q : VK} {a : Addr} {ns : List Int} {te : TE} {tt : TT} {g : TG} {tb : TS} {is : List Nat} {nx : St → Hp → Prop} {rt : VK}
theorem w_lcRg {f : Nat → V} {lo : Int} {n : Nat} (O : Own H L) (hl : n ≤ 16777216)
    (hs : ∀ i D H' (Qe : VK), i < n → Own H' ([(D, .lst ((List.range i).map f))] ++ L) → (∀ H4, Own H4 ([(D, .lst ((List.range i).map f))] ++ L) → Qe (f i) H4) → ∀ Nx : Hp → Prop, g (.int (lo + i)) (wipe σ is) H' fun σ2 H2 => wipe σ2 is = wipe σ is ∧ tt σ2 H2 fun b H3 => if b = true then te σ2 H3 Qe else Nx H3)
    (k : ∀ D H', Own H' ([(D, .lst ((List.range n).map f))] ++ L) → Q (.ref D) H') : LcR (Itr lo n) g tt te is σ H Q := by
  intro D hD
  refine lc_range (fun i H' => Own H' ([(D, .lst ((List.range i).map f))] ++ L)) (O.new hD) (fun i H' hi O' => ?_) (fun H' O' => k D H' O')
  refine hs i D H' _ hi O' (fun H4 O4 => ⟨_, O4.at1 Pk.here, ?_, ?_⟩) _
  · rw [List.length_map, List.length_range]
    exact lineS (by omega)
  · rw [range_map_succ]
    exact O4.put Pk.here
theorem w_lcRc {c lo : Int} {n m : Nat} (O : Own H L) (e : is = [m]) (hl : n ≤ 16777216) (k : ∀ D H', Own H' ([(D, .lst ((List.replicate n c).map V.int))] ++ L) → Q (.ref D) H') : LcR (Itr lo n) (gName m) tYes (tC (.int c)) is σ H Q := by
  subst e
  refine w_lcRg (f := fun _ => .int c) O hl (fun i D H' Qe hi O' hk Nx => ?_) (fun D H' O' => k D H' ?_)
  · show wipe ((wipe σ [m]).set m _) [m] = wipe σ [m] ∧ (if true = true then Qe (.int c) H' else Nx H')
    exact ⟨by simp [wipe, List.set_set], hk _ O'⟩
  · have e : (List.range n).map (fun _ => V.int c) = (List.replicate n c).map V.int := by
      rw [List.map_const', List.length_range, List.map_replicate]
    rw [← e]
    exact O'
theorem int_item {i : Nat} {x : V} (h : (ns.map V.int)[i]? = some x) : ∃ z, x = V.int z ∧ ns[i]? = some z := by
  rw [List.getElem?_map] at h
  cases e : ns[i]? with
  | none => rw [e] at h; cases h
  | some z => rw [e] at h; exact ⟨z, (Option.some.inj h).symm, rfl⟩
theorem w_forLI (Pv : Nat → St → Hp → Prop) (h0 : Pv 0 σ H) (hl : ∀ i σ H, Pv i σ H → ∃ L R, Own H L ∧ Pk L [(a, .lst (ns.map V.int))] R) (hs : ∀ i x σ H, ns[i]? = some x → Pv i σ H → g (.int x) σ H fun σ2 H2 => tb ⟨Pv (i + 1), rt, nx, Pv (i + 1)⟩ σ2 H2) (hd : ∀ σ H, Pv ns.length σ H → nx σ H) : ForR (Itl K a) g tb nx rt σ H := by
  refine w_forL (xs := ns.map V.int) Pv h0 (fun i σ H _ p => ?_) (fun i x σ H hx p => ?_) (fun σ H p => hd σ H (by rw [List.length_map] at p; exact p))
  · obtain ⟨L, R, O, pk⟩ := hl i σ H p
    exact .of (O.at1 pk)
  · obtain ⟨z, rfl, hz⟩ := int_item hx
    exact hs i z σ H hz p
theorem w_forEI (Pv : Nat → St → Hp → Prop) (h0 : Pv 0 σ H) (hl : ∀ i σ H, Pv i σ H → ∃ L R, Own H L ∧ Pk L [(a, .lst (ns.map V.int))] R)
    (hs : ∀ i x σ H T H', ns[i]? = some x → Pv i σ H → (∀ L, Own H L → Own H' ([(T, .tup [.int (i : Nat), .int x])] ++ L)) → g (.ref T) σ H' fun σ2 H2 => tb ⟨Pv (i + 1), rt, nx, Pv (i + 1)⟩ σ2 H2) (hd : ∀ σ H, Pv ns.length σ H → nx σ H) : ForR (Ite K a) g tb nx rt σ H := by
  refine w_forE (xs := ns.map V.int) Pv h0 (fun i σ H _ p => ?_) (fun i x σ H T hx p hT => ?_) (fun σ H p => hd σ H (by rw [List.length_map] at p; exact p))
  · obtain ⟨L, R, O, pk⟩ := hl i σ H p
    exact .of (O.at1 pk)
  · obtain ⟨z, rfl, hz⟩ := int_item hx
    exact hs i z σ H T _ hz p (fun L O => O.new hT)
end
inductive App : List V → List V → List V → Prop where
  | nil {d : List V} : App [] d d
  | cons {v : V} {l d u : List V} : App l d u → App (v :: l) d (v :: u)
theorem App.eq {l d u : List V} (h : App l d u) : l ++ d = u := by
  induction h with
  | nil => rfl
  | cons _ ih => rw [List.cons_append, ih]
theorem w_sa {sp : Sp} {x : V} {l d u : List V} {H : Hp} {Q : VK} {E : XK} (e : App l d u) (h : sp (x :: u) H Q E) : sp (x :: (l ++ d)) H Q E := by rw [e.eq]; exact h
theorem w_sa0 {sp : Sp} {l d u : List V} {H : Hp} {Q : VK} {E : XK} (e : App l d u) (h : sp u H Q E) : sp (l ++ d) H Q E := by rw [e.eq]; exact h
theorem w_callD {σ : St} {H : Hp} {Q : VK} {sp : Sp} {dvs : List V} {E : XK} {t : TA} (h : t σ H fun vs H1 => sp (vs ++ dvs) H1 Q E) : tCall sp dvs E t σ H Q := h

theorem Pk.app {L A B R1 R2 : HL} (h : Pk L A R1) (k : Pk R1 B R2) : Pk L (A ++ B) R2 := by
  unfold Pk at *
  refine h.trans ?_
  rw [List.append_assoc]
  exact k.append_left A
theorem w_fldG {K : PySem.W.Frag} {f : Str} {x : V} {H : Hp} {Q : VK} (h : FldR K f x H Q) : FldR K f x H Q := h
theorem w_sfldG {K : PySem.W.Frag} {f : Str} {y x : V} {H : Hp} {R : Hp → Prop} (h : SFldR K f y x H R) : SFldR K f y x H R := h
theorem w_methG {C : Addr} {m : Str} {x : V} {H : Hp} {P : Prop} (h : MethR C m x H P) : MethR C m x H P := h

/-! ### in, index, extend, clear -/
theorem uJ {A : Around} {k : Nat} (hr : Room k A) : A.units + 65 < cLine := by have := hr.un; omega
section
variable {X : Cx} {K : PySem.W.Frag} {σ : St} {H : Hp} {L R R' : HL} {Q : VK} {v : V} {i j : Int} {n : Nat} {a b : Addr} {xs : List V} {ns ms : List Int}
def rInS : R2 := fun x y H Q => ∃ i j, x = .str i ∧ y = .str j ∧ Q (.bl (!(Builtin.Str.occurrences j i 0 j.length 1).isEmpty)) H
def rNotInS : R2 := fun x y H Q => ∃ i j, x = .str i ∧ y = .str j ∧ Q (.bl (!(!(Builtin.Str.occurrences j i 0 j.length 1).isEmpty))) H
def zIn (K : PySem.W.Frag) : R2 := fun x y H Q => rIn K false x y H Q ∨ (rInS x y H Q ∨ rInD K x y H Q)
def zNotIn (K : PySem.W.Frag) : R2 := fun x y H Q => rIn K true x y H Q ∨ (rNotInS x y H Q ∨ rNotInD K x y H Q)
theorem op_zIn (hu : X.A.units + 65 < cLine) : OpR X (compareOp .In) (zIn X.K) := by
  intro pins s σ H x y v u Q I rx ry h
  rcases h with h | h | h
  · exact op_in_seq pins s σ H _ _ v u Q I rx ry h
  · exact op_in_str pins s σ H _ _ v u Q I rx ry h
  · exact op_inD hu pins s σ H _ _ v u Q I rx ry h
theorem op_zNotIn (hu : X.A.units + 65 < cLine) : OpR X (compareOp .NotIn) (zNotIn X.K) := by
  intro pins s σ H x y v u Q I rx ry h
  rcases h with h | h | h
  · exact op_notIn_seq pins s σ H _ _ v u Q I rx ry h
  · exact op_notIn_str pins s σ H _ _ v u Q I rx ry h
  · exact op_notInD hu pins s σ H _ _ v u Q I rx ry h
theorem inV_int (i : Int) : ∀ ns : List Int, inV (.int i) (ns.map V.int) = decide (i ∈ ns)
  | [] => by simp [inV]
  | x :: ns => by
    have ih := inV_int i ns
    unfold inV at ih ⊢
    rw [List.map_cons, List.any_cons, ih]
    by_cases h : x = i
    · subst h; simp [eqV]
    · have h2 : ¬ i = x := fun e => h e.symm
      simp [eqV, h, h2]
theorem flat_ints : (ns.map V.int).all flatV = true := by simp [flatV]
theorem w_inI (O : Own H L) (ha : Pk L [(a, .lst (ns.map V.int))] R) (k : Q (.bl (decide (i ∈ ns))) H) : zIn K (.int i) (.ref a) H Q :=
  .inl ⟨a, _, rfl, .inl (.of (O.at1 ha)), rfl, flat_ints, by rw [inV_int]; exact k⟩
theorem w_inT (O : Own H L) (ha : Pk L [(a, .tup xs)] R) (hi : Ints xs ns) (k : Q (.bl (decide (i ∈ ns))) H) : zIn K (.int i) (.ref a) H Q := by
  have e := hi.eq
  subst e
  exact .inl ⟨a, _, rfl, .inr (.of (O.at1 ha)), rfl, flat_ints, by rw [inV_int]; exact k⟩
theorem w_ninI (O : Own H L) (ha : Pk L [(a, .lst (ns.map V.int))] R) (k : Q (.bl (!decide (i ∈ ns))) H) : zNotIn K (.int i) (.ref a) H Q :=
  .inl ⟨a, _, rfl, .inl (.of (O.at1 ha)), rfl, flat_ints, by rw [inV_int]; exact k⟩
theorem w_ninT (O : Own H L) (ha : Pk L [(a, .tup xs)] R) (hi : Ints xs ns) (k : Q (.bl (!decide (i ∈ ns))) H) : zNotIn K (.int i) (.ref a) H Q := by
  have e := hi.eq
  subst e
  exact .inl ⟨a, _, rfl, .inr (.of (O.at1 ha)), rfl, flat_ints, by rw [inV_int]; exact k⟩
/-- the first place of i -/
def idx (i : Int) : List Int → Nat
  | [] => 0
  | x :: l => if x = i then 0 else idx i l + 1
theorem idx_get : ∀ {ns : List Int}, i ∈ ns → ns[idx i ns]? = some i
  | x :: l, h => by
    unfold idx
    by_cases e : x = i
    · rw [if_pos e, e]; rfl
    · rw [if_neg e]
      have h2 : i ∈ l := by
        rcases List.mem_cons.mp h with z | z
        · exact absurd z.symm e
        · exact z
      simpa using idx_get h2
theorem idx_lt (h : i ∈ ns) : idx i ns < ns.length := (List.getElem?_eq_some_iff.mp (idx_get h)).1
theorem idx_no : ∀ {ns : List Int} {m : Nat} {z : Int}, m < idx i ns → ns[m]? = some z → z ≠ i
  | [], m, z, h, _ => by simp [idx] at h
  | x :: l, m, z, h, e => by
    unfold idx at h
    by_cases c : x = i
    · rw [if_pos c] at h; omega
    · rw [if_neg c] at h
      cases m with
      | zero =>
        have : x = z := Option.some.inj e
        rw [← this]; exact c
      | succ m => exact idx_no (ns := l) (m := m) (by omega) (by simpa using e)
def zIndex (K : PySem.W.Frag) : V → List V → Hp → VK → Prop := rIndex K
theorem mt_zIndex : MtR X "list.index" (zIndex X.K) := mt_index
theorem w_idxI (O : Own H L) (ha : Pk L [(a, .lst (ns.map V.int))] R) (h : i ∈ ns) (k : Q (.int (idx i ns : Nat)) H) : zIndex K (.ref a) [.int i] H Q :=
  ⟨a, _, .int i, idx i ns, .int i, rfl, rfl, .of (O.at1 ha), rfl, flat_ints, by rw [List.getElem?_map, idx_get h]; rfl, by simp [eqV], fun m z hm hz => by
    obtain ⟨z', rfl, hz'⟩ := int_item hz
    have := idx_no hm hz'
    simp [eqV, this], k⟩
theorem w_extI (O : Own H L) (ha : Pk L [(a, .lst (ns.map V.int))] R) (hb : Pk R [(b, .lst (ms.map V.int))] R') (hl : ns.length + ms.length ≤ 16777216) (k : ∀ H', Own H' ([(a, .lst ((ns ++ ms).map V.int))] ++ R) → Q .non H') : rExtend (.ref a) [.ref b] H Q :=
  ⟨a, b, _, _, rfl, rfl, O.at1 ha, (O.sub (Sub.rest ha)).at1 hb, by rw [List.length_map, List.length_map]; exact line hl, by
    rw [← List.map_append]
    exact k _ (O.put ha)⟩
theorem w_clr (O : Own H L) (ha : Pk L [(a, .lst xs)] R) (k : ∀ H', Own H' ([(a, .lst (([] : List Int).map V.int))] ++ R) → Q .non H') : rClear (.ref a) [] H Q :=
  ⟨a, _, rfl, rfl, O.at1 ha, k _ (O.put ha)⟩
end
/-! ### keywords: the callee's values in its own order -/
inductive Ar where
  | at (i : Nat)
  | dv (v : V)
def nthV : List V → Nat → V
  | [], _ => .non
  | x :: _, 0 => x
  | _ :: l, i + 1 => nthV l i
def nthU : List Value → Nat → Value
  | [], _ => .none
  | x :: _, 0 => x
  | _ :: l, i + 1 => nthU l i
def arV (l : List Ar) (vs : List V) : List V := l.map fun | .at i => nthV vs i | .dv v => v
/-- the values' side of an arrangement: ds the values of the defaults -/
def arU : List Ar → List Value → List Value → List Value
  | [], _, _ => []
  | .at i :: l, us, ds => nthU us i :: arU l us ds
  | .dv _ :: l, us, d :: ds => d :: arU l us ds
  | .dv _ :: l, us, [] => .none :: arU l us []
theorem nth_rel : ∀ {vs : List V} {us : List Value} (i : Nat), Vals vs us → RelV (nthV vs i) (nthU us i)
  | _, _, _, .nil => rfl
  | _, _, 0, .cons r _ => r
  | _, _, i + 1, .cons _ t => nth_rel i t
def dvsOf (l : List Ar) : List V := l.filterMap fun | .at _ => none | .dv v => some v
theorem ar_rel : ∀ {l : List Ar} {vs : List V} {us ds : List Value}, Vals vs us → Vals (dvsOf l) ds → Vals (arV l vs) (arU l us ds)
  | [], _, _, _, _, _ => .nil
  | .at i :: l, vs, us, ds, r, d => .cons (nth_rel i r) (ar_rel (l := l) r d)
  | .dv v :: l, vs, us, ds, r, d => by
    cases d with
    | cons h t => exact .cons h (ar_rel (l := l) r t)
structure KBa (K : PySem.W.Frag) (fd : FuncData) (ps : List Str) (n : Nat) (ks : List Str) (l : List Ar) : Prop where
  ex : ∃ ds : List Value, Vals (dvsOf l) ds ∧ ∀ (s : Shared) (us ws : List Value), K.In s.heap → us.length = n → ws.length = ks.length → BindsTo s fd ⟨us, ks.zip ws⟩ (ps.zip (arU l (us ++ ws) ds))
theorem KBa.kbn {K : PySem.W.Frag} {fd : FuncData} {ps : List Str} {n : Nat} {ks : List Str} {l : List Ar} (b : KBa K fd ps n ks l) : ∃ g, KBn K fd ps n ks g (fun vs zs => arV l (vs ++ zs)) := by
  obtain ⟨ds, h1, h2⟩ := b.ex
  exact ⟨fun us ws => arU l (us ++ ws) ds, ⟨h2, fun r1 r2 => ar_rel (r1.append r2) h1⟩⟩
section
variable {K : PySem.W.Frag} {x qual : Str} {params : Arguments} {body : List Stmt} {scope : Scope} {dvs : List V} {kws : List (Str × V)} {f : Addr} {fd : FuncData} {ps : List Str}
/-- no default is needed -/
theorem kba0 (F : FunD K x qual params body scope [] kws f fd) (n : Nat) (ks : List Str) (l : List Ar) (hl : dvsOf l = [])
    (h : ∀ (kV doc pm : Value) (an : Option Addr) (cdv ct : Value) (us ws : List Value), us.length = n → ws.length = ks.length →
      bindArgs (PySem.W.fnOf x qual params body scope .none kV doc pm an cdv ct) ⟨us, ks.zip ws⟩ = pure (ps.zip (arU l (us ++ ws) []))) : KBa K fd ps n ks l := by
  obtain ⟨oc, od, dV, kV, doc, pm, an, cdv, ct, osl, rfl, lk, hcd, hD, hK⟩ := F.ex
  rcases hD with ⟨_, rfl⟩ | ⟨e, _⟩
  · exact ⟨[], by rw [hl]; exact .nil, fun s us ws X l1 l2 => .of_eq (h kV doc pm an cdv ct us ws l1 l2)⟩
  · exact absurd rfl e
/-- keyword-only defaults ms alone fill up -/
theorem kbaK (F : FunD K x qual params body scope [] kws f fd) (n : Nat) (ks : List Str) (ms : List (Str × V)) (l : List Ar) (hk : kws ≠ []) (hms : ∀ q ∈ ms, q ∈ kws) (hl : dvsOf l = ms.map (·.2))
    (h : ∀ (D : Addr) (doc pm : Value) (an : Option Addr) (cdv ct : Value) (us ws mv : List Value), us.length = n → ws.length = ks.length → mv.length = ms.length →
      KwChain D ((ms.map (·.1)).zip mv) (bindArgs (PySem.W.fnOf x qual params body scope .none (.ref D) doc pm an cdv ct) ⟨us, ks.zip ws⟩) (ps.zip (arU l (us ++ ws) mv))) : KBa K fd ps n ks l := by
  obtain ⟨oc, od, dV, kV, doc, pm, an, cdv, ct, osl, rfl, lk, hcd, hD, hK⟩ := F.ex
  rcases hD with ⟨_, rfl⟩ | ⟨e, _⟩
  · rcases hK with e | ⟨D, rfl, hq⟩
    · exact absurd e hk
    · obtain ⟨mv, hl2, rk, hks⟩ := kwd_vals (ms := ms) fun q hm => hq q (hms q hm)
      exact ⟨mv, by rw [hl]; exact rk, fun s us ws X l1 l2 => BindsTo.of_looks fun M => KwChain.looks X hks (h D doc pm an cdv ct us ws mv l1 l2 hl2)⟩
  · exact absurd rfl e
end
def tMethN (C : Addr) (m : Str) (n k : Nat) (sp : Sp) (l : List Ar) (E : XK) (ta : TE) (t tk : TA) : TE := fun σ H Q => ta σ H fun x H1 => MethR C m x H1 (t σ H1 fun vs H2 => tk σ H2 fun zs H3 => vs.length = n ∧ zs.length = k ∧ sp (arV l ((x :: vs) ++ zs)) H3 Q E)
section
variable {X : Cx} {CX : CXT} {k n : Nat} {f C : Addr} {fd : FuncData} {ps ks : List Str} {sp : Sp} {E : XK} {x m : Str} {p pos apos : Pos} {o e : Expr} {es : List Expr} {kws : List Keyword} {ta : TE} {t tk : TA} {l : List Ar}
/-- o.m(e, .., k = v, ..) -/
theorem pe_methN {pl : Sem Bool} (he : PE X o ta) (c : Cls X.K C) (hm : Meth X.K C m f) (F : FnOk X.prog X.w X.K X.mg X.base CX k f fd ps sp) (hr : Room k X.A) (hb : KBa X.K fd ps (n + 1) ks l) (hx : Passes CX X E) (ha : PA X (e :: es) t) (hkw : PK X kws tk)
    (hall : (backToKw pos (keywordEach kws X.env)).all (·.1.isSome) = true := by rfl) (hks : (backToKw pos (keywordEach kws X.env)).filterMap (·.1) = ks := by rfl) (hst : starEach (e :: es) X.env = (false, eval e X.env) :: starEach es X.env := by rfl)
    (hpl : ((backTo pos (starEach (e :: es) X.env)).any (·.1) || (backToKw pos (keywordEach kws X.env)).any (·.1.isNone)) = false := by rfl)
    (ht : eval (.Call (.Attribute o m apos) (e :: es) kws pos) X.env = (do
      let ov ← eval o X.env
      standAt apos.atName
      let (f, first) ← holding [ov] (getMethod ov m pl)
      callWith pos f first (backTo pos (starEach (e :: es) X.env)) (backToKw pos (keywordEach kws X.env))) := by rfl) :
    PE X (.Call (.Attribute o m apos) (e :: es) kws pos) (tMethN C m n ks.length sp l E ta t tk) := by
  obtain ⟨g, hb⟩ := hb.kbn
  refine ⟨fun pins s σ H Q I h => ?_⟩
  refine PySem.W.methodCall_KW (pl := pl) (thn (he.run pins s σ H _ I h) fun u s1 ⟨x, H1, I1, rx, a, dx, fs, ex, ea, l, q⟩ => ?_) ht
  subst ex
  obtain rfl : u = Value.ref a := rx
  refine getmeth_ok I1 ea c hm l ?_
  refine PySem.W.callWith_KW (first := [.ref a]) (h₀ := X.base) I.ok.mod.kin hm.kp hall (thn (ha.run pos pins s1 σ H1 _ I1 q) fun us s2 ⟨vs, H2, I2, r, q2⟩ => ?_) hpl hst
  refine thn (hkw.run pos pins s2 σ H2 _ I2 q2) fun ws s3 ⟨zs, H3, I3, rz, l1, l2, q3⟩ => ⟨I3.kIn, ?_⟩
  rw [hks]
  exact run_fnN (us := .ref a :: us) (vs := .ref a :: vs) F hr hb hx I3 (.cons rfl r) rz (congrArg Nat.succ l1) l2 q3
end
/-- a method's form by keywords -/
structure KMet (P : Program) (w : World) (K : PySem.W.Frag) (mg : Str → Option Value) (base : Heap) (k : Nat) (C : Addr) (m : Str) (sp : Sp) (n : Nat) (ks : List Str) (l : List Ar) : Prop where
  ex : ∃ (f : Addr) (fd : FuncData) (ps : List Str), Cls K C ∧ Meth K C m f ∧ FnOk P w K mg base (L2.CX P w) k f fd ps sp ∧ KBa K fd ps (n + 1) ks l
theorem KMet.mono {P : Program} {w : World} {K : PySem.W.Frag} {mg : Str → Option Value} {base : Heap} {k j : Nat} {C : Addr} {m : Str} {sp : Sp} {n : Nat} {ks : List Str} {l : List Ar} (c : KMet P w K mg base k C m sp n ks l) (h : k ≤ j) : KMet P w K mg base j C m sp n ks l := by
  obtain ⟨f, fd, ps, c1, c2, F, r⟩ := c.ex
  exact ⟨f, fd, ps, c1, c2, F.mono h, r⟩
theorem kmet_of {P : Program} {w : World} {K : PySem.W.Frag} {mg : Str → Option Value} {base : Heap} {C f : Addr} {m x qual : Str} {st : Stmt} {dvs : List V} {kws : List (Str × V)} {ps : List Str} {k n : Nat} {ks : List Str} {l : List Ar} {sp : Sp} (c : Cls K C) (me : Meth K C m f) (d : ∃ fd, FunD K x qual (defArgs st) (defBody st) (defScope st) dvs kws f fd)
    (ok : ∀ fd, FunD K x qual (defArgs st) (defBody st) (defScope st) dvs kws f fd → FnOk P w K mg base (L2.CX P w) k f fd ps sp) (bi : ∀ fd, FunD K x qual (defArgs st) (defBody st) (defScope st) dvs kws f fd → KBa K fd ps (n + 1) ks l) : KMet P w K mg base k C m sp n ks l := by
  obtain ⟨fd, F⟩ := d
  exact ⟨f, fd, ps, c, me, ok fd F, bi fd F⟩
section
variable {X : Cx} {j k n : Nat} {C : Addr} {x m : Str} {sp : Sp} {p pos apos : Pos} {e o : Expr} {es : List Expr} {t tk : TA} {ta te : TE} {ks : List Str} {l : List Ar} {kws : List Keyword}
theorem pe_mkw {pl : Sem Bool} (c : KMet X.prog X.w X.K X.mg X.base k C m sp n ks l) (hr : Room j X.A) (hk : k ≤ j) (he : PE X o ta) (ha : PA X (e :: es) t) (hkw : PK X kws tk)
    (hall : (backToKw pos (keywordEach kws X.env)).all (·.1.isSome) = true := by rfl) (hks : (backToKw pos (keywordEach kws X.env)).filterMap (·.1) = ks := by rfl) (hst : starEach (e :: es) X.env = (false, eval e X.env) :: starEach es X.env := by rfl)
    (hpl : ((backTo pos (starEach (e :: es) X.env)).any (·.1) || (backToKw pos (keywordEach kws X.env)).any (·.1.isNone)) = false := by rfl)
    (ht : eval (.Call (.Attribute o m apos) (e :: es) kws pos) X.env = (do
      let ov ← eval o X.env
      standAt apos.atName
      let (f, first) ← holding [ov] (getMethod ov m pl)
      callWith pos f first (backTo pos (starEach (e :: es) X.env)) (backToKw pos (keywordEach kws X.env))) := by rfl) :
    PE X (.Call (.Attribute o m apos) (e :: es) kws pos) (tMethN C m n ks.length sp l E0 ta t tk) := by
  obtain ⟨f, fd, ps, c1, c2, F, b⟩ := c.ex
  exact pe_methN (pl := pl) he c1 c2 F (hr.mono hk) b passL ha hkw hall hks hst hpl ht
end
section
variable {σ : St} {H : Hp} {Q : VK} {C : Addr} {m : Str} {n k : Nat} {sp : Sp} {l : List Ar} {E : XK} {ta : TE} {t tk : TA} {vs zs us : List V}
def LenR (n k : Nat) (vs zs : List V) (P : Prop) : Prop := vs.length = n ∧ zs.length = k ∧ P
theorem w_methN (h : ta σ H fun x H1 => MethR C m x H1 (t σ H1 fun vs H2 => tk σ H2 fun zs H3 => LenR n k vs zs (sp (arV l ((x :: vs) ++ zs)) H3 Q E))) : tMethN C m n k sp l E ta t tk σ H Q := h
theorem w_len {P : Prop} (h1 : vs.length = n) (h2 : zs.length = k) (h : P) : LenR n k vs zs P := ⟨h1, h2, h⟩
theorem w_arV {ws : List V} (e : arV l ws = us) (h : sp us H Q E) : sp (arV l ws) H Q E := by rw [e]; exact h
end

def tMakeZ (C : Addr) (n m : Nat) (sp : Sp) (l : List Ar) (E : XK) (t tk : TA) : TE := fun σ H Q => t σ H fun vs H1 => tk σ H1 fun zs H2 => LenR n m vs zs (MakeR C sp (fun x => arV l ((x :: vs) ++ zs)) E H2 Q)
def tCallZ (n m : Nat) (sp : Sp) (l : List Ar) (E : XK) (t tk : TA) : TE := fun σ H Q => t σ H fun vs H1 => tk σ H1 fun zs H2 => LenR n m vs zs (sp (arV l (vs ++ zs)) H2 Q E)
structure KCal (P : Program) (w : World) (K : PySem.W.Frag) (mg : Str → Option Value) (base : Heap) (k : Nat) (x : Str) (sp : Sp) (n : Nat) (ks : List Str) (l : List Ar) : Prop where
  ex : ∃ (f : Addr) (fd : FuncData) (ps : List Str), FnOk P w K mg base (L2.CX P w) k f fd ps sp ∧ mg x = some (.ref f) ∧ PySem.W.keepIn K (.ref f) = true ∧ KBa K fd ps n ks l
structure KMak (P : Program) (w : World) (K : PySem.W.Frag) (mg : Str → Option Value) (base : Heap) (k : Nat) (x : Str) (C : Addr) (sp : Sp) (n : Nat) (ks : List Str) (l : List Ar) : Prop where
  ex : ∃ (f : Addr) (fd : FuncData) (ps : List Str), Mk K C f ∧ FnOk P w K mg base (L2.CX P w) k f fd ps sp ∧ mg x = some (.ref C) ∧ KBa K fd ps (n + 1) ks l
section
variable {P : Program} {w : World} {K : PySem.W.Frag} {mg : Str → Option Value} {base : Heap} {k j n : Nat} {x qual : Str} {C f : Addr} {sp : Sp} {ks : List Str} {l : List Ar} {st : Stmt} {dvs : List V} {kws : List (Str × V)} {ps : List Str}
theorem KCal.mono (c : KCal P w K mg base k x sp n ks l) (h : k ≤ j) : KCal P w K mg base j x sp n ks l := by
  obtain ⟨f, fd, ps, F, r⟩ := c.ex
  exact ⟨f, fd, ps, F.mono h, r⟩
theorem KMak.mono (c : KMak P w K mg base k x C sp n ks l) (h : k ≤ j) : KMak P w K mg base j x C sp n ks l := by
  obtain ⟨f, fd, ps, c1, F, r⟩ := c.ex
  exact ⟨f, fd, ps, c1, F.mono h, r⟩
theorem kmak_of {cx : Str} (M : Mk K C f) (hm : mg cx = some (.ref C)) (d : ∃ fd, FunD K x qual (defArgs st) (defBody st) (defScope st) dvs kws f fd)
    (ok : ∀ fd, FunD K x qual (defArgs st) (defBody st) (defScope st) dvs kws f fd → FnOk P w K mg base (L2.CX P w) k f fd ps sp) (bi : ∀ fd, FunD K x qual (defArgs st) (defBody st) (defScope st) dvs kws f fd → KBa K fd ps (n + 1) ks l) : KMak P w K mg base k cx C sp n ks l := by
  obtain ⟨fd, F⟩ := d
  exact ⟨f, fd, ps, M, ok fd F, hm, bi fd F⟩
structure Dfk (K : PySem.W.Frag) (mg : Str → Option Value) (x : Str) (st : Stmt) (dvs : List V) (kws : List (Str × V)) : Prop where
  ex : ∃ f fd, Dfn K mg x st dvs kws f fd
theorem cal_of (d : ∃ f fd, Dfn K mg x st dvs kws f fd) (ok : ∀ f fd, FunD K x x (defArgs st) (defBody st) (defScope st) dvs kws f fd → FnOk P w K mg base (L2.CX P w) k f fd ps sp) {dvs' : List V}
    (bi : ∀ f fd, FunD K x x (defArgs st) (defBody st) (defScope st) dvs kws f fd → ∃ ds, Vals dvs' ds ∧ Binds K fd ps ds) : Cal P w K mg base k x sp dvs' := by
  obtain ⟨f, fd, F, hm⟩ := d
  obtain ⟨ds, h1, h2⟩ := bi f fd F
  exact ⟨f, fd, ps, ds, ok f fd F, hm, F.kp, h2, h1⟩
theorem kcal_of (d : ∃ f fd, Dfn K mg x st dvs kws f fd) (ok : ∀ f fd, FunD K x x (defArgs st) (defBody st) (defScope st) dvs kws f fd → FnOk P w K mg base (L2.CX P w) k f fd ps sp)
    (bi : ∀ f fd, FunD K x x (defArgs st) (defBody st) (defScope st) dvs kws f fd → KBa K fd ps n ks l) : KCal P w K mg base k x sp n ks l := by
  obtain ⟨f, fd, F, hm⟩ := d
  exact ⟨f, fd, ps, ok f fd F, hm, F.kp, bi f fd F⟩
end
section
variable {X : Cx} {j k n : Nat} {C : Addr} {x m : Str} {sp : Sp} {p pos : Pos} {e : Expr} {es : List Expr} {t tk : TA} {ks : List Str} {l : List Ar} {kws : List Keyword}
theorem pe_ckw (c : KCal X.prog X.w X.K X.mg X.base k x sp n ks l) (hr : Room j X.A) (hk : k ≤ j) (hg : Gl X x) (ha : PA X (e :: es) t) (hkw : PK X kws tk)
    (hall : (backToKw pos (keywordEach kws X.env)).all (·.1.isSome) = true := by rfl) (hks : (backToKw pos (keywordEach kws X.env)).filterMap (·.1) = ks := by rfl) (hdb : (x == ("__debug__" : Str)) = false := by decide)
    (he : starEach (e :: es) X.env = (false, eval e X.env) :: starEach es X.env := by rfl) (hpl : ((backTo pos (starEach (e :: es) X.env)).any (·.1) || (backToKw pos (keywordEach kws X.env)).any (·.1.isNone)) = false := by rfl) :
    PE X (.Call (.Name x p) (e :: es) kws pos) (tCallZ n ks.length sp l E0 t tk) := by
  obtain ⟨f, fd, ps, F, hm, kp, b⟩ := c.ex
  obtain ⟨g, b⟩ := b.kbn
  exact pe_callN F (hr.mono hk) hg hm kp b passL ha hkw hall hks hdb he hpl
theorem pe_kkw (c : KMak X.prog X.w X.K X.mg X.base k x C sp n ks l) (hr : Room j X.A) (hk : k + 1 ≤ j) (hg : Gl X x) (ha : PA X (e :: es) t) (hkw : PK X kws tk)
    (hall : (backToKw pos (keywordEach kws X.env)).all (·.1.isSome) = true := by rfl) (hks : (backToKw pos (keywordEach kws X.env)).filterMap (·.1) = ks := by rfl) (hdb : (x == ("__debug__" : Str)) = false := by decide)
    (he : starEach (e :: es) X.env = (false, eval e X.env) :: starEach es X.env := by rfl) (hpl : ((backTo pos (starEach (e :: es) X.env)).any (·.1) || (backToKw pos (keywordEach kws X.env)).any (·.1.isNone)) = false := by rfl) :
    PE X (.Call (.Name x p) (e :: es) kws pos) (tMakeZ C n ks.length sp l E0 t tk) := by
  obtain ⟨f, fd, ps, M, F, hm, b⟩ := c.ex
  obtain ⟨g, b⟩ := b.kbn
  exact pe_makeK M F (hr.mono hk) hg hm b passL ha hkw hall hks hdb he hpl
theorem pe_kkw0 (c : KMak X.prog X.w X.K X.mg X.base k x C sp 0 ks l) (hr : Room j X.A) (hk : k + 1 ≤ j) (hg : Gl X x) (hkw : PK X kws tk)
    (hall : (backToKw pos (keywordEach kws X.env)).all (·.1.isSome) = true := by rfl) (hks : (backToKw pos (keywordEach kws X.env)).filterMap (·.1) = ks := by rfl) (hdb : (x == ("__debug__" : Str)) = false := by decide)
    (hpl : ((backTo pos (starEach [] X.env)).any (·.1) || (backToKw pos (keywordEach kws X.env)).any (·.1.isNone)) = false := by rfl) :
    PE X (.Call (.Name x p) [] kws pos) (tMakeZ C 0 ks.length sp l E0 tNil tk) := by
  obtain ⟨f, fd, ps, M, F, hm, b⟩ := c.ex
  obtain ⟨g, b⟩ := b.kbn
  exact pe_makeK0 M F (hr.mono hk) hg hm b passL hkw hall hks hdb hpl
end
section
variable {σ : St} {H : Hp} {Q : VK} {C : Addr} {n m : Nat} {sp : Sp} {l : List Ar} {E : XK} {t tk : TA}
theorem w_makeZ (h : t σ H fun vs H1 => tk σ H1 fun zs H2 => LenR n m vs zs (MakeR C sp (fun x => arV l ((x :: vs) ++ zs)) E H2 Q)) : tMakeZ C n m sp l E t tk σ H Q := h
theorem w_callZ (h : t σ H fun vs H1 => tk σ H1 fun zs H2 => LenR n m vs zs (sp (arV l (vs ++ zs)) H2 Q E)) : tCallZ n m sp l E t tk σ H Q := h
end

theorem menu_bd {ns : List Int} {B : Int} {i : Nat} (hB : 0 ≤ B) (h : ∀ x ∈ ns, 0 ≤ x ∧ x ≤ B) : 0 ≤ ns.getD i 0 ∧ ns.getD i 0 ≤ B := by
  unfold List.getD
  cases e : ns[i]? with
  | none => exact ⟨Int.le_refl _, hB⟩
  | some x => exact h x (List.mem_of_getElem? e)

theorem w_decF {p : Prop} [Decidable p] {A B : Prop} (n : ¬ p) (h : B) : if decide p = true then A else B := by
  rw [decide_eq_false n]; exact h
theorem w_ndecF {p : Prop} [Decidable p] {A B : Prop} (n : ¬ p) (h : A) : if (!decide p) = true then A else B := by
  rw [decide_eq_false n]; exact h

theorem hl_assoc (a b c : HL) : (a ++ b) ++ c = a ++ (b ++ c) := List.append_assoc a b c
end Z

set_option Elab.async false
set_option linter.all false
set_option maxRecDepth 100000
set_option maxHeartbeats 4000000
set_option pp.maxSteps 400
namespace Zl
open PySem PySem.Spec L2 Z
set_option hygiene false
local macro_rules | `(tactic| wtm_at "zpk1") => `(tactic| first | with_reducible exact Pk.here | with_reducible exact Pk.only | (with_reducible apply Pk.there; wtm_at "zpk1"))
local macro_rules | `(tactic| wtm_at "zpkU") => `(tactic| fail "no block")
local macro_rules | `(tactic| wtm_at "zun1") => `(tactic| fail "none")
local macro_rules | `(tactic| wtm_at "zpk") => `(tactic| first | wtm_at "zpk1" | wtm_at "zpkU")
local macro_rules | `(tactic| wtm_at "zga") => `(tactic| first | with_reducible exact GetAt.z | (apply GetAt.s; wtm_at "zga"))
local macro_rules | `(tactic| wtm_at "zsa") => `(tactic| first | with_reducible exact SetAt.z | (apply SetAt.s; wtm_at "zsa"))
local macro_rules | `(tactic| wtm_at "zgi") => `(tactic| first | with_reducible exact GetI.z | (apply GetI.s; wtm_at "zgi"))
local macro_rules | `(tactic| wtm_at "zpi") => `(tactic| first | with_reducible exact PutI.z | (apply PutI.s; wtm_at "zpi"))
local macro_rules | `(tactic| wtm_at "zii") => `(tactic| first | with_reducible exact Ints.nil | with_reducible exact Ints.map | (apply Ints.cons; wtm_at "zii"))
local macro_rules | `(tactic| wtm_at "zsub") => `(tactic| first | with_reducible exact Sub.all | with_reducible exact Sub.nil | (with_reducible apply Sub.cons; (· wtm_at "zpk"); wtm_at "zsub") | (with_reducible apply Sub.one; wtm_at "zpk"))
local macro_rules | `(tactic| wtm_at "zown") => `(tactic| (refine Own.sub O ?_; wtm_at "zsub"))
local macro_rules | `(tactic| wtm_at "zsd") => `(tactic| first | omega | decide | (simp only [List.length_map, List.length_append, List.length_cons, List.length_nil, List.length_replicate, List.length_set, List.length_take, List.length_drop]; omega) | assumption | rfl | (split <;> omega) | (intro x hx; simp only [List.mem_cons, List.not_mem_nil, or_false] at hx; omega) | exact Int.emod_nonneg _ (by omega) | exact Int.emod_lt_of_pos _ (by omega))
local macro_rules | `(tactic| wtm_at "znw") => `(tactic| (intro q H₁ O₁; clear O; (try clear H); revert H₁; intro H O))
local macro_rules | `(tactic| wtm_at "znx") => `(tactic| (intro H₁ O₁; clear O; (try clear H); revert H₁; intro H O))
local macro_rules | `(tactic| wtm_at "zc1") => `(tactic| first
  | with_reducible refine w_decR ?_ | with_reducible refine w_ndecR ?_ | with_reducible refine w_ndec2R ?_ | with_reducible refine w_T ?_ | with_reducible refine w_F ?_ | with_reducible refine w_nT ?_ | with_reducible refine w_nF ?_
  | (with_reducible apply w_decF; (· decide +kernel)) | (with_reducible apply w_ndecF; (· decide +kernel))
  | (with_reducible apply w_dec; (· (intro h; exfalso; omega)); intro _) | (with_reducible apply w_dec; rotate_left; (· (intro h; exfalso; omega)); intro _)
  | (with_reducible apply w_dec <;> intro h <;> try simp only [Int.reduceToNat, Int.reducePow, List.mem_cons, List.not_mem_nil, or_false, not_or] at h)
  | (with_reducible apply w_ndec; (· (intro h; exfalso; omega)); intro _) | (with_reducible apply w_ndec; rotate_left; (· (intro h; exfalso; omega)); intro _)
  | (with_reducible apply w_ndec <;> intro h <;> try simp only [List.mem_cons, List.not_mem_nil, or_false, not_or] at h)
  | (with_reducible apply w_ndec2 <;> intro h <;> try simp only [List.mem_cons, List.not_mem_nil, or_false, not_or] at h))
local macro_rules | `(tactic| wtm_at "zs1") => `(tactic| first | with_reducible refine w_seq ?_ | wtm_at "zs0" | fail "z")
local macro_rules | `(tactic| wtm_at "zn") => `(tactic| ((with_reducible refine w_seq ?_); repeat' wtm_at "zs0"))
local macro_rules | `(tactic| wtm_at "zs0") => `(tactic| first
  | with_reducible refine w_asg ?_ | with_reducible refine w_ifs ?_ | with_reducible refine w_ret ?_ | with_reducible refine w_drop ?_ | with_reducible refine w_next ?_
  | (with_reducible apply w_gname; (· wtm_at "zsa")) | with_reducible refine w_gsub ?_
  | (with_reducible apply w_var; (· wtm_at "zga")) | with_reducible refine w_c ?_ | with_reducible refine w_op ?_ | with_reducible refine w_un ?_
  | with_reducible refine w_test ?_ | with_reducible refine w_bl ?_ | with_reducible refine w_and ?_ | with_reducible refine w_or ?_ | with_reducible refine w_not ?_ | with_reducible refine w_if ?_
  | with_reducible refine w_tru ?_ | with_reducible refine w_truB ?_ | with_reducible refine w_anil ?_ | with_reducible refine w_acons ?_ | with_reducible refine w_cb ?_ | with_reducible refine w_call ?_ | with_reducible refine w_callD ?_
  | with_reducible refine w_for ?_ | with_reducible refine w_iRng1 ?_ | with_reducible refine w_iRng2 ?_ | with_reducible refine w_iList ?_ | with_reducible refine w_iTup ?_ | with_reducible refine w_lc ?_ | with_reducible refine w_andT ?_ | with_reducible refine w_orT ?_ | with_reducible refine w_notT ?_ | with_reducible refine w_tyes ?_ | (refine w_wipe ?_ ?_; (· exact rfl))
  | with_reducible refine w_chain ?_ | with_reducible refine w_fld ?_ | with_reducible refine w_sfld ?_ | with_reducible refine w_meth ?_ | with_reducible refine w_make ?_ | with_reducible refine w_iEnum ?_ | with_reducible refine w_nonE ?_ | with_reducible refine w_gcons ?_ | with_reducible refine w_gnil ?_
  | with_reducible refine w_tup ?_ | with_reducible refine w_lst ?_
  | wtm_at "zc1" | wtm_at "zs2" | fail "z1")
local macro_rules | `(tactic| wtm_at "zs2") => `(tactic| first
  | with_reducible refine w_addI ?_ | with_reducible refine w_subI ?_ | with_reducible refine w_neg ?_
  | (with_reducible apply w_mulI; (· omega)) | (with_reducible apply w_div; (· omega); (· omega)) | (with_reducible apply w_modI; (· omega)) | (with_reducible apply w_powI; (· decide); (· decide); (· omega); (· omega))
  | with_reducible refine w_lt ?_ | with_reducible refine w_le ?_ | with_reducible refine w_gt ?_ | with_reducible refine w_ge ?_
  | with_reducible refine w_eqI ?_ | with_reducible refine w_neI ?_ | with_reducible refine w_eqS ?_ | with_reducible refine w_neS ?_ | with_reducible refine w_eqB ?_ | with_reducible refine w_neB ?_
  | with_reducible refine w_isN ?_ | with_reducible refine w_isR ?_ | with_reducible refine w_isI ?_ | with_reducible refine w_nisN ?_ | with_reducible refine w_nisR ?_ | with_reducible refine w_nisI ?_
  | with_reducible refine w_max ?_ | with_reducible refine w_min ?_ | with_reducible refine w_intI ?_ | with_reducible refine w_intB ?_
  | with_reducible refine w_part ?_ | with_reducible refine w_partI ?_ | with_reducible refine w_npart ?_ | with_reducible refine w_sl ?_ | with_reducible refine w_bm ?_ | with_reducible refine w_bm0 ?_
  | wtm_at "zs3" | fail "z2")
local macro_rules | `(tactic| wtm_at "zs3") => `(tactic| first
  | (with_reducible apply w_ixC O; (· wtm_at "zpk"); (· wtm_at "zgi")) | (with_reducible apply w_ixCT O; (· wtm_at "zpk"); (· wtm_at "zgi")) | (with_reducible apply w_ixCL O; (· wtm_at "zpk"); (· wtm_at "zgi"))
  | (with_reducible apply w_setC O; (· wtm_at "zpk"); (· wtm_at "zpi"); wtm_at "znx")
  | (with_reducible apply w_ixI O; (· wtm_at "zpk"); (· wtm_at "zsd"); (· wtm_at "zsd"))
  | (with_reducible apply w_setI O; (· wtm_at "zpk"); (· wtm_at "zsd"); (· wtm_at "zsd"); wtm_at "znx")
  | (with_reducible apply w_newI (O := O); (· wtm_at "zii"); (· wtm_at "zsd"); wtm_at "znw")
  | (with_reducible apply w_lenI O; (· wtm_at "zpk")) | (with_reducible apply w_list O; (· wtm_at "zpk"); wtm_at "znw")
  | (with_reducible apply w_addLI O; (· wtm_at "zpk"); (· wtm_at "zpk"); (· wtm_at "zsd"); wtm_at "znw")
  | (with_reducible apply w_repI O; (· wtm_at "zpk"); (· wtm_at "zsd"); (· wtm_at "zsd"); wtm_at "znw")
  | (with_reducible apply w_slTake O; (· wtm_at "zpk"); (· wtm_at "zsd"); wtm_at "znw") | (with_reducible apply w_slDrop O; (· wtm_at "zpk"); (· wtm_at "zsd"); wtm_at "znw") | (with_reducible apply w_slMid O; (· wtm_at "zpk"); (· wtm_at "zsd"); (· wtm_at "zsd"); wtm_at "znw") | (with_reducible apply w_slI O; (· wtm_at "zpk"); wtm_at "znw")
  | (with_reducible apply w_tyL O; (· wtm_at "zpk")) | (with_reducible apply w_appI O; (· wtm_at "zpk"); (· wtm_at "zsd"); wtm_at "znx")
  | (with_reducible apply w_eqL O; (· wtm_at "zpk"); (· wtm_at "zpk")) | (with_reducible apply w_neL O; (· wtm_at "zpk"); (· wtm_at "zpk"))
  | (with_reducible apply w_isiL (c := true) O; (· wtm_at "zpk"); (· decide +kernel)) | (with_reducible apply w_isiT (c := true) O; (· wtm_at "zpk"); (· decide +kernel)) | (with_reducible apply w_isiI (c := true); (· decide +kernel)) | (with_reducible apply w_isiS (c := true); (· decide +kernel)) | (with_reducible apply w_isiN (c := true); (· decide +kernel)) | (with_reducible apply w_isiB (c := true); (· decide +kernel)) | (with_reducible apply w_isiL (c := false) O; (· wtm_at "zpk"); (· decide +kernel)) | (with_reducible apply w_isiT (c := false) O; (· wtm_at "zpk"); (· decide +kernel)) | (with_reducible apply w_isiI (c := false); (· decide +kernel)) | (with_reducible apply w_isiS (c := false); (· decide +kernel)) | (with_reducible apply w_isiN (c := false); (· decide +kernel)) | (with_reducible apply w_isiB (c := false); (· decide +kernel))
  | (with_reducible apply w_rng1; (· wtm_at "zsd"); (· wtm_at "zsd")) | (with_reducible apply w_rng2; (· wtm_at "zsd"); (· wtm_at "zsd"); (· wtm_at "zsd"); (· wtm_at "zsd"))
  | (with_reducible apply w_itL O; (· wtm_at "zpk")) | (with_reducible apply w_itT O; (· wtm_at "zpk"))
  | (with_reducible apply w_ixScr hS O; (· wtm_at "zpk"); (· wtm_at "zsd"); (· wtm_at "zsd")) | (with_reducible apply w_lenScr hS O; (· wtm_at "zpk"))
  | (with_reducible apply w_all O; (· wtm_at "zpk")) | (with_reducible apply w_any O; (· wtm_at "zpk"))
  | (with_reducible apply w_fldR O; (· wtm_at "zpk"); (· wtm_at "zfg"); (· wtm_at "zcls"); (· wtm_at "zno"))
  | (with_reducible apply w_sfldR O; (· wtm_at "zpk"); (· wtm_at "zfp"); (· wtm_at "zcls"); (· wtm_at "zno"); (· wtm_at "zsd"); wtm_at "znx")
  | (with_reducible apply w_methR O; (· wtm_at "zpk"); (· wtm_at "zfn"))
  | (with_reducible apply w_makeR O; intro x dx H₁ O₁; clear O; (try clear H); revert H₁; intro H O)
  | ((with_reducible apply w_gtup O); (· wtm_at "zpk"); (· rfl)) | (with_reducible apply w_enR O; (· wtm_at "zpk"))
  | (with_reducible apply w_newT (O := O); (· wtm_at "zsd"); wtm_at "znw")
  | (with_reducible apply w_sa; (· wtm_at "zap")) | (with_reducible apply w_sa0; (· wtm_at "zap")) | ((with_reducible apply w_lcRc O); (· exact rfl); (· wtm_at "zsd"); wtm_at "znw")
  | ((with_reducible refine w_fldG ?_); wtm_at "zun1") | ((with_reducible refine w_sfldG ?_); wtm_at "zun1") | ((with_reducible refine w_methG ?_); wtm_at "zun1")
  | (with_reducible apply w_inI O; (· wtm_at "zpk")) | (with_reducible apply w_inT O; (· wtm_at "zpk"); (· wtm_at "zii")) | (with_reducible apply w_ninI O; (· wtm_at "zpk")) | (with_reducible apply w_ninT O; (· wtm_at "zpk"); (· wtm_at "zii"))
  | (with_reducible apply w_idxI O; (· wtm_at "zpk"); (· wtm_at "zsd")) | (with_reducible apply w_extI O; (· wtm_at "zpk"); (· wtm_at "zpk"); (· wtm_at "zsd"); wtm_at "znx") | (with_reducible apply w_clr O; (· wtm_at "zpk"); wtm_at "znx")
  | with_reducible refine w_methN ?_ | with_reducible refine w_makeZ ?_ | with_reducible refine w_callZ ?_ | ((with_reducible apply w_len); (· exact rfl); (· exact rfl)) | ((with_reducible apply w_arV); (· (dsimp only [arV, nthV, List.map, List.cons_append, List.nil_append]; try exact rfl)))
  | wtm_at "zcall" | fail "z3")
local macro_rules | `(tactic| wtm_at "zap") => `(tactic| first | with_reducible exact App.nil | (apply App.cons; wtm_at "zap"))
local macro_rules | `(tactic| wtm_at "zun") => `(tactic| skip)
local macro_rules | `(tactic| wtm_at "zunG") => `(tactic| skip)
/-- the end of a def: its promise k answers -/
local macro_rules | `(tactic| wtm_at "zk0") => `(tactic| (wtm_at "zunG"; (with_reducible apply k); (· wtm_at "zown"); all_goals first | wtm_at "zsd" | skip))
local macro_rules | `(tactic| wtm_at "zk") => `(tactic| first | ((rw [decide_eq_true rfl]); wtm_at "zk0") | wtm_at "zk0")
local macro_rules | `(tactic| wtm_at "zfg") => `(tactic| first | with_reducible exact FGet.z | (apply FGet.s; (· decide +kernel); wtm_at "zfg"))
local macro_rules | `(tactic| wtm_at "zfn") => `(tactic| first | with_reducible exact FNo.z | (apply FNo.s; (· decide +kernel); wtm_at "zfn"))
local macro_rules | `(tactic| wtm_at "zfp") => `(tactic| first | with_reducible exact FPut.n | with_reducible exact FPut.z | (apply FPut.s; (· decide +kernel); wtm_at "zfp"))
/-- a comprehension of bools over ints: the goal is the turn -/
local macro_rules | `(tactic| wtm_at "zlcB") => `(tactic| (with_reducible apply w_lcB O; (· wtm_at "zpk"); (· wtm_at "zsd"); (· intro i x D H₁ Qe hx O₁ hk Nx; clear O; revert H₁; intro H O; dsimp only [wipe, List.map, List.set]; wtm_at "zgo"; exact hk _ O); wtm_at "znw"))
local macro_rules | `(tactic| wtm_at "zgo") => `(tactic| repeat' wtm_at "zs1")

local macro_rules | `(tactic| wtm_at "zm") => `(tactic| repeat' wtm_at "zs0")
/-- an invariant: the names, then what is owned, then the rest -/
local macro_rules | `(tactic| wtm_at "zinv") => `(tactic| ((repeat (with_reducible apply Exists.intro)); (with_reducible refine And.intro rfl (And.intro ?_ ?_)); (· wtm_at "zown"); try omega))

/-- the i-th statement of the top -/
def top (i : Nat) : Stmt := PySem.Challenge.pw_sipstack_k21_plain_seek_and_cut.main.body.getD i (.Pass ⟨0, 0, 0, 0⟩)
abbrev s_is_byte : Stmt := top 11
abbrev s_count_asked : Stmt := top 12
abbrev s_bytes_asked : Stmt := top 13
abbrev s_length_asked : Stmt := top 14
abbrev s_goal_asked : Stmt := top 15
abbrev s_goal_of : Stmt := top 16
abbrev s_laid : Stmt := top 18
abbrev s__law_pool : Stmt := top 23
abbrev s__law_take : Stmt := top 24
abbrev s__law_bytes : Stmt := top 25
abbrev s__law_fits : Stmt := top 26
abbrev s__law_goal : Stmt := top 27
abbrev s__law_sought : Stmt := top 28
abbrev s__law_cut : Stmt := top 29
abbrev s_law : Stmt := top 30
abbrev s_Plain___init__ : Stmt := inClass (top 21) 0
abbrev s_Plain_write : Stmt := inClass (top 21) 5
abbrev s_Plain_seek : Stmt := inClass (top 21) 6
abbrev s_Plain_tell : Stmt := inClass (top 21) 7
abbrev s_Plain_size : Stmt := inClass (top 21) 8
abbrev s_Plain_cut : Stmt := inClass (top 21) 9
abbrev s_Plain_row : Stmt := inClass (top 21) 10
theorem sc_is_byte : FnScope ["thing"] ["thing"] (defScope s_is_byte) := ⟨rfl, rfl, rfl, by decide +kernel, rfl, by decide +kernel, by decide +kernel⟩
theorem sc_count_asked : FnScope ["many"] ["many"] (defScope s_count_asked) := ⟨rfl, rfl, rfl, by decide +kernel, rfl, by decide +kernel, by decide +kernel⟩
theorem sc_bytes_asked : FnScope ["data", "at", "thing"] ["data"] (defScope s_bytes_asked) := ⟨rfl, rfl, rfl, by decide +kernel, rfl, by decide +kernel, by decide +kernel⟩
theorem sc_length_asked : FnScope ["length"] ["length"] (defScope s_length_asked) := ⟨rfl, rfl, rfl, by decide +kernel, rfl, by decide +kernel, by decide +kernel⟩
theorem sc_goal_asked : FnScope ["goal"] ["goal"] (defScope s_goal_asked) := ⟨rfl, rfl, rfl, by decide +kernel, rfl, by decide +kernel, by decide +kernel⟩
theorem sc_goal_of : FnScope ["place", "start", "cursor", "length", "goal"] ["place", "start", "cursor", "length"] (defScope s_goal_of) := ⟨rfl, rfl, rfl, by decide +kernel, rfl, by decide +kernel, by decide +kernel⟩
theorem sc_laid : FnScope ["row", "place", "data", "filled"] ["row", "place", "data"] (defScope s_laid) := ⟨rfl, rfl, rfl, by decide +kernel, rfl, by decide +kernel, by decide +kernel⟩
theorem sc__law_pool : FnScope ["_law_script", "_law_at", "_law_cell", "_law_digits"] ["_law_script", "_law_at"] (defScope s__law_pool) := ⟨rfl, rfl, rfl, by decide +kernel, rfl, by decide +kernel, by decide +kernel⟩
theorem sc__law_take : FnScope ["_law_pool_here", "_law_wide", "_law_seed", "_law_found"] ["_law_pool_here", "_law_wide"] (defScope s__law_take) := ⟨rfl, rfl, rfl, by decide +kernel, rfl, by decide +kernel, by decide +kernel⟩
theorem sc__law_bytes : FnScope ["_law_pool_here", "_law_menu", "_law_found", "_law_k"] ["_law_pool_here", "_law_menu"] (defScope s__law_bytes) := ⟨rfl, rfl, rfl, by decide +kernel, rfl, by decide +kernel, by decide +kernel⟩
theorem sc__law_fits : FnScope ["_law_found", "_law_due", "_law_thing"] ["_law_found", "_law_due"] (defScope s__law_fits) := ⟨rfl, rfl, rfl, by decide +kernel, rfl, by decide +kernel, by decide +kernel⟩
theorem sc__law_goal : FnScope ["_law_pool_here", "_law_row", "_law_way"] ["_law_pool_here", "_law_row"] (defScope s__law_goal) := ⟨rfl, rfl, rfl, by decide +kernel, rfl, by decide +kernel, by decide +kernel⟩
theorem sc__law_sought : FnScope ["_law_file", "_law_way", "_law_goal_here", "_law_row", "_law_place"] ["_law_file", "_law_way", "_law_goal_here", "_law_row", "_law_place"] (defScope s__law_sought) := ⟨rfl, rfl, rfl, by decide +kernel, rfl, by decide +kernel, by decide +kernel⟩
theorem sc__law_cut : FnScope ["_law_file", "_law_way", "_law_goal_here"] ["_law_file", "_law_way", "_law_goal_here"] (defScope s__law_cut) := ⟨rfl, rfl, rfl, by decide +kernel, rfl, by decide +kernel, by decide +kernel⟩
theorem sc_law : FnScope ["_law_script", "_law_pool_here", "_law_row", "_law_place", "_law_file", "_law_k", "_law_way", "_law_goal_here", "_law_found", "_law_j"] ["_law_script"] (defScope s_law) := ⟨rfl, rfl, rfl, by decide +kernel, rfl, by decide +kernel, by decide +kernel⟩
theorem sc_Plain___init__ : FnScope ["self", "row", "place"] ["self", "row", "place"] (defScope s_Plain___init__) := ⟨rfl, rfl, rfl, by decide +kernel, rfl, by decide +kernel, by decide +kernel⟩
theorem sc_Plain_write : FnScope ["self", "data"] ["self", "data"] (defScope s_Plain_write) := ⟨rfl, rfl, rfl, by decide +kernel, rfl, by decide +kernel, by decide +kernel⟩
theorem sc_Plain_seek : FnScope ["self", "place", "start"] ["self", "place", "start"] (defScope s_Plain_seek) := ⟨rfl, rfl, rfl, by decide +kernel, rfl, by decide +kernel, by decide +kernel⟩
theorem sc_Plain_tell : FnScope ["self"] ["self"] (defScope s_Plain_tell) := ⟨rfl, rfl, rfl, by decide +kernel, rfl, by decide +kernel, by decide +kernel⟩
theorem sc_Plain_size : FnScope ["self"] ["self"] (defScope s_Plain_size) := ⟨rfl, rfl, rfl, by decide +kernel, rfl, by decide +kernel, by decide +kernel⟩
theorem sc_Plain_cut : FnScope ["self", "size", "goal"] ["self", "size"] (defScope s_Plain_cut) := ⟨rfl, rfl, rfl, by decide +kernel, rfl, by decide +kernel, by decide +kernel⟩
theorem sc_Plain_row : FnScope ["self"] ["self"] (defScope s_Plain_row) := ⟨rfl, rfl, rfl, by decide +kernel, rfl, by decide +kernel, by decide +kernel⟩
/-- what the top leaves -/
structure Txt (K : PySem.W.Frag) (mg : Str → Option Value) : Prop where
  f_all : mg "all" = none
  f_bool : mg "bool" = none
  f_enumerate : mg "enumerate" = none
  f_int : mg "int" = none
  f_isinstance : mg "isinstance" = none
  f_len : mg "len" = none
  f_list : mg "list" = none
  f_max : mg "max" = none
  f_min : mg "min" = none
  f_range : mg "range" = none
  c_GREATEST : ∃ t, mg "GREATEST" = some (.int 255 t)
  c_LONGEST : ∃ t, mg "LONGEST" = some (.int 4000 t)
  d_is_byte : ∃ f fd, Dfn K mg "is_byte" s_is_byte [] [] f fd
  d_count_asked : ∃ f fd, Dfn K mg "count_asked" s_count_asked [] [] f fd
  d_bytes_asked : ∃ f fd, Dfn K mg "bytes_asked" s_bytes_asked [] [] f fd
  d_length_asked : ∃ f fd, Dfn K mg "length_asked" s_length_asked [] [] f fd
  d_goal_asked : ∃ f fd, Dfn K mg "goal_asked" s_goal_asked [] [] f fd
  d_goal_of : ∃ f fd, Dfn K mg "goal_of" s_goal_of [] [] f fd
  d_laid : ∃ f fd, Dfn K mg "laid" s_laid [] [] f fd
  d__law_pool : ∃ f fd, Dfn K mg "_law_pool" s__law_pool [] [] f fd
  d__law_take : ∃ f fd, Dfn K mg "_law_take" s__law_take [] [] f fd
  d__law_bytes : ∃ f fd, Dfn K mg "_law_bytes" s__law_bytes [] [] f fd
  d__law_fits : ∃ f fd, Dfn K mg "_law_fits" s__law_fits [] [] f fd
  d__law_goal : ∃ f fd, Dfn K mg "_law_goal" s__law_goal [] [] f fd
  d__law_sought : ∃ f fd, Dfn K mg "_law_sought" s__law_sought [] [] f fd
  d__law_cut : ∃ f fd, Dfn K mg "_law_cut" s__law_cut [] [] f fd
  cl_Plain : Cls K (He.ga K "Plain")
  g_Plain : mg "Plain" = some (.ref (He.ga K "Plain"))
  mk_Plain : Mk K (He.ga K "Plain") (He.ma K (He.ga K "Plain") "__init__")
  na_Plain_stock : NoAttr K (He.ga K "Plain") "stock"
  na_Plain_cursor : NoAttr K (He.ga K "Plain") "cursor"
  me_Plain___init__ : Meth K (He.ga K "Plain") "__init__" (He.ma K (He.ga K "Plain") "__init__")
  fd_Plain___init__ : ∃ fd, FunD K "__init__" "Plain.__init__" (defArgs s_Plain___init__) (defBody s_Plain___init__) (defScope s_Plain___init__) [.int 0] [] (He.ma K (He.ga K "Plain") "__init__") fd
  me_Plain_write : Meth K (He.ga K "Plain") "write" (He.ma K (He.ga K "Plain") "write")
  fd_Plain_write : ∃ fd, FunD K "write" "Plain.write" (defArgs s_Plain_write) (defBody s_Plain_write) (defScope s_Plain_write) [] [] (He.ma K (He.ga K "Plain") "write") fd
  me_Plain_seek : Meth K (He.ga K "Plain") "seek" (He.ma K (He.ga K "Plain") "seek")
  fd_Plain_seek : ∃ fd, FunD K "seek" "Plain.seek" (defArgs s_Plain_seek) (defBody s_Plain_seek) (defScope s_Plain_seek) [] [("start", .str "head")] (He.ma K (He.ga K "Plain") "seek") fd
  me_Plain_cut : Meth K (He.ga K "Plain") "cut" (He.ma K (He.ga K "Plain") "cut")
  fd_Plain_cut : ∃ fd, FunD K "cut" "Plain.cut" (defArgs s_Plain_cut) (defBody s_Plain_cut) (defScope s_Plain_cut) [.non] [] (He.ma K (He.ga K "Plain") "cut") fd
  me_Plain_tell : Meth K (He.ga K "Plain") "tell" (He.ma K (He.ga K "Plain") "tell")
  fd_Plain_tell : ∃ fd, FunD K "tell" "Plain.tell" (defArgs s_Plain_tell) (defBody s_Plain_tell) (defScope s_Plain_tell) [] [] (He.ma K (He.ga K "Plain") "tell") fd
  me_Plain_size : Meth K (He.ga K "Plain") "size" (He.ma K (He.ga K "Plain") "size")
  fd_Plain_size : ∃ fd, FunD K "size" "Plain.size" (defArgs s_Plain_size) (defBody s_Plain_size) (defScope s_Plain_size) [] [] (He.ma K (He.ga K "Plain") "size") fd
  me_Plain_row : Meth K (He.ga K "Plain") "row" (He.ma K (He.ga K "Plain") "row")
  fd_Plain_row : ∃ fd, FunD K "row" "Plain.row" (defArgs s_Plain_row) (defBody s_Plain_row) (defScope s_Plain_row) [] [] (He.ma K (He.ga K "Plain") "row") fd
local macro_rules | `(tactic| wtm_at "zcls") => `(tactic| first | exact T.cl_Plain | fail "no class")
local macro_rules | `(tactic| wtm_at "zno") => `(tactic| first | exact T.na_Plain_stock | exact T.na_Plain_cursor | fail "no field")
section
variable {P : Program} {w : World} {K : PySem.W.Frag} {mg : Str → Option Value} {base : Heap}
/-! ### the law's pool and its draws -/
def pool (p : Addr) (d n c : Int) : HL := [(p, .lst ([d, n, c].map V.int))]
def sp__law_take (_ : PySem.W.Frag) : Sp := fun vs H Q _ => ∃ (p : Addr) (d n c w : Int) (F : HL), vs = [.ref p, .int w] ∧ 0 < w ∧ w < 4000000000 ∧ 0 ≤ d ∧ 0 ≤ n ∧ n < 4000000000 ∧ Own H (pool p d n c ++ F) ∧
  ∀ r d' n' H', 0 ≤ r → r < w → 0 ≤ d' → n ≤ n' → n' ≤ n + 1 → Own H' (pool p d' n' c ++ F) → Q (.int r) H'
theorem len__law_take {vs H Q E} (h : sp__law_take K vs H Q E) : vs.length = 2 := by
  obtain ⟨p, d, n, c, w, F, rfl, _⟩ := h
  rfl
theorem ap__law_take {H : Hp} {L F : HL} {Q : VK} {E : XK} {p : Addr} {d n c w : Int} (O : Own H L) (pk : Pk L (pool p d n c) F) (h1 : 0 < w) (h2 : w < 4000000000) (h3 : 0 ≤ d) (h4 : 0 ≤ n) (h5 : n < 4000000000)
    (k : ∀ r d' n', 0 ≤ r → r < w → 0 ≤ d' → n ≤ n' → n' ≤ n + 1 → ∀ H', Own H' (pool p d' n' c ++ F) → Q (.int r) H') : sp__law_take K [.ref p, .int w] H Q E :=
  ⟨p, d, n, c, w, F, rfl, h1, h2, h3, h4, h5, O.pk pk, fun r d' n' H' a1 a2 a3 a4 a5 O' => k r d' n' a1 a2 a3 a4 a5 H' O'⟩
def sp__law_pool (K : PySem.W.Frag) : Sp := fun vs H Q _ => ∃ (a : Addr) (t : Int) (ns : List Int) (S F : HL), vs = [.ref a, .int t] ∧ Scr K a ns S ∧ ns.length ≤ 63 ∧ 0 ≤ t ∧ t < 1000000 ∧ Own H (S ++ F) ∧
  ∀ p d c H', 0 ≤ d → Own H' (pool p d (1000 * t) c ++ (S ++ F)) → Q (.ref p) H'
theorem len__law_pool {vs H Q E} (h : sp__law_pool K vs H Q E) : vs.length = 2 := by
  obtain ⟨a, t, ns, S, F, rfl, _⟩ := h
  rfl
theorem ap__law_pool {H : Hp} {L S F : HL} {Q : VK} {E : XK} {a : Addr} {t : Int} {ns : List Int} (O : Own H L) (hS : Scr K a ns S) (hl : ns.length ≤ 63) (pk : Pk L S F) (h1 : 0 ≤ t) (h2 : t < 1000000)
    (k : ∀ p d c, 0 ≤ d → ∀ H', Own H' (pool p d (1000 * t) c ++ (S ++ F)) → Q (.ref p) H') : sp__law_pool K [.ref a, .int t] H Q E :=
  ⟨a, t, ns, S, F, rfl, hS, hl, h1, h2, O.pk pk, fun p d c H' a1 O' => k p d c a1 H' O'⟩
theorem ok__law_take (T : Txt K mg) : Cal P w K mg base 1 "_law_take" (sp__law_take K) [] := by

  refine cal_nox T.d__law_take sc__law_take (fun _ _ _ _ _ _ us hl => match us, hl with | [_, _], _ => rfl) (fun vs H Q E h => len__law_take h) (fun cdv A outer s f H vs Q E hr h => ?_)
  refine ⟨_, (pss_cons (ps_if (pt_cmpR op_zGt (pe_ix ix_seq (pv 0) pe_int (fun _ _ => rfl)) pe_int (nomark _))
      (pss_cons (ps_set (i := 3) sc__law_take.nd rfl (Or.inl rfl) (pe_op op_zMod (pe_ix ix_seq (pv 0) pe_int (fun _ _ => rfl)) (pv 1)))
      (pss_cons (ps_asg (pe_op op_zDiv (pe_ix ix_seq (pv 0) pe_int (fun _ _ => rfl)) (pv 1)) (pg_sub (pv 0) pe_int set_list))
      (pss_one (ps_ret (pv 3)))))
      pss_nil)
      (pss_cons (ps_asg (pe_op op_zAdd (pe_ix ix_seq (pv 0) pe_int (fun _ _ => rfl)) pe_int) (pg_sub (pv 0) pe_int set_list))
      (pss_cons (ps_set (i := 2) sc__law_take.nd rfl (Or.inl rfl) (pe_op op_zMod (pe_op op_zPow (pe_op op_zAdd (pe_op op_zMod (pe_ix ix_seq (pv 0) pe_int (fun _ _ => rfl)) pe_int) (pe_op op_zMul pe_int (pe_ix ix_seq (pv 0) pe_int (fun _ _ => rfl)))) pe_int) pe_int))
      (pss_cons (ps_set (i := 2) sc__law_take.nd rfl (Or.inl rfl) (pe_op op_zAdd (pe_op op_zMul (pv 2) pe_int) (pe_op op_zMul (pe_op op_zMul (pe_ix ix_seq (pv 0) pe_int (fun _ _ => rfl)) (pe_ix ix_seq (pv 0) pe_int (fun _ _ => rfl))) pe_int)))
      (pss_one (ps_ret (pe_op op_zMod (pe_op op_zDiv (pe_op op_zMod (pe_op op_zAdd (pv 2) (pe_op op_zDiv (pe_ix ix_seq (pv 0) pe_int (fun _ _ => rfl)) pe_int)) pe_int) pe_int) (pv 1)))))))), ?_⟩
  try dsimp only [cxOf]
  obtain ⟨p, d, n, c, w, F, rfl, hw, hw2, hd, hn, hn2, O, k⟩ := h
  unfold pool at O
  refine w_start (σ := [some (.ref p), some (.int w), none, none]) rfl ?_
  wtm_at "zgo"
  · exact k _ _ _ _ (Int.emod_nonneg _ (by omega)) (Int.emod_lt_of_pos _ hw) (Int.ediv_nonneg hd (by omega)) (by omega) (by omega) O
  · have h5 := Int.emod_nonneg c (show (2147483647 : Int) ≠ 0 by decide)
    have h6 := Int.emod_lt_of_pos c (show (0 : Int) < 2147483647 by decide)
    wtm_at "zgo"
    exact k _ _ _ _ (Int.emod_nonneg _ (by omega)) (Int.emod_lt_of_pos _ hw) hd (by omega) (by omega) O
local macro_rules | `(tactic| wtm_at "zcall") => `(tactic| (with_reducible apply ap__law_take O; (· wtm_at "zpk"); (· omega); (· omega); (· omega); (· omega); (· omega); intro r d n h1 h2 h3 h4 h5; wtm_at "znx"))
theorem ok__law_pool (T : Txt K mg) : Cal P w K mg base 1 "_law_pool" (sp__law_pool K) [] := by

  refine cal_nox T.d__law_pool sc__law_pool (fun _ _ _ _ _ _ us hl => match us, hl with | [_, _], _ => rfl) (fun vs H Q E h => len__law_pool h) (fun cdv A outer s f H vs Q E hr h => ?_)
  refine ⟨_, (pss_cons (ps_set (i := 2) sc__law_pool.nd rfl (Or.inl rfl) pe_int)
      (pss_cons (ps_if (pt_cmpR op_zGt (pe_callB call_zLen rfl T.f_len bt_len (pa_cons (pv 0) pa_nil)) pe_int (nomark _))
      (pss_one (ps_set (i := 2) sc__law_pool.nd rfl (Or.inl rfl) (pe_ix ix_seq (pv 0) (pe_op op_zMod (pv 1) (pe_callB call_zLen rfl T.f_len bt_len (pa_cons (pv 0) pa_nil))) (fun _ _ => rfl))))
      pss_nil)
      (pss_cons (ps_set (i := 3) sc__law_pool.nd rfl (Or.inl rfl) pe_int)
      (pss_cons (ps_if (PW.pt (pw_and (pt_cmpR op_zGe (pv 2) (pe_op op_zPow pe_int pe_int) (nomark _)) (pw_and1 (pt_cmpR op_zLt (pv 1) (pe_callB call_zLen rfl T.f_len bt_len (pa_cons (pv 0) pa_nil)) (nomark _)))))
      (pss_one (ps_set (i := 3) sc__law_pool.nd rfl (Or.inl rfl) (pv 2)))
      pss_nil)
      (pss_one (ps_ret (pe_lst (pa_cons (pv 3) (pa_cons (pe_op op_zMul pe_int (pv 1)) (pa_cons (pv 2) pa_nil)))))))))), ?_⟩
  try dsimp only [cxOf]
  obtain ⟨a, t, ns, S, F, rfl, hS, hlen, h0, h1, O, k⟩ := h
  refine w_start (σ := [some (.ref a), some (.int t), none, none]) rfl ?_
  wtm_at "zgo"
  all_goals exact k _ _ _ _ (by omega) O

local macro_rules | `(tactic| wtm_at "zcall") => `(tactic| (with_reducible apply ap__law_pool O hS hlen; (· wtm_at "zpk"); (· omega); (· omega); intro p d c h1; wtm_at "znx"))

/-! ### drawn bytes -/
def sp__law_bytes (K : PySem.W.Frag) : Sp := fun vs H Q _ => ∃ (p m : Addr) (d0 n0 c : Int) (ms : List Int) (F : HL), vs = [.ref p, .ref m] ∧ (0 ≤ d0) ∧ (0 ≤ n0) ∧ (n0 < 3000000000) ∧ (0 < ms.length ∧ ms.length ≤ 100) ∧ (∀ x ∈ ms, 0 ≤ x ∧ x ≤ 10000) ∧ Own H ((pool p d0 n0 c) ++ (([(m, .lst (ms.map V.int))]) ++ F)) ∧ (∀ (q : Addr) (ns : List Int) (d' n' : Int) (H' : Hp), Own H' (([(q, .lst (ns.map V.int))]) ++ ((pool p d' n' c) ++ (([(m, .lst (ms.map V.int))]) ++ F))) → ((ns.length : Int) ∈ ms) → (∀ x ∈ ns, 0 ≤ x ∧ x ≤ 255) → (0 ≤ d') → (n0 ≤ n') → (n' ≤ n0 + 100000) → Q (.ref q) H')
theorem len__law_bytes {vs H Q E} (h : sp__law_bytes K vs H Q E) : vs.length = 2 := by
  obtain ⟨p, m, d0, n0, c, ms, F, rfl, _⟩ := h
  rfl
theorem ap__law_bytes {H : Hp} {L R1 F : HL} {Q : VK} {E : XK} {p m : Addr} {d0 n0 c : Int} {ms : List Int} (O : Own H L) (pk1 : Pk L (pool p d0 n0 c) R1) (pk2 : Pk R1 ([(m, .lst (ms.map V.int))]) F) (hp1 : 0 ≤ d0) (hp2 : 0 ≤ n0) (hp3 : n0 < 3000000000) (hp4 : 0 < ms.length ∧ ms.length ≤ 100) (hms : ∀ x ∈ ms, 0 ≤ x ∧ x ≤ 10000) (k : ∀ (q : Addr) (ns : List Int) (d' n' : Int), ((ns.length : Int) ∈ ms) → (∀ x ∈ ns, 0 ≤ x ∧ x ≤ 255) → (0 ≤ d') → (n0 ≤ n') → (n' ≤ n0 + 100000) → ∀ H', Own H' (([(q, .lst (ns.map V.int))]) ++ ((pool p d' n' c) ++ (([(m, .lst (ms.map V.int))]) ++ F))) → Q (.ref q) H') : sp__law_bytes K [.ref p, .ref m] H Q E :=
  ⟨p, m, d0, n0, c, ms, F, rfl, hp1, hp2, hp3, hp4, hms, O.sub (.cons pk1 (.cons pk2 .all)), fun q ns d' n' H' O' q0 q1 q2 q3 q4 => k q ns d' n' q0 q1 q2 q3 q4 H' O'⟩
theorem menu_mem {ms : List Int} {i : Int} (h0 : 0 ≤ i) (h1 : i < ms.length) : ms.getD i.toNat 0 ∈ ms := mem_menu (P := fun x => x ∈ ms) h0 h1 fun _ h => h
theorem ok__law_bytes (T : Txt K mg) : Cal P w K mg base 2 "_law_bytes" (sp__law_bytes K) [] := by
  have c__law_take : Cal P w K mg base 1 "_law_take" (sp__law_take K) [] := (ok__law_take T).mono (by decide)
  refine cal_nox T.d__law_bytes sc__law_bytes (fun _ _ _ _ _ _ us hl => match us, hl with | [_, _], _ => rfl) (fun vs H Q E h => len__law_bytes h) (fun cdv A outer s f H vs Q E hr h => ?_)
  refine ⟨_, (pss_cons (ps_set (i := 2) sc__law_bytes.nd rfl (Or.inl rfl) (pe_lst pa_nil))
      (pss_cons (ps_for PassesOwn.never rfl (pi_range1 rfl T.f_range (pa_cons (pe_ix ix_seq (pv 1) (pe_c0 c__law_take hr (by decide) rfl (pa_cons (pv 0) (pa_cons (pe_callB call_zLen rfl T.f_len bt_len (pa_cons (pv 1) pa_nil)) pa_nil))) (fun _ _ => rfl)) pa_nil)) (pg_name (i := 3) sc__law_bytes.nd rfl (Or.inl rfl))
      (pss_one (ps_if (pt_cmpR (op_zEq (uI hr)) (pe_c0 c__law_take hr (by decide) rfl (pa_cons (pv 0) (pa_cons pe_int pa_nil))) pe_int (nomark _))
      (pss_one (ps_expr (pe_bm PySem.F.plainAttrs_list PySem.F.slot_list_append PySem.F.type_list_append mt_append (pv 2) (pa_cons (pe_ix ix_seq (pe_lst (pa_cons pe_int (pa_cons pe_int (pa_cons pe_int (pa_cons pe_int pa_nil))))) (pe_c0 c__law_take hr (by decide) rfl (pa_cons (pv 0) (pa_cons pe_int pa_nil))) (fun _ _ => rfl)) pa_nil))))
      (pss_one (ps_expr (pe_bm PySem.F.plainAttrs_list PySem.F.slot_list_append PySem.F.type_list_append mt_append (pv 2) (pa_cons (pe_c0 c__law_take hr (by decide) rfl (pa_cons (pv 0) (pa_cons pe_int pa_nil))) pa_nil)))))))
      (pss_one (ps_ret (pv 2))))), ?_⟩
  try dsimp only [cxOf]
  obtain ⟨p, m, d0, n0, c, ms, F, rfl, hp1, hp2, hp3, hp4, hms, O, k⟩ := h
  wtm_at "zun"
  refine w_start (σ := [some (.ref p), some (.ref m), none, none]) rfl ?_
  wtm_at "zgo"
  have hmem := menu_mem (ms := ms) (i := r) (by assumption) (by assumption)
  generalize ms.getD r.toNat 0 = y at hmem ⊢
  have hy := hms y hmem
  wtm_at "zgo"
  refine w_forR (lo := 0) (n := y.toNat) (fun i σ H => ∃ (d' n' : Int) (ns : List Int) (v : Option V), σ = [some (.ref p), some (.ref m), some (.ref q), v] ∧ 0 ≤ d' ∧ n0 ≤ n' ∧ n' ≤ n0 + 1 + 2 * i ∧ ns.length = i ∧ (∀ x ∈ ns, 0 ≤ x ∧ x ≤ 255) ∧ Own H ([(q, .lst (ns.map V.int))] ++ (pool p d' n' c ++ ([(m, .lst (ms.map V.int))] ++ F)))) ?_ ?_ ?_
  · exact ⟨d, n, [], none, rfl, by omega, by omega, by omega, rfl, (fun _ h => nomatch h), by wtm_at "zown"⟩
  · rintro i σ H hi ⟨d', n', ns, v, rfl, g1, g2, g3, g4, g5, O⟩
    wtm_at "zgo"
    · exact ⟨d, n, ns ++ [([0, 10, 10, 255] : List Int).getD r.toNat 0], _, rfl, by omega, by omega, by omega, by simp [g4], all_snoc g5 (mem_menu (ns := [0, 10, 10, 255]) (P := fun x => 0 ≤ x ∧ x ≤ 255) (by assumption) (by assumption) (by decide)), by wtm_at "zown"⟩
    · exact ⟨d, n, ns ++ [r], _, rfl, by omega, by omega, by omega, by simp [g4], all_snoc g5 (by omega), by wtm_at "zown"⟩
  · rintro σ H ⟨d', n', ns, v, rfl, g1, g2, g3, g4, g5, O⟩
    wtm_at "zgo"
    wtm_at "zk"
    rw [g4, show ((y.toNat : Nat) : Int) = y by omega]
    exact hmem

local macro_rules | `(tactic| wtm_at "zcall") => `(tactic| (with_reducible apply ap__law_bytes O; (· wtm_at "zpk"); (· wtm_at "zpk"); (· wtm_at "zsd"); (· wtm_at "zsd"); (· wtm_at "zsd"); (· wtm_at "zsd"); (· wtm_at "zsd"); intro q ns d' n' hq1 hq2 hq3 hq4 hq5; wtm_at "znx"))
def sp__law_fits (K : PySem.W.Frag) : Sp := fun vs H Q _ => ∃ (a b : Addr) (xs ys : List Int) (F : HL), vs = [.ref a, .ref b] ∧ (xs = ys) ∧ (xs.length ≤ 16777216) ∧ Own H (([(a, .lst (xs.map V.int))]) ++ (([(b, .lst (ys.map V.int))]) ++ F)) ∧ (∀  (H' : Hp), Own H' (([(a, .lst (xs.map V.int))]) ++ (([(b, .lst (ys.map V.int))]) ++ F)) → Q (.bl true) H')
theorem len__law_fits {vs H Q E} (h : sp__law_fits K vs H Q E) : vs.length = 2 := by
  obtain ⟨a, b, xs, ys, F, rfl, _⟩ := h
  rfl
theorem ap__law_fits {H : Hp} {L R1 F : HL} {Q : VK} {E : XK} {a b : Addr} {xs ys : List Int} (O : Own H L) (pk1 : Pk L ([(a, .lst (xs.map V.int))]) R1) (pk2 : Pk R1 ([(b, .lst (ys.map V.int))]) F) (he : xs = ys) (hx : xs.length ≤ 16777216) (k : ∀ H', Own H' (([(a, .lst (xs.map V.int))]) ++ (([(b, .lst (ys.map V.int))]) ++ F)) → Q (.bl true) H') : sp__law_fits K [.ref a, .ref b] H Q E :=
  ⟨a, b, xs, ys, F, rfl, he, hx, O.sub (.cons pk1 (.cons pk2 .all)), fun  H' O'  => k  H' O'⟩
theorem ok__law_fits (T : Txt K mg) : Cal P w K mg base 1 "_law_fits" (sp__law_fits K) [] := by

  refine cal_nox T.d__law_fits sc__law_fits (fun _ _ _ _ _ _ us hl => match us, hl with | [_, _], _ => rfl) (fun vs H Q E h => len__law_fits h) (fun cdv A outer s f H vs Q E hr h => ?_)
  refine ⟨_, (pss_cons (ps_if (PW.pt (pw_or (pt_not (pt_z (pe_callB call_zIsi rfl T.f_isinstance bt_isinstance (pa_cons (pv 0) (pa_cons (pe_bltn (v := .ty "list") rfl T.f_list bt_list rfl) pa_nil))))) (pw_or1 (pt_cmpR (op_zNe (uI hr)) (pe_callB call_zLen rfl T.f_len bt_len (pa_cons (pv 0) pa_nil)) (pe_callB call_zLen rfl T.f_len bt_len (pa_cons (pv 1) pa_nil)) (nomark _)))))
      (pss_one (ps_ret pe_bl))
      pss_nil)
      (pss_one (ps_ret (pe_andT (pe_callB (call_zAll rfl) rfl T.f_all bt_all (pa_cons (pe_lc (own := [("_law_thing", 2)]) (g := (gName 2)) (tt := tYes) (te := (tAndT K (tCB (zIsi K) (tCons (tVar 2) (tCons (tC (.ty "int")) tNil))) (tNotT K (tCB (zIsi K) (tCons (tVar 2) (tCons (tC (.ty "bool")) tNil)))))) rfl sc__law_fits.nd (pi_list (pv 0)) (blkOk_by (own := [("_law_thing", 2)]) (N := ["_law_found", "_law_due", "_law_thing"]) (sc := defScope s__law_fits) (by decide +kernel)) (fun _ _ _ _ _ => by exact (pg_name (i := 2) sc__law_fits.nd rfl (Or.inl rfl))) (fun _ _ _ _ _ => by exact pts_nil) (fun _ _ _ _ _ => by exact (pe_andT (pe_callB call_zIsi rfl T.f_isinstance bt_isinstance (pa_cons (pv 2) (pa_cons (pe_bltn (v := .ty "int") rfl T.f_int bt_int rfl) pa_nil))) (pe_one (pe_notT (pe_callB call_zIsi rfl T.f_isinstance bt_isinstance (pa_cons (pv 2) (pa_cons (pe_bltn (v := .ty "bool") rfl T.f_bool bt_bool rfl) pa_nil)))))))) pa_nil)) (pe_one (pe_cmpR (op_zEq (uI hr)) (pv 0) (pv 1) (nomark _))))))), ?_⟩
  try dsimp only [cxOf]
  obtain ⟨a, b, xs, ys, F, rfl, he, hx, O, k⟩ := h
  wtm_at "zun"
  refine w_start (σ := [some (.ref a), some (.ref b), none]) rfl ?_
  subst he
  wtm_at "zgo"
  with_reducible apply w_lcB (f := fun _ => true) O
  · wtm_at "zpk"
  · exact hx
  · intro i x D H₁ Qe hx O₁ hk Nx
    clear O; revert H₁; intro H O
    dsimp only [wipe, List.map, List.set]
    wtm_at "zgo"
    exact hk _ O
  wtm_at "znw"
  wtm_at "zgo"
  rw [all_const, if_pos rfl]
  wtm_at "zgo"
  rw [decide_eq_true rfl]
  wtm_at "zk"
local macro_rules | `(tactic| wtm_at "zcall") => `(tactic| (with_reducible apply ap__law_fits O; (· wtm_at "zpk"); (· wtm_at "zpk"); (· wtm_at "zsd"); (· wtm_at "zsd"); wtm_at "znx"))

/-! ### one row laid over another -/
def laidL (row : List Int) (place : Int) (data : List Int) : List Int :=
  if data.length = 0 then row else
    let filled := row ++ List.replicate (place - row.length).toNat 0
    filled.take place.toNat ++ data ++ filled.drop (place + data.length).toNat
theorem laidL_len (row : List Int) (pl : Int) (data : List Int) (h : 0 ≤ pl) : ((laidL row pl data).length : Int) = if data.length = 0 then (row.length : Int) else max (row.length : Int) (pl + data.length) := by
  unfold laidL
  split
  · rfl
  · simp only [List.length_append, List.length_take, List.length_drop, List.length_replicate]
    omega
def sp_laid (K : PySem.W.Frag) : Sp := fun vs H Q _ => ∃ (a b : Addr) (row data : List Int) (pl : Int) (F : HL), vs = [.ref a, .int pl, .ref b] ∧ (0 ≤ pl) ∧ (pl ≤ 10000) ∧ (row.length ≤ 10000) ∧ (data.length ≤ 10000) ∧ Own H (([(a, .lst (row.map V.int))]) ++ (([(b, .lst (data.map V.int))]) ++ F)) ∧ (∀ (q : Addr) (H' : Hp), Own H' (([(q, .lst ((laidL row pl data).map V.int))]) ++ (([(a, .lst (row.map V.int))]) ++ (([(b, .lst (data.map V.int))]) ++ F))) → Q (.ref q) H')
theorem len_laid {vs H Q E} (h : sp_laid K vs H Q E) : vs.length = 3 := by
  obtain ⟨a, b, row, data, pl, F, rfl, _⟩ := h
  rfl
theorem ap_laid {H : Hp} {L R1 F : HL} {Q : VK} {E : XK} {a b : Addr} {row data : List Int} {pl : Int} (O : Own H L) (pk1 : Pk L ([(a, .lst (row.map V.int))]) R1) (pk2 : Pk R1 ([(b, .lst (data.map V.int))]) F) (h0 : 0 ≤ pl) (h1 : pl ≤ 10000) (hp3 : row.length ≤ 10000) (hp4 : data.length ≤ 10000) (k : ∀ (q : Addr), ∀ H', Own H' (([(q, .lst ((laidL row pl data).map V.int))]) ++ (([(a, .lst (row.map V.int))]) ++ (([(b, .lst (data.map V.int))]) ++ F))) → Q (.ref q) H') : sp_laid K [.ref a, .int pl, .ref b] H Q E :=
  ⟨a, b, row, data, pl, F, rfl, h0, h1, hp3, hp4, O.sub (.cons pk1 (.cons pk2 .all)), fun q H' O'  => k q H' O'⟩
theorem ok_laid (T : Txt K mg) : Cal P w K mg base 1 "laid" (sp_laid K) [] := by

  refine cal_nox T.d_laid sc_laid (fun _ _ _ _ _ _ us hl => match us, hl with | [_, _, _], _ => rfl) (fun vs H Q E h => len_laid h) (fun cdv A outer s f H vs Q E hr h => ?_)
  refine ⟨_, (pss_cons (ps_if (pt_cmpR (op_zEq (uI hr)) (pe_callB call_zLen rfl T.f_len bt_len (pa_cons (pv 2) pa_nil)) pe_int (nomark _))
      (pss_one (ps_ret (pe_callTy call_zList rfl T.f_list bt_list (pa_cons (pv 0) pa_nil))))
      pss_nil)
      (pss_cons (ps_set (i := 3) sc_laid.nd rfl (Or.inl rfl) (pe_op op_zAdd (pe_callTy call_zList rfl T.f_list bt_list (pa_cons (pv 0) pa_nil)) (pe_op op_zMul (pe_lst (pa_cons pe_int pa_nil)) (pe_op op_zSub (pv 1) (pe_callB call_zLen rfl T.f_len bt_len (pa_cons (pv 0) pa_nil))))))
      (pss_one (ps_ret (pe_op op_zAdd (pe_op op_zAdd (pe_slice sl_z (pv 3) po_none (po_some (pv 1))) (pe_callTy call_zList rfl T.f_list bt_list (pa_cons (pv 2) pa_nil))) (pe_slice sl_z (pv 3) (po_some (pe_op op_zAdd (pv 1) (pe_callB call_zLen rfl T.f_len bt_len (pa_cons (pv 2) pa_nil)))) po_none)))))), ?_⟩
  try dsimp only [cxOf]
  obtain ⟨a, b, row, data, pl, F, rfl, h0, h1, hp3, hp4, O, k⟩ := h
  wtm_at "zun"
  refine w_start (σ := [some (.ref a), some (.int pl), some (.ref b), none]) rfl ?_
  wtm_at "zgo"
  · have e : laidL row pl data = row := if_pos (by omega)
    rw [e] at k
    wtm_at "zk"
  · have e : laidL row pl data = (row ++ List.replicate (pl - row.length).toNat 0).take pl.toNat ++ data ++ (row ++ List.replicate (pl - row.length).toNat 0).drop (pl + data.length).toNat := if_neg (by omega)
    rw [e] at k
    wtm_at "zk"
local macro_rules | `(tactic| wtm_at "zcall") => `(tactic| (with_reducible apply ap_laid O; (· wtm_at "zpk"); (· wtm_at "zpk"); (· wtm_at "zsd"); (· wtm_at "zsd"); (· wtm_at "zsd"); (· wtm_at "zsd"); intro q; wtm_at "znx"))

/-! ### the plain model's object -/
def plain (K : PySem.W.Frag) (s dx l : Addr) (row : List Int) (pl : Int) : HL := obj s (He.ga K "Plain") dx [("stock", .ref l), ("cursor", .int pl)] ++ [(l, .lst (row.map V.int))]
local macro_rules | `(tactic| wtm_at "zun1") => `(tactic| (simp only [plain, hl_assoc] at O))
local macro_rules | `(tactic| wtm_at "zpkU") => `(tactic| (unfold plain; (with_reducible apply Pk.app); (· wtm_at "zpk"); wtm_at "zpk"))
local macro_rules | `(tactic| wtm_at "zunG") => `(tactic| (try simp only [upto_int, upto_non] at k))
def IsCnt (mv : V) : Prop := mv = .non ∨ ∃ m, 0 ≤ m ∧ mv = .int m
theorem cnt_non : IsCnt .non := .inl rfl
theorem cnt_int {m : Int} (h : 0 ≤ m) : IsCnt (.int m) := .inr ⟨m, h, rfl⟩
def upto (row : List Int) (pl : Int) : V → List Int
  | .int m => (row.take (pl + m).toNat).drop pl.toNat
  | _ => row.drop pl.toNat
theorem upto_take {row : List Int} {pl m : Int} (h : 0 ≤ pl) (h2 : 0 ≤ m) : (row.take (pl + m).toNat).drop pl.toNat = (row.drop pl.toNat).take m.toNat := by
  rw [List.drop_take]
  congr 1
  omega
/-- up to the first line feed -/
def upl (l : List Int) : List Int := if 10 ∈ l then l.take (idx 10 l + 1) else l
theorem upl_cons {x : Int} {l : List Int} : upl (x :: l) = x :: (if x = 10 then [] else upl l) := by
  by_cases h : x = 10
  · subst h
    simp [upl, idx]
  · have h2 : ¬ 10 = x := fun e => h e.symm
    unfold upl
    by_cases h3 : 10 ∈ l
    · simp [h, h2, h3, idx]
    · simp [h, h2, h3, idx]
theorem upl_take : ∀ (l : List Int) (m : Nat), upl (l.take m) = (upl l).take m
  | [], m => by simp [upl]
  | x :: l, 0 => by simp [upl]
  | x :: l, m + 1 => by
    rw [List.take_succ_cons, upl_cons, upl_cons, List.take_succ_cons]
    by_cases h : x = 10
    · simp [h]
    · rw [if_neg h, if_neg h, upl_take l m]
theorem upto_int {row : List Int} {pl m : Int} : upto row pl (.int m) = (row.take (pl + m).toNat).drop pl.toNat := rfl
theorem upto_non {row : List Int} {pl : Int} : upto row pl .non = row.drop pl.toNat := rfl
theorem upto_len {row : List Int} {pl : Int} {mv : V} : (upto row pl mv).length ≤ row.length := by
  unfold upto
  split
  · rw [List.length_drop, List.length_take]; omega
  · rw [List.length_drop]; omega
local macro_rules | `(tactic| wtm_at "zsd") => `(tactic| first | exact cnt_non | exact cnt_int (by omega))
def sp_is_byte (K : PySem.W.Frag) : Sp := fun vs H Q _ => ∃ (i : Int) (F : HL), vs = [.int i] ∧ Own H (F) ∧ (Q (.bl (decide (0 ≤ i ∧ i ≤ 255))) H)
theorem len_is_byte {vs H Q E} (h : sp_is_byte K vs H Q E) : vs.length = 1 := by
  obtain ⟨i, F, rfl, _⟩ := h
  rfl
theorem ap_is_byte {H : Hp} {F : HL} {Q : VK} {E : XK} {i : Int} (O : Own H F)   (k : Q (.bl (decide (0 ≤ i ∧ i ≤ 255))) H) : sp_is_byte K [.int i] H Q E :=
  ⟨i, F, rfl, O.sub (.all), k⟩
theorem ok_is_byte (T : Txt K mg) : Cal P w K mg base 1 "is_byte" (sp_is_byte K) [] := by

  refine cal_nox T.d_is_byte sc_is_byte (fun _ _ _ _ _ _ us hl => match us, hl with | [_], _ => rfl) (fun vs H Q E h => len_is_byte h) (fun cdv A outer s f H vs Q E hr h => ?_)
  refine ⟨_, (pss_one (ps_ret (pe_andT (pe_callB call_zIsi rfl T.f_isinstance bt_isinstance (pa_cons (pv 0) (pa_cons (pe_bltn (v := .ty "int") rfl T.f_int bt_int rfl) pa_nil))) (pe_andT (pe_notT (pe_callB call_zIsi rfl T.f_isinstance bt_isinstance (pa_cons (pv 0) (pa_cons (pe_bltn (v := .ty "bool") rfl T.f_bool bt_bool rfl) pa_nil)))) (pe_one (pe_chain op_zLe op_zLe pe_int (pv 0) (pe_gi rfl T.c_GREATEST))))))), ?_⟩
  try dsimp only [cxOf]
  obtain ⟨i, F, rfl, O, k⟩ := h
  wtm_at "zun"
  refine w_start (σ := [some (.int i)]) rfl ?_
  wtm_at "zgo"
  · rw [show decide (0 ≤ i ∧ i ≤ 255) = decide (i ≤ 255) by rw [decide_eq_decide]; omega] at k
    exact k
  · rw [show decide (0 ≤ i ∧ i ≤ 255) = false by rw [decide_eq_false_iff_not]; omega] at k
    exact k
local macro_rules | `(tactic| wtm_at "zcall") => `(tactic| (with_reducible apply ap_is_byte O; skip))
def sp_count_asked (K : PySem.W.Frag) : Sp := fun vs H Q _ => ∃ (mv : V) (F : HL), vs = [mv] ∧ (IsCnt mv) ∧ Own H (F) ∧ (Q (.non) H)
theorem len_count_asked {vs H Q E} (h : sp_count_asked K vs H Q E) : vs.length = 1 := by
  obtain ⟨mv, F, rfl, _⟩ := h
  rfl
theorem ap_count_asked {H : Hp} {F : HL} {Q : VK} {E : XK} {mv : V} (O : Own H F)  (hm : IsCnt mv) (k : Q (.non) H) : sp_count_asked K [mv] H Q E :=
  ⟨mv, F, rfl, hm, O.sub (.all), k⟩
theorem ok_count_asked (T : Txt K mg) : Cal P w K mg base 1 "count_asked" (sp_count_asked K) [] := by

  refine cal_nox T.d_count_asked sc_count_asked (fun _ _ _ _ _ _ us hl => match us, hl with | [_], _ => rfl) (fun vs H Q E h => len_count_asked h) (fun cdv A outer s f H vs Q E hr h => ?_)
  refine ⟨_, (pss_one (ps_if (PW.pt (pw_and (pt_cmpR op_zIsNot (pv 0) pe_non (nomark _)) (pw_and1 (pt_cmpR op_zLt (pv 0) pe_int (nomark _)))))
      (pss_one ps_never)
      pss_nil)), ?_⟩
  try dsimp only [cxOf]
  obtain ⟨mv, F, rfl, hm, O, k⟩ := h
  wtm_at "zun"
  refine w_start (σ := [some (mv)]) rfl ?_
  rcases hm with rfl | ⟨m, h0, rfl⟩
  · wtm_at "zgo"
    exact k
  · wtm_at "zgo"
    exact k
local macro_rules | `(tactic| wtm_at "zcall") => `(tactic| (with_reducible apply ap_count_asked O; (· wtm_at "zsd"); skip))
def sp_length_asked (K : PySem.W.Frag) : Sp := fun vs H Q _ => ∃ (i : Int) (F : HL), vs = [.int i] ∧ (i ≤ 4000) ∧ Own H (F) ∧ (Q (.non) H)
theorem len_length_asked {vs H Q E} (h : sp_length_asked K vs H Q E) : vs.length = 1 := by
  obtain ⟨i, F, rfl, _⟩ := h
  rfl
theorem ap_length_asked {H : Hp} {F : HL} {Q : VK} {E : XK} {i : Int} (O : Own H F)  (hp1 : i ≤ 4000) (k : Q (.non) H) : sp_length_asked K [.int i] H Q E :=
  ⟨i, F, rfl, hp1, O.sub (.all), k⟩
theorem ok_length_asked (T : Txt K mg) : Cal P w K mg base 1 "length_asked" (sp_length_asked K) [] := by

  refine cal_nox T.d_length_asked sc_length_asked (fun _ _ _ _ _ _ us hl => match us, hl with | [_], _ => rfl) (fun vs H Q E h => len_length_asked h) (fun cdv A outer s f H vs Q E hr h => ?_)
  refine ⟨_, (pss_one (ps_if (pt_cmpR op_zGt (pv 0) (pe_gi rfl T.c_LONGEST) (nomark _))
      (pss_one ps_never)
      pss_nil)), ?_⟩
  try dsimp only [cxOf]
  obtain ⟨i, F, rfl, hp1, O, k⟩ := h
  wtm_at "zun"
  refine w_start (σ := [some (.int i)]) rfl ?_
  wtm_at "zgo"
  exact k
local macro_rules | `(tactic| wtm_at "zcall") => `(tactic| (with_reducible apply ap_length_asked O; (· wtm_at "zsd"); skip))
def sp_bytes_asked (K : PySem.W.Frag) : Sp := fun vs H Q _ => ∃ (b : Addr) (ns : List Int) (F : HL), vs = [.ref b] ∧ (∀ x ∈ ns, 0 ≤ x ∧ x ≤ 255) ∧ Own H (([(b, .lst (ns.map V.int))]) ++ F) ∧ (∀  (H' : Hp), Own H' (([(b, .lst (ns.map V.int))]) ++ F) → Q (.non) H')
theorem len_bytes_asked {vs H Q E} (h : sp_bytes_asked K vs H Q E) : vs.length = 1 := by
  obtain ⟨b, ns, F, rfl, _⟩ := h
  rfl
theorem ap_bytes_asked {H : Hp} {L F : HL} {Q : VK} {E : XK} {b : Addr} {ns : List Int} (O : Own H L) (pk1 : Pk L ([(b, .lst (ns.map V.int))]) F) (hb : ∀ x ∈ ns, 0 ≤ x ∧ x ≤ 255) (k : ∀ H', Own H' (([(b, .lst (ns.map V.int))]) ++ F) → Q (.non) H') : sp_bytes_asked K [.ref b] H Q E :=
  ⟨b, ns, F, rfl, hb, O.sub (.cons pk1 .all), fun  H' O'  => k  H' O'⟩
theorem ok_bytes_asked (T : Txt K mg) : Cal P w K mg base 2 "bytes_asked" (sp_bytes_asked K) [] := by
  have c_is_byte : Cal P w K mg base 1 "is_byte" (sp_is_byte K) [] := (ok_is_byte T).mono (by decide)
  refine cal_nox T.d_bytes_asked sc_bytes_asked (fun _ _ _ _ _ _ us hl => match us, hl with | [_], _ => rfl) (fun vs H Q E h => len_bytes_asked h) (fun cdv A outer s f H vs Q E hr h => ?_)
  refine ⟨_, (pss_one (ps_for PassesOwn.never rfl (pi_enum rfl T.f_enumerate (pa_cons (pv 0) pa_nil)) (pg_tup rfl (pgs_cons (pg_name (i := 1) sc_bytes_asked.nd rfl (Or.inl rfl)) (pgs_cons (pg_name (i := 2) sc_bytes_asked.nd rfl (Or.inl rfl)) pgs_nil)))
      (pss_one (ps_if (pt_not (pt_z (pe_c0 c_is_byte hr (by decide) rfl (pa_cons (pv 2) pa_nil))))
      (pss_one ps_never)
      pss_nil)))), ?_⟩
  try dsimp only [cxOf]
  obtain ⟨b, ns, F, rfl, hb, O, k⟩ := h
  wtm_at "zun"
  refine w_start (σ := [some (.ref b), none, none]) rfl ?_
  wtm_at "zgo"
  refine w_forEI (ns := ns) (fun i σ H => ∃ v w, σ = [some (.ref b), v, w] ∧ Own H ([(b, .lst (ns.map V.int))] ++ F)) ⟨_, _, rfl, O⟩ ?_ ?_ ?_
  · rintro i σ H ⟨v, w, rfl, O⟩
    exact ⟨_, _, O, Pk.here⟩
  · rintro i x σ H T H' hx ⟨v, w, rfl, O⟩ ho
    have hxb := hb x (List.mem_of_getElem? hx)
    replace O := ho _ O
    clear ho
    wtm_at "zgo"
    exact ⟨_, _, rfl, by wtm_at "zown"⟩
  · rintro σ H ⟨v, w, rfl, O⟩
    wtm_at "zgo"
    wtm_at "zk"
local macro_rules | `(tactic| wtm_at "zcall") => `(tactic| (with_reducible apply ap_bytes_asked O; (· wtm_at "zpk"); (· wtm_at "zsd"); wtm_at "znx"))
def sp_Plain___init__ (K : PySem.W.Frag) : Sp := fun vs H Q _ => ∃ (s dx a : Addr) (row : List Int) (pl : Int) (F : HL), vs = [.ref s, .ref a, .int pl] ∧ Own H ((obj s (He.ga K "Plain") dx []) ++ (([(a, .lst (row.map V.int))]) ++ F)) ∧ (∀ (l : Addr) (H' : Hp), Own H' ((plain K s dx l row pl) ++ (([(a, .lst (row.map V.int))]) ++ F)) → Q (.non) H')
theorem len_Plain___init__ {vs H Q E} (h : sp_Plain___init__ K vs H Q E) : vs.length = 3 := by
  obtain ⟨s, dx, a, row, pl, F, rfl, _⟩ := h
  rfl
theorem ap_Plain___init__ {H : Hp} {L R1 F : HL} {Q : VK} {E : XK} {s dx a : Addr} {row : List Int} {pl : Int} (O : Own H L) (pk1 : Pk L (obj s (He.ga K "Plain") dx []) R1) (pk2 : Pk R1 ([(a, .lst (row.map V.int))]) F)  (k : ∀ (l : Addr), ∀ H', Own H' ((plain K s dx l row pl) ++ (([(a, .lst (row.map V.int))]) ++ F)) → Q (.non) H') : sp_Plain___init__ K [.ref s, .ref a, .int pl] H Q E :=
  ⟨s, dx, a, row, pl, F, rfl, O.sub (.cons pk1 (.cons pk2 .all)), fun l H' O'  => k l H' O'⟩
theorem fo_Plain___init__ (T : Txt K mg) {f : Addr} {fd : FuncData} (F : FunD K "__init__" "Plain.__init__" (defArgs s_Plain___init__) (defBody s_Plain___init__) (defScope s_Plain___init__) [.int 0] [] f fd) : FnOk P w K mg base (L2.CX P w) 1 f fd ["self", "row", "place"] (sp_Plain___init__ K) := by

  refine fo_nox F sc_Plain___init__ (fun vs H Q E h => len_Plain___init__ h) (fun cdv A outer s H vs Q E hr h => ?_)
  refine ⟨_, (pss_cons (ps_fld (pv 0) (pe_callTy call_zList rfl T.f_list bt_list (pa_cons (pv 1) pa_nil)) rfl)
      (pss_one (ps_fld (pv 0) (pv 2) rfl))), ?_⟩
  try dsimp only [cxOf]
  obtain ⟨s, dx, a, row, pl, F, rfl, O, k⟩ := h
  wtm_at "zun"
  refine w_start (σ := [some (.ref s), some (.ref a), some (.int pl)]) rfl ?_
  wtm_at "zgo"
  wtm_at "zk"
theorem mk_Plain_1 (T : Txt K mg) : Mak P w K mg base 1 "Plain" (He.ga K "Plain") (sp_Plain___init__ K) [.int 0] :=
  mak_of T.mk_Plain T.g_Plain T.fd_Plain___init__ (fun fd F => fo_Plain___init__ T F) (fun fd F => F.binds1 2 0 (by decide) (by decide) fun _ _ _ _ _ _ _ us its h1 h2 => match us, its, h1, h2 with | [_, _], [_], _, _ => ⟨_, rfl, rfl⟩)
theorem mk_Plain_2 (T : Txt K mg) : Mak P w K mg base 1 "Plain" (He.ga K "Plain") (sp_Plain___init__ K) [] :=
  mak_of T.mk_Plain T.g_Plain T.fd_Plain___init__ (fun fd F => fo_Plain___init__ T F) (fun fd F => F.binds1 3 1 (by decide) (by decide) fun _ _ _ _ _ _ _ us its h1 h2 => match us, its, h1, h2 with | [_, _, _], [_], _, _ => ⟨_, rfl, rfl⟩)
def sp_Plain_peek (K : PySem.W.Frag) : Sp := fun vs H Q _ => ∃ (s dx l : Addr) (row : List Int) (pl : Int) (mv : V) (F : HL), vs = [.ref s, mv] ∧ (IsCnt mv) ∧ (0 ≤ pl) ∧ Own H ((plain K s dx l row pl) ++ F) ∧ (∀ (q : Addr) (H' : Hp), Own H' (([(q, .lst ((upto row pl mv).map V.int))]) ++ ((plain K s dx l row pl) ++ F)) → Q (.ref q) H')
theorem len_Plain_peek {vs H Q E} (h : sp_Plain_peek K vs H Q E) : vs.length = 2 := by
  obtain ⟨s, dx, l, row, pl, mv, F, rfl, _⟩ := h
  rfl
theorem ap_Plain_peek {H : Hp} {L F : HL} {Q : VK} {E : XK} {s dx l : Addr} {row : List Int} {pl : Int} {mv : V} (O : Own H L) (pk1 : Pk L (plain K s dx l row pl) F) (hm : IsCnt mv) (hp2 : 0 ≤ pl) (k : ∀ (q : Addr), ∀ H', Own H' (([(q, .lst ((upto row pl mv).map V.int))]) ++ ((plain K s dx l row pl) ++ F)) → Q (.ref q) H') : sp_Plain_peek K [.ref s, mv] H Q E :=
  ⟨s, dx, l, row, pl, mv, F, rfl, hm, hp2, O.sub (.cons pk1 .all), fun q H' O'  => k q H' O'⟩
local macro_rules | `(tactic| wtm_at "zcall") => `(tactic| (with_reducible apply ap_Plain_peek O; (· wtm_at "zpk"); (· wtm_at "zsd"); (· wtm_at "zsd"); intro q; wtm_at "znx"; try simp only [upto_int, upto_non] at O))
def sp_Plain_read (K : PySem.W.Frag) : Sp := fun vs H Q _ => ∃ (s dx l : Addr) (row : List Int) (pl : Int) (mv : V) (F : HL), vs = [.ref s, mv] ∧ (IsCnt mv) ∧ (0 ≤ pl) ∧ Own H ((plain K s dx l row pl) ++ F) ∧ (∀ (q : Addr) (H' : Hp), Own H' (([(q, .lst ((upto row pl mv).map V.int))]) ++ ((plain K s dx l row (pl + (upto row pl mv).length)) ++ F)) → Q (.ref q) H')
theorem len_Plain_read {vs H Q E} (h : sp_Plain_read K vs H Q E) : vs.length = 2 := by
  obtain ⟨s, dx, l, row, pl, mv, F, rfl, _⟩ := h
  rfl
theorem ap_Plain_read {H : Hp} {L F : HL} {Q : VK} {E : XK} {s dx l : Addr} {row : List Int} {pl : Int} {mv : V} (O : Own H L) (pk1 : Pk L (plain K s dx l row pl) F) (hm : IsCnt mv) (hp2 : 0 ≤ pl) (k : ∀ (q : Addr), ∀ H', Own H' (([(q, .lst ((upto row pl mv).map V.int))]) ++ ((plain K s dx l row (pl + (upto row pl mv).length)) ++ F)) → Q (.ref q) H') : sp_Plain_read K [.ref s, mv] H Q E :=
  ⟨s, dx, l, row, pl, mv, F, rfl, hm, hp2, O.sub (.cons pk1 .all), fun q H' O'  => k q H' O'⟩
def sp_Plain_tell (K : PySem.W.Frag) : Sp := fun vs H Q _ => ∃ (s dx l : Addr) (row : List Int) (pl : Int) (F : HL), vs = [.ref s] ∧ Own H ((plain K s dx l row pl) ++ F) ∧ (∀  (H' : Hp), Own H' ((plain K s dx l row pl) ++ F) → Q (.int pl) H')
theorem len_Plain_tell {vs H Q E} (h : sp_Plain_tell K vs H Q E) : vs.length = 1 := by
  obtain ⟨s, dx, l, row, pl, F, rfl, _⟩ := h
  rfl
theorem ap_Plain_tell {H : Hp} {L F : HL} {Q : VK} {E : XK} {s dx l : Addr} {row : List Int} {pl : Int} (O : Own H L) (pk1 : Pk L (plain K s dx l row pl) F)  (k : ∀ H', Own H' ((plain K s dx l row pl) ++ F) → Q (.int pl) H') : sp_Plain_tell K [.ref s] H Q E :=
  ⟨s, dx, l, row, pl, F, rfl, O.sub (.cons pk1 .all), fun  H' O'  => k  H' O'⟩
theorem fo_Plain_tell (T : Txt K mg) {f : Addr} {fd : FuncData} (F : FunD K "tell" "Plain.tell" (defArgs s_Plain_tell) (defBody s_Plain_tell) (defScope s_Plain_tell) [] [] f fd) : FnOk P w K mg base (L2.CX P w) 1 f fd ["self"] (sp_Plain_tell K) := by

  refine fo_nox F sc_Plain_tell (fun vs H Q E h => len_Plain_tell h) (fun cdv A outer s H vs Q E hr h => ?_)
  refine ⟨_, (pss_one (ps_ret (pe_fld (pv 0) rfl))), ?_⟩
  try dsimp only [cxOf]
  obtain ⟨s, dx, l, row, pl, F, rfl, O, k⟩ := h
  wtm_at "zun"
  refine w_start (σ := [some (.ref s)]) rfl ?_
  wtm_at "zgo"
  wtm_at "zk"
theorem ok_Plain_tell_0 (T : Txt K mg) : Met P w K mg base 1 (He.ga K "Plain") "tell" (sp_Plain_tell K) [] :=
  met_of T.cl_Plain T.me_Plain_tell T.fd_Plain_tell (fun fd F => fo_Plain_tell T F) (fun fd F => bi_all F fun _ _ _ _ _ _ us hl => match us, hl with | [_], _ => rfl)
def sp_Plain_size (K : PySem.W.Frag) : Sp := fun vs H Q _ => ∃ (s dx l : Addr) (row : List Int) (pl : Int) (F : HL), vs = [.ref s] ∧ Own H ((plain K s dx l row pl) ++ F) ∧ (∀  (H' : Hp), Own H' ((plain K s dx l row pl) ++ F) → Q (.int row.length) H')
theorem len_Plain_size {vs H Q E} (h : sp_Plain_size K vs H Q E) : vs.length = 1 := by
  obtain ⟨s, dx, l, row, pl, F, rfl, _⟩ := h
  rfl
theorem ap_Plain_size {H : Hp} {L F : HL} {Q : VK} {E : XK} {s dx l : Addr} {row : List Int} {pl : Int} (O : Own H L) (pk1 : Pk L (plain K s dx l row pl) F)  (k : ∀ H', Own H' ((plain K s dx l row pl) ++ F) → Q (.int row.length) H') : sp_Plain_size K [.ref s] H Q E :=
  ⟨s, dx, l, row, pl, F, rfl, O.sub (.cons pk1 .all), fun  H' O'  => k  H' O'⟩
theorem fo_Plain_size (T : Txt K mg) {f : Addr} {fd : FuncData} (F : FunD K "size" "Plain.size" (defArgs s_Plain_size) (defBody s_Plain_size) (defScope s_Plain_size) [] [] f fd) : FnOk P w K mg base (L2.CX P w) 1 f fd ["self"] (sp_Plain_size K) := by

  refine fo_nox F sc_Plain_size (fun vs H Q E h => len_Plain_size h) (fun cdv A outer s H vs Q E hr h => ?_)
  refine ⟨_, (pss_one (ps_ret (pe_callB call_zLen rfl T.f_len bt_len (pa_cons (pe_fld (pv 0) rfl) pa_nil)))), ?_⟩
  try dsimp only [cxOf]
  obtain ⟨s, dx, l, row, pl, F, rfl, O, k⟩ := h
  wtm_at "zun"
  refine w_start (σ := [some (.ref s)]) rfl ?_
  wtm_at "zgo"
  wtm_at "zk"
theorem ok_Plain_size_0 (T : Txt K mg) : Met P w K mg base 1 (He.ga K "Plain") "size" (sp_Plain_size K) [] :=
  met_of T.cl_Plain T.me_Plain_size T.fd_Plain_size (fun fd F => fo_Plain_size T F) (fun fd F => bi_all F fun _ _ _ _ _ _ us hl => match us, hl with | [_], _ => rfl)
def sp_Plain_row (K : PySem.W.Frag) : Sp := fun vs H Q _ => ∃ (s dx l : Addr) (row : List Int) (pl : Int) (F : HL), vs = [.ref s] ∧ Own H ((plain K s dx l row pl) ++ F) ∧ (∀ (q : Addr) (H' : Hp), Own H' (([(q, .lst (row.map V.int))]) ++ ((plain K s dx l row pl) ++ F)) → Q (.ref q) H')
theorem len_Plain_row {vs H Q E} (h : sp_Plain_row K vs H Q E) : vs.length = 1 := by
  obtain ⟨s, dx, l, row, pl, F, rfl, _⟩ := h
  rfl
theorem ap_Plain_row {H : Hp} {L F : HL} {Q : VK} {E : XK} {s dx l : Addr} {row : List Int} {pl : Int} (O : Own H L) (pk1 : Pk L (plain K s dx l row pl) F)  (k : ∀ (q : Addr), ∀ H', Own H' (([(q, .lst (row.map V.int))]) ++ ((plain K s dx l row pl) ++ F)) → Q (.ref q) H') : sp_Plain_row K [.ref s] H Q E :=
  ⟨s, dx, l, row, pl, F, rfl, O.sub (.cons pk1 .all), fun q H' O'  => k q H' O'⟩
theorem fo_Plain_row (T : Txt K mg) {f : Addr} {fd : FuncData} (F : FunD K "row" "Plain.row" (defArgs s_Plain_row) (defBody s_Plain_row) (defScope s_Plain_row) [] [] f fd) : FnOk P w K mg base (L2.CX P w) 1 f fd ["self"] (sp_Plain_row K) := by

  refine fo_nox F sc_Plain_row (fun vs H Q E h => len_Plain_row h) (fun cdv A outer s H vs Q E hr h => ?_)
  refine ⟨_, (pss_one (ps_ret (pe_callTy call_zList rfl T.f_list bt_list (pa_cons (pe_fld (pv 0) rfl) pa_nil)))), ?_⟩
  try dsimp only [cxOf]
  obtain ⟨s, dx, l, row, pl, F, rfl, O, k⟩ := h
  wtm_at "zun"
  refine w_start (σ := [some (.ref s)]) rfl ?_
  wtm_at "zgo"
  wtm_at "zk"
theorem ok_Plain_row_0 (T : Txt K mg) : Met P w K mg base 1 (He.ga K "Plain") "row" (sp_Plain_row K) [] :=
  met_of T.cl_Plain T.me_Plain_row T.fd_Plain_row (fun fd F => fo_Plain_row T F) (fun fd F => bi_all F fun _ _ _ _ _ _ us hl => match us, hl with | [_], _ => rfl)

def sp_Plain_write (K : PySem.W.Frag) : Sp := fun vs H Q _ => ∃ (s dx l a : Addr) (row ns : List Int) (pl : Int) (F : HL), vs = [.ref s, .ref a] ∧ (∀ x ∈ ns, 0 ≤ x ∧ x ≤ 255) ∧ (0 ≤ pl) ∧ (pl + ns.length ≤ 4000) ∧ (row.length ≤ 4000) ∧ Own H ((plain K s dx l row pl) ++ (([(a, .lst (ns.map V.int))]) ++ F)) ∧ (∀ (l' : Addr) (H' : Hp), Own H' ((plain K s dx l' (laidL row pl ns) (pl + ns.length)) ++ (([(a, .lst (ns.map V.int))]) ++ F)) → Q (.int ns.length) H')
theorem len_Plain_write {vs H Q E} (h : sp_Plain_write K vs H Q E) : vs.length = 2 := by
  obtain ⟨s, dx, l, a, row, ns, pl, F, rfl, _⟩ := h
  rfl
theorem ap_Plain_write {H : Hp} {L R1 F : HL} {Q : VK} {E : XK} {s dx l a : Addr} {row ns : List Int} {pl : Int} (O : Own H L) (pk1 : Pk L (plain K s dx l row pl) R1) (pk2 : Pk R1 ([(a, .lst (ns.map V.int))]) F) (hp1 : ∀ x ∈ ns, 0 ≤ x ∧ x ≤ 255) (hp2 : 0 ≤ pl) (hl : pl + ns.length ≤ 4000) (hr2 : row.length ≤ 4000) (k : ∀ (l' : Addr), ∀ H', Own H' ((plain K s dx l' (laidL row pl ns) (pl + ns.length)) ++ (([(a, .lst (ns.map V.int))]) ++ F)) → Q (.int ns.length) H') : sp_Plain_write K [.ref s, .ref a] H Q E :=
  ⟨s, dx, l, a, row, ns, pl, F, rfl, hp1, hp2, hl, hr2, O.sub (.cons pk1 (.cons pk2 .all)), fun l' H' O'  => k l' H' O'⟩
theorem fo_Plain_write (T : Txt K mg) {f : Addr} {fd : FuncData} (F : FunD K "write" "Plain.write" (defArgs s_Plain_write) (defBody s_Plain_write) (defScope s_Plain_write) [] [] f fd) : FnOk P w K mg base (L2.CX P w) 3 f fd ["self", "data"] (sp_Plain_write K) := by
  have c_bytes_asked : Cal P w K mg base 2 "bytes_asked" (sp_bytes_asked K) [] := (ok_bytes_asked T).mono (by decide)
  have c_length_asked : Cal P w K mg base 2 "length_asked" (sp_length_asked K) [] := (ok_length_asked T).mono (by decide)
  have c_laid : Cal P w K mg base 2 "laid" (sp_laid K) [] := (ok_laid T).mono (by decide)
  refine fo_nox F sc_Plain_write (fun vs H Q E h => len_Plain_write h) (fun cdv A outer s H vs Q E hr h => ?_)
  refine ⟨_, (pss_cons (ps_expr (pe_c0 c_bytes_asked hr (by decide) rfl (pa_cons (pv 1) pa_nil)))
      (pss_cons (ps_if (pt_cmpR op_zGt (pe_callB call_zLen rfl T.f_len bt_len (pa_cons (pv 1) pa_nil)) pe_int (nomark _))
      (pss_one (ps_expr (pe_c0 c_length_asked hr (by decide) rfl (pa_cons (pe_op op_zAdd (pe_fld (pv 0) rfl) (pe_callB call_zLen rfl T.f_len bt_len (pa_cons (pv 1) pa_nil))) pa_nil))))
      pss_nil)
      (pss_cons (ps_fld (pv 0) (pe_c0 c_laid hr (by decide) rfl (pa_cons (pe_fld (pv 0) rfl) (pa_cons (pe_fld (pv 0) rfl) (pa_cons (pv 1) pa_nil)))) rfl)
      (pss_cons (ps_fld (pv 0) (pe_op op_zAdd (pe_fld (pv 0) rfl) (pe_callB call_zLen rfl T.f_len bt_len (pa_cons (pv 1) pa_nil))) rfl)
      (pss_one (ps_ret (pe_callB call_zLen rfl T.f_len bt_len (pa_cons (pv 1) pa_nil)))))))), ?_⟩
  try dsimp only [cxOf]
  obtain ⟨s, dx, l, a, row, ns, pl, F, rfl, hp1, hp2, hl, hr2, O, k⟩ := h
  wtm_at "zun"
  refine w_start (σ := [some (.ref s), some (.ref a)]) rfl ?_
  wtm_at "zgo"
  all_goals wtm_at "zk"
theorem ok_Plain_write_1 (T : Txt K mg) : Met P w K mg base 3 (He.ga K "Plain") "write" (sp_Plain_write K) [] :=
  met_of T.cl_Plain T.me_Plain_write T.fd_Plain_write (fun fd F => fo_Plain_write T F) (fun fd F => bi_all F fun _ _ _ _ _ _ us hl => match us, hl with | [_, _], _ => rfl)

local macro_rules | `(tactic| wtm_at "zcall") => `(tactic| (with_reducible apply ap_Plain___init__ O; (· wtm_at "zpk"); (· wtm_at "zpk"); intro l; wtm_at "znx"))
local macro_rules | `(tactic| wtm_at "zcall") => `(tactic| (with_reducible apply ap_Plain_tell O; (· wtm_at "zpk"); wtm_at "znx"))
local macro_rules | `(tactic| wtm_at "zcall") => `(tactic| (with_reducible apply ap_Plain_size O; (· wtm_at "zpk"); wtm_at "znx"))
local macro_rules | `(tactic| wtm_at "zcall") => `(tactic| (with_reducible apply ap_Plain_row O; (· wtm_at "zpk"); intro q; wtm_at "znx"))
local macro_rules | `(tactic| wtm_at "zcall") => `(tactic| (with_reducible apply ap_Plain_write O; (· wtm_at "zpk"); (· wtm_at "zpk"); (· wtm_at "zsd"); (· wtm_at "zsd"); (· wtm_at "zsd"); (· wtm_at "zsd"); intro l'; wtm_at "znx"; try simp only [List.length_cons, List.length_nil, Nat.zero_add, Int.natCast_one, Int.cast_ofNat_Int] at O ⊢))
def sp_goal_asked (K : PySem.W.Frag) : Sp := fun vs H Q _ => ∃ (i : Int) (F : HL), vs = [.int i] ∧ (0 ≤ i) ∧ (i ≤ 4000) ∧ Own H (F) ∧ (Q (.non) H)
theorem len_goal_asked {vs H Q E} (h : sp_goal_asked K vs H Q E) : vs.length = 1 := by
  obtain ⟨i, F, rfl, _⟩ := h
  rfl
theorem ap_goal_asked {H : Hp} {F : HL} {Q : VK} {E : XK} {i : Int} (O : Own H F)  (hp1 : 0 ≤ i) (hp2 : i ≤ 4000) (k : Q (.non) H) : sp_goal_asked K [.int i] H Q E :=
  ⟨i, F, rfl, hp1, hp2, O.sub (.all), k⟩
theorem ok_goal_asked (T : Txt K mg) : Cal P w K mg base 2 "goal_asked" (sp_goal_asked K) [] := by
  have c_length_asked : Cal P w K mg base 1 "length_asked" (sp_length_asked K) [] := (ok_length_asked T).mono (by decide)
  refine cal_nox T.d_goal_asked sc_goal_asked (fun _ _ _ _ _ _ us hl => match us, hl with | [_], _ => rfl) (fun vs H Q E h => len_goal_asked h) (fun cdv A outer s f H vs Q E hr h => ?_)
  refine ⟨_, (pss_cons (ps_if (pt_cmpR op_zLt (pv 0) pe_int (nomark _))
      (pss_one ps_never)
      pss_nil)
      (pss_one (ps_expr (pe_c0 c_length_asked hr (by decide) rfl (pa_cons (pv 0) pa_nil))))), ?_⟩
  try dsimp only [cxOf]
  obtain ⟨i, F, rfl, hp1, hp2, O, k⟩ := h
  wtm_at "zun"
  refine w_start (σ := [some (.int i)]) rfl ?_
  wtm_at "zgo"
  exact k
local macro_rules | `(tactic| wtm_at "zcall") => `(tactic| (with_reducible apply ap_goal_asked O; (· wtm_at "zsd"); (· wtm_at "zsd"); skip))
/-- where a seek leads -/
def goalL (pl cur len : Int) (s : Str) : Int := if s = "tail" then len + pl else if s = "here" then cur + pl else pl
theorem goalL_head {pl cur len : Int} : goalL pl cur len "head" = pl := by unfold goalL; rw [if_neg (by decide +kernel), if_neg (by decide +kernel)]
theorem goalL_here {pl cur len : Int} : goalL pl cur len "here" = cur + pl := by unfold goalL; rw [if_neg (by decide +kernel), if_pos rfl]
theorem goalL_tail {pl cur len : Int} : goalL pl cur len "tail" = len + pl := by unfold goalL; rw [if_pos rfl]
def IsSt (s : Str) : Prop := s = "head" ∨ s = "here" ∨ s = "tail"
theorem st_head : IsSt "head" := .inl rfl
theorem st_here : IsSt "here" := .inr (.inl rfl)
theorem st_tail : IsSt "tail" := .inr (.inr rfl)
local macro_rules | `(tactic| wtm_at "zsd") => `(tactic| first | exact st_head | exact st_here | exact st_tail | (simp only [goalL_head, goalL_here, goalL_tail]; omega))
def sp_goal_of (K : PySem.W.Frag) : Sp := fun vs H Q _ => ∃ (pl cur len : Int) (s : Str) (F : HL), vs = [.int pl, .str s, .int cur, .int len] ∧ (IsSt s) ∧ (0 ≤ goalL pl cur len s ∧ goalL pl cur len s ≤ 4000) ∧ Own H (F) ∧ (Q (.int (goalL pl cur len s)) H)
theorem len_goal_of {vs H Q E} (h : sp_goal_of K vs H Q E) : vs.length = 4 := by
  obtain ⟨pl, cur, len, s, F, rfl, _⟩ := h
  rfl
theorem ap_goal_of {H : Hp} {F : HL} {Q : VK} {E : XK} {pl cur len : Int} {s : Str} (O : Own H F)  (hs : IsSt s) (h0 : 0 ≤ goalL pl cur len s ∧ goalL pl cur len s ≤ 4000) (k : Q (.int (goalL pl cur len s)) H) : sp_goal_of K [.int pl, .str s, .int cur, .int len] H Q E :=
  ⟨pl, cur, len, s, F, rfl, hs, h0, O.sub (.all), k⟩
theorem ok_goal_of (T : Txt K mg) : Cal P w K mg base 3 "goal_of" (sp_goal_of K) [] := by
  have c_goal_asked : Cal P w K mg base 2 "goal_asked" (sp_goal_asked K) [] := (ok_goal_asked T).mono (by decide)
  refine cal_nox T.d_goal_of sc_goal_of (fun _ _ _ _ _ _ us hl => match us, hl with | [_, _, _, _], _ => rfl) (fun vs H Q E h => len_goal_of h) (fun cdv A outer s f H vs Q E hr h => ?_)
  refine ⟨_, (pss_cons (ps_if (pt_cmpR (op_zEq (uI hr)) (pv 1) pe_str (nomark _))
      (pss_one (ps_set (i := 4) sc_goal_of.nd rfl (Or.inl rfl) (pv 0)))
      (pss_one (ps_if (pt_cmpR (op_zEq (uI hr)) (pv 1) pe_str (nomark _))
      (pss_one (ps_set (i := 4) sc_goal_of.nd rfl (Or.inl rfl) (pe_op op_zAdd (pv 2) (pv 0))))
      (pss_one (ps_if (pt_cmpR (op_zEq (uI hr)) (pv 1) pe_str (nomark _))
      (pss_one (ps_set (i := 4) sc_goal_of.nd rfl (Or.inl rfl) (pe_op op_zAdd (pv 3) (pv 0))))
      (pss_one ps_never))))))
      (pss_cons (ps_expr (pe_c0 c_goal_asked hr (by decide) rfl (pa_cons (pv 4) pa_nil)))
      (pss_one (ps_ret (pv 4))))), ?_⟩
  try dsimp only [cxOf]
  obtain ⟨pl, cur, len, s, F, rfl, hs, h0, O, k⟩ := h
  wtm_at "zun"
  refine w_start (σ := [some (.int pl), some (.str s), some (.int cur), some (.int len), none]) rfl ?_
  rcases hs with rfl | rfl | rfl
  all_goals
    simp only [goalL_head, goalL_here, goalL_tail] at h0 k
    wtm_at "zgo"
    exact k
local macro_rules | `(tactic| wtm_at "zcall") => `(tactic| (with_reducible apply ap_goal_of O; (· wtm_at "zsd"); (· wtm_at "zsd"); skip))
def sp_Plain_seek (K : PySem.W.Frag) : Sp := fun vs H Q _ => ∃ (s dx l : Addr) (row : List Int) (pl g : Int) (st : Str) (F : HL), vs = [.ref s, .int g, .str st] ∧ (IsSt st) ∧ (0 ≤ goalL g pl row.length st ∧ goalL g pl row.length st ≤ 4000) ∧ Own H ((plain K s dx l row pl) ++ F) ∧ (∀  (H' : Hp), Own H' ((plain K s dx l row (goalL g pl row.length st)) ++ F) → Q (.int (goalL g pl row.length st)) H')
theorem len_Plain_seek {vs H Q E} (h : sp_Plain_seek K vs H Q E) : vs.length = 3 := by
  obtain ⟨s, dx, l, row, pl, g, st, F, rfl, _⟩ := h
  rfl
theorem ap_Plain_seek {H : Hp} {L F : HL} {Q : VK} {E : XK} {s dx l : Addr} {row : List Int} {pl g : Int} {st : Str} (O : Own H L) (pk1 : Pk L (plain K s dx l row pl) F) (hs : IsSt st) (h0 : 0 ≤ goalL g pl row.length st ∧ goalL g pl row.length st ≤ 4000) (k : ∀ H', Own H' ((plain K s dx l row (goalL g pl row.length st)) ++ F) → Q (.int (goalL g pl row.length st)) H') : sp_Plain_seek K [.ref s, .int g, .str st] H Q E :=
  ⟨s, dx, l, row, pl, g, st, F, rfl, hs, h0, O.sub (.cons pk1 .all), fun  H' O'  => k  H' O'⟩
theorem fo_Plain_seek (T : Txt K mg) {f : Addr} {fd : FuncData} (F : FunD K "seek" "Plain.seek" (defArgs s_Plain_seek) (defBody s_Plain_seek) (defScope s_Plain_seek) [] [("start", .str "head")] f fd) : FnOk P w K mg base (L2.CX P w) 4 f fd ["self", "place", "start"] (sp_Plain_seek K) := by
  have c_goal_of : Cal P w K mg base 3 "goal_of" (sp_goal_of K) [] := (ok_goal_of T).mono (by decide)
  refine fo_nox F sc_Plain_seek (fun vs H Q E h => len_Plain_seek h) (fun cdv A outer s H vs Q E hr h => ?_)
  refine ⟨_, (pss_cons (ps_fld (pv 0) (pe_c0 c_goal_of hr (by decide) rfl (pa_cons (pv 1) (pa_cons (pv 2) (pa_cons (pe_fld (pv 0) rfl) (pa_cons (pe_callB call_zLen rfl T.f_len bt_len (pa_cons (pe_fld (pv 0) rfl) pa_nil)) pa_nil))))) rfl)
      (pss_one (ps_ret (pe_fld (pv 0) rfl)))), ?_⟩
  try dsimp only [cxOf]
  obtain ⟨s, dx, l, row, pl, g, st, F, rfl, hs, h0, O, k⟩ := h
  wtm_at "zun"
  refine w_start (σ := [some (.ref s), some (.int g), some (.str st)]) rfl ?_
  wtm_at "zgo"
  wtm_at "zk"
theorem ok_Plain_seek_1 (T : Txt K mg) : Met P w K mg base 4 (He.ga K "Plain") "seek" (sp_Plain_seek K) [.str "head"] :=
  met_of T.cl_Plain T.me_Plain_seek T.fd_Plain_seek (fun fd F => fo_Plain_seek T F) (fun fd F => F.binds0 2 (by simp) (by decide) fun _ _ _ _ _ _ us ks h1 h2 => match us, ks, h1, h2 with | [_, _], [_], _, _ => ⟨_, _, _, _, _, _, rfl, rfl, rfl⟩)
theorem okk_Plain_seek_1_start (T : Txt K mg) : KMet P w K mg base 4 (He.ga K "Plain") "seek" (sp_Plain_seek K) 1 ["start"] [.at 0, .at 1, .at 2] :=
  kmet_of T.cl_Plain T.me_Plain_seek T.fd_Plain_seek (fun fd F => fo_Plain_seek T F) (fun fd F => kba0 F 2 ["start"] [.at 0, .at 1, .at 2] rfl (fun _ _ _ _ _ _ us ws h1 h2 => match us, ws, h1, h2 with | [_, _], [_], _, _ => rfl))
local macro_rules | `(tactic| wtm_at "zcall") => `(tactic| (with_reducible apply ap_Plain_seek O; (· wtm_at "zpk"); (· wtm_at "zsd"); (· wtm_at "zsd"); wtm_at "znx"; try simp only [goalL_head, goalL_here, goalL_tail] at O ⊢))
def cutL (pl : Int) : V → Int
  | .int m => m
  | _ => pl
def sp_Plain_cut (K : PySem.W.Frag) : Sp := fun vs H Q _ => ∃ (s dx l : Addr) (row : List Int) (pl : Int) (mv : V) (F : HL), vs = [.ref s, mv] ∧ (IsCnt mv) ∧ (0 ≤ cutL pl mv ∧ cutL pl mv ≤ 4000) ∧ Own H ((plain K s dx l row pl) ++ F) ∧ (∀ (l' : Addr) (H' : Hp), Own H' ((plain K s dx l' (row.take (cutL pl mv).toNat) pl) ++ F) → Q (.non) H')
theorem len_Plain_cut {vs H Q E} (h : sp_Plain_cut K vs H Q E) : vs.length = 2 := by
  obtain ⟨s, dx, l, row, pl, mv, F, rfl, _⟩ := h
  rfl
theorem ap_Plain_cut {H : Hp} {L F : HL} {Q : VK} {E : XK} {s dx l : Addr} {row : List Int} {pl : Int} {mv : V} (O : Own H L) (pk1 : Pk L (plain K s dx l row pl) F) (hm : IsCnt mv) (h0 : 0 ≤ cutL pl mv ∧ cutL pl mv ≤ 4000) (k : ∀ (l' : Addr), ∀ H', Own H' ((plain K s dx l' (row.take (cutL pl mv).toNat) pl) ++ F) → Q (.non) H') : sp_Plain_cut K [.ref s, mv] H Q E :=
  ⟨s, dx, l, row, pl, mv, F, rfl, hm, h0, O.sub (.cons pk1 .all), fun l' H' O'  => k l' H' O'⟩
theorem fo_Plain_cut (T : Txt K mg) {f : Addr} {fd : FuncData} (F : FunD K "cut" "Plain.cut" (defArgs s_Plain_cut) (defBody s_Plain_cut) (defScope s_Plain_cut) [.non] [] f fd) : FnOk P w K mg base (L2.CX P w) 3 f fd ["self", "size"] (sp_Plain_cut K) := by
  have c_goal_asked : Cal P w K mg base 2 "goal_asked" (sp_goal_asked K) [] := (ok_goal_asked T).mono (by decide)
  refine fo_nox F sc_Plain_cut (fun vs H Q E h => len_Plain_cut h) (fun cdv A outer s H vs Q E hr h => ?_)
  refine ⟨_, (pss_cons (ps_set (i := 2) sc_Plain_cut.nd rfl (Or.inl rfl) (pe_fld (pv 0) rfl))
      (pss_cons (ps_if (pt_cmpR op_zIsNot (pv 1) pe_non (nomark _))
      (pss_one (ps_set (i := 2) sc_Plain_cut.nd rfl (Or.inl rfl) (pv 1)))
      pss_nil)
      (pss_cons (ps_expr (pe_c0 c_goal_asked hr (by decide) rfl (pa_cons (pv 2) pa_nil)))
      (pss_one (ps_fld (pv 0) (pe_slice sl_z (pe_fld (pv 0) rfl) po_none (po_some (pv 2))) rfl))))), ?_⟩
  try dsimp only [cxOf]
  obtain ⟨s, dx, l, row, pl, mv, F, rfl, hm, h0, O, k⟩ := h
  wtm_at "zun"
  refine w_start (σ := [some (.ref s), some (mv), none]) rfl ?_
  rcases hm with rfl | ⟨m, h1, rfl⟩
  all_goals
    simp only [cutL] at h0 k
    wtm_at "zgo"
    wtm_at "zk"
theorem ok_Plain_cut_0 (T : Txt K mg) : Met P w K mg base 3 (He.ga K "Plain") "cut" (sp_Plain_cut K) [.non] :=
  met_of T.cl_Plain T.me_Plain_cut T.fd_Plain_cut (fun fd F => fo_Plain_cut T F) (fun fd F => F.binds1 1 0 (by decide) (by decide) fun _ _ _ _ _ _ _ us its h1 h2 => match us, its, h1, h2 with | [_], [_], _, _ => ⟨_, rfl, rfl⟩)
theorem ok_Plain_cut_1 (T : Txt K mg) : Met P w K mg base 3 (He.ga K "Plain") "cut" (sp_Plain_cut K) [] :=
  met_of T.cl_Plain T.me_Plain_cut T.fd_Plain_cut (fun fd F => fo_Plain_cut T F) (fun fd F => F.binds1 2 1 (by decide) (by decide) fun _ _ _ _ _ _ _ us its h1 h2 => match us, its, h1, h2 with | [_, _], [_], _, _ => ⟨_, rfl, rfl⟩)
local macro_rules | `(tactic| wtm_at "zsd") => `(tactic| (simp only [cutL]; omega))
local macro_rules | `(tactic| wtm_at "zcall") => `(tactic| (with_reducible apply ap_Plain_cut O; (· wtm_at "zpk"); (· wtm_at "zsd"); (· wtm_at "zsd"); intro l'; wtm_at "znx"; try simp only [cutL] at O))

def sp__law_goal (K : PySem.W.Frag) : Sp := fun vs H Q _ => ∃ (p rr : Addr) (d0 n0 c : Int) (row : List Int) (F : HL), vs = [.ref p, .ref rr] ∧ (0 ≤ d0) ∧ (0 ≤ n0) ∧ (n0 < 3000000000) ∧ (row.length ≤ 5000) ∧ Own H ((pool p d0 n0 c) ++ (([(rr, .lst (row.map V.int))]) ++ F)) ∧ (∀ (x d' n' : Int) (H' : Hp), Own H' ((pool p d' n' c) ++ (([(rr, .lst (row.map V.int))]) ++ F)) → (0 ≤ x) → (x ≤ 4000 ∨ x ≤ row.length + 20) → (0 ≤ d') → (n0 ≤ n' ∧ n' ≤ n0 + 3) → Q (.int x) H')
theorem len__law_goal {vs H Q E} (h : sp__law_goal K vs H Q E) : vs.length = 2 := by
  obtain ⟨p, rr, d0, n0, c, row, F, rfl, _⟩ := h
  rfl
theorem ap__law_goal {H : Hp} {L R1 F : HL} {Q : VK} {E : XK} {p rr : Addr} {d0 n0 c : Int} {row : List Int} (O : Own H L) (pk1 : Pk L (pool p d0 n0 c) R1) (pk2 : Pk R1 ([(rr, .lst (row.map V.int))]) F) (hp1 : 0 ≤ d0) (hp2 : 0 ≤ n0) (hp3 : n0 < 3000000000) (hp4 : row.length ≤ 5000) (k : ∀ (x d' n' : Int), (0 ≤ x) → (x ≤ 4000 ∨ x ≤ row.length + 20) → (0 ≤ d') → (n0 ≤ n' ∧ n' ≤ n0 + 3) → ∀ H', Own H' ((pool p d' n' c) ++ (([(rr, .lst (row.map V.int))]) ++ F)) → Q (.int x) H') : sp__law_goal K [.ref p, .ref rr] H Q E :=
  ⟨p, rr, d0, n0, c, row, F, rfl, hp1, hp2, hp3, hp4, O.sub (.cons pk1 (.cons pk2 .all)), fun x d' n' H' O' q0 q1 q2 q3 => k x d' n' q0 q1 q2 q3 H' O'⟩
theorem ok__law_goal (T : Txt K mg) : Cal P w K mg base 2 "_law_goal" (sp__law_goal K) [] := by
  have c__law_take : Cal P w K mg base 1 "_law_take" (sp__law_take K) [] := (ok__law_take T).mono (by decide)
  refine cal_nox T.d__law_goal sc__law_goal (fun _ _ _ _ _ _ us hl => match us, hl with | [_, _], _ => rfl) (fun vs H Q E h => len__law_goal h) (fun cdv A outer s f H vs Q E hr h => ?_)
  refine ⟨_, (pss_cons (ps_set (i := 2) sc__law_goal.nd rfl (Or.inl rfl) (pe_c0 c__law_take hr (by decide) rfl (pa_cons (pv 0) (pa_cons pe_int pa_nil))))
      (pss_cons (ps_if (pt_cmpR op_zLt (pv 2) pe_int (nomark _))
      (pss_one (ps_ret (pe_c0 c__law_take hr (by decide) rfl (pa_cons (pv 0) (pa_cons (pe_op op_zAdd (pe_callB call_zLen rfl T.f_len bt_len (pa_cons (pv 1) pa_nil)) pe_int) pa_nil)))))
      pss_nil)
      (pss_one (ps_ret (pe_ix ix_seq (pe_lst (pa_cons (pe_callB call_zLen rfl T.f_len bt_len (pa_cons (pv 1) pa_nil)) (pa_cons (pe_op op_zAdd (pe_callB call_zLen rfl T.f_len bt_len (pa_cons (pv 1) pa_nil)) (pe_c0 c__law_take hr (by decide) rfl (pa_cons (pv 0) (pa_cons pe_int pa_nil)))) (pa_cons (pe_c0 c__law_take hr (by decide) rfl (pa_cons (pv 0) (pa_cons pe_int pa_nil))) pa_nil)))) (pe_op op_zSub (pv 2) pe_int) (fun _ _ => rfl)))))), ?_⟩
  try dsimp only [cxOf]
  obtain ⟨p, rr, d0, n0, c, row, F, rfl, hp1, hp2, hp3, hp4, O, k⟩ := h
  wtm_at "zun"
  refine w_start (σ := [some (.ref p), some (.ref rr), none]) rfl ?_
  wtm_at "zgo"
  · wtm_at "zk"
  · generalize hpl : ([_, _, _] : List Int).getD _ 0 = pl
    have hp : 0 ≤ pl ∧ (pl ≤ 4000 ∨ pl ≤ row.length + 20) := by
      rw [← hpl]
      refine mem_menu (P := fun x => 0 ≤ x ∧ (x ≤ 4000 ∨ x ≤ row.length + 20)) (by omega) (by simp only [List.length_cons, List.length_nil]; omega) fun x hx => ?_
      simp only [List.mem_cons, List.not_mem_nil, or_false] at hx
      omega
    wtm_at "zk"
local macro_rules | `(tactic| wtm_at "zcall") => `(tactic| (with_reducible apply ap__law_goal O; (· wtm_at "zpk"); (· wtm_at "zpk"); (· wtm_at "zsd"); (· wtm_at "zsd"); (· wtm_at "zsd"); (· wtm_at "zsd"); intro x d' n' hq1 hq2 hq3 hq4; wtm_at "znx"))
def sp__law_sought (K : PySem.W.Frag) : Sp := fun vs H Q _ => ∃ (s dx l rr : Addr) (row : List Int) (pl way g : Int) (F : HL), vs = [.ref s, .int way, .int g, .ref rr, .int pl] ∧ (0 ≤ g ∧ g ≤ 4000) ∧ (0 ≤ way) ∧ Own H ((plain K s dx l row pl) ++ (([(rr, .lst (row.map V.int))]) ++ F)) ∧ (∀  (H' : Hp), Own H' ((plain K s dx l row g) ++ (([(rr, .lst (row.map V.int))]) ++ F)) → Q (.int g) H')
theorem len__law_sought {vs H Q E} (h : sp__law_sought K vs H Q E) : vs.length = 5 := by
  obtain ⟨s, dx, l, rr, row, pl, way, g, F, rfl, _⟩ := h
  rfl
theorem ap__law_sought {H : Hp} {L R1 F : HL} {Q : VK} {E : XK} {s dx l rr : Addr} {row : List Int} {pl way g : Int} (O : Own H L) (pk1 : Pk L (plain K s dx l row pl) R1) (pk2 : Pk R1 ([(rr, .lst (row.map V.int))]) F) (h0 : 0 ≤ g ∧ g ≤ 4000) (h1 : 0 ≤ way) (k : ∀ H', Own H' ((plain K s dx l row g) ++ (([(rr, .lst (row.map V.int))]) ++ F)) → Q (.int g) H') : sp__law_sought K [.ref s, .int way, .int g, .ref rr, .int pl] H Q E :=
  ⟨s, dx, l, rr, row, pl, way, g, F, rfl, h0, h1, O.sub (.cons pk1 (.cons pk2 .all)), fun  H' O'  => k  H' O'⟩
theorem ok__law_sought (T : Txt K mg) : Cal P w K mg base 5 "_law_sought" (sp__law_sought K) [] := by
  have m_Plain_seek_1 : Met P w K mg base 4 (He.ga K "Plain") "seek" (sp_Plain_seek K) [.str "head"] := (ok_Plain_seek_1 T).mono (by decide)
  have km_Plain_seek_1_start : KMet P w K mg base 4 (He.ga K "Plain") "seek" (sp_Plain_seek K) 1 ["start"] [.at 0, .at 1, .at 2] := (okk_Plain_seek_1_start T).mono (by decide)
  refine cal_nox T.d__law_sought sc__law_sought (fun _ _ _ _ _ _ us hl => match us, hl with | [_, _, _, _, _], _ => rfl) (fun vs H Q E h => len__law_sought h) (fun cdv A outer s f H vs Q E hr h => ?_)
  refine ⟨_, (pss_cons (ps_if (pt_cmpR (op_zEq (uI hr)) (pv 1) pe_int (nomark _))
      (pss_one (ps_ret (pe_mc m_Plain_seek_1 hr (by decide) (pv 0) (pa_cons (pv 2) pa_nil))))
      pss_nil)
      (pss_cons (ps_if (pt_cmpR (op_zEq (uI hr)) (pv 1) pe_int (nomark _))
      (pss_one (ps_ret (pe_mkw km_Plain_seek_1_start hr (by decide) (pv 0) (pa_cons (pv 2) pa_nil) (pk_cons pe_str pk_nil))))
      pss_nil)
      (pss_cons (ps_if (pt_cmpR (op_zEq (uI hr)) (pv 1) pe_int (nomark _))
      (pss_one (ps_ret (pe_mkw km_Plain_seek_1_start hr (by decide) (pv 0) (pa_cons (pe_op op_zSub (pv 2) (pv 4)) pa_nil) (pk_cons pe_str pk_nil))))
      pss_nil)
      (pss_one (ps_ret (pe_mkw km_Plain_seek_1_start hr (by decide) (pv 0) (pa_cons (pe_op op_zSub (pv 2) (pe_callB call_zLen rfl T.f_len bt_len (pa_cons (pv 3) pa_nil))) pa_nil) (pk_cons pe_str pk_nil))))))), ?_⟩
  try dsimp only [cxOf]
  obtain ⟨s, dx, l, rr, row, pl, way, g, F, rfl, h0, h1, O, k⟩ := h
  wtm_at "zun"
  refine w_start (σ := [some (.ref s), some (.int way), some (.int g), some (.ref rr), some (.int pl)]) rfl ?_
  wtm_at "zgo"
  all_goals try rw [show pl + (g - pl) = g by omega] at O ⊢
  all_goals try rw [show (row.length : Int) + (g - row.length) = g by omega] at O ⊢
  all_goals wtm_at "zk"
local macro_rules | `(tactic| wtm_at "zcall") => `(tactic| (with_reducible apply ap__law_sought O; (· wtm_at "zpk"); (· wtm_at "zpk"); (· wtm_at "zsd"); (· wtm_at "zsd"); wtm_at "znx"))
def sp__law_cut (K : PySem.W.Frag) : Sp := fun vs H Q _ => ∃ (s dx l : Addr) (row : List Int) (pl way g : Int) (F : HL), vs = [.ref s, .int way, .int g] ∧ (0 ≤ g ∧ g ≤ 4000) ∧ (0 ≤ pl ∧ pl ≤ 4000) ∧ (way < 2 → g = pl) ∧ Own H ((plain K s dx l row pl) ++ F) ∧ (∀ (l' : Addr) (H' : Hp), Own H' ((plain K s dx l' (row.take g.toNat) pl) ++ F) → Q (.non) H')
theorem len__law_cut {vs H Q E} (h : sp__law_cut K vs H Q E) : vs.length = 3 := by
  obtain ⟨s, dx, l, row, pl, way, g, F, rfl, _⟩ := h
  rfl
theorem ap__law_cut {H : Hp} {L F : HL} {Q : VK} {E : XK} {s dx l : Addr} {row : List Int} {pl way g : Int} (O : Own H L) (pk1 : Pk L (plain K s dx l row pl) F) (h0 : 0 ≤ g ∧ g ≤ 4000) (h1 : 0 ≤ pl ∧ pl ≤ 4000) (h2 : way < 2 → g = pl) (k : ∀ (l' : Addr), ∀ H', Own H' ((plain K s dx l' (row.take g.toNat) pl) ++ F) → Q (.non) H') : sp__law_cut K [.ref s, .int way, .int g] H Q E :=
  ⟨s, dx, l, row, pl, way, g, F, rfl, h0, h1, h2, O.sub (.cons pk1 .all), fun l' H' O'  => k l' H' O'⟩
theorem ok__law_cut (T : Txt K mg) : Cal P w K mg base 4 "_law_cut" (sp__law_cut K) [] := by
  have m_Plain_cut_0 : Met P w K mg base 3 (He.ga K "Plain") "cut" (sp_Plain_cut K) [.non] := (ok_Plain_cut_0 T).mono (by decide)
  have m_Plain_cut_1 : Met P w K mg base 3 (He.ga K "Plain") "cut" (sp_Plain_cut K) [] := (ok_Plain_cut_1 T).mono (by decide)
  refine cal_nox T.d__law_cut sc__law_cut (fun _ _ _ _ _ _ us hl => match us, hl with | [_, _, _], _ => rfl) (fun vs H Q E h => len__law_cut h) (fun cdv A outer s f H vs Q E hr h => ?_)
  refine ⟨_, (pss_cons (ps_if (pt_cmpR (op_zEq (uI hr)) (pv 1) pe_int (nomark _))
      (pss_one (ps_ret (pe_m0c m_Plain_cut_0 hr (by decide) (pv 0))))
      pss_nil)
      (pss_cons (ps_if (pt_cmpR (op_zEq (uI hr)) (pv 1) pe_int (nomark _))
      (pss_one (ps_ret (pe_mc m_Plain_cut_1 hr (by decide) (pv 0) (pa_cons pe_non pa_nil))))
      pss_nil)
      (pss_one (ps_ret (pe_mc m_Plain_cut_1 hr (by decide) (pv 0) (pa_cons (pv 2) pa_nil)))))), ?_⟩
  try dsimp only [cxOf]
  obtain ⟨s, dx, l, row, pl, way, g, F, rfl, h0, h1, h2, O, k⟩ := h
  wtm_at "zun"
  refine w_start (σ := [some (.ref s), some (.int way), some (.int g)]) rfl ?_
  wtm_at "zgo"
  · obtain rfl : g = pl := by omega
    wtm_at "zk"
  · obtain rfl : g = pl := by omega
    wtm_at "zk"
  · wtm_at "zk"
local macro_rules | `(tactic| wtm_at "zcall") => `(tactic| (with_reducible apply ap__law_cut O; (· wtm_at "zpk"); (· wtm_at "zsd"); (· wtm_at "zsd"); (· wtm_at "zsd"); intro l'; wtm_at "znx"))
theorem laid_one (row : List Int) (pl k : Int) (h : 0 ≤ pl) : (row ++ List.replicate (pl - row.length).toNat 0).take pl.toNat ++ [k] ++ row.drop (pl + 1).toNat = laidL row pl [k] := by
  unfold laidL
  simp only [List.length_cons, List.length_nil]
  rw [if_neg (by decide)]
  congr 1
  rw [List.drop_append]
  by_cases c : pl.toNat + 1 ≤ row.length
  · rw [show (pl - row.length).toNat = 0 by omega]
    simp
  · rw [List.drop_eq_nil_of_le (by omega)]
    simp only [List.drop_replicate]
    rw [List.drop_eq_nil_of_le (by omega), show ((pl - ↑row.length).toNat - ((pl + ((0 + 1 : Nat) : Int)).toNat - row.length)) = 0 by omega]
    rfl
def sp_law (K : PySem.W.Frag) : Sp := fun vs H Q _ => ∃ (a : Addr) (ns : List Int), vs = [.ref a] ∧ SqL K H a (ns.map V.int) ∧ ns.length ≤ 63 ∧ ∀ H', Q (.bl true) H'
theorem ok_law (T : Txt K mg) {f : Addr} {fd : FuncData} (F : FunD K "law" "law" (defArgs s_law) (defBody s_law) (defScope s_law) [] [] f fd) : FnOk P w K mg base CX0 7 f fd ["_law_script"] (sp_law K) := by
  have c__law_pool : Cal P w K mg base 6 "_law_pool" (sp__law_pool K) [] := (ok__law_pool T).mono (by decide)
  have c__law_bytes : Cal P w K mg base 6 "_law_bytes" (sp__law_bytes K) [] := (ok__law_bytes T).mono (by decide)
  have c__law_goal : Cal P w K mg base 6 "_law_goal" (sp__law_goal K) [] := (ok__law_goal T).mono (by decide)
  have k_Plain_2 : Mak P w K mg base 5 "Plain" (He.ga K "Plain") (sp_Plain___init__ K) [] := (mk_Plain_2 T).mono (by decide)
  have c__law_take : Cal P w K mg base 6 "_law_take" (sp__law_take K) [] := (ok__law_take T).mono (by decide)
  have c__law_sought : Cal P w K mg base 6 "_law_sought" (sp__law_sought K) [] := (ok__law_sought T).mono (by decide)
  have c__law_cut : Cal P w K mg base 6 "_law_cut" (sp__law_cut K) [] := (ok__law_cut T).mono (by decide)
  have m_Plain_write_1 : Met P w K mg base 6 (He.ga K "Plain") "write" (sp_Plain_write K) [] := (ok_Plain_write_1 T).mono (by decide)
  have m_Plain_tell_0 : Met P w K mg base 6 (He.ga K "Plain") "tell" (sp_Plain_tell K) [] := (ok_Plain_tell_0 T).mono (by decide)
  have m_Plain_size_0 : Met P w K mg base 6 (He.ga K "Plain") "size" (sp_Plain_size K) [] := (ok_Plain_size_0 T).mono (by decide)
  have c__law_fits : Cal P w K mg base 6 "_law_fits" (sp__law_fits K) [] := (ok__law_fits T).mono (by decide)
  have m_Plain_row_0 : Met P w K mg base 6 (He.ga K "Plain") "row" (sp_Plain_row K) [] := (ok_Plain_row_0 T).mono (by decide)
  refine law_nox F sc_law (fun vs H Q E h => (by obtain ⟨a, ns, rfl, _⟩ := h; rfl)) (fun cdv A outer s H vs Q E hr h => ?_)
  refine ⟨_, (pss_cons (ps_set (i := 1) sc_law.nd rfl (Or.inl rfl) (pe_c0 c__law_pool hr (by decide) rfl (pa_cons (pv 0) (pa_cons pe_int pa_nil))))
      (pss_cons (ps_set (i := 2) sc_law.nd rfl (Or.inl rfl) (pe_c0 c__law_bytes hr (by decide) rfl (pa_cons (pv 1) (pa_cons (pe_lst (pa_cons pe_int (pa_cons pe_int (pa_cons pe_int (pa_cons pe_int (pa_cons pe_int (pa_cons pe_int (pa_cons pe_int (pa_cons pe_int (pa_cons pe_int pa_nil)))))))))) pa_nil))))
      (pss_cons (ps_set (i := 3) sc_law.nd rfl (Or.inl rfl) (pe_c0 c__law_goal hr (by decide) rfl (pa_cons (pv 1) (pa_cons (pv 2) pa_nil))))
      (pss_cons (ps_set (i := 4) sc_law.nd rfl (Or.inl rfl) (pe_mkc k_Plain_2 hr (by decide) rfl (pa_cons (pe_callTy call_zList rfl T.f_list bt_list (pa_cons (pv 2) pa_nil)) (pa_cons (pv 3) pa_nil))))
      (pss_cons (ps_for PassesOwn.never rfl (pi_range2 rfl T.f_range (pa_cons pe_int (pa_cons (pe_callB (call_zMax rfl) rfl T.f_max bt_max (pa_cons pe_int (pa_cons (pe_callB (call_zMin rfl) rfl T.f_min bt_min (pa_cons pe_int (pa_cons (pe_callB call_zLen rfl T.f_len bt_len (pa_cons (pv 0) pa_nil)) pa_nil))) pa_nil))) pa_nil))) (pg_name (i := 5) sc_law.nd rfl (Or.inl rfl))
      (pss_cons (ps_set (i := 1) sc_law.nd rfl (Or.inl rfl) (pe_c0 c__law_pool hr (by decide) rfl (pa_cons (pv 0) (pa_cons (pv 5) pa_nil))))
      (pss_cons (ps_set (i := 6) sc_law.nd rfl (Or.inl rfl) (pe_c0 c__law_take hr (by decide) rfl (pa_cons (pv 1) (pa_cons pe_int pa_nil))))
      (pss_cons (ps_set (i := 7) sc_law.nd rfl (Or.inl rfl) (pe_callB (call_zMin rfl) rfl T.f_min bt_min (pa_cons pe_int (pa_cons (pe_c0 c__law_goal hr (by decide) rfl (pa_cons (pv 1) (pa_cons (pv 2) pa_nil))) pa_nil))))
      (pss_cons (ps_if (pt_cmpR op_zLt (pv 6) pe_int (nomark _))
      (pss_cons (ps_set (i := 8) sc_law.nd rfl (Or.inl rfl) (pe_c0 c__law_sought hr (by decide) rfl (pa_cons (pv 4) (pa_cons (pv 6) (pa_cons (pv 7) (pa_cons (pv 2) (pa_cons (pv 3) pa_nil)))))))
      (pss_cons (ps_if (PW.pt (pw_or (pt_z (pe_callB call_zIsi rfl T.f_isinstance bt_isinstance (pa_cons (pv 8) (pa_cons (pe_bltn (v := .ty "bool") rfl T.f_bool bt_bool rfl) pa_nil)))) (pw_or (pt_not (pt_z (pe_callB call_zIsi rfl T.f_isinstance bt_isinstance (pa_cons (pv 8) (pa_cons (pe_bltn (v := .ty "int") rfl T.f_int bt_int rfl) pa_nil))))) (pw_or1 (pt_cmpR (op_zNe (uI hr)) (pv 8) (pv 7) (nomark _))))))
      (pss_one (ps_ret pe_bl))
      pss_nil)
      (pss_one (ps_set (i := 3) sc_law.nd rfl (Or.inl rfl) (pv 7)))))
      (pss_one (ps_if (pt_cmpR op_zLt (pv 6) pe_int (nomark _))
      (pss_cons (ps_if (pt_cmpR op_zLt (pv 6) pe_int (nomark _))
      (pss_one (ps_set (i := 7) sc_law.nd rfl (Or.inl rfl) (pv 3)))
      pss_nil)
      (pss_cons (ps_if (pt_cmpR op_zIsNot (pe_c0 c__law_cut hr (by decide) rfl (pa_cons (pv 4) (pa_cons (pe_op op_zSub (pv 6) pe_int) (pa_cons (pv 7) pa_nil)))) pe_non (nomark _))
      (pss_one (ps_ret pe_bl))
      pss_nil)
      (pss_one (ps_set (i := 2) sc_law.nd rfl (Or.inl rfl) (pe_slice sl_z (pv 2) po_none (po_some (pv 7)))))))
      (pss_one (ps_if (pt_cmpR op_zLt (pv 3) pe_int (nomark _))
      (pss_cons (ps_if (pt_cmpR (op_zNe (uI hr)) (pe_mc m_Plain_write_1 hr (by decide) (pv 4) (pa_cons (pe_lst (pa_cons (pv 5) pa_nil)) pa_nil)) pe_int (nomark _))
      (pss_one (ps_ret pe_bl))
      pss_nil)
      (pss_cons (ps_set (i := 2) sc_law.nd rfl (Or.inl rfl) (pe_op op_zAdd (pe_op op_zAdd (pe_slice sl_z (pe_op op_zAdd (pv 2) (pe_lc (own := [("_law_j", 9)]) (g := (gName 9)) (tt := tYes) (te := (tC (.int 0))) rfl sc_law.nd (pi_range2 rfl T.f_range (pa_cons (pe_callB call_zLen rfl T.f_len bt_len (pa_cons (pv 2) pa_nil)) (pa_cons (pv 3) pa_nil))) (blkOk_by (own := [("_law_j", 9)]) (N := ["_law_script", "_law_pool_here", "_law_row", "_law_place", "_law_file", "_law_k", "_law_way", "_law_goal_here", "_law_found", "_law_j"]) (sc := defScope s_law) (by decide +kernel)) (fun _ _ _ _ _ => by exact (pg_name (i := 9) sc_law.nd rfl (Or.inl rfl))) (fun _ _ _ _ _ => by exact pts_nil) (fun _ _ _ _ _ => by exact pe_int))) po_none (po_some (pv 3))) (pe_lst (pa_cons (pv 5) pa_nil))) (pe_slice sl_z (pv 2) (po_some (pe_op op_zAdd (pv 3) pe_int)) po_none)))
      (pss_one (ps_set (i := 3) sc_law.nd rfl (Or.inl rfl) (pe_op op_zAdd (pv 3) pe_int)))))
      pss_nil)))))
      (pss_one (ps_if (PW.pt (pw_or (pt_cmpR (op_zNe (uI hr)) (pe_m0c m_Plain_tell_0 hr (by decide) (pv 4)) (pv 3) (nomark _)) (pw_or (pt_cmpR (op_zNe (uI hr)) (pe_m0c m_Plain_size_0 hr (by decide) (pv 4)) (pe_callB call_zLen rfl T.f_len bt_len (pa_cons (pv 2) pa_nil)) (nomark _)) (pw_or1 (pt_not (pt_z (pe_c0 c__law_fits hr (by decide) rfl (pa_cons (pe_m0c m_Plain_row_0 hr (by decide) (pv 4)) (pa_cons (pv 2) pa_nil)))))))))
      (pss_one (ps_ret pe_bl))
      pss_nil)))))))
      (pss_one (ps_ret pe_bl))))))), ?_⟩
  try dsimp only [cxOf]
  obtain ⟨a, ns, rfl, hq, hlen, k⟩ := h
  obtain ⟨S, hS, O⟩ := scr_of hq
  clear hq
  refine w_start (σ := [some (.ref a), none, none, none, none, none, none, none, none, none]) rfl ?_
  wtm_at "zn"
  wtm_at "zn"
  simp only [List.mem_cons, List.not_mem_nil, or_false] at hq1
  wtm_at "zn"
  wtm_at "zn"
  wtm_at "zn"
  refine w_forR (lo := 1) (fun i σ H => ∃ (rw fl dx l : Addr) (row : List Int) (pl : Int) (vp v1 v2 v3 v4 v5 : Option V), σ = [some (.ref a), vp, some (.ref rw), some (.int pl), some (.ref fl), v1, v2, v3, v4, v5] ∧ Own H (plain K fl dx l row pl ++ ([(rw, .lst (row.map V.int))] ++ S)) ∧ 0 ≤ pl ∧ pl ≤ 4000 ∧ row.length ≤ 4000) ?_ ?_ ?_
  · wtm_at "zinv"
  · rintro i σ H hi ⟨rw, fl, dx, l, row, pl, vp, v1, v2, v3, v4, v5, rfl, O, g1, g2, g3⟩
    wtm_at "zm"
    wtm_at "zn"
    wtm_at "zn"
    wtm_at "zn"
    wtm_at "zn"
    · wtm_at "zgo"
      wtm_at "zinv"
    · wtm_at "zgo"
      all_goals wtm_at "zinv"
      all_goals simp only [List.length_take]
      all_goals omega
    · have e1 := (laid_one row pl (1 + (i : Int)) g1).symm
      have e2 := congrArg List.length e1
      have hln := laidL_len row pl [1 + (i : Int)] g1
      rw [if_neg (by simp)] at hln
      simp only [List.length_cons, List.length_nil] at hln
      wtm_at "zgo"
      rw [← e1] at O
      wtm_at "zinv"
    · wtm_at "zgo"
      wtm_at "zinv"
  · rintro σ H ⟨rw, fl, dx, l, row, pl, vp, v1, v2, v3, v4, v5, rfl, O, g1, g2, g3⟩
    wtm_at "zgo"
    exact k _
end
def D_is_byte : He.DefD := ⟨("is_byte", none), "is_byte", "is_byte", defArgs s_is_byte, defBody s_is_byte, defScope s_is_byte, [], []⟩
def D_count_asked : He.DefD := ⟨("count_asked", none), "count_asked", "count_asked", defArgs s_count_asked, defBody s_count_asked, defScope s_count_asked, [], []⟩
def D_bytes_asked : He.DefD := ⟨("bytes_asked", none), "bytes_asked", "bytes_asked", defArgs s_bytes_asked, defBody s_bytes_asked, defScope s_bytes_asked, [], []⟩
def D_length_asked : He.DefD := ⟨("length_asked", none), "length_asked", "length_asked", defArgs s_length_asked, defBody s_length_asked, defScope s_length_asked, [], []⟩
def D_goal_asked : He.DefD := ⟨("goal_asked", none), "goal_asked", "goal_asked", defArgs s_goal_asked, defBody s_goal_asked, defScope s_goal_asked, [], []⟩
def D_goal_of : He.DefD := ⟨("goal_of", none), "goal_of", "goal_of", defArgs s_goal_of, defBody s_goal_of, defScope s_goal_of, [], []⟩
def D_laid : He.DefD := ⟨("laid", none), "laid", "laid", defArgs s_laid, defBody s_laid, defScope s_laid, [], []⟩
def D__law_pool : He.DefD := ⟨("_law_pool", none), "_law_pool", "_law_pool", defArgs s__law_pool, defBody s__law_pool, defScope s__law_pool, [], []⟩
def D__law_take : He.DefD := ⟨("_law_take", none), "_law_take", "_law_take", defArgs s__law_take, defBody s__law_take, defScope s__law_take, [], []⟩
def D__law_bytes : He.DefD := ⟨("_law_bytes", none), "_law_bytes", "_law_bytes", defArgs s__law_bytes, defBody s__law_bytes, defScope s__law_bytes, [], []⟩
def D__law_fits : He.DefD := ⟨("_law_fits", none), "_law_fits", "_law_fits", defArgs s__law_fits, defBody s__law_fits, defScope s__law_fits, [], []⟩
def D__law_goal : He.DefD := ⟨("_law_goal", none), "_law_goal", "_law_goal", defArgs s__law_goal, defBody s__law_goal, defScope s__law_goal, [], []⟩
def D__law_sought : He.DefD := ⟨("_law_sought", none), "_law_sought", "_law_sought", defArgs s__law_sought, defBody s__law_sought, defScope s__law_sought, [], []⟩
def D__law_cut : He.DefD := ⟨("_law_cut", none), "_law_cut", "_law_cut", defArgs s__law_cut, defBody s__law_cut, defScope s__law_cut, [], []⟩
def D_law : He.DefD := ⟨("law", none), "law", "law", defArgs s_law, defBody s_law, defScope s_law, [], []⟩
def D_Plain___init__ : He.DefD := ⟨("Plain", some "__init__"), "__init__", "Plain.__init__", defArgs s_Plain___init__, defBody s_Plain___init__, defScope s_Plain___init__, [.int 0], []⟩
def D_Plain_write : He.DefD := ⟨("Plain", some "write"), "write", "Plain.write", defArgs s_Plain_write, defBody s_Plain_write, defScope s_Plain_write, [], []⟩
def D_Plain_seek : He.DefD := ⟨("Plain", some "seek"), "seek", "Plain.seek", defArgs s_Plain_seek, defBody s_Plain_seek, defScope s_Plain_seek, [], [("start", .str "head")]⟩
def D_Plain_cut : He.DefD := ⟨("Plain", some "cut"), "cut", "Plain.cut", defArgs s_Plain_cut, defBody s_Plain_cut, defScope s_Plain_cut, [.non], []⟩
def D_Plain_tell : He.DefD := ⟨("Plain", some "tell"), "tell", "Plain.tell", defArgs s_Plain_tell, defBody s_Plain_tell, defScope s_Plain_tell, [], []⟩
def D_Plain_size : He.DefD := ⟨("Plain", some "size"), "size", "Plain.size", defArgs s_Plain_size, defBody s_Plain_size, defScope s_Plain_size, [], []⟩
def D_Plain_row : He.DefD := ⟨("Plain", some "row"), "row", "Plain.row", defArgs s_Plain_row, defBody s_Plain_row, defScope s_Plain_row, [], []⟩
def fn : List He.DefD := [D_is_byte, D_count_asked, D_bytes_asked, D_length_asked, D_goal_asked, D_goal_of, D_laid, D__law_pool, D__law_take, D__law_bytes, D__law_fits, D__law_goal, D__law_sought, D__law_cut, D_law, D_Plain___init__, D_Plain_write, D_Plain_seek, D_Plain_cut, D_Plain_tell, D_Plain_size, D_Plain_row]
def fa : List He.Fa := [.glo "is_byte", .glo "count_asked", .glo "bytes_asked", .glo "length_asked", .glo "goal_asked", .glo "goal_of", .glo "laid", .glo "_law_pool", .glo "_law_take", .glo "_law_bytes", .glo "_law_fits", .glo "_law_goal", .glo "_law_sought", .glo "_law_cut", .glo "law", .free "all", .free "bool", .free "enumerate", .free "int", .free "isinstance", .free "len", .free "list", .free "max", .free "min", .free "range", .int "GREATEST" 255, .int "LONGEST" 4000, .glo "Plain", .cls "Plain", .mkr "Plain", .noat "Plain" "stock", .noat "Plain" "cursor", .meth "Plain" "__init__", .meth "Plain" "write", .meth "Plain" "seek", .meth "Plain" "cut", .meth "Plain" "tell", .meth "Plain" "size", .meth "Plain" "row"]
abbrev R : PySem.W.OpenRow := PySem.W.OpenLaw.row PySem.Challenge.rw_sipstack_k21_plain_seek_and_cut
abbrev hk : PySem.W.Hook := He.hookD 6 fa fn
def ob (s : PySem.W.SharedT) : He.AlD := He.obsDG 6 fa fn (HandSHeadRun.getT s)
theorem ob_eq (s : PySem.W.SharedT) : ob s = hk.obs s.abs := He.obsDG_eq (HandSHeadRun.getT_eq s)
abbrev loose : List Str := ["_wall", "SipError", "BadCount", "BadStart", "TooLong", "BadPlace", "NotByte", "LONGEST", "GREATEST", "is_byte", "count_asked", "bytes_asked", "length_asked", "goal_asked", "goal_of", "laid", "LINE_FEED", "Plain", "_law_pool", "_law_take", "_law_bytes", "_law_fits", "_law_goal", "_law_sought", "_law_cut"]
theorem run (w : World) : HandSHeadRun.RunEq R (PySem.W.view R.prog [30]) hk ob 6000 loose w := by
  intro os
  kernel_rfl
theorem txt_of {K : PySem.W.Frag} {h : Heap} {mg : Str → Option Value} (X : K.In h) (G : h.Ns mainGlobals mg) (c : He.SaysD fa fn K) : Txt K mg where
  f_all := He.free_ok X G (c.fact 15 (f := .free "all") rfl)
  f_bool := He.free_ok X G (c.fact 16 (f := .free "bool") rfl)
  f_enumerate := He.free_ok X G (c.fact 17 (f := .free "enumerate") rfl)
  f_int := He.free_ok X G (c.fact 18 (f := .free "int") rfl)
  f_isinstance := He.free_ok X G (c.fact 19 (f := .free "isinstance") rfl)
  f_len := He.free_ok X G (c.fact 20 (f := .free "len") rfl)
  f_list := He.free_ok X G (c.fact 21 (f := .free "list") rfl)
  f_max := He.free_ok X G (c.fact 22 (f := .free "max") rfl)
  f_min := He.free_ok X G (c.fact 23 (f := .free "min") rfl)
  f_range := He.free_ok X G (c.fact 24 (f := .free "range") rfl)
  c_GREATEST := He.int_ok X G (c.fact 25 (f := .int "GREATEST" 255) rfl)
  c_LONGEST := He.int_ok X G (c.fact 26 (f := .int "LONGEST" 4000) rfl)
  d_is_byte := let ⟨fd, F⟩ := c.def_ 0 (d := D_is_byte) rfl; ⟨_, fd, F, He.glo_ok X G (c.fact 0 (f := .glo "is_byte") rfl)⟩
  d_count_asked := let ⟨fd, F⟩ := c.def_ 1 (d := D_count_asked) rfl; ⟨_, fd, F, He.glo_ok X G (c.fact 1 (f := .glo "count_asked") rfl)⟩
  d_bytes_asked := let ⟨fd, F⟩ := c.def_ 2 (d := D_bytes_asked) rfl; ⟨_, fd, F, He.glo_ok X G (c.fact 2 (f := .glo "bytes_asked") rfl)⟩
  d_length_asked := let ⟨fd, F⟩ := c.def_ 3 (d := D_length_asked) rfl; ⟨_, fd, F, He.glo_ok X G (c.fact 3 (f := .glo "length_asked") rfl)⟩
  d_goal_asked := let ⟨fd, F⟩ := c.def_ 4 (d := D_goal_asked) rfl; ⟨_, fd, F, He.glo_ok X G (c.fact 4 (f := .glo "goal_asked") rfl)⟩
  d_goal_of := let ⟨fd, F⟩ := c.def_ 5 (d := D_goal_of) rfl; ⟨_, fd, F, He.glo_ok X G (c.fact 5 (f := .glo "goal_of") rfl)⟩
  d_laid := let ⟨fd, F⟩ := c.def_ 6 (d := D_laid) rfl; ⟨_, fd, F, He.glo_ok X G (c.fact 6 (f := .glo "laid") rfl)⟩
  d__law_pool := let ⟨fd, F⟩ := c.def_ 7 (d := D__law_pool) rfl; ⟨_, fd, F, He.glo_ok X G (c.fact 7 (f := .glo "_law_pool") rfl)⟩
  d__law_take := let ⟨fd, F⟩ := c.def_ 8 (d := D__law_take) rfl; ⟨_, fd, F, He.glo_ok X G (c.fact 8 (f := .glo "_law_take") rfl)⟩
  d__law_bytes := let ⟨fd, F⟩ := c.def_ 9 (d := D__law_bytes) rfl; ⟨_, fd, F, He.glo_ok X G (c.fact 9 (f := .glo "_law_bytes") rfl)⟩
  d__law_fits := let ⟨fd, F⟩ := c.def_ 10 (d := D__law_fits) rfl; ⟨_, fd, F, He.glo_ok X G (c.fact 10 (f := .glo "_law_fits") rfl)⟩
  d__law_goal := let ⟨fd, F⟩ := c.def_ 11 (d := D__law_goal) rfl; ⟨_, fd, F, He.glo_ok X G (c.fact 11 (f := .glo "_law_goal") rfl)⟩
  d__law_sought := let ⟨fd, F⟩ := c.def_ 12 (d := D__law_sought) rfl; ⟨_, fd, F, He.glo_ok X G (c.fact 12 (f := .glo "_law_sought") rfl)⟩
  d__law_cut := let ⟨fd, F⟩ := c.def_ 13 (d := D__law_cut) rfl; ⟨_, fd, F, He.glo_ok X G (c.fact 13 (f := .glo "_law_cut") rfl)⟩
  cl_Plain := He.cls_ok (c.fact 28 (f := .cls "Plain") rfl)
  g_Plain := He.glo_ok X G (c.fact 27 (f := .glo "Plain") rfl)
  mk_Plain := He.mkr_ok (c.fact 29 (f := .mkr "Plain") rfl)
  na_Plain_stock := He.noat_ok (c.fact 30 (f := .noat "Plain" "stock") rfl)
  na_Plain_cursor := He.noat_ok (c.fact 31 (f := .noat "Plain" "cursor") rfl)
  me_Plain___init__ := He.meth_ok (c.fact 32 (f := .meth "Plain" "__init__") rfl)
  fd_Plain___init__ := c.def_ 15 (d := D_Plain___init__) rfl
  me_Plain_write := He.meth_ok (c.fact 33 (f := .meth "Plain" "write") rfl)
  fd_Plain_write := c.def_ 16 (d := D_Plain_write) rfl
  me_Plain_seek := He.meth_ok (c.fact 34 (f := .meth "Plain" "seek") rfl)
  fd_Plain_seek := c.def_ 17 (d := D_Plain_seek) rfl
  me_Plain_cut := He.meth_ok (c.fact 35 (f := .meth "Plain" "cut") rfl)
  fd_Plain_cut := c.def_ 18 (d := D_Plain_cut) rfl
  me_Plain_tell := He.meth_ok (c.fact 36 (f := .meth "Plain" "tell") rfl)
  fd_Plain_tell := c.def_ 19 (d := D_Plain_tell) rfl
  me_Plain_size := He.meth_ok (c.fact 37 (f := .meth "Plain" "size") rfl)
  fd_Plain_size := c.def_ 20 (d := D_Plain_size) rfl
  me_Plain_row := He.meth_ok (c.fact 38 (f := .meth "Plain" "row") rfl)
  fd_Plain_row := c.def_ 21 (d := D_Plain_row) rfl
theorem facts {P : Program} {w : World} {K : PySem.W.Frag} {h : Heap} {mg : Str → Option Value} {f : Addr} (X : K.In h) (G : h.Ns mainGlobals mg) (hfa : mg ("law" : Str) = some (.ref f)) (c : He.SaysD fa fn K) :
    ∃ fd : FuncData, (∀ (s : Shared) (v : Value), BindsTo s fd ⟨[v], []⟩ [("_law_script", v)]) ∧ ∀ base : Heap, K.In base → base.Ns mainGlobals mg → FnOk P w K mg base CX0 7 f fd ["_law_script"] (sp_law K) := by
  obtain ⟨fd, F⟩ := c.def_ 14 (d := D_law) rfl
  have e := hfa.symm.trans (He.glo_ok X G (c.fact 14 (f := .glo "law") rfl))
  cases e
  have b := FunD.bindsA (ps := ["_law_script"]) F fun _ _ _ _ _ _ us hl => match us, hl with | [_], _ => rfl
  exact ⟨fd, fun s v => b s [v] rfl, fun base _ _ => ok_law (txt_of X G c) F⟩
end Zl
open PySem PySem.W PySem.Calls PyProof.Rows
set_option maxRecDepth 100000 in
set_option maxHeartbeats 0 in
theorem PySem.Challenge.cw_sipstack_k21_plain_seek_and_cut_holds : PySem.Challenge.rw_sipstack_k21_plain_seek_and_cut.Holds := by
  w_on; o_law
  refine HandSHeadRun.head_any (r := OpenLaw.row PySem.Challenge.rw_sipstack_k21_plain_seek_and_cut) (q := view (OpenLaw.row PySem.Challenge.rw_sipstack_k21_plain_seek_and_cut).prog [30]) (H := Zl.hk) (ob := Zl.ob) (M := 6000) (loose := Zl.loose) (d := HandSHeadRun.topDef (OpenLaw.row PySem.Challenge.rw_sipstack_k21_plain_seek_and_cut).prog 30) (kwd := []) Zl.ob_eq
    (by kernel_rfl) (fun s => by kernel_rfl) Zl.run (by kernel_rfl) (by kernel_rfl) (by kernel_rfl) (by rfl) (by first | assumption | decide +kernel) (by decide +kernel) ⟨rfl, rfl, rfl, rfl, rfl, by decide +kernel⟩ ?hw ?hc
  case hw => w_witness2
  case hc =>
    refine L2.walk_ofE (l := PySem.Challenge.rw_sipstack_k21_plain_seek_and_cut) (n := 63) (k := 7) (x := "_law_script") (CX := L2.CX0) rfl (by decide) (by kernel_rfl) ⟨rfl, by decide, by decide⟩ ?F (fun _ _ _ _ z => z)
    intro w mg fa h Y G hmg0
    obtain ⟨K, KX, c⟩ := Y
    have hmg : mg ("law" : PySem.Str) = some (.ref fa) := by
      have e : (HandSHeadRun.topDef (OpenLaw.row PySem.Challenge.rw_sipstack_k21_plain_seek_and_cut).prog 30).name = ("law" : PySem.Str) := by kernel_rfl
      rw [← e]
      exact hmg0
    obtain ⟨fd, hb, hF⟩ := Zl.facts (P := (PySem.Challenge.rw_sipstack_k21_plain_seek_and_cut).prog) (w := w) KX G hmg c
    exact ⟨K, fd, Zl.sp_law K, KX, hb, fun H a ns hl _ hS => ⟨a, ns, rfl, hS, hl, fun _ => rfl⟩, hF⟩
#print axioms PySem.Challenge.cw_sipstack_k21_plain_seek_and_cut_holds

