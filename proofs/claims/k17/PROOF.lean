import PyProof.Rows.All
import Wide.All
import OpenK.AllK
import Wide.FinOn
import HandS.ForMost
import HandS.ForExc
import HandS.Wide
import HandS.IsInst
import HandS.Style
import HandS.Flow
import HandS.More
import HandS.TupAny
import HandS.Defaults
import HandS.Walk
import HandS.MakeKw
import HandS.TryOnly
import HandS.TryMany
import HandS.Head0
import HandS.Head1
import HandS.Head2
import HandS.HeadEnd
import HandS.HeadHook1
import HandS.HeadHook2
import HandS.Deep
import HandS.MakeKwOnly
import HandS.ClsMeth
import HandS.ExcInit
import HandS.ExcField
import HandS.ExcIs
import HandS.CallSlots
import HandS.Small
import HandS.HeadHook3
import HandS.CallLocal
import HandS.Replace
import HandS.HotCalls
import HandS.ExcInitHot
import HandS.Finally
import PySem.Challenge.RW_sipstack_k17_whole_chain_of_pipes
set_option Elab.async false
set_option linter.all false
set_option maxRecDepth 100000
set_option maxHeartbeats 4000000
structure Z.Stw (a : Type) where
  x : a
instance : Coe (Z.Stw Nat) Nat := ⟨fun w => w.x⟩
theorem Z.stc {G : Prop} (_ : Nat) (hn : ¬ G) (h : G) : False := hn h
theorem Z.stp {G : Prop} (h : G) (f : G → ¬ G → False) : G := Classical.byContradiction (fun hn => f h hn)
namespace Z
open PySem PySem.Spec L2
set_option exponentiation.threshold 20000
/-! ### data that lie in a heap -/
mutual
inductive Da (F : Hp) : V → PyData → Prop
  | non : Da F .non .none
  | bl (b : Bool) : Da F (.bl b) (.bool b)
  | int (i : Int) : Da F (.int i) (.int i)
  | str (x : Str) : Da F (.str x) (.str x)
  | lst {a : Addr} {xs : List V} {ds : List PyData} : F a = some (.lst xs) → DaAll F xs ds → Da F (.ref a) (.list ds)
  | tup {a : Addr} {xs : List V} {ds : List PyData} : F a = some (.tup xs) → DaAll F xs ds → Da F (.ref a) (.tuple ds)
inductive DaAll (F : Hp) : List V → List PyData → Prop
  | nil : DaAll F [] []
  | cons {v : V} {vs : List V} {d : PyData} {ds : List PyData} : Da F v d → DaAll F vs ds → DaAll F (v :: vs) (d :: ds)
end
mutual
theorem Da.dp {K : PySem.W.Frag} {F H : Hp} (le : ∀ a o, F a = some o → H a = some o) : ∀ (d : PyData) (v : V), Da F v d → Dp K H v d
  | .none, _, h => by cases h; exact .non
  | .bool b, _, h => by cases h; exact .bl b
  | .int i, _, h => by cases h; exact .int i
  | .str s, _, h => by cases h; exact .str s
  | .list ds, _, h => by
    cases h with
    | lst q r => exact .lst (.of (le _ _ q)) (DaAll.dp le ds _ r)
  | .tuple ds, _, h => by
    cases h with
    | tup q r => exact .tup (.of (le _ _ q)) (DaAll.dp le ds _ r)
  | .dict kvs, _, h => by cases h
theorem DaAll.dp {K : PySem.W.Frag} {F H : Hp} (le : ∀ a o, F a = some o → H a = some o) : ∀ (ds : List PyData) (vs : List V), DaAll F vs ds → DpAll K H vs ds
  | [], _, h => by cases h; exact .nil
  | d :: ds, _, h => by
    cases h with
    | cons q r => exact .cons (Da.dp le d _ q) (DaAll.dp le ds _ r)
end
mutual
theorem Da.mono {F H : Hp} (le : ∀ a o, F a = some o → H a = some o) : ∀ (d : PyData) (v : V), Da F v d → Da H v d
  | .none, _, h => by cases h; exact .non
  | .bool b, _, h => by cases h; exact .bl b
  | .int i, _, h => by cases h; exact .int i
  | .str s, _, h => by cases h; exact .str s
  | .list ds, _, h => by
    cases h with
    | lst q r => exact .lst (le _ _ q) (DaAll.mono le ds _ r)
  | .tuple ds, _, h => by
    cases h with
    | tup q r => exact .tup (le _ _ q) (DaAll.mono le ds _ r)
  | .dict kvs, _, h => by cases h
theorem DaAll.mono {F H : Hp} (le : ∀ a o, F a = some o → H a = some o) : ∀ (ds : List PyData) (vs : List V), DaAll F vs ds → DaAll H vs ds
  | [], _, h => by cases h; exact .nil
  | d :: ds, _, h => by
    cases h with
    | cons q r => exact .cons (Da.mono le d _ q) (DaAll.mono le ds _ r)
end
/-! ### what is owned: a list of addresses and their objects; what is frozen: values that read as data for good -/
inductive EO where
  | o (h : HO)
  | xl (ds : List PyData)
  | rv (v : V) (d : PyData)
  | lv (vs : List V) (ds : List PyData)
  | rvs (vs : List V) (ds : List PyData)
@[reducible] def EO.lst (xs : List V) : EO := .o (.lst xs)
@[reducible] def EO.tup (xs : List V) : EO := .o (.tup xs)
@[reducible] def EO.ins (C dx : Addr) (fs : List (Str × V)) : EO := .o (.ins C dx fs)
@[reducible] def EO.own (x : Addr) : EO := .o (.own x)
@[reducible] def EO.xd (fs : List (Str × V)) : EO := .o (.xd fs)
@[reducible] def EO.dK (kvs : List (Key × V)) : EO := .o (.dK kvs)
abbrev HL := List (Addr × EO)
def EO.ex : EO → Bool
  | .rv _ _ => false
  | .lv _ _ => false
  | .rvs _ _ => false
  | _ => true
def OkE (H F : Hp) (a : Addr) : EO → Prop
  | .o h => H a = some h ∧ F a = none
  | .xl ds => F a = none ∧ ∃ vs, H a = some (.lst vs) ∧ DaAll F vs ds
  | .rv v d => Da F v d
  | .lv vs ds => F a = some (.lst vs) ∧ DaAll F vs ds
  | .rvs vs ds => DaAll F vs ds
structure OwnF (F H : Hp) (L : HL) : Prop where
  le : ∀ a o, F a = some o → H a = some o
  nd : ((L.filter fun e => e.2.ex).map (·.1)).Nodup
  ok : ∀ e ∈ L, OkE H F e.1 e.2
def Own (H : Hp) (L : HL) : Prop := ∃ F, OwnF F H L
theorem okE_perm {F H : Hp} {L M : HL} (p : L.Perm M) (O : OwnF F H L) : OwnF F H M :=
  ⟨O.le, ((p.filter _).map (·.1)).nodup_iff.mp O.nd, fun e m => O.ok e (p.mem_iff.mpr m)⟩
theorem OwnF.left {F H : Hp} {A B : HL} (O : OwnF F H (A ++ B)) : OwnF F H A := by
  refine no_implicit_lambda% (@Z.stp _ ?_ (fun key hn => ?_))
  ·
      refine ⟨O.le, ?_, fun e m => O.ok e (List.mem_append_left _ m)⟩
      have h := O.nd
      rw [List.filter_append, List.map_append] at h
      exact (List.nodup_append.mp h).1
  simpa only using Z.stc (Z.Stw.mk 5) hn key
theorem OwnF.right {F H : Hp} {A B : HL} (O : OwnF F H (A ++ B)) : OwnF F H B := OwnF.left (okE_perm List.perm_append_comm O)
def FLe (F F' : Hp) : Prop := ∀ a o, F a = some o → F' a = some o
theorem FLe.rfl' {F : Hp} : FLe F F := fun _ _ h => h
theorem FLe.trans {F G I : Hp} (h : FLe F G) (k : FLe G I) : FLe F I := fun a o q => k a o (h a o q)
/-- T follows from L, whatever stands beside -/
def Sub (T L : HL) : Prop := ∀ F H C, OwnF F H (C ++ L) → ∃ F', FLe F F' ∧ OwnF F' H (C ++ T)
/-- L gives b, and R is left -/
def Pk (L b R : HL) : Prop := Sub (b ++ R) L
theorem Sub.perm {L T R : HL} (p : L.Perm (T ++ R)) : Sub T L := fun F H C O => ⟨F, .rfl', OwnF.left (B := R) (by rw [List.append_assoc]; exact okE_perm (p.append_left C) O)⟩
theorem Sub.all {L : HL} : Sub L L := fun F H C O => ⟨F, .rfl', O⟩
theorem Sub.nil {L : HL} : Sub [] L := .perm (R := L) (List.Perm.refl _)
theorem Sub.trans {A B C : HL} (h : Sub A B) (k : Sub B C) : Sub A C := fun F H D O => by
  obtain ⟨G, l1, O1⟩ := k F H D O
  obtain ⟨I, l2, O2⟩ := h G H D O1
  exact ⟨I, l1.trans l2, O2⟩
theorem Sub.trans' {A B C : HL} (k : Sub B C) (h : Sub A B) : Sub A C := Sub.trans h k
theorem Sub.frame {T L c : HL} (h : Sub T L) : Sub (c ++ T) (c ++ L) := fun F H C O => by
  rw [← List.append_assoc] at O
  obtain ⟨G, l, O1⟩ := h F H _ O
  rw [List.append_assoc] at O1
  exact ⟨G, l, O1⟩
theorem Sub.swap {A B : HL} : Sub (B ++ A) (A ++ B) := .perm (R := []) (by rw [List.append_nil]; exact List.perm_append_comm)
theorem Pk.here {b R : HL} : Pk (b ++ R) b R := Sub.all
theorem Pk.only {b : HL} : Pk b b [] := by unfold Pk; rw [List.append_nil]; exact Sub.all
theorem Pk.nil {L : HL} : Pk L [] L := Sub.all
theorem Pk.perm {L b R : HL} (p : L.Perm (b ++ R)) : Pk L b R := Sub.perm (R := []) (by rw [List.append_nil]; exact p)
theorem Pk.there {b c R R' : HL} (h : Pk R b R') : Pk (c ++ R) b (c ++ R') := by
  refine no_implicit_lambda% (@Z.stp _ ?_ (fun key hn => ?_))
  ·
      refine Sub.trans ?_ (Sub.frame (c := c) h)
      refine .perm (R := []) ?_
      rw [List.append_nil, ← List.append_assoc, ← List.append_assoc]
      exact List.Perm.append_right _ List.perm_append_comm
  simpa only using Z.stc (Z.Stw.mk 5) hn key
theorem Pk.app {L A B R1 R2 : HL} (h : Pk L A R1) (k : Pk R1 B R2) : Pk L (A ++ B) R2 := by
  refine no_implicit_lambda% (@Z.stp _ ?_ (fun key hn => ?_))
  ·
      unfold Pk
      rw [List.append_assoc]
      exact Sub.trans (Sub.frame (c := A) k) h
  simpa only using Z.stc (Z.Stw.mk 5) hn key
theorem Sub.cons {L b R T : HL} (h : Pk L b R) (k : Sub T R) : Sub (b ++ T) L := Sub.trans (Sub.frame k) h
theorem Sub.left {A B : HL} : Sub A (A ++ B) := .perm (R := B) (List.Perm.refl _)
theorem Sub.right {A B : HL} : Sub B (A ++ B) := .perm (R := A) List.perm_append_comm
theorem Sub.one {L b R : HL} (h : Pk L b R) : Sub b L := Sub.trans Sub.left h
theorem Sub.rest {L b R : HL} (h : Pk L b R) : Sub R L := Sub.trans Sub.right h
section
variable {H : Hp} {L T R b : HL} {a p : Addr} {o o' : HO} {v : V} {d : PyData} {ds : List PyData}
theorem Own.sub (O : Own H L) (h : Sub T L) : Own H T := by
  refine no_implicit_lambda% (@Z.stp _ ?_ (fun key hn => ?_))
  ·
      obtain ⟨F, O⟩ := O
      obtain ⟨G, _, O1⟩ := h F H [] O
      exact ⟨G, O1⟩
  simpa only using Z.stc (Z.Stw.mk 5) hn key
theorem Own.pk (O : Own H L) (h : Pk L b R) : Own H (b ++ R) := O.sub h
theorem Own.at1 (O : Own H L) (h : Pk L [(a, .o o)] R) : H a = some o := by
  refine no_implicit_lambda% (@Z.stp _ ?_ (fun key hn => ?_))
  ·
      obtain ⟨F, O1⟩ := O.pk h
      exact (show H a = some o ∧ F a = none from O1.ok _ List.mem_cons_self).1
  simpa only using Z.stc (Z.Stw.mk 5) hn key
theorem OwnF.fresh {F : Hp} (O : OwnF F H L) (hp : H p = none) : F p = none := by
  refine no_implicit_lambda% (@Z.stp _ ?_ (fun key hn => ?_))
  ·
      cases h : F p with
      | none => rfl
      | some u => rw [O.le p u h] at hp; cases hp
  simpa only using Z.stc (Z.Stw.mk 5) hn key
theorem okE_there {F : Hp} {e : EO} (hx : e.ex = true) (h : OkE H F a e) : ∃ u, H a = some u := by
  refine no_implicit_lambda% (@Z.stp _ ?_ (fun key hn => ?_))
  ·
      cases e with
      | o u => exact ⟨u, h.1⟩
      | xl ds => exact ⟨_, h.2.choose_spec.1⟩
      | rv v d => cases hx
      | lv vs ds => cases hx
      | rvs vs ds => cases hx
  simpa only using Z.stc (Z.Stw.mk 5) hn key
theorem okE_free {F : Hp} {e : EO} (hx : e.ex = true) (h : OkE H F a e) : F a = none := by
  refine no_implicit_lambda% (@Z.stp _ ?_ (fun key hn => ?_))
  ·
      cases e with
      | o u => exact h.2
      | xl ds => exact h.1
      | rv v d => cases hx
      | lv vs ds => cases hx
      | rvs vs ds => cases hx
  simpa only using Z.stc (Z.Stw.mk 5) hn key
theorem okE_upd {F : Hp} {e : EO} (h : OkE H F a e) (ne : e.ex = true → a ≠ p) : OkE (upd H p o) F a e := by
  refine no_implicit_lambda% (@Z.stp _ ?_ (fun key hn => ?_))
  ·
      cases e with
      | o u => exact ⟨by rw [upd_ne (ne rfl)]; exact h.1, h.2⟩
      | xl ds =>
        obtain ⟨h1, vs, h2, h3⟩ := h
        exact ⟨h1, vs, by rw [upd_ne (ne rfl)]; exact h2, h3⟩
      | rv v d => exact h
      | lv vs ds => exact h
      | rvs vs ds => exact h
  simpa only using Z.stc (Z.Stw.mk 5) hn key
theorem mem_ex {L : HL} {e : Addr × EO} (m : e ∈ L) (hx : e.2.ex = true) : e.1 ∈ (L.filter fun e => e.2.ex).map (·.1) := List.mem_map.mpr ⟨e, List.mem_filter.mpr ⟨m, hx⟩, rfl⟩
/-- a new object -/
theorem OwnF.newE {F : Hp} {x : EO} (O : OwnF F H L) (hp : H p = none) (hx : x.ex = true) (k : OkE (upd H p o) F p x) : OwnF F (upd H p o) ([(p, x)] ++ L) := by
  refine no_implicit_lambda% (@Z.stp _ ?_ (fun key hn => ?_))
  ·
      have ne : ∀ e ∈ L, e.2.ex = true → e.1 ≠ p := fun e m h z => by
        obtain ⟨u, hu⟩ := okE_there h (O.ok e m)
        rw [z, hp] at hu
        cases hu
      refine ⟨fun a u h => ?_, ?_, fun e m => ?_⟩
      · have e : a ≠ p := fun z => by rw [z, O.fresh hp] at h; cases h
        rw [upd_ne e]
        exact O.le a u h
      · have e : (([(p, x)] ++ L).filter fun e => e.2.ex) = (p, x) :: L.filter fun e => e.2.ex := by
          show List.filter _ ((p, x) :: L) = _
          rw [List.filter_cons, if_pos (by exact hx)]
        rw [e, List.map_cons]
        refine List.nodup_cons.mpr ⟨fun m => ?_, O.nd⟩
        obtain ⟨e, he, z⟩ := List.mem_map.mp m
        exact ne e (List.mem_filter.mp he).1 (List.mem_filter.mp he).2 z
      · rcases List.mem_cons.mp (show e ∈ (p, x) :: L from m) with h | m
        · subst h
          exact k
        · exact okE_upd (O.ok e m) (ne e m)
  simpa only using Z.stc (Z.Stw.mk 5) hn key
theorem Own.new (O : Own H L) (hp : H p = none) : Own (upd H p o) ([(p, .o o)] ++ L) := by
  refine no_implicit_lambda% (@Z.stp _ ?_ (fun key hn => ?_))
  ·
      obtain ⟨F, O⟩ := O
      exact ⟨F, O.newE hp rfl ⟨upd_same, O.fresh hp⟩⟩
  simpa only using Z.stc (Z.Stw.mk 5) hn key
/-- what stands at a is put otherwise -/
theorem OwnF.putE {F : Hp} {x y : EO} (O : OwnF F H ([(a, x)] ++ R)) (hx : x.ex = true) (hy : y.ex = true) (k : F a = none → OkE (upd H a o) F a y) : OwnF F (upd H a o) ([(a, y)] ++ R) := by
  refine no_implicit_lambda% (@Z.stp _ ?_ (fun key hn => ?_))
  ·
      have hF : F a = none := okE_free hx (O.ok (a, x) List.mem_cons_self)
      have nd : (a :: (R.filter fun e => e.2.ex).map (·.1)).Nodup := by
        have h := O.nd
        rw [show (([(a, x)] ++ R).filter fun e => e.2.ex) = (a, x) :: R.filter fun e => e.2.ex by
          show List.filter _ ((a, x) :: R) = _
          rw [List.filter_cons, if_pos (by exact hx)]] at h
        exact h
      refine ⟨fun b u h => ?_, ?_, fun e m => ?_⟩
      · have e : b ≠ a := fun z => by rw [z, hF] at h; cases h
        rw [upd_ne e]
        exact O.le b u h
      · rw [show (([(a, y)] ++ R).filter fun e => e.2.ex) = (a, y) :: R.filter fun e => e.2.ex by
          show List.filter _ ((a, y) :: R) = _
          rw [List.filter_cons, if_pos (by exact hy)]]
        exact nd
      · rcases List.mem_cons.mp (show e ∈ (a, y) :: R from m) with h | m
        · subst h
          exact k hF
        · exact okE_upd (O.ok e (List.mem_cons_of_mem _ m)) fun h z => (List.nodup_cons.mp nd).1 (z ▸ mem_ex m h)
  simpa only using Z.stc (Z.Stw.mk 5) hn key
theorem Own.put (O : Own H L) (h : Pk L [(a, .o o)] R) : Own (upd H a o') ([(a, .o o')] ++ R) := by
  refine no_implicit_lambda% (@Z.stp _ ?_ (fun key hn => ?_))
  ·
      obtain ⟨F, O⟩ := O.pk h
      exact ⟨F, O.putE rfl rfl fun hF => ⟨upd_same, hF⟩⟩
  simpa only using Z.stc (Z.Stw.mk 5) hn key
end
/-! ### frozen data -/
/-- v reads as d for good -/
@[reducible] def rvv (v : V) (d : PyData) : HL := [(0, .rv v d)]
theorem mem_here {e : Addr × EO} {R : HL} : e ∈ [e] ++ R := List.mem_cons_self
theorem mem_only {e : Addr × EO} : e ∈ [e] := List.mem_cons_self
theorem mem_there {e : Addr × EO} {c R : HL} (h : e ∈ R) : e ∈ c ++ R := List.mem_append_right _ h
/-- data in a list at a, their parts frozen -/
def LsD (L : HL) (a : Addr) (ds : List PyData) : Prop := ∀ F H, OwnF F H L → ∃ vs, H a = some (.lst vs) ∧ DaAll F vs ds
def TpD (L : HL) (a : Addr) (ds : List PyData) : Prop := ∀ F H, OwnF F H L → ∃ vs, H a = some (.tup vs) ∧ DaAll F vs ds
/-- ints at a, owned or frozen -/
def LsI (L : HL) (a : Addr) (ns : List Int) : Prop := ∀ H, Own H L → H a = some (.lst (ns.map V.int))
/-- v reads as d -/
def Rdg (L : HL) (v : V) (d : PyData) : Prop := ∀ H, Own H L → Da H v d
def Rdgs (L : HL) (vs : List V) (ds : List PyData) : Prop := ∀ H, Own H L → DaAll H vs ds
/-- v is frozen -/
def Frz (L : HL) (v : V) (d : PyData) (R : HL) : Prop := ∀ F H C, OwnF F H (C ++ L) → ∃ F', FLe F F' ∧ OwnF F' H (C ++ R) ∧ Da F' v d
def Frzs (L : HL) (vs : List V) (ds : List PyData) (R : HL) : Prop := ∀ F H C, OwnF F H (C ++ L) → ∃ F', FLe F F' ∧ OwnF F' H (C ++ R) ∧ DaAll F' vs ds
theorem da_ints {F : Hp} : ∀ ns : List Int, DaAll F (ns.map V.int) (ns.map PyData.int)
  | [] => .nil
  | i :: ns => .cons (.int i) (da_ints ns)
theorem ints_of {F : Hp} : ∀ {ns : List Int} {vs : List V}, DaAll F vs (ns.map PyData.int) → vs = ns.map V.int
  | [], _, h => by cases h; rfl
  | i :: ns, _, h => by
    cases h with
    | cons q r =>
      cases q
      rw [ints_of r]
      rfl
theorem da_strs {F : Hp} : ∀ ns : List Str, DaAll F (ns.map V.str) (ns.map PyData.str)
  | [] => .nil
  | i :: ns => .cons (.str i) (da_strs ns)
theorem DaAll.len {F : Hp} : ∀ {ds : List PyData} {vs : List V}, DaAll F vs ds → vs.length = ds.length
  | [], _, h => by cases h; rfl
  | d :: ds, _, h => by
    cases h with
    | cons q r => rw [List.length_cons, List.length_cons, r.len]
theorem DaAll.app {F : Hp} : ∀ {ds es : List PyData} {vs ws : List V}, DaAll F vs ds → DaAll F ws es → DaAll F (vs ++ ws) (ds ++ es)
  | [], _, _, _, h, k => by cases h; exact k
  | d :: ds, _, _, _, h, k => by
    cases h with
    | cons q r => exact .cons q (r.app k)
theorem DaAll.at {F : Hp} : ∀ {ds : List PyData} {vs : List V} {i : Nat} {d : PyData}, DaAll F vs ds → ds[i]? = some d → ∃ v, vs[i]? = some v ∧ Da F v d
  | [], _, _, _, h, e => by cases e
  | d :: ds, _, 0, _, h, e => by
    cases h with
    | cons q r =>
      cases e
      exact ⟨_, rfl, q⟩
  | d :: ds, _, i + 1, _, h, e => by
    cases h with
    | cons q r =>
      obtain ⟨v, h1, h2⟩ := r.at (by simpa using e)
      exact ⟨v, by simpa using h1, h2⟩
theorem DaAll.take {F : Hp} : ∀ {ds : List PyData} {vs : List V} (i : Nat), DaAll F vs ds → DaAll F (vs.take i) (ds.take i)
  | [], _, i, h => by cases h; rw [List.take_nil, List.take_nil]; exact .nil
  | d :: ds, _, 0, h => by
    rw [List.take_zero, List.take_zero]; exact .nil
  | d :: ds, _, i + 1, h => by
    cases h with
    | cons q r => exact .cons q (r.take i)
theorem DaAll.drop {F : Hp} : ∀ {ds : List PyData} {vs : List V} (i : Nat), DaAll F vs ds → DaAll F (vs.drop i) (ds.drop i)
  | [], _, i, h => by cases h; rw [List.drop_nil, List.drop_nil]; exact .nil
  | d :: ds, _, 0, h => h
  | d :: ds, _, i + 1, h => by
    cases h with
    | cons q r => exact r.drop i
/-- a thing stays frozen and may be had once more -/
theorem OwnF.rv {F H : Hp} {L : HL} {v : V} {d : PyData} (O : OwnF F H L) (h : Da F v d) : OwnF F H (rvv v d ++ L) :=
  ⟨O.le, O.nd, fun e m => by
    rcases List.mem_cons.mp (show e ∈ (0, EO.rv v d) :: L from m) with z | m
    · subst z; exact h
    · exact O.ok e m⟩
theorem OwnF.rv2 {F H : Hp} {C L : HL} {v : V} {d : PyData} (O : OwnF F H (C ++ L)) (h : Da F v d) : OwnF F H (C ++ (rvv v d ++ L)) :=
  okE_perm (by
    rw [← List.append_assoc, ← List.append_assoc]
    exact List.Perm.append_right _ List.perm_append_comm) (O.rv h)
section
variable {H : Hp} {L T R R' b : HL} {a p : Addr} {o o' : HO} {v : V} {vs : List V} {d : PyData} {ds : List PyData} {ns : List Int}
theorem LsI.pk (h : Pk L [(a, .lst (ns.map V.int))] R) : LsI L a ns := fun H O => O.at1 h
theorem LsI.id (h : LsI L a ns) : LsI L a ns := h
theorem LsD.id (h : LsD L a ds) : LsD L a ds := h
theorem LsI.there {c : HL} (h : LsI L a ns) : LsI (c ++ L) a ns := fun H O => h H (O.sub Sub.right)
theorem LsD.ints (h : LsD L a (ns.map PyData.int)) : LsI L a ns := fun H ⟨F, O⟩ => by
  obtain ⟨vs, h1, h2⟩ := h F H O
  rw [h1, ints_of h2]
theorem LsD.rv (h : ((0, .rv (.ref a) (.list ds)) : Addr × EO) ∈ L) : LsD L a ds := fun F H O => by
  have k : Da F (.ref a) (.list ds) := O.ok _ h
  cases k with
  | lst q r => exact ⟨_, O.le _ _ q, r⟩
theorem LsD.xl (h : ((a, .xl ds) : Addr × EO) ∈ L) : LsD L a ds := fun F H O => by
  have k : OkE H F a (.xl ds) := O.ok _ h
  exact k.2
theorem LsD.li (h : ((a, .lst (ns.map V.int)) : Addr × EO) ∈ L) : LsD L a (ns.map PyData.int) := fun F H O => by
  have k : OkE H F a (.o (.lst (ns.map V.int))) := O.ok _ h
  exact ⟨_, k.1, da_ints ns⟩
theorem TpD.rv (h : ((0, .rv (.ref a) (.tuple ds)) : Addr × EO) ∈ L) : TpD L a ds := fun F H O => by
  have k : Da F (.ref a) (.tuple ds) := O.ok _ h
  cases k with
  | tup q r => exact ⟨_, O.le _ _ q, r⟩
/-! readings -/
theorem Rdg.non : Rdg L .non .none := fun _ _ => .non
theorem Rdg.bl {b : Bool} : Rdg L (.bl b) (.bool b) := fun _ _ => .bl b
theorem Rdg.int {i : Int} : Rdg L (.int i) (.int i) := fun _ _ => .int i
theorem Rdg.str {s : Str} : Rdg L (.str s) (.str s) := fun _ _ => .str s
theorem Rdg.rv (h : ((0, .rv v d) : Addr × EO) ∈ L) : Rdg L v d := fun H ⟨F, O⟩ => Da.mono O.le _ _ (O.ok _ h)
theorem Rdg.xl (h : ((a, .xl ds) : Addr × EO) ∈ L) : Rdg L (.ref a) (.list ds) := fun H ⟨F, O⟩ => by
  obtain ⟨vs, h1, h2⟩ := LsD.xl h F H O
  exact .lst h1 (DaAll.mono O.le _ _ h2)
theorem Rdg.li (h : ((a, .lst (ns.map V.int)) : Addr × EO) ∈ L) : Rdg L (.ref a) (.list (ns.map .int)) := fun H ⟨F, O⟩ => .lst (show OkE H F a (.o _) from O.ok _ h).1 (da_ints ns)
theorem Rdg.lst (h : ((a, .lst vs) : Addr × EO) ∈ L) (k : Rdgs L vs ds) : Rdg L (.ref a) (.list ds) := fun H ⟨F, O⟩ => .lst (show OkE H F a (.o _) from O.ok _ h).1 (k H ⟨F, O⟩)
theorem Rdg.tup (h : ((a, .tup vs) : Addr × EO) ∈ L) (k : Rdgs L vs ds) : Rdg L (.ref a) (.tuple ds) := fun H ⟨F, O⟩ => .tup (show OkE H F a (.o _) from O.ok _ h).1 (k H ⟨F, O⟩)
theorem Rdgs.nil : Rdgs L [] [] := fun _ _ => .nil
theorem Rdgs.cons (h : Rdg L v d) (k : Rdgs L vs ds) : Rdgs L (v :: vs) (d :: ds) := fun H O => .cons (h H O) (k H O)
/-! freezing -/
theorem Frz.non : Frz L .non .none L := fun F H C O => ⟨F, .rfl', O, .non⟩
theorem Frz.bl {b : Bool} : Frz L (.bl b) (.bool b) L := fun F H C O => ⟨F, .rfl', O, .bl b⟩
theorem Frz.int {i : Int} : Frz L (.int i) (.int i) L := fun F H C O => ⟨F, .rfl', O, .int i⟩
theorem Frz.str {s : Str} : Frz L (.str s) (.str s) L := fun F H C O => ⟨F, .rfl', O, .str s⟩
theorem Frz.rv (h : ((0, .rv v d) : Addr × EO) ∈ L) : Frz L v d L := fun F H C O => ⟨F, .rfl', O, O.ok (0, .rv v d) (List.mem_append_right _ h)⟩
/-- the address a goes over to what is frozen -/
theorem OwnF.freeze {F : Hp} {x : EO} {C : HL} {u : HO} (O : OwnF F H (C ++ ([(a, x)] ++ R))) (hx : x.ex = true) (hu : H a = some u) : OwnF (upd F a u) H (C ++ R) ∧ FLe F (upd F a u) := by
  refine no_implicit_lambda% (@Z.stp _ ?_ (fun key hn => ?_))
  ·
      have O1 : OwnF F H ([(a, x)] ++ (C ++ R)) := okE_perm (by
        rw [← List.append_assoc, ← List.append_assoc]
        exact List.Perm.append_right _ List.perm_append_comm) O
      have hF : F a = none := okE_free hx (O1.ok (a, x) List.mem_cons_self)
      have le : FLe F (upd F a u) := fun b w h => by
        have e : b ≠ a := fun z => by rw [z, hF] at h; cases h
        rw [upd_ne e]; exact h
      have nd : (a :: ((C ++ R).filter fun e => e.2.ex).map (·.1)).Nodup := by
        have h := O1.nd
        rw [show (([(a, x)] ++ (C ++ R)).filter fun e => e.2.ex) = (a, x) :: (C ++ R).filter fun e => e.2.ex by
          show List.filter _ ((a, x) :: (C ++ R)) = _
          rw [List.filter_cons, if_pos (by exact hx)]] at h
        exact h
      refine ⟨⟨fun b w h => ?_, (List.nodup_cons.mp nd).2, fun e m => ?_⟩, le⟩
      · by_cases z : b = a
        · subst z
          rw [upd_same] at h
          rw [hu]; exact h
        · rw [upd_ne z] at h
          exact O.le b w h
      · have k := O1.ok e (List.mem_cons_of_mem _ m)
        have ne : e.2.ex = true → e.1 ≠ a := fun h z => (List.nodup_cons.mp nd).1 (z ▸ mem_ex m h)
        obtain ⟨b, y⟩ := e
        cases y with
        | o w => exact ⟨k.1, by rw [upd_ne (ne rfl)]; exact k.2⟩
        | xl es =>
          obtain ⟨k1, ws, k2, k3⟩ := k
          exact ⟨by rw [upd_ne (ne rfl)]; exact k1, ws, k2, DaAll.mono le _ _ k3⟩
        | rv w d => exact Da.mono le _ _ k
        | lv ws es => exact ⟨le _ _ k.1, DaAll.mono le _ _ k.2⟩
        | rvs ws es => exact DaAll.mono le _ _ k
  simpa only using Z.stc (Z.Stw.mk 5) hn key
theorem Frz.xl (h : Pk L [(a, .xl ds)] R) : Frz L (.ref a) (.list ds) (rvv (.ref a) (.list ds) ++ R) := fun F H C O => by
  obtain ⟨G, l1, O1⟩ := h F H C O
  have k : OkE H G a (.xl ds) := O1.ok (a, .xl ds) (List.mem_append_right _ List.mem_cons_self)
  obtain ⟨k1, vs, k2, k3⟩ := k
  obtain ⟨O2, l2⟩ := O1.freeze rfl k2
  have z : Da (upd G a (.lst vs)) (.ref a) (.list ds) := .lst upd_same (DaAll.mono l2 _ _ k3)
  exact ⟨_, l1.trans l2, O2.rv2 z, z⟩
theorem Frz.lst (h : Pk L [(a, .lst vs)] R) (k : Frzs R vs ds R') : Frz L (.ref a) (.list ds) (rvv (.ref a) (.list ds) ++ R') := fun F H C O => by
  obtain ⟨G, l1, O1⟩ := h F H C O
  rw [← List.append_assoc] at O1
  obtain ⟨I, l2, O2, z1⟩ := k G H _ O1
  rw [List.append_assoc] at O2
  have e : OkE H I a (.o (.lst vs)) := O2.ok (a, .o (.lst vs)) (List.mem_append_right _ List.mem_cons_self)
  obtain ⟨O3, l3⟩ := O2.freeze rfl e.1
  have z : Da (upd I a (.lst vs)) (.ref a) (.list ds) := .lst upd_same (DaAll.mono l3 _ _ z1)
  exact ⟨_, (l1.trans l2).trans l3, O3.rv2 z, z⟩
theorem Frz.tup (h : Pk L [(a, .tup vs)] R) (k : Frzs R vs ds R') : Frz L (.ref a) (.tuple ds) (rvv (.ref a) (.tuple ds) ++ R') := fun F H C O => by
  obtain ⟨G, l1, O1⟩ := h F H C O
  rw [← List.append_assoc] at O1
  obtain ⟨I, l2, O2, z1⟩ := k G H _ O1
  rw [List.append_assoc] at O2
  have e : OkE H I a (.o (.tup vs)) := O2.ok (a, .o (.tup vs)) (List.mem_append_right _ List.mem_cons_self)
  obtain ⟨O3, l3⟩ := O2.freeze rfl e.1
  have z : Da (upd I a (.tup vs)) (.ref a) (.tuple ds) := .tup upd_same (DaAll.mono l3 _ _ z1)
  exact ⟨_, (l1.trans l2).trans l3, O3.rv2 z, z⟩
theorem Frzs.nil : Frzs L [] [] L := fun F H C O => ⟨F, .rfl', O, .nil⟩
theorem Frzs.cons (h : Frz L v d R) (k : Frzs R vs ds R') : Frzs L (v :: vs) (d :: ds) R' := fun F H C O => by
  obtain ⟨G, l1, O1, z1⟩ := h F H C O
  obtain ⟨I, l2, O2, z2⟩ := k G H C O1
  exact ⟨I, l1.trans l2, O2, .cons (Da.mono l2 _ _ z1) z2⟩
theorem Frzs.ints : Frzs L (ns.map V.int) (ns.map PyData.int) L := fun F H C O => ⟨F, .rfl', O, da_ints ns⟩
theorem Frz.li (h : Pk L [(a, .lst (ns.map V.int))] R) : Frz L (.ref a) (.list (ns.map PyData.int)) (rvv (.ref a) (.list (ns.map PyData.int)) ++ R) := Frz.lst h Frzs.ints
/-- what is frozen stands in the list -/
theorem Frz.pk (h : Frz L v d R) : Pk L (rvv v d) R := fun F H C O => by
  obtain ⟨G, l1, O1, z⟩ := h F H C O
  exact ⟨G, l1, O1.rv2 z⟩
/-- an owned list whose parts are frozen -/
theorem Pk.xl (h : Pk L [(a, .lst vs)] R) (k : Frzs R vs ds R') : Pk L [(a, .xl ds)] R' := fun F H C O => by
  obtain ⟨G, l1, O1⟩ := h F H C O
  rw [← List.append_assoc] at O1
  obtain ⟨I, l2, O2, z1⟩ := k G H _ O1
  rw [List.append_assoc] at O2
  refine ⟨I, l1.trans l2, O2.le, ?_, fun e m => ?_⟩
  · have h := O2.nd
    simp only [List.filter_append, List.map_append] at h ⊢
    exact h
  · rcases List.mem_append.mp m with m | m
    · exact O2.ok e (List.mem_append_left _ m)
    · rcases List.mem_append.mp m with m | m
      · rw [List.mem_singleton.mp m]
        have e : OkE H I a (.o (.lst vs)) := O2.ok (a, .o (.lst vs)) (List.mem_append_right _ List.mem_cons_self)
        exact ⟨e.2, vs, e.1, z1⟩
      · exact O2.ok e (List.mem_append_right _ (List.mem_append_right _ m))
end
/-! ### slots -/
inductive GetAt : List (Option V) → Nat → V → Prop where
  | z {v : V} {l : List (Option V)} : GetAt (some v :: l) 0 v
  | s {x : Option V} {v : V} {l : List (Option V)} {i : Nat} : GetAt l i v → GetAt (x :: l) (i + 1) v
theorem GetAt.get {l : List (Option V)} {i : Nat} {v : V} (h : GetAt l i v) : l[i]? = some (some v) := by
  refine no_implicit_lambda% (@Z.stp _ ?_ (fun key hn => ?_))
  ·
      induction h with
      | z => rfl
      | s _ ih => simpa using ih
  simpa only using Z.stc (Z.Stw.mk 5) hn key
inductive SetAt : List (Option V) → Nat → V → List (Option V) → Prop where
  | z {v : V} {x : Option V} {l : List (Option V)} : SetAt (x :: l) 0 v (some v :: l)
  | s {x : Option V} {v : V} {l l' : List (Option V)} {i : Nat} : SetAt l i v l' → SetAt (x :: l) (i + 1) v (x :: l')
theorem SetAt.set {l l' : List (Option V)} {i : Nat} {v : V} (h : SetAt l i v l') : l.set i (some v) = l' := by
  refine no_implicit_lambda% (@Z.stp _ ?_ (fun key hn => ?_))
  ·
      induction h with
      | z => rfl
      | s _ ih => simp [ih]
  simpa only using Z.stc (Z.Stw.mk 5) hn key
/-! ### ints -/
inductive Ints : List V → List Int → Prop where
  | nil : Ints [] []
  | cons {i : Int} {xs : List V} {ns : List Int} : Ints xs ns → Ints (.int i :: xs) (i :: ns)
  | map {ns : List Int} : Ints (ns.map V.int) ns
theorem Ints.eq {xs : List V} {ns : List Int} (h : Ints xs ns) : xs = ns.map V.int := by
  refine no_implicit_lambda% (@Z.stp _ ?_ (fun key hn => ?_))
  ·
      induction h with
      | nil => rfl
      | cons _ ih => rw [ih]; rfl
      | map => rfl
  simpa only using Z.stc (Z.Stw.mk 5) hn key
theorem line {n : Nat} (h : n ≤ 16777216) : n ≤ sizeLine := by rw [sizeLine_eq]; exact h
theorem lineS {n : Nat} (h : n < 16777216) : n < sizeLine := by rw [sizeLine_eq]; exact h
/-! ### statements -/
section
variable {K : PySem.W.Frag} {σ σ' : St} {H : Hp} {L R : HL} {D : Ends} {t u : TS} {te ta tb tc : TE} {g : TG} {Q : VK} {v x y : V} {i j : Int} {n : Nat} {nx : St → Hp → Prop} {rt : VK} {bk ct : St → Hp → Prop}
theorem w_seq (h : t ⟨u ⟨nx, rt, bk, ct⟩, rt, bk, ct⟩ σ H) : tSeq t u ⟨nx, rt, bk, ct⟩ σ H := h
theorem w_next (h : nx σ H) : tNext ⟨nx, rt, bk, ct⟩ σ H := h
theorem w_break (h : bk σ H) : tBreak ⟨nx, rt, bk, ct⟩ σ H := h
theorem w_cont (h : ct σ H) : tCont ⟨nx, rt, bk, ct⟩ σ H := h
theorem w_drop (h : te σ H fun _ H1 => nx σ H1) : tDrop te ⟨nx, rt, bk, ct⟩ σ H := h
theorem w_ret (h : te σ H rt) : tRet te ⟨nx, rt, bk, ct⟩ σ H := h
theorem w_retN (h : rt .non H) : tRetN ⟨nx, rt, bk, ct⟩ σ H := h
theorem w_ifs {c : TT} (h : c σ H fun b H1 => if b = true then t ⟨nx, rt, bk, ct⟩ σ H1 else u ⟨nx, rt, bk, ct⟩ σ H1) : tIfS c t u ⟨nx, rt, bk, ct⟩ σ H := h
theorem w_asg (h : te σ H fun x H1 => g x σ H1 nx) : tAsg te g ⟨nx, rt, bk, ct⟩ σ H := h
theorem w_gname {R : St → Hp → Prop} (h : SetAt σ n v σ') (k : R σ' H) : gName n v σ H R := by unfold gName; rw [h.set]; exact k
theorem w_gsub {R : St → Hp → Prop} {to ti : TE} {ts : TSet} (h : to σ H fun o H1 => ti σ H1 fun i H2 => ts o i v H2 fun H3 => R σ H3) : gSub to ti ts v σ H R := h
/-! ### expressions -/
theorem w_var (h : GetAt σ n v) (k : Q v H) : tVar n σ H Q := ⟨v, h.get, k⟩
theorem w_c (k : Q v H) : tC v σ H Q := k
theorem w_op {r : R2} (h : ta σ H fun x H1 => tb σ H1 fun y H2 => r x y H2 Q) : tOp r ta tb σ H Q := h
theorem w_un {r : V → Hp → VK → Prop} (h : ta σ H fun x H1 => r x H1 Q) : tUn r ta σ H Q := h
theorem w_rI0 {f : Int → Int → V} (k : Q (f i j) H) : rI0 f (.int i) (.int j) H Q := ⟨i, j, rfl, rfl, k⟩
theorem w_rU {f : Int → V} (k : Q (f i) H) : rU f (.int i) H Q := ⟨i, rfl, k⟩
theorem w_test {Q : Bool → Hp → Prop} (h : te σ H fun x H' => ∃ k, x = .bl k ∧ Q k H') : tTest te σ H Q := h
theorem w_bl {b : Bool} {R : Bool → Prop} (h : R b) : ∃ k, V.bl b = .bl k ∧ R k := ⟨b, rfl, h⟩
theorem w_and {Q : Bool → Hp → Prop} {a b : TT} (h : a σ H fun c H1 => if c = true then b σ H1 Q else Q false H1) : tAnd a b σ H Q := h
theorem w_or {Q : Bool → Hp → Prop} {a b : TT} (h : a σ H fun c H1 => if c = true then Q true H1 else b σ H1 Q) : tOr a b σ H Q := h
theorem w_not {Q : Bool → Hp → Prop} {a : TT} (h : a σ H fun c H1 => Q (!c) H1) : tNot a σ H Q := h
theorem w_if {a : TT} (h : a σ H fun c H1 => if c = true then ta σ H1 Q else tb σ H1 Q) : tIf a ta tb σ H Q := h
/-- a value's truth -/
def zTru (K : PySem.W.Frag) (ta : TE) : TT := fun σ H Q => ta σ H fun x H' => ∃ k, TruV K x H' k ∧ Q k H'
theorem w_tru {Q : Bool → Hp → Prop} (h : ta σ H fun x H' => ∃ k, TruV K x H' k ∧ Q k H') : zTru K ta σ H Q := h
theorem w_truB {b : Bool} {R : Bool → Prop} (h : R b) : ∃ k, TruV K (V.bl b) H k ∧ R k := ⟨b, rfl, h⟩
/-! conditions -/
theorem w_dec {p : Prop} [Decidable p] {A B : Prop} (h1 : p → A) (h2 : ¬ p → B) : if decide p = true then A else B := by
  refine no_implicit_lambda% (@Z.stp _ ?_ (fun key hn => ?_))
  ·
      by_cases h : p
      · rw [decide_eq_true h]; exact h1 h
      · rw [decide_eq_false h]; exact h2 h
  simpa only using Z.stc (Z.Stw.mk 5) hn key
theorem w_ndec {p : Prop} [Decidable p] {A B : Prop} (h1 : ¬ p → A) (h2 : p → B) : if (!decide p) = true then A else B := by
  refine no_implicit_lambda% (@Z.stp _ ?_ (fun key hn => ?_))
  ·
      by_cases h : p
      · rw [decide_eq_true h]; exact h2 h
      · rw [decide_eq_false h]; exact h1 h
  simpa only using Z.stc (Z.Stw.mk 5) hn key
theorem w_ndec2 {p : Prop} [Decidable p] {A B : Prop} (h1 : p → A) (h2 : ¬ p → B) : if (!!decide p) = true then A else B := by
  refine no_implicit_lambda% (@Z.stp _ ?_ (fun key hn => ?_))
  ·
      by_cases h : p
      · rw [decide_eq_true h]; exact h1 h
      · rw [decide_eq_false h]; exact h2 h
  simpa only using Z.stc (Z.Stw.mk 5) hn key
theorem w_decR {α : Type} [DecidableEq α] {x : α} {A B : Prop} (h : A) : if decide (x = x) = true then A else B := by rw [decide_eq_true rfl]; exact h
theorem w_ndecR {α : Type} [DecidableEq α] {x : α} {A B : Prop} (h : B) : if (!decide (x = x)) = true then A else B := by rw [decide_eq_true rfl]; exact h
theorem w_ndec2R {α : Type} [DecidableEq α] {x : α} {A B : Prop} (h : A) : if (!!decide (x = x)) = true then A else B := by rw [decide_eq_true rfl]; exact h
theorem w_T {A B : Prop} (h : A) : if true = true then A else B := by rw [if_pos rfl]; exact h
theorem w_F {A B : Prop} (h : B) : if false = true then A else B := by rw [if_neg Bool.false_ne_true]; exact h
theorem w_nT {A B : Prop} (h : B) : if (!true) = true then A else B := by rw [if_neg (by decide)]; exact h
theorem w_nF {A B : Prop} (h : A) : if (!false) = true then A else B := by rw [if_pos (by decide)]; exact h
/-! arguments -/
theorem w_anil {Q : List V → Hp → Prop} (k : Q [] H) : tNil σ H Q := k
theorem w_acons {Q : List V → Hp → Prop} {tr : TA} (h : ta σ H fun x H1 => tr σ H1 fun xs H2 => Q (x :: xs) H2) : tCons ta tr σ H Q := h
theorem w_cb {r : List V → Hp → VK → Prop} {t : TA} (h : t σ H fun vs H1 => r vs H1 Q) : tCB r t σ H Q := h
theorem w_call {sp : Sp} {E : XK} {t : TA} (h : t σ H fun vs H1 => sp vs H1 Q E) : tCall sp [] E t σ H Q := by
  refine no_implicit_lambda% (@Z.stp _ ?_ (fun key hn => ?_))
  ·
      unfold tCall
      simpa only [List.append_nil] using h
  simpa only using Z.stc (Z.Stw.mk 5) hn key
/-- a new object -/
theorem w_new {o : HO} {R : Addr → Hp → Prop} (O : Own H L) (k : ∀ p H', Own H' ([(p, .o o)] ++ L) → R p H') : ∀ p, H p = none → R p (upd H p o) := fun p hp => k p _ (O.new hp)
def zTup (t : TA) : TE := tTup t
def NewL (xs : List V) (H : Hp) (Q : VK) : Prop := xs.length ≤ sizeLine ∧ ∀ p, H p = none → Q (.ref p) (upd H p (.lst xs))
def NewT (xs : List V) (H : Hp) (Q : VK) : Prop := xs.length ≤ sizeLine ∧ ∀ p, H p = none → Q (.ref p) (upd H p (.tup xs))
theorem w_tup {t : TA} (h : t σ H fun xs H1 => NewT xs H1 Q) : tTup t σ H Q := h
theorem w_lst {t : TA} (h : t σ H fun xs H1 => NewL xs H1 Q) : tLst t σ H Q := h
theorem w_newI {xs : List V} {ns : List Int} (hi : Ints xs ns) (hl : ns.length ≤ 16777216) (O : Own H L) (k : ∀ p H', Own H' ([(p, .lst (ns.map V.int))] ++ L) → Q (.ref p) H') : NewL xs H Q := by
  refine no_implicit_lambda% (@Z.stp _ ?_ (fun key hn => ?_))
  ·
      have e := hi.eq
      subst e
      exact ⟨by rw [List.length_map]; exact line hl, w_new O k⟩
  simpa only using Z.stc (Z.Stw.mk 5) hn key
theorem w_newL {xs : List V} (hl : xs.length ≤ 16777216) (O : Own H L) (k : ∀ p H', Own H' ([(p, .lst xs)] ++ L) → Q (.ref p) H') : NewL xs H Q := ⟨line hl, w_new O k⟩
theorem w_newT {xs : List V} (hl : xs.length ≤ 16777216) (O : Own H L) (k : ∀ p H', Own H' ([(p, .tup xs)] ++ L) → Q (.ref p) H') : NewT xs H Q := ⟨line hl, w_new O k⟩
/-! ### operators on values -/
theorem w_add (k : Q (.int (i + j)) H) : rI0 (fun i j => .int (i + j)) (.int i) (.int j) H Q := ⟨i, j, rfl, rfl, k⟩
theorem w_mod (h : 0 < j) (k : Q (.int (i % j)) H) : rI (fun _ j => 0 < j) (fun i j => .int (i % j)) (.int i) (.int j) H Q := ⟨i, j, rfl, rfl, h, k⟩
theorem w_pow (h : 0 ≤ j ∧ j ≤ 1000000 ∧ i.natAbs < 2 ^ 64) (k : Q (.int (i ^ j.toNat)) H) : rI CPow (fun i j => .int (i ^ j.toNat)) (.int i) (.int j) H Q := ⟨i, j, rfl, rfl, h, k⟩
end
/-! ### operators of any kind -/
section
variable {X : Cx} {K : PySem.W.Frag} {σ σ' : St} {H : Hp} {L R R' : HL} {te ta tb tc : TE} {Q : VK} {v x y : V} {i j : Int} {n : Nat} {a b p : Addr} {xs ys : List V} {ns ms : List Int} {s z : Str}
def zAdd (K : PySem.W.Frag) : R2 := fun x y H Q => match x, y with
  | .int i, .int j => Q (.int (i + j)) H
  | .str s, .str z => s.length + z.length ≤ 16777216 ∧ Q (.str (s ++ z)) H
  | .ref a, .ref b => (∃ xs ys, H a = some (.lst xs) ∧ H b = some (.lst ys) ∧ xs.length + ys.length ≤ 16777216 ∧ ∀ p, H p = none → Q (.ref p) (upd H p (.lst (xs ++ ys)))) ∨ rCatA K (.ref a) (.ref b) H Q
  | _, _ => False
theorem op_zAdd : OpR X (binaryOp .Add) (zAdd X.K) := by
  refine no_implicit_lambda% (@Z.stp _ ?_ (fun key hn => ?_))
  ·
      intro pins s σ H x y v u Q I rx ry h
      unfold zAdd at h
      split at h
      · exact op_add pins s σ H _ _ v u Q I rx ry ⟨_, _, rfl, rfl, h⟩
      · exact op_add_str pins s σ H _ _ v u Q I rx ry ⟨_, _, rfl, rfl, line h.1, h.2⟩
      · rcases h with ⟨xs, ys, h1, h2, h3, h4⟩ | h
        · exact op_cat pins s σ H _ _ v u Q I rx ry ⟨_, _, xs, ys, rfl, rfl, h1, h2, line h3, h4⟩
        · exact op_catA pins s σ H _ _ v u Q I rx ry h
      · exact h.elim
  simpa only using Z.stc (Z.Stw.mk 5) hn key
theorem w_addI (k : Q (.int (i + j)) H) : zAdd K (.int i) (.int j) H Q := k
theorem w_addS (h : s.length + z.length ≤ 16777216) (k : Q (.str (s ++ z)) H) : zAdd K (.str s) (.str z) H Q := ⟨h, k⟩
theorem w_addL (O : Own H L) (ha : Pk L [(a, .lst xs)] R) (hb : Pk L [(b, .lst ys)] R') (hl : xs.length + ys.length ≤ 16777216) (k : ∀ p H', Own H' ([(p, .lst (xs ++ ys))] ++ L) → Q (.ref p) H') : zAdd K (.ref a) (.ref b) H Q :=
  .inl ⟨xs, ys, O.at1 ha, O.at1 hb, hl, w_new O k⟩
theorem w_addLI (O : Own H L) (ha : LsI L a ns) (hb : LsI L b ms) (hl : ns.length + ms.length ≤ 16777216) (k : ∀ p H', Own H' ([(p, .lst ((ns ++ ms).map V.int))] ++ L) → Q (.ref p) H') : zAdd K (.ref a) (.ref b) H Q :=
  .inl ⟨_, _, ha _ O, hb _ O, by rw [List.length_map, List.length_map]; exact hl, by rw [← List.map_append]; exact w_new O k⟩
def zMul : R2 := fun x y H Q => match x, y with
  | .int i, .int j => CMul i j ∧ Q (.int (i * j)) H
  | .ref a, .int j => ∃ xs, H a = some (.lst xs) ∧ -(2 ^ 63) ≤ j ∧ j < 2 ^ 63 ∧ xs.length * j.toNat ≤ 16777216 ∧ ∀ p, H p = none → Q (.ref p) (upd H p (.lst (List.replicate j.toNat xs).flatten))
  | _, _ => False
theorem op_zMul : OpR X (binaryOp .Mult) zMul := by
  refine no_implicit_lambda% (@Z.stp _ ?_ (fun key hn => ?_))
  ·
      intro pins s σ H x y v u Q I rx ry h
      unfold zMul at h
      split at h
      · exact op_mul pins s σ H _ _ v u Q I rx ry ⟨_, _, rfl, rfl, h⟩
      · obtain ⟨xs, h1, h2, h3, h4, h5⟩ := h
        exact op_rep pins s σ H _ _ v u Q I rx ry ⟨_, _, xs, rfl, rfl, h1, h2, h3, line h4, h5⟩
      · exact h.elim
  simpa only using Z.stc (Z.Stw.mk 5) hn key
theorem w_mulI (h : (-18446744073709551616 < i ∧ i < 18446744073709551616) ∨ (-18446744073709551616 < j ∧ j < 18446744073709551616)) (k : Q (.int (i * j)) H) : zMul (.int i) (.int j) H Q := ⟨h, k⟩
theorem flat_one (m : Nat) (v : V) : (List.replicate m [v]).flatten = List.replicate m v := by
  refine no_implicit_lambda% (@Z.stp _ ?_ (fun key hn => ?_))
  ·
      induction m with
      | zero => rfl
      | succ m ih => rw [List.replicate_succ, List.flatten_cons, ih]; rfl
  simpa only using Z.stc (Z.Stw.mk 5) hn key
theorem w_repI (O : Own H L) (ha : Pk L [(a, .lst ([i].map V.int))] R) (hl : j ≤ 16777216) (h0 : -16777216 ≤ j) (k : ∀ p H', Own H' ([(p, .lst ((List.replicate j.toNat i).map V.int))] ++ L) → Q (.ref p) H') : zMul (.ref a) (.int j) H Q := by
  refine no_implicit_lambda% (@Z.stp _ ?_ (fun key hn => ?_))
  ·
      refine ⟨[.int i], O.at1 ha, by omega, by omega, ?_, ?_⟩
      · show 1 * j.toNat ≤ 16777216
        omega
      · rw [flat_one, ← List.map_replicate]
        exact w_new O k
  simpa only using Z.stc (Z.Stw.mk 5) hn key
/-- // by a positive number -/
def zDiv : R2 := fun x y H Q => ∃ i j, x = .int i ∧ y = .int j ∧ (0 < j ∧ j < 18446744073709551616) ∧ Q (.int (i / j)) H
theorem op_zDiv : OpR X (binaryOp .FloorDiv) zDiv := by
  refine no_implicit_lambda% (@Z.stp _ ?_ (fun key hn => ?_))
  ·
      intro pins s σ H x y v u Q I rx ry h
      obtain ⟨i, j, e1, e2, ⟨h1, h2⟩, q⟩ := h
      refine op_fdivW pins s σ H _ _ v u Q I rx ry ⟨i, j, e1, e2, ⟨h1, ?_⟩, q⟩
      have h3 : j.natAbs ≠ 0 := by omega
      have h4 : j.natAbs < 2 ^ 9000 := Nat.lt_of_lt_of_le (show j.natAbs < 2 ^ 64 by omega) (Nat.pow_le_pow_right (by decide) (by decide))
      exact (Nat.log2_lt h3).mpr h4
  simpa only using Z.stc (Z.Stw.mk 5) hn key
theorem w_div (h1 : 0 < j) (h2 : j < 18446744073709551616) (k : Q (.int (i / j)) H) : zDiv (.int i) (.int j) H Q := ⟨i, j, rfl, rfl, ⟨h1, h2⟩, k⟩
def zMod : R2 := rI (fun _ j => 0 < j) fun i j => .int (i % j)
theorem op_zMod : OpR X (binaryOp .Mod) zMod := op_mod
theorem w_modI (h : 0 < j) (k : Q (.int (i % j)) H) : zMod (.int i) (.int j) H Q := ⟨i, j, rfl, rfl, h, k⟩
def zPow : R2 := rI CPow fun i j => .int (i ^ j.toNat)
theorem op_zPow : OpR X (binaryOp .Pow) zPow := op_pow
theorem w_powI (h0 : 0 ≤ j) (h1 : j ≤ 1000000) (h : -18446744073709551616 < i) (h2 : i < 18446744073709551616) (k : Q (.int (i ^ j.toNat)) H) : zPow (.int i) (.int j) H Q := ⟨i, j, rfl, rfl, ⟨h0, h1, by omega⟩, k⟩
def zSub : R2 := rI0 fun i j => .int (i - j)
theorem op_zSub : OpR X (binaryOp .Sub) zSub := op_sub
theorem w_subI (k : Q (.int (i - j)) H) : zSub (.int i) (.int j) H Q := ⟨i, j, rfl, rfl, k⟩
def zNeg : V → Hp → VK → Prop := rU fun i => .int (-i)
theorem un_zNeg : UnR X (unaryOp .USub) zNeg := un_neg
theorem w_neg (k : Q (.int (-i)) H) : zNeg (.int i) H Q := ⟨i, rfl, k⟩
/-! comparisons -/
def zLt : R2 := rI0 fun i j => .bl (decide (i < j))
def zLe : R2 := rI0 fun i j => .bl (decide (i ≤ j))
def zGt : R2 := rI0 fun i j => .bl (decide (j < i))
def zGe : R2 := rI0 fun i j => .bl (decide (j ≤ i))
theorem op_zLt : OpR X (compareOp .Lt) zLt := op_lt
theorem op_zLe : OpR X (compareOp .LtE) zLe := op_le
theorem op_zGt : OpR X (compareOp .Gt) zGt := op_gt
theorem op_zGe : OpR X (compareOp .GtE) zGe := op_ge
theorem w_lt (k : Q (.bl (decide (i < j))) H) : zLt (.int i) (.int j) H Q := ⟨i, j, rfl, rfl, k⟩
theorem w_le (k : Q (.bl (decide (i ≤ j))) H) : zLe (.int i) (.int j) H Q := ⟨i, j, rfl, rfl, k⟩
theorem w_gt (k : Q (.bl (decide (j < i))) H) : zGt (.int i) (.int j) H Q := ⟨i, j, rfl, rfl, k⟩
theorem w_ge (k : Q (.bl (decide (j ≤ i))) H) : zGe (.int i) (.int j) H Q := ⟨i, j, rfl, rfl, k⟩
def zEq (K : PySem.W.Frag) : R2 := fun x y H Q => (scal x y = true ∧ Q (.bl (decide (x = y))) H) ∨ rEqD K x y H Q
def zNe (K : PySem.W.Frag) : R2 := fun x y H Q => (scal x y = true ∧ Q (.bl (!decide (x = y))) H) ∨ rNeD K x y H Q
theorem op_zEq (hu : X.A.units + 64 < cLine) : OpR X (compareOp .Eq) (zEq X.K) := by
  refine no_implicit_lambda% (@Z.stp _ ?_ (fun key hn => ?_))
  ·
      intro pins s σ H x y v u Q I rx ry h
      rcases h with h | h
      · exact op_eq pins s σ H _ _ v u Q I rx ry h
      · exact op_eqD hu pins s σ H _ _ v u Q I rx ry h
  simpa only using Z.stc (Z.Stw.mk 5) hn key
theorem op_zNe (hu : X.A.units + 64 < cLine) : OpR X (compareOp .NotEq) (zNe X.K) := by
  refine no_implicit_lambda% (@Z.stp _ ?_ (fun key hn => ?_))
  ·
      intro pins s σ H x y v u Q I rx ry h
      rcases h with h | h
      · exact op_ne pins s σ H _ _ v u Q I rx ry h
      · exact op_neD hu pins s σ H _ _ v u Q I rx ry h
  simpa only using Z.stc (Z.Stw.mk 5) hn key
theorem dI : decide (V.int i = V.int j) = decide (i = j) := by simp
theorem dS : decide (V.str s = V.str z) = decide (s = z) := by simp
theorem dB {c d : Bool} : decide (V.bl c = V.bl d) = decide (c = d) := by simp
theorem w_eqI (k : Q (.bl (decide (i = j))) H) : zEq K (.int i) (.int j) H Q := .inl ⟨rfl, by rw [dI]; exact k⟩
theorem w_neI (k : Q (.bl (!decide (i = j))) H) : zNe K (.int i) (.int j) H Q := .inl ⟨rfl, by rw [dI]; exact k⟩
theorem w_eqS (k : Q (.bl (decide (s = z))) H) : zEq K (.str s) (.str z) H Q := .inl ⟨rfl, by rw [dS]; exact k⟩
theorem w_neS (k : Q (.bl (!decide (s = z))) H) : zNe K (.str s) (.str z) H Q := .inl ⟨rfl, by rw [dS]; exact k⟩
theorem w_eqIT (k : Q (.bl true) H) : zEq K (.int i) (.int i) H Q := w_eqI (by rw [decide_eq_true rfl]; exact k)
theorem w_neIT (k : Q (.bl false) H) : zNe K (.int i) (.int i) H Q := w_neI (by rw [decide_eq_true rfl]; exact k)
theorem w_eqST (k : Q (.bl true) H) : zEq K (.str s) (.str s) H Q := w_eqS (by rw [decide_eq_true rfl]; exact k)
theorem w_eq0F (h : scal x y = true) (n : x ≠ y) (k : Q (.bl false) H) : zEq K x y H Q := .inl ⟨h, by rw [decide_eq_false n]; exact k⟩
theorem w_ne0F (h : scal x y = true) (n : x ≠ y) (k : Q (.bl true) H) : zNe K x y H Q := .inl ⟨h, by rw [decide_eq_false n]; exact k⟩
theorem w_eq0T (h : scal x x = true) (k : Q (.bl true) H) : zEq K x x H Q := .inl ⟨h, by rw [decide_eq_true rfl]; exact k⟩
theorem w_ne0T (h : scal x x = true) (k : Q (.bl false) H) : zNe K x x H Q := .inl ⟨h, by rw [decide_eq_true rfl]; exact k⟩
theorem w_eqB {c d : Bool} (k : Q (.bl (decide (c = d))) H) : zEq K (.bl c) (.bl d) H Q := .inl ⟨rfl, by rw [dB]; exact k⟩
theorem w_neB {c d : Bool} (k : Q (.bl (!decide (c = d))) H) : zNe K (.bl c) (.bl d) H Q := .inl ⟨rfl, by rw [dB]; exact k⟩
theorem dpI : ∀ ns : List Int, DpAll K H (ns.map V.int) (ns.map PyData.int)
  | [] => .nil
  | i :: ns => .cons (.int i) (dpI ns)
theorem eqvI : ∀ ns ms : List Int, PyData.eqvAll (ns.map PyData.int) (ms.map PyData.int) = decide (ns = ms)
  | [], [] => rfl
  | [], _ :: _ => rfl
  | _ :: _, [] => rfl
  | i :: ns, j :: ms => by
    show (PyData.eqv (.int i) (.int j) && PyData.eqvAll (ns.map PyData.int) (ms.map PyData.int)) = _
    rw [eqvI ns ms]
    show ((i == j) && decide (ns = ms)) = _
    by_cases h : i = j
    · subst h; simp
    · simp [h]
theorem shI : ∀ ns : List Int, SeqAt.shaped (.list (ns.map PyData.int)) = true := fun ns => by
  have h1 : ∀ ns : List Int, PyData.canLayAll0 (ns.map PyData.int) = true := fun ns => by
    induction ns with
    | nil => rfl
    | cons i ns ih => show (PyData.canLay0 (.int i) && PyData.canLayAll0 (ns.map PyData.int)) = true; rw [ih]; rfl
  have h2 : ∀ ns : List Int, PyData.depthAll (ns.map PyData.int) = 0 := fun ns => by
    induction ns with
    | nil => rfl
    | cons i ns ih => show max (PyData.depth (.int i)) (PyData.depthAll (ns.map PyData.int)) = 0; rw [ih]; rfl
  show (PyData.canLayAll0 (ns.map PyData.int) && decide (PyData.depthAll (ns.map PyData.int) + 1 ≤ 64)) = true
  rw [h1, h2]
  rfl
theorem w_eqL (O : Own H L) (ha : LsI L a ns) (hb : LsI L b ms) (k : Q (.bl (decide (ns = ms))) H) : zEq K (.ref a) (.ref b) H Q :=
  .inr ⟨.list (ns.map PyData.int), .list (ms.map PyData.int), .lst (.of (ha _ O)) (dpI ns), .lst (.of (hb _ O)) (dpI ms), shI ns, shI ms, by show Q (.bl (PyData.eqvAll _ _)) H; rw [eqvI]; exact k⟩
theorem w_eqLT (O : Own H L) (ha : LsI L a ns) (hb : LsI L b ns) (k : Q (.bl true) H) : zEq K (.ref a) (.ref b) H Q := w_eqL O ha hb (by rw [decide_eq_true rfl]; exact k)
theorem w_neL (O : Own H L) (ha : LsI L a ns) (hb : LsI L b ms) (k : Q (.bl (!decide (ns = ms))) H) : zNe K (.ref a) (.ref b) H Q :=
  .inr ⟨.list (ns.map PyData.int), .list (ms.map PyData.int), .lst (.of (ha _ O)) (dpI ns), .lst (.of (hb _ O)) (dpI ms), shI ns, shI ms, by show Q (.bl (!PyData.eqvAll _ _)) H; rw [eqvI]; exact k⟩
theorem w_neLT (O : Own H L) (ha : LsI L a ns) (hb : LsI L b ns) (k : Q (.bl false) H) : zNe K (.ref a) (.ref b) H Q := w_neL O ha hb (by rw [decide_eq_true rfl]; exact k)
def zIs : R2 := fun x y H Q => y = .non ∧ Q (.bl (decide (x = .non))) H
def zIsNot : R2 := fun x y H Q => y = .non ∧ Q (.bl (!decide (x = .non))) H
theorem op_zIs : OpR X (compareOp .Is) zIs := op_isN
theorem op_zIsNot : OpR X (compareOp .IsNot) zIsNot := op_notN
theorem w_isN (k : Q (.bl true) H) : zIs .non .non H Q := ⟨rfl, k⟩
theorem w_isR (k : Q (.bl false) H) : zIs (.ref a) .non H Q := ⟨rfl, k⟩
theorem w_isI (k : Q (.bl false) H) : zIs (.int i) .non H Q := ⟨rfl, k⟩
theorem w_nisN (k : Q (.bl false) H) : zIsNot .non .non H Q := ⟨rfl, k⟩
theorem w_nisR (k : Q (.bl true) H) : zIsNot (.ref a) .non H Q := ⟨rfl, k⟩
theorem w_nisI (k : Q (.bl true) H) : zIsNot (.int i) .non H Q := ⟨rfl, k⟩
/-! ### items and slices -/
theorem atI_int {i : Int} (h0 : 0 ≤ i) (h1 : i < ns.length) : atI (ns.map V.int) i = some (.int (ns.getD i.toNat 0)) := by
  refine no_implicit_lambda% (@Z.stp _ ?_ (fun key hn => ?_))
  ·
      obtain ⟨k, rfl⟩ : ∃ k : Nat, i = k := ⟨i.toNat, by omega⟩
      have hk : k < ns.length := by omega
      refine atI_nat ?_
      rw [List.getElem?_map, List.getElem?_eq_getElem hk]
      simp [List.getD, hk]
  simpa only using Z.stc (Z.Stw.mk 5) hn key
theorem w_ixI (O : Own H L) (ha : LsI L a ns) (h0 : 0 ≤ i) (h1 : i < ns.length) (k : Q (.int (ns.getD i.toNat 0)) H) : rIx K (.ref a) (.int i) H Q :=
  .inl ⟨a, _, i, _, rfl, rfl, .of (ha _ O), atI_int h0 h1, k⟩
theorem w_ixM2 {m0 : Int} (O : Own H L) (ha : LsI L a (m0 :: ns)) (h0 : 0 ≤ i) (h1 : i < ((m0 :: ns).length : Nat)) (k : ∀ m, m = (m0 :: ns).getD i.toNat 0 → m ∈ (m0 :: ns) → Q (.int m) H) : rIx K (.ref a) (.int i) H Q := by
  refine no_implicit_lambda% (@Z.stp _ ?_ (fun key hn => ?_))
  ·
      refine w_ixI O ha h0 h1 (k _ rfl ?_)
      have hk : i.toNat < (m0 :: ns).length := by omega
      simp only [List.getD, List.getElem?_eq_getElem hk, Option.getD_some]
      exact List.getElem_mem hk
  simpa only using Z.stc (Z.Stw.mk 5) hn key
theorem w_ixN {k0 : Nat} (O : Own H L) (ha : LsI L a ns) (h1 : k0 < ns.length) (k : Q (.int (ns.getD k0 0)) H) : rIx K (.ref a) (.int (k0 : Nat)) H Q := w_ixI O ha (by omega) (by omega) (by rw [Int.toNat_natCast]; exact k)
/-- an item of a short written list -/
theorem w_ixM (O : Own H L) (ha : LsI L a ns) (h0 : 0 ≤ i) (h1 : i < ns.length) (k : ∀ m, m ∈ ns → Q (.int m) H) : rIx K (.ref a) (.int i) H Q := by
  refine no_implicit_lambda% (@Z.stp _ ?_ (fun key hn => ?_))
  ·
      refine w_ixI O ha h0 h1 (k _ ?_)
      have hk : i.toNat < ns.length := by omega
      simp only [List.getD, List.getElem?_eq_getElem hk, Option.getD_some]
      exact List.getElem_mem hk
  simpa only using Z.stc (Z.Stw.mk 5) hn key
theorem w_ixL (O : Own H L) (ha : Pk L [(a, .lst xs)] R) (h : atI xs i = some v) (k : Q v H) : rIx K (.ref a) (.int i) H Q := .inl ⟨a, _, i, _, rfl, rfl, .of (O.at1 ha), h, k⟩
theorem w_ixT (O : Own H L) (ha : Pk L [(a, .tup xs)] R) (h : atI xs i = some v) (k : Q v H) : rIx K (.ref a) (.int i) H Q := .inr (.inl ⟨a, _, i, _, rfl, rfl, .of (O.at1 ha), h, k⟩)
def zSl (K : PySem.W.Frag) : V → Option Int → Option Int → Hp → VK → Prop := fun x lo hi H Q => rSlL K x lo hi H Q ∨ rSlT K x lo hi H Q ∨ rSlS x lo hi H Q
theorem sl_z : SlR X (zSl X.K) := sl_list.or (sl_tup.or sl_str)
theorem w_sl {r : V → Option Int → Option Int → Hp → VK → Prop} {tl th : TO} (h : te σ H fun x H1 => tl σ H1 fun l H2 => th σ H2 fun u H3 => r x l u H3 Q) : tSl r te tl th σ H Q := h
def PartR (x : V) (Q : Option Int → Hp → Prop) (H : Hp) : Prop := ∃ i, x = .int i ∧ Q (some i) H
theorem w_part {Q : Option Int → Hp → Prop} (h : te σ H fun x H1 => PartR x Q H1) : tPart te σ H Q := h
theorem w_partI {Q : Option Int → Hp → Prop} (h : Q (some i) H) : PartR (.int i) Q H := ⟨i, rfl, h⟩
theorem w_npart {Q : Option Int → Hp → Prop} (h : Q none H) : tNoPart σ H Q := h
/-- a slice of ints -/
def cutI (ns : List Int) (lo hi : Option Int) : List Int := (ns.drop (HT.sIx ns.length 0 lo)).take (HT.sIx ns.length ns.length hi - HT.sIx ns.length 0 lo)
theorem cut_int (ns : List Int) (lo hi : Option Int) : cutV (ns.map V.int) lo hi = (cutI ns lo hi).map V.int := by
  refine no_implicit_lambda% (@Z.stp _ ?_ (fun key hn => ?_))
  ·
      unfold cutV cutI
      rw [List.length_map, List.map_take, List.map_drop]
  simpa only using Z.stc (Z.Stw.mk 5) hn key
theorem w_slI {lo hi : Option Int} (O : Own H L) (ha : LsI L a ns) (k : ∀ p H', Own H' ([(p, .lst ((cutI ns lo hi).map V.int))] ++ L) → Q (.ref p) H') : zSl K (.ref a) lo hi H Q :=
  .inl ⟨a, _, rfl, .of (ha _ O), by rw [cut_int]; exact w_new O k⟩
theorem cutI_take {k : Int} (h : 0 ≤ k) : cutI ns none (some k) = ns.take k.toNat := by
  refine no_implicit_lambda% (@Z.stp _ ?_ (fun key hn => ?_))
  ·
      obtain ⟨m, rfl⟩ : ∃ m : Nat, k = m := ⟨k.toNat, by omega⟩
      unfold cutI
      rw [HT.sIx_none, HT.sIx_nat]
      simp only [List.drop_zero, Nat.sub_zero, Int.toNat_natCast]
      exact List.take_eq_take_min.symm
  simpa only using Z.stc (Z.Stw.mk 5) hn key
theorem cutI_drop {k : Int} (h : 0 ≤ k) : cutI ns (some k) none = ns.drop k.toNat := by
  refine no_implicit_lambda% (@Z.stp _ ?_ (fun key hn => ?_))
  ·
      obtain ⟨m, rfl⟩ : ∃ m : Nat, k = m := ⟨k.toNat, by omega⟩
      unfold cutI
      rw [HT.sIx_none, HT.sIx_nat]
      simp only [Int.toNat_natCast]
      by_cases h : m ≤ ns.length
      · rw [Nat.min_eq_left h]
        exact List.take_of_length_le (by simp)
      · rw [Nat.min_eq_right (show ns.length ≤ m by omega), List.drop_eq_nil_of_le (Nat.le_refl _), List.drop_eq_nil_of_le (by omega), List.take_nil]
  simpa only using Z.stc (Z.Stw.mk 5) hn key
theorem cutI_mid {k m : Int} (h : 0 ≤ k) (h2 : 0 ≤ m) : cutI ns (some k) (some m) = (ns.take m.toNat).drop k.toNat := by
  refine no_implicit_lambda% (@Z.stp _ ?_ (fun key hn => ?_))
  ·
      obtain ⟨k, rfl⟩ : ∃ x : Nat, k = x := ⟨k.toNat, by omega⟩
      obtain ⟨m, rfl⟩ : ∃ x : Nat, m = x := ⟨m.toNat, by omega⟩
      unfold cutI
      rw [HT.sIx_nat, HT.sIx_nat]
      simp only [Int.toNat_natCast]
      rw [List.drop_take]
      refine List.ext_getElem? fun i => ?_
      simp only [List.getElem?_take, List.getElem?_drop]
      by_cases h1 : k ≤ ns.length
      · rw [Nat.min_eq_left h1]
        by_cases h3 : m ≤ ns.length
        · rw [Nat.min_eq_left h3]
        · rw [Nat.min_eq_right (show ns.length ≤ m by omega)]
          by_cases h4 : i < ns.length - k
          · rw [if_pos h4, if_pos (by omega)]
          · rw [if_neg h4]
            split
            · exact (List.getElem?_eq_none (by omega)).symm
            · rfl
      · rw [Nat.min_eq_right (show ns.length ≤ k by omega)]
        rw [if_neg (by omega)]
        split
        · exact (List.getElem?_eq_none (by omega)).symm
        · rfl
  simpa only using Z.stc (Z.Stw.mk 5) hn key
theorem w_slTake (O : Own H L) (ha : LsI L a ns) (h : 0 ≤ i) (k : ∀ p H', Own H' ([(p, .lst ((ns.take i.toNat).map V.int))] ++ L) → Q (.ref p) H') : zSl K (.ref a) none (some i) H Q :=
  w_slI O ha (by rw [cutI_take h]; exact k)
theorem w_slDrop (O : Own H L) (ha : LsI L a ns) (h : 0 ≤ i) (k : ∀ p H', Own H' ([(p, .lst ((ns.drop i.toNat).map V.int))] ++ L) → Q (.ref p) H') : zSl K (.ref a) (some i) none H Q :=
  w_slI O ha (by rw [cutI_drop h]; exact k)
theorem w_slMid (O : Own H L) (ha : LsI L a ns) (h : 0 ≤ i) (h2 : 0 ≤ j) (k : ∀ p H', Own H' ([(p, .lst (((ns.take j.toNat).drop i.toNat).map V.int))] ++ L) → Q (.ref p) H') : zSl K (.ref a) (some i) (some j) H Q :=
  w_slI O ha (by rw [cutI_mid h h2]; exact k)
theorem w_slL {lo hi : Option Int} (O : Own H L) (ha : Pk L [(a, .lst xs)] R) (k : ∀ p H', Own H' ([(p, .lst (cutV xs lo hi))] ++ L) → Q (.ref p) H') : zSl K (.ref a) lo hi H Q :=
  .inl ⟨a, _, rfl, .of (O.at1 ha), w_new O k⟩
theorem w_slS {lo hi : Option Int} (h : s.length ≤ 16777216) (k : Q (.str (cutS s lo hi)) H) : zSl K (.str s) lo hi H Q := .inr (.inr ⟨s, rfl, line h, k⟩)
/-! stores -/
theorem ixN_nn {n : Nat} {i : Int} (h0 : 0 ≤ i) (h1 : i < n) : ixN n i = some i.toNat := by unfold ixN; rw [if_pos h0, if_pos h1]
theorem map_setI (ns : List Int) (k : Nat) (j : Int) : (ns.map V.int).set k (.int j) = (ns.set k j).map V.int := by rw [List.map_set]
theorem w_setI {R2 : Hp → Prop} (O : Own H L) (ha : Pk L [(a, .lst (ns.map V.int))] R) (h0 : 0 ≤ i) (h1 : i < ns.length) (k : ∀ H', Own H' ([(a, .lst ((ns.set i.toNat j).map V.int))] ++ R) → R2 H') : rSetL (.ref a) (.int i) (.int j) H R2 :=
  ⟨a, _, i, i.toNat, rfl, rfl, O.at1 ha, ixN_nn h0 (by rw [List.length_map]; exact h1), by rw [map_setI]; exact k _ (O.put ha)⟩
theorem w_setL {R2 : Hp → Prop} (O : Own H L) (ha : Pk L [(a, .lst xs)] R) (h0 : 0 ≤ i) (h1 : i < xs.length) (k : ∀ H', Own H' ([(a, .lst (xs.set i.toNat v))] ++ R) → R2 H') : rSetL (.ref a) (.int i) v H R2 :=
  ⟨a, _, i, i.toNat, rfl, rfl, O.at1 ha, ixN_nn h0 h1, k _ (O.put ha)⟩
/-! ### built-ins -/
def zLen (K : PySem.W.Frag) : List V → Hp → VK → Prop := fun xs H Q => ∃ x n, xs = [x] ∧ LenV K x H n ∧ Q (.int n) H
theorem call_zLen : CallR X (.builtin "len") (zLen X.K) := call_len
theorem w_lenI (O : Own H L) (ha : LsI L a ns) (k : Q (.int ns.length) H) : zLen K [.ref a] H Q := ⟨_, ns.length, rfl, .inl ⟨_, .of (ha _ O), by rw [List.length_map]⟩, k⟩
theorem w_lenL (O : Own H L) (ha : Pk L [(a, .lst xs)] R) (k : Q (.int xs.length) H) : zLen K [.ref a] H Q := ⟨_, xs.length, rfl, .inl ⟨_, .of (O.at1 ha), rfl⟩, k⟩
theorem w_lenT (O : Own H L) (ha : Pk L [(a, .tup xs)] R) (k : Q (.int xs.length) H) : zLen K [.ref a] H Q := ⟨_, xs.length, rfl, .inr ⟨_, .of (O.at1 ha), rfl⟩, k⟩
theorem w_lenS (h : s.length ≤ 16777216) (k : Q (.int s.length) H) : zLen K [.str s] H Q := ⟨_, s.length, rfl, ⟨line h, rfl⟩, k⟩
def zList (K : PySem.W.Frag) : List V → Hp → VK → Prop := fun xs H Q => ∃ p ys, xs = [.ref p] ∧ (SqL K H p ys ∨ SqT K H p ys) ∧ ∀ l, H l = none → Q (.ref l) (upd H l (.lst ys))
theorem call_zList : CallR X (.type "list") (zList X.K) := call_list_of
theorem w_list (O : Own H L) (ha : Pk L [(a, .lst xs)] R) (k : ∀ p H', Own H' ([(p, .lst xs)] ++ L) → Q (.ref p) H') : zList K [.ref a] H Q := ⟨a, _, rfl, .inl (.of (O.at1 ha)), w_new O k⟩
theorem w_listT (O : Own H L) (ha : Pk L [(a, .tup xs)] R) (k : ∀ p H', Own H' ([(p, .lst xs)] ++ L) → Q (.ref p) H') : zList K [.ref a] H Q := ⟨a, _, rfl, .inr (.of (O.at1 ha)), w_new O k⟩
def zMax : List V → Hp → VK → Prop := fun xs H Q => ∃ i j, xs = [.int i, .int j] ∧ Q (.int (max i j)) H
def zMin : List V → Hp → VK → Prop := fun xs H Q => ∃ i j, xs = [.int i, .int j] ∧ Q (.int (min i j)) H
theorem call_zMax (hc : X.calm = true) : CallR X (.builtin "max") zMax := by
  refine no_implicit_lambda% (@Z.stp _ ?_ (fun key hn => ?_))
  ·
      intro pins s σ H xs us Q I r h
      obtain ⟨i, j, e, q⟩ := h
      refine call_max2 hc pins s σ H xs us Q I r ⟨i, j, e, ?_⟩
      have z : (if j > i then j else i) = max i j := by split <;> omega
      rw [z]
      exact q
  simpa only using Z.stc (Z.Stw.mk 5) hn key
theorem call_zMin (hc : X.calm = true) : CallR X (.builtin "min") zMin := by
  refine no_implicit_lambda% (@Z.stp _ ?_ (fun key hn => ?_))
  ·
      intro pins s σ H xs us Q I r h
      obtain ⟨i, j, e, q⟩ := h
      refine call_min2 hc pins s σ H xs us Q I r ⟨i, j, e, ?_⟩
      have z : (if j < i then j else i) = min i j := by split <;> omega
      rw [z]
      exact q
  simpa only using Z.stc (Z.Stw.mk 5) hn key
theorem w_max (k : Q (.int (max i j)) H) : zMax [.int i, .int j] H Q := ⟨i, j, rfl, k⟩
theorem w_min (k : Q (.int (min i j)) H) : zMin [.int i, .int j] H Q := ⟨i, j, rfl, k⟩
def zIsi (K : PySem.W.Frag) : List V → Hp → VK → Prop := rIsi K
theorem call_zIsi : CallR X (.builtin "isinstance") (zIsi X.K) := call_isi
theorem w_isiL {T : String} {c : Bool} (O : Own H L) (ha : Pk L [(a, .lst xs)] R) (h : kitB "list" T = some c) (k : Q (.bl c) H) : zIsi K [.ref a, .ty T] H Q :=
  ⟨_, _, _, _, c, rfl, .ty T, .base (.lst (O.at1 ha)), h, k⟩
theorem w_isiT {T : String} {c : Bool} (O : Own H L) (ha : Pk L [(a, .tup xs)] R) (h : kitB "tuple" T = some c) (k : Q (.bl c) H) : zIsi K [.ref a, .ty T] H Q :=
  ⟨_, _, _, _, c, rfl, .ty T, .base (.tup (O.at1 ha)), h, k⟩
theorem w_isiI {T : String} {c : Bool} (h : kitB "int" T = some c) (k : Q (.bl c) H) : zIsi K [.int i, .ty T] H Q := ⟨_, _, _, _, c, rfl, .ty T, .base (.int i), h, k⟩
theorem w_isiS {T : String} {c : Bool} (h : kitB "str" T = some c) (k : Q (.bl c) H) : zIsi K [.str s, .ty T] H Q := ⟨_, _, _, _, c, rfl, .ty T, .base (.str s), h, k⟩
theorem w_isiN {T : String} {c : Bool} (h : kitB "NoneType" T = some c) (k : Q (.bl c) H) : zIsi K [.non, .ty T] H Q := ⟨_, _, _, _, c, rfl, .ty T, .base .non, h, k⟩
theorem w_isiB {T : String} {c d : Bool} (h : kitB "bool" T = some c) (k : Q (.bl c) H) : zIsi K [.bl d, .ty T] H Q := ⟨_, _, _, _, c, rfl, .ty T, .base (.bl d), h, k⟩
def zInt : List V → Hp → VK → Prop := fun xs H Q => (∃ i, xs = [.int i] ∧ Q (.int i) H) ∨ ∃ k, xs = [.bl k] ∧ Q (.int (if k then 1 else 0)) H
theorem call_zInt : CallR X (.type "int") zInt := call_int1
theorem w_intI (k : Q (.int i) H) : zInt [.int i] H Q := .inl ⟨i, rfl, k⟩
theorem w_intB {c : Bool} (k : Q (.int (if c then 1 else 0)) H) : zInt [.bl c] H Q := .inr ⟨c, rfl, k⟩
def zAll (K : PySem.W.Frag) : List V → Hp → VK → Prop := rAll K
theorem call_zAll (hc : X.calm = true) : CallR X (.builtin "all") (zAll X.K) := cr_all hc
theorem w_all {bs : List Bool} (O : Own H L) (ha : Pk L [(a, .lst (bs.map V.bl))] R) (k : Q (.bl (bs.all id)) H) : zAll K [.ref a] H Q := ⟨a, bs, rfl, .of (O.at1 ha), k⟩
def zAny (K : PySem.W.Frag) : List V → Hp → VK → Prop := rAny K
theorem call_zAny (hc : X.calm = true) : CallR X (.builtin "any") (zAny X.K) := cr_any hc
theorem w_any {bs : List Bool} (O : Own H L) (ha : Pk L [(a, .lst (bs.map V.bl))] R) (k : Q (.bl (bs.any id)) H) : zAny K [.ref a] H Q := ⟨a, bs, rfl, .of (O.at1 ha), k⟩
/-! ### methods of lists -/
theorem tyL (K : PySem.W.Frag) (O : Own H L) (ha : Pk L [(a, .lst xs)] R) : tyV K "list" (.ref a) H := .inl ⟨rfl, _, .of (O.at1 ha)⟩
theorem w_bm {T : String} {r : V → List V → Hp → VK → Prop} {to : TE} {t : TA} (h : to σ H fun x H1 => tyV K T x H1 ∧ t σ H1 fun xs H2 => r x xs H2 Q) : tBM K T r to t σ H Q := h
theorem w_bm0 {T : String} {r : V → List V → Hp → VK → Prop} {to : TE} (h : to σ H fun x H1 => tyV K T x H1 ∧ r x [] H1 Q) : tBM0 K T r to σ H Q := h
theorem w_tyL {P : Prop} (O : Own H L) (ha : Pk L [(a, .lst xs)] R) (k : P) : tyV K "list" (.ref a) H ∧ P := ⟨tyL K O ha, k⟩
theorem w_appI (O : Own H L) (ha : Pk L [(a, .lst (ns.map V.int))] R) (h : ns.length < 16777216) (k : ∀ H', Own H' ([(a, .lst ((ns ++ [i]).map V.int))] ++ R) → Q .non H') : rAppend (.ref a) [.int i] H Q :=
  ⟨a, _, _, rfl, rfl, O.at1 ha, by rw [List.length_map]; exact lineS h, by
    have e : ns.map V.int ++ [V.int i] = (ns ++ [i]).map V.int := by rw [List.map_append]; rfl
    rw [e]
    exact k _ (O.put ha)⟩
theorem w_appL (O : Own H L) (ha : Pk L [(a, .lst xs)] R) (h : xs.length < 16777216) (k : ∀ H', Own H' ([(a, .lst (xs ++ [v]))] ++ R) → Q .non H') : rAppend (.ref a) [v] H Q :=
  ⟨a, _, _, rfl, rfl, O.at1 ha, lineS h, k _ (O.put ha)⟩
end

/-! ### built-in names -/
theorem bt_len : bootBuiltins "len" = some (.builtin "len") := by decide +kernel
theorem bt_max : bootBuiltins "max" = some (.builtin "max") := by decide +kernel
theorem bt_min : bootBuiltins "min" = some (.builtin "min") := by decide +kernel
theorem bt_all : bootBuiltins "all" = some (.builtin "all") := by decide +kernel
theorem bt_any : bootBuiltins "any" = some (.builtin "any") := by decide +kernel
theorem bt_sum : bootBuiltins "sum" = some (.builtin "sum") := by decide +kernel
theorem bt_repr : bootBuiltins "repr" = some (.builtin "repr") := by decide +kernel
theorem bt_divmod : bootBuiltins "divmod" = some (.builtin "divmod") := by decide +kernel
theorem bt_isinstance : bootBuiltins "isinstance" = some (.builtin "isinstance") := by decide +kernel
theorem bt_list : bootBuiltins "list" = some (.type "list") := by decide +kernel
theorem bt_int : bootBuiltins "int" = some (.type "int") := by decide +kernel
theorem bt_str : bootBuiltins "str" = some (.type "str") := by decide +kernel
theorem bt_bool : bootBuiltins "bool" = some (.type "bool") := by decide +kernel
theorem bt_tuple : bootBuiltins "tuple" = some (.type "tuple") := by decide +kernel
theorem bt_dict : bootBuiltins "dict" = some (.type "dict") := by decide +kernel
theorem bt_ValueError : bootBuiltins "ValueError" = some (.type "ValueError") := by decide +kernel
/-! ### defs -/
/-- a def that may be called by its name -/
structure Cal (P : Program) (w : World) (K : PySem.W.Frag) (mg : Str → Option Value) (base : Heap) (k : Nat) (x : Str) (sp : Sp) (dvs : List V) : Prop where
  ex : ∃ (f : Addr) (fd : FuncData) (ps : List Str) (ds : List Value), FnOk P w K mg base (L2.CX P w) k f fd ps sp ∧ mg x = some (.ref f) ∧ PySem.W.keepIn K (.ref f) = true ∧ Binds K fd ps ds ∧ Vals dvs ds
/-- a def of the text, as the top left it -/
structure Dfn (K : PySem.W.Frag) (mg : Str → Option Value) (x : Str) (st : Stmt) (dvs : List V) (kws : List (Str × V)) (f : Addr) (fd : FuncData) : Prop where
  fn : FunD K x x (defArgs st) (defBody st) (defScope st) dvs kws f fd
  mgf : mg x = some (.ref f)
section
variable {P : Program} {w : World} {K : PySem.W.Frag} {mg : Str → Option Value} {base : Heap}
/-- a def that raises nothing, by its body -/
theorem cal_nox {x : Str} {st : Stmt} {N ps : List Str} {k : Nat} {sp : Sp} (d : ∃ f fd, Dfn K mg x st [] [] f fd) (S : FnScope N ps (defScope st))
    (hb : ∀ (kV doc pm : Value) (an : Option Addr) (cdv ct : Value) (us : List Value), us.length = ps.length → bindArgs (PySem.W.fnOf x x (defArgs st) (defBody st) (defScope st) .none kV doc pm an cdv ct) ⟨us, []⟩ = pure (ps.zip us))
    (len : ∀ vs H Q E, sp vs H Q E → vs.length = ps.length)
    (hbody : ∀ (cdv : Value) (A : Around) (outer : List Env) (s : Shared) (f : Addr) (H : Hp) (vs : List V) (Q : VK) (E : XK), Room k (A.deeper (PyProof.Rows.envOfC x (defScope st) s.heap.objs.size f cdv)) → sp vs H Q E →
      ∃ t, PSs (cxOf (L2.CX P w) P w K mg base N x (defScope st) f cdv A outer s H E).nox (defBody st) t ∧ t ⟨fun _ H' => Q .non H', Q, fun _ _ => False, fun _ _ => False⟩ (start N vs) H) : Cal P w K mg base (k + 1) x sp [] := by
  refine no_implicit_lambda% (@Z.stp _ ?_ (fun key hn => ?_))
  ·
      obtain ⟨f, fd, F, hm⟩ := d
      refine ⟨f, fd, ps, [], ?_, hm, F.kp, F.bindsN hb, .nil⟩
      refine F.ok S len fun cdv A outer s H vs Q E hr h => ?_
      obtain ⟨t, h1, h2⟩ := hbody cdv A outer s f H vs Q E hr h
      exact ⟨t, h1.nox, h2⟩
  simpa only using Z.stc (Z.Stw.mk 5) hn key
theorem takes_no {X : Cx} : Takes X (fun _ _ _ _ => False) := fun _ _ ⟨_, _, _, _, _, _, _, _, _, _, _, _, _, _, _, _, w⟩ => w.elim
/-- the law's own def -/
theorem law_nox {x : Str} {st : Stmt} {f : Addr} {fd : FuncData} {N ps : List Str} {k : Nat} {sp : Sp} (F : FunD K x x (defArgs st) (defBody st) (defScope st) [] [] f fd) (S : FnScope N ps (defScope st))
    (len : ∀ vs H Q E, sp vs H Q E → vs.length = ps.length)
    (hbody : ∀ (cdv : Value) (A : Around) (outer : List Env) (s : Shared) (H : Hp) (vs : List V) (Q : VK) (E : XK), Room k (A.deeper (PyProof.Rows.envOfC x (defScope st) s.heap.objs.size f cdv)) → sp vs H Q E →
      Takes (cxOf CX0 P w K mg base N x (defScope st) f cdv A outer s H E).nox (fun _ _ _ _ => False) → PassesOwn (model P w) (A.deeper (PyProof.Rows.envOfC x (defScope st) s.heap.objs.size f cdv)) (cxOf CX0 P w K mg base N x (defScope st) f cdv A outer s H E).nox.env (cxOf CX0 P w K mg base N x (defScope st) f cdv A outer s H E).nox.xe →
      ∃ t, PSs (cxOf CX0 P w K mg base N x (defScope st) f cdv A outer s H E).nox (defBody st) t ∧ t ⟨fun _ H' => Q .non H', Q, fun _ _ => False, fun _ _ => False⟩ (start N vs) H) : FnOk P w K mg base CX0 (k + 1) f fd ps sp := by
  refine no_implicit_lambda% (@Z.stp _ ?_ (fun key hn => ?_))
  ·
      refine F.ok S len fun cdv A outer s H vs Q E hr h => ?_
      obtain ⟨t, h1, h2⟩ := hbody cdv A outer s H vs Q E hr h takes_no PassesOwn.never
      exact ⟨t, h1.nox, h2⟩
  simpa only using Z.stc (Z.Stw.mk 5) hn key
end
section
variable {X : Cx} {j k : Nat} {x : Str} {sp : Sp} {dvs : List V} {p pos : Pos} {e : Expr} {es : List Expr} {t : TA} {te : TE}
/-- f(..), nothing is raised -/
theorem pe_c0 (c : Cal X.prog X.w X.K X.mg X.base k x sp dvs) (hr : Room j X.A) (hk : k ≤ j) (hg : Gl X x) (ha : PA X (e :: es) t)
    (hdb : (x == ("__debug__" : Str)) = false := by decide) (he : starEach (e :: es) X.env = (false, eval e X.env) :: starEach es X.env := by rfl) (hpl : (backTo pos (starEach es X.env)).any (·.1) = false := by rfl) :
    PE X (.Call (.Name x p) (e :: es) [] pos) (tCall sp dvs E0 t) := by
  obtain ⟨f, fd, ps, ds, F, hm, kp, b, d⟩ := c.ex
  exact pe_call F (hr.mono hk) hg hm kp b d passL ha hdb he hpl
theorem pe_c00 (c : Cal X.prog X.w X.K X.mg X.base k x sp dvs) (hr : Room j X.A) (hk : k ≤ j) (hg : Gl X x) (hdb : (x == ("__debug__" : Str)) = false := by decide) :
    PE X (.Call (.Name x p) [] [] pos) (tCall sp dvs E0 tNil) := by
  obtain ⟨f, fd, ps, ds, F, hm, kp, b, d⟩ := c.ex
  exact pe_call0 F (hr.mono hk) hg hm kp b d passL hdb
theorem pt_z {a : Expr} {ta : TE} (ha : PE X a ta) (he : ∀ whole, isTrue a X.env whole = (do let v ← whole; standAt a.pos; holding [v] (truthy v)) := by intro _; rfl) : PT X a (zTru X.K ta) := pt_truth ha he
end
theorem uI {A : Around} {k : Nat} (hr : Room k A) : A.units + 64 < cLine := by have := hr.un; omega
/-- the names at the entry -/
theorem w_start {N : List Str} {vs : List V} {σ : St} {H : Hp} {t : TS} {D : Ends} (e : start N vs = σ) (h : t D σ H) : t D (start N vs) H := by rw [e]; exact h

/-! ### items of written lists -/
inductive GetI {α : Type} : List α → Nat → α → Prop where
  | z {x : α} {l : List α} : GetI (x :: l) 0 x
  | s {x y : α} {l : List α} {i : Nat} : GetI l i x → GetI (y :: l) (i + 1) x
theorem GetI.get {α : Type} {l : List α} {i : Nat} {x : α} (h : GetI l i x) : l[i]? = some x := by
  refine no_implicit_lambda% (@Z.stp _ ?_ (fun key hn => ?_))
  ·
      induction h with
      | z => rfl
      | s _ ih => simpa using ih
  simpa only using Z.stc (Z.Stw.mk 5) hn key
inductive PutI {α : Type} : List α → Nat → α → List α → Prop where
  | z {x y : α} {l : List α} : PutI (x :: l) 0 y (y :: l)
  | s {x y : α} {l l' : List α} {i : Nat} : PutI l i y l' → PutI (x :: l) (i + 1) y (x :: l')
theorem PutI.put {α : Type} {l l' : List α} {i : Nat} {x : α} (h : PutI l i x l') : l.set i x = l' ∧ i < l.length := by
  refine no_implicit_lambda% (@Z.stp _ ?_ (fun key hn => ?_))
  ·
      induction h with
      | z => simp
      | s _ ih => simp [ih.1, ih.2]
  simpa only using Z.stc (Z.Stw.mk 5) hn key
section
variable {K : PySem.W.Frag} {σ : St} {H : Hp} {L R : HL} {Q : VK} {v : V} {i j : Int} {n : Nat} {a : Addr} {xs : List V} {ns ms : List Int}
theorem w_ixC (O : Own H L) (ha : LsI L a ns) (h : GetI ns n i) (k : Q (.int i) H) : rIx K (.ref a) (.int (OfNat.ofNat n)) H Q :=
  .inl ⟨a, _, _, _, rfl, rfl, .of (ha _ O), atI_nat (by rw [List.getElem?_map, h.get]; rfl), k⟩
theorem w_ixCL (O : Own H L) (ha : Pk L [(a, .lst xs)] R) (h : GetI xs n v) (k : Q v H) : rIx K (.ref a) (.int (OfNat.ofNat n)) H Q := w_ixL O ha (atI_nat h.get) k
theorem w_ixCT (O : Own H L) (ha : Pk L [(a, .tup xs)] R) (h : GetI xs n v) (k : Q v H) : rIx K (.ref a) (.int (OfNat.ofNat n)) H Q := w_ixT O ha (atI_nat h.get) k
theorem w_ix2 {x0 x1 : V} (O : Own H L) (ha : Pk L [(a, .lst [x0, x1])] R) (h0 : 0 ≤ i) (h1 : i < 2) (k0 : i = 0 → Q x0 H) (k1 : i = 1 → Q x1 H) : rIx K (.ref a) (.int i) H Q := by
  refine no_implicit_lambda% (@Z.stp _ ?_ (fun key hn => ?_))
  ·
      rcases (show i = 0 ∨ i = 1 by omega) with rfl | rfl
      · exact w_ixL O ha (i := 0) (by rfl) (k0 rfl)
      · exact w_ixL O ha (i := 1) (by rfl) (k1 rfl)
  simpa only using Z.stc (Z.Stw.mk 5) hn key
theorem w_ix3 {x0 x1 x2 : V} (O : Own H L) (ha : Pk L [(a, .lst [x0, x1, x2])] R) (h0 : 0 ≤ i) (h1 : i < 3) (k0 : i = 0 → Q x0 H) (k1 : i = 1 → Q x1 H) (k2 : i = 2 → Q x2 H) : rIx K (.ref a) (.int i) H Q := by
  refine no_implicit_lambda% (@Z.stp _ ?_ (fun key hn => ?_))
  ·
      rcases (show i = 0 ∨ i = 1 ∨ i = 2 by omega) with rfl | rfl | rfl
      · exact w_ixL O ha (i := 0) (by rfl) (k0 rfl)
      · exact w_ixL O ha (i := 1) (by rfl) (k1 rfl)
      · exact w_ixL O ha (i := 2) (by rfl) (k2 rfl)
  simpa only using Z.stc (Z.Stw.mk 5) hn key
theorem w_ix4 {x0 x1 x2 x3 : V} (O : Own H L) (ha : Pk L [(a, .lst [x0, x1, x2, x3])] R) (h0 : 0 ≤ i) (h1 : i < 4) (k0 : i = 0 → Q x0 H) (k1 : i = 1 → Q x1 H) (k2 : i = 2 → Q x2 H) (k3 : i = 3 → Q x3 H) : rIx K (.ref a) (.int i) H Q := by
  refine no_implicit_lambda% (@Z.stp _ ?_ (fun key hn => ?_))
  ·
      rcases (show i = 0 ∨ i = 1 ∨ i = 2 ∨ i = 3 by omega) with rfl | rfl | rfl | rfl
      · exact w_ixL O ha (i := 0) (by rfl) (k0 rfl)
      · exact w_ixL O ha (i := 1) (by rfl) (k1 rfl)
      · exact w_ixL O ha (i := 2) (by rfl) (k2 rfl)
      · exact w_ixL O ha (i := 3) (by rfl) (k3 rfl)
  simpa only using Z.stc (Z.Stw.mk 5) hn key
theorem w_setCV {R2 : Hp → Prop} {ys : List V} (O : Own H L) (ha : Pk L [(a, .lst xs)] R) (h : PutI xs n v ys) (k : ∀ H', Own H' ([(a, .lst ys)] ++ R) → R2 H') : rSetL (.ref a) (.int (OfNat.ofNat n)) v H R2 := by
  refine no_implicit_lambda% (@Z.stp _ ?_ (fun key hn => ?_))
  ·
      have e := h.put.1
      have l : n < xs.length := h.put.2
      refine w_setL O ha (Int.natCast_nonneg n) (show (n : Int) < xs.length by omega) ?_
      show ∀ H', Own H' ([(a, .lst (xs.set n v))] ++ R) → R2 H'
      rw [e]
      exact k
  simpa only using Z.stc (Z.Stw.mk 5) hn key
theorem w_setC {R2 : Hp → Prop} (O : Own H L) (ha : Pk L [(a, .lst (ns.map V.int))] R) (h : PutI ns n j ms) (k : ∀ H', Own H' ([(a, .lst (ms.map V.int))] ++ R) → R2 H') : rSetL (.ref a) (.int (OfNat.ofNat n)) (.int j) H R2 := by
  refine no_implicit_lambda% (@Z.stp _ ?_ (fun key hn => ?_))
  ·
      have e := h.put.1
      have l : n < ns.length := h.put.2
      refine w_setI O ha (Int.natCast_nonneg n) (show (n : Int) < ns.length by omega) ?_
      show ∀ H', Own H' ([(a, .lst ((ns.set n j).map V.int))] ++ R) → R2 H'
      rw [e]
      exact k
  simpa only using Z.stc (Z.Stw.mk 5) hn key
end

/-! ### the script -/
/-- S holds what is needed to read the list at a -/
def Scr (K : PySem.W.Frag) (a : Addr) (ns : List Int) (S : HL) : Prop := ∀ H L R, Own H L → Pk L S R → SqL K H a (ns.map V.int)
theorem own_one {H : Hp} {a : Addr} {o : HO} (h : H a = some o) : Own H [(a, .o o)] :=
  ⟨fun _ => none, fun _ _ z => by (cases z), by simp [EO.ex], fun e m => by
    rw [List.mem_singleton.mp m]
    exact ⟨h, rfl⟩⟩
theorem own_nil {H : Hp} : Own H [] := ⟨fun _ => none, fun _ _ z => by (cases z), by simp, fun e m => nomatch m⟩
theorem scr_of {K : PySem.W.Frag} {H : Hp} {a : Addr} {ns : List Int} (h : SqL K H a (ns.map V.int)) : ∃ S : HL, Scr K a ns S ∧ Own H S := by
  refine no_implicit_lambda% (@Z.stp _ ?_ (fun key hn => ?_))
  ·
      rcases h with (h | ⟨o, h⟩) | h
      · exact ⟨[(a, .lst (ns.map V.int))], fun H L R O p => .of (O.at1 p), own_one h⟩
      · exact ⟨[(a, .o (.frz o (.lst (ns.map V.int))))], fun H L R O p => .inl (.inr ⟨o, O.at1 p⟩), own_one h⟩
      · exact ⟨[], fun H L R O p => .inr h, own_nil⟩
  simpa only using Z.stc (Z.Stw.mk 5) hn key
section
variable {K : PySem.W.Frag} {σ : St} {H : Hp} {L R S : HL} {Q : VK} {v : V} {i j lo hi : Int} {n : Nat} {a : Addr} {xs : List V} {ns ms : List Int} {ta tl te : TE} {tt : TT} {g : TG} {tb : TS} {wi : TI} {is : List Nat} {nx : St → Hp → Prop} {rt : VK} {bk ct : St → Hp → Prop}
theorem w_ixScr (hS : Scr K a ns S) (O : Own H L) (p : Pk L S R) (h0 : 0 ≤ i) (h1 : i < ns.length) (k : Q (.int (ns.getD i.toNat 0)) H) : rIx K (.ref a) (.int i) H Q :=
  .inl ⟨a, _, i, _, rfl, rfl, hS H L R O p, atI_int h0 h1, k⟩
theorem w_lenScr (hS : Scr K a ns S) (O : Own H L) (p : Pk L S R) (k : Q (.int ns.length) H) : zLen K [.ref a] H Q := ⟨_, ns.length, rfl, .inl ⟨_, hS H L R O p, by rw [List.length_map]⟩, k⟩
/-! ### loops -/
def ForR (J : It) (g : TG) (tb : TS) (nx : St → Hp → Prop) (rt : VK) (σ : St) (H : Hp) : Prop := ∃ W : Nat → Nat → St → Hp → Prop, (∃ m, W 0 m σ H) ∧ ∀ i m σ H, W i m σ H →
  (J.stop i H ∧ nx σ H) ∨ (J.go i H ∧ ∃ N : St → Hp → Prop, (∀ σ' H', N σ' H' → ∃ m', m' < m ∧ W (i + 1) m' σ' H') ∧ ∀ x H', J.yld i H x H' → g x σ H' fun σ2 H2 => tb ⟨N, rt, nx, N⟩ σ2 H2)
theorem w_for (h : wi σ H fun J H1 => ForR J g tb nx rt σ H1) : tFor wi g tb ⟨nx, rt, bk, ct⟩ σ H := h
def Rng1 (vs : List V) (R : It → Hp → Prop) (H : Hp) : Prop := ∃ j : Int, vs = [.int j] ∧ -(2 ^ 62) ≤ j ∧ j < 2 ^ 62 ∧ R (Itr 0 j.toNat) H
def Rng2 (vs : List V) (R : It → Hp → Prop) (H : Hp) : Prop := ∃ i j : Int, vs = [.int i, .int j] ∧ (-(2 ^ 62) ≤ i ∧ i < 2 ^ 62 ∧ -(2 ^ 62) ≤ j ∧ j < 2 ^ 62) ∧ R (Itr i (j - i).toNat) H
theorem w_iRng1 {ta : TA} {R : It → Hp → Prop} (h : ta σ H fun vs H1 => Rng1 vs R H1) : iRng1 ta σ H R := h
theorem w_iRng2 {ta : TA} {R : It → Hp → Prop} (h : ta σ H fun vs H1 => Rng2 vs R H1) : iRng2 ta σ H R := h
theorem w_rng1 {R : It → Hp → Prop} (h1 : -4611686018427387904 ≤ i) (h2 : i < 4611686018427387904) (k : R (Itr 0 i.toNat) H) : Rng1 [.int i] R H := ⟨i, rfl, h1, h2, k⟩
theorem w_rng2 {R : It → Hp → Prop} (h1 : -4611686018427387904 ≤ lo) (h2 : lo < 4611686018427387904) (h3 : -4611686018427387904 ≤ hi) (h4 : hi < 4611686018427387904) (k : R (Itr lo (hi - lo).toNat) H) : Rng2 [.int lo, .int hi] R H := ⟨lo, hi, rfl, ⟨h1, h2, h3, h4⟩, k⟩
def IsL (K : PySem.W.Frag) (x : V) (R : It → Hp → Prop) (H : Hp) : Prop := ∃ a, x = .ref a ∧ (∃ xs, SqL K H a xs) ∧ R (Itl K a) H
def IsT (K : PySem.W.Frag) (x : V) (R : It → Hp → Prop) (H : Hp) : Prop := ∃ a, x = .ref a ∧ (∃ xs, SqT K H a xs) ∧ R (Itt K a) H
theorem w_iList {R : It → Hp → Prop} (h : tl σ H fun x H1 => IsL K x R H1) : iList K tl σ H R := h
theorem w_itL {R' : It → Hp → Prop} (O : Own H L) (p : Pk L [(a, .lst xs)] R) (k : R' (Itl K a) H) : IsL K (.ref a) R' H := ⟨a, rfl, ⟨xs, .of (O.at1 p)⟩, k⟩
theorem w_itScr {R' : It → Hp → Prop} (hS : Scr K a ns S) (O : Own H L) (p : Pk L S R) (k : R' (Itl K a) H) : IsL K (.ref a) R' H := ⟨a, rfl, ⟨_, hS H L R O p⟩, k⟩
theorem w_iTup {R : It → Hp → Prop} (h : tl σ H fun x H1 => IsT K x R H1) : iTup K tl σ H R := h
theorem w_itT {R' : It → Hp → Prop} (O : Own H L) (p : Pk L [(a, .tup xs)] R) (k : R' (Itt K a) H) : IsT K (.ref a) R' H := ⟨a, rfl, ⟨xs, .of (O.at1 p)⟩, k⟩
theorem w_forR {lo : Int} (Pv : Nat → St → Hp → Prop) (h0 : Pv 0 σ H) (hs : ∀ i σ H, i < n → Pv i σ H → g (.int (lo + i)) σ H fun σ2 H2 => tb ⟨Pv (i + 1), rt, nx, Pv (i + 1)⟩ σ2 H2) (hd : ∀ σ H, Pv n σ H → nx σ H) : ForR (Itr lo n) g tb nx rt σ H :=
  for_range (D := ⟨nx, rt, fun _ _ => False, fun _ _ => False⟩) Pv h0 hs hd
theorem w_forL (Pv : Nat → St → Hp → Prop) (h0 : Pv 0 σ H) (hl : ∀ i σ H, i ≤ xs.length → Pv i σ H → SqL K H a xs) (hs : ∀ i x σ H, xs[i]? = some x → Pv i σ H → g x σ H fun σ2 H2 => tb ⟨Pv (i + 1), rt, nx, Pv (i + 1)⟩ σ2 H2) (hd : ∀ σ H, Pv xs.length σ H → nx σ H) : ForR (Itl K a) g tb nx rt σ H :=
  for_list (D := ⟨nx, rt, fun _ _ => False, fun _ _ => False⟩) Pv h0 hl hs hd
theorem w_forT (Pv : Nat → St → Hp → Prop) (h0 : Pv 0 σ H) (hl : ∀ i σ H, i ≤ xs.length → Pv i σ H → SqT K H a xs) (hs : ∀ i x σ H, xs[i]? = some x → Pv i σ H → g x σ H fun σ2 H2 => tb ⟨Pv (i + 1), rt, nx, Pv (i + 1)⟩ σ2 H2) (hd : ∀ σ H, Pv xs.length σ H → nx σ H) : ForR (Itt K a) g tb nx rt σ H :=
  for_tup (D := ⟨nx, rt, fun _ _ => False, fun _ _ => False⟩) Pv h0 hl hs hd
/-! comprehensions -/
def LcR (J : It) (g : TG) (tt : TT) (te : TE) (is : List Nat) (σ : St) (H : Hp) (Q : VK) : Prop := ∀ D, H D = none → ∃ W : Nat → Nat → Hp → Prop, (∃ m, W 0 m (upd H D (.lst []))) ∧ ∀ i m H, W i m H →
  (J.stop i H ∧ Q (.ref D) H) ∨ (J.go i H ∧ ∃ Nx : Hp → Prop, (∀ H', Nx H' → ∃ m', m' < m ∧ W (i + 1) m' H') ∧ ∀ x H', J.yld i H x H' → g x (wipe σ is) H' fun σ2 H2 => wipe σ2 is = wipe σ is ∧ tt σ2 H2 fun b H3 =>
    if b = true then te σ2 H3 fun y H4 => ∃ acc, H4 D = some (.lst acc) ∧ acc.length < sizeLine ∧ Nx (upd H4 D (.lst (acc ++ [y]))) else Nx H3)
theorem w_lc (h : wi σ H fun J H1 => LcR J g tt te is σ H1 Q) : tLc wi g tt te is σ H Q := h
theorem w_tyes {Q : Bool → Hp → Prop} (h : Q true H) : tYes σ H Q := h
theorem take_snoc {α : Type} : ∀ {l : List α} {i : Nat} {x : α}, l[i]? = some x → l.take (i + 1) = l.take i ++ [x]
  | [], i, x, h => by simp at h
  | a :: l, 0, x, h => by
    have e : a = x := Option.some.inj h
    subst e
    rfl
  | a :: l, i + 1, x, h => by
    show a :: l.take (i + 1) = a :: l.take i ++ [x]
    rw [take_snoc (l := l) (i := i) (by simpa using h)]
    rfl
/-- [f(x) for x in ints], the element made without a trace -/
theorem w_lcI {f : Int → V} (O : Own H L) (p : LsI L a ns) (hl : ns.length ≤ 16777216)
    (hs : ∀ i x D H' (Qe : VK), ns[i]? = some x → Own H' ([(D, .lst ((ns.take i).map f))] ++ L) → (∀ H4, Own H4 ([(D, .lst ((ns.take i).map f))] ++ L) → Qe (f x) H4) → ∀ Nx : Hp → Prop, g (.int x) (wipe σ is) H' fun σ2 H2 => wipe σ2 is = wipe σ is ∧ tt σ2 H2 fun b H3 => if b = true then te σ2 H3 Qe else Nx H3)
    (k : ∀ D H', Own H' ([(D, .lst (ns.map f))] ++ L) → Q (.ref D) H') : LcR (Itl K a) g tt te is σ H Q := by
  refine no_implicit_lambda% (@Z.stp _ ?_ (fun key hn => ?_))
  ·
      intro D hD
      refine lc_list (K := K) (a := a) (xs := ns.map V.int) (fun i H' => Own H' ([(D, .lst ((ns.take i).map f))] ++ L)) (O.new hD) (fun i H' _ O' => .of (p _ (O'.sub Sub.right))) (fun i x H' hx O' => ?_) (fun H' O' => ?_)
      · obtain ⟨z, rfl, hz⟩ : ∃ z, x = V.int z ∧ ns[i]? = some z := by
          rw [List.getElem?_map] at hx
          cases e : ns[i]? with
          | none => rw [e] at hx; cases hx
          | some z => rw [e] at hx; exact ⟨z, (Option.some.inj hx).symm, rfl⟩
        refine hs i z D H' _ hz O' (fun H4 O4 => ⟨_, O4.at1 Pk.here, ?_, ?_⟩) _
        · have h1 : i < ns.length := (List.getElem?_eq_some_iff.mp hz).1
          rw [List.length_map, List.length_take]
          exact lineS (by omega)
        · have e : (ns.take (i + 1)).map f = (ns.take i).map f ++ [f z] := by rw [take_snoc hz, List.map_append]; rfl
          rw [e]
          exact O4.put Pk.here
      · rw [List.length_map, List.take_length] at O'
        exact k D H' O'
  simpa only using Z.stc (Z.Stw.mk 5) hn key
/-- bools of ints -/
theorem w_lcB {f : Int → Bool} (O : Own H L) (p : LsI L a ns) (hl : ns.length ≤ 16777216)
    (hs : ∀ i x D H' (Qe : VK), ns[i]? = some x → Own H' ([(D, .lst ((ns.take i).map fun x => V.bl (f x)))] ++ L) → (∀ H4, Own H4 ([(D, .lst ((ns.take i).map fun x => V.bl (f x)))] ++ L) → Qe (.bl (f x)) H4) → ∀ Nx : Hp → Prop, g (.int x) (wipe σ is) H' fun σ2 H2 => wipe σ2 is = wipe σ is ∧ tt σ2 H2 fun b H3 => if b = true then te σ2 H3 Qe else Nx H3)
    (k : ∀ D H', Own H' ([(D, .lst ((ns.map f).map V.bl))] ++ L) → Q (.ref D) H') : LcR (Itl K a) g tt te is σ H Q :=
  w_lcI (f := fun x => .bl (f x)) O p hl hs fun D H' O' => k D H' (by rw [List.map_map]; exact O')
theorem all_const (ns : List Int) : (ns.map fun _ => true).all id = true := by induction ns with
  | nil => rfl
  | cons _ _ ih => simpa using ih
end
theorem Cal.mono {P : Program} {w : World} {K : PySem.W.Frag} {mg : Str → Option Value} {base : Heap} {x : Str} {k j : Nat} {sp : Sp} {dvs : List V} (c : Cal P w K mg base k x sp dvs) (h : k ≤ j) : Cal P w K mg base j x sp dvs := by
  refine no_implicit_lambda% (@Z.stp _ ?_ (fun key hn => ?_))
  ·
      obtain ⟨f, fd, ps, ds, F, r⟩ := c.ex
      exact ⟨f, fd, ps, ds, F.mono h, r⟩
  simpa only using Z.stc (Z.Stw.mk 5) hn key

section
variable {K : PySem.W.Frag} {σ : St} {H : Hp} {Q : VK} {ta tb : TE}
theorem w_andT (h : ta σ H fun x H1 => ∃ k, TruV K x H1 k ∧ if k = true then tb σ H1 Q else Q x H1) : tAndT K ta tb σ H Q := h
theorem w_orT (h : ta σ H fun x H1 => ∃ k, TruV K x H1 k ∧ if k = true then Q x H1 else tb σ H1 Q) : tOrT K ta tb σ H Q := h
theorem w_notT (h : ta σ H fun x H1 => ∃ k, TruV K x H1 k ∧ Q (.bl (!k)) H1) : tNotT K ta σ H Q := h
end

theorem all_snoc {α : Type} {P : α → Prop} {l : List α} {y : α} (h : ∀ x ∈ l, P x) (hy : P y) : ∀ x ∈ l ++ [y], P x := fun x hx => by
  rcases List.mem_append.mp hx with m | m
  · exact h x m
  · rw [List.mem_singleton.mp m]; exact hy
theorem mem_menu {ns : List Int} {i : Int} {P : Int → Prop} (h0 : 0 ≤ i) (h1 : i < ns.length) (h : ∀ x ∈ ns, P x) : P (ns.getD i.toNat 0) := by
  refine no_implicit_lambda% (@Z.stp _ ?_ (fun key hn => ?_))
  ·
      have hk : i.toNat < ns.length := by omega
      simp only [List.getD, List.getElem?_eq_getElem hk, Option.getD_some]
      exact h _ (List.getElem_mem hk)
  simpa only using Z.stc (Z.Stw.mk 5) hn key

theorem w_wipe {σ σ2 : St} {P : Prop} (e : σ2 = σ) (k : P) : σ2 = σ ∧ P := ⟨e, k⟩
theorem range_map_succ {α : Type} (f : Nat → α) (i : Nat) : (List.range (i + 1)).map f = (List.range i).map f ++ [f i] := by rw [List.range_succ, List.map_append]; rfl

/-! ### objects -/
def obj (a C dx : Addr) (fs : List (Str × V)) : HL := [(a, .ins C dx fs), (dx, .own a)]
inductive FGet : List (Str × V) → Str → V → Prop where
  | z {f : Str} {v : V} {l : List (Str × V)} : FGet ((f, v) :: l) f v
  | s {f g : Str} {v x : V} {l : List (Str × V)} : (f == g) = false → FGet l f v → FGet ((g, x) :: l) f v
theorem FGet.get {l : List (Str × V)} {f : Str} {v : V} (h : FGet l f v) : l.lookup f = some v := by
  refine no_implicit_lambda% (@Z.stp _ ?_ (fun key hn => ?_))
  ·
      induction h with
      | z => simp [List.lookup]
      | s e _ ih => simp only [List.lookup, e]; exact ih
  simpa only using Z.stc (Z.Stw.mk 5) hn key
inductive FNo : List (Str × V) → Str → Prop where
  | z {f : Str} : FNo [] f
  | s {f g : Str} {x : V} {l : List (Str × V)} : (f == g) = false → FNo l f → FNo ((g, x) :: l) f
theorem FNo.get {l : List (Str × V)} {f : Str} (h : FNo l f) : l.lookup f = none := by
  refine no_implicit_lambda% (@Z.stp _ ?_ (fun key hn => ?_))
  ·
      induction h with
      | z => rfl
      | s e _ ih => simp only [List.lookup, e]; exact ih
  simpa only using Z.stc (Z.Stw.mk 5) hn key
inductive FPut : List (Str × V) → Str → V → List (Str × V) → Prop where
  | n {f : Str} {v : V} : FPut [] f v [(f, v)]
  | z {f : Str} {v x : V} {l : List (Str × V)} : FPut ((f, x) :: l) f v ((f, v) :: l)
  | s {f g : Str} {v x : V} {l l' : List (Str × V)} : (f == g) = false → FPut l f v l' → FPut ((g, x) :: l) f v ((g, x) :: l')
theorem FPut.put {l l' : List (Str × V)} {f : Str} {v : V} (h : FPut l f v l') : putF f v l = l' := by
  refine no_implicit_lambda% (@Z.stp _ ?_ (fun key hn => ?_))
  ·
      induction h with
      | n => rfl
      | z => unfold putF; rw [if_pos rfl]
      | s e _ ih =>
        unfold putF
        rw [if_neg (by intro z; rw [z] at e; simp at e), ih]
  simpa only using Z.stc (Z.Stw.mk 5) hn key
section
variable {K : PySem.W.Frag} {σ : St} {H : Hp} {L R S : HL} {Q : VK} {v x : V} {a C dx : Addr} {fs fs' : List (Str × V)} {f m : Str} {ta tv te : TE} {D : Ends} {nx : St → Hp → Prop} {rt : VK} {bk ct : St → Hp → Prop}
theorem Own.ins (O : Own H L) (p : Pk L (obj a C dx fs) R) : H a = some (.ins C dx fs) := (show Own H ([(a, .ins C dx fs)] ++ ([(dx, .own a)] ++ R)) from O.pk p).at1 Pk.here
def FldR (K : PySem.W.Frag) (f : Str) (x : V) (H : Hp) (Q : VK) : Prop := ∃ a C dx fs v, x = .ref a ∧ H a = some (.ins C dx fs) ∧ Cls K C ∧ NoAttr K C f ∧ fs.lookup f = some v ∧ Q v H
theorem w_fld (h : ta σ H fun x H1 => FldR K f x H1 Q) : tFld K ta f σ H Q := h
theorem w_fldR (O : Own H L) (p : Pk L (obj a C dx fs) R) (g : FGet fs f v) (hc : Cls K C) (hn : NoAttr K C f) (k : Q v H) : FldR K f (.ref a) H Q := ⟨a, C, dx, fs, v, rfl, O.ins p, hc, hn, g.get, k⟩
def SFldR (K : PySem.W.Frag) (f : Str) (y x : V) (H : Hp) (R : Hp → Prop) : Prop := ∃ a C dx fs, x = .ref a ∧ H a = some (.ins C dx fs) ∧ Cls K C ∧ NoAttr K C f ∧ fs.length < 1000 ∧ R (upd H a (.ins C dx (putF f y fs)))
theorem w_sfld (h : tv σ H fun y H1 => ta σ H1 fun x H2 => SFldR K f y x H2 (nx σ)) : sFld K ta tv f ⟨nx, rt, bk, ct⟩ σ H := h
theorem Own.putO (O : Own H L) (p : Pk L (obj a C dx fs) R) : Own (upd H a (.ins C dx fs')) (obj a C dx fs' ++ R) := by
  refine no_implicit_lambda% (@Z.stp _ ?_ (fun key hn => ?_))
  ·
      have O2 : Own H ([(a, .ins C dx fs)] ++ ([(dx, .own a)] ++ R)) := O.pk p
      exact O2.put Pk.here
  simpa only using Z.stc (Z.Stw.mk 5) hn key
theorem w_sfldR {R' : Hp → Prop} (O : Own H L) (p : Pk L (obj a C dx fs) R) (g : FPut fs f v fs') (hc : Cls K C) (hn : NoAttr K C f) (hl : fs.length < 1000) (k : ∀ H', Own H' (obj a C dx fs' ++ R) → R' H') : SFldR K f v (.ref a) H R' :=
  ⟨a, C, dx, fs, rfl, O.ins p, hc, hn, hl, by rw [g.put]; exact k _ (O.putO p)⟩
/-! methods -/
def MethR (C : Addr) (m : Str) (x : V) (H : Hp) (P : Prop) : Prop := ∃ a dx fs, x = .ref a ∧ H a = some (.ins C dx fs) ∧ fs.lookup m = none ∧ P
theorem w_meth {sp : Sp} {dvs : List V} {E : XK} {t : TA} (h : ta σ H fun x H1 => MethR C m x H1 (t σ H1 fun vs H2 => sp (x :: (vs ++ dvs)) H2 Q E)) : tMeth C m sp dvs E ta t σ H Q := h
theorem w_methR {P : Prop} (O : Own H L) (p : Pk L (obj a C dx fs) R) (g : FNo fs m) (k : P) : MethR C m (.ref a) H P := ⟨a, dx, fs, rfl, O.ins p, g.get, k⟩
/-! making -/
def MakeR (C : Addr) (sp : Sp) (ws : V → List V) (E : XK) (H : Hp) (Q : VK) : Prop := ∀ x dx, H x = none → H dx = none → dx ≠ x → sp (ws (.ref x)) (upd (upd H dx (.own x)) x (.ins C dx [])) (fun v H2 => v = .non ∧ Q (.ref x) H2) E
theorem w_make {sp : Sp} {dvs : List V} {E : XK} {t : TA} (h : t σ H fun vs H1 => MakeR C sp (fun x => x :: (vs ++ dvs)) E H1 Q) : tMake C sp dvs E t σ H Q := h
theorem w_makeR {sp : Sp} {ws : V → List V} {E : XK} (O : Own H L) (k : ∀ x dx H', Own H' (obj x C dx [] ++ L) → sp (ws (.ref x)) H' (fun v H2 => v = .non ∧ Q (.ref x) H2) E) : MakeR C sp ws E H Q := by
  refine no_implicit_lambda% (@Z.stp _ ?_ (fun key hn => ?_))
  ·
      intro x dx hx hdx ne
      refine k x dx _ ?_
      have O1 : Own (upd H dx (.own x)) ([(dx, .own x)] ++ L) := O.new hdx
      have O2 := O1.new (p := x) (o := .ins C dx []) (by rw [upd_ne ne.symm]; exact hx)
      exact O2
  simpa only using Z.stc (Z.Stw.mk 5) hn key
theorem w_nonE {P : Prop} (k : P) : V.non = V.non ∧ P := ⟨rfl, k⟩
/-! targets that are tuples -/
theorem w_gtup {n : Nat} {t : TGs} {xs : List V} {R' : St → Hp → Prop} (O : Own H L) (p : Pk L [(a, .tup xs)] R) (hl : xs.length = n) (k : t xs σ H R') : gTup K n t (.ref a) σ H R' := ⟨a, xs, rfl, .of (O.at1 p), hl, k⟩
theorem w_gcons {t : TG} {u : TGs} {r : List V} {R' : St → Hp → Prop} (k : t v σ H fun σ' H' => u r σ' H' R') : gCons t u (v :: r) σ H R' := ⟨v, r, rfl, k⟩
theorem w_gnil {R' : St → Hp → Prop} (k : R' σ H) : gNil [] σ H R' := ⟨rfl, k⟩
/-! chains -/
def ChR (z : V) (H : Hp) (A : Hp → Prop) (Q : VK) : Prop := ∃ k, z = .bl k ∧ if k = true then A H else Q (.bl false) H
end
/-! ### any walk -/
theorem w_forW {J : It} {n : Nat} {G : Hp → Prop} {Y : Nat → Hp → V → Hp → Prop} {g : TG} {tb : TS} {nx : St → Hp → Prop} {rt : VK} {σ : St} {H : Hp} (w : Walk J n G Y) (Pv : Nat → St → Hp → Prop) (h0 : Pv 0 σ H) (hG : ∀ i σ H, i ≤ n → Pv i σ H → G H)
    (hs : ∀ i x σ H H', i < n → Pv i σ H → Y i H x H' → g x σ H' fun σ2 H2 => tb ⟨Pv (i + 1), rt, nx, Pv (i + 1)⟩ σ2 H2) (hd : ∀ σ H, Pv n σ H → nx σ H) : ForR J g tb nx rt σ H :=
  for_it w (D := ⟨nx, rt, fun _ _ => False, fun _ _ => False⟩) Pv h0 hG hs hd
def EnR (K : PySem.W.Frag) (vs : List V) (R : It → Hp → Prop) (H : Hp) : Prop := ∃ a xs, vs = [.ref a] ∧ SqL K H a xs ∧ R (Ite K a) H
section
variable {K : PySem.W.Frag} {σ : St} {H : Hp} {L R : HL} {a : Addr} {xs : List V} {ta : TA}
theorem w_iEnum {R : It → Hp → Prop} (h : ta σ H fun vs H1 => EnR K vs R H1) : iEnum K ta σ H R := h
theorem w_enR {R' : It → Hp → Prop} (O : Own H L) (p : Pk L [(a, .lst xs)] R) (k : R' (Ite K a) H) : EnR K [.ref a] R' H := ⟨a, xs, rfl, .of (O.at1 p), k⟩
/-- for i, x in enumerate(xs): the pair is a new tuple at T -/
theorem w_forE {g : TG} {tb : TS} {nx : St → Hp → Prop} {rt : VK} (Pv : Nat → St → Hp → Prop) (h0 : Pv 0 σ H) (hl : ∀ i σ H, i ≤ xs.length → Pv i σ H → SqL K H a xs)
    (hs : ∀ i x σ H T, xs[i]? = some x → Pv i σ H → H T = none → g (.ref T) σ (upd H T (.tup [.int (i : Nat), x])) fun σ2 H2 => tb ⟨Pv (i + 1), rt, nx, Pv (i + 1)⟩ σ2 H2) (hd : ∀ σ H, Pv xs.length σ H → nx σ H) : ForR (Ite K a) g tb nx rt σ H := by
  refine no_implicit_lambda% (@Z.stp _ ?_ (fun key hn => ?_))
  ·
      refine w_forW (walk_enum (K := K) (a := a) (xs := xs)) Pv h0 hl (fun i v σ H H' hi p y => ?_) hd
      obtain ⟨T, x, y', rfl, hT, rfl, e1, e2⟩ := y
      cases e1
      exact hs i y' σ H T e2 p hT
  simpa only using Z.stc (Z.Stw.mk 5) hn key
end
/-! ### methods and classes of the text -/
structure Met (P : Program) (w : World) (K : PySem.W.Frag) (mg : Str → Option Value) (base : Heap) (k : Nat) (C : Addr) (m : Str) (sp : Sp) (dvs : List V) : Prop where
  ex : ∃ (f : Addr) (fd : FuncData) (ps : List Str) (ds : List Value), Cls K C ∧ Meth K C m f ∧ FnOk P w K mg base (L2.CX P w) k f fd ps sp ∧ Binds K fd ps ds ∧ Vals dvs ds
structure Mak (P : Program) (w : World) (K : PySem.W.Frag) (mg : Str → Option Value) (base : Heap) (k : Nat) (x : Str) (C : Addr) (sp : Sp) (dvs : List V) : Prop where
  ex : ∃ (f : Addr) (fd : FuncData) (ps : List Str) (ds : List Value), Mk K C f ∧ FnOk P w K mg base (L2.CX P w) k f fd ps sp ∧ mg x = some (.ref C) ∧ Binds K fd ps ds ∧ Vals dvs ds
section
variable {P : Program} {w : World} {K : PySem.W.Frag} {mg : Str → Option Value} {base : Heap}
theorem Met.mono {k j : Nat} {C : Addr} {m : Str} {sp : Sp} {dvs : List V} (c : Met P w K mg base k C m sp dvs) (h : k ≤ j) : Met P w K mg base j C m sp dvs := by
  refine no_implicit_lambda% (@Z.stp _ ?_ (fun key hn => ?_))
  ·
      obtain ⟨f, fd, ps, ds, c1, c2, F, r⟩ := c.ex
      exact ⟨f, fd, ps, ds, c1, c2, F.mono h, r⟩
  simpa only using Z.stc (Z.Stw.mk 5) hn key
theorem Mak.mono {k j : Nat} {C : Addr} {x : Str} {sp : Sp} {dvs : List V} (c : Mak P w K mg base k x C sp dvs) (h : k ≤ j) : Mak P w K mg base j x C sp dvs := by
  refine no_implicit_lambda% (@Z.stp _ ?_ (fun key hn => ?_))
  ·
      obtain ⟨f, fd, ps, ds, c1, F, r⟩ := c.ex
      exact ⟨f, fd, ps, ds, c1, F.mono h, r⟩
  simpa only using Z.stc (Z.Stw.mk 5) hn key
/-- a def that raises nothing, by its body: the promise alone -/
theorem fo_nox {x qual : Str} {st : Stmt} {dvs : List V} {kws : List (Str × V)} {f : Addr} {fd : FuncData} {N ps : List Str} {k : Nat} {sp : Sp} (F : FunD K x qual (defArgs st) (defBody st) (defScope st) dvs kws f fd) (S : FnScope N ps (defScope st))
    (len : ∀ vs H Q E, sp vs H Q E → vs.length = ps.length)
    (hbody : ∀ (cdv : Value) (A : Around) (outer : List Env) (s : Shared) (H : Hp) (vs : List V) (Q : VK) (E : XK), Room k (A.deeper (PyProof.Rows.envOfC qual (defScope st) s.heap.objs.size f cdv)) → sp vs H Q E →
      ∃ t, PSs (cxOf (L2.CX P w) P w K mg base N qual (defScope st) f cdv A outer s H E).nox (defBody st) t ∧ t ⟨fun _ H' => Q .non H', Q, fun _ _ => False, fun _ _ => False⟩ (start N vs) H) : FnOk P w K mg base (L2.CX P w) (k + 1) f fd ps sp := by
  refine no_implicit_lambda% (@Z.stp _ ?_ (fun key hn => ?_))
  ·
      refine F.ok S len fun cdv A outer s H vs Q E hr h => ?_
      obtain ⟨t, h1, h2⟩ := hbody cdv A outer s H vs Q E hr h
      exact ⟨t, h1.nox, h2⟩
  simpa only using Z.stc (Z.Stw.mk 5) hn key
theorem met_of {C f : Addr} {m x qual : Str} {st : Stmt} {dvs dvs' : List V} {kws : List (Str × V)} {ps : List Str} {k : Nat} {sp : Sp} (c : Cls K C) (me : Meth K C m f) (d : ∃ fd, FunD K x qual (defArgs st) (defBody st) (defScope st) dvs kws f fd)
    (ok : ∀ fd, FunD K x qual (defArgs st) (defBody st) (defScope st) dvs kws f fd → FnOk P w K mg base (L2.CX P w) k f fd ps sp) (bi : ∀ fd, FunD K x qual (defArgs st) (defBody st) (defScope st) dvs kws f fd → ∃ ds, Vals dvs' ds ∧ Binds K fd ps ds) : Met P w K mg base k C m sp dvs' := by
  refine no_implicit_lambda% (@Z.stp _ ?_ (fun key hn => ?_))
  ·
      obtain ⟨fd, F⟩ := d
      obtain ⟨ds, h1, h2⟩ := bi fd F
      exact ⟨f, fd, ps, ds, c, me, ok fd F, h2, h1⟩
  simpa only using Z.stc (Z.Stw.mk 5) hn key
theorem mak_of {C f : Addr} {cx x qual : Str} {st : Stmt} {dvs dvs' : List V} {kws : List (Str × V)} {ps : List Str} {k : Nat} {sp : Sp} (M : Mk K C f) (hm : mg cx = some (.ref C)) (d : ∃ fd, FunD K x qual (defArgs st) (defBody st) (defScope st) dvs kws f fd)
    (ok : ∀ fd, FunD K x qual (defArgs st) (defBody st) (defScope st) dvs kws f fd → FnOk P w K mg base (L2.CX P w) k f fd ps sp) (bi : ∀ fd, FunD K x qual (defArgs st) (defBody st) (defScope st) dvs kws f fd → ∃ ds, Vals dvs' ds ∧ Binds K fd ps ds) : Mak P w K mg base k cx C sp dvs' := by
  refine no_implicit_lambda% (@Z.stp _ ?_ (fun key hn => ?_))
  ·
      obtain ⟨fd, F⟩ := d
      obtain ⟨ds, h1, h2⟩ := bi fd F
      exact ⟨f, fd, ps, ds, M, ok fd F, hm, h2, h1⟩
  simpa only using Z.stc (Z.Stw.mk 5) hn key
theorem bi_all {x qual : Str} {st : Stmt} {f : Addr} {fd : FuncData} {ps : List Str} (F : FunD K x qual (defArgs st) (defBody st) (defScope st) [] [] f fd)
    (h : ∀ (kV doc pm : Value) (an : Option Addr) (cdv ct : Value) (us : List Value), us.length = ps.length → bindArgs (PySem.W.fnOf x qual (defArgs st) (defBody st) (defScope st) .none kV doc pm an cdv ct) ⟨us, []⟩ = pure (ps.zip us)) : ∃ ds, Vals [] ds ∧ Binds K fd ps ds := ⟨[], .nil, F.bindsN h⟩
end
section
variable {X : Cx} {j k : Nat} {C : Addr} {x m : Str} {sp : Sp} {dvs : List V} {p pos apos : Pos} {e o : Expr} {es : List Expr} {t : TA} {ta te : TE}
theorem pe_m0c {pl : Sem Bool} (c : Met X.prog X.w X.K X.mg X.base k C m sp dvs) (hr : Room j X.A) (hk : k ≤ j) (he : PE X o ta)
    (ht : eval (.Call (.Attribute o m apos) [] [] pos) X.env = (do
      let ov ← eval o X.env
      standAt apos.atName
      let (f, first) ← holding [ov] (getMethod ov m pl)
      callWith pos f first (backTo pos (starEach [] X.env)) (backToKw pos (keywordEach [] X.env))) := by rfl) :
    PE X (.Call (.Attribute o m apos) [] [] pos) (tMeth C m sp dvs E0 ta tNil) := by
  obtain ⟨f, fd, ps, ds, c1, c2, F, b, d⟩ := c.ex
  exact pe_meth0 (pl := pl) he c1 c2 F (hr.mono hk) b d passL ht
theorem pe_mc {pl : Sem Bool} (c : Met X.prog X.w X.K X.mg X.base k C m sp dvs) (hr : Room j X.A) (hk : k ≤ j) (he : PE X o ta) (ha : PA X (e :: es) t)
    (hst : starEach (e :: es) X.env = (false, eval e X.env) :: starEach es X.env := by rfl) (hpl : (backTo pos (starEach es X.env)).any (·.1) = false := by rfl)
    (ht : eval (.Call (.Attribute o m apos) (e :: es) [] pos) X.env = (do
      let ov ← eval o X.env
      standAt apos.atName
      let (f, first) ← holding [ov] (getMethod ov m pl)
      callWith pos f first (backTo pos (starEach (e :: es) X.env)) (backToKw pos (keywordEach [] X.env))) := by rfl) :
    PE X (.Call (.Attribute o m apos) (e :: es) [] pos) (tMeth C m sp dvs E0 ta t) := by
  obtain ⟨f, fd, ps, ds, c1, c2, F, b, d⟩ := c.ex
  exact pe_meth (pl := pl) he c1 c2 F (hr.mono hk) b d passL ha hst hpl ht
theorem pe_mkc (c : Mak X.prog X.w X.K X.mg X.base k x C sp dvs) (hr : Room j X.A) (hk : k + 1 ≤ j) (hg : Gl X x) (ha : PA X (e :: es) t)
    (hdb : (x == ("__debug__" : Str)) = false := by decide) (he : starEach (e :: es) X.env = (false, eval e X.env) :: starEach es X.env := by rfl) (hpl : (backTo pos (starEach es X.env)).any (·.1) = false := by rfl) :
    PE X (.Call (.Name x p) (e :: es) [] pos) (tMake C sp dvs E0 t) := by
  obtain ⟨f, fd, ps, ds, M, F, hm, b, d⟩ := c.ex
  exact pe_make M F (hr.mono hk) hg hm b d passL ha hdb he hpl
theorem pe_mkc0 (c : Mak X.prog X.w X.K X.mg X.base k x C sp dvs) (hr : Room j X.A) (hk : k + 1 ≤ j) (hg : Gl X x) (hdb : (x == ("__debug__" : Str)) = false := by decide) :
    PE X (.Call (.Name x p) [] [] pos) (tMake C sp dvs E0 tNil) := by
  obtain ⟨f, fd, ps, ds, M, F, hm, b, d⟩ := c.ex
  exact pe_make0 M F (hr.mono hk) hg hm b d passL hdb
theorem pe_gi {i : Int} (hg : Gl X x) (h : ∃ t, X.mg x = some (.int i t)) (hd : (x == ("__debug__" : Str)) = false := by decide) : PE X (.Name x p) (tC (.int i)) := by
  obtain ⟨t, h⟩ := h
  exact pe_glob (v := .int i) hg h ⟨t, rfl⟩ hd
theorem pe_gs {z : Str} (hg : Gl X x) (h : ∃ t, X.mg x = some (.str z t)) (hd : (x == ("__debug__" : Str)) = false := by decide) : PE X (.Name x p) (tC (.str z)) := by
  obtain ⟨t, h⟩ := h
  exact pe_glob (v := .str z) hg h ⟨t, rfl⟩ hd
end

section
variable {σ : St} {H : Hp} {Q : VK} {ta tb tc : TE}
theorem w_chain {r r' : R2} (h : ta σ H fun x H1 => tb σ H1 fun y H2 => r x y H2 fun z H3 => ∃ k, z = .bl k ∧ (if k = true then tc σ H3 fun w' H4 => r' y w' H4 Q else Q (.bl false) H3)) : tChain r r' ta tb tc σ H Q := h
end

/-! ### more loops and comprehensions -/
section
variable {K : PySem.W.Frag} {σ : St} {H : Hp} {L R : HL} {Q : VK} {a : Addr} {ns : List Int} {te : TE} {tt : TT} {g : TG} {tb : TS} {is : List Nat} {nx : St → Hp → Prop} {rt : VK}
theorem w_lcRg {f : Nat → V} {lo : Int} {n : Nat} (O : Own H L) (hl : n ≤ 16777216)
    (hs : ∀ i D H' (Qe : VK), i < n → Own H' ([(D, .lst ((List.range i).map f))] ++ L) → (∀ H4, Own H4 ([(D, .lst ((List.range i).map f))] ++ L) → Qe (f i) H4) → ∀ Nx : Hp → Prop, g (.int (lo + i)) (wipe σ is) H' fun σ2 H2 => wipe σ2 is = wipe σ is ∧ tt σ2 H2 fun b H3 => if b = true then te σ2 H3 Qe else Nx H3)
    (k : ∀ D H', Own H' ([(D, .lst ((List.range n).map f))] ++ L) → Q (.ref D) H') : LcR (Itr lo n) g tt te is σ H Q := by
  refine no_implicit_lambda% (@Z.stp _ ?_ (fun key hn => ?_))
  ·
      intro D hD
      refine lc_range (fun i H' => Own H' ([(D, .lst ((List.range i).map f))] ++ L)) (O.new hD) (fun i H' hi O' => ?_) (fun H' O' => k D H' O')
      refine hs i D H' _ hi O' (fun H4 O4 => ⟨_, O4.at1 Pk.here, ?_, ?_⟩) _
      · rw [List.length_map, List.length_range]
        exact lineS (by omega)
      · rw [range_map_succ]
        exact O4.put Pk.here
  simpa only using Z.stc (Z.Stw.mk 5) hn key
theorem w_lcRc {c lo : Int} {n m : Nat} (O : Own H L) (e : is = [m]) (hl : n ≤ 16777216) (k : ∀ D H', Own H' ([(D, .lst ((List.replicate n c).map V.int))] ++ L) → Q (.ref D) H') : LcR (Itr lo n) (gName m) tYes (tC (.int c)) is σ H Q := by
  refine no_implicit_lambda% (@Z.stp _ ?_ (fun key hn => ?_))
  ·
      subst e
      refine w_lcRg (f := fun _ => .int c) O hl (fun i D H' Qe hi O' hk Nx => ?_) (fun D H' O' => k D H' ?_)
      · show wipe ((wipe σ [m]).set m _) [m] = wipe σ [m] ∧ (if true = true then Qe (.int c) H' else Nx H')
        exact ⟨by simp [wipe, List.set_set], hk _ O'⟩
      · have e : (List.range n).map (fun _ => V.int c) = (List.replicate n c).map V.int := by
          rw [List.map_const', List.length_range, List.map_replicate]
        rw [← e]
        exact O'
  simpa only using Z.stc (Z.Stw.mk 5) hn key
/-- ints over a range -/
theorem w_lcRgI {f : Nat → Int} {lo : Int} {n : Nat} (O : Own H L) (hl : n ≤ 16777216)
    (hs : ∀ i D H' (Qe : VK), i < n → Own H' ([(D, .lst (((List.range i).map f).map V.int))] ++ L) → (∀ H4, Own H4 ([(D, .lst (((List.range i).map f).map V.int))] ++ L) → Qe (.int (f i)) H4) → ∀ Nx : Hp → Prop, g (.int (lo + i)) (wipe σ is) H' fun σ2 H2 => wipe σ2 is = wipe σ is ∧ tt σ2 H2 fun b H3 => if b = true then te σ2 H3 Qe else Nx H3)
    (k : ∀ D H', Own H' ([(D, .lst (((List.range n).map f).map V.int))] ++ L) → Q (.ref D) H') : LcR (Itr lo n) g tt te is σ H Q := by
  refine no_implicit_lambda% (@Z.stp _ ?_ (fun key hn => ?_))
  ·
      refine w_lcRg (f := fun i => .int (f i)) O hl (fun i D H' Qe hi O' hk Nx => ?_) (fun D H' O' => k D H' (by rw [List.map_map]; exact O'))
      refine hs i D H' Qe hi (by rw [List.map_map]; exact O') (fun H4 O4 => hk H4 (by rw [List.map_map] at O4; exact O4)) Nx
  simpa only using Z.stc (Z.Stw.mk 5) hn key
theorem int_item {i : Nat} {x : V} (h : (ns.map V.int)[i]? = some x) : ∃ z, x = V.int z ∧ ns[i]? = some z := by
  refine no_implicit_lambda% (@Z.stp _ ?_ (fun key hn => ?_))
  ·
      rw [List.getElem?_map] at h
      cases e : ns[i]? with
      | none => rw [e] at h; cases h
      | some z => rw [e] at h; exact ⟨z, (Option.some.inj h).symm, rfl⟩
  simpa only using Z.stc (Z.Stw.mk 5) hn key
theorem w_forLI (Pv : Nat → St → Hp → Prop) (h0 : Pv 0 σ H) (hl : ∀ i σ H, Pv i σ H → ∃ L, Own H L ∧ LsI L a ns) (hs : ∀ i x σ H, ns[i]? = some x → Pv i σ H → g (.int x) σ H fun σ2 H2 => tb ⟨Pv (i + 1), rt, nx, Pv (i + 1)⟩ σ2 H2) (hd : ∀ σ H, Pv ns.length σ H → nx σ H) : ForR (Itl K a) g tb nx rt σ H := by
  refine no_implicit_lambda% (@Z.stp _ ?_ (fun key hn => ?_))
  ·
      refine w_forL (xs := ns.map V.int) Pv h0 (fun i σ H _ p => ?_) (fun i x σ H hx p => ?_) (fun σ H p => hd σ H (by rw [List.length_map] at p; exact p))
      · obtain ⟨L, O, pk⟩ := hl i σ H p
        exact .of (pk _ O)
      · obtain ⟨z, rfl, hz⟩ := int_item hx
        exact hs i z σ H hz p
  simpa only using Z.stc (Z.Stw.mk 5) hn key
theorem w_forEI (Pv : Nat → St → Hp → Prop) (h0 : Pv 0 σ H) (hl : ∀ i σ H, Pv i σ H → ∃ L, Own H L ∧ LsI L a ns)
    (hs : ∀ i x σ H T H', ns[i]? = some x → Pv i σ H → (∀ L, Own H L → Own H' ([(T, .tup [.int (i : Nat), .int x])] ++ L)) → g (.ref T) σ H' fun σ2 H2 => tb ⟨Pv (i + 1), rt, nx, Pv (i + 1)⟩ σ2 H2) (hd : ∀ σ H, Pv ns.length σ H → nx σ H) : ForR (Ite K a) g tb nx rt σ H := by
  refine no_implicit_lambda% (@Z.stp _ ?_ (fun key hn => ?_))
  ·
      refine w_forE (xs := ns.map V.int) Pv h0 (fun i σ H _ p => ?_) (fun i x σ H T hx p hT => ?_) (fun σ H p => hd σ H (by rw [List.length_map] at p; exact p))
      · obtain ⟨L, O, pk⟩ := hl i σ H p
        exact .of (pk _ O)
      · obtain ⟨z, rfl, hz⟩ := int_item hx
        exact hs i z σ H T _ hz p (fun L O => O.new hT)
  simpa only using Z.stc (Z.Stw.mk 5) hn key
end
inductive App : List V → List V → List V → Prop where
  | nil {d : List V} : App [] d d
  | cons {v : V} {l d u : List V} : App l d u → App (v :: l) d (v :: u)
theorem App.eq {l d u : List V} (h : App l d u) : l ++ d = u := by
  refine no_implicit_lambda% (@Z.stp _ ?_ (fun key hn => ?_))
  ·
      induction h with
      | nil => rfl
      | cons _ ih => rw [List.cons_append, ih]
  simpa only using Z.stc (Z.Stw.mk 5) hn key
theorem w_sa {sp : Sp} {x : V} {l d u : List V} {H : Hp} {Q : VK} {E : XK} (e : App l d u) (h : sp (x :: u) H Q E) : sp (x :: (l ++ d)) H Q E := by rw [e.eq]; exact h
theorem w_sa0 {sp : Sp} {l d u : List V} {H : Hp} {Q : VK} {E : XK} (e : App l d u) (h : sp u H Q E) : sp (l ++ d) H Q E := by rw [e.eq]; exact h
theorem w_callD {σ : St} {H : Hp} {Q : VK} {sp : Sp} {dvs : List V} {E : XK} {t : TA} (h : t σ H fun vs H1 => sp (vs ++ dvs) H1 Q E) : tCall sp dvs E t σ H Q := h

theorem w_fldG {K : PySem.W.Frag} {f : Str} {x : V} {H : Hp} {Q : VK} (h : FldR K f x H Q) : FldR K f x H Q := h
theorem w_sfldG {K : PySem.W.Frag} {f : Str} {y x : V} {H : Hp} {R : Hp → Prop} (h : SFldR K f y x H R) : SFldR K f y x H R := h
theorem w_methG {C : Addr} {m : Str} {x : V} {H : Hp} {P : Prop} (h : MethR C m x H P) : MethR C m x H P := h

/-! ### in, index, extend, clear -/
theorem uJ {A : Around} {k : Nat} (hr : Room k A) : A.units + 65 < cLine := by have := hr.un; omega
section
variable {X : Cx} {K : PySem.W.Frag} {σ : St} {H : Hp} {L R R' : HL} {Q : VK} {v : V} {i j : Int} {n : Nat} {a b : Addr} {xs : List V} {ns ms : List Int}
def rInS : R2 := fun x y H Q => ∃ i j, x = .str i ∧ y = .str j ∧ Q (.bl (!(Builtin.Str.occurrences j i 0 j.length 1).isEmpty)) H
def rNotInS : R2 := fun x y H Q => ∃ i j, x = .str i ∧ y = .str j ∧ Q (.bl (!(!(Builtin.Str.occurrences j i 0 j.length 1).isEmpty))) H
def zIn (K : PySem.W.Frag) : R2 := fun x y H Q => rIn K false x y H Q ∨ (rInS x y H Q ∨ rInD K x y H Q)
def zNotIn (K : PySem.W.Frag) : R2 := fun x y H Q => rIn K true x y H Q ∨ (rNotInS x y H Q ∨ rNotInD K x y H Q)
theorem op_zIn (hu : X.A.units + 65 < cLine) : OpR X (compareOp .In) (zIn X.K) := by
  refine no_implicit_lambda% (@Z.stp _ ?_ (fun key hn => ?_))
  ·
      intro pins s σ H x y v u Q I rx ry h
      rcases h with h | h | h
      · exact op_in_seq pins s σ H _ _ v u Q I rx ry h
      · exact op_in_str pins s σ H _ _ v u Q I rx ry h
      · exact op_inD hu pins s σ H _ _ v u Q I rx ry h
  simpa only using Z.stc (Z.Stw.mk 5) hn key
theorem op_zNotIn (hu : X.A.units + 65 < cLine) : OpR X (compareOp .NotIn) (zNotIn X.K) := by
  refine no_implicit_lambda% (@Z.stp _ ?_ (fun key hn => ?_))
  ·
      intro pins s σ H x y v u Q I rx ry h
      rcases h with h | h | h
      · exact op_notIn_seq pins s σ H _ _ v u Q I rx ry h
      · exact op_notIn_str pins s σ H _ _ v u Q I rx ry h
      · exact op_notInD hu pins s σ H _ _ v u Q I rx ry h
  simpa only using Z.stc (Z.Stw.mk 5) hn key
theorem inV_int (i : Int) : ∀ ns : List Int, inV (.int i) (ns.map V.int) = decide (i ∈ ns)
  | [] => by simp [inV]
  | x :: ns => by
    have ih := inV_int i ns
    unfold inV at ih ⊢
    rw [List.map_cons, List.any_cons, ih]
    by_cases h : x = i
    · subst h; simp [eqV]
    · have h2 : ¬ i = x := fun e => h e.symm
      simp [eqV, h, h2]
theorem flat_ints : (ns.map V.int).all flatV = true := by simp [flatV]
theorem w_inI (O : Own H L) (ha : LsI L a ns) (k : Q (.bl (decide (i ∈ ns))) H) : zIn K (.int i) (.ref a) H Q :=
  .inl ⟨a, _, rfl, .inl (.of (ha _ O)), rfl, flat_ints, by rw [inV_int]; exact k⟩
theorem w_inT (O : Own H L) (ha : Pk L [(a, .tup xs)] R) (hi : Ints xs ns) (k : Q (.bl (decide (i ∈ ns))) H) : zIn K (.int i) (.ref a) H Q := by
  refine no_implicit_lambda% (@Z.stp _ ?_ (fun key hn => ?_))
  ·
      have e := hi.eq
      subst e
      exact .inl ⟨a, _, rfl, .inr (.of (O.at1 ha)), rfl, flat_ints, by rw [inV_int]; exact k⟩
  simpa only using Z.stc (Z.Stw.mk 5) hn key
theorem w_ninI (O : Own H L) (ha : LsI L a ns) (k : Q (.bl (!decide (i ∈ ns))) H) : zNotIn K (.int i) (.ref a) H Q :=
  .inl ⟨a, _, rfl, .inl (.of (ha _ O)), rfl, flat_ints, by rw [inV_int]; exact k⟩
theorem w_ninT (O : Own H L) (ha : Pk L [(a, .tup xs)] R) (hi : Ints xs ns) (k : Q (.bl (!decide (i ∈ ns))) H) : zNotIn K (.int i) (.ref a) H Q := by
  refine no_implicit_lambda% (@Z.stp _ ?_ (fun key hn => ?_))
  ·
      have e := hi.eq
      subst e
      exact .inl ⟨a, _, rfl, .inr (.of (O.at1 ha)), rfl, flat_ints, by rw [inV_int]; exact k⟩
  simpa only using Z.stc (Z.Stw.mk 5) hn key
/-- the first place of i -/
def idx (i : Int) : List Int → Nat
  | [] => 0
  | x :: l => if x = i then 0 else idx i l + 1
theorem idx_get : ∀ {ns : List Int}, i ∈ ns → ns[idx i ns]? = some i
  | x :: l, h => by
    unfold idx
    by_cases e : x = i
    · rw [if_pos e, e]; rfl
    · rw [if_neg e]
      have h2 : i ∈ l := by
        rcases List.mem_cons.mp h with z | z
        · exact absurd z.symm e
        · exact z
      simpa using idx_get h2
theorem idx_lt (h : i ∈ ns) : idx i ns < ns.length := (List.getElem?_eq_some_iff.mp (idx_get h)).1
theorem idx_no : ∀ {ns : List Int} {m : Nat} {z : Int}, m < idx i ns → ns[m]? = some z → z ≠ i
  | [], m, z, h, _ => by simp [idx] at h
  | x :: l, m, z, h, e => by
    unfold idx at h
    by_cases c : x = i
    · rw [if_pos c] at h; omega
    · rw [if_neg c] at h
      cases m with
      | zero =>
        have : x = z := Option.some.inj e
        rw [← this]; exact c
      | succ m => exact idx_no (ns := l) (m := m) (by omega) (by simpa using e)
def zIndex (K : PySem.W.Frag) : V → List V → Hp → VK → Prop := rIndex K
theorem mt_zIndex : MtR X "list.index" (zIndex X.K) := mt_index
theorem w_idxI (O : Own H L) (ha : LsI L a ns) (h : i ∈ ns) (k : Q (.int (idx i ns : Nat)) H) : zIndex K (.ref a) [.int i] H Q :=
  ⟨a, _, .int i, idx i ns, .int i, rfl, rfl, .of (ha _ O), rfl, flat_ints, by rw [List.getElem?_map, idx_get h]; rfl, by simp [eqV], fun m z hm hz => by
    obtain ⟨z', rfl, hz'⟩ := int_item hz
    have := idx_no hm hz'
    simp [eqV, this], k⟩
theorem w_extI (O : Own H L) (ha : Pk L [(a, .lst (ns.map V.int))] R) (hb : Pk R [(b, .lst (ms.map V.int))] R') (hl : ns.length + ms.length ≤ 16777216) (k : ∀ H', Own H' ([(a, .lst ((ns ++ ms).map V.int))] ++ R) → Q .non H') : rExtend (.ref a) [.ref b] H Q :=
  ⟨a, b, _, _, rfl, rfl, O.at1 ha, (O.sub (Sub.rest ha)).at1 hb, by rw [List.length_map, List.length_map]; exact line hl, by
    rw [← List.map_append]
    exact k _ (O.put ha)⟩
theorem w_clr (O : Own H L) (ha : Pk L [(a, .lst xs)] R) (k : ∀ H', Own H' ([(a, .lst (([] : List Int).map V.int))] ++ R) → Q .non H') : rClear (.ref a) [] H Q :=
  ⟨a, _, rfl, rfl, O.at1 ha, k _ (O.put ha)⟩
end
/-! ### keywords: the callee's values in its own order -/
inductive Ar where
  | at (i : Nat)
  | dv (v : V)
def nthV : List V → Nat → V
  | [], _ => .non
  | x :: _, 0 => x
  | _ :: l, i + 1 => nthV l i
def nthU : List Value → Nat → Value
  | [], _ => .none
  | x :: _, 0 => x
  | _ :: l, i + 1 => nthU l i
def arV (l : List Ar) (vs : List V) : List V := l.map fun | .at i => nthV vs i | .dv v => v
/-- the values' side of an arrangement: ds the values of the defaults -/
def arU : List Ar → List Value → List Value → List Value
  | [], _, _ => []
  | .at i :: l, us, ds => nthU us i :: arU l us ds
  | .dv _ :: l, us, d :: ds => d :: arU l us ds
  | .dv _ :: l, us, [] => .none :: arU l us []
theorem nth_rel : ∀ {vs : List V} {us : List Value} (i : Nat), Vals vs us → RelV (nthV vs i) (nthU us i)
  | _, _, _, .nil => rfl
  | _, _, 0, .cons r _ => r
  | _, _, i + 1, .cons _ t => nth_rel i t
def dvsOf (l : List Ar) : List V := l.filterMap fun | .at _ => none | .dv v => some v
theorem ar_rel : ∀ {l : List Ar} {vs : List V} {us ds : List Value}, Vals vs us → Vals (dvsOf l) ds → Vals (arV l vs) (arU l us ds)
  | [], _, _, _, _, _ => .nil
  | .at i :: l, vs, us, ds, r, d => .cons (nth_rel i r) (ar_rel (l := l) r d)
  | .dv v :: l, vs, us, ds, r, d => by
    cases d with
    | cons h t => exact .cons h (ar_rel (l := l) r t)
structure KBa (K : PySem.W.Frag) (fd : FuncData) (ps : List Str) (n : Nat) (ks : List Str) (l : List Ar) : Prop where
  ex : ∃ ds : List Value, Vals (dvsOf l) ds ∧ ∀ (s : Shared) (us ws : List Value), K.In s.heap → us.length = n → ws.length = ks.length → BindsTo s fd ⟨us, ks.zip ws⟩ (ps.zip (arU l (us ++ ws) ds))
theorem KBa.kbn {K : PySem.W.Frag} {fd : FuncData} {ps : List Str} {n : Nat} {ks : List Str} {l : List Ar} (b : KBa K fd ps n ks l) : ∃ g, KBn K fd ps n ks g (fun vs zs => arV l (vs ++ zs)) := by
  refine no_implicit_lambda% (@Z.stp _ ?_ (fun key hn => ?_))
  ·
      obtain ⟨ds, h1, h2⟩ := b.ex
      exact ⟨fun us ws => arU l (us ++ ws) ds, ⟨h2, fun r1 r2 => ar_rel (r1.append r2) h1⟩⟩
  simpa only using Z.stc (Z.Stw.mk 5) hn key
section
variable {K : PySem.W.Frag} {x qual : Str} {params : Arguments} {body : List Stmt} {scope : Scope} {dvs : List V} {kws : List (Str × V)} {f : Addr} {fd : FuncData} {ps : List Str}
/-- no default is needed -/
theorem kba0 (F : FunD K x qual params body scope [] kws f fd) (n : Nat) (ks : List Str) (l : List Ar) (hl : dvsOf l = [])
    (h : ∀ (kV doc pm : Value) (an : Option Addr) (cdv ct : Value) (us ws : List Value), us.length = n → ws.length = ks.length →
      bindArgs (PySem.W.fnOf x qual params body scope .none kV doc pm an cdv ct) ⟨us, ks.zip ws⟩ = pure (ps.zip (arU l (us ++ ws) []))) : KBa K fd ps n ks l := by
  refine no_implicit_lambda% (@Z.stp _ ?_ (fun key hn => ?_))
  ·
      obtain ⟨oc, od, dV, kV, doc, pm, an, cdv, ct, osl, rfl, lk, hcd, hD, hK⟩ := F.ex
      rcases hD with ⟨_, rfl⟩ | ⟨e, _⟩
      · exact ⟨[], by rw [hl]; exact .nil, fun s us ws X l1 l2 => .of_eq (h kV doc pm an cdv ct us ws l1 l2)⟩
      · exact absurd rfl e
  simpa only using Z.stc (Z.Stw.mk 5) hn key
/-- keyword-only defaults ms alone fill up -/
theorem kbaK (F : FunD K x qual params body scope [] kws f fd) (n : Nat) (ks : List Str) (ms : List (Str × V)) (l : List Ar) (hk : kws ≠ []) (hms : ∀ q ∈ ms, q ∈ kws) (hl : dvsOf l = ms.map (·.2))
    (h : ∀ (D : Addr) (doc pm : Value) (an : Option Addr) (cdv ct : Value) (us ws mv : List Value), us.length = n → ws.length = ks.length → mv.length = ms.length →
      KwChain D ((ms.map (·.1)).zip mv) (bindArgs (PySem.W.fnOf x qual params body scope .none (.ref D) doc pm an cdv ct) ⟨us, ks.zip ws⟩) (ps.zip (arU l (us ++ ws) mv))) : KBa K fd ps n ks l := by
  refine no_implicit_lambda% (@Z.stp _ ?_ (fun key hn => ?_))
  ·
      obtain ⟨oc, od, dV, kV, doc, pm, an, cdv, ct, osl, rfl, lk, hcd, hD, hK⟩ := F.ex
      rcases hD with ⟨_, rfl⟩ | ⟨e, _⟩
      · rcases hK with e | ⟨D, rfl, hq⟩
        · exact absurd e hk
        · obtain ⟨mv, hl2, rk, hks⟩ := kwd_vals (ms := ms) fun q hm => hq q (hms q hm)
          exact ⟨mv, by rw [hl]; exact rk, fun s us ws X l1 l2 => BindsTo.of_looks fun M => KwChain.looks X hks (h D doc pm an cdv ct us ws mv l1 l2 hl2)⟩
      · exact absurd rfl e
  simpa only using Z.stc (Z.Stw.mk 5) hn key
end
def tMethN (C : Addr) (m : Str) (n k : Nat) (sp : Sp) (l : List Ar) (E : XK) (ta : TE) (t tk : TA) : TE := fun σ H Q => ta σ H fun x H1 => MethR C m x H1 (t σ H1 fun vs H2 => tk σ H2 fun zs H3 => vs.length = n ∧ zs.length = k ∧ sp (arV l ((x :: vs) ++ zs)) H3 Q E)
section
variable {X : Cx} {CX : CXT} {k n : Nat} {f C : Addr} {fd : FuncData} {ps ks : List Str} {sp : Sp} {E : XK} {x m : Str} {p pos apos : Pos} {o e : Expr} {es : List Expr} {kws : List Keyword} {ta : TE} {t tk : TA} {l : List Ar}
/-- o.m(e, .., k = v, ..) -/
theorem pe_methN {pl : Sem Bool} (he : PE X o ta) (c : Cls X.K C) (hm : Meth X.K C m f) (F : FnOk X.prog X.w X.K X.mg X.base CX k f fd ps sp) (hr : Room k X.A) (hb : KBa X.K fd ps (n + 1) ks l) (hx : Passes CX X E) (ha : PA X (e :: es) t) (hkw : PK X kws tk)
    (hall : (backToKw pos (keywordEach kws X.env)).all (·.1.isSome) = true := by rfl) (hks : (backToKw pos (keywordEach kws X.env)).filterMap (·.1) = ks := by rfl) (hst : starEach (e :: es) X.env = (false, eval e X.env) :: starEach es X.env := by rfl)
    (hpl : ((backTo pos (starEach (e :: es) X.env)).any (·.1) || (backToKw pos (keywordEach kws X.env)).any (·.1.isNone)) = false := by rfl)
    (ht : eval (.Call (.Attribute o m apos) (e :: es) kws pos) X.env = (do
      let ov ← eval o X.env
      standAt apos.atName
      let (f, first) ← holding [ov] (getMethod ov m pl)
      callWith pos f first (backTo pos (starEach (e :: es) X.env)) (backToKw pos (keywordEach kws X.env))) := by rfl) :
    PE X (.Call (.Attribute o m apos) (e :: es) kws pos) (tMethN C m n ks.length sp l E ta t tk) := by
  obtain ⟨g, hb⟩ := hb.kbn
  refine ⟨fun pins s σ H Q I h => ?_⟩
  refine PySem.W.methodCall_KW (pl := pl) (thn (he.run pins s σ H _ I h) fun u s1 ⟨x, H1, I1, rx, a, dx, fs, ex, ea, l, q⟩ => ?_) ht
  subst ex
  obtain rfl : u = Value.ref a := rx
  refine getmeth_ok I1 ea c hm l ?_
  refine PySem.W.callWith_KW (first := [.ref a]) (h₀ := X.base) I.ok.mod.kin hm.kp hall (thn (ha.run pos pins s1 σ H1 _ I1 q) fun us s2 ⟨vs, H2, I2, r, q2⟩ => ?_) hpl hst
  refine thn (hkw.run pos pins s2 σ H2 _ I2 q2) fun ws s3 ⟨zs, H3, I3, rz, l1, l2, q3⟩ => ⟨I3.kIn, ?_⟩
  rw [hks]
  exact run_fnN (us := .ref a :: us) (vs := .ref a :: vs) F hr hb hx I3 (.cons rfl r) rz (congrArg Nat.succ l1) l2 q3
end
/-- a method's form by keywords -/
structure KMet (P : Program) (w : World) (K : PySem.W.Frag) (mg : Str → Option Value) (base : Heap) (k : Nat) (C : Addr) (m : Str) (sp : Sp) (n : Nat) (ks : List Str) (l : List Ar) : Prop where
  ex : ∃ (f : Addr) (fd : FuncData) (ps : List Str), Cls K C ∧ Meth K C m f ∧ FnOk P w K mg base (L2.CX P w) k f fd ps sp ∧ KBa K fd ps (n + 1) ks l
theorem KMet.mono {P : Program} {w : World} {K : PySem.W.Frag} {mg : Str → Option Value} {base : Heap} {k j : Nat} {C : Addr} {m : Str} {sp : Sp} {n : Nat} {ks : List Str} {l : List Ar} (c : KMet P w K mg base k C m sp n ks l) (h : k ≤ j) : KMet P w K mg base j C m sp n ks l := by
  refine no_implicit_lambda% (@Z.stp _ ?_ (fun key hn => ?_))
  ·
      obtain ⟨f, fd, ps, c1, c2, F, r⟩ := c.ex
      exact ⟨f, fd, ps, c1, c2, F.mono h, r⟩
  simpa only using Z.stc (Z.Stw.mk 5) hn key
theorem kmet_of {P : Program} {w : World} {K : PySem.W.Frag} {mg : Str → Option Value} {base : Heap} {C f : Addr} {m x qual : Str} {st : Stmt} {dvs : List V} {kws : List (Str × V)} {ps : List Str} {k n : Nat} {ks : List Str} {l : List Ar} {sp : Sp} (c : Cls K C) (me : Meth K C m f) (d : ∃ fd, FunD K x qual (defArgs st) (defBody st) (defScope st) dvs kws f fd)
    (ok : ∀ fd, FunD K x qual (defArgs st) (defBody st) (defScope st) dvs kws f fd → FnOk P w K mg base (L2.CX P w) k f fd ps sp) (bi : ∀ fd, FunD K x qual (defArgs st) (defBody st) (defScope st) dvs kws f fd → KBa K fd ps (n + 1) ks l) : KMet P w K mg base k C m sp n ks l := by
  refine no_implicit_lambda% (@Z.stp _ ?_ (fun key hn => ?_))
  ·
      obtain ⟨fd, F⟩ := d
      exact ⟨f, fd, ps, c, me, ok fd F, bi fd F⟩
  simpa only using Z.stc (Z.Stw.mk 5) hn key
section
variable {X : Cx} {j k n : Nat} {C : Addr} {x m : Str} {sp : Sp} {p pos apos : Pos} {e o : Expr} {es : List Expr} {t tk : TA} {ta te : TE} {ks : List Str} {l : List Ar} {kws : List Keyword}
theorem pe_mkw {pl : Sem Bool} (c : KMet X.prog X.w X.K X.mg X.base k C m sp n ks l) (hr : Room j X.A) (hk : k ≤ j) (he : PE X o ta) (ha : PA X (e :: es) t) (hkw : PK X kws tk)
    (hall : (backToKw pos (keywordEach kws X.env)).all (·.1.isSome) = true := by rfl) (hks : (backToKw pos (keywordEach kws X.env)).filterMap (·.1) = ks := by rfl) (hst : starEach (e :: es) X.env = (false, eval e X.env) :: starEach es X.env := by rfl)
    (hpl : ((backTo pos (starEach (e :: es) X.env)).any (·.1) || (backToKw pos (keywordEach kws X.env)).any (·.1.isNone)) = false := by rfl)
    (ht : eval (.Call (.Attribute o m apos) (e :: es) kws pos) X.env = (do
      let ov ← eval o X.env
      standAt apos.atName
      let (f, first) ← holding [ov] (getMethod ov m pl)
      callWith pos f first (backTo pos (starEach (e :: es) X.env)) (backToKw pos (keywordEach kws X.env))) := by rfl) :
    PE X (.Call (.Attribute o m apos) (e :: es) kws pos) (tMethN C m n ks.length sp l E0 ta t tk) := by
  obtain ⟨f, fd, ps, c1, c2, F, b⟩ := c.ex
  exact pe_methN (pl := pl) he c1 c2 F (hr.mono hk) b passL ha hkw hall hks hst hpl ht
end
section
variable {σ : St} {H : Hp} {Q : VK} {C : Addr} {m : Str} {n k : Nat} {sp : Sp} {l : List Ar} {E : XK} {ta : TE} {t tk : TA} {vs zs us : List V}
def LenR (n k : Nat) (vs zs : List V) (P : Prop) : Prop := vs.length = n ∧ zs.length = k ∧ P
theorem w_methN (h : ta σ H fun x H1 => MethR C m x H1 (t σ H1 fun vs H2 => tk σ H2 fun zs H3 => LenR n k vs zs (sp (arV l ((x :: vs) ++ zs)) H3 Q E))) : tMethN C m n k sp l E ta t tk σ H Q := h
theorem w_len {P : Prop} (h1 : vs.length = n) (h2 : zs.length = k) (h : P) : LenR n k vs zs P := ⟨h1, h2, h⟩
theorem w_arV {ws : List V} (e : arV l ws = us) (h : sp us H Q E) : sp (arV l ws) H Q E := by rw [e]; exact h
end

def tMakeZ (C : Addr) (n m : Nat) (sp : Sp) (l : List Ar) (E : XK) (t tk : TA) : TE := fun σ H Q => t σ H fun vs H1 => tk σ H1 fun zs H2 => LenR n m vs zs (MakeR C sp (fun x => arV l ((x :: vs) ++ zs)) E H2 Q)
def tCallZ (n m : Nat) (sp : Sp) (l : List Ar) (E : XK) (t tk : TA) : TE := fun σ H Q => t σ H fun vs H1 => tk σ H1 fun zs H2 => LenR n m vs zs (sp (arV l (vs ++ zs)) H2 Q E)
structure KCal (P : Program) (w : World) (K : PySem.W.Frag) (mg : Str → Option Value) (base : Heap) (k : Nat) (x : Str) (sp : Sp) (n : Nat) (ks : List Str) (l : List Ar) : Prop where
  ex : ∃ (f : Addr) (fd : FuncData) (ps : List Str), FnOk P w K mg base (L2.CX P w) k f fd ps sp ∧ mg x = some (.ref f) ∧ PySem.W.keepIn K (.ref f) = true ∧ KBa K fd ps n ks l
structure KMak (P : Program) (w : World) (K : PySem.W.Frag) (mg : Str → Option Value) (base : Heap) (k : Nat) (x : Str) (C : Addr) (sp : Sp) (n : Nat) (ks : List Str) (l : List Ar) : Prop where
  ex : ∃ (f : Addr) (fd : FuncData) (ps : List Str), Mk K C f ∧ FnOk P w K mg base (L2.CX P w) k f fd ps sp ∧ mg x = some (.ref C) ∧ KBa K fd ps (n + 1) ks l
section
variable {P : Program} {w : World} {K : PySem.W.Frag} {mg : Str → Option Value} {base : Heap} {k j n : Nat} {x qual : Str} {C f : Addr} {sp : Sp} {ks : List Str} {l : List Ar} {st : Stmt} {dvs : List V} {kws : List (Str × V)} {ps : List Str}
theorem KCal.mono (c : KCal P w K mg base k x sp n ks l) (h : k ≤ j) : KCal P w K mg base j x sp n ks l := by
  refine no_implicit_lambda% (@Z.stp _ ?_ (fun key hn => ?_))
  ·
      obtain ⟨f, fd, ps, F, r⟩ := c.ex
      exact ⟨f, fd, ps, F.mono h, r⟩
  simpa only using Z.stc (Z.Stw.mk 5) hn key
theorem KMak.mono (c : KMak P w K mg base k x C sp n ks l) (h : k ≤ j) : KMak P w K mg base j x C sp n ks l := by
  refine no_implicit_lambda% (@Z.stp _ ?_ (fun key hn => ?_))
  ·
      obtain ⟨f, fd, ps, c1, F, r⟩ := c.ex
      exact ⟨f, fd, ps, c1, F.mono h, r⟩
  simpa only using Z.stc (Z.Stw.mk 5) hn key
theorem kmak_of {cx : Str} (M : Mk K C f) (hm : mg cx = some (.ref C)) (d : ∃ fd, FunD K x qual (defArgs st) (defBody st) (defScope st) dvs kws f fd)
    (ok : ∀ fd, FunD K x qual (defArgs st) (defBody st) (defScope st) dvs kws f fd → FnOk P w K mg base (L2.CX P w) k f fd ps sp) (bi : ∀ fd, FunD K x qual (defArgs st) (defBody st) (defScope st) dvs kws f fd → KBa K fd ps (n + 1) ks l) : KMak P w K mg base k cx C sp n ks l := by
  refine no_implicit_lambda% (@Z.stp _ ?_ (fun key hn => ?_))
  ·
      obtain ⟨fd, F⟩ := d
      exact ⟨f, fd, ps, M, ok fd F, hm, bi fd F⟩
  simpa only using Z.stc (Z.Stw.mk 5) hn key
structure Dfk (K : PySem.W.Frag) (mg : Str → Option Value) (x : Str) (st : Stmt) (dvs : List V) (kws : List (Str × V)) : Prop where
  ex : ∃ f fd, Dfn K mg x st dvs kws f fd
theorem cal_of (d : ∃ f fd, Dfn K mg x st dvs kws f fd) (ok : ∀ f fd, FunD K x x (defArgs st) (defBody st) (defScope st) dvs kws f fd → FnOk P w K mg base (L2.CX P w) k f fd ps sp) {dvs' : List V}
    (bi : ∀ f fd, FunD K x x (defArgs st) (defBody st) (defScope st) dvs kws f fd → ∃ ds, Vals dvs' ds ∧ Binds K fd ps ds) : Cal P w K mg base k x sp dvs' := by
  refine no_implicit_lambda% (@Z.stp _ ?_ (fun key hn => ?_))
  ·
      obtain ⟨f, fd, F, hm⟩ := d
      obtain ⟨ds, h1, h2⟩ := bi f fd F
      exact ⟨f, fd, ps, ds, ok f fd F, hm, F.kp, h2, h1⟩
  simpa only using Z.stc (Z.Stw.mk 5) hn key
theorem kcal_of (d : ∃ f fd, Dfn K mg x st dvs kws f fd) (ok : ∀ f fd, FunD K x x (defArgs st) (defBody st) (defScope st) dvs kws f fd → FnOk P w K mg base (L2.CX P w) k f fd ps sp)
    (bi : ∀ f fd, FunD K x x (defArgs st) (defBody st) (defScope st) dvs kws f fd → KBa K fd ps n ks l) : KCal P w K mg base k x sp n ks l := by
  refine no_implicit_lambda% (@Z.stp _ ?_ (fun key hn => ?_))
  ·
      obtain ⟨f, fd, F, hm⟩ := d
      exact ⟨f, fd, ps, ok f fd F, hm, F.kp, bi f fd F⟩
  simpa only using Z.stc (Z.Stw.mk 5) hn key
end
section
variable {X : Cx} {j k n : Nat} {C : Addr} {x m : Str} {sp : Sp} {p pos : Pos} {e : Expr} {es : List Expr} {t tk : TA} {ks : List Str} {l : List Ar} {kws : List Keyword}
theorem pe_ckw (c : KCal X.prog X.w X.K X.mg X.base k x sp n ks l) (hr : Room j X.A) (hk : k ≤ j) (hg : Gl X x) (ha : PA X (e :: es) t) (hkw : PK X kws tk)
    (hall : (backToKw pos (keywordEach kws X.env)).all (·.1.isSome) = true := by rfl) (hks : (backToKw pos (keywordEach kws X.env)).filterMap (·.1) = ks := by rfl) (hdb : (x == ("__debug__" : Str)) = false := by decide)
    (he : starEach (e :: es) X.env = (false, eval e X.env) :: starEach es X.env := by rfl) (hpl : ((backTo pos (starEach (e :: es) X.env)).any (·.1) || (backToKw pos (keywordEach kws X.env)).any (·.1.isNone)) = false := by rfl) :
    PE X (.Call (.Name x p) (e :: es) kws pos) (tCallZ n ks.length sp l E0 t tk) := by
  obtain ⟨f, fd, ps, F, hm, kp, b⟩ := c.ex
  obtain ⟨g, b⟩ := b.kbn
  exact pe_callN F (hr.mono hk) hg hm kp b passL ha hkw hall hks hdb he hpl
theorem pe_kkw (c : KMak X.prog X.w X.K X.mg X.base k x C sp n ks l) (hr : Room j X.A) (hk : k + 1 ≤ j) (hg : Gl X x) (ha : PA X (e :: es) t) (hkw : PK X kws tk)
    (hall : (backToKw pos (keywordEach kws X.env)).all (·.1.isSome) = true := by rfl) (hks : (backToKw pos (keywordEach kws X.env)).filterMap (·.1) = ks := by rfl) (hdb : (x == ("__debug__" : Str)) = false := by decide)
    (he : starEach (e :: es) X.env = (false, eval e X.env) :: starEach es X.env := by rfl) (hpl : ((backTo pos (starEach (e :: es) X.env)).any (·.1) || (backToKw pos (keywordEach kws X.env)).any (·.1.isNone)) = false := by rfl) :
    PE X (.Call (.Name x p) (e :: es) kws pos) (tMakeZ C n ks.length sp l E0 t tk) := by
  obtain ⟨f, fd, ps, M, F, hm, b⟩ := c.ex
  obtain ⟨g, b⟩ := b.kbn
  exact pe_makeK M F (hr.mono hk) hg hm b passL ha hkw hall hks hdb he hpl
theorem pe_kkw0 (c : KMak X.prog X.w X.K X.mg X.base k x C sp 0 ks l) (hr : Room j X.A) (hk : k + 1 ≤ j) (hg : Gl X x) (hkw : PK X kws tk)
    (hall : (backToKw pos (keywordEach kws X.env)).all (·.1.isSome) = true := by rfl) (hks : (backToKw pos (keywordEach kws X.env)).filterMap (·.1) = ks := by rfl) (hdb : (x == ("__debug__" : Str)) = false := by decide)
    (hpl : ((backTo pos (starEach [] X.env)).any (·.1) || (backToKw pos (keywordEach kws X.env)).any (·.1.isNone)) = false := by rfl) :
    PE X (.Call (.Name x p) [] kws pos) (tMakeZ C 0 ks.length sp l E0 tNil tk) := by
  obtain ⟨f, fd, ps, M, F, hm, b⟩ := c.ex
  obtain ⟨g, b⟩ := b.kbn
  exact pe_makeK0 M F (hr.mono hk) hg hm b passL hkw hall hks hdb hpl
end
section
variable {σ : St} {H : Hp} {Q : VK} {C : Addr} {n m : Nat} {sp : Sp} {l : List Ar} {E : XK} {t tk : TA}
theorem w_makeZ (h : t σ H fun vs H1 => tk σ H1 fun zs H2 => LenR n m vs zs (MakeR C sp (fun x => arV l ((x :: vs) ++ zs)) E H2 Q)) : tMakeZ C n m sp l E t tk σ H Q := h
theorem w_callZ (h : t σ H fun vs H1 => tk σ H1 fun zs H2 => LenR n m vs zs (sp (arV l (vs ++ zs)) H2 Q E)) : tCallZ n m sp l E t tk σ H Q := h
end

theorem menu_bd {ns : List Int} {B : Int} {i : Nat} (hB : 0 ≤ B) (h : ∀ x ∈ ns, 0 ≤ x ∧ x ≤ B) : 0 ≤ ns.getD i 0 ∧ ns.getD i 0 ≤ B := by
  refine no_implicit_lambda% (@Z.stp _ ?_ (fun key hn => ?_))
  ·
      unfold List.getD
      cases e : ns[i]? with
      | none => exact ⟨Int.le_refl _, hB⟩
      | some x => exact h x (List.mem_of_getElem? e)
  simpa only using Z.stc (Z.Stw.mk 5) hn key

theorem w_decF {p : Prop} [Decidable p] {A B : Prop} (n : ¬ p) (h : B) : if decide p = true then A else B := by
  refine no_implicit_lambda% (@Z.stp _ ?_ (fun key hn => ?_))
  ·
      rw [decide_eq_false n]; exact h
  simpa only using Z.stc (Z.Stw.mk 5) hn key
theorem w_decT {p : Prop} [Decidable p] {A B : Prop} (n : p) (h : A) : if decide p = true then A else B := by
  refine no_implicit_lambda% (@Z.stp _ ?_ (fun key hn => ?_))
  ·
      rw [decide_eq_true n]; exact h
  simpa only using Z.stc (Z.Stw.mk 5) hn key
theorem w_ndecT {p : Prop} [Decidable p] {A B : Prop} (n : p) (h : B) : if (!decide p) = true then A else B := by
  refine no_implicit_lambda% (@Z.stp _ ?_ (fun key hn => ?_))
  ·
      rw [decide_eq_true n]; exact h
  simpa only using Z.stc (Z.Stw.mk 5) hn key
theorem w_ndecF {p : Prop} [Decidable p] {A B : Prop} (n : ¬ p) (h : A) : if (!decide p) = true then A else B := by
  refine no_implicit_lambda% (@Z.stp _ ?_ (fun key hn => ?_))
  ·
      rw [decide_eq_false n]; exact h
  simpa only using Z.stc (Z.Stw.mk 5) hn key

theorem hl_assoc (a b c : HL) : (a ++ b) ++ c = a ++ (b ++ c) := List.append_assoc a b c


/-! ### data: sizes, comparison -/
section
variable {d : PyData} {ds : List PyData} {ns : List Int}
/-- data that may be compared: small n d: depth at most n -/
def small (n : Nat) (d : PyData) : Bool := d.canLay0 && decide (d.depth ≤ n)
theorem sh_small {n : Nat} (h : small n d = true) (hn : n ≤ 64) : SeqAt.shaped d = true := by
  refine no_implicit_lambda% (@Z.stp _ ?_ (fun key hn => ?_))
  ·
      unfold small at h
      rw [Bool.and_eq_true, decide_eq_true_eq] at h
      unfold SeqAt.shaped
      rw [h.1, decide_eq_true (Nat.le_trans h.2 hn)]
      rfl
  simpa only using Z.stc (Z.Stw.mk 5) hn key
def smalls (n : Nat) (ds : List PyData) : Bool := ds.all (small n)
theorem lay_all {n : Nat} : ∀ {ds : List PyData}, smalls n ds = true → PyData.canLayAll0 ds = true ∧ PyData.depthAll ds ≤ n
  | [], _ => ⟨rfl, Nat.zero_le _⟩
  | d :: ds, h => by
    have h2 : (small n d && smalls n ds) = true := h
    rw [Bool.and_eq_true] at h2
    have h3 := h2.1
    unfold small at h3
    rw [Bool.and_eq_true, decide_eq_true_eq] at h3
    obtain ⟨i1, i2⟩ := lay_all (ds := ds) h2.2
    refine ⟨?_, ?_⟩
    · show (PyData.canLay0 d && PyData.canLayAll0 ds) = true
      rw [h3.1, i1]; rfl
    · show max (PyData.depth d) (PyData.depthAll ds) ≤ n
      exact Nat.max_le.mpr ⟨h3.2, i2⟩
theorem small_list {n : Nat} (h : smalls n ds = true) : small (n + 1) (.list ds) = true := by
  refine no_implicit_lambda% (@Z.stp _ ?_ (fun key hn => ?_))
  ·
      obtain ⟨h1, h2⟩ := lay_all h
      unfold small
      rw [Bool.and_eq_true, decide_eq_true_eq]
      exact ⟨h1, show PyData.depthAll ds + 1 ≤ n + 1 by omega⟩
  simpa only using Z.stc (Z.Stw.mk 5) hn key
theorem small_tuple {n : Nat} (h : smalls n ds = true) : small (n + 1) (.tuple ds) = true := by
  refine no_implicit_lambda% (@Z.stp _ ?_ (fun key hn => ?_))
  ·
      obtain ⟨h1, h2⟩ := lay_all h
      unfold small
      rw [Bool.and_eq_true, decide_eq_true_eq]
      exact ⟨h1, show PyData.depthAll ds + 1 ≤ n + 1 by omega⟩
  simpa only using Z.stc (Z.Stw.mk 5) hn key
theorem smalls_nil {n : Nat} : smalls n [] = true := rfl
theorem smalls_cons {n : Nat} (h : small n d = true) (hs : smalls n ds = true) : smalls n (d :: ds) = true := by
  refine no_implicit_lambda% (@Z.stp _ ?_ (fun key hn => ?_))
  ·
      show (small n d && smalls n ds) = true
      rw [h, hs]; rfl
  simpa only using Z.stc (Z.Stw.mk 5) hn key
theorem small_int {n : Nat} {i : Int} : small n (.int i) = true := by
  refine no_implicit_lambda% (@Z.stp _ ?_ (fun key hn => ?_))
  ·
      unfold small
      rw [Bool.and_eq_true, decide_eq_true_eq]
      exact ⟨rfl, Nat.zero_le _⟩
  simpa only using Z.stc (Z.Stw.mk 5) hn key
theorem small_bl {n : Nat} {i : Bool} : small n (.bool i) = true := by
  refine no_implicit_lambda% (@Z.stp _ ?_ (fun key hn => ?_))
  ·
      unfold small
      rw [Bool.and_eq_true, decide_eq_true_eq]
      exact ⟨rfl, Nat.zero_le _⟩
  simpa only using Z.stc (Z.Stw.mk 5) hn key
theorem small_non {n : Nat} : small n .none = true := by
  refine no_implicit_lambda% (@Z.stp _ ?_ (fun key hn => ?_))
  ·
      unfold small
      rw [Bool.and_eq_true, decide_eq_true_eq]
      exact ⟨rfl, Nat.zero_le _⟩
  simpa only using Z.stc (Z.Stw.mk 5) hn key
theorem small_str {n : Nat} {s : Str} (h : PyData.canLay0 (.str s) = true) : small n (.str s) = true := by
  refine no_implicit_lambda% (@Z.stp _ ?_ (fun key hn => ?_))
  ·
      unfold small
      rw [Bool.and_eq_true, decide_eq_true_eq]
      exact ⟨h, Nat.zero_le _⟩
  simpa only using Z.stc (Z.Stw.mk 5) hn key
theorem smalls_ints {n : Nat} : smalls n (ns.map PyData.int) = true := by
  refine no_implicit_lambda% (@Z.stp _ ?_ (fun key hn => ?_))
  ·
      induction ns with
      | nil => rfl
      | cons i ns ih => exact smalls_cons small_int ih
  simpa only using Z.stc (Z.Stw.mk 5) hn key
theorem small_mono {n m : Nat} (h : small n d = true) (hm : n ≤ m) : small m d = true := by
  refine no_implicit_lambda% (@Z.stp _ ?_ (fun key hn => ?_))
  ·
      unfold small at *
      rw [Bool.and_eq_true, decide_eq_true_eq] at *
      exact ⟨h.1, Nat.le_trans h.2 hm⟩
  simpa only using Z.stc (Z.Stw.mk 5) hn key
theorem smalls_app {n : Nat} {es : List PyData} (h : smalls n ds = true) (k : smalls n es = true) : smalls n (ds ++ es) = true := by
  refine no_implicit_lambda% (@Z.stp _ ?_ (fun key hn => ?_))
  ·
      unfold smalls at *
      rw [List.all_append, h, k]; rfl
  simpa only using Z.stc (Z.Stw.mk 5) hn key
theorem eqv_rfl {n : Nat} (h : small n d = true) : PyData.eqv d d = true := by
  refine no_implicit_lambda% (@Z.stp _ ?_ (fun key hn => ?_))
  ·
      unfold small at h
      rw [Bool.and_eq_true] at h
      exact PySem.SeqAt.eqv_refl d h.1
  simpa only using Z.stc (Z.Stw.mk 5) hn key
end
def isSm (d : PyData) : Prop := small 60 d = true
section
variable {K : PySem.W.Frag} {σ : St} {H : Hp} {L R R' : HL} {Q : VK} {x y v : V} {d e : PyData} {ds es : List PyData} {a b p : Addr} {i : Int} {n : Nat} {vs : List V} {ns : List Int}
theorem Rdg.dp (h : Rdg L v d) (O : Own H L) : Dp K H v d := Da.dp FLe.rfl' _ _ (h H O)
theorem w_eqD (O : Own H L) (h1 : Rdg L x d) (h2 : Rdg L y e) (s1 : small 60 d = true) (s2 : small 60 e = true) (k : Q (.bl (PyData.eqv d e)) H) : zEq K x y H Q :=
  .inr ⟨d, e, h1.dp O, h2.dp O, sh_small s1 (by decide), sh_small s2 (by decide), k⟩
theorem w_neD (O : Own H L) (h1 : Rdg L x d) (h2 : Rdg L y e) (s1 : small 60 d = true) (s2 : small 60 e = true) (k : Q (.bl (!PyData.eqv d e)) H) : zNe K x y H Q :=
  .inr ⟨d, e, h1.dp O, h2.dp O, sh_small s1 (by decide), sh_small s2 (by decide), k⟩
theorem w_eqDT (O : Own H L) (h1 : Rdg L x d) (h2 : Rdg L y e) (s : small 60 d = true) (he : d = e) (k : Q (.bl true) H) : zEq K x y H Q := by
  refine no_implicit_lambda% (@Z.stp _ ?_ (fun key hn => ?_))
  ·
      subst he
      refine w_eqD O h1 h2 s s ?_
      rw [eqv_rfl s]; exact k
  simpa only using Z.stc (Z.Stw.mk 5) hn key
theorem w_neDT (O : Own H L) (h1 : Rdg L x d) (h2 : Rdg L y e) (s : small 60 d = true) (he : d = e) (k : Q (.bl false) H) : zNe K x y H Q := by
  refine no_implicit_lambda% (@Z.stp _ ?_ (fun key hn => ?_))
  ·
      subst he
      refine w_neD O h1 h2 s s ?_
      rw [eqv_rfl s]; exact k
  simpa only using Z.stc (Z.Stw.mk 5) hn key
theorem w_eqDF (O : Own H L) (h1 : Rdg L x d) (h2 : Rdg L y e) (s1 : small 60 d = true) (s2 : small 60 e = true) (he : PyData.eqv d e = false) (k : Q (.bl false) H) : zEq K x y H Q := w_eqD O h1 h2 s1 s2 (by rw [he]; exact k)
theorem w_neDF (O : Own H L) (h1 : Rdg L x d) (h2 : Rdg L y e) (s1 : small 60 d = true) (s2 : small 60 e = true) (he : PyData.eqv d e = false) (k : Q (.bl true) H) : zNe K x y H Q := w_neD O h1 h2 s1 s2 (by rw [he]; exact k)
/-! an item's value: what it reads as tells which one it is -/
theorem rv_int (O : Own H L) (h : ((0, .rv v (.int i)) : Addr × EO) ∈ L) : v = .int i := by
  refine no_implicit_lambda% (@Z.stp _ ?_ (fun key hn => ?_))
  ·
      have k := Rdg.rv h H O
      cases k; rfl
  simpa only using Z.stc (Z.Stw.mk 5) hn key
theorem rv_str {s : Str} (O : Own H L) (h : ((0, .rv v (.str s)) : Addr × EO) ∈ L) : v = .str s := by
  refine no_implicit_lambda% (@Z.stp _ ?_ (fun key hn => ?_))
  ·
      have k := Rdg.rv h H O
      cases k; rfl
  simpa only using Z.stc (Z.Stw.mk 5) hn key
theorem rv_bl {s : Bool} (O : Own H L) (h : ((0, .rv v (.bool s)) : Addr × EO) ∈ L) : v = .bl s := by
  refine no_implicit_lambda% (@Z.stp _ ?_ (fun key hn => ?_))
  ·
      have k := Rdg.rv h H O
      cases k; rfl
  simpa only using Z.stc (Z.Stw.mk 5) hn key
theorem rv_non (O : Own H L) (h : ((0, .rv v .none) : Addr × EO) ∈ L) : v = .non := by
  refine no_implicit_lambda% (@Z.stp _ ?_ (fun key hn => ?_))
  ·
      have k := Rdg.rv h H O
      cases k; rfl
  simpa only using Z.stc (Z.Stw.mk 5) hn key
theorem rv_list (O : Own H L) (h : ((0, .rv v (.list ds)) : Addr × EO) ∈ L) : ∃ a, v = .ref a := by
  refine no_implicit_lambda% (@Z.stp _ ?_ (fun key hn => ?_))
  ·
      have k := Rdg.rv h H O
      cases k; exact ⟨_, rfl⟩
  simpa only using Z.stc (Z.Stw.mk 5) hn key
theorem rv_tup (O : Own H L) (h : ((0, .rv v (.tuple ds)) : Addr × EO) ∈ L) : ∃ a, v = .ref a := by
  refine no_implicit_lambda% (@Z.stp _ ?_ (fun key hn => ?_))
  ·
      have k := Rdg.rv h H O
      cases k; exact ⟨_, rfl⟩
  simpa only using Z.stc (Z.Stw.mk 5) hn key
/-! reading lists and tuples of data -/
theorem LsD.own (h : LsD L a ds) (O : Own H L) : ∃ vs, H a = some (.lst vs) ∧ vs.length = ds.length := by
  refine no_implicit_lambda% (@Z.stp _ ?_ (fun key hn => ?_))
  ·
      obtain ⟨F, O⟩ := O
      obtain ⟨vs, h1, h2⟩ := h F H O
      exact ⟨vs, h1, h2.len⟩
  simpa only using Z.stc (Z.Stw.mk 5) hn key
theorem LsD.at (h : LsD L a ds) (O : Own H L) (e : ds[n]? = some d) : ∃ vs v, H a = some (.lst vs) ∧ vs[n]? = some v ∧ Own H (rvv v d ++ L) := by
  refine no_implicit_lambda% (@Z.stp _ ?_ (fun key hn => ?_))
  ·
      obtain ⟨F, O⟩ := O
      obtain ⟨vs, h1, h2⟩ := h F H O
      obtain ⟨v, h3, h4⟩ := h2.at e
      exact ⟨vs, v, h1, h3, F, O.rv h4⟩
  simpa only using Z.stc (Z.Stw.mk 5) hn key
theorem TpD.at (h : TpD L a ds) (O : Own H L) (e : ds[n]? = some d) : ∃ vs v, H a = some (.tup vs) ∧ vs[n]? = some v ∧ Own H (rvv v d ++ L) := by
  refine no_implicit_lambda% (@Z.stp _ ?_ (fun key hn => ?_))
  ·
      obtain ⟨F, O⟩ := O
      obtain ⟨vs, h1, h2⟩ := h F H O
      obtain ⟨v, h3, h4⟩ := h2.at e
      exact ⟨vs, v, h1, h3, F, O.rv h4⟩
  simpa only using Z.stc (Z.Stw.mk 5) hn key
theorem w_ixD (O : Own H L) (h : LsD L a ds) (h0 : 0 ≤ i) (e : ds[i.toNat]? = some d) (k : ∀ v, Own H (rvv v d ++ L) → Q v H) : rIx K (.ref a) (.int i) H Q := by
  refine no_implicit_lambda% (@Z.stp _ ?_ (fun key hn => ?_))
  ·
      obtain ⟨vs, v, h1, h2, O1⟩ := h.at O e
      obtain ⟨m, rfl⟩ : ∃ m : Nat, i = m := ⟨i.toNat, by omega⟩
      exact .inl ⟨a, _, _, _, rfl, rfl, .of h1, atI_nat (by simpa using h2), k v O1⟩
  simpa only using Z.stc (Z.Stw.mk 5) hn key
theorem w_ixDl (O : Own H L) (h : LsD L a (ds ++ [d])) (k : ∀ v, Own H (rvv v d ++ L) → Q v H) : rIx K (.ref a) (.int (-1)) H Q := by
  refine no_implicit_lambda% (@Z.stp _ ?_ (fun key hn => ?_))
  ·
      obtain ⟨vs, v, h1, h2, O1⟩ := h.at (n := ds.length) (d := d) O (by simp)
      obtain ⟨ws, h3, h4⟩ := h.own O
      rw [h1] at h3
      cases h3
      have hl : vs.length = ds.length + 1 := by rw [h4]; simp
      have e : atI vs (-1) = some v := by
        unfold atI ixN
        rw [if_neg (by decide), if_pos (by omega)]
        show vs[((-1 : Int) + vs.length).toNat]? = some v
        rw [show ((-1 : Int) + vs.length).toNat = ds.length by omega]
        exact h2
      exact .inl ⟨a, _, _, _, rfl, rfl, .of h1, e, k v O1⟩
  simpa only using Z.stc (Z.Stw.mk 5) hn key
theorem w_ixTD (O : Own H L) (h : TpD L a ds) (h0 : 0 ≤ i) (e : ds[i.toNat]? = some d) (k : ∀ v, Own H (rvv v d ++ L) → Q v H) : rIx K (.ref a) (.int i) H Q := by
  refine no_implicit_lambda% (@Z.stp _ ?_ (fun key hn => ?_))
  ·
      obtain ⟨vs, v, h1, h2, O1⟩ := h.at O e
      obtain ⟨m, rfl⟩ : ∃ m : Nat, i = m := ⟨i.toNat, by omega⟩
      exact .inr (.inl ⟨a, _, _, _, rfl, rfl, .of h1, atI_nat (by simpa using h2), k v O1⟩)
  simpa only using Z.stc (Z.Stw.mk 5) hn key
theorem w_lenD (O : Own H L) (h : LsD L a ds) (k : Q (.int ds.length) H) : zLen K [.ref a] H Q := by
  refine no_implicit_lambda% (@Z.stp _ ?_ (fun key hn => ?_))
  ·
      obtain ⟨vs, h1, h2⟩ := h.own O
      exact ⟨_, _, rfl, .inl ⟨_, .of h1, rfl⟩, by rw [h2]; exact k⟩
  simpa only using Z.stc (Z.Stw.mk 5) hn key
theorem w_lenTD (O : Own H L) (h : TpD L a ds) (k : Q (.int ds.length) H) : zLen K [.ref a] H Q := by
  refine no_implicit_lambda% (@Z.stp _ ?_ (fun key hn => ?_))
  ·
      obtain ⟨F, O⟩ := O
      obtain ⟨vs, h1, h2⟩ := h F H O
      exact ⟨_, _, rfl, .inr ⟨_, .of h1, rfl⟩, by rw [h2.len]; exact k⟩
  simpa only using Z.stc (Z.Stw.mk 5) hn key
/-- a new list of frozen parts -/
theorem own_xl {F : Hp} (O : OwnF F H L) (hp : H p = none) (h : DaAll F vs ds) : Own (upd H p (.lst vs)) ([(p, .xl ds)] ++ L) := ⟨F, O.newE hp rfl ⟨O.fresh hp, vs, upd_same, h⟩⟩
theorem w_listD (O : Own H L) (h : LsD L a ds) (k : ∀ p H', Own H' ([(p, .xl ds)] ++ L) → Q (.ref p) H') : zList K [.ref a] H Q := by
  refine no_implicit_lambda% (@Z.stp _ ?_ (fun key hn => ?_))
  ·
      obtain ⟨F, O⟩ := O
      obtain ⟨vs, h1, h2⟩ := h F H O
      exact ⟨a, _, rfl, .inl (.of h1), fun p hp => k p _ (own_xl O hp h2)⟩
  simpa only using Z.stc (Z.Stw.mk 5) hn key
theorem w_listTD (O : Own H L) (h : TpD L a ds) (k : ∀ p H', Own H' ([(p, .xl ds)] ++ L) → Q (.ref p) H') : zList K [.ref a] H Q := by
  refine no_implicit_lambda% (@Z.stp _ ?_ (fun key hn => ?_))
  ·
      obtain ⟨F, O⟩ := O
      obtain ⟨vs, h1, h2⟩ := h F H O
      exact ⟨a, _, rfl, .inr (.of h1), fun p hp => k p _ (own_xl O hp h2)⟩
  simpa only using Z.stc (Z.Stw.mk 5) hn key
theorem w_addD (O : Own H L) (h : LsD L a ds) (h' : LsD L b es) (hl : ds.length + es.length ≤ 16777216) (k : ∀ p H', Own H' ([(p, .xl (ds ++ es))] ++ L) → Q (.ref p) H') : zAdd K (.ref a) (.ref b) H Q := by
  refine no_implicit_lambda% (@Z.stp _ ?_ (fun key hn => ?_))
  ·
      obtain ⟨F, O⟩ := O
      obtain ⟨vs, h1, h2⟩ := h F H O
      obtain ⟨ws, h3, h4⟩ := h' F H O
      exact .inl ⟨vs, ws, h1, h3, by rw [h2.len, h4.len]; exact hl, fun p hp => k p _ (own_xl O hp (h2.app h4))⟩
  simpa only using Z.stc (Z.Stw.mk 5) hn key
def cutD {α : Type} (ds : List α) (lo hi : Option Int) : List α := (ds.drop (HT.sIx ds.length 0 lo)).take (HT.sIx ds.length ds.length hi - HT.sIx ds.length 0 lo)
theorem w_slD {lo hi : Option Int} (O : Own H L) (h : LsD L a ds) (k : ∀ p H', Own H' ([(p, .xl (cutD ds lo hi))] ++ L) → Q (.ref p) H') : zSl K (.ref a) lo hi H Q := by
  refine no_implicit_lambda% (@Z.stp _ ?_ (fun key hn => ?_))
  ·
      obtain ⟨F, O⟩ := O
      obtain ⟨vs, h1, h2⟩ := h F H O
      refine .inl ⟨a, _, rfl, .of h1, fun p hp => k p _ (own_xl O hp ?_)⟩
      unfold cutD cutV
      rw [h2.len]
      exact (h2.drop _).take _
  simpa only using Z.stc (Z.Stw.mk 5) hn key
theorem w_isiLI {T : String} {c : Bool} (O : Own H L) (ha : LsI L a ns) (h : kitB "list" T = some c) (k : Q (.bl c) H) : zIsi K [.ref a, .ty T] H Q :=
  ⟨_, _, _, _, c, rfl, .ty T, .base (.lst (ha _ O)), h, k⟩
theorem w_isiLD {T : String} {c : Bool} (O : Own H L) (ha : LsD L a ds) (h : kitB "list" T = some c) (k : Q (.bl c) H) : zIsi K [.ref a, .ty T] H Q := by
  refine no_implicit_lambda% (@Z.stp _ ?_ (fun key hn => ?_))
  ·
      obtain ⟨vs, h1, _⟩ := ha.own O
      exact ⟨_, _, _, _, c, rfl, .ty T, .base (.lst h1), h, k⟩
  simpa only using Z.stc (Z.Stw.mk 5) hn key
theorem w_isiTD {T : String} {c : Bool} (O : Own H L) (ha : TpD L a ds) (h : kitB "tuple" T = some c) (k : Q (.bl c) H) : zIsi K [.ref a, .ty T] H Q := by
  refine no_implicit_lambda% (@Z.stp _ ?_ (fun key hn => ?_))
  ·
      obtain ⟨F, O⟩ := O
      obtain ⟨vs, h1, h2⟩ := ha F H O
      exact ⟨_, _, _, _, c, rfl, .ty T, .base (.tup h1), h, k⟩
  simpa only using Z.stc (Z.Stw.mk 5) hn key
theorem w_listI (O : Own H L) (ha : LsI L a ns) (k : ∀ p H', Own H' ([(p, .lst (ns.map V.int))] ++ L) → Q (.ref p) H') : zList K [.ref a] H Q := ⟨a, _, rfl, .inl (.of (ha _ O)), w_new O k⟩
/-- l.append(x), x frozen -/
theorem w_appD {L1 : HL} (O : Own H L) (hz : Frz L v d L1) (ha : Pk L1 [(a, .xl ds)] R) (h : ds.length < 16777216) (k : ∀ H', Own H' ([(a, .xl (ds ++ [d]))] ++ R) → Q .non H') : rAppend (.ref a) [v] H Q := by
  refine no_implicit_lambda% (@Z.stp _ ?_ (fun key hn => ?_))
  ·
      obtain ⟨F, O⟩ := O
      obtain ⟨G, _, O1, z⟩ := hz F H [] O
      obtain ⟨I, l, O2⟩ := ha G H [] O1
      have O3 : OwnF I H ([(a, .xl ds)] ++ R) := O2
      obtain ⟨e1, vs, e2, e3⟩ : OkE H I a (.xl ds) := O3.ok (a, .xl ds) List.mem_cons_self
      refine ⟨a, vs, v, rfl, rfl, e2, by rw [e3.len]; exact lineS h, k _ ⟨I, O3.putE rfl rfl fun hF => ⟨hF, _, upd_same, e3.app (.cons (Da.mono l _ _ z) .nil)⟩⟩⟩
  simpa only using Z.stc (Z.Stw.mk 5) hn key
theorem w_tyXL {P : Prop} (O : Own H L) (ha : LsD L a ds) (k : P) : tyV K "list" (.ref a) H ∧ P := by
  refine no_implicit_lambda% (@Z.stp _ ?_ (fun key hn => ?_))
  ·
      obtain ⟨vs, h1, _⟩ := ha.own O
      exact ⟨.inl ⟨rfl, _, .of h1⟩, k⟩
  simpa only using Z.stc (Z.Stw.mk 5) hn key
/-- targets that are tuples of data -/
theorem TpD.own2 {d1 d2 : PyData} (h : TpD L a [d1, d2]) (O : Own H L) : ∃ v1 v2, H a = some (.tup [v1, v2]) ∧ Own H (rvv v1 d1 ++ (rvv v2 d2 ++ L)) := by
  refine no_implicit_lambda% (@Z.stp _ ?_ (fun key hn => ?_))
  ·
      obtain ⟨F, O⟩ := O
      obtain ⟨vs, h1, h2⟩ := h F H O
      cases h2 with
      | cons q1 r => cases r with
        | cons q2 r => cases r; exact ⟨_, _, h1, F, (O.rv q2).rv q1⟩
  simpa only using Z.stc (Z.Stw.mk 5) hn key
theorem TpD.own3 {d1 d2 d3 : PyData} (h : TpD L a [d1, d2, d3]) (O : Own H L) : ∃ v1 v2 v3, H a = some (.tup [v1, v2, v3]) ∧ Own H (rvv v1 d1 ++ (rvv v2 d2 ++ (rvv v3 d3 ++ L))) := by
  refine no_implicit_lambda% (@Z.stp _ ?_ (fun key hn => ?_))
  ·
      obtain ⟨F, O⟩ := O
      obtain ⟨vs, h1, h2⟩ := h F H O
      cases h2 with
      | cons q1 r => cases r with
        | cons q2 r => cases r with
          | cons q3 r => cases r; exact ⟨_, _, _, h1, F, ((O.rv q3).rv q2).rv q1⟩
  simpa only using Z.stc (Z.Stw.mk 5) hn key
theorem TpD.own4 {d1 d2 d3 d4 : PyData} (h : TpD L a [d1, d2, d3, d4]) (O : Own H L) : ∃ v1 v2 v3 v4, H a = some (.tup [v1, v2, v3, v4]) ∧ Own H (rvv v1 d1 ++ (rvv v2 d2 ++ (rvv v3 d3 ++ (rvv v4 d4 ++ L)))) := by
  refine no_implicit_lambda% (@Z.stp _ ?_ (fun key hn => ?_))
  ·
      obtain ⟨F, O⟩ := O
      obtain ⟨vs, h1, h2⟩ := h F H O
      cases h2 with
      | cons q1 r => cases r with
        | cons q2 r => cases r with
          | cons q3 r => cases r with
            | cons q4 r => cases r; exact ⟨_, _, _, _, h1, F, (((O.rv q4).rv q3).rv q2).rv q1⟩
  simpa only using Z.stc (Z.Stw.mk 5) hn key
theorem w_glst {n : Nat} {t : TGs} {xs : List V} {R' : St → Hp → Prop} (O : Own H L) (p : Pk L [(a, .lst xs)] R) (hl : xs.length = n) (k : t xs σ H R') : gLst K n t (.ref a) σ H R' := ⟨a, xs, rfl, .of (O.at1 p), hl, k⟩
theorem w_gt2D {d1 d2 : PyData} {t : TGs} {R' : St → Hp → Prop} (O : Own H L) (h : TpD L a [d1, d2]) (k : ∀ v1 v2, Own H (rvv v1 d1 ++ (rvv v2 d2 ++ L)) → t [v1, v2] σ H R') {n : Nat} (hn : 2 = n) : gTup K n t (.ref a) σ H R' := by
  refine no_implicit_lambda% (@Z.stp _ ?_ (fun key hn => ?_))
  ·
      subst hn
      obtain ⟨v1, v2, h1, O1⟩ := h.own2 O
      exact ⟨a, _, rfl, .of h1, rfl, k _ _ O1⟩
  simpa only using Z.stc (Z.Stw.mk 5) hn key
theorem w_gt3D {d1 d2 d3 : PyData} {t : TGs} {R' : St → Hp → Prop} (O : Own H L) (h : TpD L a [d1, d2, d3]) (k : ∀ v1 v2 v3, Own H (rvv v1 d1 ++ (rvv v2 d2 ++ (rvv v3 d3 ++ L))) → t [v1, v2, v3] σ H R') {n : Nat} (hn : 3 = n) : gTup K n t (.ref a) σ H R' := by
  refine no_implicit_lambda% (@Z.stp _ ?_ (fun key hn => ?_))
  ·
      subst hn
      obtain ⟨v1, v2, v3, h1, O1⟩ := h.own3 O
      exact ⟨a, _, rfl, .of h1, rfl, k _ _ _ O1⟩
  simpa only using Z.stc (Z.Stw.mk 5) hn key
theorem w_gt4D {d1 d2 d3 d4 : PyData} {t : TGs} {R' : St → Hp → Prop} (O : Own H L) (h : TpD L a [d1, d2, d3, d4]) (k : ∀ v1 v2 v3 v4, Own H (rvv v1 d1 ++ (rvv v2 d2 ++ (rvv v3 d3 ++ (rvv v4 d4 ++ L)))) → t [v1, v2, v3, v4] σ H R') {n : Nat} (hn : 4 = n) : gTup K n t (.ref a) σ H R' := by
  refine no_implicit_lambda% (@Z.stp _ ?_ (fun key hn => ?_))
  ·
      subst hn
      obtain ⟨v1, v2, v3, v4, h1, O1⟩ := h.own4 O
      exact ⟨a, _, rfl, .of h1, rfl, k _ _ _ _ O1⟩
  simpa only using Z.stc (Z.Stw.mk 5) hn key
/-! loops over frozen lists -/
theorem LsD.lv (h : ((0, .rv (.ref a) (.list ds)) : Addr × EO) ∈ L) (O : Own H L) : ∃ vs, vs.length = ds.length ∧ Own H ([(a, .lv vs ds)] ++ L) := by
  refine no_implicit_lambda% (@Z.stp _ ?_ (fun key hn => ?_))
  ·
      obtain ⟨F, O⟩ := O
      have k : Da F (.ref a) (.list ds) := O.ok _ h
      cases k with
      | lst q r => exact ⟨_, r.len, F, O.le, O.nd, fun e m => by
          rcases List.mem_cons.mp (show e ∈ (a, EO.lv _ ds) :: L from m) with z | m
          · subst z; exact ⟨q, r⟩
          · exact O.ok e m⟩
  simpa only using Z.stc (Z.Stw.mk 5) hn key
theorem lv_at (h : ((a, .lv vs ds) : Addr × EO) ∈ L) (O : Own H L) : H a = some (.lst vs) := by
  refine no_implicit_lambda% (@Z.stp _ ?_ (fun key hn => ?_))
  ·
      obtain ⟨F, O⟩ := O
      have k : OkE H F a (.lv vs ds) := O.ok _ h
      exact O.le _ _ k.1
  simpa only using Z.stc (Z.Stw.mk 5) hn key
theorem lv_item {j : Nat} (h : ((a, .lv vs ds) : Addr × EO) ∈ L) (O : Own H L) (e : vs[j]? = some v) (e2 : ds[j]? = some d) : Own H (rvv v d ++ L) := by
  refine no_implicit_lambda% (@Z.stp _ ?_ (fun key hn => ?_))
  ·
      obtain ⟨F, O⟩ := O
      have k : OkE H F a (.lv vs ds) := O.ok _ h
      obtain ⟨w, h1, h2⟩ := k.2.at e2
      rw [e] at h1
      cases h1
      exact ⟨F, O.rv h2⟩
  simpa only using Z.stc (Z.Stw.mk 5) hn key
theorem w_forLV {g : TG} {tb : TS} {nx : St → Hp → Prop} {rt : VK} (hlen : vs.length = ds.length) (Pv : Nat → St → Hp → Prop) (h0 : Pv 0 σ H) (hl : ∀ i σ H, Pv i σ H → ∃ L, Own H L ∧ ((a, .lv vs ds) : Addr × EO) ∈ L)
    (hs : ∀ i d v σ H, ds[i]? = some d → Pv i σ H → (∀ L, Own H L → ((a, .lv vs ds) : Addr × EO) ∈ L → Own H (rvv v d ++ L)) → g v σ H fun σ2 H2 => tb ⟨Pv (i + 1), rt, nx, Pv (i + 1)⟩ σ2 H2) (hd : ∀ σ H, Pv ds.length σ H → nx σ H) : ForR (Itl K a) g tb nx rt σ H := by
  refine no_implicit_lambda% (@Z.stp _ ?_ (fun key hn => ?_))
  ·
      refine w_forL (xs := vs) Pv h0 (fun i σ H _ p => ?_) (fun i x σ H hx p => ?_) (fun σ H p => hd σ H (by rw [hlen] at p; exact p))
      · obtain ⟨L, O, m⟩ := hl i σ H p
        exact .of (lv_at m O)
      · have hi : i < ds.length := by
          have := (List.getElem?_eq_some_iff.mp hx).1
          omega
        exact hs i _ x σ H (List.getElem?_eq_getElem hi) p fun L O m => lv_item m O hx (List.getElem?_eq_getElem hi)
  simpa only using Z.stc (Z.Stw.mk 5) hn key
theorem w_itD {R' : It → Hp → Prop} (O : Own H L) (h : LsD L a ds) (k : R' (Itl K a) H) : IsL K (.ref a) R' H := by
  refine no_implicit_lambda% (@Z.stp _ ?_ (fun key hn => ?_))
  ·
      obtain ⟨vs, h1, _⟩ := h.own O
      exact ⟨a, rfl, ⟨vs, .of h1⟩, k⟩
  simpa only using Z.stc (Z.Stw.mk 5) hn key
theorem w_itI {R' : It → Hp → Prop} (O : Own H L) (h : LsI L a ns) (k : R' (Itl K a) H) : IsL K (.ref a) R' H := ⟨a, rfl, ⟨_, .of (h _ O)⟩, k⟩
end

/-! ### comprehensions over data -/
section
variable {K : PySem.W.Frag} {σ : St} {H : Hp} {L R : HL} {Q : VK} {a p : Addr} {vs : List V} {v : V} {d : PyData} {ds es : List PyData} {te : TE} {tt : TT} {g : TG} {is : List Nat}
theorem Own.pers (O : Own H L) {e : Addr × EO} (he : e.2.ex = false) (h : ∀ F, OwnF F H L → OkE H F e.1 e.2) : Own H ([e] ++ L) := by
  refine no_implicit_lambda% (@Z.stp _ ?_ (fun key hn => ?_))
  ·
      obtain ⟨F, O⟩ := O
      refine ⟨F, O.le, ?_, fun x m => ?_⟩
      · rw [show (([e] ++ L).filter fun e => e.2.ex) = L.filter fun e => e.2.ex by
          show List.filter _ (e :: L) = _
          rw [List.filter_cons, if_neg (by rw [he]; decide)]]
        exact O.nd
      · rcases List.mem_cons.mp (show x ∈ e :: L from m) with z | m
        · subst z; exact h F O
        · exact O.ok x m
  simpa only using Z.stc (Z.Stw.mk 5) hn key
/-- an owned list of frozen parts, its values by name -/
theorem xl_open (O : Own H L) (h : Pk L [(a, .xl es)] R) : ∃ vs, vs.length = es.length ∧ Own H ([(a, .lst vs)] ++ ([(0, .rvs vs es)] ++ R)) := by
  refine no_implicit_lambda% (@Z.stp _ ?_ (fun key hn => ?_))
  ·
      obtain ⟨F, O⟩ := O.pk h
      obtain ⟨e1, vs, e2, e3⟩ : OkE H F a (.xl es) := O.ok (a, .xl es) List.mem_cons_self
      refine ⟨vs, e3.len, F, O.le, O.nd, fun x m => ?_⟩
      rcases List.mem_cons.mp (show x ∈ (a, EO.lst vs) :: ([(0, EO.rvs vs es)] ++ R) from m) with z | m
      · subst z; exact ⟨e2, e1⟩
      · rcases List.mem_cons.mp (show x ∈ (0, EO.rvs vs es) :: R from m) with z | m
        · subst z; exact e3
        · exact O.ok x (List.mem_cons_of_mem _ m)
  simpa only using Z.stc (Z.Stw.mk 5) hn key
theorem Frzs.rvs (h : ((0, .rvs vs ds) : Addr × EO) ∈ L) : Frzs L vs ds L := fun F H C O => ⟨F, .rfl', O, O.ok (0, .rvs vs ds) (List.mem_append_right _ h)⟩
theorem rvs_item {j : Nat} (h : ((0, .rvs vs ds) : Addr × EO) ∈ L) (O : Own H L) (e : vs[j]? = some v) (e2 : ds[j]? = some d) : Own H (rvv v d ++ L) := by
  refine no_implicit_lambda% (@Z.stp _ ?_ (fun key hn => ?_))
  ·
      obtain ⟨F, O⟩ := O
      have k : DaAll F vs ds := O.ok _ h
      obtain ⟨w, h1, h2⟩ := k.at e2
      rw [e] at h1
      cases h1
      exact ⟨F, O.rv h2⟩
  simpa only using Z.stc (Z.Stw.mk 5) hn key
/-- one more item -/
theorem xl_snoc {y : V} (O : Own H (rvv y d ++ ([(p, .xl ds)] ++ R))) (hl : ds.length < 16777216) : ∃ acc, H p = some (.lst acc) ∧ acc.length < sizeLine ∧ Own (upd H p (.lst (acc ++ [y]))) ([(p, .xl (ds ++ [d]))] ++ R) := by
  refine no_implicit_lambda% (@Z.stp _ ?_ (fun key hn => ?_))
  ·
      obtain ⟨F, O⟩ := O
      have hy : Da F y d := O.ok (0, .rv y d) List.mem_cons_self
      have O2 := O.right
      obtain ⟨e1, vs, e2, e3⟩ : OkE H F p (.xl ds) := O2.ok (p, .xl ds) List.mem_cons_self
      exact ⟨vs, e2, by rw [e3.len]; exact lineS hl, F, O2.putE rfl rfl fun hF => ⟨hF, _, upd_same, e3.app (.cons hy .nil)⟩⟩
  simpa only using Z.stc (Z.Stw.mk 5) hn key
theorem w_lcX {f : PyData → PyData} (O : Own H L) (h : Pk L [(a, .xl es)] R) (hl : es.length ≤ 16777216)
    (hs : ∀ vs i d v D H' (Qe : VK), es[i]? = some d → Own H' (rvv v d ++ ([(D, .xl ((es.take i).map f))] ++ ([(a, .lst vs)] ++ ([(0, .rvs vs es)] ++ R)))) →
      (∀ y H4, Own H4 (rvv y (f d) ++ ([(D, .xl ((es.take i).map f))] ++ ([(a, .lst vs)] ++ ([(0, .rvs vs es)] ++ R)))) → Qe y H4) → ∀ Nx : Hp → Prop, g v (wipe σ is) H' fun σ2 H2 => wipe σ2 is = wipe σ is ∧ tt σ2 H2 fun b H3 => if b = true then te σ2 H3 Qe else Nx H3)
    (k : ∀ D H', Own H' ([(D, .xl (es.map f))] ++ ([(a, .xl es)] ++ R)) → Q (.ref D) H') : LcR (Itl K a) g tt te is σ H Q := by
  refine no_implicit_lambda% (@Z.stp _ ?_ (fun key hn => ?_))
  ·
      intro D hD
      obtain ⟨vs, hlen, O⟩ := xl_open O h
      have O0 : Own (upd H D (.lst [])) ([(D, .xl [])] ++ ([(a, .lst vs)] ++ ([(0, .rvs vs es)] ++ R))) := by
        obtain ⟨F, O⟩ := O
        exact own_xl O hD .nil
      refine lc_list (K := K) (a := a) (xs := vs) (fun i H' => Own H' ([(D, .xl ((es.take i).map f))] ++ ([(a, .lst vs)] ++ ([(0, .rvs vs es)] ++ R)))) O0 (fun i H' _ O' => .of (O'.at1 (Pk.there Pk.here))) (fun i v H' hv O' => ?_) (fun H' O' => ?_)
      · have hi : i < es.length := by
          have := (List.getElem?_eq_some_iff.mp hv).1
          omega
        have he := List.getElem?_eq_getElem hi
        refine hs vs i _ v D H' _ he (rvs_item (mem_there (mem_there mem_here)) O' hv he) (fun y H4 O4 => ?_) _
        obtain ⟨acc, h1, h2, h3⟩ := xl_snoc O4 (by rw [List.length_map, List.length_take]; omega)
        refine ⟨acc, h1, h2, ?_⟩
        rw [take_snoc he, List.map_append]
        exact h3
      · rw [hlen, List.take_length] at O'
        refine k D H' (O'.sub (Sub.frame (Pk.xl (R' := [(0, .rvs vs es)] ++ R) Pk.here (Frzs.rvs mem_here)) |>.trans' ?_))
        exact Sub.frame (Sub.frame Sub.right)
  simpa only using Z.stc (Z.Stw.mk 5) hn key
end
end Z

set_option Elab.async false
set_option linter.all false
set_option maxRecDepth 100000
set_option maxHeartbeats 4000000
namespace Z
open PySem PySem.Spec L2
/-! ### calls whose callee may raise: what is raised is wished for at the caller's slots -/
def tCallE (W : WX) (sp : Sp) (dvs : List V) (t : TA) : TE := fun σ H Q => t σ H fun vs H1 => sp (vs ++ dvs) H1 Q (WE W σ)
def tMethE (W : WX) (C : Addr) (m : Str) (sp : Sp) (dvs : List V) (ta : TE) (t : TA) : TE := fun σ H Q => ta σ H fun x H1 => MethR C m x H1 (t σ H1 fun vs H2 => sp (x :: (vs ++ dvs)) H2 Q (WE W σ))
def tMakeE (W : WX) (C : Addr) (sp : Sp) (dvs : List V) (t : TA) : TE := fun σ H Q => t σ H fun vs H1 => MakeR C sp (fun x => x :: (vs ++ dvs)) (WE W σ) H1 Q
def tCallNE (W : WX) (n m : Nat) (sp : Sp) (l : List Ar) (t tk : TA) : TE := fun σ H Q => t σ H fun vs H1 => tk σ H1 fun zs H2 => LenR n m vs zs (sp (arV l (vs ++ zs)) H2 Q (WE W σ))
def tMethNE (W : WX) (C : Addr) (m : Str) (n k : Nat) (sp : Sp) (l : List Ar) (ta : TE) (t tk : TA) : TE := fun σ H Q => ta σ H fun x H1 => MethR C m x H1 (t σ H1 fun vs H2 => tk σ H2 fun zs H3 => LenR n k vs zs (sp (arV l ((x :: vs) ++ zs)) H3 Q (WE W σ)))
def tMakeNE (W : WX) (C : Addr) (n m : Nat) (sp : Sp) (l : List Ar) (t tk : TA) : TE := fun σ H Q => t σ H fun vs H1 => tk σ H1 fun zs H2 => LenR n m vs zs (MakeR C sp (fun x => arV l ((x :: vs) ++ zs)) (WE W σ) H2 Q)
section
variable {X : Cx} {CX : CXT} {k n : Nat} {f C : Addr} {fd : FuncData} {ps ks : List Str} {sp : Sp} {dvs : List V} {ds : List Value} {E : XK} {x m : Str} {g : List Value → List Value → List Value} {gV : List V → List V → List V}
theorem run_fnNS {pins : List (Addr × Obj)} {σ : St} {H : Hp} {s : Shared} {Q : VK} {us ws : List Value} {vs zs : List V} (F : FnOk X.prog X.w X.K X.mg X.base CX k f fd ps sp) (hr : Room k X.A) (hb : KBn X.K fd ps n ks g gV) (hx : PassesAt CX X σ E)
    (I : Inv X pins σ H s) (r : Vals vs us) (rz : Vals zs ws) (l1 : vs.length = n) (l2 : zs.length = ks.length) (h : sp (gV vs zs) H Q E) : wpAny (model X.prog X.w) X.A (call (.ref f) us (ks.zip ws)) (EP X pins σ Q) X.xe s := by
  refine no_implicit_lambda% (@Z.stp _ ?_ (fun key hn => ?_))
  ·
      have r2 := hb.rel r rz
      refine wpAny_call (codeAny_mono (F.run X.A X.stack s H ⟨us, ks.zip ws⟩ (g us ws) (gV vs zs) Q E hr I.env0 (hb.to s us ws I.kIn (r.length.symm.trans l1) (rz.length.symm.trans l2)) r2 h) fun r s' hq => ?_)
      cases r with
      | error e => exact hx pins H s e s' I hq
      | ok fl =>
        cases fl with
        | ret u => exact I.after hq
        | next => exact False.elim hq
        | brk => exact False.elim hq
        | cont => exact False.elim hq
  simpa only using Z.stc (Z.Stw.mk 5) hn key
theorem run_makeS {pins : List (Addr × Obj)} {σ : St} {H : Hp} {s : Shared} {Q : VK} {us : List Value} {vs : List V} (M : Mk X.K C f) (F : FnOk X.prog X.w X.K X.mg X.base CX k f fd ps sp) (hr : Room (k + 1) X.A) (hb : Binds X.K fd ps ds) (hd : Vals dvs ds)
    (hx : PassesAt CX X σ E) (I : Inv X pins σ H s) (r : Vals vs us)
    (h : ∀ x dx, H x = none → H dx = none → dx ≠ x → sp (.ref x :: (vs ++ dvs)) (upd (upd H dx (.own x)) x (.ins C dx [])) (fun v H2 => v = .non ∧ Q (.ref x) H2) E) :
    wpAny (model X.prog X.w) X.A (call (.ref C) us) (EP X pins σ Q) X.xe s := by
  refine no_implicit_lambda% (@Z.stp _ ?_ (fun key hn => ?_))
  ·
      have hq := h (s.heap.objs.size + 1) s.heap.objs.size (I.hok.fresh (Nat.le_succ _)) (I.hok.fresh (Nat.le_refl _)) (Nat.ne_of_lt (Nat.lt_succ_self _))
      have I2 := Inv.made (C := C) I
      have r2 : Vals (V.ref (s.heap.objs.size + 1) :: (vs ++ dvs)) (Value.ref (s.heap.objs.size + 1) :: (us ++ ds)) := .cons rfl (r.append hd)
      have hl : (Value.ref (s.heap.objs.size + 1) :: us ++ ds).length = ps.length := by
        have e := r2.length
        rw [F.len _ _ _ _ hq] at e
        exact e.symm
      refine wpAny_call (make_map (f := f) I.kIn M.makes M.init (beq_iff_eq.mp M.fn) (codeAny_mono (F.run _ X.stack _ _ ⟨Value.ref (s.heap.objs.size + 1) :: us, []⟩ (Value.ref (s.heap.objs.size + 1) :: (us ++ ds)) _ _ E (hr.make C us [])
        (I2.env0.make C us []) (hb _ (Value.ref (s.heap.objs.size + 1) :: us) I2.kIn hl) r2 hq) fun r s' hq' => ?_))
      cases r with
      | error e => exact hx pins _ _ e s' I2 hq'
      | ok fl =>
        cases fl with
        | ret u =>
          obtain ⟨v, H', I3, rv, ev, q3⟩ := I2.after hq'
          subst ev
          exact ⟨rv, ⟨V.ref (s.heap.objs.size + 1), H', I3, rfl, q3⟩⟩
        | next => exact False.elim hq'
        | brk => exact False.elim hq'
        | cont => exact False.elim hq'
  simpa only using Z.stc (Z.Stw.mk 5) hn key
theorem run_makeKS {pins : List (Addr × Obj)} {σ : St} {H : Hp} {s : Shared} {Q : VK} {us ws : List Value} {vs zs : List V} (M : Mk X.K C f) (F : FnOk X.prog X.w X.K X.mg X.base CX k f fd ps sp) (hr : Room (k + 1) X.A) (hb : KBn X.K fd ps (n + 1) ks g gV) (hx : PassesAt CX X σ E)
    (I : Inv X pins σ H s) (r : Vals vs us) (rz : Vals zs ws) (l1 : vs.length = n) (l2 : zs.length = ks.length)
    (h : ∀ x dx, H x = none → H dx = none → dx ≠ x → sp (gV (.ref x :: vs) zs) (upd (upd H dx (.own x)) x (.ins C dx [])) (fun v H2 => v = .non ∧ Q (.ref x) H2) E) :
    wpAny (model X.prog X.w) X.A (call (.ref C) us (ks.zip ws)) (EP X pins σ Q) X.xe s := by
  refine no_implicit_lambda% (@Z.stp _ ?_ (fun key hn => ?_))
  ·
      have hq := h (s.heap.objs.size + 1) s.heap.objs.size (I.hok.fresh (Nat.le_succ _)) (I.hok.fresh (Nat.le_refl _)) (Nat.ne_of_lt (Nat.lt_succ_self _))
      have I2 := Inv.made (C := C) I
      have r1 : Vals (V.ref (s.heap.objs.size + 1) :: vs) (Value.ref (s.heap.objs.size + 1) :: us) := .cons rfl r
      have r2 := hb.rel r1 rz
      have n1 : (Value.ref (s.heap.objs.size + 1) :: us).length = n + 1 := by
        rw [List.length_cons, ← r.length, l1]
      refine wpAny_call (make_map (f := f) I.kIn M.makes M.init (beq_iff_eq.mp M.fn) (codeAny_mono (F.run _ X.stack _ _ ⟨Value.ref (s.heap.objs.size + 1) :: us, ks.zip ws⟩ (g (Value.ref (s.heap.objs.size + 1) :: us) ws) _ _ E (hr.make C us (ks.zip ws))
        (I2.env0.make C us (ks.zip ws)) (hb.to _ (Value.ref (s.heap.objs.size + 1) :: us) ws I2.kIn n1 (rz.length.symm.trans l2)) r2 hq) fun r s' hq' => ?_))
      cases r with
      | error e => exact hx pins _ _ e s' I2 hq'
      | ok fl =>
        cases fl with
        | ret u =>
          obtain ⟨v, H', I3, rv, ev, q3⟩ := I2.after hq'
          subst ev
          exact ⟨rv, ⟨V.ref (s.heap.objs.size + 1), H', I3, rfl, q3⟩⟩
        | next => exact False.elim hq'
        | brk => exact False.elim hq'
        | cont => exact False.elim hq'
  simpa only using Z.stc (Z.Stw.mk 5) hn key
end
section
variable {X : Cx} {W : WX} {j k n : Nat} {C : Addr} {x m : Str} {sp : Sp} {dvs : List V} {p pos apos : Pos} {e o : Expr} {es : List Expr} {t tk : TA} {ta te : TE} {ks : List Str} {l : List Ar} {kws : List Keyword}
theorem pe_cE (kx : Takes X W) (c : Cal X.prog X.w X.K X.mg X.base k x sp dvs) (hr : Room j X.A) (hk : k ≤ j) (hg : Gl X x) (ha : PA X (e :: es) t)
    (hdb : (x == ("__debug__" : Str)) = false := by decide) (he : starEach (e :: es) X.env = (false, eval e X.env) :: starEach es X.env := by rfl) (hpl : (backTo pos (starEach es X.env)).any (·.1) = false := by rfl) :
    PE X (.Call (.Name x p) (e :: es) [] pos) (tCallE W sp dvs t) := by
  obtain ⟨f, fd, ps, ds, F, hm, kp, b, d⟩ := c.ex
  exact pe_callSD F (hr.mono hk) hg hm kp b d (fun σ => passAt kx σ) ha hdb he hpl
theorem pe_cE0 (kx : Takes X W) (c : Cal X.prog X.w X.K X.mg X.base k x sp dvs) (hr : Room j X.A) (hk : k ≤ j) (hg : Gl X x) (hdb : (x == ("__debug__" : Str)) = false := by decide) :
    PE X (.Call (.Name x p) [] [] pos) (tCallE W sp dvs tNil) := by
  obtain ⟨f, fd, ps, ds, F, hm, kp, b, d⟩ := c.ex
  refine ⟨fun pins s σ H Q I h => ?_⟩
  refine wpAny_Call_Name_kw (ld_glob I hg hm ?_ hdb)
  exact PySem.W.callWith_K0 I.kIn kp (run_fnSD (us := []) (E := fun σ => WE W σ) F (hr.mono hk) b d (passAt kx σ) I .nil h)
theorem pe_mE {pl : Sem Bool} (kx : Takes X W) (c : Met X.prog X.w X.K X.mg X.base k C m sp dvs) (hr : Room j X.A) (hk : k ≤ j) (he : PE X o ta) (ha : PA X (e :: es) t)
    (hst : starEach (e :: es) X.env = (false, eval e X.env) :: starEach es X.env := by rfl) (hpl : (backTo pos (starEach es X.env)).any (·.1) = false := by rfl)
    (ht : eval (.Call (.Attribute o m apos) (e :: es) [] pos) X.env = (do
      let ov ← eval o X.env
      standAt apos.atName
      let (f, first) ← holding [ov] (getMethod ov m pl)
      callWith pos f first (backTo pos (starEach (e :: es) X.env)) (backToKw pos (keywordEach [] X.env))) := by rfl) :
    PE X (.Call (.Attribute o m apos) (e :: es) [] pos) (tMethE W C m sp dvs ta t) := by
  obtain ⟨f, fd, ps, ds, c1, hm, F, b, d⟩ := c.ex
  refine ⟨fun pins s σ H Q I h => ?_⟩
  refine PySem.W.methodCall_KW (pl := pl) (thn (he.run pins s σ H _ I h) fun u s1 ⟨x, H1, I1, rx, a, dx, fs, ex, ea, l, q⟩ => ?_) ht
  subst ex
  obtain rfl : u = Value.ref a := rx
  refine getmeth_ok I1 ea c1 hm l ?_
  refine PySem.W.callWith_K (first := [.ref a]) (h₀ := X.base) I.ok.mod.kin hm.kp (thn (ha.run pos pins s1 σ H1 _ I1 q) fun us s2 ⟨vs, H2, I2, r, q2⟩ => ⟨I2.kIn, ?_⟩) hst hpl
  exact run_fnSD (us := .ref a :: us) (vs := .ref a :: vs) (E := fun σ => WE W σ) F (hr.mono hk) b d (passAt kx σ) I2 (.cons rfl r) q2
theorem pe_mE0 {pl : Sem Bool} (kx : Takes X W) (c : Met X.prog X.w X.K X.mg X.base k C m sp dvs) (hr : Room j X.A) (hk : k ≤ j) (he : PE X o ta)
    (ht : eval (.Call (.Attribute o m apos) [] [] pos) X.env = (do
      let ov ← eval o X.env
      standAt apos.atName
      let (f, first) ← holding [ov] (getMethod ov m pl)
      callWith pos f first (backTo pos (starEach [] X.env)) (backToKw pos (keywordEach [] X.env))) := by rfl) :
    PE X (.Call (.Attribute o m apos) [] [] pos) (tMethE W C m sp dvs ta tNil) := by
  obtain ⟨f, fd, ps, ds, c1, hm, F, b, d⟩ := c.ex
  refine ⟨fun pins s σ H Q I h => ?_⟩
  refine PySem.W.methodCall_KW (pl := pl) (thn (he.run pins s σ H _ I h) fun u s1 ⟨x, H1, I1, rx, a, dx, fs, ex, ea, l, q⟩ => ?_) ht
  subst ex
  obtain rfl : u = Value.ref a := rx
  refine getmeth_ok I1 ea c1 hm l ?_
  exact PySem.W.callWith_K0 (first := [.ref a]) I1.kIn hm.kp (run_fnSD (us := [.ref a]) (vs := [.ref a]) (E := fun σ => WE W σ) F (hr.mono hk) b d (passAt kx σ) I1 (.cons rfl .nil) q)
theorem pe_kE (kx : Takes X W) (c : Mak X.prog X.w X.K X.mg X.base k x C sp dvs) (hr : Room j X.A) (hk : k + 1 ≤ j) (hg : Gl X x) (ha : PA X (e :: es) t)
    (hdb : (x == ("__debug__" : Str)) = false := by decide) (he : starEach (e :: es) X.env = (false, eval e X.env) :: starEach es X.env := by rfl) (hpl : (backTo pos (starEach es X.env)).any (·.1) = false := by rfl) :
    PE X (.Call (.Name x p) (e :: es) [] pos) (tMakeE W C sp dvs t) := by
  obtain ⟨f, fd, ps, ds, M, F, hm, b, d⟩ := c.ex
  refine ⟨fun pins s σ H Q I h => ?_⟩
  refine wpAny_Call_Name_kw (ld_glob I hg hm ?_ hdb)
  refine PySem.W.callWith_K (h₀ := X.base) I.ok.mod.kin M.kp (thn (ha.run pos pins s σ H _ I h) fun us s1 ⟨vs, H1, I1, r, q⟩ => ⟨I1.kIn, ?_⟩) he hpl
  exact run_makeS M F (hr.mono hk) b d (passAt kx σ) I1 r q
theorem pe_kE0 (kx : Takes X W) (c : Mak X.prog X.w X.K X.mg X.base k x C sp dvs) (hr : Room j X.A) (hk : k + 1 ≤ j) (hg : Gl X x) (hdb : (x == ("__debug__" : Str)) = false := by decide) :
    PE X (.Call (.Name x p) [] [] pos) (tMakeE W C sp dvs tNil) := by
  obtain ⟨f, fd, ps, ds, M, F, hm, b, d⟩ := c.ex
  refine ⟨fun pins s σ H Q I h => ?_⟩
  refine wpAny_Call_Name_kw (ld_glob I hg hm ?_ hdb)
  exact PySem.W.callWith_K0 I.kIn M.kp (run_makeS (us := []) (vs := []) M F (hr.mono hk) b d (passAt kx σ) I .nil h)
theorem pe_cNE (kx : Takes X W) (c : KCal X.prog X.w X.K X.mg X.base k x sp n ks l) (hr : Room j X.A) (hk : k ≤ j) (hg : Gl X x) (ha : PA X (e :: es) t) (hkw : PK X kws tk)
    (hall : (backToKw pos (keywordEach kws X.env)).all (·.1.isSome) = true := by rfl) (hks : (backToKw pos (keywordEach kws X.env)).filterMap (·.1) = ks := by rfl) (hdb : (x == ("__debug__" : Str)) = false := by decide)
    (he : starEach (e :: es) X.env = (false, eval e X.env) :: starEach es X.env := by rfl) (hpl : ((backTo pos (starEach (e :: es) X.env)).any (·.1) || (backToKw pos (keywordEach kws X.env)).any (·.1.isNone)) = false := by rfl) :
    PE X (.Call (.Name x p) (e :: es) kws pos) (tCallNE W n ks.length sp l t tk) := by
  obtain ⟨f, fd, ps, F, hm, kp, b⟩ := c.ex
  obtain ⟨g, b⟩ := b.kbn
  refine ⟨fun pins s σ H Q I h => ?_⟩
  refine wpAny_Call_Name_kw (ld_glob I hg hm ?_ hdb)
  refine PySem.W.callWith_KW (h₀ := X.base) I.ok.mod.kin kp hall (thn (ha.run pos pins s σ H _ I h) fun us s1 ⟨vs, H1, I1, r, q⟩ => ?_) hpl he
  refine thn (hkw.run pos pins s1 σ H1 _ I1 q) fun ws s2 ⟨zs, H2, I2, rz, l1, l2, q2⟩ => ⟨I2.kIn, ?_⟩
  rw [hks]
  exact run_fnNS F (hr.mono hk) b (passAt kx σ) I2 r rz l1 l2 q2
theorem pe_mNE {pl : Sem Bool} (kx : Takes X W) (c : KMet X.prog X.w X.K X.mg X.base k C m sp n ks l) (hr : Room j X.A) (hk : k ≤ j) (he : PE X o ta) (ha : PA X (e :: es) t) (hkw : PK X kws tk)
    (hall : (backToKw pos (keywordEach kws X.env)).all (·.1.isSome) = true := by rfl) (hks : (backToKw pos (keywordEach kws X.env)).filterMap (·.1) = ks := by rfl) (hst : starEach (e :: es) X.env = (false, eval e X.env) :: starEach es X.env := by rfl)
    (hpl : ((backTo pos (starEach (e :: es) X.env)).any (·.1) || (backToKw pos (keywordEach kws X.env)).any (·.1.isNone)) = false := by rfl)
    (ht : eval (.Call (.Attribute o m apos) (e :: es) kws pos) X.env = (do
      let ov ← eval o X.env
      standAt apos.atName
      let (f, first) ← holding [ov] (getMethod ov m pl)
      callWith pos f first (backTo pos (starEach (e :: es) X.env)) (backToKw pos (keywordEach kws X.env))) := by rfl) :
    PE X (.Call (.Attribute o m apos) (e :: es) kws pos) (tMethNE W C m n ks.length sp l ta t tk) := by
  obtain ⟨f, fd, ps, c1, hm, F, b⟩ := c.ex
  obtain ⟨g, hb⟩ := b.kbn
  refine ⟨fun pins s σ H Q I h => ?_⟩
  refine PySem.W.methodCall_KW (pl := pl) (thn (he.run pins s σ H _ I h) fun u s1 ⟨x, H1, I1, rx, a, dx, fs, ex, ea, l, q⟩ => ?_) ht
  subst ex
  obtain rfl : u = Value.ref a := rx
  refine getmeth_ok I1 ea c1 hm l ?_
  refine PySem.W.callWith_KW (first := [.ref a]) (h₀ := X.base) I.ok.mod.kin hm.kp hall (thn (ha.run pos pins s1 σ H1 _ I1 q) fun us s2 ⟨vs, H2, I2, r, q2⟩ => ?_) hpl hst
  refine thn (hkw.run pos pins s2 σ H2 _ I2 q2) fun ws s3 ⟨zs, H3, I3, rz, l1, l2, q3⟩ => ⟨I3.kIn, ?_⟩
  rw [hks]
  exact run_fnNS (us := .ref a :: us) (vs := .ref a :: vs) F (hr.mono hk) hb (passAt kx σ) I3 (.cons rfl r) rz (congrArg Nat.succ l1) l2 q3
theorem pe_kNE (kx : Takes X W) (c : KMak X.prog X.w X.K X.mg X.base k x C sp n ks l) (hr : Room j X.A) (hk : k + 1 ≤ j) (hg : Gl X x) (ha : PA X (e :: es) t) (hkw : PK X kws tk)
    (hall : (backToKw pos (keywordEach kws X.env)).all (·.1.isSome) = true := by rfl) (hks : (backToKw pos (keywordEach kws X.env)).filterMap (·.1) = ks := by rfl) (hdb : (x == ("__debug__" : Str)) = false := by decide)
    (he : starEach (e :: es) X.env = (false, eval e X.env) :: starEach es X.env := by rfl) (hpl : ((backTo pos (starEach (e :: es) X.env)).any (·.1) || (backToKw pos (keywordEach kws X.env)).any (·.1.isNone)) = false := by rfl) :
    PE X (.Call (.Name x p) (e :: es) kws pos) (tMakeNE W C n ks.length sp l t tk) := by
  obtain ⟨f, fd, ps, M, F, hm, b⟩ := c.ex
  obtain ⟨g, b⟩ := b.kbn
  refine ⟨fun pins s σ H Q I h => ?_⟩
  refine wpAny_Call_Name_kw (ld_glob I hg hm ?_ hdb)
  refine PySem.W.callWith_KW (h₀ := X.base) I.ok.mod.kin M.kp hall (thn (ha.run pos pins s σ H _ I h) fun us s1 ⟨vs, H1, I1, r, q⟩ => ?_) hpl he
  refine thn (hkw.run pos pins s1 σ H1 _ I1 q) fun ws s2 ⟨zs, H2, I2, rz, l1, l2, q2⟩ => ⟨I2.kIn, ?_⟩
  rw [hks]
  exact run_makeKS M F (hr.mono hk) b (passAt kx σ) I2 r rz l1 l2 q2
theorem pe_kNE0 (kx : Takes X W) (c : KMak X.prog X.w X.K X.mg X.base k x C sp 0 ks l) (hr : Room j X.A) (hk : k + 1 ≤ j) (hg : Gl X x) (hkw : PK X kws tk)
    (hall : (backToKw pos (keywordEach kws X.env)).all (·.1.isSome) = true := by rfl) (hks : (backToKw pos (keywordEach kws X.env)).filterMap (·.1) = ks := by rfl) (hdb : (x == ("__debug__" : Str)) = false := by decide)
    (hpl : ((backTo pos (starEach [] X.env)).any (·.1) || (backToKw pos (keywordEach kws X.env)).any (·.1.isNone)) = false := by rfl) :
    PE X (.Call (.Name x p) [] kws pos) (tMakeNE W C 0 ks.length sp l tNil tk) := by
  obtain ⟨f, fd, ps, M, F, hm, b⟩ := c.ex
  obtain ⟨g, b⟩ := b.kbn
  refine ⟨fun pins s σ H Q I h => ?_⟩
  refine wpAny_Call_Name_kw (ld_glob I hg hm ?_ hdb)
  refine PySem.W.callWith_KW0 (h₀ := X.base) I.ok.mod.kin M.kp hall ?_ hpl
  refine thn (hkw.run pos pins s σ H _ I h) fun ws s2 ⟨zs, H2, I2, rz, l1, l2, q2⟩ => ⟨I2.kIn, ?_⟩
  rw [hks]
  exact run_makeKS (us := []) (vs := []) M F (hr.mono hk) b (passAt kx σ) I2 .nil rz rfl l2 q2
end
section
variable {K : PySem.W.Frag} {W : WX} {σ : St} {H : Hp} {Q : VK} {C : Addr} {m : Str} {n k : Nat} {sp : Sp} {dvs : List V} {l : List Ar} {ta : TE} {t tk : TA}
theorem w_callE (h : t σ H fun vs H1 => sp (vs ++ dvs) H1 Q (WE W σ)) : tCallE W sp dvs t σ H Q := h
theorem w_methE (h : ta σ H fun x H1 => MethR C m x H1 (t σ H1 fun vs H2 => sp (x :: (vs ++ dvs)) H2 Q (WE W σ))) : tMethE W C m sp dvs ta t σ H Q := h
theorem w_makeE (h : t σ H fun vs H1 => MakeR C sp (fun x => x :: (vs ++ dvs)) (WE W σ) H1 Q) : tMakeE W C sp dvs t σ H Q := h
theorem w_callNE (h : t σ H fun vs H1 => tk σ H1 fun zs H2 => LenR n k vs zs (sp (arV l (vs ++ zs)) H2 Q (WE W σ))) : tCallNE W n k sp l t tk σ H Q := h
theorem w_methNE (h : ta σ H fun x H1 => MethR C m x H1 (t σ H1 fun vs H2 => tk σ H2 fun zs H3 => LenR n k vs zs (sp (arV l ((x :: vs) ++ zs)) H3 Q (WE W σ)))) : tMethNE W C m n k sp l ta t tk σ H Q := h
theorem w_makeNE (h : t σ H fun vs H1 => tk σ H1 fun zs H2 => LenR n k vs zs (MakeR C sp (fun x => arV l ((x :: vs) ++ zs)) (WE W σ) H2 Q)) : tMakeNE W C n k sp l t tk σ H Q := h
end
/-! ### what is raised -/
theorem pmk_own0 {X : Cx} {C : Addr} {bmB : List Value} {B newId initId : String} {x : Str} {p pos : Pos} (F : PySem.ExcBaseFacts B newId initId bmB) (q : PySem.W.excIn X.K C bmB newId = true) (gC : X.mg x = some (.ref C)) (kC : PySem.W.keepIn X.K (.ref C) = true) (r : Raises X (.ref C)) (hg : Gl X x)
    (hdb : (x == ("__debug__" : Str)) = false := by decide) : PMk X (.Call (.Name x p) [] [] pos) (fun _ H Q => Q (.ref C) none H) := by
  intro pins s σ H Q I h
  refine wpAny_Call_Name_kw (ld_glob I hg gC ?_ hdb)
  refine PySem.W.callWith_K0 I.kIn kC ?_
  obtain ⟨bm, N, nm, qn, bs, hdct, sn, sub, ab, col, dd, k0, k1, k2, k3, k5, mN, hC, hN, hni, T⟩ := exc_obj I.kIn q
  refine wpAny_call_exc_subT F T hC hN hni (fun h' e hm => ?_) (Nat.zero_le _)
  exact mk_of I hm r h (I.hok.gone hm.new)
/-- an own exception class without an __init__ of its own -/
structure Ex0 (K : PySem.W.Frag) (mg : Str → Option Value) (x : Str) : Prop where
  g : mg x = some (.ref (He.ga K x))
  ex : PySem.W.excIn K (He.ga K x) He.veBase "ValueError.__new__" = true
  kp : PySem.W.keepIn K (.ref (He.ga K x)) = true
  sb : PySem.W.subIn K (.ref (He.ga K x)) (.type "BaseException") = some true
  ty : PySem.W.typeIn K (.ref (He.ga K x)) = some (.type "type")
def tRz0 (W : WX) (C : Addr) : TS := fun _ σ H => W (.ref C) none σ H
theorem ps_rz0 {X : Cx} {W : WX} {x : Str} {p pos pos2 : Pos} (kx : Takes X W) (c : Ex0 X.K X.mg x) (hc : X.calm = true) (hg : Gl X x) (hdb : (x == ("__debug__" : Str)) = false := by decide) :
    PS X (.Raise (some (.Call (.Name x p) [] [] pos)) none pos2) (tRz0 W (He.ga X.K x)) :=
  ps_raise hc kx (pmk_own0 PySem.F.excBase_ValueError c.ex c.g c.kp (raises_own c.sb c.ty) hg hdb)
/-- .. with an __init__ that keeps its values by their names -/
def spExi (K : PySem.W.Frag) (fs : List Str) : Sp := fun vs H Q _ => ∃ (a C : Addr) (ws : List V), vs = .ref a :: ws ∧ ws.length = fs.length ∧ OexC K C ∧ (∀ f ∈ fs, PySem.W.findIn K (.ref C) f = some none) ∧ H a = some (exo a C none) ∧
  ∀ dx H', H dx = none → dx ≠ a → H' a = some (exo a C (some dx)) → H' dx = some (exd dx (fs.zip ws).reverse) → (∀ b, b ≠ a → b ≠ dx → H' b = H b) → Q .non H'
def RzR (fs : List Str) (us : List V) (H : Hp) (R : Addr → Hp → Prop) : Prop := us.length = fs.length ∧ us.length ≤ 900 ∧ ∀ d, H d = none → R d (upd H d (.xd (fs.zip us).reverse))
def tRz (W : WX) (C : Addr) (fs : List Str) (dvs : List V) (ta : TA) : TS := fun _ σ H => ta σ H fun vs H1 => RzR fs (vs ++ dvs) H1 fun d H2 => W (.ref C) (some d) σ H2
structure Ex1 (P : Program) (w : World) (K : PySem.W.Frag) (mg : Str → Option Value) (base : Heap) (k : Nat) (x : Str) (fs : List Str) (dvs : List V) : Prop where
  ex : ∃ (f : Addr) (fd : FuncData) (ps : List Str) (ds : List Value), mg x = some (.ref (He.ga K x)) ∧ OexC K (He.ga K x) ∧ (∀ f ∈ fs, PySem.W.findIn K (.ref (He.ga K x)) f = some none) ∧ PySem.W.findIn K (.ref (He.ga K x)) "__init__" = some (some (.ref f)) ∧ PySem.W.typeIn K (.ref f) = some (.type "function") ∧
    FnOk P w K mg base (L2.CX P w) k f fd ps (spExi K fs) ∧ Binds K fd ps ds ∧ Vals dvs ds 
theorem passF {X : Cx} : Passes (L2.CX X.prog X.w) X (fun _ _ _ => False) := fun _ _ _ _ _ _ _ ⟨_, _, _, _, _, _, _, _, _, _, _, _, w⟩ => w.elim
/-- a reading that may be weakened -/
def tUp (t : TA) : TA := fun σ H Q => ∃ Q' : List V → Hp → Prop, t σ H Q' ∧ ∀ vs H1, Q' vs H1 → Q vs H1
theorem pa_up {X : Cx} {es : List Expr} {t : TA} (h : PA X es t) : PA X es (tUp t) := ⟨fun pos pins s σ H Q I ⟨Q', h1, h2⟩ => thn (h.run pos pins s σ H Q' I h1) fun us s1 ⟨vs, H1, I1, r, q⟩ => ⟨vs, H1, I1, r, h2 _ _ q⟩⟩
theorem upd_exc {H1 H' : Hp} {a dx : Addr} {o : HO} (hn : H1 a = none) (ne : dx ≠ a) (k : ∀ b, b ≠ a → b ≠ dx → H' b = H1 b) : upd (del H' a) dx o = upd H1 dx o := by
  refine no_implicit_lambda% (@Z.stp _ ?_ (fun key hn => ?_))
  ·
      funext b
      by_cases hb : b = dx
      · rw [hb, upd_same, upd_same]
      · rw [upd_ne hb, upd_ne hb]
        by_cases ha : b = a
        · rw [ha, del_same, hn]
        · rw [del_ne ha, k b ha hb]
  simpa only using Z.stc (Z.Stw.mk 5) hn key
theorem ps_rz {X : Cx} {W : WX} {j k : Nat} {x : Str} {fs : List Str} {dvs : List V} {ta : TA} {e : Expr} {es : List Expr} {p pos pos2 : Pos} (kx : Takes X W) (c : Ex1 X.prog X.w X.K X.mg X.base k x fs dvs) (hr : Room j X.A) (hk : k + 1 ≤ j) (hc : X.calm = true) (hg : Gl X x) (ha : PA X (e :: es) ta)
    (hdb : (x == ("__debug__" : Str)) = false := by decide) (he : starEach (e :: es) X.env = (false, eval e X.env) :: starEach es X.env := by rfl) (hpl : (backTo pos (starEach es X.env)).any (·.1) = false := by rfl) :
    PS X (.Raise (some (.Call (.Name x p) (e :: es) [] pos)) none pos2) (tRz W (He.ga X.K x) fs dvs ta) := by
  obtain ⟨f, fd, ps, ds, hm, T, hn, iC, tI, F, b, d⟩ := c.ex
  have R := ps_raise (pos := pos2) hc kx (pmk_oex (pos := pos) (p := p) T iC tI F (hr.mono hk) b d passF hg hm (pa_up ha) hdb he hpl)
  refine ⟨fun pins s σ H D I h => R.run pins s σ H D I ?_⟩
  refine ⟨_, h, fun vs H1 hh => ?_⟩
  obtain ⟨h1, h2, h3⟩ := hh
  refine ⟨by rw [List.length_append] at h2; omega, fun a ha' => ?_⟩
  refine ⟨a, He.ga X.K x, vs ++ dvs, rfl, h1, T, hn, upd_same, fun dx H' n1 ne e1 e2 k => ⟨rfl, dx, _, e1, e2, ?_, ?_⟩⟩
  · rw [upd_ne ne] at n1; exact n1
  · rw [upd_ne ne] at n1
    rw [upd_exc ha' ne fun b h4 h5 => by rw [k b h4 h5, upd_ne h4]]
    exact h3 dx n1
theorem w_rz {W : WX} {C : Addr} {fs : List Str} {dvs : List V} {ta : TA} {D : Ends} {σ : St} {H : Hp} (h : ta σ H fun vs H1 => RzR fs (vs ++ dvs) H1 fun d H2 => W (.ref C) (some d) σ H2) : tRz W C fs dvs ta D σ H := h
theorem w_rz0 {W : WX} {C : Addr} {D : Ends} {σ : St} {H : Hp} (h : W (.ref C) none σ H) : tRz0 W C D σ H := h
theorem w_rzA {fs : List Str} {vs dvs us : List V} {H : Hp} {R : Addr → Hp → Prop} (e : App vs dvs us) (h : RzR fs us H R) : RzR fs (vs ++ dvs) H R := by rw [e.eq]; exact h
theorem w_rz1 {f1 : Str} {v1 : V} {H : Hp} {L : HL} {R : Addr → Hp → Prop} (O : Own H L) (k : ∀ d H', Own H' ([(d, .xd [(f1, v1)])] ++ L) → R d H') : RzR [f1] [v1] H R := ⟨rfl, (by show 1 ≤ 900; decide), fun d hd => k d _ (O.new hd)⟩
theorem w_rz2 {f1 f2 : Str} {v1 v2 : V} {H : Hp} {L : HL} {R : Addr → Hp → Prop} (O : Own H L) (k : ∀ d H', Own H' ([(d, .xd [(f2, v2), (f1, v1)])] ++ L) → R d H') : RzR [f1, f2] [v1, v2] H R := ⟨rfl, (by show 2 ≤ 900; decide), fun d hd => k d _ (O.new hd)⟩
theorem w_rzR {fs : List Str} {us ws : List V} {H : Hp} {L : HL} {R : Addr → Hp → Prop} (O : Own H L) (e : us = ws) (h1 : ws.length = fs.length) (h2 : ws.length ≤ 900) (k : ∀ d H', Own H' ([(d, .xd (fs.zip ws).reverse)] ++ L) → R d H') : RzR fs us H R := by
  refine no_implicit_lambda% (@Z.stp _ ?_ (fun key hn => ?_))
  ·
      subst e
      exact ⟨h1, h2, fun d hd => k d _ (O.new hd)⟩
  simpa only using Z.stc (Z.Stw.mk 5) hn key
/-! the __init__ of such a class -/
theorem exi_len {K : PySem.W.Frag} {fs : List Str} {vs : List V} {H : Hp} {Q : VK} {E : XK} (h : spExi K fs vs H Q E) : vs.length = fs.length + 1 := by
  refine no_implicit_lambda% (@Z.stp _ ?_ (fun key hn => ?_))
  ·
      obtain ⟨a, C, ws, rfl, h, _⟩ := h
      rw [List.length_cons, h]
  simpa only using Z.stc (Z.Stw.mk 5) hn key
theorem exi1 {K : PySem.W.Frag} {f1 : Str} {vs : List V} {H : Hp} {Q : VK} {E : XK} (h : spExi K [f1] vs H Q E) : tSeq (tOst K f1 (tVar 0) (tVar 1)) tNext ⟨fun _ H' => Q .non H', Q, fun _ _ => False, fun _ _ => False⟩ (start ["a", "b"] vs) H := by
  refine no_implicit_lambda% (@Z.stp _ ?_ (fun key hn => ?_))
  ·
      obtain ⟨a, C, ws, rfl, hl, T, hn, ha, k⟩ := h
      obtain ⟨w1, rfl⟩ : ∃ w1, ws = [w1] := by
        match ws, hl with
        | [w1], _ => exact ⟨_, rfl⟩
      refine ⟨w1, rfl, .ref a, rfl, a, C, rfl, T, hn f1 (by simp), .inl ⟨ha, fun dx h1 h2 => ?_⟩⟩
      exact k dx _ h1 h2 upd_same (by rw [upd_ne h2, upd_same]; rfl) fun b h3 h4 => by rw [upd_ne h3, upd_ne h4]
  simpa only using Z.stc (Z.Stw.mk 5) hn key
theorem exi2 {K : PySem.W.Frag} {f1 f2 : Str} {vs : List V} {H : Hp} {Q : VK} {E : XK} (h : spExi K [f1, f2] vs H Q E) : tSeq (tOst K f1 (tVar 0) (tVar 1)) (tSeq (tOst K f2 (tVar 0) (tVar 2)) tNext) ⟨fun _ H' => Q .non H', Q, fun _ _ => False, fun _ _ => False⟩ (start ["a", "b", "c"] vs) H := by
  refine no_implicit_lambda% (@Z.stp _ ?_ (fun key hn => ?_))
  ·
      obtain ⟨a, C, ws, rfl, hl, T, hn, ha, k⟩ := h
      obtain ⟨w1, w2, rfl⟩ : ∃ w1 w2, ws = [w1, w2] := by
        match ws, hl with
        | [w1, w2], _ => exact ⟨_, _, rfl⟩
      refine ⟨w1, rfl, .ref a, rfl, a, C, rfl, T, hn f1 (by simp), .inl ⟨ha, fun dx h1 h2 => ?_⟩⟩
      refine ⟨w2, rfl, .ref a, rfl, a, C, rfl, T, hn f2 (by simp), .inr ⟨dx, _, upd_same, (by rw [upd_ne h2, upd_same]), (by show 1 ≤ 900; decide), ?_⟩⟩
      exact k dx _ h1 h2 (by rw [upd_ne h2.symm, upd_same]) (by rw [upd_same]; rfl) fun b h3 h4 => by rw [upd_ne h4, upd_ne h3, upd_ne h4]
  simpa only using Z.stc (Z.Stw.mk 5) hn key
/-! ### try .. except with several clauses, with or without a name -/
/-- ends behind a suite whose name is at slot i -/
def endsAs (i : Option Nat) (D : Ends) : Ends := match i with
  | none => D
  | some i => { nx := fun σ' H' => D.nx (σ'.set i none) H', rt := D.rt, bk := fun σ' H' => D.bk (σ'.set i none) H', ct := fun σ' H' => D.ct (σ'.set i none) H' }
def slotAs (i : Option Nat) (a : Addr) (σ : St) : St := match i with
  | none => σ
  | some i => σ.set i (some (.ref a))
def wZ (K : PySem.W.Frag) (Wout : WX) (D : Ends) : List (Option Nat × Value × (Addr → Value → Option Addr → TS)) → WX
  | [] => Wout
  | (i, c, ts) :: r => fun cls d σ H => ∃ b, PySem.W.exmOne K cls c = some b ∧ (b = true → ∀ a, H a = none → ts a cls d (endsAs i D) (slotAs i a σ) H) ∧ (b = false → wZ K Wout D r cls d σ H)
inductive HdsZ (X : Cx) : List ExceptHandler → List (Option Nat × Value × (Addr → Value → Option Addr → TS)) → Prop
  | nil : HdsZ X [] []
  | only {x : Str} {c : Value} {ts : Addr → Value → Option Addr → TS} {b₀ : Stmt} {suite : List Stmt} {np pos' : Pos} {hds : List ExceptHandler} {l : List (Option Nat × Value × (Addr → Value → Option Addr → TS))} (hc : Names X x c)
      (hsu : ∀ (a : Addr) (oe : Obj) (cls : Value) (d : Option Addr) (pn : List (Addr × Obj)), Zc cls d oe → (∃ vs, oe.data = .fields vs) → PSs (X.suite a ((a, oe) :: pn)) (b₀ :: suite) (ts a cls d)) (r : HdsZ X hds l) :
      HdsZ X (.ExceptHandler (some (.Name x np)) none (b₀ :: suite) pos' :: hds) ((none, c, ts) :: l)
  | as {x n : Str} {i : Nat} {c : Value} {ts : Addr → Value → Option Addr → TS} {b₀ : Stmt} {suite : List Stmt} {np pos' : Pos} {hds : List ExceptHandler} {l : List (Option Nat × Value × (Addr → Value → Option Addr → TS))} (hi : X.N[i]? = some n) (hln : X.env.kindOf n = some .local) (hc : Names X x c)
      (hsu : ∀ (a : Addr) (oe : Obj) (cls : Value) (d : Option Addr) (pn : List (Addr × Obj)), Zc cls d oe → (∃ vs, oe.data = .fields vs) → PSs (X.suite a ((a, oe) :: pn)) (b₀ :: suite) (ts a cls d)) (r : HdsZ X hds l) :
      HdsZ X (.ExceptHandler (some (.Name x np)) (some n) (b₀ :: suite) pos' :: hds) ((some i, c, ts) :: l)
section
variable {X : Cx} {body : List Stmt} {h₀ : ExceptHandler} {hds : List ExceptHandler} {l : List (Option Nat × Value × (Addr → Value → Option Addr → TS))} {pos : Pos} {tb : WX → TS} {Wout : WX}
theorem ps_tryZ (hN : X.N.Nodup) (hs : X.stack = X.env :: X.outer) (hf : X.env.frame = some X.env.locals) (tk : Takes X Wout)
    (hb : ∀ (W : WX) (pn : List (Addr × Obj)) (xe : Value → Shared → Prop), Takes (X.tr pn xe) W → PassesOwn (model X.prog X.w) X.A X.env xe → PSs (X.tr pn xe) body (tb W))
    (hh : HdsZ X (h₀ :: hds) l) : PS X (.Try body (h₀ :: hds) [] [] pos) (fun D σ H => tb (wZ X.K Wout D l) D σ H) := by
  refine no_implicit_lambda% (@Z.stp _ ?_ (fun key hn => ?_))
  ·
      refine ⟨fun pins s σ H D I h => ?_⟩
      have ok := I.ok
      have hfr : X.A.frames = some (X.env :: X.outer) := by rw [ok.frames, hs]
      refine wpAny_Try_except ?_
      refine wpAny_mono ((hb (wZ X.K Wout D l) (X.pn ++ pins) (fun e s₁ => wpAny (model X.prog X.w) X.A (noteFrame e X.env) (fun _ s₂ => wpAny (model X.prog X.w) X.A (setFlight e none) (fun _ s₃ =>
        wpAny (model X.prog X.w) X.A (handleBy e X.env (h₀ :: hds)) (SP X pins D) X.xe s₃) X.xe s₂) X.xe s₁) (fun u s' xx => ?_) PassesOwn.looking).run [] s σ H D (I.toTry _) h) (fun f s1 hsp => ?_) (fun e s1 he => he)
      · -- the catch
        obtain ⟨a, B, sI, pins', σ', H', cls, d, rfl, J', nb, up, sky, na, os, ag, w⟩ := xx
        have J : Inv X pins σ' H' sI := J'.ofTry ok
        have sky' : Sky B (X.env :: X.outer) a (Zc cls d) X.env.locals s'.heap := by rw [← hs]; exact sky
        show wpAny (model X.prog X.w) X.A (noteFrame (.ref a) X.env) _ _ _
        refine Sky.land Zc.steady hfr hf sky' fun h3 fl3 up3 => ?_
        have J3 : Inv X pins σ' H' { s' with heap := h3 } := J.landed nb fl3.1 (up.trans up3) os ag
        obtain ⟨oe3, vs3, he3, hz3, hd3⟩ := fl3.there
        have notFr : ∀ {h : Heap} {o : Obj} {vs : Array Value}, h.FunFrames B (X.env :: X.outer) → h.get? a = some o → o.data = .fields vs → a ∉ frs (X.env :: X.outer) := fun {h o vs} ff e dd hm => by
          obtain ⟨_, o', e', hnf⟩ := ff.mem hm
          rw [e] at e'; cases e'
          exact hnf _ dd
        have nfr := notFr fl3.2.2.1 he3 hd3
        have nL : a ≠ X.env.locals := fun z => nfr (List.mem_filterMap.mpr ⟨X.env, List.mem_cons_self, by rw [hf, z]⟩)
        have nF : a ∉ X.fs := fun hm => by
          obtain ⟨e, he, q⟩ := List.mem_filterMap.mp hm
          exact nfr (List.mem_filterMap.mpr ⟨e, List.mem_cons_of_mem _ he, q⟩)
        have S3 := J3.suite he3 hd3 na nL nF
        have go : ∀ {hds' : List ExceptHandler} {l' : List (Option Nat × Value × (Addr → Value → Option Addr → TS))}, HdsZ X hds' l' → wZ X.K Wout D l' cls d σ' H' →
            wpAny (model X.prog X.w) X.A (handleBy (.ref a) X.env hds') (SP X pins D) X.xe { s' with heap := h3 } := by
          intro hds' l' hk
          induction hk with
          | nil =>
            intro w
            refine wpAny_handleBy_nil ?_
            obtain ⟨k1, k2, k3, oe, vs, T, oT, ts', he, hz, hd, h1, hr⟩ := id fl3
            unfold PySem.passOn
            refine wpAny_bind (wpAny_field he hd h1 ?_)
            rw [if_neg (show ¬ ((Value.ref T == Value.none) = true) from by simp)]
            have fin : wpAny (model X.prog X.w) X.A (setFlight (.ref a) X.env.frame) (fun _ s4 => wpAny (model X.prog X.w) X.A (throw (.ref a) : Sem Flow) (SP X pins D) X.xe s4) X.xe { s' with heap := h3 } := by
              rw [hf]
              refine HandSPX.setFlight_upZ fl3 fun h4 hh4 up4 => wpAny_throw (tk _ _ ?_)
              exact ⟨a, B, sI, pins, σ', H', cls, d, rfl, J, nb, (up.trans up3).trans up4, .inr (.inr (by rw [hs]; exact hh4)), na, os, ag, w⟩
            first
              | exact wpAny_bind (wpAny_pure (wpAny_bind fin))
              | exact wpAny_bind fin
          | @only x c ts b₀ suite np pos' hds2 l2 hc hsu r ih =>
            intro w
            obtain ⟨b, hb1, hyes, hno⟩ := w
            refine wpAny_handleBy_cons (codeAny_handlers_test ?_) (by intro q; cases q)
            have LT : PySem.W.Looks (model X.prog X.w) h3 (typeOf (.ref a)) cls := fun A Q E s k q => wpAny_typeOf_ref (k _ _ he3) (by rw [hz3.1]; exact q)
            have LM := PySem.W.exm_one (M := model X.prog X.w) (J3.kIn) LT hb1
            have test : ∀ {Q : Value → Shared → Prop} {E : Value → Shared → Prop}, Q c { s' with heap := h3 } → wpAny (model X.prog X.w) (X.A.mark (some (.ref a))) (eval (.Name x np) X.env) Q E { s' with heap := h3 } := fun {Q E} q => by
              obtain ⟨hg, hdbg, hm | ⟨hm, hv, hnn⟩⟩ := hc
              · exact ld_glob (X := X.suite a ((a, oe3) :: (X.pn ++ pins))) S3 hg hm q hdbg
              · exact ld_blt (X := X.suite a ((a, oe3) :: (X.pn ++ pins))) S3 hg hm hv q hnn hdbg
            refine test (LM.here ?_)
            cases b with
            | true =>
              refine codeAny_handlers_suite ?_
              refine HandSPX.lands_againZ fl3 fun h4 fl4 up4 => ?_
              have J4 : Inv X pins σ' H' { s' with heap := h4 } := J.landed nb fl4.1 ((up.trans up3).trans up4) os ag
              obtain ⟨oe4, vs4, he4, hz4, hd4⟩ := fl4.there
              have S4 := J4.suite he4 hd4 na nL nF
              refine wpAny_mono ((hsu a oe4 cls d (X.pn ++ pins) hz4 ⟨_, hd4⟩).run [] _ _ H' _ S4 (hyes rfl a na)) (fun f s6 hsp => ?_) (fun _ _ z => False.elim z)
              cases f with
              | next =>
                obtain ⟨σ6, H6, S6, q6⟩ := hsp
                exact ⟨_, _, S6.unsuite ok, q6⟩
              | brk =>
                obtain ⟨σ6, H6, S6, q6⟩ := hsp
                exact ⟨_, _, S6.unsuite ok, q6⟩
              | cont =>
                obtain ⟨σ6, H6, S6, q6⟩ := hsp
                exact ⟨_, _, S6.unsuite ok, q6⟩
              | ret u =>
                obtain ⟨v6, σ6, H6, S6, r6, q6⟩ := hsp
                exact ⟨_, _, _, S6.unsuite ok, r6, q6⟩
            | false =>
              show wpAny _ X.A (handleBy (.ref a) X.env hds2) _ _ _
              exact ih (hno rfl)
          | @as x n i c ts b₀ suite np pos' hds2 l2 hi hln hc hsu r ih =>
            intro w
            obtain ⟨b, hb1, hyes, hno⟩ := w
            have hloc : Loc X.env.scope n := .inl hln
            refine wpAny_handleBy_cons (codeAny_handlers_test ?_) (by intro q; cases q)
            have LT : PySem.W.Looks (model X.prog X.w) h3 (typeOf (.ref a)) cls := fun A Q E s k q => wpAny_typeOf_ref (k _ _ he3) (by rw [hz3.1]; exact q)
            have LM := PySem.W.exm_one (M := model X.prog X.w) (J3.kIn) LT hb1
            have test : ∀ {Q : Value → Shared → Prop} {E : Value → Shared → Prop}, Q c { s' with heap := h3 } → wpAny (model X.prog X.w) (X.A.mark (some (.ref a))) (eval (.Name x np) X.env) Q E { s' with heap := h3 } := fun {Q E} q => by
              obtain ⟨hg, hdbg, hm | ⟨hm, hv, hnn⟩⟩ := hc
              · exact ld_glob (X := X.suite a ((a, oe3) :: (X.pn ++ pins))) S3 hg hm q hdbg
              · exact ld_blt (X := X.suite a ((a, oe3) :: (X.pn ++ pins))) S3 hg hm hv q hnn hdbg
            refine test (LM.here ?_)
            cases b with
            | true =>
              refine codeAny_handlers_suite_as ?_
              refine HandSPX.lands_againZ fl3 fun h4 fl4 up4 => ?_
              have J4 : Inv X pins σ' H' { s' with heap := h4 } := J.landed nb fl4.1 ((up.trans up3).trans up4) os ag
              obtain ⟨oe4, vs4, he4, hz4, hd4⟩ := fl4.there
              have S4 := J4.suite he4 hd4 na nL nF
              refine store_ok (X := X.suite a ((a, oe4) :: (X.pn ++ pins))) (v := .ref a) S4 hN hi hloc rfl (fun s5 S5 => ?_) (.inr hln)
              refine wpAny_mono ((hsu a oe4 cls d (X.pn ++ pins) hz4 ⟨_, hd4⟩).run [] s5 _ H' _ S5 (hyes rfl a na)) (fun f s6 hsp => ?_) (fun _ _ z => False.elim z)
              have end_ : ∀ {σ6 : St} {H6 : Hp} {Q : Shared → Prop}, Inv (X.suite a ((a, oe4) :: (X.pn ++ pins))) [] σ6 H6 s6 → (∀ s7, Inv X pins (σ6.set i none) H6 s7 → Q s7) →
                  wpAny (model X.prog X.w) X.A (do bindName X.env n .none; unbindBehindTheSuite X.env n pos') (fun _ s7 => Q s7) X.xe s6 := fun {σ6 H6 Q} S6 hq => gone_ok (S6.unsuite ok) hN hi hln hq
              cases f with
              | next =>
                obtain ⟨σ6, H6, S6, q6⟩ := hsp
                exact end_ S6 fun s7 J7 => ⟨_, _, J7, q6⟩
              | brk =>
                obtain ⟨σ6, H6, S6, q6⟩ := hsp
                exact end_ S6 fun s7 J7 => ⟨_, _, J7, q6⟩
              | cont =>
                obtain ⟨σ6, H6, S6, q6⟩ := hsp
                exact end_ S6 fun s7 J7 => ⟨_, _, J7, q6⟩
              | ret u =>
                obtain ⟨v6, σ6, H6, S6, r6, q6⟩ := hsp
                exact end_ S6 fun s7 J7 => ⟨_, _, _, J7, r6, q6⟩
            | false =>
              show wpAny _ X.A (handleBy (.ref a) X.env hds2) _ _ _
              exact ih (hno rfl)
        exact go hh w
      · cases f with
        | next =>
          obtain ⟨σ', H', J', q⟩ := hsp
          exact wpAny_execs_nil ⟨σ', H', J'.ofTry ok, q⟩
        | brk =>
          obtain ⟨σ', H', J', q⟩ := hsp
          exact ⟨σ', H', J'.ofTry ok, q⟩
        | cont =>
          obtain ⟨σ', H', J', q⟩ := hsp
          exact ⟨σ', H', J'.ofTry ok, q⟩
        | ret u =>
          obtain ⟨v, σ', H', J', r, q⟩ := hsp
          exact ⟨v, σ', H', J'.ofTry ok, r, q⟩
  simpa only using Z.stc (Z.Stw.mk 5) hn key
end
def tTryZ (K : PySem.W.Frag) (Wout : WX) (l : List (Option Nat × Value × (Addr → Value → Option Addr → TS))) (tb : WX → TS) : TS := fun D σ H => tb (wZ K Wout D l) D σ H
theorem ps_tryZ2 {X : Cx} {body : List Stmt} {h₀ : ExceptHandler} {hds : List ExceptHandler} {l : List (Option Nat × Value × (Addr → Value → Option Addr → TS))} {pos : Pos} {tb : WX → TS} {Wout : WX} (hN : X.N.Nodup) (hs : X.stack = X.env :: X.outer) (hf : X.env.frame = some X.env.locals) (tk : Takes X Wout)
    (hb : ∀ (W : WX) (pn : List (Addr × Obj)) (xe : Value → Shared → Prop), Takes (X.tr pn xe) W → PassesOwn (model X.prog X.w) X.A X.env xe → PSs (X.tr pn xe) body (tb W))
    (hh : HdsZ X (h₀ :: hds) l) : PS X (.Try body (h₀ :: hds) [] [] pos) (tTryZ X.K Wout l tb) := ps_tryZ hN hs hf tk hb hh
section
variable {K : PySem.W.Frag} {Wout W : WX} {l : List (Option Nat × Value × (Addr → Value → Option Addr → TS))} {tb : WX → TS} {D : Ends} {σ : St} {H : Hp} {cls : Value} {d : Option Addr} {i : Option Nat} {c : Value} {ts : Addr → Value → Option Addr → TS} {b : Bool} {a : Addr}
theorem w_try (h : tb (wZ K Wout D l) D σ H) : tTryZ K Wout l tb D σ H := h
theorem w_we (h : W cls d σ H) : WE W σ cls d H := h
theorem w_zT (e : PySem.W.exmOne K cls c = some true) (h : ∀ a, H a = none → ts a cls d (endsAs i D) (slotAs i a σ) H) : wZ K Wout D ((i, c, ts) :: l) cls d σ H := ⟨true, e, (fun _ => h), (fun z => nomatch z)⟩
theorem w_zF (e : PySem.W.exmOne K cls c = some false) (h : wZ K Wout D l cls d σ H) : wZ K Wout D ((i, c, ts) :: l) cls d σ H := ⟨false, e, (fun z => nomatch z), fun _ => h⟩
theorem w_zN (h : Wout cls d σ H) : wZ K Wout D [] cls d σ H := h
end
/-! ### in a suite: the error's fields, its class -/
structure XfR (K : PySem.W.Frag) (C : Addr) : Prop where
  x : XfC K C
def tXfz (a : Addr) (cls : Value) (d : Option Addr) (C : Addr) (f : Str) (te : TE) : TE := tXf a cls d C f te
theorem w_xf {a C : Addr} {cls : Value} {d : Option Addr} {f : Str} {te : TE} {σ : St} {H : Hp} {Q : VK} (h : te σ H fun x H1 => x = .ref a ∧ cls = .ref C ∧ ∃ (dd : Addr) (fs : List (Str × V)) (v : V), d = some dd ∧ H1 dd = some (.xd fs) ∧ fs.lookup f = some v ∧ Q v H1) : tXf a cls d C f te σ H Q := h
theorem w_xfR {a C d : Addr} {f : Str} {v : V} {fs : List (Str × V)} {L R : HL} {H : Hp} {Q : VK} (O : Own H L) (p : Pk L [(d, .xd fs)] R) (g : FGet fs f v) (k : Q v H) :
    V.ref a = V.ref a ∧ Value.ref C = Value.ref C ∧ ∃ (dd : Addr) (fs : List (Str × V)) (v : V), some d = some dd ∧ H dd = some (.xd fs) ∧ fs.lookup f = some v ∧ Q v H := ⟨rfl, rfl, d, fs, v, rfl, O.at1 p, g.get, k⟩
/-! ### the head with facts of our own -/
def asE (g : Addr → Option Obj) (n : Nat) : List Addr := He.asD g n ++ [cStatics]
def obsE (n : Nat) (fa : List He.Fa) (fn : List He.DefD) (ex : PySem.W.Frag → Bool) (g : Addr → Option Obj) : He.AlD × Bool := (He.obsD fa fn (He.frG g (asE g n)), ex (He.frG g (asE g n)))
structure SaysE (fa : List He.Fa) (fn : List He.DefD) (ex : PySem.W.Frag → Bool) (K : PySem.W.Frag) : Prop where
  d : He.SaysD fa fn K
  more : ex K = true
def hookE (n : Nat) (fa : List He.Fa) (fn : List He.DefD) (ex : PySem.W.Frag → Bool) : PySem.W.Hook where
  α := He.AlD × Bool
  obs := fun s => obsE n fa fn ex s.heap.get?
  val := fun _ => (He.valD fn, true)
  says := fun _ h => ∃ K : PySem.W.Frag, K.In h ∧ SaysE fa fn ex K
  of := fun _ _ e => ⟨_, He.frG_in, ⟨congrArg (fun z : He.AlD × Bool => z.1) e, congrArg (fun z : He.AlD × Bool => z.2) e⟩⟩
  keeps := fun _ _ _ ⟨K, hK, c⟩ k => ⟨K, PySem.W.Frag.In.keeps hK k, c⟩
theorem obsE_eq {n : Nat} {fa : List He.Fa} {fn : List He.DefD} {ex : PySem.W.Frag → Bool} {g : Addr → Option Obj} {s : Shared} (h : ∀ a, g a = s.heap.get? a) : obsE n fa fn ex g = (hookE n fa fn ex).obs s := by
  refine no_implicit_lambda% (@Z.stp _ ?_ (fun key hn => ?_))
  ·
      have e : g = s.heap.get? := funext h
      rw [e] <;> rfl
  simpa only using Z.stc (Z.Stw.mk 5) hn key
/-! ### C.m(x, ..): a def read off its class -/
structure UMet (K : PySem.W.Frag) (x m : Str) : Prop where
  rd : PySem.W.readsIn K (He.ga K x) (.type "type") = true
  ga : PySem.W.specialIn K (.ref (He.ga K x)) "__getattribute__" = some (some (.builtin "type.__getattribute__"))
  at_ : PySem.W.findCls K (.ref (He.ga K x)) (.type "type") m = some (.val (.ref (He.ma K (He.ga K x) m)))
def umB (x m : Str) (K : PySem.W.Frag) : Bool := PySem.W.readsIn K (He.ga K x) (.type "type") && ((match PySem.W.specialIn K (.ref (He.ga K x)) "__getattribute__" with
    | some (some (.builtin b)) => decide (b = "type.__getattribute__")
    | _ => false) && (match PySem.W.findCls K (.ref (He.ga K x)) (.type "type") m with
    | some (.val (.ref f)) => decide (f = He.ma K (He.ga K x) m)
    | _ => false))
theorem umB_ok {K : PySem.W.Frag} {x m : Str} (h : umB x m K = true) : UMet K x m := by
  refine no_implicit_lambda% (@Z.stp _ ?_ (fun key hn => ?_))
  ·
      unfold umB at h
      rw [Bool.and_eq_true, Bool.and_eq_true] at h
      obtain ⟨h1, h2, h3⟩ := h
      refine ⟨h1, ?_, ?_⟩
      · split at h2
        · rename_i q
          rw [q, of_decide_eq_true h2]
        · cases h2
      · split at h3
        · rename_i q
          rw [q, of_decide_eq_true h3]
        · cases h3
  simpa only using Z.stc (Z.Stw.mk 5) hn key
structure UCal (P : Program) (w : World) (K : PySem.W.Frag) (mg : Str → Option Value) (base : Heap) (k : Nat) (x m : Str) (sp : Sp) (dvs : List V) : Prop where
  ex : ∃ (fd : FuncData) (ps : List Str) (ds : List Value), FnOk P w K mg base (L2.CX P w) k (He.ma K (He.ga K x) m) fd ps sp ∧ Binds K fd ps ds ∧ Vals dvs ds ∧ PySem.W.keepIn K (.ref (He.ma K (He.ga K x) m)) = true ∧ UMet K x m ∧ mg x = some (.ref (He.ga K x))
section
variable {P : Program} {w : World} {K : PySem.W.Frag} {mg : Str → Option Value} {base : Heap} {k j n : Nat} {x m y qual : Str} {sp : Sp} {st : Stmt} {dvs dvs' : List V} {kws : List (Str × V)} {ps : List Str}
theorem UCal.mono (c : UCal P w K mg base k x m sp dvs) (h : k ≤ j) : UCal P w K mg base j x m sp dvs := by
  refine no_implicit_lambda% (@Z.stp _ ?_ (fun key hn => ?_))
  ·
      obtain ⟨fd, ps, ds, F, r⟩ := c.ex
      exact ⟨fd, ps, ds, F.mono h, r⟩
  simpa only using Z.stc (Z.Stw.mk 5) hn key
theorem ucal_of (u : UMet K x m) (hm : mg x = some (.ref (He.ga K x))) (d : ∃ fd, FunD K y qual (defArgs st) (defBody st) (defScope st) dvs kws (He.ma K (He.ga K x) m) fd)
    (ok : ∀ fd, FunD K y qual (defArgs st) (defBody st) (defScope st) dvs kws (He.ma K (He.ga K x) m) fd → FnOk P w K mg base (L2.CX P w) k (He.ma K (He.ga K x) m) fd ps sp) (bi : ∀ fd, FunD K y qual (defArgs st) (defBody st) (defScope st) dvs kws (He.ma K (He.ga K x) m) fd → ∃ ds, Vals dvs' ds ∧ Binds K fd ps ds) : UCal P w K mg base k x m sp dvs' := by
  refine no_implicit_lambda% (@Z.stp _ ?_ (fun key hn => ?_))
  ·
      obtain ⟨fd, F⟩ := d
      obtain ⟨ds, h1, h2⟩ := bi fd F
      exact ⟨fd, ps, ds, ok fd F, h2, h1, F.kp, u, hm⟩
  simpa only using Z.stc (Z.Stw.mk 5) hn key
end
section
variable {X : Cx} {j k : Nat} {C : Addr} {x m : Str} {sp : Sp} {dvs : List V} {p pos apos : Pos} {e o : Expr} {es : List Expr} {t : TA}
theorem pe_umc {pl : Sem Bool} (c : UCal X.prog X.w X.K X.mg X.base k x m sp dvs) (hr : Room j X.A) (hk : k ≤ j) (hg : Gl X x) (ha : PA X (e :: es) t)
    (hdb : (x == ("__debug__" : Str)) = false := by decide)
    (hst : starEach (e :: es) X.env = (false, eval e X.env) :: starEach es X.env := by rfl) (hpl : (backTo pos (starEach es X.env)).any (·.1) = false := by rfl)
    (ht : eval (.Call (.Attribute (.Name x p) m apos) (e :: es) [] pos) X.env = (do
      let ov ← eval (.Name x p) X.env
      standAt apos.atName
      let (f, first) ← holding [ov] (getMethod ov m pl)
      callWith pos f first (backTo pos (starEach (e :: es) X.env)) (backToKw pos (keywordEach [] X.env))) := by rfl) :
    PE X (.Call (.Attribute (.Name x p) m apos) (e :: es) [] pos) (tCall sp dvs E0 t) := by
  obtain ⟨fd, ps, ds, F, b, d, kp, u, hm⟩ := c.ex
  refine ⟨fun pins s σ H Q I h => ?_⟩
  refine PySem.W.methodCall_KW (pl := pl) (thn ((pe_glob (v := .ref (He.ga X.K x)) hg hm rfl hdb).run pins s σ H (fun v H1 => v = .ref (He.ga X.K x) ∧ t σ H1 fun vs H2 => sp (vs ++ dvs) H2 Q E0) I ⟨rfl, h⟩) fun ov s1 ⟨v, H1, I1, rx, ev, q⟩ => ?_) ht
  subst ev
  obtain rfl : ov = Value.ref (He.ga X.K x) := rx
  refine PySem.W.method_cls I1.kIn u.ga (PySem.W.cls_value I1.kIn u.rd u.at_ rfl ?_)
  have I1' := I1.tok (s1.toks + 1)
  exact PySem.W.callWith_K (h₀ := X.base) I1'.ok.mod.kin kp (thn (ha.run pos pins _ σ H1 _ I1' q) fun us s2 ⟨vs, H2, I2, r, q2⟩ => ⟨I2.kIn, run_fn F (hr.mono hk) b d passL I2 r q2⟩) hst hpl
end

/-! ### facts of exception classes -/
def oexB (x : Str) (K : PySem.W.Frag) : Bool := (match K.lookup (He.ga K x) with
  | some ⟨.type "type", _, .cls cd, sl⟩ => (match cd.mro, sl.toList with
    | .ref C' :: bm, [_, _, _, _, some (.builtin n), _] => C' == He.ga K x && n == "ValueError.__new__" && !cd.hasDel && cd.hasDict && PySem.HandSPX.refsVE bm
    | _, _ => false)
  | _ => false) && (He.eqO (PySem.W.findIn K (.ref (He.ga K x)) "__setattr__") (some (some (.builtin "object.__setattr__"))) && (decide (PySem.W.subIn K (.ref (He.ga K x)) (.type "BaseException") = some true) && (decide (PySem.W.typeIn K (.ref (He.ga K x)) = some (.type "type")) && PySem.W.keepIn K (.ref (He.ga K x)))))
theorem oexB_ok {K : PySem.W.Frag} {x : Str} (h : oexB x K = true) : OexC K (He.ga K x) := by
  refine no_implicit_lambda% (@Z.stp _ ?_ (fun key hn => ?_))
  ·
      obtain ⟨h1, h⟩ := Bool.and_eq_true_iff.mp h
      obtain ⟨h2, h⟩ := Bool.and_eq_true_iff.mp h
      obtain ⟨h3, h⟩ := Bool.and_eq_true_iff.mp h
      obtain ⟨h4, h5⟩ := Bool.and_eq_true_iff.mp h
      refine ⟨?_, He.eqO_ok h2, of_decide_eq_true h3, of_decide_eq_true h4, h5⟩
      split at h1
      · rename_i dd cd sl ho
        split at h1
        · rename_i C' bm k0 k1 k2 k3 n k5 hm hs
          simp only [Bool.and_eq_true, beq_iff_eq, Bool.not_eq_true'] at h1
          obtain ⟨⟨⟨⟨h6, h7⟩, hdel⟩, hd0⟩, ht⟩ := h1
          obtain ⟨nm, bs, mro, ns, qn, hd, sn, sub, ab, col, del⟩ := cd
          dsimp only at hm hdel hd0
          subst hm hdel hd0 h7
          have hsl : sl = #[k0, k1, k2, k3, some (.builtin "ValueError.__new__"), k5] := by
            obtain ⟨l⟩ := sl
            simp only at hs
            rw [hs]
          subst hsl
          rw [h6] at ho
          exact ⟨nm, qn, ns, bs, bm, sn, sub, ab, col, dd, k0, k1, k2, k3, k5, ho, ht⟩
        · cases h1
      · cases h1
  simpa only using Z.stc (Z.Stw.mk 5) hn key
theorem ex0_of {K : PySem.W.Frag} {mg : Str → Option Value} {x : Str} (g : mg x = some (.ref (He.ga K x))) (h : PySem.W.excIn K (He.ga K x) He.veBase "ValueError.__new__" = true ∧ PySem.W.keepIn K (.ref (He.ga K x)) = true ∧ PySem.W.subIn K (.ref (He.ga K x)) (.type "BaseException") = some true ∧
    PySem.W.typeIn K (.ref (He.ga K x)) = some (.type "type")) : Ex0 K mg x := ⟨g, h.1, h.2.1, h.2.2.1, h.2.2.2⟩
theorem Ex1.mono {P : Program} {w : World} {K : PySem.W.Frag} {mg : Str → Option Value} {base : Heap} {k j : Nat} {x : Str} {fs : List Str} {dvs : List V} (c : Ex1 P w K mg base k x fs dvs) (h : k ≤ j) : Ex1 P w K mg base j x fs dvs := by
  refine no_implicit_lambda% (@Z.stp _ ?_ (fun key hn => ?_))
  ·
      obtain ⟨f, fd, ps, ds, h1, h2, h3, h4, h5, F, r⟩ := c.ex
      exact ⟨f, fd, ps, ds, h1, h2, h3, h4, h5, F.mono h, r⟩
  simpa only using Z.stc (Z.Stw.mk 5) hn key
section
variable {P : Program} {w : World} {K : PySem.W.Frag} {mg : Str → Option Value} {base : Heap}
theorem ex1_of {x nm qual : Str} {st : Stmt} {fs ps : List Str} {k : Nat} {dvs dvs' : List V} {kws : List (Str × V)} (g : mg x = some (.ref (He.ga K x))) (T : OexC K (He.ga K x)) (hn : ∀ f ∈ fs, PySem.W.findIn K (.ref (He.ga K x)) f = some none) (me : Meth K (He.ga K x) "__init__" (He.ma K (He.ga K x) "__init__"))
    (d : ∃ fd, FunD K nm qual (defArgs st) (defBody st) (defScope st) dvs kws (He.ma K (He.ga K x) "__init__") fd)
    (ok : ∀ fd, FunD K nm qual (defArgs st) (defBody st) (defScope st) dvs kws (He.ma K (He.ga K x) "__init__") fd → FnOk P w K mg base (L2.CX P w) k (He.ma K (He.ga K x) "__init__") fd ps (spExi K fs))
    (bi : ∀ fd, FunD K nm qual (defArgs st) (defBody st) (defScope st) dvs kws (He.ma K (He.ga K x) "__init__") fd → ∃ ds, Vals dvs' ds ∧ Binds K fd ps ds) : Ex1 P w K mg base k x fs dvs' := by
  refine no_implicit_lambda% (@Z.stp _ ?_ (fun key hn => ?_))
  ·
      obtain ⟨fd, F⟩ := d
      obtain ⟨ds, h1, h2⟩ := bi fd F
      exact ⟨_, fd, ps, ds, g, T, hn, me.at_, beq_iff_eq.mp me.fn, ok fd F, h2, h1⟩
  simpa only using Z.stc (Z.Stw.mk 5) hn key
/-- a def that may raise, by its body -/
theorem cal_x {x : Str} {st : Stmt} {N ps : List Str} {k : Nat} {sp : Sp} (d : ∃ f fd, Dfn K mg x st [] [] f fd) (S : FnScope N ps (defScope st))
    (hb : ∀ (kV doc pm : Value) (an : Option Addr) (cdv ct : Value) (us : List Value), us.length = ps.length → bindArgs (PySem.W.fnOf x x (defArgs st) (defBody st) (defScope st) .none kV doc pm an cdv ct) ⟨us, []⟩ = pure (ps.zip us))
    (len : ∀ vs H Q E, sp vs H Q E → vs.length = ps.length)
    (hbody : ∀ (cdv : Value) (A : Around) (outer : List Env) (s : Shared) (f : Addr) (H : Hp) (vs : List V) (Q : VK) (E : XK), Room k (A.deeper (PyProof.Rows.envOfC x (defScope st) s.heap.objs.size f cdv)) → sp vs H Q E →
      Takes (cxOf (L2.CX P w) P w K mg base N x (defScope st) f cdv A outer s H E) (fun cls d _ H => E cls d H) → PassesOwn (model P w) (A.deeper (PyProof.Rows.envOfC x (defScope st) s.heap.objs.size f cdv)) (cxOf (L2.CX P w) P w K mg base N x (defScope st) f cdv A outer s H E).env (cxOf (L2.CX P w) P w K mg base N x (defScope st) f cdv A outer s H E).xe →
      ∃ t, PSs (cxOf (L2.CX P w) P w K mg base N x (defScope st) f cdv A outer s H E) (defBody st) t ∧ t ⟨fun _ H' => Q .non H', Q, fun _ _ => False, fun _ _ => False⟩ (start N vs) H) : Cal P w K mg base (k + 1) x sp [] := by
  refine no_implicit_lambda% (@Z.stp _ ?_ (fun key hn => ?_))
  ·
      obtain ⟨f, fd, F, hm⟩ := d
      refine ⟨f, fd, ps, [], ?_, hm, F.kp, F.bindsN hb, .nil⟩
      exact F.ok S len fun cdv A outer s H vs Q E hr h => hbody cdv A outer s f H vs Q E hr h (takes_of rfl rfl rfl rfl) (passes_of (X := cxOf (L2.CX P w) P w K mg base N x (defScope st) f cdv A outer s H E) rfl)
  simpa only using Z.stc (Z.Stw.mk 5) hn key
theorem fo_x {x qual : Str} {st : Stmt} {dvs : List V} {kws : List (Str × V)} {f : Addr} {fd : FuncData} {N ps : List Str} {k : Nat} {sp : Sp} (F : FunD K x qual (defArgs st) (defBody st) (defScope st) dvs kws f fd) (S : FnScope N ps (defScope st))
    (len : ∀ vs H Q E, sp vs H Q E → vs.length = ps.length)
    (hbody : ∀ (cdv : Value) (A : Around) (outer : List Env) (s : Shared) (H : Hp) (vs : List V) (Q : VK) (E : XK), Room k (A.deeper (PyProof.Rows.envOfC qual (defScope st) s.heap.objs.size f cdv)) → sp vs H Q E →
      Takes (cxOf (L2.CX P w) P w K mg base N qual (defScope st) f cdv A outer s H E) (fun cls d _ H => E cls d H) → PassesOwn (model P w) (A.deeper (PyProof.Rows.envOfC qual (defScope st) s.heap.objs.size f cdv)) (cxOf (L2.CX P w) P w K mg base N qual (defScope st) f cdv A outer s H E).env (cxOf (L2.CX P w) P w K mg base N qual (defScope st) f cdv A outer s H E).xe →
      ∃ t, PSs (cxOf (L2.CX P w) P w K mg base N qual (defScope st) f cdv A outer s H E) (defBody st) t ∧ t ⟨fun _ H' => Q .non H', Q, fun _ _ => False, fun _ _ => False⟩ (start N vs) H) : FnOk P w K mg base (L2.CX P w) (k + 1) f fd ps sp :=
  F.ok S len fun cdv A outer s H vs Q E hr h => hbody cdv A outer s H vs Q E hr h (takes_of rfl rfl rfl rfl) (passes_of (X := cxOf (L2.CX P w) P w K mg base N qual (defScope st) f cdv A outer s H E) rfl)
end
/-! ### self.f += e -/
section
variable {K : PySem.W.Frag} {σ : St} {H : Hp} {L R : HL} {a C dx : Addr} {fs fs' : List (Str × V)} {f : Str} {i j : Int} {ta tv : TE} {nx : St → Hp → Prop} {rt : VK} {bk ct : St → Hp → Prop} {Q : VK} {v : V}
def AugR (K : PySem.W.Frag) (f : Str) (x : V) (tv : TE) (rd : V → V → Hp → VK → Prop) (σ : St) (H1 : Hp) (R : Hp → Prop) : Prop := ∃ a C dx fs v, x = .ref a ∧ H1 a = some (.ins C dx fs) ∧ Cls K C ∧ NoAttr K C f ∧ fs.lookup f = some v ∧
  tv σ H1 fun y H2 => rd v y H2 fun z H3 => ∃ dx' fs', H3 a = some (.ins C dx' fs') ∧ fs'.length < 1000 ∧ R (upd H3 a (.ins C dx' (putF f z fs')))
def AugS (a C : Addr) (f : Str) (z : V) (H3 : Hp) (R : Hp → Prop) : Prop := ∃ dx' fs', H3 a = some (.ins C dx' fs') ∧ fs'.length < 1000 ∧ R (upd H3 a (.ins C dx' (putF f z fs')))
theorem w_fldaug {rd : V → V → Hp → VK → Prop} (h : ta σ H fun x H1 => AugR K f x tv rd σ H1 (nx σ)) : sFldAug K ta tv rd f ⟨nx, rt, bk, ct⟩ σ H := h
theorem w_augR {rd : V → V → Hp → VK → Prop} {R' : Hp → Prop} (O : Own H L) (p : Pk L (obj a C dx fs) R) (g : FGet fs f v) (hc : Cls K C) (hn : NoAttr K C f) (k : tv σ H fun y H2 => rd v y H2 fun z H3 => AugS a C f z H3 R') : AugR K f (.ref a) tv rd σ H R' :=
  ⟨a, C, dx, fs, v, rfl, O.ins p, hc, hn, g.get, k⟩
theorem w_augS {z : V} {R' : Hp → Prop} (O : Own H L) (p : Pk L (obj a C dx fs) R) (g : FPut fs f z fs') (hl : fs.length < 1000) (k : ∀ H', Own H' (obj a C dx fs' ++ R) → R' H') : AugS a C f z H R' :=
  ⟨dx, fs, O.ins p, hl, by rw [g.put]; exact k _ (O.putO p)⟩
theorem w_rAdd (k : Q (.int (i + j)) H) : rAdd (.int i) (.int j) H Q := ⟨i, j, rfl, rfl, k⟩
theorem w_rSub (k : Q (.int (i - j)) H) : rSub (.int i) (.int j) H Q := ⟨i, j, rfl, rfl, k⟩
theorem w_augG {x : V} {rd : V → V → Hp → VK → Prop} {R' : Hp → Prop} (h : AugR K f x tv rd σ H R') : AugR K f x tv rd σ H R' := h
end
/-! ### dicts whose keys are texts -/
def kvS (fs : List (Str × V)) : List (Key × V) := fs.map fun f => (.inr f.1, f.2)
@[reducible] def _root_.Z.EO.sd (fs : List (Str × V)) : EO := .o (.dK (kvS fs))
inductive SPut : List (Str × V) → Str → V → List (Str × V) → Prop where
  | n {f : Str} {v : V} : SPut [] f v [(f, v)]
  | z {f : Str} {v x : V} {l : List (Str × V)} : FNo l f → SPut ((f, x) :: l) f v ((f, v) :: l)
  | s {f g : Str} {v x : V} {l l' : List (Str × V)} : (f == g) = false → SPut l f v l' → SPut ((g, x) :: l) f v ((g, x) :: l')
theorem valV_S {fs : List (Str × V)} {f : Str} {v : V} (h : FGet fs f v) : valV (kvS fs) (.inr f) = some v := by
  refine no_implicit_lambda% (@Z.stp _ ?_ (fun key hn => ?_))
  ·
      induction h with
      | z => exact valV_pos rfl
      | @s f g v x l e h ih =>
        have ne : ¬ g = f := fun z => by rw [z] at e; simp at e
        show valV ((Sum.inr g, x) :: kvS l) (Sum.inr f) = _
        rw [valV_neg (fun z => ne (Sum.inr.inj z))]
        exact ih
  simpa only using Z.stc (Z.Stw.mk 5) hn key
theorem any_no {l : List (Str × V)} {f : Str} (h : FNo l f) : ((kvS l).any fun kv => decide (kv.1 = Sum.inr f)) = false := by
  refine no_implicit_lambda% (@Z.stp _ ?_ (fun key hn => ?_))
  ·
      induction h with
      | z => rfl
      | @s f g x l e h ih =>
        have ne : ¬ g = f := fun z => by rw [z] at e; simp at e
        show (decide ((Sum.inr g : Key) = Sum.inr f) || (kvS l).any _) = false
        rw [ih, decide_eq_false (fun z => ne (Sum.inr.inj z))]; rfl
  simpa only using Z.stc (Z.Stw.mk 5) hn key
theorem map_no {l : List (Str × V)} {f : Str} {v : V} (h : FNo l f) : (kvS l).map (fun kv => if kv.1 = Sum.inr f then (kv.1, v) else kv) = kvS l := by
  refine no_implicit_lambda% (@Z.stp _ ?_ (fun key hn => ?_))
  ·
      induction h with
      | z => rfl
      | @s f g x l e h ih =>
        have ne : ¬ g = f := fun z => by rw [z] at e; simp at e
        show (if (Sum.inr g : Key) = Sum.inr f then (Sum.inr g, v) else (Sum.inr g, x)) :: (kvS l).map _ = _
        rw [ih, if_neg (fun z => ne (Sum.inr.inj z))]; rfl
  simpa only using Z.stc (Z.Stw.mk 5) hn key
theorem SPut.put {l l' : List (Str × V)} {f : Str} {v : V} (h : SPut l f v l') : putK (kvS l) (.inr f) v = kvS l' := by
  refine no_implicit_lambda% (@Z.stp _ ?_ (fun key hn => ?_))
  ·
      have key : (((kvS l).any fun kv => decide (kv.1 = Sum.inr f)) = true ∧ (kvS l).map (fun kv => if kv.1 = Sum.inr f then (kv.1, v) else kv) = kvS l') ∨ (((kvS l).any fun kv => decide (kv.1 = Sum.inr f)) = false ∧ kvS l ++ [(Sum.inr f, v)] = kvS l') := by
        induction h with
        | n => exact .inr ⟨rfl, rfl⟩
        | @z f v x l h =>
          refine .inl ⟨?_, ?_⟩
          · show (decide ((Sum.inr f : Key) = Sum.inr f) || _) = true
            rw [decide_eq_true rfl]; rfl
          · show (if (Sum.inr f : Key) = Sum.inr f then (Sum.inr f, v) else (Sum.inr f, x)) :: (kvS l).map _ = _
            rw [if_pos rfl, map_no h]; rfl
        | @s f g v x l l' e h ih =>
          have ne : ¬ g = f := fun z => by rw [z] at e; simp at e
          have ne2 : ¬ (Sum.inr g : Key) = Sum.inr f := fun z => ne (Sum.inr.inj z)
          rcases ih with ⟨h1, h2⟩ | ⟨h1, h2⟩
          · refine .inl ⟨?_, ?_⟩
            · show (decide ((Sum.inr g : Key) = Sum.inr f) || (kvS l).any _) = true
              rw [h1, Bool.or_true]
            · show (if (Sum.inr g : Key) = Sum.inr f then (Sum.inr g, v) else (Sum.inr g, x)) :: (kvS l).map _ = _
              rw [h2, if_neg ne2]; rfl
          · refine .inr ⟨?_, ?_⟩
            · show (decide ((Sum.inr g : Key) = Sum.inr f) || (kvS l).any _) = false
              rw [h1, decide_eq_false ne2]; rfl
            · show (Sum.inr g, x) :: (kvS l ++ _) = _
              rw [h2]; rfl
      unfold putK
      rcases key with ⟨h1, h2⟩ | ⟨h1, h2⟩
      · rw [if_pos h1]; exact h2
      · rw [if_neg (by rw [h1]; decide)]; exact h2
  simpa only using Z.stc (Z.Stw.mk 5) hn key
theorem merge_S : ∀ (fs acc : List (Str × V)), (acc.map (·.1) ++ fs.map (·.1)).Nodup → mergeK (kvS acc) (kvS fs) = kvS (acc ++ fs)
  | [], acc, _ => by rw [List.append_nil]; rfl
  | (f, v) :: fs, acc, h => by
    have no : FNo acc f := by
      have h2 : ∀ x ∈ acc.map (·.1), ∀ y ∈ f :: fs.map (·.1), x ≠ y := (List.nodup_append.mp h).2.2
      have h3 : ∀ p ∈ acc, (f == p.1) = false := fun p m => by
        have := h2 p.1 (List.mem_map.mpr ⟨p, m, rfl⟩) f List.mem_cons_self
        simpa using fun e : f = p.1 => this e.symm
      clear h h2
      induction acc with
      | nil => exact .z
      | cons p acc ih => exact .s (h3 p List.mem_cons_self) (ih fun q m => h3 q (List.mem_cons_of_mem _ m))
    have e : putK (kvS acc) (Sum.inr f) v = kvS (acc ++ [(f, v)]) := by
      unfold putK
      rw [if_neg (by rw [any_no no]; decide)]
      unfold kvS
      rw [List.map_append]; rfl
    show mergeK (putK (kvS acc) (Sum.inr f) v) (kvS fs) = _
    rw [e, merge_S fs (acc ++ [(f, v)]) (by rw [List.map_append, List.append_assoc]; exact h), List.append_assoc]; rfl
section
variable {K : PySem.W.Frag} {σ : St} {H : Hp} {L R : HL} {Q : VK} {v x y : V} {a p : Addr} {f : Str} {fs fs' : List (Str × V)} {td ty tv : TE} {nx : St → Hp → Prop} {rt : VK} {bk ct : St → Hp → Prop}
def DgR (x y : V) (H : Hp) (Q : VK) : Prop := ∃ a v, x = .ref a ∧ DGet H a y (some v) ∧ Q v H
theorem w_dget (h : td σ H fun x H1 => ty σ H1 fun y H2 => DgR x y H2 Q) : tDGet td ty σ H Q := h
theorem w_dgS (O : Own H L) (pk : Pk L [(a, .sd fs)] R) (g : FGet fs f v) (k : Q v H) : DgR (.ref a) (.str f) H Q := by
  refine no_implicit_lambda% (@Z.stp _ ?_ (fun key hn => ?_))
  ·
      refine ⟨a, v, rfl, ?_, k⟩
      have e := DGet.k (k := Sum.inr f) (O.at1 pk)
      rw [valV_S g] at e
      exact e
  simpa only using Z.stc (Z.Stw.mk 5) hn key
def DpR (x y v : V) (H : Hp) (R : Hp → Prop) : Prop := ∃ a H4, x = .ref a ∧ DPut H a y v H4 ∧ R H4
theorem w_dput (h : tv σ H fun v H1 => td σ H1 fun x H2 => ty σ H2 fun y H3 => DpR x y v H3 (nx σ)) : sDPut td ty tv ⟨nx, rt, bk, ct⟩ σ H := h
theorem w_dpS {R' : Hp → Prop} (O : Own H L) (pk : Pk L [(a, .sd fs)] R) (g : SPut fs f v fs') (hl : fs.length ≤ 1000) (k : ∀ H', Own H' ([(a, .sd fs')] ++ R) → R' H') : DpR (.ref a) (.str f) v H R' := by
  refine no_implicit_lambda% (@Z.stp _ ?_ (fun key hn => ?_))
  ·
      refine ⟨a, _, rfl, DPut.k (k := Sum.inr f) (O.at1 pk) (by unfold kvS; rw [List.length_map]; exact lineS (by omega)), k _ ?_⟩
      rw [g.put]
      exact O.put pk
  simpa only using Z.stc (Z.Stw.mk 5) hn key
def DspR (p : Addr) (ps : List (V × V)) (H2 : Hp) (Q : VK) : Prop := H2 p = some (.dK []) ∧ ∃ kvs : List (Key × V), ps = kvs.map (fun kv => (kV kv.1, kv.2)) ∧ kvs.length ≤ 15 ∧ Q (.ref p) (upd H2 p (.dK (mergeK [] kvs)))
theorem w_disp {trs : List (TE × TE)} (O : Own H L) (k : ∀ p H', Own H' ([(p, .o (.dK []))] ++ L) → tPairs trs σ H' fun ps H2 => DspR p ps H2 Q) : tDisp trs σ H Q := fun p hp => k p _ (O.new hp)
inductive Prs : List (V × V) → List (Str × V) → Prop where
  | nil : Prs [] []
  | cons {f : Str} {v : V} {ps : List (V × V)} {fs : List (Str × V)} : Prs ps fs → Prs ((.str f, v) :: ps) ((f, v) :: fs)
theorem Prs.eq {ps : List (V × V)} {fs : List (Str × V)} (h : Prs ps fs) : ps = (kvS fs).map fun kv => (kV kv.1, kv.2) := by
  refine no_implicit_lambda% (@Z.stp _ ?_ (fun key hn => ?_))
  ·
      induction h with
      | nil => rfl
      | cons _ ih => rw [ih]; rfl
  simpa only using Z.stc (Z.Stw.mk 5) hn key
theorem w_dsp {ps : List (V × V)} {ks : List Str} (O : Own H L) (e : Prs ps fs) (pk : Pk L [(p, .o (.dK []))] R) (hl : fs.length ≤ 15) (hk : fs.map (·.1) = ks) (hn : ks.Nodup) (k : ∀ H', Own H' ([(p, .sd fs)] ++ R) → Q (.ref p) H') : DspR p ps H Q := by
  refine no_implicit_lambda% (@Z.stp _ ?_ (fun key hn => ?_))
  ·
      refine ⟨O.at1 pk, kvS fs, e.eq, by unfold kvS; rw [List.length_map]; exact hl, k _ ?_⟩
      rw [show mergeK [] (kvS fs) = kvS fs from merge_S fs [] (by subst hk; exact hn)]
      exact O.put pk
  simpa only using Z.stc (Z.Stw.mk 5) hn key
end
section
variable {σ : St} {H : Hp} {Q : List (V × V) → Hp → Prop} {tk tv : TE} {r : List (TE × TE)}
theorem w_tpc (h : tk σ H fun x H1 => tv σ H1 fun y H2 => tPairs r σ H2 fun ps H3 => Q ((x, y) :: ps) H3) : tPairs ((tk, tv) :: r) σ H Q := h
theorem w_tpn (h : Q [] H) : tPairs [] σ H Q := h
end
/-! in, for lists of texts -/
inductive Strs : List V → List Str → Prop where
  | nil : Strs [] []
  | cons {s : Str} {xs : List V} {ss : List Str} : Strs xs ss → Strs (.str s :: xs) (s :: ss)
theorem Strs.flat {xs : List V} {ss : List Str} (h : Strs xs ss) : xs.all flatV = true := by
  refine no_implicit_lambda% (@Z.stp _ ?_ (fun key hn => ?_))
  ·
      induction h with
      | nil => rfl
      | cons _ ih => rw [List.all_cons, ih]; rfl
  simpa only using Z.stc (Z.Stw.mk 5) hn key
theorem Strs.inV {s : Str} {xs : List V} {ss : List Str} (h : Strs xs ss) : L2.inV (.str s) xs = decide (s ∈ ss) := by
  refine no_implicit_lambda% (@Z.stp _ ?_ (fun key hn => ?_))
  ·
      induction h with
      | nil => simp [L2.inV]
      | @cons t xs ss _ ih =>
        unfold L2.inV at ih ⊢
        rw [List.any_cons, ih]
        by_cases e : t = s
        · subst e; simp [eqV]
        · have e2 : ¬ s = t := fun z => e z.symm
          simp [eqV, e, e2]
  simpa only using Z.stc (Z.Stw.mk 5) hn key
section
variable {K : PySem.W.Frag} {H : Hp} {L R : HL} {Q : VK} {a : Addr} {xs : List V} {ss : List Str} {s : Str}
theorem w_inSL (O : Own H L) (ha : Pk L [(a, .lst xs)] R) (hs : Strs xs ss) (k : Q (.bl (decide (s ∈ ss))) H) : zIn K (.str s) (.ref a) H Q := .inl ⟨a, _, rfl, .inl (.of (O.at1 ha)), rfl, hs.flat, by rw [hs.inV]; exact k⟩
theorem w_inST (O : Own H L) (ha : Pk L [(a, .tup xs)] R) (hs : Strs xs ss) (k : Q (.bl (decide (s ∈ ss))) H) : zIn K (.str s) (.ref a) H Q := .inl ⟨a, _, rfl, .inr (.of (O.at1 ha)), rfl, hs.flat, by rw [hs.inV]; exact k⟩
theorem w_ninSL (O : Own H L) (ha : Pk L [(a, .lst xs)] R) (hs : Strs xs ss) (k : Q (.bl (!decide (s ∈ ss))) H) : zNotIn K (.str s) (.ref a) H Q := .inl ⟨a, _, rfl, .inl (.of (O.at1 ha)), rfl, hs.flat, by rw [hs.inV]; exact k⟩
theorem w_ninST (O : Own H L) (ha : Pk L [(a, .tup xs)] R) (hs : Strs xs ss) (k : Q (.bl (!decide (s ∈ ss))) H) : zNotIn K (.str s) (.ref a) H Q := .inl ⟨a, _, rfl, .inr (.of (O.at1 ha)), rfl, hs.flat, by rw [hs.inV]; exact k⟩

end
theorem uK {A : Around} {k : Nat} (hr : Room k A) : A.units + 1 < cLine := by have := hr.un; omega
/-! is True, is False -/
def zIsB : R2 := fun x y H Q => ∃ b c, x = .bl b ∧ y = .bl c ∧ Q (.bl (decide (b = c))) H
def zIsNotB : R2 := fun x y H Q => ∃ b c, x = .bl b ∧ y = .bl c ∧ Q (.bl (!decide (b = c))) H
theorem op_zIsB {X : Cx} : OpR X (compareOp .Is) zIsB := by
  refine no_implicit_lambda% (@Z.stp _ ?_ (fun key hn => ?_))
  ·
      intro pins s σ H x y v u Q I rx ry h
      obtain ⟨b, c, rfl, rfl, q⟩ := h
      cases rx
      cases ry
      refine show wpAny _ _ (compareOp .Is (.bool b) (.bool c)) _ _ _ from ?_
      cases b <;> cases c <;> (refine wpAny_pure ⟨_, H, I, ?_, q⟩; rfl)
  simpa only using Z.stc (Z.Stw.mk 5) hn key
theorem op_zIsNotB {X : Cx} : OpR X (compareOp .IsNot) zIsNotB := by
  refine no_implicit_lambda% (@Z.stp _ ?_ (fun key hn => ?_))
  ·
      intro pins s σ H x y v u Q I rx ry h
      obtain ⟨b, c, rfl, rfl, q⟩ := h
      cases rx
      cases ry
      refine show wpAny _ _ (compareOp .IsNot (.bool b) (.bool c)) _ _ _ from ?_
      cases b <;> cases c <;> (refine wpAny_pure ⟨_, H, I, ?_, q⟩; rfl)
  simpa only using Z.stc (Z.Stw.mk 5) hn key
theorem w_isB {b c : Bool} {H : Hp} {Q : VK} (k : Q (.bl (decide (b = c))) H) : zIsB (.bl b) (.bl c) H Q := ⟨b, c, rfl, rfl, k⟩
theorem w_isNB {b c : Bool} {H : Hp} {Q : VK} (k : Q (.bl (!decide (b = c))) H) : zIsNotB (.bl b) (.bl c) H Q := ⟨b, c, rfl, rfl, k⟩
theorem w_dgG {x y : V} {H : Hp} {Q : VK} (h : DgR x y H Q) : DgR x y H Q := h
theorem w_dpG {x y v : V} {H : Hp} {R : Hp → Prop} (h : DpR x y v H R) : DpR x y v H R := h
theorem ps_tryZ3 {X : Cx} {body : List Stmt} {h₀ : ExceptHandler} {hds : List ExceptHandler} {l : List (Option Nat × Value × (Addr → Value → Option Addr → TS))} {pos : Pos} {Wout : WX} {tb : WX → List (Addr × Obj) → (Value → Shared → Prop) → TS} (hN : X.N.Nodup) (hs : X.stack = X.env :: X.outer) (hf : X.env.frame = some X.env.locals) (tk : Takes X Wout)
    (hb : ∀ (W : WX) (pn : List (Addr × Obj)) (xe : Value → Shared → Prop), Takes (X.tr pn xe) W → PassesOwn (model X.prog X.w) X.A X.env xe → PSs (X.tr pn xe) body (tb W pn xe)) (he : ∀ W pn xe, tb W pn xe = tb W [] (fun _ _ => False))
    (hh : HdsZ X (h₀ :: hds) l) : PS X (.Try body (h₀ :: hds) [] [] pos) (tTryZ X.K Wout l fun W => tb W [] (fun _ _ => False)) := ps_tryZ2 (tb := fun W => tb W [] (fun _ _ => False)) hN hs hf tk (fun W pn xe k1 k2 => (he W pn xe) ▸ hb W pn xe k1 k2) hh
def obj0 : Obj := ⟨.none, none, .fields #[], #[]⟩
theorem HdsZ.only2 {X : Cx} {x : Str} {c : Value} {ts : Addr → Obj → Value → Option Addr → List (Addr × Obj) → TS} {b₀ : Stmt} {suite : List Stmt} {np pos' : Pos} {hds : List ExceptHandler} {l : List (Option Nat × Value × (Addr → Value → Option Addr → TS))} (hc : Names X x c)
      (hsu : ∀ (a : Addr) (oe : Obj) (cls : Value) (d : Option Addr) (pn : List (Addr × Obj)), Zc cls d oe → (∃ vs, oe.data = .fields vs) → PSs (X.suite a ((a, oe) :: pn)) (b₀ :: suite) (ts a oe cls d pn)) (he : ∀ a oe cls d pn, ts a oe cls d pn = ts a obj0 cls d []) (r : HdsZ X hds l) :
      HdsZ X (.ExceptHandler (some (.Name x np)) none (b₀ :: suite) pos' :: hds) ((none, c, fun a cls d => ts a obj0 cls d []) :: l) := .only (ts := fun a cls d => ts a obj0 cls d []) hc (fun a oe cls d pn h1 h2 => (he a oe cls d pn) ▸ hsu a oe cls d pn h1 h2) r
theorem HdsZ.as2 {X : Cx} {x n : Str} {i : Nat} {c : Value} {ts : Addr → Obj → Value → Option Addr → List (Addr × Obj) → TS} {b₀ : Stmt} {suite : List Stmt} {np pos' : Pos} {hds : List ExceptHandler} {l : List (Option Nat × Value × (Addr → Value → Option Addr → TS))} (hi : X.N[i]? = some n) (hln : X.env.kindOf n = some .local) (hc : Names X x c)
      (hsu : ∀ (a : Addr) (oe : Obj) (cls : Value) (d : Option Addr) (pn : List (Addr × Obj)), Zc cls d oe → (∃ vs, oe.data = .fields vs) → PSs (X.suite a ((a, oe) :: pn)) (b₀ :: suite) (ts a oe cls d pn)) (he : ∀ a oe cls d pn, ts a oe cls d pn = ts a obj0 cls d []) (r : HdsZ X hds l) :
      HdsZ X (.ExceptHandler (some (.Name x np)) (some n) (b₀ :: suite) pos' :: hds) ((some i, c, fun a cls d => ts a obj0 cls d []) :: l) := .as (ts := fun a cls d => ts a obj0 cls d []) hi hln hc (fun a oe cls d pn h1 h2 => (he a oe cls d pn) ▸ hsu a oe cls d pn h1 h2) r
/-! ### slices of frozen tuples -/
section
variable {K : PySem.W.Frag} {H : Hp} {L : HL} {Q : VK} {a p : Addr} {vs : List V} {ds : List PyData}
theorem own_tupD {F : Hp} (O : OwnF F H L) (hp : H p = none) (h : DaAll F vs ds) : Own (upd H p (.tup vs)) (rvv (.ref p) (.tuple ds) ++ L) := by
  refine no_implicit_lambda% (@Z.stp _ ?_ (fun key hn => ?_))
  ·
      have O1 : OwnF F (upd H p (.tup vs)) ([] ++ ([(p, .o (.tup vs))] ++ L)) := O.newE hp rfl ⟨upd_same, O.fresh hp⟩
      obtain ⟨O2, le⟩ := O1.freeze rfl upd_same
      exact ⟨_, OwnF.rv O2 (.tup upd_same (DaAll.mono le _ _ h))⟩
  simpa only using Z.stc (Z.Stw.mk 5) hn key
theorem w_slTD {lo hi : Option Int} (O : Own H L) (h : TpD L a ds) (hn : ¬ (HT.sIx ds.length 0 lo = 0 ∧ HT.sIx ds.length ds.length hi = ds.length)) (k : ∀ p H', Own H' (rvv (.ref p) (.tuple (cutD ds lo hi)) ++ L) → Q (.ref p) H') : zSl K (.ref a) lo hi H Q := by
  refine no_implicit_lambda% (@Z.stp _ ?_ (fun key hn => ?_))
  ·
      obtain ⟨F, O⟩ := O
      obtain ⟨vs, h1, h2⟩ := h F H O
      refine .inr (.inl ⟨a, _, rfl, .of h1, by rw [h2.len]; exact hn, fun p hp => k p _ (own_tupD O hp ?_)⟩)
      unfold cutD cutV
      rw [h2.len]
      exact (h2.drop _).take _
  simpa only using Z.stc (Z.Stw.mk 5) hn key
theorem w_lenTD2 {d1 d2 : PyData} (O : Own H L) (h : TpD L a [d1, d2]) (k : Q (.int 2) H) : zLen K [.ref a] H Q := w_lenTD O h k
theorem w_lenTD3 {d1 d2 d3 : PyData} (O : Own H L) (h : TpD L a [d1, d2, d3]) (k : Q (.int 3) H) : zLen K [.ref a] H Q := w_lenTD O h k
theorem w_lenTD4 {d1 d2 d3 d4 : PyData} (O : Own H L) (h : TpD L a [d1, d2, d3, d4]) (k : Q (.int 4) H) : zLen K [.ref a] H Q := w_lenTD O h k
theorem w_slT42 {d1 d2 d3 d4 : PyData} (O : Own H L) (h : TpD L a [d1, d2, d3, d4]) (k : ∀ p H', Own H' (rvv (.ref p) (.tuple [d1, d2]) ++ L) → Q (.ref p) H') : zSl K (.ref a) none (some 2) H Q :=
  w_slTD O h (by show ¬ (HT.sIx 4 0 none = 0 ∧ HT.sIx 4 4 (some 2) = 4); decide) k
theorem w_intD {p : Prop} [Decidable p] (k1 : p → Q (.int 1) H) (k0 : ¬ p → Q (.int 0) H) : zInt [.bl (decide p)] H Q := by
  refine no_implicit_lambda% (@Z.stp _ ?_ (fun key hn => ?_))
  ·
      refine w_intB ?_
      by_cases h : p
      · rw [decide_eq_true h]; exact k1 h
      · rw [decide_eq_false h]; exact k0 h
  simpa only using Z.stc (Z.Stw.mk 5) hn key
theorem w_slT4d2 {d1 d2 d3 d4 : PyData} (O : Own H L) (h : TpD L a [d1, d2, d3, d4]) (k : ∀ p H', Own H' (rvv (.ref p) (.tuple [d3, d4]) ++ L) → Q (.ref p) H') : zSl K (.ref a) (some 2) none H Q :=
  w_slTD O h (by show ¬ (HT.sIx 4 0 (some 2) = 0 ∧ HT.sIx 4 4 none = 4); decide) k
end
/-! ### isinstance of the error that a suite holds, with fields or without -/
section
variable {K : PySem.W.Frag} {D x : Addr} {ox : Obj} {od : Option Obj}
theorem found_cls (C : ExcC K D) : PySem.W.findObj K D od "__class__" = some (.bind (.builtin "getset_descriptor.__get__") (.builtin "object.__class__")) := by
  refine no_implicit_lambda% (@Z.stp _ ?_ (fun key hn => ?_))
  ·
      obtain ⟨cd, hcd, _⟩ := PySem.W.any_some C.hd
      unfold PySem.W.findObj
      simp only [hcd, C.ha, C.hn, C.ht, Option.bind_some]
  simpa only using Z.stc (Z.Stw.mk 5) hn key
theorem isa_exc (C : ExcC K D) {prog : Program} {w : World} {A : Around} {E : Value → Shared → Prop} {Q : Option Value → Shared → Prop} {s : Shared} (kin : K.In s.heap) (ia : PySem.W.InstAt s.heap x ox D od)
    (q : Q (some (.ref D)) { s with toks := s.toks + 1 }) : wpAny (model prog w) A (getAttr? (.ref x) "__class__") Q E s := by
  refine no_implicit_lambda% (@Z.stp _ ?_ (fun key hn => ?_))
  ·
      have ff := found_cls (od := od) C
      obtain ⟨h0, g0, d0, t0, o0⟩ := s
      have la := ia.type (M := model prog w)
      have lb := PySem.W.looks_findIn (M := model prog w) kin C.hg
      have lc := PySem.W.looks_findIn (M := model prog w) kin C.hk
      have ld := PySem.W.looks_find (M := model prog w) kin ia ff
      have ls : PySem.W.Looks (model prog w) h0 (isInstance (.ref x) (.type "BaseException")) true := la.andThen (PySem.W.looks_subIn kin C.hs)
      have n2 : (Value.builtin "BaseException.__getattribute__" == Value.builtin "object.__getattribute__") = false := by decide +kernel
      have n1 : (onTheHeap (Value.ref D) && Value.builtin "BaseException.__getattribute__" == Value.builtin "object.__getattribute__") = false := by rw [n2]; rfl
      have n0 : (false && onTheHeap (Value.builtin "BaseException.__getattribute__")) = false := rfl
      unfold getAttr? getAttrBy? getAttrBy
      apply wpAny_bind
      apply wpAny_mkText
      apply wpAny_bind
      apply wpAny_attempt
      apply wpAny_holding
      apply wpAny_bind
      apply la.at
      apply wpAny_bind
      apply lb.at
      show wpAny _ _ (if (onTheHeap (.ref D) && Value.builtin "BaseException.__getattribute__" == .builtin "object.__getattribute__") = true then _ else _) _ _ _
      rw [n1, if_neg Bool.false_ne_true]
      unfold getAttrByItsOwn hookBefore
      apply wpAny_bind
      rw [if_pos (show onTheHeap (.ref D) = true from rfl)]
      apply lc.at
      apply wpAny_bind
      apply wpAny_attempt
      apply wpAny_holding
      unfold callGetattribute
      rw [n0, if_neg Bool.false_ne_true]
      unfold boundAndCalled
      rw [PySem.F.excAttr_ValueError.ga.bind (.ref x)]
      apply wpAny_bind
      apply wpAny_pure
      show wpAny _ _ (call (.builtin "BaseException.__getattribute__") [Value.ref x, Value.str "__class__" t0]) _ _ _
      apply wpAny_call
      apply codeAny_call_builtin PySem.F.excAttr_ValueError.ga.plain PySem.F.entry_bexc_ga
      refine @PySem.W.check_slot (model prog w) _ _ ⟨h0, g0, d0, t0 + 1, o0⟩ "BaseException.__getattribute__" "BaseException" "__getattribute__" (.ref x) [Value.str "__class__" t0] [] _ (by decide +kernel) (by decide +kernel) ls
        (PySem.F.args_bexc_ga (.ref x) (Value.str "__class__" t0)) ?_
      unfold Builtin.«object.__getattribute__»
      refine wpAny_bind (wpAny_of_eq (a := (((Value.ref x) : Value), [Value.str "__class__" t0])) (by first | rfl | (simp only [slotArgs]; rfl)) ?_)
      apply wpAny_bind
      apply wpAny_pure
      apply wpAny_bind
      apply la.at
      apply wpAny_bind
      apply ld.at
      show wpAny _ _ (holding [Value.builtin "object.__class__"] (call (.builtin "getset_descriptor.__get__") [Value.builtin "object.__class__", Value.ref x, Value.ref D]) >>= ret) _ _ _
      apply wpAny_bind
      apply wpAny_holding
      apply wpAny_call
      apply PySem.W.class_get (s := ⟨h0, g0, d0, t0 + 1, o0⟩) (ox := ox) (od := od) kin ia C.hm
      apply wpAny_pure
      show wpAny _ _ (handedOut (Value.ref D)) _ _ _
      rw [PySem.W.handedOut_of (v := Value.ref D) rfl]
      first | exact wpAny_pure (wpAny_pure q) | exact wpAny_pure q | exact wpAny_pure (wpAny_bind (wpAny_pure (wpAny_pure q)))
  simpa only using Z.stc (Z.Stw.mk 5) hn key
theorem kit_exc (C : ExcC K D) : PySem.W.KitX K (.ref x) (.ref D) (fun h => PySem.W.InstAt h x ox D od) where
  ty := fun _ _ _ i => i.type
  it := fun _ h kin _ => by
    obtain ⟨cd, hcd, _⟩ := PySem.W.any_some C.hd
    unfold PySem.W.clsIn at hcd
    split at hcd
    · rename_i o1 o2 o3 o4 ho
      intro A' Q' E' s' kk qq
      unfold isType loadHead
      exact wpAny_bind (wpAny_loadPart (kk _ _ (kin _ _ ho)) (wpAny_pure qq))
    · cases hcd
  ne := fun h tp dd its n sl kin htp => by
    obtain ⟨cd, hcd, _⟩ := PySem.W.any_some C.hd
    apply Bool.eq_false_iff.mpr
    intro z
    have e := Value.ref.inj (beq_iff_eq.mp z)
    subst e
    unfold PySem.W.clsIn at hcd
    split at hcd
    · rename_i o1 o2 o3 o4 ho
      have y := (kin _ _ ho).symm.trans htp
      cases y
    · cases hcd
  ca := fun kin ia q => isa_exc C kin ia q
end
/-- isinstance(e, c) in a suite; cls is the error's class -/
def rIsZ (K : PySem.W.Frag) (a : Addr) (cls : Value) (d : Option Addr) : List V → Hp → VK → Prop := fun xs H Q => ∃ (D : Addr) (c : V) (cv : Value) (b : Bool), cls = .ref D ∧ ExcC K D ∧ (∀ dd, d = some dd → ∃ fs, H dd = some (.xd fs)) ∧ xs = [.ref a, c] ∧ (∀ u, RelV c u → u = cv) ∧ PySem.W.kitOne K (.ref D) cv = some b ∧ Q (.bl b) H
theorem call_isZ {X : Cx} {a : Addr} {oe : Obj} {cls : Value} {d : Option Addr} {pn : List (Addr × Obj)} (hz : Zc cls d oe) (hf : ∃ vs, oe.data = .fields vs) : CallR (X.suite a ((a, oe) :: pn)) (.builtin "isinstance") (rIsZ X.K a cls d) := by
  refine no_implicit_lambda% (@Z.stp _ ?_ (fun key hn => ?_))
  ·
      intro pins s σ H xs us Q I r h
      obtain ⟨D, c, cv, b, rfl, C, hd, rfl, hcv, e, q⟩ := h
      cases r with
      | cons rx rr =>
        cases rr with
        | cons rt rr =>
          cases rr
          cases rx
          have ec := hcv _ rt
          subst ec
          obtain ⟨hget, _⟩ := I.pin (a, oe) (List.mem_append.mpr (.inl List.mem_cons_self))
          obtain ⟨vs, hv⟩ := hf
          have J : ∃ od, PySem.W.InstAt s.heap a oe D od := by
            cases d with
            | none => exact ⟨none, hget, hz.1, by unfold PySem.W.notCls; rw [hv], by rw [hz.2]; trivial⟩
            | some dd =>
              obtain ⟨fs, hx⟩ := hd dd rfl
              have hx2 : ObjOk X.prog X.w H s.heap dd (.xd fs) := I.hok dd _ hx
              obtain ⟨mA, hns, hr⟩ := hx2
              obtain ⟨od, ho, hl⟩ := lookIn_ns hns
              exact ⟨some od, hget, hz.1, by unfold PySem.W.notCls; rw [hv], by rw [hz.2]; exact ho⟩
          obtain ⟨od, J⟩ := J
          exact PySem.W.kia_one (kit_exc C) I.kIn J e (fun z => nomatch z) fun tk => ⟨.bl b, H, I.kept (t' := tk) fun _ _ z => z, rfl, q⟩
  simpa only using Z.stc (Z.Stw.mk 5) hn key
section
variable {K : PySem.W.Frag} {a D X : Addr} {H : Hp} {Q : VK} {b : Bool} {L R : HL} {dd : Addr} {fs : List (Str × V)} {T : String}
theorem w_isZ0 (C : ExcC K D) (e : PySem.W.kitOne K (.ref D) (.ref X) = some b) (k : Q (.bl b) H) : rIsZ K a (.ref D) none [.ref a, .ref X] H Q := ⟨D, _, _, b, rfl, C, (fun _ z => nomatch z), rfl, (fun _ r => r), e, k⟩
theorem w_isZ0b (C : ExcC K D) (e : PySem.W.kitOne K (.ref D) (.type T) = some b) (k : Q (.bl b) H) : rIsZ K a (.ref D) none [.ref a, .ty T] H Q := ⟨D, _, _, b, rfl, C, (fun _ z => nomatch z), rfl, (fun _ r => r), e, k⟩
theorem w_isZ1 (C : ExcC K D) (e : PySem.W.kitOne K (.ref D) (.ref X) = some b) (O : Own H L) (p : Pk L [(dd, .xd fs)] R) (k : Q (.bl b) H) : rIsZ K a (.ref D) (some dd) [.ref a, .ref X] H Q := ⟨D, _, _, b, rfl, C, (fun d z => by cases z; exact ⟨fs, O.at1 p⟩), rfl, (fun _ r => r), e, k⟩
theorem w_isZ1b (C : ExcC K D) (e : PySem.W.kitOne K (.ref D) (.type T) = some b) (O : Own H L) (p : Pk L [(dd, .xd fs)] R) (k : Q (.bl b) H) : rIsZ K a (.ref D) (some dd) [.ref a, .ty T] H Q := ⟨D, _, _, b, rfl, C, (fun d z => by cases z; exact ⟨fs, O.at1 p⟩), rfl, (fun _ r => r), e, k⟩
end
def excB (D : Str) (K : PySem.W.Frag) : Bool := decide (PySem.W.findIn K (.ref (He.ga K D)) "__getattribute__" = some (some (.builtin "BaseException.__getattribute__"))) && (decide (PySem.W.findIn K (.ref (He.ga K D)) "__getattr__" = some none) && (decide (PySem.W.subIn K (.ref (He.ga K D)) (.type "BaseException") = some true) && (PySem.W.hasDictIn K (He.ga K D) &&
  (decide (PySem.W.findIn K (.ref (He.ga K D)) "__class__" = some (some (.builtin "object.__class__"))) && (decide (PySem.W.specialIn K (.builtin "object.__class__") "__get__" = some (some (.builtin "getset_descriptor.__get__"))) && (decide (PySem.W.takesIn K (.builtin "object.__class__") = some true) && decide (PySem.W.mroIn K (He.ga K D) (.type "object") = some true)))))))
theorem excB_ok {K : PySem.W.Frag} {D : Str} (h : excB D K = true) : ExcC K (He.ga K D) := by
  refine no_implicit_lambda% (@Z.stp _ ?_ (fun key hn => ?_))
  ·
      simp only [excB, Bool.and_eq_true, decide_eq_true_eq] at h
      obtain ⟨h1, h2, h3, h4, h5, h6, h7, h8⟩ := h
      exact ⟨h1, h2, h3, h4, h5, h6, h7, h8⟩
  simpa only using Z.stc (Z.Stw.mk 5) hn key
/-! a field of the error that a suite holds, whatever its class -/
def tXfA (K : PySem.W.Frag) (a : Addr) (cls : Value) (d : Option Addr) (f : Str) (te : TE) : TE := fun σ H Q => te σ H fun x H1 => x = .ref a ∧ ∃ (C dd : Addr) (fs : List (Str × V)) (v : V), cls = .ref C ∧ XfC K C ∧ NoAttr K C f ∧ d = some dd ∧ H1 dd = some (.xd fs) ∧ fs.lookup f = some v ∧ Q v H1
theorem pe_xfA {X : Cx} {a : Addr} {oe : Obj} {cls : Value} {d : Option Addr} {pn : List (Addr × Obj)} {e : Expr} {te : TE} {pos : Pos} {n : Str} (hz : Zc cls d oe) (hf : ∃ vs, oe.data = .fields vs) (he : PE (X.suite a ((a, oe) :: pn)) e te)
    (hb : attributeBase e n X.env (eval e X.env) = eval e X.env := by rfl) : PE (X.suite a ((a, oe) :: pn)) (.Attribute e n pos) (tXfA X.K a cls d n te) := by
  constructor
  intro pins s σ H Q I h
  apply attr_of hb
  refine thn (he.run pins s σ H _ I h) ?_
  rintro u s1 ⟨x, H1, I1, rx, rfl, C, dd, fs, v, rfl, T, hno, rfl, hdd, hl, q⟩
  have eu : u = Value.ref a := rx
  subst eu
  have pin1 := (I1.pin (a, oe) (List.mem_append_left _ List.mem_cons_self)).1
  obtain ⟨vs, hvs⟩ := hf
  have hx : ObjOk X.prog X.w H1 s1.heap dd (.xd fs) := I1.hok dd _ hdd
  obtain ⟨m1, hns, hr⟩ := hx
  obtain ⟨od, ho, lk⟩ := lookIn_ns hns
  obtain ⟨y, hy, ry⟩ := RelO.some_of (v := v) (o := m1 n) (by rw [← hl]; exact hr n)
  have ia : PySem.W.InstAt s1.heap a oe C (some od) := ⟨pin1, hz.1, by unfold PySem.W.notCls; rw [hvs], by rw [hz.2]; exact ho⟩
  exact HandSPX.exc_get I1.kIn ia T.ga T.gg T.exC (PySem.W.findObj_own T.hdC hno rfl (by rw [lk, hy])) (handed_of ry) ⟨v, H1, I1.tok _, ry, q⟩
theorem w_xfA0 {K : PySem.W.Frag} {a : Addr} {cls : Value} {d : Option Addr} {f : Str} {te : TE} {σ : St} {H : Hp} {Q : VK} (h : te σ H fun x H1 => x = .ref a ∧ ∃ (C dd : Addr) (fs : List (Str × V)) (v : V), cls = .ref C ∧ XfC K C ∧ NoAttr K C f ∧ d = some dd ∧ H1 dd = some (.xd fs) ∧ fs.lookup f = some v ∧ Q v H1) : tXfA K a cls d f te σ H Q := h
theorem w_xfA {K : PySem.W.Frag} {a C dd : Addr} {f : Str} {v : V} {fs : List (Str × V)} {L R : HL} {H : Hp} {Q : VK} (T : XfC K C) (hn : NoAttr K C f) (O : Own H L) (p : Pk L [(dd, .xd fs)] R) (g : FGet fs f v) (k : Q v H) :
    V.ref a = V.ref a ∧ ∃ (C2 d2 : Addr) (fs : List (Str × V)) (v : V), Value.ref C = Value.ref C2 ∧ XfC K C2 ∧ NoAttr K C2 f ∧ some dd = some d2 ∧ H d2 = some (.xd fs) ∧ fs.lookup f = some v ∧ Q v H := ⟨rfl, C, dd, fs, v, rfl, T, hn, rfl, O.at1 p, g.get, k⟩
theorem uIS {X : Cx} {a : Addr} {pn : List (Addr × Obj)} {k : Nat} (hr : Room k X.A) : (X.suite a pn).A.units + 64 < cLine := by
  refine no_implicit_lambda% (@Z.stp _ ?_ (fun key hn => ?_))
  ·
      have := hr.un
      show X.A.units + 64 < _
      omega
  simpa only using Z.stc (Z.Stw.mk 5) hn key
theorem uJS {X : Cx} {a : Addr} {pn : List (Addr × Obj)} {k : Nat} (hr : Room k X.A) : (X.suite a pn).A.units + 65 < cLine := by
  refine no_implicit_lambda% (@Z.stp _ ?_ (fun key hn => ?_))
  ·
      have := hr.un
      show X.A.units + 65 < _
      omega
  simpa only using Z.stc (Z.Stw.mk 5) hn key
/-! ### list.extend by a tuple of the program's top -/
def TupX (K : PySem.W.Frag) (p : Addr) (zs : List V) : Prop := ∃ (its : List Value) (n : Nat), K.lookup p = some ⟨.type "tuple", none, .seq its.toArray n, #[]⟩ ∧ its.length ≤ sizeLine ∧ Vals zs its
def rExtK (K : PySem.W.Frag) : V → List V → Hp → VK → Prop := fun x vs H Q => ∃ l p xs zs, x = .ref l ∧ vs = [.ref p] ∧ H l = some (.lst xs) ∧ TupX K p zs ∧ xs.length + zs.length ≤ sizeLine ∧ Q .non (upd H l (.lst (xs ++ zs)))
theorem mt_extK {X : Cx} : MtR X "list.extend" (rExtK X.K) := by
  refine no_implicit_lambda% (@Z.stp _ ?_ (fun key hn => ?_))
  ·
      intro pins s σ H x vs v us Q I rx rv h
      obtain ⟨l, p, xs, zs, rfl, rfl, hl, ⟨i2, n2, hp, hz2, r2⟩, hz, q⟩ := h
      cases rx
      obtain ⟨u, rfl, ru⟩ := rv.one
      cases ru
      obtain ⟨z1, i1, n1, r1, e1, el⟩ := I.lstM hl
      have ep := I.kIn p _ hp
      have lz : zs.length = i2.length := r2.length
      have ln : i1.toArray.size + i2.toArray.size ≤ sizeLine := by
        rw [List.size_toArray, List.size_toArray, ← e1, ← lz]
        exact hz
      have lt : ¬ (!i1.toArray.isEmpty && Builtin.List.listTooLong (i1.toArray.size + i2.toArray.size)) = true := by
        rw [notLongL ln, Bool.and_false]
        exact Bool.false_ne_true
      have l1 : i1.toArray.size ≤ sizeLine := by rw [List.size_toArray, ← e1]; exact z1
      refine call_meets F.slot_list_extend ⟨_, el, rfl⟩ F.entry_list_extend (F.args_list_extend_2 _ _) (AutoSeq1.list_extend_list_tuple_0 l i1.toArray n1 p i2.toArray n2 lt l1 (Nat.le_succ_of_le ln)) ⟨el, ep, ?_⟩
      refine ⟨.non, _, I.lset (its' := i1 ++ i2) hl el (by simp) (r1.append r2) ?_, rfl, q⟩
      rw [List.length_append]
      exact hz
  simpa only using Z.stc (Z.Stw.mk 5) hn key
theorem w_extK {K : PySem.W.Frag} {H : Hp} {L R : HL} {Q : VK} {a p : Addr} {ns ms : List Int} (O : Own H L) (ha : Pk L [(a, .lst (ns.map V.int))] R) (T : TupX K p (ms.map V.int)) (h : ns.length + ms.length ≤ 16777216) (k : ∀ H', Own H' ([(a, .lst ((ns ++ ms).map V.int))] ++ R) → Q .non H') : rExtK K (.ref a) [.ref p] H Q :=
  ⟨a, p, _, _, rfl, rfl, O.at1 ha, T, by rw [List.length_map, List.length_map]; exact line h, k _ (by rw [List.map_append]; exact O.put ha)⟩
def tupXB (K : PySem.W.Frag) (p : Addr) (ns : List Int) : Bool := match K.lookup p with
  | some ⟨.type "tuple", none, .seq its _, sl⟩ => itsB2 its.toList ns && decide (its.toList.length ≤ sizeLine) && sl.isEmpty
  | _ => false
where itsB2 : List Value → List Int → Bool
  | .int i _ :: vs, n :: ns => decide (i = n) && itsB2 vs ns
  | [], [] => true
  | _, _ => false
theorem itsB2_ok : ∀ {vs : List Value} {ns : List Int}, tupXB.itsB2 vs ns = true → Vals (ns.map V.int) vs
  | [], [], _ => .nil
  | .int i t :: vs, n :: ns, h => by
    obtain ⟨h1, h2⟩ := Bool.and_eq_true_iff.mp h
    have e := of_decide_eq_true h1
    subst e
    exact .cons ⟨t, rfl⟩ (itsB2_ok h2)
theorem tupXB_ok {K : PySem.W.Frag} {p : Addr} {ns : List Int} (h : tupXB K p ns = true) : TupX K p (ns.map V.int) := by
  refine no_implicit_lambda% (@Z.stp _ ?_ (fun key hn => ?_))
  ·
      unfold tupXB at h
      split at h
      · rename_i its n sl e
        simp only [Bool.and_eq_true, decide_eq_true_eq] at h
        obtain ⟨⟨h1, h2⟩, h3⟩ := h
        have e2 : sl = #[] := Array.isEmpty_iff.mp h3
        subst e2
        exact ⟨its.toList, n, by rw [Array.toArray_toList]; exact e, h2, itsB2_ok h1⟩
      · cases h
  simpa only using Z.stc (Z.Stw.mk 5) hn key
/-- the address of a table's value -/
def tabAdr (x key : Str) (K : PySem.W.Frag) : Addr := match PySem.W.nsIn K (He.ga K x) key with
  | some (some (.ref p)) => p
  | _ => 0
def tupTB (x : Str) (rows : List (Str × List Int)) (K : PySem.W.Frag) : Bool := rows.all fun q => tupXB K (tabAdr x q.1 K) q.2
theorem tupTB_ok {x : Str} {rows : List (Str × List Int)} {K : PySem.W.Frag} (h : tupTB x rows K = true) {key : Str} {ns : List Int} (m : (key, ns) ∈ rows) : TupX K (tabAdr x key K) (ns.map V.int) := tupXB_ok (List.all_eq_true.mp h _ m)
/-! ### what is no key -/
def keysB (K : PySem.W.Frag) (d : Addr) (ks : List Str) : Bool := match K.lookup d with
  | some ⟨_, _, .dict es _, _⟩ => es.toList.all fun e => ks.any fun k => e.key.isStr k
  | _ => false
theorem keysB_no {K : PySem.W.Frag} {d : Addr} {ks : List Str} {z : Str} (h : keysB K d ks = true) (hz : z ∉ ks) : PySem.W.nsIn K d z = some none := by
  refine no_implicit_lambda% (@Z.stp _ ?_ (fun key hn => ?_))
  ·
      unfold keysB at h
      split at h
      · rename_i o1 o2 es n o3 e
        have hk : ∀ x ∈ es.toList, ∃ k ∈ ks, x.key.isStr k = true := fun x hx => List.any_eq_true.mp (List.all_eq_true.mp h x hx)
        have h1 : es.toList.find? (·.key.isStr z) = none := List.find?_eq_none.mpr fun x hx => by
          obtain ⟨k, hkk, hs⟩ := hk x hx
          have ne : z ≠ k := fun q => hz (q ▸ hkk)
          rw [PySem.isStr_other ne x hs]
          exact Bool.false_ne_true
        have h2 : es.toList.any (·.refKey) = false := by
          refine List.any_eq_false.mpr fun x hx => ?_
          obtain ⟨k, _, hs⟩ := hk x hx
          rw [PySem.isStr_notRef x hs]
          exact Bool.false_ne_true
        unfold PySem.W.nsIn
        rw [e]
        show (match es.toList.find? (·.key.isStr z) with | some e => some (some e.val) | none => if es.toList.any (·.refKey) then none else some none) = some none
        rw [h1, h2]
        rfl
      · cases h
  simpa only using Z.stc (Z.Stw.mk 5) hn key
/-! ### insert, pop, reverse; a comprehension with a test -/
section
variable {X : Cx}
def zIns : V → List V → Hp → VK → Prop := fun x vs H Q => ∃ (l : Addr) (xs : List V) (i : Int) (y : V), x = .ref l ∧ vs = [.int i, y] ∧ H l = some (.lst xs) ∧ xs.length < sizeLine ∧ 0 ≤ i ∧ i < 2 ^ 63 ∧
    Q .non (upd H l (.lst (xs.take i.toNat ++ [y] ++ xs.drop i.toNat)))
theorem mt_zIns : MtR X "list.insert" zIns := mt_insert
end
section
variable {K : PySem.W.Frag} {H : Hp} {L R : HL} {Q : VK} {a : Addr} {ns : List Int} {i j : Int} {xs : List V} {v : V}
theorem w_insI (O : Own H L) (ha : Pk L [(a, .lst (ns.map V.int))] R) (h : ns.length < 16777216) (h0 : 0 ≤ i) (h1 : i < 9223372036854775808) (k : ∀ H', Own H' ([(a, .lst ((ns.take i.toNat ++ [j] ++ ns.drop i.toNat).map V.int))] ++ R) → Q .non H') : zIns (.ref a) [.int i, .int j] H Q :=
  ⟨a, _, i, .int j, rfl, rfl, O.at1 ha, by rw [List.length_map]; exact lineS h, h0, h1, by
    have O' := k _ (by simp only [List.map_append, List.map_take, List.map_drop, List.map_cons, List.map_nil]; exact O.put ha)
    exact O'⟩
end
section
variable {K : PySem.W.Frag} {σ : St} {H : Hp} {L : HL} {Q : VK} {te : TE} {tt : TT} {g : TG} {is : List Nat} {a : Addr} {ns : List Int}
theorem filter_snoc {α : Type} (p : α → Bool) (l : List α) (x : α) : (l ++ [x]).filter p = if p x = true then l.filter p ++ [x] else l.filter p := by
  refine no_implicit_lambda% (@Z.stp _ ?_ (fun key hn => ?_))
  ·
      rw [List.filter_append]
      by_cases h : p x = true
      · rw [if_pos h, List.filter_cons_of_pos h]; rfl
      · rw [if_neg h, List.filter_cons_of_neg h]; simp
  simpa only using Z.stc (Z.Stw.mk 5) hn key
/-- [x for x in ints if test] -/
theorem w_lcF (p : Int → Bool) (O : Own H L) (ha : LsI L a ns) (hl : ns.length ≤ 16777216)
    (hs : ∀ i x D H' (Qe : VK) (Nx : Hp → Prop), ns[i]? = some x → Own H' ([(D, .lst (((ns.take i).filter p).map V.int))] ++ L) → (p x = true → ∀ H4, Own H4 ([(D, .lst (((ns.take i).filter p).map V.int))] ++ L) → Qe (.int x) H4) → (p x = false → ∀ H4, Own H4 ([(D, .lst (((ns.take i).filter p).map V.int))] ++ L) → Nx H4) →
      g (.int x) (wipe σ is) H' fun σ2 H2 => wipe σ2 is = wipe σ is ∧ tt σ2 H2 fun b H3 => if b = true then te σ2 H3 Qe else Nx H3)
    (k : ∀ D H', Own H' ([(D, .lst ((ns.filter p).map V.int))] ++ L) → Q (.ref D) H') : LcR (Itl K a) g tt te is σ H Q := by
  refine no_implicit_lambda% (@Z.stp _ ?_ (fun key hn => ?_))
  ·
      intro D hD
      refine lc_list (K := K) (a := a) (xs := ns.map V.int) (fun i H' => Own H' ([(D, .lst (((ns.take i).filter p).map V.int))] ++ L)) (O.new hD) (fun i H' _ O' => .of (ha _ (O'.sub Sub.right))) (fun i x H' hx O' => ?_) (fun H' O' => ?_)
      · obtain ⟨z, rfl, hz⟩ : ∃ z, x = V.int z ∧ ns[i]? = some z := by
          rw [List.getElem?_map] at hx
          cases e : ns[i]? with
          | none => rw [e] at hx; cases hx
          | some z => rw [e] at hx; exact ⟨z, (Option.some.inj hx).symm, rfl⟩
        have h1 : i < ns.length := (List.getElem?_eq_some_iff.mp hz).1
        refine hs i z D H' _ _ hz O' (fun hp H4 O4 => ⟨_, O4.at1 Pk.here, ?_, ?_⟩) (fun hp H4 O4 => ?_)
        · have h2 := List.length_filter_le p (ns.take i)
          rw [List.length_map]
          rw [List.length_take] at h2
          exact lineS (by omega)
        · have e : ((ns.take (i + 1)).filter p).map V.int = ((ns.take i).filter p).map V.int ++ [V.int z] := by rw [take_snoc hz, filter_snoc, if_pos hp, List.map_append]; rfl
          rw [e]
          exact O4.put Pk.here
        · have e : ((ns.take (i + 1)).filter p) = ((ns.take i).filter p) := by rw [take_snoc hz, filter_snoc, if_neg (by rw [hp]; decide)]
          rw [e]
          exact O4
      · rw [List.length_map, List.take_length] at O'
        exact k D H' O'
  simpa only using Z.stc (Z.Stw.mk 5) hn key
end
/-! ### len of an instance whose class has an own __len__; isinstance(e, (A, B)) in a suite -/
section
variable {X : Cx} {CX : CXT} {k j : Nat} {f C : Addr} {fd : FuncData} {ps : List Str} {sp : Sp} {dvs : List V} {ds : List Value}
theorem run_fnB {A : Around} {E : XK} {pins : List (Addr × Obj)} {σ : St} {H : Hp} {s : Shared} {Q : VK} {us : List Value} {vs : List V} (F : FnOk X.prog X.w X.K X.mg X.base CX k f fd ps sp) (hr : Room k A) (hf : A.frames = X.A.frames) (hb : Binds X.K fd ps ds) (hd : Vals dvs ds) (hx : Passes CX X E)
    (I : Inv X pins σ H s) (r : Vals vs us) (h : sp (vs ++ dvs) H Q E) : wpAny (model X.prog X.w) A (call (.ref f) us) (EP X pins σ Q) X.xe s := by
  refine no_implicit_lambda% (@Z.stp _ ?_ (fun key hn => ?_))
  ·
      have r2 : Vals (vs ++ dvs) (us ++ ds) := r.append hd
      have hl : (us ++ ds).length = ps.length := by rw [← r2.length]; exact F.len _ _ _ _ h
      have e0 : Env0 X.prog X.w X.K X.mg X.base A X.stack s H := by
        have e := I.env0
        exact ⟨by rw [hf]; exact e.frames, e.mod, e.bs, e.bsz, e.funs, e.frf, e.hok, e.bare⟩
      refine wpAny_call (codeAny_mono (F.run A X.stack s H ⟨us, []⟩ (us ++ ds) (vs ++ dvs) Q E hr e0 (hb s us I.kIn hl) r2 h) fun r s' hq => ?_)
      cases r with
      | error e => exact hx pins σ H s e s' I hq
      | ok fl =>
        cases fl with
        | ret u => exact I.after hq
        | next => exact False.elim hq
        | brk => exact False.elim hq
        | cont => exact False.elim hq
  simpa only using Z.stc (Z.Stw.mk 5) hn key
def LenQ (Q : VK) : VK := fun v H' => ∃ i, v = .int i ∧ (0 ≤ i ∧ i < 2 ^ 63) ∧ Q (.int i) H'
def rLenO (C : Addr) (sp : Sp) : List V → Hp → VK → Prop := fun xs H Q => ∃ a dx fs, xs = [.ref a] ∧ H a = some (.ins C dx fs) ∧ sp [.ref a] H (LenQ Q) E0
theorem call_lenO (c : Met X.prog X.w X.K X.mg X.base k C "__len__" sp []) (hr : Room j X.A) (hk : k + 1 ≤ j) : CallR X (.builtin "len") (rLenO C sp) := by
  refine no_implicit_lambda% (@Z.stp _ ?_ (fun key hn => ?_))
  ·
      intro pins s σ H xs us Q I r h
      obtain ⟨a, dx, fs, rfl, ha, q⟩ := h
      obtain ⟨u, rfl, ru⟩ := vals1 r
      obtain rfl : u = Value.ref a := ru
      obtain ⟨f, fd, ps, ds, c1, hm, F, b, d⟩ := c.ex
      obtain ⟨mA, J, _⟩ := ins_get I.hok ha
      obtain ⟨od, J, _⟩ := J.look
      obtain ⟨m, hF⟩ := I.fr
      refine PySem.W.len_K hF I.ok.mod.kin J hm.at_ hm.fn (wpAny_mono (run_fnB (A := X.A.in1) (E := E0) (vs := [.ref a]) (dvs := []) F (hr.mono hk).in1 rfl b d passL I (.cons rfl .nil) q) (fun v s' z => ?_) fun _ _ e => e)
      obtain ⟨w, H', I', rw', i, rfl, hi, q'⟩ := z
      obtain ⟨t, rfl⟩ : ∃ t, v = Value.int i t := rw'
      exact ⟨hi, .int i, H', I'.tok _, ⟨_, rfl⟩, q'⟩
  simpa only using Z.stc (Z.Stw.mk 5) hn key
end
section
variable {K : PySem.W.Frag} {C a dx : Addr} {sp : Sp} {H : Hp} {L R : HL} {Q : VK} {fs : List (Str × V)} {xs : List V} {i : Int}
theorem w_lenO (O : Own H L) (p : Pk L (obj a C dx fs) R) (k : sp [.ref a] H (LenQ Q) E0) : rLenO C sp [.ref a] H Q := ⟨a, dx, fs, rfl, O.ins p, k⟩
theorem w_lenG (h : rLenO C sp xs H Q) : rLenO C sp xs H Q := h
theorem w_lenQ (h0 : 0 ≤ i) (h1 : i < 9223372036854775808) (k : Q (.int i) H) : LenQ Q (.int i) H := ⟨i, rfl, ⟨h0, h1⟩, k⟩
end
inductive RefsV : List V → List Addr → Prop where
  | nil : RefsV [] []
  | cons {x : Addr} {vs : List V} {cs : List Addr} : RefsV vs cs → RefsV (.ref x :: vs) (x :: cs)
theorem RefsV.eq {vs : List V} {cs : List Addr} (h : RefsV vs cs) : vs = cs.map V.ref := by
  refine no_implicit_lambda% (@Z.stp _ ?_ (fun key hn => ?_))
  ·
      induction h with
      | nil => rfl
      | cons _ ih => rw [ih]; rfl
  simpa only using Z.stc (Z.Stw.mk 5) hn key
inductive KAn (K : PySem.W.Frag) (D : Addr) : List V → List Addr → Bool → Prop where
  | nil : KAn K D [] [] false
  | hit {x : Addr} {vs : List V} {cs : List Addr} : PySem.W.kitOne K (.ref D) (.ref x) = some true → RefsV vs cs → KAn K D (.ref x :: vs) (x :: cs) true
  | miss {x : Addr} {vs : List V} {cs : List Addr} {b : Bool} : PySem.W.kitOne K (.ref D) (.ref x) = some false → KAn K D vs cs b → KAn K D (.ref x :: vs) (x :: cs) b
theorem KAn.any {K : PySem.W.Frag} {D : Addr} {vs : List V} {cs : List Addr} {b : Bool} (h : KAn K D vs cs b) : vs = cs.map V.ref ∧ PySem.W.kitAny K (.ref D) (cs.map Value.ref) = some b := by
  refine no_implicit_lambda% (@Z.stp _ ?_ (fun key hn => ?_))
  ·
      induction h with
      | nil => exact ⟨rfl, kitAny_nil⟩
      | hit e r => exact ⟨by rw [r.eq]; rfl, kitAny_cons e (fun z => nomatch z) (fun _ => rfl)⟩
      | miss e _ ih => exact ⟨by rw [ih.1]; rfl, kitAny_cons e (fun _ => ih.2) (fun z => nomatch z)⟩
  simpa only using Z.stc (Z.Stw.mk 5) hn key
theorem vals_refs : ∀ {cs : List Addr} {us : List Value}, Vals (cs.map V.ref) us → us = cs.map Value.ref
  | [], us, h => by cases h; rfl
  | c :: cs, us, h => by
    cases h with
    | cons r rs =>
      cases r
      rw [vals_refs rs]; rfl
def rIsZT (K : PySem.W.Frag) (a : Addr) (cls : Value) (d : Option Addr) : List V → Hp → VK → Prop := fun xs H Q => ∃ (D tp : Addr) (cs : List Addr) (b : Bool), cls = .ref D ∧ ExcC K D ∧ (∀ dd, d = some dd → ∃ fs, H dd = some (.xd fs)) ∧ xs = [.ref a, .ref tp] ∧ H tp = some (.tup (cs.map V.ref)) ∧ PySem.W.kitAny K (.ref D) (cs.map Value.ref) = some b ∧ Q (.bl b) H
theorem call_isZT {X : Cx} {a : Addr} {oe : Obj} {cls : Value} {d : Option Addr} {pn : List (Addr × Obj)} (hz : Zc cls d oe) (hf : ∃ vs, oe.data = .fields vs) : CallR (X.suite a ((a, oe) :: pn)) (.builtin "isinstance") (rIsZT X.K a cls d) := by
  refine no_implicit_lambda% (@Z.stp _ ?_ (fun key hn => ?_))
  ·
      intro pins s σ H xs us Q I r h
      obtain ⟨D, tp, cs, b, rfl, C, hd, rfl, hT, e, q⟩ := h
      cases r with
      | cons rx rr =>
        cases rr with
        | cons rt rr =>
          cases rr
          cases rx
          cases rt
          obtain ⟨hget, _⟩ := I.pin (a, oe) (List.mem_append.mpr (.inl List.mem_cons_self))
          obtain ⟨vs, hv⟩ := hf
          have J : ∃ od, PySem.W.InstAt s.heap a oe D od := by
            cases d with
            | none => exact ⟨none, hget, hz.1, by unfold PySem.W.notCls; rw [hv], by rw [hz.2]; trivial⟩
            | some dd =>
              obtain ⟨fs, hx⟩ := hd dd rfl
              have hx2 : ObjOk X.prog X.w H s.heap dd (.xd fs) := I.hok dd _ hx
              obtain ⟨mA, hns, hr⟩ := hx2
              obtain ⟨od, ho, hl⟩ := lookIn_ns hns
              exact ⟨some od, hget, hz.1, by unfold PySem.W.notCls; rw [hv], by rw [hz.2]; exact ho⟩
          obtain ⟨od, J⟩ := J
          obtain ⟨_, its, rv, o, h1, h2, n, h3⟩ := (show ObjOk X.prog X.w H s.heap tp (.tup (cs.map V.ref)) from I.hok tp _ hT)
          have e3 := vals_refs rv
          subst e3
          obtain ⟨oc, od2, dt, sl⟩ := o
          simp only at h2 h3
          subst h2 h3
          exact PySem.W.kia_tup (kit_exc C) I.kIn J h1 e (fun z => nomatch z) fun tk => ⟨.bl b, H, I.kept (t' := tk) fun _ _ z => z, rfl, q⟩
  simpa only using Z.stc (Z.Stw.mk 5) hn key
section
variable {K : PySem.W.Frag} {a D tp : Addr} {H : Hp} {Q : VK} {b : Bool} {L R R' : HL} {dd : Addr} {fs : List (Str × V)} {vs : List V} {cs : List Addr}
theorem w_isZT0 (C : ExcC K D) (O : Own H L) (p : Pk L [(tp, .tup vs)] R) (e : KAn K D vs cs b) (k : Q (.bl b) H) : rIsZT K a (.ref D) none [.ref a, .ref tp] H Q := ⟨D, tp, cs, b, rfl, C, (fun _ z => nomatch z), rfl, by rw [← e.any.1]; exact O.at1 p, e.any.2, k⟩
theorem w_isZT1 (C : ExcC K D) (O : Own H L) (pd : Pk L [(dd, .xd fs)] R') (p : Pk L [(tp, .tup vs)] R) (e : KAn K D vs cs b) (k : Q (.bl b) H) : rIsZT K a (.ref D) (some dd) [.ref a, .ref tp] H Q := ⟨D, tp, cs, b, rfl, C, (fun d z => by cases z; exact ⟨fs, O.at1 pd⟩), rfl, by rw [← e.any.1]; exact O.at1 p, e.any.2, k⟩
end
/-! ### == and != of instances of one class with an own __eq__ ; isinstance(x, C) of an own instance -/
structure InsC (K : PySem.W.Frag) (C : Addr) : Prop where
  ne : PySem.W.findIn K (.ref C) "__ne__" = some (some (.builtin "object.__ne__"))
  ob : PySem.W.mroIn K C (.type "object") = some true
  cl : PySem.W.findIn K (.ref C) "__class__" = some (some (.builtin "object.__class__"))
  gt : PySem.W.specialIn K (.builtin "object.__class__") "__get__" = some (some (.builtin "getset_descriptor.__get__"))
  tk : PySem.W.takesIn K (.builtin "object.__class__") = some true
  ki : PySem.W.kitOne K (.ref C) (.ref C) = some true
def insB (x : Str) (K : PySem.W.Frag) : Bool := decide (PySem.W.findIn K (.ref (He.ga K x)) "__ne__" = some (some (.builtin "object.__ne__"))) && (decide (PySem.W.mroIn K (He.ga K x) (.type "object") = some true) && (decide (PySem.W.findIn K (.ref (He.ga K x)) "__class__" = some (some (.builtin "object.__class__"))) && (decide (PySem.W.specialIn K (.builtin "object.__class__") "__get__" = some (some (.builtin "getset_descriptor.__get__"))) && (decide (PySem.W.takesIn K (.builtin "object.__class__") = some true) && decide (PySem.W.kitOne K (.ref (He.ga K x)) (.ref (He.ga K x)) = some true)))))
theorem insB_ok {x : Str} {K : PySem.W.Frag} (h : insB x K = true) : InsC K (He.ga K x) := by
  refine no_implicit_lambda% (@Z.stp _ ?_ (fun key hn => ?_))
  ·
      unfold insB at h
      simp only [Bool.and_eq_true, decide_eq_true_eq] at h
      obtain ⟨h1, h2, h3, h4, h5, h6⟩ := h
      exact ⟨h1, h2, h3, h4, h5, h6⟩
  simpa only using Z.stc (Z.Stw.mk 5) hn key
section
variable {prog : Program} {w : World} {A : Around} {E : Value → Shared → Prop} {s : Shared} {K : PySem.W.Frag} {x y C f : Addr} {ox : Obj} {od : Option Obj}
open PySem.W in
theorem ifb_ne {M : Model} {args : List Value} {Q : Option Value → Shared → Prop} (kin : K.In s.heap) (I : InstAt s.heap x ox C od) (hs : findIn K (.ref C) "__ne__" = some (some (.builtin "object.__ne__")))
    (h : wpAny M A (call (.builtin "object.__ne__") (.ref x :: args)) (fun v => Q (some v)) E s) : wpAny M A (callSpecialIfBound? (.ref x) "__ne__" args) Q E s := by
  refine no_implicit_lambda% (@Z.stp _ ?_ (fun key hn => ?_))
  ·
      have last : wpAny M A (call (.builtin "object.__ne__") ([.ref x] ++ args) >>= fun v => pure (some v)) Q E s := wpAny_bind (wpAny_mono h (fun v s' z => wpAny_pure z) fun _ _ z => z)
      have lk := looks_findIn (M := M) kin hs
      simp only [bindSpecialIfBound?, callSpecialIfBound?]
      refine wpAny_holding ?_
      refine wpAny_bind (wpAny_bind (wpAny_bind (I.type.here (lk.here ?_))))
      refine (wpAny_bind (wpAny_askSetting ?_))
      refine wpAny_ite ?_
      split
      · exact wpAny_bind (wpAny_of_eq (F.cmp_object.ne.bind _) (wpAny_pure (by exact last)))
      · refine wpAny_tryCatch ?_
        exact wpAny_bind (wpAny_of_eq (F.cmp_object.ne.bind _) (wpAny_pure (by exact last)))
  simpa only using Z.stc (Z.Stw.mk 5) hn key
open PySem.W in
theorem ne_body (hu : A.units < cLine) (kin : K.In s.heap) (I : InstAt s.heap x ox C od) (he : findIn K (.ref C) "__eq__" = some (some (.ref f))) (hf : isFn K (.ref f) = true) {Q : Fin → Shared → Prop}
    (hcall : wpAny (model prog w) A (call (.ref f) [.ref x, .ref y]) (fun v s' => ∃ b, v = .bool b ∧ Q (.done (.ret (.bool (!b)))) s') E s) :
    wpAny (model prog w) A (Builtin.«object.__ne__» ⟨[.ref x, .ref y], []⟩) Q E s := by
  refine no_implicit_lambda% (@Z.stp _ ?_ (fun key hn => ?_))
  ·
      unfold Builtin.«object.__ne__»
      repeat (first
        | with_reducible refine wpAny_cRoomFor hu ?_
        | (refine wpAny_bind (m := callSpecialIfBound? (.ref x) (Str.ofString "__eq__") [.ref y]) (ifBound_K kin I he hf (wpAny_mono hcall (fun r s' hr => by
              obtain ⟨b, rfl, hq⟩ := hr
              repeat (first | exact wpAny_pure hq | exact hq | exact wpAny_truthy_bool hq | (refine wpAny_bind (m := truthy (.bool _)) (wpAny_truthy_bool ?_)) | wp_step)) fun _ _ e => e)))
        | wp_step)
  simpa only using Z.stc (Z.Stw.mk 5) hn key
open PySem.W in
theorem rc_ne (hu : A.units + 1 < cLine) (kin : K.In s.heap) (T : InsC K C) (I : InstAt s.heap x ox C od) (J : ∀ M : Model, Looks M s.heap (typeOf (.ref y)) (.ref C)) (he : findIn K (.ref C) "__eq__" = some (some (.ref f))) (hf : isFn K (.ref f) = true) {Q : Value → Shared → Prop}
    (hcall : wpAny (model prog w) A.in1 (call (.ref f) [.ref x, .ref y]) (fun v s' => ∃ b, v = .bool b ∧ Q (.bool (!b)) s') E s) :
    wpAny (model prog w) A (richCompare .NotEq (.ref x) (.ref y)) Q E s := by
  refine no_implicit_lambda% (@Z.stp _ ?_ (fun key hn => ?_))
  ·
      have one : wpAny (model prog w) A (tryCompare (.ref x) "__ne__" (.ref y)) (fun r s' => ∃ v, r = some v ∧ Q v s') E s := by
        unfold tryCompare
        refine wpAny_bind (ifb_ne kin I T.ne (wpAny_call (codeAny_call_builtin F.cmp_object.ne.plain F.cmpEntry_ne (check_slot F.cmpKind_ne F.cmpSplit_ne (I.type.andThen (looks_mroIn kin T.ob)) (F.cmpArgs_ne _ _) (ne_body (A := A.in1) (by show A.units + 1 < cLine; exact hu) kin I he hf (wpAny_mono hcall (fun v s' hv => ?_) fun _ _ e => e))))))
        obtain ⟨b, rfl, hq⟩ := hv
        first | exact ⟨b, rfl, wpAny_pure ⟨_, rfl, hq⟩⟩ | exact ⟨b, rfl, wpAny_pure (wpAny_pure ⟨_, rfl, hq⟩)⟩ | exact ⟨b, rfl, ⟨_, rfl, hq⟩⟩
      unfold richCompare
      simp only [oneThing_ref]
      refine (wpAny_holding ?_)
      refine (wpAny_bind (wpAny_cRoomFor (by omega) ?_))
      refine wpAny_bind (I.type.here ?_)
      refine wpAny_bind ((J _).here ?_)
      split
      · rename_i q
        exact absurd q (by simp)
      · refine wpAny_bind (wpAny_pure ?_)
        simp only [if_false, Bool.false_eq_true]
        refine wpAny_bind (wpAny_mono one (fun r s' z => ?_) fun _ _ e => e)
        obtain ⟨v, rfl, hq⟩ := z
        exact wpAny_pure hq
  simpa only using Z.stc (Z.Stw.mk 5) hn key
end
def BlQ (f : Bool → Bool) (Q : VK) : VK := fun v H' => ∃ b, v = .bl b ∧ Q (.bl (f b)) H'
def rEqO (f : Bool → Bool) (C : Addr) (sp : Sp) : R2 := fun x y H Q => ∃ a b dx dy fs gs, x = .ref a ∧ y = .ref b ∧ H a = some (.ins C dx fs) ∧ H b = some (.ins C dy gs) ∧ sp [.ref a, .ref b] H (BlQ f Q) E0
section
variable {X : Cx} {k j : Nat} {C : Addr} {sp : Sp}
theorem op_zNeO (T : InsC X.K C) (c : Met X.prog X.w X.K X.mg X.base k C "__eq__" sp []) (hr : Room j X.A) (hk : k + 1 ≤ j) : OpR X (compareOp .NotEq) (rEqO (fun b => !b) C sp) := by
  refine no_implicit_lambda% (@Z.stp _ ?_ (fun key hn => ?_))
  ·
      intro pins s σ H x y v u Q I rx ry h
      obtain ⟨a, b, dx, dy, fs, gs, rfl, rfl, ha, hb, q⟩ := h
      cases rx
      cases ry
      obtain ⟨f, fd, ps, ds, c1, hm, F, bi, d⟩ := c.ex
      obtain ⟨mA, J, _⟩ := ins_get I.hok ha
      obtain ⟨mB, J', _⟩ := ins_get I.hok hb
      obtain ⟨od, J, _⟩ := J.look
      obtain ⟨od', J', _⟩ := J'.look
      have hu : X.A.units + 1 < cLine := by have := hr.un; omega
      show wpAny (model X.prog X.w) X.A (richCompare .NotEq (.ref a) (.ref b)) (EP X pins σ Q) X.xe s
      refine rc_ne hu I.kIn T J (fun _ => J'.type) hm.at_ hm.fn (wpAny_mono (run_fnB (A := X.A.in1) (E := E0) (vs := [.ref a, .ref b]) (dvs := []) F (hr.mono hk).in1 rfl bi d passL I (.cons rfl (.cons rfl .nil)) q) (fun v s' z => ?_) fun _ _ e => e)
      obtain ⟨w, H', I', rw', i, rfl, q'⟩ := z
      obtain rfl : v = Value.bool i := rw'
      exact ⟨i, rfl, .bl (!i), H', I', rfl, q'⟩
  simpa only using Z.stc (Z.Stw.mk 5) hn key
theorem op_zEqO (c : Met X.prog X.w X.K X.mg X.base k C "__eq__" sp []) (hr : Room j X.A) (hk : k ≤ j) : OpR X (compareOp .Eq) (rEqO (fun b => b) C sp) := by
  refine no_implicit_lambda% (@Z.stp _ ?_ (fun key hn => ?_))
  ·
      intro pins s σ H x y v u Q I rx ry h
      obtain ⟨a, b, dx, dy, fs, gs, rfl, rfl, ha, hb, q⟩ := h
      cases rx
      cases ry
      obtain ⟨f, fd, ps, ds, c1, hm, F, bi, d⟩ := c.ex
      obtain ⟨mA, J, _⟩ := ins_get I.hok ha
      obtain ⟨mB, J', _⟩ := ins_get I.hok hb
      obtain ⟨od, J, _⟩ := J.look
      obtain ⟨od', J', _⟩ := J'.look
      obtain ⟨m, hF⟩ := I.fr
      show wpAny (model X.prog X.w) X.A (richCompare .Eq (.ref a) (.ref b)) (EP X pins σ Q) X.xe s
      refine PySem.W.cmp_K (op := .Eq) (tb := .ref C) (by have := hr.un; omega) hF I.ok.mod.kin J J'.type (by simp [PySem.W.notFirst]) hm.at_ hm.fn (wpAny_mono (run_fnB (A := X.A) (E := E0) (vs := [.ref a, .ref b]) (dvs := []) F (hr.mono hk) rfl bi d passL I (.cons rfl (.cons rfl .nil)) q) (fun v s' z => ?_) fun _ _ e => e)
      obtain ⟨w, H', I', rw', i, rfl, q'⟩ := z
      obtain rfl : v = Value.bool i := rw'
      exact ⟨.bl i, H', I', rfl, q'⟩
  simpa only using Z.stc (Z.Stw.mk 5) hn key
end
section
variable {K : PySem.W.Frag} {C a b dx dy : Addr} {sp : Sp} {H : Hp} {L R R' : HL} {Q : VK} {fs gs : List (Str × V)} {f : Bool → Bool} {c : Bool} {x y : V}
theorem w_eqO (O : Own H L) (p : Pk L (obj a C dx fs) R) (p2 : Pk L (obj b C dy gs) R') (k : sp [.ref a, .ref b] H (BlQ f Q) E0) : rEqO f C sp (.ref a) (.ref b) H Q := ⟨a, b, dx, dy, fs, gs, rfl, rfl, O.ins p, O.ins p2, k⟩
theorem w_eqOG (h : rEqO f C sp x y H Q) : rEqO f C sp x y H Q := h
theorem w_blQ (k : Q (.bl (f c)) H) : BlQ f Q (.bl c) H := ⟨c, rfl, k⟩
theorem w_isiO (T : InsC K C) (cl : Cls K C) (O : Own H L) (p : Pk L (obj a C dx fs) R) (k : Q (.bl true) H) : zIsi K [.ref a, .ref C] H Q := ⟨_, _, _, _, true, rfl, .own C, .base (.ins (O.ins p) cl T.cl T.gt T.tk T.ob), T.ki, k⟩
theorem w_isiG (h : zIsi K [.ref a, .ref C] H Q) : zIsi K [.ref a, .ref C] H Q := h
end
/-! ### defs called within an except suite that take the caught error -/
structure FnZ (P : Program) (w : World) (K : PySem.W.Frag) (mg : Str → Option Value) (base : Heap) (k : Nat) (f : Addr) (fd : FuncData) (ps : List Str) (sz : Addr → Value → Option Addr → Sp) : Prop where
  ln : ∀ a c d vs H Q E, sz a c d vs H Q E → vs.length = ps.length
  go : ∀ (A : Around) (outer : List Env) (s : Shared) (H : Hp) (args : Args) (us : List Value) (vs : List V) (Q : VK) (E : XK) (p : Addr × Obj) (c : Value) (d : Option Addr), L2H.RoomH k A → Zc c d p.2 → (∃ vs, p.2.data = .fields vs) → L2H.PinOk outer H s p → Env0 P w K mg base A outer s H → BindsTo s fd args (ps.zip us) → Vals vs us → sz p.1 c d vs H Q E →
    codeAny (model P w) A (.call (.ref f) args) (CR (L2.CX P w) outer P w H s Q E) s
open PyProof.Rows HotX in
theorem fn_ofZ {P : Program} {w : World} {K : PySem.W.Frag} {mg : Str → Option Value} {base : Heap} {x qual : Str} {st : Stmt} {f : Addr} {fd : FuncData} {N ps : List Str} {k : Nat} {sz : Addr → Value → Option Addr → Sp} (F : FunD K x qual (defArgs st) (defBody st) (defScope st) [] [] f fd) (S : FnScope N ps (defScope st))
    (ln : ∀ a c d vs H Q E, sz a c d vs H Q E → vs.length = ps.length)
    (hbody : ∀ (cdv : Value) (A : Around) (outer : List Env) (s : Shared) (H : Hp) (vs : List V) (Q : VK) (E : XK) (a : Addr) (oe : Obj) (cls : Value) (d : Option Addr), L2H.RoomH k (A.deeper (PyProof.Rows.envOfC qual (defScope st) s.heap.objs.size f cdv)) → Zc cls d oe → (∃ vs, oe.data = .fields vs) → sz a cls d vs H Q E →
      ∃ t, PSs (L2H.cxH (L2.CX P w) P w K mg base N qual (defScope st) f cdv A outer s H E (a, oe)) (defBody st) t ∧ t ⟨fun _ H' => Q .non H', Q, fun _ _ => False, fun _ _ => False⟩ (start N vs) H) : FnZ P w K mg base (k + 1) f fd ps sz := by
  refine no_implicit_lambda% (@Z.stp _ ?_ (fun key hn => ?_))
  ·
      obtain ⟨oc, od, dV, kV, doc, pm, an, cdv, ct, osl, rfl, lk, hcd, _, _⟩ := F.ex
      refine ⟨ln, fun A outer s H args us vs Q E p c d hr hz hf hpin e0 hb r hsp => ?_⟩
      have hl := ln _ _ _ _ _ _ _ hsp
      have kin : K.In s.heap := e0.mod.kin.keeps fun b o e => (e0.bs b o e).1
      have nol : s.heap.NoLimit := e0.mod.nolimit.keeps fun b o e => (e0.bs b o e).1
      have kd : ∀ y ∈ ps.zip us, (defScope st).names.lookup y.1 = some .local ∨ ((defScope st).names.lookup y.1 = some .cell ∧ ((cellsFrom (s.heap.objs.size + 1) (defScope st).names []).lookup y.1).isSome = true) := fun y hy =>
        (S.par y.1 (List.of_mem_zip (show (y.1, y.2) ∈ ps.zip us from hy)).1).elim .inl fun q => .inr ⟨q, PySem.W.cellsFrom_some _ _ _ (.inl q)⟩
      refine codeAny_call_function hr.depth (kin _ _ lk) rfl S.co S.gen rfl (PySem.W.codeRec_of kin hcd) (hb _ _ _ _ ?_)
      refine wpAny_newFunctionEnv_cells S.kind kd fun env he s1 x => ?_
      subst he
      refine ⟨nol.keeps x.toInCall.keep, codeAny_func ?_⟩
      obtain ⟨t, ht, hq⟩ := hbody cdv A outer s H vs Q E p.1 p.2 c d (hr.deeper _) hz hf hsp
      have I : Inv (L2H.cxH (L2.CX P w) P w K mg base N qual (defScope st) f cdv A outer s H E (p.1, p.2)) [] (L2.start N vs) H s1 := L2H.inv_startH S hpin e0 hl r x
      refine wpAny_mono (ht.run [] s1 (L2.start N vs) H _ I hq) (fun fl s' hs => ?_) fun e s' z => z
      cases fl with
      | ret u =>
        obtain ⟨v, σ', H', J, rv, q⟩ := hs
        exact ⟨v, H', J.os, J.bare, J.base, J.hok, rv, q⟩
      | next =>
        obtain ⟨σ', H', J, q⟩ := hs
        exact ⟨V.non, H', J.os, J.bare, J.base, J.hok, rfl, q⟩
      | brk =>
        obtain ⟨_, _, _, q⟩ := hs
        exact q.elim
      | cont =>
        obtain ⟨_, _, _, q⟩ := hs
        exact q.elim
  simpa only using Z.stc (Z.Stw.mk 5) hn key
/-- such a def by its name at the top -/
structure ZCal (P : Program) (w : World) (K : PySem.W.Frag) (mg : Str → Option Value) (base : Heap) (k : Nat) (x : Str) (sz : Addr → Value → Option Addr → Sp) : Prop where
  ex : ∃ (f : Addr) (fd : FuncData) (ps : List Str), FnZ P w K mg base k f fd ps sz ∧ mg x = some (.ref f) ∧ PySem.W.keepIn K (.ref f) = true ∧ Binds K fd ps []
theorem ZCal.mono {P : Program} {w : World} {K : PySem.W.Frag} {mg : Str → Option Value} {base : Heap} {k j : Nat} {x : Str} {sz : Addr → Value → Option Addr → Sp} (c : ZCal P w K mg base k x sz) (h : k ≤ j) : ZCal P w K mg base j x sz := by
  refine no_implicit_lambda% (@Z.stp _ ?_ (fun key hn => ?_))
  ·
      obtain ⟨f, fd, ps, F, r⟩ := c.ex
      exact ⟨f, fd, ps, ⟨F.ln, fun A outer s H args us vs Q E p c d hr => F.go A outer s H args us vs Q E p c d (hr.mono h)⟩, r⟩
  simpa only using Z.stc (Z.Stw.mk 5) hn key
def tCallH (sz : Addr → Value → Option Addr → Sp) (a : Addr) (cls : Value) (d : Option Addr) (t : TA) : TE := fun σ H Q => t σ H fun vs H1 => sz a cls d vs H1 Q E0
theorem pe_cZ {X : Cx} {a : Addr} {oe : Obj} {cls : Value} {d : Option Addr} {pn : List (Addr × Obj)} {j k : Nat} {x : Str} {sz : Addr → Value → Option Addr → Sp} {e : Expr} {es : List Expr} {t : TA} {q pos : Pos} (hz : Zc cls d oe) (hf : ∃ vs, oe.data = .fields vs)
    (c : ZCal X.prog X.w X.K X.mg X.base k x sz) (hr : Room j X.A) (hk : k ≤ j) (hg : Gl X x) (ha : PA (X.suite a ((a, oe) :: pn)) (e :: es) t)
    (hdb : (x == ("__debug__" : Str)) = false := by decide) (he : starEach (e :: es) (X.suite a ((a, oe) :: pn)).env = (false, eval e (X.suite a ((a, oe) :: pn)).env) :: starEach es (X.suite a ((a, oe) :: pn)).env := by rfl) (hpl : (backTo pos (starEach es (X.suite a ((a, oe) :: pn)).env)).any (·.1) = false := by rfl) :
    PE (X.suite a ((a, oe) :: pn)) (.Call (.Name x q) (e :: es) [] pos) (tCallH sz a cls d t) := by
  obtain ⟨f, fd, ps, F, hm, kp, hb⟩ := c.ex
  refine ⟨fun pins s σ H Q I h => ?_⟩
  refine wpAny_Call_Name_kw (ld_glob (X := X.suite a ((a, oe) :: pn)) I hg hm ?_ hdb)
  refine PySem.W.callWith_K (h₀ := X.base) I.ok.mod.kin kp (thn (ha.run pos pins s σ H _ I h) fun us s1 ⟨vs, H1, I1, r, q1⟩ => ⟨I1.kIn, ?_⟩) he hpl
  have hl : us.length = ps.length := by rw [← r.length]; exact F.ln _ _ _ _ _ _ _ q1
  have b := hb s1 us I1.kIn (by rw [List.append_nil]; exact hl)
  rw [List.append_nil] at b
  have P1 := I1.pin (a, oe) (List.mem_append_left _ List.mem_cons_self)
  have hpin : L2H.PinOk X.stack H1 s1 (a, oe) := ⟨P1.1, P1.2.1, fun hm => (List.mem_cons.mp (I1.stkSub a hm)).elim P1.2.2.1 P1.2.2.2.1, P1.2.2.2.2⟩
  have hr2 : L2H.RoomH k (X.suite a ((a, oe) :: pn)).A := ⟨by have := (hr.mono hk).dp; exact this, by have := (hr.mono hk).un; exact this⟩
  refine wpAny_call (codeAny_mono (F.go _ _ s1 H1 ⟨us, []⟩ us vs Q E0 (a, oe) cls d hr2 hz hf hpin I1.env0 b r q1) fun r s' hq => ?_)
  cases r with
  | error e => exact passL pins σ H1 s1 e s' I1 hq
  | ok fl =>
    cases fl with
    | ret u => exact I1.after hq
    | next => exact False.elim hq
    | brk => exact False.elim hq
    | cont => exact False.elim hq
theorem uH {A : Around} {k : Nat} (hr : L2H.RoomH k A) : A.units + 64 < cLine := by have := hr.un; omega
theorem uJH {A : Around} {k : Nat} (hr : L2H.RoomH k A) : A.units + 65 < cLine := by have := hr.un; omega
theorem w_callH {sz : Addr → Value → Option Addr → Sp} {a : Addr} {cls : Value} {d : Option Addr} {t : TA} {σ : St} {H : Hp} {Q : VK} (h : t σ H fun vs H1 => sz a cls d vs H1 Q E0) : tCallH sz a cls d t σ H Q := h
theorem zcal_of {P : Program} {w : World} {K : PySem.W.Frag} {mg : Str → Option Value} {base : Heap} {x : Str} {st : Stmt} {k : Nat} {ps : List Str} {sz : Addr → Value → Option Addr → Sp} (d : ∃ f fd, Dfn K mg x st [] [] f fd) (ok : ∀ f fd, FunD K x x (defArgs st) (defBody st) (defScope st) [] [] f fd → FnZ P w K mg base k f fd ps sz)
    (hb : ∀ (kV doc pm : Value) (an : Option Addr) (cdv ct : Value) (us : List Value), us.length = ps.length → bindArgs (PySem.W.fnOf x x (defArgs st) (defBody st) (defScope st) .none kV doc pm an cdv ct) ⟨us, []⟩ = pure (ps.zip us)) : ZCal P w K mg base k x sz := by
  refine no_implicit_lambda% (@Z.stp _ ?_ (fun key hn => ?_))
  ·
      obtain ⟨f, fd, F, hm⟩ := d
      exact ⟨f, fd, ps, ok f fd F, hm, F.kp, F.bindsN hb⟩
  simpa only using Z.stc (Z.Stw.mk 5) hn key
/-! ### the caught error within a def it was handed to; list.count(True) -/
section
variable {X : Cx} {a : Addr} {oe : Obj} {cls : Value} {d : Option Addr}
theorem pin_inst {pins : List (Addr × Obj)} {σ : St} {H : Hp} {s : Shared} {D : Addr} (hp : (a, oe) ∈ X.pn) (hz : Zc (.ref D) d oe) (hf : ∃ vs, oe.data = .fields vs) (I : Inv X pins σ H s) (hd : ∀ dd, d = some dd → ∃ fs, H dd = some (.xd fs)) : ∃ od, PySem.W.InstAt s.heap a oe D od := by
  refine no_implicit_lambda% (@Z.stp _ ?_ (fun key hn => ?_))
  ·
      have hget := (I.pin (a, oe) (List.mem_append_left _ hp)).1
      obtain ⟨vs, hv⟩ := hf
      have nc : PySem.W.notCls oe := by unfold PySem.W.notCls; rw [hv]
      cases d with
      | none => exact ⟨none, hget, hz.1, nc, by rw [hz.2]; trivial⟩
      | some dd =>
        obtain ⟨fs, hx⟩ := hd dd rfl
        obtain ⟨mA, hns, hr⟩ := (show ObjOk X.prog X.w H s.heap dd (.xd fs) from I.hok dd _ hx)
        obtain ⟨od, ho, hl⟩ := lookIn_ns hns
        exact ⟨some od, hget, hz.1, nc, by rw [hz.2]; exact ho⟩
  simpa only using Z.stc (Z.Stw.mk 5) hn key
theorem call_isP (hp : (a, oe) ∈ X.pn) (hz : Zc cls d oe) (hf : ∃ vs, oe.data = .fields vs) : CallR X (.builtin "isinstance") (rIsZ X.K a cls d) := by
  refine no_implicit_lambda% (@Z.stp _ ?_ (fun key hn => ?_))
  ·
      intro pins s σ H xs us Q I r h
      obtain ⟨D, c, cv, b, rfl, C, hd, rfl, hcv, e, q⟩ := h
      obtain ⟨u1, u2, rfl, rx, rt⟩ := vals2 r
      cases rx
      have ec := hcv _ rt
      subst ec
      obtain ⟨od, J⟩ := pin_inst hp hz hf I hd
      exact PySem.W.kia_one (kit_exc C) I.kIn J e (fun z => nomatch z) fun tk => ⟨.bl b, H, I.tok tk, rfl, q⟩
  simpa only using Z.stc (Z.Stw.mk 5) hn key
theorem pe_xfP {e : Expr} {te : TE} {pos : Pos} {n : Str} (hp : (a, oe) ∈ X.pn) (hz : Zc cls d oe) (hf : ∃ vs, oe.data = .fields vs) (he : PE X e te)
    (hb : attributeBase e n X.env (eval e X.env) = eval e X.env := by rfl) : PE X (.Attribute e n pos) (tXfA X.K a cls d n te) := by
  constructor
  intro pins s σ H Q I h
  apply attr_of hb
  refine thn (he.run pins s σ H _ I h) ?_
  rintro u s1 ⟨x, H1, I1, rx, rfl, C, dd, fs, v, rfl, T, hno, rfl, hdd, hl, q⟩
  obtain rfl : u = Value.ref a := rx
  have pin1 := (I1.pin (a, oe) (List.mem_append_left _ hp)).1
  obtain ⟨vs, hvs⟩ := hf
  obtain ⟨m1, hns, hr⟩ := (show ObjOk X.prog X.w H1 s1.heap dd (.xd fs) from I1.hok dd _ hdd)
  obtain ⟨od, ho, lk⟩ := lookIn_ns hns
  obtain ⟨y, hy, ry⟩ := RelO.some_of (v := v) (o := m1 n) (by rw [← hl]; exact hr n)
  have ia : PySem.W.InstAt s1.heap a oe C (some od) := ⟨pin1, hz.1, by unfold PySem.W.notCls; rw [hvs], by rw [hz.2]; exact ho⟩
  exact HandSPX.exc_get I1.kIn ia T.ga T.gg T.exC (PySem.W.findObj_own T.hdC hno rfl (by rw [lk, hy])) (handed_of ry) ⟨v, H1, I1.tok _, ry, q⟩
end
def isT : Value → Bool
  | .bool b => b
  | _ => false
theorem vals_bools : ∀ {bs : List Bool} {us : List Value}, Vals (bs.map V.bl) us → us = bs.map Value.bool
  | [], _, h => by cases h; rfl
  | b :: bs, _, h => by
    cases h with
    | cons r rs =>
      cases (show _ = Value.bool b from r)
      rw [vals_bools rs]; rfl
def zCntB (K : PySem.W.Frag) : V → List V → Hp → VK → Prop := fun x xs H Q => ∃ (p : Addr) (bs : List Bool), x = .ref p ∧ xs = [.bl true] ∧ SqL K H p (bs.map V.bl) ∧ Q (.int (bs.count true : Nat)) H
theorem cnt_isT (bs : List Bool) : (bs.map Value.bool).countP isT = bs.count true := by
  refine no_implicit_lambda% (@Z.stp _ ?_ (fun key hn => ?_))
  ·
      induction bs with
      | nil => rfl
      | cons b bs ih =>
        rw [List.map_cons, List.countP_cons, List.count_cons, ih]
        cases b <;> rfl
  simpa only using Z.stc (Z.Stw.mk 5) hn key
theorem mt_zCntB {X : Cx} : MtR X "list.count" (zCntB X.K) := by
  refine no_implicit_lambda% (@Z.stp _ ?_ (fun key hn => ?_))
  ·
      intro pins s σ H x xs v us Q I rx rxs h
      obtain ⟨p, bs, rfl, rfl, hs, q⟩ := h
      cases rx
      obtain ⟨u, rfl, ru⟩ := rxs.one
      cases (show u = Value.bool true from ru)
      obtain ⟨its, rv, ⟨⟨cls, dd, data, sl⟩, n, ho, hc, hdn, hd⟩, hlen⟩ := I.list hs
      have hi := vals_bools rv
      subst hi
      dsimp only at hc hd
      subst hc hd
      refine call_meets PySem.F.slot_list_count ⟨_, ho, rfl⟩ PySem.F.entry_list_count (PySem.F.args_list_count_2 _ _) (SeqAt.list_countAt p (bs.map Value.bool).toArray n dd sl (.bool true) isT) ⟨ho, fun y hy => ?_, ?_⟩
      · obtain ⟨b, _, rfl⟩ := List.mem_map.mp (show y ∈ bs.map Value.bool by simpa using hy)
        have z := eqAt_V (A := X.A.in1) (s := s) (x := .bl true) (y := .bl b) rfl rfl rfl rfl
        have e : eqV (.bl b) (.bl true) = isT (.bool b) := by cases b <;> decide
        rw [e] at z
        exact z
      · refine ⟨.int (bs.count true : Nat), H, I.tok _, ⟨s.toks, ?_⟩, q⟩
        show Value.int (((bs.map Value.bool).toArray.toList.countP isT : Nat) : Int) s.toks = Value.int ((bs.count true : Nat) : Int) s.toks
        rw [List.toList_toArray, cnt_isT]
  simpa only using Z.stc (Z.Stw.mk 5) hn key
theorem w_cntB {K : PySem.W.Frag} {H : Hp} {L R : HL} {Q : VK} {a : Addr} {bs : List Bool} (O : Own H L) (ha : Pk L [(a, .lst (bs.map V.bl))] R) (k : Q (.int (bs.count true : Nat)) H) : zCntB K (.ref a) [.bl true] H Q := ⟨a, bs, rfl, rfl, .of (O.at1 ha), k⟩
theorem w_idxB {K : PySem.W.Frag} {H : Hp} {L R : HL} {Q : VK} {a : Addr} {bs : List Bool} (j : Nat) (O : Own H L) (ha : Pk L [(a, .lst (bs.map V.bl))] R) (hj : bs[j]? = some true) (hn : ∀ m, m < j → bs[m]? ≠ some true) (k : Q (.int (j : Nat)) H) : zIndex K (.ref a) [.bl true] H Q := by
  refine no_implicit_lambda% (@Z.stp _ ?_ (fun key hn => ?_))
  ·
      refine ⟨a, bs.map V.bl, .bl true, j, .bl true, rfl, rfl, .of (O.at1 ha), rfl, ?_, by rw [List.getElem?_map, hj]; rfl, by decide, ?_, k⟩
      · rw [List.all_eq_true]
        rintro x hx
        obtain ⟨b, _, rfl⟩ := List.mem_map.mp hx
        rfl
      · intro m z hm hz
        rw [List.getElem?_map] at hz
        cases e : bs[m]? with
        | none => rw [e] at hz; cases hz
        | some b =>
          rw [e] at hz
          cases hz
          cases b with
          | true => exact absurd e (hn m hm)
          | false => decide
  simpa only using Z.stc (Z.Stw.mk 5) hn key
/-! ### a call whose receiver is of one of two classes -/
def tOr2 (t1 t2 : TE) : TE := fun σ H Q => t1 σ H Q ∨ t2 σ H Q
theorem pe_or2 {X : Cx} {e : Expr} {t1 t2 : TE} (h1 : PE X e t1) (h2 : PE X e t2) : PE X e (tOr2 t1 t2) := ⟨fun pins s σ H Q I h => h.elim (h1.run pins s σ H Q I) (h2.run pins s σ H Q I)⟩
section
variable {W : WX} {C : Addr} {m : Str} {sp : Sp} {dvs : List V} {t : TA} {t1 t2 : TE} {σ : St} {H : Hp} {Q : VK} {L R : HL} {i : Nat} {a dx : Addr} {fs : List (Str × V)}
theorem w_or2v1 (hg : GetAt σ i (.ref a)) (O : Own H L) (p : Pk L (obj a C dx fs) R) (k : tMethE W C m sp dvs (tVar i) t σ H Q) : tOr2 (tMethE W C m sp dvs (tVar i) t) t2 σ H Q := .inl k
theorem w_or2v2 (hg : GetAt σ i (.ref a)) (O : Own H L) (p : Pk L (obj a C dx fs) R) (k : tMethE W C m sp dvs (tVar i) t σ H Q) : tOr2 t1 (tMethE W C m sp dvs (tVar i) t) σ H Q := .inr k
theorem w_or2l (k : t1 σ H Q) : tOr2 t1 t2 σ H Q := .inl k
theorem w_or2r (k : t2 σ H Q) : tOr2 t1 t2 σ H Q := .inr k
theorem w_or2G (k : tOr2 t1 t2 σ H Q) : tOr2 t1 t2 σ H Q := k
end
/-! ### own exceptions made with keywords -/
section
open PySem.HandSPX
variable {prog : Program} {w : World} {A : Around} {h : Heap} {g : Array GenState} {d : Drawn} {t : Nat} {os : OsState} {nm q : Str} {C N : Addr} {bs bm bmB : List Value} {hdct : Bool} {sn : List Str} {sub : List Value} {ab : Bool} {col : Option Bool} {dd : Option Addr} {k0 k1 k2 k3 k5 : Option Value} {B newId initId : String} {us : List Value} {kv : List (Str × Value)}
theorem chk_newK {M : Model} {A : Around} {E : Value → Shared → Prop} {Q : Unit → Shared → Prop} (F : ExcBaseFacts B newId initId bmB) (hT : ∀ X : String, bm.contains (.type X) = bmB.contains (.type X)) (hC : h.get? C = some (excClassObj nm q C N bs bm hdct sn sub ab col dd k0 k1 k2 k3 k5 newId)) (hq : Q () ⟨h, g, d, t, os⟩) :
    wpAny M A (checkBuiltinCall newId ⟨.ref C :: us, kv⟩) Q E ⟨h, g, d, t, os⟩ := by
  refine no_implicit_lambda% (@Z.stp _ ?_ (fun key hn => ?_))
  ·
      have z : (Value.ref C :: bm).contains (.type B) = true := by
        rw [List.contains_cons, hT, F.hasB, Bool.or_true]
      have y := F.noStar
      simp only [checkBuiltinCall, F.newKind, F.newSplit, F.newRow]
      repeat (first
        | refine wpAny_loadPart_at hC ?_
        | (refine wpAny_isSubtype_exc hC ?_
           rw [z])
        | refine wpAny_staticBase_exc hC ?_
        | refine wpAny_madeBy_exc hC ?_
        | simp only [bne_self_eq_false, Bool.false_eq_true, if_false]
        | wp_step)
      exact hq
  simpa only using Z.stc (Z.Stw.mk 5) hn key
theorem newK {R : Result → Shared → Prop} (F : ExcBaseFacts B newId initId bmB) (hT : ∀ X : String, bm.contains (.type X) = bmB.contains (.type X)) (hC : h.get? C = some (excClassObj nm q C N bs bm hdct sn sub ab col dd k0 k1 k2 k3 k5 newId)) (hl : us.length ≤ sizeLine)
    (hq : R (.ok (.ret (.ref (h.objs.size + 1)))) ⟨(h.push (W.kdv_tup us)).push (excO C h.objs.size), g, d, t, os⟩) : codeAny (model prog w) A (.builtin newId ⟨.ref C :: us, kv⟩) R ⟨h, g, d, t, os⟩ := by
  refine no_implicit_lambda% (@Z.stp _ ?_ (fun key hn => ?_))
  ·
      have y1 := F.ends
      have y2 : (Value.ref C :: bm).contains (.type B) = true := by
        rw [List.contains_cons, hT, F.hasB, Bool.or_true]
      have y3 : (Value.ref C :: bm).contains (.type "AttributeError") = false := by
        rw [List.contains_cons, hT, F.noAttr]
        rfl
      have y4 : (Value.ref C :: bm).contains (.type "NameError") = false := by
        rw [List.contains_cons, hT, F.noName]
        rfl
      refine codeAny_builtinAt F.entry ?_
      unfold Builtin.«BaseException.__new__»
      refine wpAt_bind ?_
      show wpAt _ _ _ (stack >>= _) _ _ _
      refine wpAt_bind (wpAt_stack fun p below => wpAt_of_wpAny ?_)
      wp_walk
      refine wpAt_of_wpAny ?_
      rw [F.owner]
      repeat (first
        | with_reducible refine wpAny_madeHere_exc F.canon hC ?_
        | with_reducible refine wpAny_loadPart_at hC ?_
        | (with_reducible refine wpAny_isSubtype_exc hC ?_
           first | rw [y2] | rw [y3] | rw [y4])
        | wp_step)
      show R _ _
      rw [Heap.size_push]
      exact hq
  simpa only using Z.stc (Z.Stw.mk 5) hn key
theorem typeK {E : Value → Shared → Prop} {fI : Addr} {Q : Fin → Shared → Prop} (F : ExcBaseFacts B newId initId bmB) (hT : ∀ X : String, bm.contains (.type X) = bmB.contains (.type X)) (hC : h.get? C = some (excClassObj nm q C N bs bm hdct sn sub ab col dd k0 k1 k2 k3 k5 newId))
    (hi : PySem.W.Looks (model prog w) h (typeLookup (.ref C) "__init__") (some (.ref fI))) (hb : ∀ self, PySem.W.Looks (model prog w) h (bindSpecial (.ref fI) self) (.ref fI, [self])) (hl : us.length ≤ sizeLine)
    (hq : codeAny (model prog w) A (.call (.ref fI) ⟨.ref (h.objs.size + 1) :: us, kv⟩) (fun r s' => match r with
        | .ok (.ret v) => v = .none ∧ Q (.done (.ret (.ref (h.objs.size + 1)))) s'
        | .ok _ => False
        | .error e => E e s') ⟨(h.push (W.kdv_tup us)).push (excO C h.objs.size), g, d, t, os⟩) : wpAny (model prog w) A (Builtin.«type.__call__» ⟨.ref C :: us, kv⟩) Q E ⟨h, g, d, t, os⟩ := by
  repeat (first
    | with_reducible refine wpAny_loadPart_at hC ?_
    | with_reducible refine wpAny_madeBy_exc hC ?_
    | wp_step)
  refine codeAny_call_builtin_code (Code.quiet_builtin _ F.quiet) (chk_newK F hT hC ?_)
  refine newK F hT hC hl ?_
  show wpAny _ _ _ _ _ _
  have y1 : ∀ b o, h.get? b = some o → ((h.push (W.kdv_tup us)).push (excO C h.objs.size)).get? b = some o := fun b o e =>
    Heap.get?_push_of_some _ (Heap.get?_push_of_some _ e)
  have y2 := y1 _ _ hC
  have y3 : ((h.push (W.kdv_tup us)).push (excO C h.objs.size)).get? (h.objs.size + 1) = some (excO C h.objs.size) := by
    heap_get
  have y4 : (Value.ref C :: bm).contains (.ref C) = true := by
    simp
  have y5 := hi.keeps y1
  have y6 := (hb (.ref (h.objs.size + 1))).keeps y1
  unfold isInstance
  repeat (first
    | with_reducible refine wpAny_loadPart_at y3 ?_
    | (with_reducible refine wpAny_isSubtype_exc y2 ?_
       rw [y4])
    | wp_step)
  show wpAny _ _ (typeLookup (.ref C) _) _ _ _
  refine y5.at ?_
  refine wpAny_holding (wpAny_bind (y6.at ?_))
  refine wpAny_bind (wpAny_call (codeAny_mono hq fun r s' z => ?_))
  rcases r with e | (v | _ | _ | _)
  all_goals try first | exact z | exact False.elim z
  obtain ⟨rfl, y7⟩ := z
  first
    | exact wpAny_pure (wpAny_pure y7)
    | (wp_walk; exact y7)
theorem callK {R : Result → Shared → Prop} {fI : Addr} (F : ExcBaseFacts B newId initId bmB) (hT : ∀ X : String, bm.contains (.type X) = bmB.contains (.type X)) (hC : h.get? C = some (excClassObj nm q C N bs bm hdct sn sub ab col dd k0 k1 k2 k3 k5 newId))
    (hi : PySem.W.Looks (model prog w) h (typeLookup (.ref C) "__init__") (some (.ref fI))) (hb : ∀ self, PySem.W.Looks (model prog w) h (bindSpecial (.ref fI) self) (.ref fI, [self])) (hl : us.length ≤ sizeLine)
    (hq : codeAny (model prog w) (A.under (.builtin "type.__call__" ⟨.ref C :: us, kv⟩)) (.call (.ref fI) ⟨.ref (h.objs.size + 1) :: us, kv⟩) (W.InitBack (h.objs.size + 1) R) ⟨(h.push (W.kdv_tup us)).push (excO C h.objs.size), g, d, t, os⟩) :
    codeAny (model prog w) A (.call (.ref C) ⟨us, kv⟩) R ⟨h, g, d, t, os⟩ := by
  refine no_implicit_lambda% (@Z.stp _ ?_ (fun key hn => ?_))
  ·
      have y1 := tc_lookup
      have y2 := tc_bind (.ref C)
      have y3 : (⟨h, g, d, t, os⟩ : Shared).TypeIs (.ref C) "type" := ⟨_, hC, rfl⟩
      refine codeAny_of_tree ?_
      show wpAny _ _ (callAny (.ref C) _) _ _ _
      repeat (any_goals (first | assumption | with_reducible refine wpAny_loadPart_at hC ?_ | wp_step))
      refine ⟨rfl, ?_⟩
      refine codeAny_call_builtin_at (Code.quiet_builtin _ (by decide +kernel)) entry_typeCall (wpAny_check_type_call_sub hC (typeK F hT hC hi hb hl ?_))
      refine codeAny_mono hq fun r s' z => ?_
      rcases r with e | (v | _ | _ | _)
      all_goals exact z
  simpa only using Z.stc (Z.Stw.mk 5) hn key
end
section Rws
open PyProof.Rows
/-! ### try with several clauses whose suites may raise out -/
section
variable {X : Cx} {pins : List (Addr × Obj)} {σ : L2.St} {H : Hp} {s : Shared}
/-- a clause's name goes: what else stands in the heap stays -/
theorem gone_b {M : Model} {A : Around} {E : Value → Shared → Prop} {i : Nat} {n : Str} {pos : Pos} {Q : Unit → Shared → Prop} (I : Inv X pins σ H s) (hN : X.N.Nodup) (hi : X.N[i]? = some n) (hl : X.env.kindOf n = some .local)
    (h : ∀ h7, Inv X pins (σ.set i none) H { s with heap := h7, toks := s.toks + 1 } → Heap.SameBut X.env.locals s.heap h7 → (∃ o, h7.get? X.env.locals = some o ∧ ∀ vs, o.data ≠ .fields vs) → Q () { s with heap := h7, toks := s.toks + 1 }) :
    wpAny M A (do bindName X.env n .none; unbindBehindTheSuite X.env n pos) Q E s := by
  obtain ⟨m, hn, hlk⟩ := id I.loc
  have e0 : (X.env.scope.kind == .class || (X.env.scope.kind == .module && X.env.locals != X.env.globals)) = false := by
    rw [I.ok.kind]
    rfl
  refine wpAny_nameGoes_keeps hl hn e0 fun h7 v n7 b7 => h h7 ?_ b7 ?_
  · obtain ⟨oL, _, _, hoL, _⟩ := id hn
    have e1 : ∀ c u, X.s_0.heap.get? c = some u → c ≠ X.env.locals := fun c u z => Nat.ne_of_lt (Nat.lt_of_lt_of_le (Heap.lt_size z) I.ok.above)
    refine ⟨I.ok, I.os, I.bare, ⟨fun c u z f1 f2 f3 => ?_, fun c u z f1 f2 f3 => ?_, I.base.free, fun c u z f1 => ?_, I.base.tups, I.base.frzs, I.base.tbls⟩, ⟨_, n7, fun j y v' f1 f2 f3 => ?_⟩, fun y c z => ?_, I.free, I.freeC, fun p hp => ?_, fun c ob z => ?_, by simpa using I.len⟩
    · rw [b7.2 c (e1 c u z)]
      exact I.base.keep c u z f1 f2 f3
    · obtain ⟨sl, f4⟩ := I.base.slot c u z f1 f2 f3
      exact ⟨sl, by rw [b7.2 c (e1 c u z)]; exact f4⟩
    · obtain ⟨o', f4⟩ := I.base.there c u z f1
      exact ⟨o', by rw [b7.2 c (e1 c u z)]; exact f4⟩
    · by_cases hj : j = i
      · subst hj
        exfalso
        by_cases hlt : j < σ.length
        · rw [List.getElem?_set_self hlt] at f2
          cases f2
        · rw [List.getElem?_eq_none (by simpa using hlt)] at f2
          cases f2
      · rw [List.getElem?_set_ne (Ne.symm hj)] at f2
        obtain ⟨u', r', q⟩ := hlk j y v' f1 f2 f3
        refine ⟨u', r', ?_⟩
        rcases q with ⟨k, e⟩ | ⟨k, c, e, z⟩
        · left
          refine ⟨k, ?_⟩
          have ny : y ≠ n := fun z => hj (nodup_ix hN f1 (by rw [z]; exact hi))
          exact (if_neg ny).trans e
        · right
          exact ⟨k, c, e, z.sameBut b7 (I.cne y c e)⟩
    · obtain ⟨w', f4⟩ := I.cell y c z
      exact ⟨w', f4.sameBut b7 (I.cne y c z)⟩
    · obtain ⟨f1, f2, f3, f4, f5⟩ := I.pin p hp
      exact ⟨by rw [b7.2 p.1 f3]; exact f1, f2, f3, f4, f5⟩
    · refine (I.hok c ob z).stay (fun c' w' hc q => ?_) (fun _ q => q) fun _ _ q => q
      rw [b7.2 c' ?_]
      · exact q
      · intro y
        subst y
        rcases hc with hc | hc
        · rw [← hc, I.free] at z
          cases z
        · rw [I.free] at hc
          cases hc
  · obtain ⟨o, es, ep, z1, z2, _⟩ := n7
    exact ⟨o, z1, fun vs z => by rw [z2] at z; cases z⟩
end
/-- the clauses: suites that may raise out; the caught error has no context -/
inductive HdsX (X : Cx) (Wout : WX) : List ExceptHandler → List (Option Nat × Value × (Addr → Value → Option Addr → TS)) → Prop
  | nil : HdsX X Wout [] []
  | only {x : Str} {c : Value} {ts : Addr → Value → Option Addr → TS} {b₀ : Stmt} {suite : List Stmt} {np pos' : Pos} {hds : List ExceptHandler} {l : List (Option Nat × Value × (Addr → Value → Option Addr → TS))} (hc : Names X x c)
      (hsu : ∀ (a : Addr) (oe : Obj) (cls : Value) (d : Option Addr) (pn : List (Addr × Obj)) (ye : Value → Shared → Prop), Zc cls d oe → (∃ vs, oe.data = .fields vs) → L2.Takes { L2H.suiteX X a ((a, oe) :: pn) with xe := ye } Wout → L2H.HotC { L2H.suiteX X a ((a, oe) :: pn) with xe := ye } →
        PSs { L2H.suiteX X a ((a, oe) :: pn) with xe := ye } (b₀ :: suite) (ts a cls d)) (r : HdsX X Wout hds l) : HdsX X Wout (.ExceptHandler (some (.Name x np)) none (b₀ :: suite) pos' :: hds) ((none, c, ts) :: l)
  | as {x n : Str} {i : Nat} {c : Value} {ts : Addr → Value → Option Addr → TS} {b₀ : Stmt} {suite : List Stmt} {np pos' : Pos} {hds : List ExceptHandler} {l : List (Option Nat × Value × (Addr → Value → Option Addr → TS))} (hi : X.N[i]? = some n) (hln : X.env.kindOf n = some .local) (hc : Names X x c)
      (hsu : ∀ (a : Addr) (oe : Obj) (cls : Value) (d : Option Addr) (pn : List (Addr × Obj)) (ye : Value → Shared → Prop), Zc cls d oe → (∃ vs, oe.data = .fields vs) → L2.Takes { L2H.suiteX X a ((a, oe) :: pn) with xe := ye } Wout → L2H.HotC { L2H.suiteX X a ((a, oe) :: pn) with xe := ye } →
        PSs { L2H.suiteX X a ((a, oe) :: pn) with xe := ye } (b₀ :: suite) (ts a cls d)) (r : HdsX X Wout hds l) : HdsX X Wout (.ExceptHandler (some (.Name x np)) (some n) (b₀ :: suite) pos' :: hds) ((some i, c, ts) :: l)
section
variable {X : Cx} {body : List Stmt} {h₀ : ExceptHandler} {hds : List ExceptHandler} {l : List (Option Nat × Value × (Addr → Value → Option Addr → TS))} {pos : Pos} {tb : WX → TS} {Wout : WX}
/-- an error flies on out of the def's try -/
theorem fly_out {pins : List (Addr × Obj)} {σ' : L2.St} {H' : Hp} {sI s' : Shared} {B : Heap} {a : Addr} {cls : Value} {d : Option Addr} {A : Around} {w0 : String} {Q : Flow → Shared → Prop} {E : Value → Shared → Prop} (hs : X.stack = X.env :: X.outer) (hf : X.env.frame = some X.env.locals)
    (J : Inv X pins σ' H' sI) (nb : ∀ b o, sI.heap.get? b = some o → b ∉ frs X.stack → B.get? b = some o) (up : sI.heap.UpToSlots s'.heap) {v0 : Value} (fl : B.StaysIn s'.heap ∧ B.get? a = none ∧ s'.heap.FunFrames B (X.env :: X.outer) ∧ HandSPX.TracedZ s'.heap B a (Zc cls d) v0) (na : H' a = none) (os : s'.os = sI.os) (ag : AllBare s'.gens) (w : Wout cls d σ' H')
    (k : ∀ s4, L2.XE X Wout (.ref a) s4 → E (.ref a) s4) : wpAny (model X.prog X.w) A (passOn w0 (.ref a) X.env : Sem Flow) Q E s' := by
  refine no_implicit_lambda% (@Z.stp _ ?_ (fun key hn => ?_))
  ·
      obtain ⟨z1, z2, z3, z0⟩ := fl
      obtain ⟨oe, vs, T, oT, ts', z4, z5, z6, z7, z8⟩ := id z0
      unfold PySem.passOn
      refine wpAny_bind (wpAny_field z4 z6 z7 ?_)
      rw [if_neg (show ¬ ((Value.ref T == Value.none) = true) from by simp)]
      have fin : wpAny (model X.prog X.w) A (setFlight (.ref a) X.env.frame) (fun _ s4 => wpAny (model X.prog X.w) A (throw (.ref a) : Sem Flow) Q E s4) E s' := by
        rw [hf]
        refine HandSPX.setFlight_anyZ z1 z3 z0 fun h4 k1 k2 k3 up4 => wpAny_throw (k _ ?_)
        exact ⟨a, B, sI, pins, σ', H', cls, d, rfl, J, nb, up.trans up4, .inr (.inr (by rw [hs]; exact ⟨k1, z2, k2, k3⟩)), na, os, ag, w⟩
      first
        | exact wpAny_bind (wpAny_pure (wpAny_bind fin))
        | exact wpAny_bind fin
  simpa only using Z.stc (Z.Stw.mk 5) hn key
theorem ps_tryX (hex : X.ex = []) (hN : X.N.Nodup) (hs : X.stack = X.env :: X.outer) (hf : X.env.frame = some X.env.locals) (hpa : ∀ hd : Option Value, PassesOwnAt (model X.prog X.w) (X.A.mark hd) X.A X.env X.xe) (tk : L2.Takes X Wout) (hW : ∀ c d σ σ' H, Wout c d σ H → Wout c d σ' H)
    (hb : ∀ (W : WX) (pn : List (Addr × Obj)) (xe : Value → Shared → Prop), L2N.Takes (X.tr pn xe) W → PassesOwn (model X.prog X.w) X.A X.env xe → PSs (X.tr pn xe) body (tb W)) (hh : HdsX X Wout (h₀ :: hds) l) : PS X (.Try body (h₀ :: hds) [] [] pos) (fun D σ H => tb (wZ X.K Wout D l) D σ H) := by
  refine no_implicit_lambda% (@Z.stp _ ?_ (fun key hn => ?_))
  ·
      refine ⟨fun pins s σ H D I h => ?_⟩
      have ok := I.ok
      have hfr : X.A.frames = some (X.env :: X.outer) := by
        rw [ok.frames, hs]
      refine wpAny_Try_except ?_
      refine wpAny_mono ((hb (wZ X.K Wout D l) (X.pn ++ pins) (fun e s₁ => wpAny (model X.prog X.w) X.A (noteFrame e X.env) (fun _ s₂ => wpAny (model X.prog X.w) X.A (setFlight e none) (fun _ s₃ => wpAny (model X.prog X.w) X.A (handleBy e X.env (h₀ :: hds)) (SP X pins D) X.xe s₃) X.xe s₂) X.xe s₁) (fun u s' xx => ?_)
        PassesOwn.looking).run [] s σ H D (I.toTry _) h) (fun f s1 hsp => ?_) (fun e s1 he => he)
      · obtain ⟨a, B, sI, pins', σ', H', cls, d, rfl, J', nb, up, sky, na, os, ag, w⟩ := xx
        have J : Inv X pins σ' H' sI := J'.ofTry ok
        have sky1 : Sky B (X.env :: X.outer) a (L2N.Zn cls d) X.env.locals s'.heap := by
          rw [← hs]
          exact sky
        show wpAny (model X.prog X.w) X.A (noteFrame (.ref a) X.env) _ _ _
        refine L2N.Sky.land L2N.Zn.steady hfr hf sky1 fun h3 fl3 up3 => ?_
        have J3 : Inv X pins σ' H' { s' with heap := h3 } := J.landed nb fl3.1 (up.trans up3) os ag
        obtain ⟨oe3, vs3, he3, hz3, hd3⟩ := fl3.there
        have noFr : ∀ {h : Heap} {o : Obj} {vs : Array Value}, h.FunFrames B (X.env :: X.outer) → h.get? a = some o → o.data = .fields vs → a ∉ frs (X.env :: X.outer) := fun {h o vs} z1 z2 z3 z4 => by
          obtain ⟨_, o', z5, z6⟩ := z1.mem z4
          rw [z2] at z5
          cases z5
          exact z6 _ z3
        have nfr := noFr fl3.2.2.1 he3 hd3
        have nL : a ≠ X.env.locals := fun z => nfr (List.mem_filterMap.mpr ⟨X.env, List.mem_cons_self, by rw [hf, z]⟩)
        have nF : a ∉ X.fs := fun hm => by
          obtain ⟨e, he, q⟩ := List.mem_filterMap.mp hm
          exact nfr (List.mem_filterMap.mpr ⟨e, List.mem_cons_of_mem _ he, q⟩)
        have S3 := J3.suite he3 hd3 na nL nF
        have LT : PySem.W.Looks (model X.prog X.w) h3 (typeOf (.ref a)) cls := fun A Q E s k q => wpAny_typeOf_ref (k _ _ he3) (by rw [hz3.1]; exact q)
        have test : ∀ {x : Str} {c : Value} {np : Pos} {Q : Value → Shared → Prop} {E : Value → Shared → Prop}, Names X x c → Q c { s' with heap := h3 } → wpAny (model X.prog X.w) (X.A.mark (some (.ref a))) (eval (.Name x np) X.env) Q E { s' with heap := h3 } := fun {x c np Q E} hc q => by
          obtain ⟨z1, z2, z3 | ⟨z3, z4, z5⟩⟩ := hc
          · exact ld_glob (X := X.suite a ((a, oe3) :: (X.pn ++ pins))) S3 z1 z3 q z2
          · exact ld_blt (X := X.suite a ((a, oe3) :: (X.pn ++ pins))) S3 z1 z3 z4 q z5 z2
        have go : ∀ {hds' : List ExceptHandler} {l' : List (Option Nat × Value × (Addr → Value → Option Addr → TS))}, HdsX X Wout hds' l' → wZ X.K Wout D l' cls d σ' H' →
            wpAny (model X.prog X.w) X.A (handleBy (.ref a) X.env hds') (SP X pins D) X.xe { s' with heap := h3 } := by
          intro hds' l' hk
          induction hk with
          | nil =>
            intro w
            refine wpAny_handleBy_nil ?_
            exact fly_out (s' := { s' with heap := h3 }) hs hf J nb (up.trans up3) (L2H.flyingZ_imp (fun o z => z.zc) fl3) na os ag w (fun s4 z => tk _ _ z)
          | @only x c ts b₀ suite np pos' hds2 l2 hc hsu r ih =>
            intro w
            obtain ⟨b, hb1, hyes, hno⟩ := w
            refine wpAny_handleBy_cons (codeAny_handlers_test ?_) (by intro q; cases q)
            have LM := PySem.W.exm_one (M := model X.prog X.w) (J3.kIn) LT hb1
            refine test hc (LM.here ?_)
            cases b with
            | true =>
              refine codeAny_handlers_suite ?_
              refine HandSPX.lands_againZ fl3 fun h4 fl4 up4 => ?_
              have J4 : Inv X pins σ' H' { s' with heap := h4 } := J.landed nb fl4.1 ((up.trans up3).trans up4) os ag
              obtain ⟨oe4, vs4, he4, hz4, hd4⟩ := fl4.there
              have S4 := J4.suite he4 hd4 na nL nF
              have tkS : L2.Takes (L2H.suiteX X a ((a, oe4) :: (X.pn ++ pins))) Wout := fun u2 s2 x2 => by
                obtain ⟨a2, B2, sI2, pn2, σ2, H2, cls2, d2, e2, I2, nb2, up2, sky2, na2, os2, ag2, w2⟩ := x2
                exact tk u2 s2 ⟨a2, B2, sI2, pins, σ2, H2, cls2, d2, e2, L2H.unsuiteX I2 ok, nb2, up2, sky2, na2, os2, ag2, w2⟩
              have hot : L2H.HotC (L2H.suiteX X a ((a, oe4) :: (X.pn ++ pins))) := ⟨(a, oe4), ⟨rfl, vs4, hd4, hz4.2.2 vs4 hd4⟩, List.mem_cons_self⟩
              refine wpAny_mono ((hsu a oe4 cls d (X.pn ++ pins) X.xe hz4.zc ⟨_, hd4⟩ tkS hot).run [] _ _ H' _ (L2H.suiteX_of S4) (hyes rfl a na)) (fun f s6 hsp => ?_) (fun e6 s6 z => hpa (some (.ref a)) e6 s6 z)
              cases f with
              | next =>
                obtain ⟨σ6, H6, S6, q6⟩ := hsp
                exact ⟨_, _, L2H.unsuiteX S6 ok, q6⟩
              | brk =>
                obtain ⟨σ6, H6, S6, q6⟩ := hsp
                exact ⟨_, _, L2H.unsuiteX S6 ok, q6⟩
              | cont =>
                obtain ⟨σ6, H6, S6, q6⟩ := hsp
                exact ⟨_, _, L2H.unsuiteX S6 ok, q6⟩
              | ret u =>
                obtain ⟨v6, σ6, H6, S6, r6, q6⟩ := hsp
                exact ⟨_, _, _, L2H.unsuiteX S6 ok, r6, q6⟩
            | false =>
              show wpAny _ X.A (handleBy (.ref a) X.env hds2) _ _ _
              exact ih (hno rfl)
          | @as x n i c ts b₀ suite np pos' hds2 l2 hi hln hc hsu r ih =>
            intro w
            obtain ⟨b, hb1, hyes, hno⟩ := w
            have hloc : Loc X.env.scope n := .inl hln
            refine wpAny_handleBy_cons (codeAny_handlers_test ?_) (by intro q; cases q)
            have LM := PySem.W.exm_one (M := model X.prog X.w) (J3.kIn) LT hb1
            refine test hc (LM.here ?_)
            cases b with
            | true =>
              refine codeAny_handlers_suite_as ?_
              refine HandSPX.lands_againZ fl3 fun h4 fl4 up4 => ?_
              have J4 : Inv X pins σ' H' { s' with heap := h4 } := J.landed nb fl4.1 ((up.trans up3).trans up4) os ag
              obtain ⟨oe4, vs4, he4, hz4, hd4⟩ := fl4.there
              have S4 := J4.suite he4 hd4 na nL nF
              refine store_ok (X := X.suite a ((a, oe4) :: (X.pn ++ pins))) (v := .ref a) S4 hN hi hloc rfl (fun s5 S5 => ?_) (.inr hln)
              let ye : Value → Shared → Prop := fun u s7 => L2.XE { X with xe := fun u s8 => True } Wout u s7
              have tkS : L2.Takes { L2H.suiteX X a ((a, oe4) :: (X.pn ++ pins)) with xe := ye } Wout := fun u2 s2 x2 => by
                obtain ⟨a2, B2, sI2, pn2, σ2, H2, cls2, d2, e2, I2, nb2, up2, sky2, na2, os2, ag2, w2⟩ := x2
                exact ⟨a2, B2, sI2, pins, σ2, H2, cls2, d2, e2, (L2H.unsuiteX (I2.unwish (X := L2H.suiteX X a ((a, oe4) :: (X.pn ++ pins)))) ok).wish _, nb2, up2, sky2, na2, os2, ag2, w2⟩
              have hot : L2H.HotC { L2H.suiteX X a ((a, oe4) :: (X.pn ++ pins)) with xe := ye } := ⟨(a, oe4), ⟨rfl, vs4, hd4, hz4.2.2 vs4 hd4⟩, List.mem_cons_self⟩
              refine wpAny_mono ((hsu a oe4 cls d (X.pn ++ pins) ye hz4.zc ⟨_, hd4⟩ tkS hot).run [] s5 _ H' _ ((L2H.suiteX_of S5).wish _) (hyes rfl a na)) (fun f s6 hsp => ?_) (fun e6 s6 z => ?_)
              · have end_ : ∀ {σ6 : L2.St} {H6 : Hp} {Q : Shared → Prop}, Inv X pins σ6 H6 s6 → (∀ s7, Inv X pins (σ6.set i none) H6 s7 → Q s7) → wpAny (model X.prog X.w) X.A (do bindName X.env n .none; unbindBehindTheSuite X.env n pos') (fun _ s7 => Q s7) X.xe s6 := fun {σ6 H6 Q} S6 hq => gone_ok S6 hN hi hln hq
                have back : ∀ {σ6 : L2.St} {H6 : Hp}, Inv { L2H.suiteX X a ((a, oe4) :: (X.pn ++ pins)) with xe := ye } [] σ6 H6 s6 → Inv X pins σ6 H6 s6 := fun z => L2H.unsuiteX (z.unwish (X := L2H.suiteX X a ((a, oe4) :: (X.pn ++ pins)))) ok
                cases f with
                | next =>
                  obtain ⟨σ6, H6, S6, q6⟩ := hsp
                  exact end_ (back S6) fun s7 J7 => ⟨_, _, J7, q6⟩
                | brk =>
                  obtain ⟨σ6, H6, S6, q6⟩ := hsp
                  exact end_ (back S6) fun s7 J7 => ⟨_, _, J7, q6⟩
                | cont =>
                  obtain ⟨σ6, H6, S6, q6⟩ := hsp
                  exact end_ (back S6) fun s7 J7 => ⟨_, _, J7, q6⟩
                | ret u =>
                  obtain ⟨v6, σ6, H6, S6, r6, q6⟩ := hsp
                  exact end_ (back S6) fun s7 J7 => ⟨_, _, _, J7, r6, q6⟩
              · obtain ⟨a2, B2, sI2, pn2, σ2, H2, cls2, d2, rfl, I2, nb2, up2, sky2, na2, os2, ag2, w2⟩ := z
                have J2 : Inv X pn2 σ2 H2 sI2 := I2.unwish (X := X)
                have sky3 : Sky B2 (X.env :: X.outer) a2 (Zc cls2 d2) X.env.locals s6.heap := by
                  rw [← hs]
                  exact sky2
                show wpAny _ _ (noteFrame (.ref a2) X.env) _ _ _
                have fin : ∀ {Q : Unit → Shared → Prop} {E : Value → Shared → Prop}, (∀ h5, HandSPX.HeldZ B2 (X.env :: X.outer) a2 (Zc cls2 d2) X.env.locals h5 → s6.heap.UpToSlots h5 → Q () { s6 with heap := h5 }) → wpAny (model X.prog X.w) (X.A.mark (some (.ref a))) (noteFrame (.ref a2) X.env) Q E s6 := fun {Q E} q => by
                  rcases sky3 with ⟨y1, y2, y3, oe, vs, y4, y5, y6, y7⟩ | fl | hh
                  · exact HandSPX.look_newZ Zc.steady hfr y3 hf y4 y1 y2 y6 y7 y5 q
                  · exact HandSPX.looks_onZ Zc.steady hfr hf fl q
                  · exact HandSPX.againZ hf hh.2.2.2 (q s6.heap hh (Heap.UpToSlots.refl _))
                refine fin fun h5 fl5 up5 => ?_
                have J5 : Inv X pn2 σ2 H2 { s6 with heap := h5 } := J2.landed nb2 fl5.1 (up2.trans up5) os2 ag2
                obtain ⟨z1, z2, z3, oe, vs, T, oT, ts5, z4, z5, z6, z7, z8, z9, z10, z11, z12⟩ := id fl5
                have nT : H2 T = none := (J2.inGround nb2).gone z8
                have noF : ∀ (b : Addr) (o : Obj) (fv : Array Value), h5.get? b = some o → o.data = .fields fv → b ∉ frs (X.env :: X.outer) := fun b o fv y1 y2 y3 => by
                  obtain ⟨_, o', y4, y5⟩ := z3.mem y3
                  have y6 : o = o' := Option.some.inj (y1.symm.trans y4)
                  rw [← y6] at y5
                  exact y5 _ y2
                have fa := noF a2 oe vs z4 z6
                have fT := noF T oT ts5 z10 z11
                have lF : X.env.locals ∈ frs (X.env :: X.outer) := List.mem_filterMap.mpr ⟨X.env, List.mem_cons_self, hf⟩
                refine gone_b J5 hN hi hln fun h7 J7 b7 _ => ?_
                have ga : h7.get? a2 = some oe := by
                  rw [b7.2 a2 (fun y => fa (y ▸ lF))]
                  exact z4
                have gT : h7.get? T = some oT := by
                  rw [b7.2 T (fun y => fT (y ▸ lF))]
                  exact z10
                have far : ∀ b o, sI2.heap.get? b = some o → b ≠ a2 ∧ b ≠ T := fun b o y1 => by
                  by_cases y2 : b ∈ frs X.stack
                  · rw [hs] at y2
                    exact ⟨fun y => fa (y ▸ y2), fun y => fT (y ▸ y2)⟩
                  · have y3 := nb2 b o y1 y2
                    constructor
                    · intro y
                      rw [y, z2] at y3
                      cases y3
                    · intro y
                      rw [y, z8] at y3
                      cases y3
                have far0 : ∀ b o, X.s_0.heap.get? b = some o → b ≠ a2 ∧ b ≠ T := fun b o y1 => by
                  obtain ⟨o', y2⟩ := J2.base.there b o y1 (by rw [hex]; simp)
                  exact far b o' y2
                obtain ⟨G, g1, g2⟩ := restrict h7 fun b => !(decide (b = a2) || decide (b = T))
                have gIn : ∀ b o, G.get? b = some o → h7.get? b = some o ∧ b ≠ a2 ∧ b ≠ T := fun b o y1 => by
                  cases y2 : (!(decide (b = a2) || decide (b = T))) with
                  | false =>
                    rw [g2 b y2] at y1
                    cases y1
                  | true =>
                    rw [g1 b y2] at y1
                    simp only [Bool.not_eq_true', Bool.or_eq_false_iff, decide_eq_false_iff_not] at y2
                    exact ⟨y1, y2.1, y2.2⟩
                have gOf : ∀ b o, b ≠ a2 → b ≠ T → h7.get? b = some o → G.get? b = some o := fun b o y1 y2 y3 => by
                  rw [g1 b (by simp [y1, y2])]
                  exact y3
                have I7 := J7.less (fun b o y => (gIn b o y).1) gOf ⟨oe, vs, ga, z6⟩ ⟨oT, ts5, gT, z11⟩ na2 nT far0 (fun p hp => far p.1 p.2 (J2.pin p hp).1)
                have Bno : ∀ b, (b = a2 ∨ b = T) → (PySem.W.hideAll G (frs X.stack)).get? b = none := fun b y1 => by
                  cases y2 : (PySem.W.hideAll G (frs X.stack)).get? b with
                  | none => rfl
                  | some o =>
                    obtain ⟨_, y3, y4⟩ := gIn b o (PySem.W.of_hideAll _ y2)
                    exact (y1.elim y3 y4).elim
                have fl7 : HandSPX.HeldZ (PySem.W.hideAll G (frs X.stack)) (X.env :: X.outer) a2 (Zc cls2 d2) X.env.locals h7 := by
                  refine ⟨fun b o y => (gIn b o (PySem.W.of_hideAll _ y)).1, Bno a2 (.inl rfl), ?_, oe, vs, T, oT, ts5, ga, z5, z6, z7, Bno T (.inr rfl), z9, gT, z11, z12⟩
                  have y1 := funFrames_none (B := PySem.W.hideAll G (frs X.stack)) J7.stack fun b hb => PySem.W.hideAll_none _ hb
                  rw [← hs]
                  exact y1
                refine fly_out (Wout := Wout) hs hf I7 (fun b o y1 y2 => PySem.W.hideAll_get _ y1 y2) (Heap.UpToSlots.of_keeps fun b o y => (gIn b o y).1) fl7 na2 rfl J7.bare (hW _ _ _ _ _ w2) (fun s8 z => hpa (some (.ref a)) _ _ (tk _ _ z))
            | false =>
              show wpAny _ X.A (handleBy (.ref a) X.env hds2) _ _ _
              exact ih (hno rfl)
        exact go hh w
      · cases f with
        | next =>
          obtain ⟨σ', H', J', q⟩ := hsp
          exact wpAny_execs_nil ⟨σ', H', J'.ofTry ok, q⟩
        | brk =>
          obtain ⟨σ', H', J', q⟩ := hsp
          exact ⟨σ', H', J'.ofTry ok, q⟩
        | cont =>
          obtain ⟨σ', H', J', q⟩ := hsp
          exact ⟨σ', H', J'.ofTry ok, q⟩
        | ret u =>
          obtain ⟨v, σ', H', J', r, q⟩ := hsp
          exact ⟨v, σ', H', J'.ofTry ok, r, q⟩
  simpa only using Z.stc (Z.Stw.mk 5) hn key
end
/-! ### own exceptions by their __init__: values by order and by name -/
section
variable {X : Cx} {k n : Nat} {C fI : Addr} {fd : FuncData} {ps ks : List Str} {sp : Sp} {g : List Value → List Value → List Value} {gV : List V → List V → List V} {pins : List (Addr × Obj)} {σ : L2.St} {H1 : Hp} {s1 : Shared} {Q : XK} {us ws : List Value} {vs zs : List V}
/-- what the __init__ leaves -/
def MkE (C : Addr) (H1 : Hp) (Q : XK) (a : Addr) : VK := fun v H2 => v = .non ∧ ∃ (d : Addr) (fs : List (Str × V)), H2 a = some (exo a C (some d)) ∧ H2 d = some (exd d fs) ∧ H1 d = none ∧ Q (.ref C) (some d) (upd (del H2 a) d (.xd fs))
open L2H in
theorem mk_six {hp hp2 h2 : Heap} {g1 g2 : Array GenState} {d1 d2 : Drawn} {t1 t2 : Nat} {os1 os2 : OsState} {a d : Addr} {fs : List (Str × V)} {H2 : Hp} (T : Raises X (.ref C)) (I1 : Inv X pins σ H1 ⟨hp, g1, d1, t1, os1⟩) (ha : hp.objs.size ≤ a) (k : ∀ b o, hp.get? b = some o → hp2.get? b = some o)
    (un : Un (frs X.stack) [] (upd H1 a (exo a C none)) H2 hp2 h2) (hok : HOk X.prog X.w H2 h2) (ho : os2 = os1) (hb : AllBare g2) (ea : H2 a = some (exo a C (some d))) (ed : H2 d = some (exd d fs)) (hd1 : H1 d = none) (q : Q (.ref C) (some d) (upd (del H2 a) d (.xd fs))) :
    L2N.MkP X pins σ Q (.ref a) ⟨h2, g2, d2, t2, os2⟩ ∧ Six (.ref a) ⟨h2, g2, d2, t2, os2⟩ := by
  refine no_implicit_lambda% (@Z.stp _ ?_ (fun key hn => ?_))
  ·
      obtain ⟨t0, G, J, kG, ge, hoe, na⟩ := mk_end0 (d2 := d2) (t2 := t2) I1 ha k un hok ho hb ea ed hd1
      refine ⟨⟨a, _, _, ⟨G, g2, d2, t2, os2⟩, _, .ref C, some d, rfl, J, kG, ge, hoe, ⟨rfl, rfl, fun vs hv => ?_⟩, rfl, rfl, na, rfl, hb, T, q⟩, fun b ob vs e1 e2 e3 => ?_⟩
      · cases hv
        rfl
      · cases e1
        have e4 : h2.get? a = some ob := e2
        rw [hoe] at e4
        cases e4
        cases e3
        show (4 : Nat) < 6
        decide
  simpa only using Z.stc (Z.Stw.mk 5) hn key
open L2H in
theorem run_exK (T : OexC X.K C) (iC : PySem.W.findIn X.K (.ref C) "__init__" = some (some (.ref fI))) (tI : PySem.W.typeIn X.K (.ref fI) = some (.type "function")) (F1 : FnOk X.prog X.w X.K X.mg X.base (L2.CX X.prog X.w) k fI fd ps sp) (hr : Room (k + 1) X.A) (hb : KBn X.K fd ps (n + 1) ks g gV)
    (I1 : Inv X pins σ H1 s1) (r1 : Vals vs us) (rz : Vals zs ws) (l1 : vs.length = n) (l2 : zs.length = ks.length) (hz : vs.length ≤ 1000) (q1 : ∀ a, H1 a = none → sp (gV (.ref a :: vs) zs) (upd H1 a (exo a C none)) (MkE C H1 Q a) (fun _ _ _ => False)) :
    wpAny (model X.prog X.w) X.A (call (.ref C) us (ks.zip ws)) (fun u s' => L2N.MkP X pins σ Q u s' ∧ Six u s') X.xe s1 := by
  refine no_implicit_lambda% (@Z.stp _ ?_ (fun key hn => ?_))
  ·
      obtain ⟨nm, q, N, bs, bm, sn, sub, ab, col, dd, k0, k1, k2, k3, k5, hC, hbm⟩ := T.cls
      obtain ⟨hp, g0, dr, tk, os⟩ := s1
      have hsz : hp.objs.size ≤ hp.objs.size + 1 := Nat.le_succ _
      have hq := q1 (hp.objs.size + 1) (I1.hok.fresh hsz)
      have kk : ∀ b o, hp.get? b = some o → ((hp.push (PySem.W.kdv_tup us)).push (PySem.HandSPX.excO C hp.objs.size)).get? b = some o := fun b o e =>
        Heap.get?_push_of_some _ (Heap.get?_push_of_some _ e)
      have hget : ((hp.push (PySem.W.kdv_tup us)).push (PySem.HandSPX.excO C hp.objs.size)).get? (hp.objs.size + 1) = some (PySem.HandSPX.excO C hp.objs.size) := by
        heap_get
      have I2 : Inv X pins σ (upd H1 (hp.objs.size + 1) (exo (hp.objs.size + 1) C none)) ⟨(hp.push (PySem.W.kdv_tup us)).push (PySem.HandSPX.excO C hp.objs.size), g0, dr, tk, os⟩ :=
        I1.laid (t' := tk) (a := hp.objs.size + 1) (o := exo (hp.objs.size + 1) C none) (h' := (hp.push (PySem.W.kdv_tup us)).push (PySem.HandSPX.excO C hp.objs.size)) kk hsz (exo_ok hget)
      have y1 : Vals (V.ref (hp.objs.size + 1) :: vs) (Value.ref (hp.objs.size + 1) :: us) := .cons rfl r1
      have y2 := hb.rel y1 rz
      have y3 : (Value.ref (hp.objs.size + 1) :: us).length = n + 1 := y1.length.symm.trans (congrArg Nat.succ l1)
      have y4 : ws.length = ks.length := rz.length.symm.trans l2
      have hus : us.length ≤ sizeLine := by
        rw [← r1.length, sizeLine_eq]
        omega
      refine wpAny_call (callK F.excBase_ValueError (fun Y => PySem.HandSPX.refsVE_contains Y bm hbm) (I1.kIn _ _ hC) (PySem.W.looks_findIn I1.kIn iC) (fun self => PySem.W.bind_fn I1.kIn self tI) hus
        (codeAny_mono (F1.run _ X.stack _ _ ⟨Value.ref (hp.objs.size + 1) :: us, ks.zip ws⟩ (g (Value.ref (hp.objs.size + 1) :: us) ws) _ _ (fun _ _ _ => False) (hr.make C us (ks.zip ws)) (I2.env0.make C us (ks.zip ws)) (hb.to _ (Value.ref (hp.objs.size + 1) :: us) ws I2.kIn y3 y4) y2 hq) fun r s' hq' => ?_))
      cases r with
      | error er => exact passF pins σ _ _ er s' I2 hq'
      | ok fl =>
        cases fl with
        | ret u =>
          obtain ⟨v, H2, os2, bare2, un2, hok2, rv, ev, d, fs, ea, ed, hd1, q2⟩ := hq'
          subst ev
          obtain ⟨h2, g2, d2, t2, os'⟩ := s'
          exact ⟨rv, mk_six (raises_own T.exC T.tyC) I1 hsz kk un2 hok2 os2 bare2 ea ed hd1 q2⟩
        | next => exact False.elim hq'
        | brk => exact False.elim hq'
        | cont => exact False.elim hq'
  simpa only using Z.stc (Z.Stw.mk 5) hn key
open L2H in
theorem run_exKH (T : OexC X.K C) (iC : PySem.W.findIn X.K (.ref C) "__init__" = some (some (.ref fI))) (tI : PySem.W.typeIn X.K (.ref fI) = some (.type "function")) (F1 : FnH X.prog X.w X.K X.mg X.base (L2.CX X.prog X.w) k fI fd ps sp) (hr : RoomH (k + 1) X.A) (hc : HotC X) (hb : KBn X.K fd ps (n + 1) ks g gV)
    (I1 : Inv X pins σ H1 s1) (r1 : Vals vs us) (rz : Vals zs ws) (l1 : vs.length = n) (l2 : zs.length = ks.length) (hz : vs.length ≤ 1000) (q1 : ∀ a, H1 a = none → sp (gV (.ref a :: vs) zs) (upd H1 a (exo a C none)) (MkE C H1 Q a) (fun _ _ _ => False)) :
    wpAny (model X.prog X.w) X.A (call (.ref C) us (ks.zip ws)) (fun u s' => L2N.MkP X pins σ Q u s' ∧ Six u s') X.xe s1 := by
  refine no_implicit_lambda% (@Z.stp _ ?_ (fun key hn => ?_))
  ·
      obtain ⟨nm, q, N, bs, bm, sn, sub, ab, col, dd, k0, k1, k2, k3, k5, hC, hbm⟩ := T.cls
      obtain ⟨pn, hot, hpn⟩ := hc
      obtain ⟨hp, g0, dr, tk, os⟩ := s1
      have hsz : hp.objs.size ≤ hp.objs.size + 1 := Nat.le_succ _
      have hq := q1 (hp.objs.size + 1) (I1.hok.fresh hsz)
      have kk : ∀ b o, hp.get? b = some o → ((hp.push (PySem.W.kdv_tup us)).push (PySem.HandSPX.excO C hp.objs.size)).get? b = some o := fun b o e =>
        Heap.get?_push_of_some _ (Heap.get?_push_of_some _ e)
      have hget : ((hp.push (PySem.W.kdv_tup us)).push (PySem.HandSPX.excO C hp.objs.size)).get? (hp.objs.size + 1) = some (PySem.HandSPX.excO C hp.objs.size) := by
        heap_get
      have I2 : Inv X pins σ (upd H1 (hp.objs.size + 1) (exo (hp.objs.size + 1) C none)) ⟨(hp.push (PySem.W.kdv_tup us)).push (PySem.HandSPX.excO C hp.objs.size), g0, dr, tk, os⟩ :=
        I1.laid (t' := tk) (a := hp.objs.size + 1) (o := exo (hp.objs.size + 1) C none) (h' := (hp.push (PySem.W.kdv_tup us)).push (PySem.HandSPX.excO C hp.objs.size)) kk hsz (exo_ok hget)
      have y1 : Vals (V.ref (hp.objs.size + 1) :: vs) (Value.ref (hp.objs.size + 1) :: us) := .cons rfl r1
      have y2 := hb.rel y1 rz
      have y3 : (Value.ref (hp.objs.size + 1) :: us).length = n + 1 := y1.length.symm.trans (congrArg Nat.succ l1)
      have y4 : ws.length = ks.length := rz.length.symm.trans l2
      have hus : us.length ≤ sizeLine := by
        rw [← r1.length, sizeLine_eq]
        omega
      have P1 := I2.pin pn (List.mem_append_left _ hpn)
      have hpin : PinOk X.stack (upd H1 (hp.objs.size + 1) (exo (hp.objs.size + 1) C none)) ⟨(hp.push (PySem.W.kdv_tup us)).push (PySem.HandSPX.excO C hp.objs.size), g0, dr, tk, os⟩ pn :=
        ⟨P1.1, P1.2.1, fun hmm => (List.mem_cons.mp (I2.stkSub pn.1 hmm)).elim P1.2.2.1 P1.2.2.2.1, P1.2.2.2.2⟩
      refine wpAny_call (callK F.excBase_ValueError (fun Y => PySem.HandSPX.refsVE_contains Y bm hbm) (I1.kIn _ _ hC) (PySem.W.looks_findIn I1.kIn iC) (fun self => PySem.W.bind_fn I1.kIn self tI) hus
        (codeAny_mono (F1.run _ X.stack _ _ ⟨Value.ref (hp.objs.size + 1) :: us, ks.zip ws⟩ (g (Value.ref (hp.objs.size + 1) :: us) ws) _ _ (fun _ _ _ => False) pn (hr.make C us (ks.zip ws)) ⟨hot.1, hot.2⟩ hpin (I2.env0.make C us (ks.zip ws)) (hb.to _ (Value.ref (hp.objs.size + 1) :: us) ws I2.kIn y3 y4) y2 hq) fun r s' hq' => ?_))
      cases r with
      | error er => exact passF pins σ _ _ er s' I2 hq'
      | ok fl =>
        cases fl with
        | ret u =>
          obtain ⟨v, H2, os2, bare2, un2, hok2, rv, ev, d, fs, ea, ed, hd1, q2⟩ := hq'
          subst ev
          obtain ⟨h2, g2, d2, t2, os'⟩ := s'
          exact ⟨rv, mk_six (raises_own T.exC T.tyC) I1 hsz kk un2 hok2 os2 bare2 ea ed hd1 q2⟩
        | next => exact False.elim hq'
        | brk => exact False.elim hq'
        | cont => exact False.elim hq'
  simpa only using Z.stc (Z.Stw.mk 5) hn key
end
end Rws
/-! ### raising with values by order and by name -/
def PAK (X : Cx) (es : List Expr) (kws : List Keyword) (pos : Pos) (n : Nat) (ks : List Str) (t tk : TA) : Prop :=
  ∀ (C : Addr) (x : Str) (p : Pos) (pins : List (Addr × Obj)) (s : Shared) (σ : L2.St) (H : Hp) (R : List V → List V → Hp → Prop) (Q : Value → Shared → Prop), Gl X x → X.mg x = some (.ref C) → PySem.W.keepIn X.K (.ref C) = true → (x == ("__debug__" : Str)) = false → Inv X pins σ H s →
    (t σ H fun vs H1 => tk σ H1 fun zs H2 => LenR n ks.length vs zs (R vs zs H2)) →
    (∀ us ws vs zs H1 s1, Inv X pins σ H1 s1 → Vals vs us → Vals zs ws → vs.length = n → zs.length = ks.length → R vs zs H1 → wpAny (model X.prog X.w) X.A (call (.ref C) us (ks.zip ws)) Q X.xe s1) → wpAny (model X.prog X.w) X.A (eval (.Call (.Name x p) es kws pos) X.env) Q X.xe s
section
variable {X : Cx} {n : Nat} {ks : List Str} {e : Expr} {es : List Expr} {kws : List Keyword} {pos : Pos} {t tk : TA}
theorem pak_kw (ha : PA X (e :: es) t) (hkw : PK X kws tk) (hall : (backToKw pos (keywordEach kws X.env)).all (·.1.isSome) = true := by rfl) (hks : (backToKw pos (keywordEach kws X.env)).filterMap (·.1) = ks := by rfl)
    (he : starEach (e :: es) X.env = (false, eval e X.env) :: starEach es X.env := by rfl) (hpl : ((backTo pos (starEach (e :: es) X.env)).any (·.1) || (backToKw pos (keywordEach kws X.env)).any (·.1.isNone)) = false := by rfl) : PAK X (e :: es) kws pos n ks t tk := by
  intro C x p pins s σ H R Q hg hm kp hdb I h k
  refine wpAny_Call_Name_kw (ld_glob I hg hm ?_ hdb)
  refine PySem.W.callWith_KW (h₀ := X.base) I.ok.mod.kin kp hall (thn (ha.run pos pins s σ H _ I h) fun us s1 ⟨vs, H1, I1, r, q⟩ => ?_) hpl he
  refine thn (hkw.run pos pins s1 σ H1 _ I1 q) fun ws s2 ⟨zs, H2, I2, rz, l1, l2, q2⟩ => ⟨I2.kIn, ?_⟩
  rw [hks]
  exact k us ws vs zs H2 s2 I2 r rz l1 l2 q2
theorem pak_kw0 (hkw : PK X kws tk) (hall : (backToKw pos (keywordEach kws X.env)).all (·.1.isSome) = true := by rfl) (hks : (backToKw pos (keywordEach kws X.env)).filterMap (·.1) = ks := by rfl)
    (hpl : ((backTo pos (starEach [] X.env)).any (·.1) || (backToKw pos (keywordEach kws X.env)).any (·.1.isNone)) = false := by rfl) : PAK X [] kws pos 0 ks tNil tk := by
  intro C x p pins s σ H R Q hg hm kp hdb I h k
  refine wpAny_Call_Name_kw (ld_glob I hg hm ?_ hdb)
  refine PySem.W.callWith_KW0 (h₀ := X.base) I.ok.mod.kin kp hall ?_ hpl
  refine thn (hkw.run pos pins s σ H _ I h) fun ws s2 ⟨zs, H2, I2, rz, l1, l2, q2⟩ => ⟨I2.kIn, ?_⟩
  rw [hks]
  exact k [] ws [] zs H2 s2 I2 .nil rz rfl l2 q2
theorem pak_p (ha : PA X (e :: es) t) (he : starEach (e :: es) X.env = (false, eval e X.env) :: starEach es X.env := by rfl) (hpl : (backTo pos (starEach es X.env)).any (·.1) = false := by rfl) : PAK X (e :: es) [] pos n [] t tNil := by
  intro C x p pins s σ H R Q hg hm kp hdb I h k
  refine wpAny_Call_Name_kw (ld_glob I hg hm ?_ hdb)
  refine PySem.W.callWith_K (h₀ := X.base) I.ok.mod.kin kp (thn (ha.run pos pins s σ H _ I h) fun us s1 ⟨vs, H1, I1, r, l1, l2, q⟩ => ⟨I1.kIn, ?_⟩) he hpl
  exact k us [] vs [] H1 s1 I1 r .nil l1 rfl q
theorem pak_0 : PAK X [] [] pos 0 [] tNil tNil := by
  refine no_implicit_lambda% (@Z.stp _ ?_ (fun key hn => ?_))
  ·
      intro C x p pins s σ H R Q hg hm kp hdb I h k
      refine wpAny_Call_Name_kw (ld_glob I hg hm ?_ hdb)
      refine PySem.W.callWith_K0 I.kIn kp ?_
      exact k [] [] [] [] H s I .nil .nil rfl rfl h.2.2
  simpa only using Z.stc (Z.Stw.mk 5) hn key
end
/-- an own exception class with its own __init__, called with n values and the names ks -/
structure Ex1K (P : Program) (w : World) (K : PySem.W.Frag) (mg : Str → Option Value) (base : Heap) (k : Nat) (x : Str) (fs : List Str) (n : Nat) (ks : List Str) (l : List Ar) : Prop where
  ex : ∃ (f : Addr) (fd : FuncData) (ps : List Str), mg x = some (.ref (He.ga K x)) ∧ OexC K (He.ga K x) ∧ (∀ f ∈ fs, PySem.W.findIn K (.ref (He.ga K x)) f = some none) ∧ PySem.W.findIn K (.ref (He.ga K x)) "__init__" = some (some (.ref f)) ∧ PySem.W.typeIn K (.ref f) = some (.type "function") ∧
    FnOk P w K mg base (L2.CX P w) k f fd ps (spExi K fs) ∧ L2H.FnH P w K mg base (L2.CX P w) k f fd ps (spExi K fs) ∧ KBa K fd ps (n + 1) ks l
theorem Ex1K.mono {P : Program} {w : World} {K : PySem.W.Frag} {mg : Str → Option Value} {base : Heap} {k j n : Nat} {x : Str} {fs ks : List Str} {l : List Ar} (c : Ex1K P w K mg base k x fs n ks l) (h : k ≤ j) : Ex1K P w K mg base j x fs n ks l := by
  refine no_implicit_lambda% (@Z.stp _ ?_ (fun key hn => ?_))
  ·
      obtain ⟨f, fd, ps, h1, h2, h3, h4, h5, F, G, b⟩ := c.ex
      exact ⟨f, fd, ps, h1, h2, h3, h4, h5, F.mono h, ⟨G.len, fun A outer s H args us vs Q E p hr => G.run A outer s H args us vs Q E p (hr.mono h)⟩, b⟩
  simpa only using Z.stc (Z.Stw.mk 5) hn key
def RzK (l : List Ar) (fs : List Str) (vs zs : List V) (H : Hp) (R : Addr → Hp → Prop) : Prop := ∃ us, (∀ x : V, arV l ((x :: vs) ++ zs) = x :: us) ∧ RzR fs us H R
def tRzK (W : WX) (C : Addr) (fs : List Str) (n m : Nat) (l : List Ar) (t tk : TA) : TS := fun _ σ H => t σ H fun vs H1 => tk σ H1 fun zs H2 => LenR n m vs zs (RzK l fs vs zs H2 fun d H3 => W (.ref C) (some d) σ H3)
section
variable {X : Cx} {W : WX} {j k n : Nat} {x : Str} {fs ks : List Str} {l : List Ar} {es : List Expr} {kws : List Keyword} {p pos pos2 cpos : Pos} {t tk : TA}
theorem exi_of {C a : Addr} {us : List V} {H1 : Hp} {Q : XK} {K : PySem.W.Frag} (T : OexC K C) (hn : ∀ f ∈ fs, PySem.W.findIn K (.ref C) f = some none) (ha : H1 a = none) (r : RzR fs us H1 fun d H3 => Q (.ref C) (some d) H3) : spExi K fs (.ref a :: us) (upd H1 a (exo a C none)) (MkE C H1 Q a) (fun _ _ _ => False) := by
  refine no_implicit_lambda% (@Z.stp _ ?_ (fun key hn => ?_))
  ·
      obtain ⟨h1, h2, h3⟩ := r
      refine ⟨a, C, us, rfl, h1, T, hn, upd_same, fun dx H' n1 ne e1 e2 k => ⟨rfl, dx, _, e1, e2, ?_, ?_⟩⟩
      · rw [upd_ne ne] at n1
        exact n1
      · rw [upd_ne ne] at n1
        rw [upd_exc ha ne fun b h4 h5 => by rw [k b h4 h5, upd_ne h4]]
        exact h3 dx n1
  simpa only using Z.stc (Z.Stw.mk 5) hn key
theorem ex_calm (c : Ex1K X.prog X.w X.K X.mg X.base k x fs n ks l) (hr : Room j X.A) (hk : k + 1 ≤ j) (hg : Gl X x) (pk : PAK X es kws pos n ks t tk) (hn : n ≤ 1000 := by decide) (hdb : (x == ("__debug__" : Str)) = false := by decide) :
    L2H.PMk5 X (.Call (.Name x p) es kws pos) (fun σ H Q => t σ H fun vs H1 => tk σ H1 fun zs H2 => LenR n ks.length vs zs (RzK l fs vs zs H2 fun d H3 => Q (.ref (He.ga X.K x)) (some d) H3)) := by
  obtain ⟨f, fd, ps, hm, T, hf, iC, tI, F, G, b⟩ := c.ex
  obtain ⟨g, b⟩ := b.kbn
  intro pins s σ H Q I h
  refine pk _ x p pins s σ H _ _ hg hm T.kC hdb I h fun us ws vs zs H1 s1 I1 r1 rz l1 l2 q => ?_
  obtain ⟨us2, e1, q⟩ := q
  refine run_exK T iC tI F (hr.mono hk) b I1 r1 rz l1 l2 (by omega) fun a ha => ?_
  show spExi X.K fs (arV l ((V.ref a :: vs) ++ zs)) _ _ _
  rw [e1]
  exact exi_of T hf ha q
theorem ex_hot (c : Ex1K X.prog X.w X.K X.mg X.base k x fs n ks l) (hr : L2H.RoomH (k + 1) X.A) (hc : L2H.HotC X) (hg : Gl X x) (pk : PAK X es kws pos n ks t tk) (hn : n ≤ 1000 := by decide) (hdb : (x == ("__debug__" : Str)) = false := by decide) :
    L2H.PMk5 X (.Call (.Name x p) es kws pos) (fun σ H Q => t σ H fun vs H1 => tk σ H1 fun zs H2 => LenR n ks.length vs zs (RzK l fs vs zs H2 fun d H3 => Q (.ref (He.ga X.K x)) (some d) H3)) := by
  obtain ⟨f, fd, ps, hm, T, hf, iC, tI, F, G, b⟩ := c.ex
  obtain ⟨g, b⟩ := b.kbn
  intro pins s σ H Q I h
  refine pk _ x p pins s σ H _ _ hg hm T.kC hdb I h fun us ws vs zs H1 s1 I1 r1 rz l1 l2 q => ?_
  obtain ⟨us2, e1, q⟩ := q
  refine run_exKH T iC tI G hr hc b I1 r1 rz l1 l2 (by omega) fun a ha => ?_
  show spExi X.K fs (arV l ((V.ref a :: vs) ++ zs)) _ _ _
  rw [e1]
  exact exi_of T hf ha q
theorem pmk_l2 {e : Expr} {t : L2.St → Hp → XK → Prop} (h : L2N.PMk X e t) : L2.PMk X e t := fun pins s σ H Q I q => thn (h pins s σ H Q I q) fun u s' ⟨a, oe, vs, sI, H', cls, d, h1, h2, h3, h4, h5, h6, h7⟩ => ⟨a, oe, vs, sI, H', cls, d, h1, h2, h3, h4, h5, h6.zc, h7⟩
theorem ps_rzK (kx : L2.Takes X W) (c : Ex1K X.prog X.w X.K X.mg X.base k x fs n ks l) (hr : Room j X.A) (hk : k + 1 ≤ j) (hc : X.calm = true) (hg : Gl X x) (pk : PAK X es kws pos n ks t tk) (hn : n ≤ 1000 := by decide) (hdb : (x == ("__debug__" : Str)) = false := by decide) :
    PS X (.Raise (some (.Call (.Name x p) es kws pos)) none pos2) (tRzK W (He.ga X.K x) fs n ks.length l t tk) := L2.ps_raise hc kx (pmk_l2 (ex_calm c hr hk hg pk hn hdb).pmk)
theorem ps_rzKn (kx : L2N.Takes X W) (c : Ex1K X.prog X.w X.K X.mg X.base k x fs n ks l) (hr : Room j X.A) (hk : k + 1 ≤ j) (hc : X.calm = true) (hg : Gl X x) (pk : PAK X es kws pos n ks t tk) (hn : n ≤ 1000 := by decide) (hdb : (x == ("__debug__" : Str)) = false := by decide) :
    PS X (.Raise (some (.Call (.Name x p) es kws pos)) none pos2) (tRzK W (He.ga X.K x) fs n ks.length l t tk) := L2N.ps_raise hc kx (ex_calm c hr hk hg pk hn hdb).pmk
/-- raise X(..) from None in a suite -/
theorem ps_rzKH {j2 : Nat} (kx : L2.Takes X W) (c : Ex1K X.prog X.w X.K X.mg X.base k x fs n ks l) (hr : L2H.RoomH (k + 1) X.A) (hc : L2H.HotC X) (hg : Gl X x) (pk : PAK X es kws pos n ks t tk) (hn : n ≤ 1000 := by decide) (hdb : (x == ("__debug__" : Str)) = false := by decide) :
    PS X (.Raise (some (.Call (.Name x p) es kws pos)) (some (.Constant .none j2 cpos)) pos2) (tRzK W (He.ga X.K x) fs n ks.length l t tk) := L2H.ps_raiseHN hc kx (ex_hot c hr hc hg pk hn hdb)
theorem w_rzK {C : Addr} {m : Nat} {D : Ends} {σ : L2.St} {H : Hp} (h : t σ H fun vs H1 => tk σ H1 fun zs H2 => LenR n m vs zs (RzK l fs vs zs H2 fun d H3 => W (.ref C) (some d) σ H3)) : tRzK W C fs n m l t tk D σ H := h
theorem w_rzKu {vs zs us : List V} {H : Hp} {R : Addr → Hp → Prop} (e : ∀ x : V, arV l ((x :: vs) ++ zs) = x :: us) (h : RzR fs us H R) : RzK l fs vs zs H R := ⟨us, e, h⟩
theorem w_rz3 {f1 f2 f3 : Str} {v1 v2 v3 : V} {H : Hp} {L : HL} {R : Addr → Hp → Prop} (O : Own H L) (k : ∀ d H', Own H' ([(d, .xd [(f3, v3), (f2, v2), (f1, v1)])] ++ L) → R d H') : RzR [f1, f2, f3] [v1, v2, v3] H R := ⟨rfl, (by show 3 ≤ 900; decide), fun d hd => k d _ (O.new hd)⟩
/-- own0, its context None -/
theorem pmk_own0n {C : Addr} {bmB : List Value} {B newId initId : String} (F : PySem.ExcBaseFacts B newId initId bmB) (q : PySem.W.excIn X.K C bmB newId = true) (gC : X.mg x = some (.ref C)) (kC : PySem.W.keepIn X.K (.ref C) = true) (r : Raises X (.ref C)) (hg : Gl X x)
    (hdb : (x == ("__debug__" : Str)) = false := by decide) : L2H.PMk5 X (.Call (.Name x p) [] [] pos) (fun _ H Q => Q (.ref C) none H) := by
  intro pins s σ H Q I h
  refine wpAny_Call_Name_kw (ld_glob I hg gC ?_ hdb)
  refine PySem.W.callWith_K0 I.kIn kC ?_
  obtain ⟨bm, N, nm, qn, bs, hdct, sn, sub, ab, col, dd, k0, k1, k2, k3, k5, mN, hC, hN, hni, T⟩ := exc_obj I.kIn q
  refine wpAny_call_exc_subT F T hC hN hni (fun h' e hm => ?_) (Nat.zero_le _)
  exact L2H.mk_of5 I hm r h (I.hok.gone hm.new)
theorem ps_rz0n (kx : L2N.Takes X W) (c : Ex0 X.K X.mg x) (hc : X.calm = true) (hg : Gl X x) (hdb : (x == ("__debug__" : Str)) = false := by decide) : PS X (.Raise (some (.Call (.Name x p) [] [] pos)) none pos2) (tRz0 W (He.ga X.K x)) :=
  L2N.ps_raise hc kx (pmk_own0n PySem.F.excBase_ValueError c.ex c.g c.kp (raises_own c.sb c.ty) hg hdb).pmk
theorem ps_rz0H {j2 : Nat} (kx : L2.Takes X W) (c : Ex0 X.K X.mg x) (hc : L2H.HotC X) (hg : Gl X x) (hdb : (x == ("__debug__" : Str)) = false := by decide) : PS X (.Raise (some (.Call (.Name x p) [] [] pos)) (some (.Constant .none j2 cpos)) pos2) (tRz0 W (He.ga X.K x)) :=
  L2H.ps_raiseHN hc kx (pmk_own0n PySem.F.excBase_ValueError c.ex c.g c.kp (raises_own c.sb c.ty) hg hdb)
end
/-! ### promises whose errors have no context -/
structure CalN (P : Program) (w : World) (K : PySem.W.Frag) (mg : Str → Option Value) (base : Heap) (k : Nat) (x : Str) (sp : Sp) (dvs : List V) : Prop where
  ex : ∃ (f : Addr) (fd : FuncData) (ps : List Str) (ds : List Value), FnOk P w K mg base (L2N.CX P w) k f fd ps sp ∧ mg x = some (.ref f) ∧ PySem.W.keepIn K (.ref f) = true ∧ Binds K fd ps ds ∧ Vals dvs ds
structure MetN (P : Program) (w : World) (K : PySem.W.Frag) (mg : Str → Option Value) (base : Heap) (k : Nat) (C : Addr) (m : Str) (sp : Sp) (dvs : List V) : Prop where
  ex : ∃ (f : Addr) (fd : FuncData) (ps : List Str) (ds : List Value), Cls K C ∧ Meth K C m f ∧ FnOk P w K mg base (L2N.CX P w) k f fd ps sp ∧ Binds K fd ps ds ∧ Vals dvs ds
section
variable {P : Program} {w : World} {K : PySem.W.Frag} {mg : Str → Option Value} {base : Heap} {k j : Nat} {x m : Str} {C : Addr} {sp : Sp} {dvs : List V}
theorem CalN.mono (c : CalN P w K mg base k x sp dvs) (h : k ≤ j) : CalN P w K mg base j x sp dvs := by
  refine no_implicit_lambda% (@Z.stp _ ?_ (fun key hn => ?_))
  ·
      obtain ⟨f, fd, ps, ds, F, r⟩ := c.ex
      exact ⟨f, fd, ps, ds, F.mono h, r⟩
  simpa only using Z.stc (Z.Stw.mk 5) hn key
theorem MetN.mono (c : MetN P w K mg base k C m sp dvs) (h : k ≤ j) : MetN P w K mg base j C m sp dvs := by
  refine no_implicit_lambda% (@Z.stp _ ?_ (fun key hn => ?_))
  ·
      obtain ⟨f, fd, ps, ds, c1, c2, F, r⟩ := c.ex
      exact ⟨f, fd, ps, ds, c1, c2, F.mono h, r⟩
  simpa only using Z.stc (Z.Stw.mk 5) hn key
theorem fo_wk {f : Addr} {fd : FuncData} {ps : List Str} (F : FnOk P w K mg base (L2N.CX P w) k f fd ps sp) : FnOk P w K mg base (L2.CX P w) k f fd ps sp :=
  ⟨F.len, fun A outer s H args us vs Q E hr he hb hv hs => codeAny_mono (F.run A outer s H args us vs Q E hr he hb hv hs) fun r s' q => by
    cases r with
    | ok fl => cases fl <;> exact q
    | error e =>
      obtain ⟨a, B, H', cls, d, rfl, fl, z⟩ := q
      exact ⟨a, B, H', cls, d, rfl, L2H.flyingZ_imp (fun o y => y.zc) fl, z⟩⟩
theorem CalN.wk (c : CalN P w K mg base k x sp dvs) : Cal P w K mg base k x sp dvs := by
  refine no_implicit_lambda% (@Z.stp _ ?_ (fun key hn => ?_))
  ·
      obtain ⟨f, fd, ps, ds, F, r⟩ := c.ex
      exact ⟨f, fd, ps, ds, fo_wk F, r⟩
  simpa only using Z.stc (Z.Stw.mk 5) hn key
theorem metn_of {f : Addr} {nm qual : Str} {st : Stmt} {dvs' : List V} {kws : List (Str × V)} {ps : List Str} (c : Cls K C) (me : Meth K C m f) (d : ∃ fd, FunD K nm qual (defArgs st) (defBody st) (defScope st) dvs kws f fd)
    (ok : ∀ fd, FunD K nm qual (defArgs st) (defBody st) (defScope st) dvs kws f fd → FnOk P w K mg base (L2N.CX P w) k f fd ps sp) (bi : ∀ fd, FunD K nm qual (defArgs st) (defBody st) (defScope st) dvs kws f fd → ∃ ds, Vals dvs' ds ∧ Binds K fd ps ds) : MetN P w K mg base k C m sp dvs' := by
  refine no_implicit_lambda% (@Z.stp _ ?_ (fun key hn => ?_))
  ·
      obtain ⟨fd, F⟩ := d
      obtain ⟨ds, h1, h2⟩ := bi fd F
      exact ⟨f, fd, ps, ds, c, me, ok fd F, h2, h1⟩
  simpa only using Z.stc (Z.Stw.mk 5) hn key
theorem cal_xn {st : Stmt} {N ps : List Str} (d : ∃ f fd, Dfn K mg x st [] [] f fd) (S : FnScope N ps (defScope st))
    (hb : ∀ (kV doc pm : Value) (an : Option Addr) (cdv ct : Value) (us : List Value), us.length = ps.length → bindArgs (PySem.W.fnOf x x (defArgs st) (defBody st) (defScope st) .none kV doc pm an cdv ct) ⟨us, []⟩ = pure (ps.zip us)) (len : ∀ vs H Q E, sp vs H Q E → vs.length = ps.length)
    (hbody : ∀ (cdv : Value) (A : Around) (outer : List Env) (s : Shared) (f : Addr) (H : Hp) (vs : List V) (Q : VK) (E : XK), Room k (A.deeper (PyProof.Rows.envOfC x (defScope st) s.heap.objs.size f cdv)) → sp vs H Q E →
      L2N.Takes (cxOf (L2N.CX P w) P w K mg base N x (defScope st) f cdv A outer s H E) (fun cls d _ H => E cls d H) → PassesOwn (model P w) (A.deeper (PyProof.Rows.envOfC x (defScope st) s.heap.objs.size f cdv)) (cxOf (L2N.CX P w) P w K mg base N x (defScope st) f cdv A outer s H E).env (cxOf (L2N.CX P w) P w K mg base N x (defScope st) f cdv A outer s H E).xe →
      ∃ t, PSs (cxOf (L2N.CX P w) P w K mg base N x (defScope st) f cdv A outer s H E) (defBody st) t ∧ t ⟨fun _ H' => Q .non H', Q, fun _ _ => False, fun _ _ => False⟩ (start N vs) H) : CalN P w K mg base (k + 1) x sp [] := by
  refine no_implicit_lambda% (@Z.stp _ ?_ (fun key hn => ?_))
  ·
      obtain ⟨f, fd, F, hm⟩ := d
      exact ⟨f, fd, ps, [], F.ok S len fun cdv A outer s H vs Q E hr h => hbody cdv A outer s f H vs Q E hr h (L2N.takes_of rfl rfl rfl rfl) (passes_of (X := cxOf (L2N.CX P w) P w K mg base N x (defScope st) f cdv A outer s H E) rfl), hm, F.kp, F.bindsN hb, .nil⟩
  simpa only using Z.stc (Z.Stw.mk 5) hn key
theorem fo_xn {qual : Str} {st : Stmt} {kws : List (Str × V)} {f : Addr} {fd : FuncData} {N ps : List Str} (F : FunD K x qual (defArgs st) (defBody st) (defScope st) dvs kws f fd) (S : FnScope N ps (defScope st)) (len : ∀ vs H Q E, sp vs H Q E → vs.length = ps.length)
    (hbody : ∀ (cdv : Value) (A : Around) (outer : List Env) (s : Shared) (H : Hp) (vs : List V) (Q : VK) (E : XK), Room k (A.deeper (PyProof.Rows.envOfC qual (defScope st) s.heap.objs.size f cdv)) → sp vs H Q E →
      L2N.Takes (cxOf (L2N.CX P w) P w K mg base N qual (defScope st) f cdv A outer s H E) (fun cls d _ H => E cls d H) → PassesOwn (model P w) (A.deeper (PyProof.Rows.envOfC qual (defScope st) s.heap.objs.size f cdv)) (cxOf (L2N.CX P w) P w K mg base N qual (defScope st) f cdv A outer s H E).env (cxOf (L2N.CX P w) P w K mg base N qual (defScope st) f cdv A outer s H E).xe →
      ∃ t, PSs (cxOf (L2N.CX P w) P w K mg base N qual (defScope st) f cdv A outer s H E) (defBody st) t ∧ t ⟨fun _ H' => Q .non H', Q, fun _ _ => False, fun _ _ => False⟩ (start N vs) H) : FnOk P w K mg base (L2N.CX P w) (k + 1) f fd ps sp :=
  F.ok S len fun cdv A outer s H vs Q E hr h => hbody cdv A outer s H vs Q E hr h (L2N.takes_of rfl rfl rfl rfl) (passes_of (X := cxOf (L2N.CX P w) P w K mg base N qual (defScope st) f cdv A outer s H E) rfl)
/-- the promise of such a class's __init__, called in a suite -/
theorem fh_x {qual : Str} {st : Stmt} {kws : List (Str × V)} {f : Addr} {fd : FuncData} {N ps : List Str} (F : FunD K x qual (defArgs st) (defBody st) (defScope st) dvs kws f fd) (S : FnScope N ps (defScope st)) (len : ∀ vs H Q E, sp vs H Q E → vs.length = ps.length)
    (hbody : ∀ (cdv : Value) (A : Around) (outer : List Env) (s : Shared) (H : Hp) (vs : List V) (Q : VK) (E : XK) (p : Addr × Obj), sp vs H Q E →
      ∃ t, PSs (L2H.cxH (L2.CX P w) P w K mg base N qual (defScope st) f cdv A outer s H E p) (defBody st) t ∧ t ⟨fun _ H' => Q .non H', Q, fun _ _ => False, fun _ _ => False⟩ (start N vs) H) : L2H.FnH P w K mg base (L2.CX P w) (k + 1) f fd ps sp := by
  refine no_implicit_lambda% (@Z.stp _ ?_ (fun key hn => ?_))
  ·
      obtain ⟨oc, od, dV, kV, doc, pm, an, cdv, ct, osl, rfl, lk, hcd, _, _⟩ := F.ex
      exact L2H.fn_ofH lk hcd S len fun A outer s H vs Q E p _ _ h => hbody cdv A outer s H vs Q E p h
  simpa only using Z.stc (Z.Stw.mk 5) hn key
theorem ex1k_of {nm qual : Str} {st : Stmt} {fs ps ks : List Str} {n : Nat} {l : List Ar} {kws : List (Str × V)} (g : mg x = some (.ref (He.ga K x))) (T : OexC K (He.ga K x)) (hn : ∀ f ∈ fs, PySem.W.findIn K (.ref (He.ga K x)) f = some none) (me : Meth K (He.ga K x) "__init__" (He.ma K (He.ga K x) "__init__"))
    (d : ∃ fd, FunD K nm qual (defArgs st) (defBody st) (defScope st) dvs kws (He.ma K (He.ga K x) "__init__") fd)
    (ok : ∀ fd, FunD K nm qual (defArgs st) (defBody st) (defScope st) dvs kws (He.ma K (He.ga K x) "__init__") fd → FnOk P w K mg base (L2.CX P w) k (He.ma K (He.ga K x) "__init__") fd ps (spExi K fs))
    (oh : ∀ fd, FunD K nm qual (defArgs st) (defBody st) (defScope st) dvs kws (He.ma K (He.ga K x) "__init__") fd → L2H.FnH P w K mg base (L2.CX P w) k (He.ma K (He.ga K x) "__init__") fd ps (spExi K fs))
    (bi : ∀ fd, FunD K nm qual (defArgs st) (defBody st) (defScope st) dvs kws (He.ma K (He.ga K x) "__init__") fd → KBa K fd ps (n + 1) ks l) : Ex1K P w K mg base k x fs n ks l := by
  refine no_implicit_lambda% (@Z.stp _ ?_ (fun key hn => ?_))
  ·
      obtain ⟨fd, F⟩ := d
      exact ⟨_, fd, ps, g, T, hn, me.at_, beq_iff_eq.mp me.fn, ok fd F, oh fd F, bi fd F⟩
  simpa only using Z.stc (Z.Stw.mk 5) hn key
end
section
variable {X : Cx} {W : WX} {j k n : Nat} {C : Addr} {x m : Str} {sp : Sp} {dvs : List V} {p pos apos : Pos} {e o : Expr} {es : List Expr} {t : TA} {ta : TE}
theorem pe_cEn (kx : L2N.Takes X W) (c : CalN X.prog X.w X.K X.mg X.base k x sp dvs) (hr : Room j X.A) (hk : k ≤ j) (hg : Gl X x) (ha : PA X (e :: es) t) (hdb : (x == ("__debug__" : Str)) = false := by decide) (he : starEach (e :: es) X.env = (false, eval e X.env) :: starEach es X.env := by rfl)
    (hpl : (backTo pos (starEach es X.env)).any (·.1) = false := by rfl) : PE X (.Call (.Name x p) (e :: es) [] pos) (tCallE W sp dvs t) := by
  obtain ⟨f, fd, ps, ds, F, hm, kp, b, d⟩ := c.ex
  exact pe_callSD F (hr.mono hk) hg hm kp b d (fun σ => L2N.passAt kx σ) ha hdb he hpl
theorem pe_cE0n (kx : L2N.Takes X W) (c : CalN X.prog X.w X.K X.mg X.base k x sp dvs) (hr : Room j X.A) (hk : k ≤ j) (hg : Gl X x) (hdb : (x == ("__debug__" : Str)) = false := by decide) : PE X (.Call (.Name x p) [] [] pos) (tCallE W sp dvs tNil) := by
  obtain ⟨f, fd, ps, ds, F, hm, kp, b, d⟩ := c.ex
  refine ⟨fun pins s σ H Q I h => ?_⟩
  refine wpAny_Call_Name_kw (ld_glob I hg hm ?_ hdb)
  exact PySem.W.callWith_K0 I.kIn kp (run_fnSD (us := []) (E := fun σ => WE W σ) F (hr.mono hk) b d (L2N.passAt kx σ) I .nil h)
theorem pe_mEn {pl : Sem Bool} (kx : L2N.Takes X W) (c : MetN X.prog X.w X.K X.mg X.base k C m sp dvs) (hr : Room j X.A) (hk : k ≤ j) (he : PE X o ta) (ha : PA X (e :: es) t) (hst : starEach (e :: es) X.env = (false, eval e X.env) :: starEach es X.env := by rfl) (hpl : (backTo pos (starEach es X.env)).any (·.1) = false := by rfl)
    (ht : eval (.Call (.Attribute o m apos) (e :: es) [] pos) X.env = (do
      let ov ← eval o X.env
      standAt apos.atName
      let (f, first) ← holding [ov] (getMethod ov m pl)
      callWith pos f first (backTo pos (starEach (e :: es) X.env)) (backToKw pos (keywordEach [] X.env))) := by rfl) : PE X (.Call (.Attribute o m apos) (e :: es) [] pos) (tMethE W C m sp dvs ta t) := by
  obtain ⟨f, fd, ps, ds, c1, hm, F, b, d⟩ := c.ex
  refine ⟨fun pins s σ H Q I h => ?_⟩
  refine PySem.W.methodCall_KW (pl := pl) (thn (he.run pins s σ H _ I h) fun u s1 ⟨x, H1, I1, rx, a, dx, fs, ex, ea, l, q⟩ => ?_) ht
  subst ex
  obtain rfl : u = Value.ref a := rx
  refine getmeth_ok I1 ea c1 hm l ?_
  refine PySem.W.callWith_K (first := [.ref a]) (h₀ := X.base) I.ok.mod.kin hm.kp (thn (ha.run pos pins s1 σ H1 _ I1 q) fun us s2 ⟨vs, H2, I2, r, q2⟩ => ⟨I2.kIn, ?_⟩) hst hpl
  exact run_fnSD (us := .ref a :: us) (vs := .ref a :: vs) (E := fun σ => WE W σ) F (hr.mono hk) b d (L2N.passAt kx σ) I2 (.cons rfl r) q2
theorem pe_mE0n {pl : Sem Bool} (kx : L2N.Takes X W) (c : MetN X.prog X.w X.K X.mg X.base k C m sp dvs) (hr : Room j X.A) (hk : k ≤ j) (he : PE X o ta)
    (ht : eval (.Call (.Attribute o m apos) [] [] pos) X.env = (do
      let ov ← eval o X.env
      standAt apos.atName
      let (f, first) ← holding [ov] (getMethod ov m pl)
      callWith pos f first (backTo pos (starEach [] X.env)) (backToKw pos (keywordEach [] X.env))) := by rfl) : PE X (.Call (.Attribute o m apos) [] [] pos) (tMethE W C m sp dvs ta tNil) := by
  obtain ⟨f, fd, ps, ds, c1, hm, F, b, d⟩ := c.ex
  refine ⟨fun pins s σ H Q I h => ?_⟩
  refine PySem.W.methodCall_KW (pl := pl) (thn (he.run pins s σ H _ I h) fun u s1 ⟨x, H1, I1, rx, a, dx, fs, ex, ea, l, q⟩ => ?_) ht
  subst ex
  obtain rfl : u = Value.ref a := rx
  refine getmeth_ok I1 ea c1 hm l ?_
  exact PySem.W.callWith_K0 (first := [.ref a]) I1.kIn hm.kp (run_fnSD (us := [.ref a]) (vs := [.ref a]) (E := fun σ => WE W σ) F (hr.mono hk) b d (L2N.passAt kx σ) I1 (.cons rfl .nil) q)
end
/-! ### the try as gen prints it -/
theorem ps_tryX3 {X : Cx} {body : List Stmt} {h₀ : ExceptHandler} {hds : List ExceptHandler} {l : List (Option Nat × Value × (Addr → Value → Option Addr → TS))} {pos : Pos} {Wout : WX} {tb : WX → List (Addr × Obj) → (Value → Shared → Prop) → TS} (hex : X.ex = []) (hN : X.N.Nodup) (hs : X.stack = X.env :: X.outer) (hf : X.env.frame = some X.env.locals)
    (hpa : ∀ hd : Option Value, PassesOwnAt (model X.prog X.w) (X.A.mark hd) X.A X.env X.xe) (tk : L2.Takes X Wout) (hW : ∀ c d σ σ' H, Wout c d σ H → Wout c d σ' H)
    (hb : ∀ (W : WX) (pn : List (Addr × Obj)) (xe : Value → Shared → Prop), L2N.Takes (X.tr pn xe) W → PassesOwn (model X.prog X.w) X.A X.env xe → PSs (X.tr pn xe) body (tb W pn xe)) (he : ∀ W pn xe, tb W pn xe = tb W [] (fun _ _ => False)) (hh : HdsX X Wout (h₀ :: hds) l) :
    PS X (.Try body (h₀ :: hds) [] [] pos) (tTryZ X.K Wout l fun W => tb W [] (fun _ _ => False)) := ps_tryX (tb := fun W => tb W [] (fun _ _ => False)) hex hN hs hf hpa tk hW (fun W pn xe k1 k2 => (he W pn xe) ▸ hb W pn xe k1 k2) hh
theorem HdsX.only2 {X : Cx} {Wout : WX} {x : Str} {c : Value} {ts : Addr → Obj → Value → Option Addr → List (Addr × Obj) → (Value → Shared → Prop) → TS} {b₀ : Stmt} {suite : List Stmt} {np pos' : Pos} {hds : List ExceptHandler} {l : List (Option Nat × Value × (Addr → Value → Option Addr → TS))} (hc : Names X x c)
      (hsu : ∀ (a : Addr) (oe : Obj) (cls : Value) (d : Option Addr) (pn : List (Addr × Obj)) (ye : Value → Shared → Prop), Zc cls d oe → (∃ vs, oe.data = .fields vs) → L2.Takes { L2H.suiteX X a ((a, oe) :: pn) with xe := ye } Wout → L2H.HotC { L2H.suiteX X a ((a, oe) :: pn) with xe := ye } →
        PSs { L2H.suiteX X a ((a, oe) :: pn) with xe := ye } (b₀ :: suite) (ts a oe cls d pn ye)) (he : ∀ a oe cls d pn ye, ts a oe cls d pn ye = ts a obj0 cls d [] (fun _ _ => False)) (r : HdsX X Wout hds l) :
      HdsX X Wout (.ExceptHandler (some (.Name x np)) none (b₀ :: suite) pos' :: hds) ((none, c, fun a cls d => ts a obj0 cls d [] (fun _ _ => False)) :: l) :=
  .only (ts := fun a cls d => ts a obj0 cls d [] (fun _ _ => False)) hc (fun a oe cls d pn ye h1 h2 h3 h4 => (he a oe cls d pn ye) ▸ hsu a oe cls d pn ye h1 h2 h3 h4) r
theorem HdsX.as2 {X : Cx} {Wout : WX} {x n : Str} {i : Nat} {c : Value} {ts : Addr → Obj → Value → Option Addr → List (Addr × Obj) → (Value → Shared → Prop) → TS} {b₀ : Stmt} {suite : List Stmt} {np pos' : Pos} {hds : List ExceptHandler} {l : List (Option Nat × Value × (Addr → Value → Option Addr → TS))} (hi : X.N[i]? = some n) (hln : X.env.kindOf n = some .local) (hc : Names X x c)
      (hsu : ∀ (a : Addr) (oe : Obj) (cls : Value) (d : Option Addr) (pn : List (Addr × Obj)) (ye : Value → Shared → Prop), Zc cls d oe → (∃ vs, oe.data = .fields vs) → L2.Takes { L2H.suiteX X a ((a, oe) :: pn) with xe := ye } Wout → L2H.HotC { L2H.suiteX X a ((a, oe) :: pn) with xe := ye } →
        PSs { L2H.suiteX X a ((a, oe) :: pn) with xe := ye } (b₀ :: suite) (ts a oe cls d pn ye)) (he : ∀ a oe cls d pn ye, ts a oe cls d pn ye = ts a obj0 cls d [] (fun _ _ => False)) (r : HdsX X Wout hds l) :
      HdsX X Wout (.ExceptHandler (some (.Name x np)) (some n) (b₀ :: suite) pos' :: hds) ((some i, c, fun a cls d => ts a obj0 cls d [] (fun _ _ => False)) :: l) :=
  .as (ts := fun a cls d => ts a obj0 cls d [] (fun _ _ => False)) hi hln hc (fun a oe cls d pn ye h1 h2 h3 h4 => (he a oe cls d pn ye) ▸ hsu a oe cls d pn ye h1 h2 h3 h4) r
/-! ### try with a finally: the body may raise, the suite does not -/
def tFin (tb : WX → TS) (tf tfs : TS) (Wout : WX) : TS := fun D σ H => tb (wFin tfs Wout) { nx := fun σ1 H1 => tf D σ1 H1, rt := fun _ _ => False, bk := fun _ _ => False, ct := fun _ _ => False } σ H
section
variable {X : Cx} {body : List Stmt} {f₀ : Stmt} {fs : List Stmt} {pos : Pos} {tb : WX → TS} {tf tfs : TS} {Wout : WX}
theorem ps_fin (hs : X.stack = X.env :: X.outer) (hf : X.env.frame = some X.env.locals) (hex : X.ex = []) (tk : Takes X Wout)
    (hb : ∀ (W : WX) (pn : List (Addr × Obj)) (xe : Value → Shared → Prop), Takes (X.tr pn xe) W → PassesOwn (model X.prog X.w) X.A X.env xe → PSs (X.tr pn xe) body (tb W))
    (hfin : PSs X.nox (f₀ :: fs) tf) (hsu : ∀ (a : Addr) (pn : List (Addr × Obj)), PSs (X.suite a pn) (f₀ :: fs) tfs) : PS X (.Try body [] [] (f₀ :: fs) pos) (tFin tb tf tfs Wout) := by
  refine no_implicit_lambda% (@Z.stp _ ?_ (fun key hn => ?_))
  ·
      refine ⟨fun pins s σ H D I h => ?_⟩
      have ok := I.ok
      refine wpAny_Try_finally ?_
      refine wpAny_mono ((hb (wFin tfs Wout) (X.pn ++ pins) (fun x s₁ => wpAny (model X.prog X.w) X.A (noteFrame x X.env) (fun _ s₂ => FinallyRaised X.prog X.w X.A X.xe X.env (f₀ :: fs) (SP X pins D) x s₂) (FinallyRaised X.prog X.w X.A X.xe X.env (f₀ :: fs) (SP X pins D)) s₁)
        (fun u s' xx => ?_) PassesOwn.looking).run [] s σ H _ (I.toTry _) h) (fun g s1 q => ?_) (fun x s1 hx => hx)
      · exact fin_exc hs hf hex ok tk hsu xx
      · cases g with
        | next =>
          obtain ⟨σ1, H1, I1, q1⟩ := q
          refine wpAny_execs_nil ?_
          refine wpAny_mono (hfin.run pins s1 σ1 H1 D ((I1.ofTry ok).wish _) q1) (fun g s2 q2 => ?_) fun _ _ z => False.elim z
          have q' : SP X pins D g s2 := q2.unwish
          cases g with
          | next => exact q'
          | ret w2 => exact q'
          | brk => exact q'
          | cont => exact q'
        | ret u =>
          obtain ⟨_, _, _, _, _, z⟩ := q
          exact False.elim z
        | brk =>
          obtain ⟨_, _, _, z⟩ := q
          exact False.elim z
        | cont =>
          obtain ⟨_, _, _, z⟩ := q
          exact False.elim z
  simpa only using Z.stc (Z.Stw.mk 5) hn key
end
section
variable {X : Cx} {body : List Stmt} {f₀ : Stmt} {fs : List Stmt} {pos : Pos} {Wout : WX} {tb : WX → List (Addr × Obj) → (Value → Shared → Prop) → TS} {tf : TS} {tfs : Addr → List (Addr × Obj) → TS}
theorem ps_fin3 (hs : X.stack = X.env :: X.outer) (hf : X.env.frame = some X.env.locals) (hex : X.ex = []) (tk : Takes X Wout)
    (hb : ∀ (W : WX) (pn : List (Addr × Obj)) (xe : Value → Shared → Prop), Takes (X.tr pn xe) W → PassesOwn (model X.prog X.w) X.A X.env xe → PSs (X.tr pn xe) body (tb W pn xe)) (he : ∀ W pn xe, tb W pn xe = tb W [] (fun _ _ => False))
    (hfin : PSs X.nox (f₀ :: fs) tf) (hsu : ∀ (a : Addr) (pn : List (Addr × Obj)), PSs (X.suite a pn) (f₀ :: fs) (tfs a pn)) (he2 : ∀ a pn, tfs a pn = tfs 0 []) : PS X (.Try body [] [] (f₀ :: fs) pos) (tFin (fun W => tb W [] (fun _ _ => False)) tf (tfs 0 []) Wout) :=
  ps_fin (tb := fun W => tb W [] (fun _ _ => False)) (tfs := tfs 0 []) hs hf hex tk (fun W pn xe k1 k2 => (he W pn xe) ▸ hb W pn xe k1 k2) hfin (fun a pn => (he2 a pn) ▸ hsu a pn)
end
section
variable {tb : WX → TS} {tf tfs : TS} {Wout : WX} {D : Ends} {σ : St} {H : Hp} {cls : Value} {d : Option Addr}
theorem w_fin (h : tb (wFin tfs Wout) { nx := fun σ1 H1 => tf D σ1 H1, rt := fun _ _ => False, bk := fun _ _ => False, ct := fun _ _ => False } σ H) : tFin tb tf tfs Wout D σ H := h
theorem w_wfin (h : tfs { nx := fun σ2 H2 => Wout cls d σ2 H2, rt := fun _ _ => False } σ H) : wFin tfs Wout cls d σ H := h
end
/-! ### calls within an except suite, and within what is called there: promises that hold while an error is handled -/
structure CalH (P : Program) (w : World) (K : PySem.W.Frag) (mg : Str → Option Value) (base : Heap) (k : Nat) (x : Str) (sp : Sp) (dvs : List V) : Prop where
  ex : ∃ (f : Addr) (fd : FuncData) (ps : List Str) (ds : List Value), FnZ P w K mg base k f fd ps (fun _ _ _ => sp) ∧ mg x = some (.ref f) ∧ PySem.W.keepIn K (.ref f) = true ∧ Binds K fd ps ds ∧ Vals dvs ds
structure MetH (P : Program) (w : World) (K : PySem.W.Frag) (mg : Str → Option Value) (base : Heap) (k : Nat) (C : Addr) (m : Str) (sp : Sp) (dvs : List V) : Prop where
  ex : ∃ (f : Addr) (fd : FuncData) (ps : List Str) (ds : List Value), Cls K C ∧ Meth K C m f ∧ FnZ P w K mg base k f fd ps (fun _ _ _ => sp) ∧ Binds K fd ps ds ∧ Vals dvs ds
theorem FnZ.mono {P : Program} {w : World} {K : PySem.W.Frag} {mg : Str → Option Value} {base : Heap} {k j : Nat} {f : Addr} {fd : FuncData} {ps : List Str} {sz : Addr → Value → Option Addr → Sp} (F : FnZ P w K mg base k f fd ps sz) (h : k ≤ j) : FnZ P w K mg base j f fd ps sz :=
  ⟨F.ln, fun A outer s H args us vs Q E p c d hr => F.go A outer s H args us vs Q E p c d (hr.mono h)⟩
theorem CalH.mono {P : Program} {w : World} {K : PySem.W.Frag} {mg : Str → Option Value} {base : Heap} {k j : Nat} {x : Str} {sp : Sp} {dvs : List V} (c : CalH P w K mg base k x sp dvs) (h : k ≤ j) : CalH P w K mg base j x sp dvs := by
  refine no_implicit_lambda% (@Z.stp _ ?_ (fun key hn => ?_))
  ·
      obtain ⟨f, fd, ps, ds, F, r⟩ := c.ex
      exact ⟨f, fd, ps, ds, F.mono h, r⟩
  simpa only using Z.stc (Z.Stw.mk 5) hn key
theorem MetH.mono {P : Program} {w : World} {K : PySem.W.Frag} {mg : Str → Option Value} {base : Heap} {k j : Nat} {C : Addr} {m : Str} {sp : Sp} {dvs : List V} (c : MetH P w K mg base k C m sp dvs) (h : k ≤ j) : MetH P w K mg base j C m sp dvs := by
  refine no_implicit_lambda% (@Z.stp _ ?_ (fun key hn => ?_))
  ·
      obtain ⟨f, fd, ps, ds, c1, c2, F, r⟩ := c.ex
      exact ⟨f, fd, ps, ds, c1, c2, F.mono h, r⟩
  simpa only using Z.stc (Z.Stw.mk 5) hn key
theorem calh_of {P : Program} {w : World} {K : PySem.W.Frag} {mg : Str → Option Value} {base : Heap} {x : Str} {st : Stmt} {dvs dvs' : List V} {kws : List (Str × V)} {ps : List Str} {k : Nat} {sp : Sp} (d : ∃ f fd, Dfn K mg x st dvs kws f fd)
    (ok : ∀ f fd, FunD K x x (defArgs st) (defBody st) (defScope st) dvs kws f fd → FnZ P w K mg base k f fd ps (fun _ _ _ => sp)) (bi : ∀ f fd, FunD K x x (defArgs st) (defBody st) (defScope st) dvs kws f fd → ∃ ds, Vals dvs' ds ∧ Binds K fd ps ds) : CalH P w K mg base k x sp dvs' := by
  refine no_implicit_lambda% (@Z.stp _ ?_ (fun key hn => ?_))
  ·
      obtain ⟨f, fd, F, hm⟩ := d
      obtain ⟨ds, h1, h2⟩ := bi f fd F
      exact ⟨f, fd, ps, ds, ok f fd F, hm, F.kp, h2, h1⟩
  simpa only using Z.stc (Z.Stw.mk 5) hn key
theorem meth_of {P : Program} {w : World} {K : PySem.W.Frag} {mg : Str → Option Value} {base : Heap} {C f : Addr} {m x qual : Str} {st : Stmt} {dvs dvs' : List V} {kws : List (Str × V)} {ps : List Str} {k : Nat} {sp : Sp} (c : Cls K C) (me : Meth K C m f) (d : ∃ fd, FunD K x qual (defArgs st) (defBody st) (defScope st) dvs kws f fd)
    (ok : ∀ fd, FunD K x qual (defArgs st) (defBody st) (defScope st) dvs kws f fd → FnZ P w K mg base k f fd ps (fun _ _ _ => sp)) (bi : ∀ fd, FunD K x qual (defArgs st) (defBody st) (defScope st) dvs kws f fd → ∃ ds, Vals dvs' ds ∧ Binds K fd ps ds) : MetH P w K mg base k C m sp dvs' := by
  refine no_implicit_lambda% (@Z.stp _ ?_ (fun key hn => ?_))
  ·
      obtain ⟨fd, F⟩ := d
      obtain ⟨ds, h1, h2⟩ := bi fd F
      exact ⟨f, fd, ps, ds, c, me, ok fd F, h2, h1⟩
  simpa only using Z.stc (Z.Stw.mk 5) hn key
open PyProof.Rows HotX in
theorem fn_ofZ2 {P : Program} {w : World} {K : PySem.W.Frag} {mg : Str → Option Value} {base : Heap} {x qual : Str} {st : Stmt} {f : Addr} {fd : FuncData} {dvs : List V} {kws : List (Str × V)} {N ps : List Str} {k : Nat} {sz : Addr → Value → Option Addr → Sp} (F : FunD K x qual (defArgs st) (defBody st) (defScope st) dvs kws f fd) (S : FnScope N ps (defScope st))
    (ln : ∀ a c d vs H Q E, sz a c d vs H Q E → vs.length = ps.length)
    (hbody : ∀ (cdv : Value) (A : Around) (outer : List Env) (s : Shared) (H : Hp) (vs : List V) (Q : VK) (E : XK) (a : Addr) (oe : Obj) (cls : Value) (d : Option Addr), L2H.RoomH k (A.deeper (PyProof.Rows.envOfC qual (defScope st) s.heap.objs.size f cdv)) → Zc cls d oe → (∃ vs, oe.data = .fields vs) → sz a cls d vs H Q E →
      ∃ t, PSs (L2H.cxH (L2.CX P w) P w K mg base N qual (defScope st) f cdv A outer s H E (a, oe)) (defBody st) t ∧ t ⟨fun _ H' => Q .non H', Q, fun _ _ => False, fun _ _ => False⟩ (start N vs) H) : FnZ P w K mg base (k + 1) f fd ps sz := by
  refine no_implicit_lambda% (@Z.stp _ ?_ (fun key hn => ?_))
  ·
      obtain ⟨oc, od, dV, kV, doc, pm, an, cdv, ct, osl, rfl, lk, hcd, _, _⟩ := F.ex
      refine ⟨ln, fun A outer s H args us vs Q E p c d hr hz hf hpin e0 hb r hsp => ?_⟩
      have hl := ln _ _ _ _ _ _ _ hsp
      have kin : K.In s.heap := e0.mod.kin.keeps fun b o e => (e0.bs b o e).1
      have nol : s.heap.NoLimit := e0.mod.nolimit.keeps fun b o e => (e0.bs b o e).1
      have kd : ∀ y ∈ ps.zip us, (defScope st).names.lookup y.1 = some .local ∨ ((defScope st).names.lookup y.1 = some .cell ∧ ((cellsFrom (s.heap.objs.size + 1) (defScope st).names []).lookup y.1).isSome = true) := fun y hy =>
        (S.par y.1 (List.of_mem_zip (show (y.1, y.2) ∈ ps.zip us from hy)).1).elim .inl fun q => .inr ⟨q, PySem.W.cellsFrom_some _ _ _ (.inl q)⟩
      refine codeAny_call_function hr.depth (kin _ _ lk) rfl S.co S.gen rfl (PySem.W.codeRec_of kin hcd) (hb _ _ _ _ ?_)
      refine wpAny_newFunctionEnv_cells S.kind kd fun env he s1 x => ?_
      subst he
      refine ⟨nol.keeps x.toInCall.keep, codeAny_func ?_⟩
      obtain ⟨t, ht, hq⟩ := hbody cdv A outer s H vs Q E p.1 p.2 c d (hr.deeper _) hz hf hsp
      have I : Inv (L2H.cxH (L2.CX P w) P w K mg base N qual (defScope st) f cdv A outer s H E (p.1, p.2)) [] (L2.start N vs) H s1 := L2H.inv_startH S hpin e0 hl r x
      refine wpAny_mono (ht.run [] s1 (L2.start N vs) H _ I hq) (fun fl s' hs => ?_) fun e s' z => z
      cases fl with
      | ret u =>
        obtain ⟨v, σ', H', J, rv, q⟩ := hs
        exact ⟨v, H', J.os, J.bare, J.base, J.hok, rv, q⟩
      | next =>
        obtain ⟨σ', H', J, q⟩ := hs
        exact ⟨V.non, H', J.os, J.bare, J.base, J.hok, rfl, q⟩
      | brk =>
        obtain ⟨_, _, _, q⟩ := hs
        exact q.elim
      | cont =>
        obtain ⟨_, _, _, q⟩ := hs
        exact q.elim
  simpa only using Z.stc (Z.Stw.mk 5) hn key
section
variable {X : Cx} {p : Addr × Obj} {cls : Value} {d : Option Addr} {j k : Nat} {f C : Addr} {fd : FuncData} {ps : List Str} {ds : List Value} {dvs : List V} {sp : Sp} {x m : Str} {q pos apos : Pos} {e o : Expr} {es : List Expr} {ta : TE} {t : TA}
theorem run_fnZ {pins : List (Addr × Obj)} {σ : St} {H : Hp} {s : Shared} {Q : VK} {us : List Value} {vs : List V} (hz : Zc cls d p.2) (hf : ∃ vs, p.2.data = .fields vs) (hp : p ∈ X.pn) (F : FnZ X.prog X.w X.K X.mg X.base k f fd ps (fun _ _ _ => sp)) (hr : L2H.RoomH k X.A) (hb : Binds X.K fd ps ds) (hd : Vals dvs ds)
    (I : Inv X pins σ H s) (r : Vals vs us) (h : sp (vs ++ dvs) H Q E0) : wpAny (model X.prog X.w) X.A (call (.ref f) us) (EP X pins σ Q) X.xe s := by
  refine no_implicit_lambda% (@Z.stp _ ?_ (fun key hn => ?_))
  ·
      have hl : (us ++ ds).length = ps.length := by rw [← (r.append hd).length]; exact F.ln p.1 cls d _ _ _ _ h
      have b := hb s us I.kIn hl
      have P1 := I.pin p (List.mem_append_left _ hp)
      have hpin : L2H.PinOk X.stack H s p := ⟨P1.1, P1.2.1, fun hm => (List.mem_cons.mp (I.stkSub p.1 hm)).elim P1.2.2.1 P1.2.2.2.1, P1.2.2.2.2⟩
      refine wpAny_call (codeAny_mono (F.go X.A X.stack s H ⟨us, []⟩ (us ++ ds) (vs ++ dvs) Q E0 p cls d hr hz hf hpin I.env0 b (r.append hd) h) fun r s' hq => ?_)
      cases r with
      | error e => exact passL pins σ H s e s' I hq
      | ok fl =>
        cases fl with
        | ret u => exact I.after hq
        | next => exact False.elim hq
        | brk => exact False.elim hq
        | cont => exact False.elim hq
  simpa only using Z.stc (Z.Stw.mk 5) hn key
theorem pe_cH (hz : Zc cls d p.2) (hf : ∃ vs, p.2.data = .fields vs) (hp : p ∈ X.pn) (c : CalH X.prog X.w X.K X.mg X.base k x sp dvs) (hr : L2H.RoomH j X.A) (hk : k ≤ j) (hg : Gl X x) (ha : PA X (e :: es) t)
    (hdb : (x == ("__debug__" : Str)) = false := by decide) (he : starEach (e :: es) X.env = (false, eval e X.env) :: starEach es X.env := by rfl) (hpl : (backTo pos (starEach es X.env)).any (·.1) = false := by rfl) :
    PE X (.Call (.Name x q) (e :: es) [] pos) (tCall sp dvs E0 t) := by
  obtain ⟨f, fd, ps, ds, F, hm, kp, b, dv⟩ := c.ex
  refine ⟨fun pins s σ H Q I h => ?_⟩
  refine wpAny_Call_Name_kw (ld_glob I hg hm ?_ hdb)
  refine PySem.W.callWith_K (h₀ := X.base) I.ok.mod.kin kp (thn (ha.run pos pins s σ H _ I h) fun us s1 ⟨vs, H1, I1, r, q⟩ => ⟨I1.kIn, ?_⟩) he hpl
  exact run_fnZ hz hf hp F (hr.mono hk) b dv I1 r q
theorem pe_cH0 (hz : Zc cls d p.2) (hf : ∃ vs, p.2.data = .fields vs) (hp : p ∈ X.pn) (c : CalH X.prog X.w X.K X.mg X.base k x sp dvs) (hr : L2H.RoomH j X.A) (hk : k ≤ j) (hg : Gl X x) (hdb : (x == ("__debug__" : Str)) = false := by decide) :
    PE X (.Call (.Name x q) [] [] pos) (tCall sp dvs E0 tNil) := by
  obtain ⟨f, fd, ps, ds, F, hm, kp, b, dv⟩ := c.ex
  refine ⟨fun pins s σ H Q I h => ?_⟩
  refine wpAny_Call_Name_kw (ld_glob I hg hm ?_ hdb)
  exact PySem.W.callWith_K0 I.kIn kp (run_fnZ (us := []) hz hf hp F (hr.mono hk) b dv I .nil h)
theorem pe_mH {pl : Sem Bool} (hz : Zc cls d p.2) (hf : ∃ vs, p.2.data = .fields vs) (hp : p ∈ X.pn) (c : MetH X.prog X.w X.K X.mg X.base k C m sp dvs) (hr : L2H.RoomH j X.A) (hk : k ≤ j) (he : PE X o ta) (ha : PA X (e :: es) t)
    (hst : starEach (e :: es) X.env = (false, eval e X.env) :: starEach es X.env := by rfl) (hpl : (backTo pos (starEach es X.env)).any (·.1) = false := by rfl)
    (ht : eval (.Call (.Attribute o m apos) (e :: es) [] pos) X.env = (do
      let ov ← eval o X.env
      standAt apos.atName
      let (f, first) ← holding [ov] (getMethod ov m pl)
      callWith pos f first (backTo pos (starEach (e :: es) X.env)) (backToKw pos (keywordEach [] X.env))) := by rfl) :
    PE X (.Call (.Attribute o m apos) (e :: es) [] pos) (tMeth C m sp dvs E0 ta t) := by
  obtain ⟨f, fd, ps, ds, c1, hm, F, b, dv⟩ := c.ex
  refine ⟨fun pins s σ H Q I h => ?_⟩
  refine PySem.W.methodCall_KW (pl := pl) (thn (he.run pins s σ H _ I h) fun u s1 ⟨x, H1, I1, rx, a, dx, fs, ex, ea, l, q⟩ => ?_) ht
  subst ex
  obtain rfl : u = Value.ref a := rx
  refine getmeth_ok I1 ea c1 hm l ?_
  refine PySem.W.callWith_K (first := [.ref a]) (h₀ := X.base) I.ok.mod.kin hm.kp (thn (ha.run pos pins s1 σ H1 _ I1 q) fun us s2 ⟨vs, H2, I2, r, q2⟩ => ⟨I2.kIn, ?_⟩) hst hpl
  exact run_fnZ (us := .ref a :: us) (vs := .ref a :: vs) hz hf hp F (hr.mono hk) b dv I2 (.cons rfl r) q2
theorem pe_mH0 {pl : Sem Bool} (hz : Zc cls d p.2) (hf : ∃ vs, p.2.data = .fields vs) (hp : p ∈ X.pn) (c : MetH X.prog X.w X.K X.mg X.base k C m sp dvs) (hr : L2H.RoomH j X.A) (hk : k ≤ j) (he : PE X o ta)
    (ht : eval (.Call (.Attribute o m apos) [] [] pos) X.env = (do
      let ov ← eval o X.env
      standAt apos.atName
      let (f, first) ← holding [ov] (getMethod ov m pl)
      callWith pos f first (backTo pos (starEach [] X.env)) (backToKw pos (keywordEach [] X.env))) := by rfl) :
    PE X (.Call (.Attribute o m apos) [] [] pos) (tMeth C m sp dvs E0 ta tNil) := by
  obtain ⟨f, fd, ps, ds, c1, hm, F, b, dv⟩ := c.ex
  refine ⟨fun pins s σ H Q I h => ?_⟩
  refine PySem.W.methodCall_KW (pl := pl) (thn (he.run pins s σ H _ I h) fun u s1 ⟨x, H1, I1, rx, a, dx, fs, ex, ea, l, q⟩ => ?_) ht
  subst ex
  obtain rfl : u = Value.ref a := rx
  refine getmeth_ok I1 ea c1 hm l ?_
  exact PySem.W.callWith_K0 (first := [.ref a]) I1.kIn hm.kp (run_fnZ (us := [.ref a]) (vs := [.ref a]) hz hf hp F (hr.mono hk) b dv I1 (.cons rfl .nil) q)
theorem roomS {X : Cx} {a : Addr} {pn : List (Addr × Obj)} {j : Nat} (hr : Room j X.A) : L2H.RoomH j (X.suite a pn).A := ⟨by have := hr.dp; exact this, by have := hr.un; exact this⟩
end
/-! ### o.m() where o is of one of two classes, known only when o is there -/
def tMeth2 (W : WX) (C1 C2 : Addr) (m : Str) (sp1 sp2 : Sp) (d1 d2 : List V) (ta : TE) : TE := fun σ H Q => ta σ H fun x H1 => tMethE W C1 m sp1 d1 (fun _ H2 Q2 => Q2 x H2) tNil σ H1 Q ∨ tMethE W C2 m sp2 d2 (fun _ H2 Q2 => Q2 x H2) tNil σ H1 Q
section
variable {X : Cx} {W : WX} {j k : Nat} {C1 C2 : Addr} {m : Str} {sp1 sp2 : Sp} {d1 d2 : List V} {pos apos : Pos} {o : Expr} {ta : TE}
theorem pe_m20 {pl : Sem Bool} (kx : Takes X W) (c1 : Met X.prog X.w X.K X.mg X.base k C1 m sp1 d1) (c2 : Met X.prog X.w X.K X.mg X.base k C2 m sp2 d2) (hr : Room j X.A) (hk : k ≤ j) (he : PE X o ta)
    (ht : eval (.Call (.Attribute o m apos) [] [] pos) X.env = (do
      let ov ← eval o X.env
      standAt apos.atName
      let (f, first) ← holding [ov] (getMethod ov m pl)
      callWith pos f first (backTo pos (starEach [] X.env)) (backToKw pos (keywordEach [] X.env))) := by rfl) :
    PE X (.Call (.Attribute o m apos) [] [] pos) (tMeth2 W C1 C2 m sp1 sp2 d1 d2 ta) := by
  obtain ⟨f, fd, ps, ds, e1, hm, F, b, d⟩ := c1.ex
  obtain ⟨f', fd', ps', ds', e1', hm', F', b', d'⟩ := c2.ex
  refine ⟨fun pins s σ H Q I h => ?_⟩
  refine PySem.W.methodCall_KW (pl := pl) (thn (he.run pins s σ H _ I h) fun u s1 ⟨x, H1, I1, rx, hx⟩ => ?_) ht
  rcases hx with ⟨a, dx, fs, ex, ea, l, q⟩ | ⟨a, dx, fs, ex, ea, l, q⟩
  · subst ex
    obtain rfl : u = Value.ref a := rx
    refine getmeth_ok I1 ea e1 hm l ?_
    exact PySem.W.callWith_K0 (first := [.ref a]) I1.kIn hm.kp (run_fnSD (us := [.ref a]) (vs := [.ref a]) (E := fun σ => WE W σ) F (hr.mono hk) b d (passAt kx σ) I1 (.cons rfl .nil) q)
  · subst ex
    obtain rfl : u = Value.ref a := rx
    refine getmeth_ok I1 ea e1' hm' l ?_
    exact PySem.W.callWith_K0 (first := [.ref a]) I1.kIn hm'.kp (run_fnSD (us := [.ref a]) (vs := [.ref a]) (E := fun σ => WE W σ) F' (hr.mono hk) b' d' (passAt kx σ) I1 (.cons rfl .nil) q)
end
theorem w_m2 {W : WX} {C1 C2 : Addr} {m : Str} {sp1 sp2 : Sp} {d1 d2 : List V} {ta : TE} {σ : St} {H : Hp} {Q : VK} (h : ta σ H fun x H1 => tMethE W C1 m sp1 d1 (fun _ H2 Q2 => Q2 x H2) tNil σ H1 Q ∨ tMethE W C2 m sp2 d2 (fun _ H2 Q2 => Q2 x H2) tNil σ H1 Q) : tMeth2 W C1 C2 m sp1 sp2 d1 d2 ta σ H Q := h
theorem w_m2k {Q : VK} {v : V} {σ : St} {H : Hp} (h : Q v H) : (fun (_ : St) (H2 : Hp) (Q2 : VK) => Q2 v H2) σ H Q := h
/-! ### repr of nested data; promises of defs that are called where no repr is under way -/
structure FnG (P : Program) (w : World) (K : PySem.W.Frag) (mg : Str → Option Value) (base : Heap) (CX : CXT) (k : Nat) (f : Addr) (fd : FuncData) (ps : List Str) (sp : Sp) : Prop where
  ln : ∀ vs H Q E, sp vs H Q E → vs.length = ps.length
  go : ∀ (A : Around) (outer : List Env) (s : Shared) (H : Hp) (args : Args) (us : List Value) (vs : List V) (Q : VK) (E : XK), Room k A → A.guards = some [] → Env0 P w K mg base A outer s H → BindsTo s fd args (ps.zip us) → Vals vs us → sp vs H Q E →
    codeAny (model P w) A (.call (.ref f) args) (CR CX outer P w H s Q E) s
open PyProof.Rows in
theorem fn_ofG {CX : CXT} {P : Program} {w : World} {K : PySem.W.Frag} {mg : Str → Option Value} {base : Heap} {x qual : Str} {st : Stmt} {dvs : List V} {kws : List (Str × V)} {f : Addr} {fd : FuncData} {N ps : List Str} {k : Nat} {sp : Sp} (F : FunD K x qual (defArgs st) (defBody st) (defScope st) dvs kws f fd) (S : FnScope N ps (defScope st))
    (ln : ∀ vs H Q E, sp vs H Q E → vs.length = ps.length)
    (hbody : ∀ (cdv : Value) (A : Around) (outer : List Env) (s : Shared) (H : Hp) (vs : List V) (Q : VK) (E : XK), Room k (A.deeper (envOfC qual (defScope st) s.heap.objs.size f cdv)) → (A.deeper (envOfC qual (defScope st) s.heap.objs.size f cdv)).guards = some [] → sp vs H Q E →
      ∃ t, PSs (cxOf CX P w K mg base N qual (defScope st) f cdv A outer s H E) (defBody st) t ∧ t ⟨fun _ H' => Q .non H', Q, fun _ _ => False, fun _ _ => False⟩ (start N vs) H) : FnG P w K mg base CX (k + 1) f fd ps sp := by
  refine no_implicit_lambda% (@Z.stp _ ?_ (fun key hn => ?_))
  ·
      obtain ⟨oc, od, dV, kV, doc, pm, an, cdv, ct, osl, rfl, lk, hcd, _, _⟩ := F.ex
      refine ⟨ln, fun A outer s H args us vs Q E hr hg e0 hb r hsp => ?_⟩
      have hl := ln _ _ _ _ hsp
      have kin : K.In s.heap := e0.mod.kin.keeps fun b o e => (e0.bs b o e).1
      have nol : s.heap.NoLimit := e0.mod.nolimit.keeps fun b o e => (e0.bs b o e).1
      have kd : ∀ y ∈ ps.zip us, (defScope st).names.lookup y.1 = some .local ∨ ((defScope st).names.lookup y.1 = some .cell ∧ ((cellsFrom (s.heap.objs.size + 1) (defScope st).names []).lookup y.1).isSome = true) := fun y hy =>
        (S.par y.1 (List.of_mem_zip (show (y.1, y.2) ∈ ps.zip us from hy)).1).elim .inl fun q => .inr ⟨q, PySem.W.cellsFrom_some _ _ _ (.inl q)⟩
      refine codeAny_call_function hr.depth (kin _ _ lk) rfl S.co S.gen rfl (PySem.W.codeRec_of kin hcd) (hb _ _ _ _ ?_)
      refine wpAny_newFunctionEnv_cells S.kind kd fun env he s1 x => ?_
      subst he
      refine ⟨nol.keeps x.toInCall.keep, codeAny_func ?_⟩
      obtain ⟨t, ht, hq⟩ := hbody cdv A outer s H vs Q E (hr.deeper _) hg hsp
      have I : Inv (cxOf CX P w K mg base N qual (defScope st) f cdv A outer s H E) [] (L2.start N vs) H s1 := inv_start S hr.hd e0 hl r x
      refine wpAny_mono (ht.run [] s1 (L2.start N vs) H _ I hq) (fun fl s' hs => ?_) fun e s' z => z
      cases fl with
      | ret u =>
        obtain ⟨v, σ', H', J, rv, q⟩ := hs
        exact ⟨v, H', J.os, J.bare, J.base, J.hok, rv, q⟩
      | next =>
        obtain ⟨σ', H', J, q⟩ := hs
        exact ⟨V.non, H', J.os, J.bare, J.base, J.hok, rfl, q⟩
      | brk =>
        obtain ⟨_, _, _, q⟩ := hs
        exact q.elim
      | cont =>
        obtain ⟨_, _, _, q⟩ := hs
        exact q.elim
  simpa only using Z.stc (Z.Stw.mk 5) hn key
/-- .. by its name at the top -/
structure CalG (P : Program) (w : World) (K : PySem.W.Frag) (mg : Str → Option Value) (base : Heap) (k : Nat) (x : Str) (sp : Sp) : Prop where
  ex : ∃ (f : Addr) (fd : FuncData) (ps : List Str), FnG P w K mg base (L2.CX P w) k f fd ps sp ∧ mg x = some (.ref f) ∧ PySem.W.keepIn K (.ref f) = true ∧ Binds K fd ps []
theorem CalG.mono {P : Program} {w : World} {K : PySem.W.Frag} {mg : Str → Option Value} {base : Heap} {k j : Nat} {x : Str} {sp : Sp} (c : CalG P w K mg base k x sp) (h : k ≤ j) : CalG P w K mg base j x sp := by
  refine no_implicit_lambda% (@Z.stp _ ?_ (fun key hn => ?_))
  ·
      obtain ⟨f, fd, ps, F, r⟩ := c.ex
      exact ⟨f, fd, ps, ⟨F.ln, fun A outer s H args us vs Q E hr => F.go A outer s H args us vs Q E (hr.mono h)⟩, r⟩
  simpa only using Z.stc (Z.Stw.mk 5) hn key
section
variable {P : Program} {w : World} {K : PySem.W.Frag} {mg : Str → Option Value} {base : Heap}
theorem calg_x {x : Str} {st : Stmt} {N ps : List Str} {k : Nat} {sp : Sp} (d : ∃ f fd, Dfn K mg x st [] [] f fd) (S : FnScope N ps (defScope st))
    (hb : ∀ (kV doc pm : Value) (an : Option Addr) (cdv ct : Value) (us : List Value), us.length = ps.length → bindArgs (PySem.W.fnOf x x (defArgs st) (defBody st) (defScope st) .none kV doc pm an cdv ct) ⟨us, []⟩ = pure (ps.zip us))
    (len : ∀ vs H Q E, sp vs H Q E → vs.length = ps.length)
    (hbody : ∀ (cdv : Value) (A : Around) (outer : List Env) (s : Shared) (f : Addr) (H : Hp) (vs : List V) (Q : VK) (E : XK), Room k (A.deeper (PyProof.Rows.envOfC x (defScope st) s.heap.objs.size f cdv)) → (A.deeper (PyProof.Rows.envOfC x (defScope st) s.heap.objs.size f cdv)).guards = some [] → sp vs H Q E →
      Takes (cxOf (L2.CX P w) P w K mg base N x (defScope st) f cdv A outer s H E) (fun cls d _ H => E cls d H) → PassesOwn (model P w) (A.deeper (PyProof.Rows.envOfC x (defScope st) s.heap.objs.size f cdv)) (cxOf (L2.CX P w) P w K mg base N x (defScope st) f cdv A outer s H E).env (cxOf (L2.CX P w) P w K mg base N x (defScope st) f cdv A outer s H E).xe →
      ∃ t, PSs (cxOf (L2.CX P w) P w K mg base N x (defScope st) f cdv A outer s H E) (defBody st) t ∧ t ⟨fun _ H' => Q .non H', Q, fun _ _ => False, fun _ _ => False⟩ (start N vs) H) : CalG P w K mg base (k + 1) x sp := by
  refine no_implicit_lambda% (@Z.stp _ ?_ (fun key hn => ?_))
  ·
      obtain ⟨f, fd, F, hm⟩ := d
      exact ⟨f, fd, ps, fn_ofG F S len fun cdv A outer s H vs Q E hr hg h => hbody cdv A outer s f H vs Q E hr hg h (takes_of rfl rfl rfl rfl) (passes_of (X := cxOf (L2.CX P w) P w K mg base N x (defScope st) f cdv A outer s H E) rfl), hm, F.kp, F.bindsN hb⟩
  simpa only using Z.stc (Z.Stw.mk 5) hn key
theorem law_noxG {x : Str} {st : Stmt} {f : Addr} {fd : FuncData} {N ps : List Str} {k : Nat} {sp : Sp} (F : FunD K x x (defArgs st) (defBody st) (defScope st) [] [] f fd) (S : FnScope N ps (defScope st))
    (len : ∀ vs H Q E, sp vs H Q E → vs.length = ps.length)
    (hbody : ∀ (cdv : Value) (A : Around) (outer : List Env) (s : Shared) (H : Hp) (vs : List V) (Q : VK) (E : XK), Room k (A.deeper (PyProof.Rows.envOfC x (defScope st) s.heap.objs.size f cdv)) → (A.deeper (PyProof.Rows.envOfC x (defScope st) s.heap.objs.size f cdv)).guards = some [] → sp vs H Q E →
      Takes (cxOf CX0 P w K mg base N x (defScope st) f cdv A outer s H E).nox (fun _ _ _ _ => False) → PassesOwn (model P w) (A.deeper (PyProof.Rows.envOfC x (defScope st) s.heap.objs.size f cdv)) (cxOf CX0 P w K mg base N x (defScope st) f cdv A outer s H E).nox.env (cxOf CX0 P w K mg base N x (defScope st) f cdv A outer s H E).nox.xe →
      ∃ t, PSs (cxOf CX0 P w K mg base N x (defScope st) f cdv A outer s H E).nox (defBody st) t ∧ t ⟨fun _ H' => Q .non H', Q, fun _ _ => False, fun _ _ => False⟩ (start N vs) H) : FnG P w K mg base CX0 (k + 1) f fd ps sp :=
  fn_ofG F S len fun cdv A outer s H vs Q E hr hg h => by
    obtain ⟨t, h1, h2⟩ := hbody cdv A outer s H vs Q E hr hg h takes_no PassesOwn.never
    exact ⟨t, h1.nox, h2⟩
end
section
variable {X : Cx} {W : WX} {j k : Nat} {x : Str} {sp : Sp} {p pos : Pos} {e : Expr} {es : List Expr} {t : TA}
theorem run_fnG {pins : List (Addr × Obj)} {σ : St} {H : Hp} {s : Shared} {Q : VK} {f : Addr} {fd : FuncData} {ps : List Str} {us : List Value} {vs : List V} (kx : Takes X W) (F : FnG X.prog X.w X.K X.mg X.base (L2.CX X.prog X.w) k f fd ps sp) (hr : Room k X.A) (hg : X.A.guards = some []) (hb : Binds X.K fd ps [])
    (I : Inv X pins σ H s) (r : Vals vs us) (h : sp vs H Q (WE W σ)) : wpAny (model X.prog X.w) X.A (call (.ref f) us) (EP X pins σ Q) X.xe s := by
  refine no_implicit_lambda% (@Z.stp _ ?_ (fun key hn => ?_))
  ·
      have hl : us.length = ps.length := by rw [← r.length]; exact F.ln _ _ _ _ h
      have b := hb s us I.kIn (by rw [List.append_nil]; exact hl)
      rw [List.append_nil] at b
      refine wpAny_call (codeAny_mono (F.go X.A X.stack s H ⟨us, []⟩ us vs Q (WE W σ) hr hg I.env0 b r h) fun r s' hq => ?_)
      cases r with
      | error e => exact passAt kx σ pins H s e s' I hq
      | ok fl =>
        cases fl with
        | ret u => exact I.after hq
        | next => exact False.elim hq
        | brk => exact False.elim hq
        | cont => exact False.elim hq
  simpa only using Z.stc (Z.Stw.mk 5) hn key
theorem pe_cG (kx : Takes X W) (c : CalG X.prog X.w X.K X.mg X.base k x sp) (hr : Room j X.A) (hgu : X.A.guards = some []) (hk : k ≤ j) (hg : Gl X x) (ha : PA X (e :: es) t)
    (hdb : (x == ("__debug__" : Str)) = false := by decide) (he : starEach (e :: es) X.env = (false, eval e X.env) :: starEach es X.env := by rfl) (hpl : (backTo pos (starEach es X.env)).any (·.1) = false := by rfl) :
    PE X (.Call (.Name x p) (e :: es) [] pos) (tCallE W sp [] t) := by
  obtain ⟨f, fd, ps, F, hm, kp, b⟩ := c.ex
  refine ⟨fun pins s σ H Q I h => ?_⟩
  refine wpAny_Call_Name_kw (ld_glob I hg hm ?_ hdb)
  refine PySem.W.callWith_K (h₀ := X.base) I.ok.mod.kin kp (thn (ha.run pos pins s σ H _ I h) fun us s1 ⟨vs, H1, I1, r, q⟩ => ⟨I1.kIn, ?_⟩) he hpl
  have q2 : sp (vs ++ []) H1 Q (WE W σ) := q
  rw [List.append_nil] at q2
  exact run_fnG kx F (hr.mono hk) hgu b I1 r q2
/-- repr(x) of a list or a tuple of data -/
def zReprD (K : PySem.W.Frag) : List V → Hp → VK → Prop := fun xs H Q => ∃ (a : Addr) (d : PyData), xs = [.ref a] ∧ Dp K H (.ref a) d ∧ d.showable = true ∧ d.hasDict = false ∧ d.depth ≤ 40 ∧ d.shown.length ≤ sizeLine ∧ Q (.str d.shown) H
theorem call_zReprD (hg : X.A.guards = some []) (hu : X.A.units + 65 < cLine) : CallR X (.builtin "repr") (zReprD X.K) := by
  refine no_implicit_lambda% (@Z.stp _ ?_ (fun key hn => ?_))
  ·
      intro pins s σ H xs us Q I r h
      obtain ⟨a, d, rfl, hd, h1, h2, h3, h4, q⟩ := h
      obtain ⟨u, rfl, ru⟩ := vals1 r
      cases ru
      obtain ⟨as, r1⟩ := Dp.reads I d _ _ hd rfl
      exact repr_of_reads' r1 h1 (PyData.noDict_hsm h2) hg (by omega) (fun _ _ e => e) (fun h' u tk hk => ⟨.str d.shown, H, I.kept hk, ⟨u, rfl⟩, q⟩) h4
  simpa only using Z.stc (Z.Stw.mk 5) hn key
end
/-! ### how long what is shown may be -/
def shw (k n : Nat) (d : PyData) : Prop := d.showable = true ∧ d.hasDict = false ∧ d.depth ≤ k ∧ d.shown.length ≤ n
theorem shw_mono {k n k' n' : Nat} {d : PyData} (h : shw k n d) (h1 : k ≤ k') (h2 : n ≤ n') : shw k' n' d := ⟨h.1, h.2.1, Nat.le_trans h.2.2.1 h1, Nat.le_trans h.2.2.2 h2⟩
theorem shw_int {i : Int} (h0 : -1000000000000 < i) (h1 : i < 1000000000000) : shw 1 14 (.int i) := by
  refine no_implicit_lambda% (@Z.stp _ ?_ (fun key hn => ?_))
  ·
      have e : i.natAbs < 10 ^ 12 := by show i.natAbs < 1000000000000; omega
      refine ⟨?_, by simp only [PyData.hasDict], by simp [PyData.depth], ?_⟩
      · simp only [PyData.showable, decide_eq_true_eq]
        by_cases z : i.natAbs = 0
        · rw [z]; decide
        · have := (Nat.log2_lt z).mpr (show i.natAbs < 2 ^ 40 from Nat.lt_trans e (by decide))
          omega
      · have := int_text_length_le10 (k := 12) (by decide) e
        have e2 : (PyData.shown (.int i)).length = (toString i).length := by
          simp only [PyData.shown]
          exact ofString_length _
        omega
  simpa only using Z.stc (Z.Stw.mk 5) hn key
theorem shw_none : shw 1 14 .none := by refine ⟨by simp only [PyData.showable], by simp only [PyData.hasDict], by simp [PyData.depth], ?_⟩; simp only [PyData.shown]; decide
theorem shw_str {s : Str} {n : Nat} (h : (reprText s).length ≤ n) : shw 1 n (.str s) := ⟨by simp only [PyData.showable], by simp only [PyData.hasDict], by simp [PyData.depth], by simp only [PyData.shown]; exact h⟩
theorem textFrom_le : ∀ (ts : List Str) (k : Nat) (acc : Str), (textFrom k acc ts).length ≤ acc.length + piled ts
  | [], _, acc => Nat.le_add_right _ _
  | t :: r, k, acc => by
    have h := textFrom_le r (k + 1) (acc ++ (if k > 0 then ", " else "" : String) ++ t)
    rw [piled_cons]
    refine Nat.le_trans h ?_
    rw [strLen_append, strLen_append]
    have e : (Str.ofString (if k > 0 then ", " else "" : String)).length ≤ 2 := by split <;> decide
    omega
theorem piled_le {n : Nat} : ∀ {ts : List Str}, (∀ t ∈ ts, t.length ≤ n) → piled ts ≤ ts.length * (n + 2)
  | [], _ => Nat.zero_le _
  | t :: r, h => by
    rw [piled_cons, List.length_cons, Nat.succ_mul]
    have h1 := h t List.mem_cons_self
    have h2 := piled_le (fun t m => h t (List.mem_cons_of_mem _ m))
    omega
theorem shownAll_map : ∀ ds : List PyData, PyData.shownAll ds = ds.map PyData.shown
  | [] => rfl
  | d :: ds => by simp only [PyData.shownAll, List.map_cons, shownAll_map ds]
theorem showableAll_map : ∀ ds : List PyData, PyData.showableAll ds = ds.all PyData.showable
  | [] => rfl
  | d :: ds => by simp only [PyData.showableAll, List.all_cons, showableAll_map ds]
theorem hasDictAll_map : ∀ ds : List PyData, PyData.hasDictAll ds = ds.any PyData.hasDict
  | [] => rfl
  | d :: ds => by simp only [PyData.hasDictAll, List.any_cons, hasDictAll_map ds]
theorem depthAll_le {k : Nat} : ∀ {ds : List PyData}, (∀ d ∈ ds, d.depth ≤ k) → PyData.depthAll ds ≤ k
  | [], _ => by simp [PyData.depthAll]
  | d :: ds, h => by
    have h1 := h d List.mem_cons_self
    have h2 := depthAll_le (fun d m => h d (List.mem_cons_of_mem _ m))
    simp only [PyData.depthAll]; omega
theorem shw_list {k n m : Nat} {ds : List PyData} (h : ∀ d ∈ ds, shw k n d) (hl : ds.length ≤ m) : shw (k + 1) (m * (n + 2) + 2) (.list ds) := by
  refine no_implicit_lambda% (@Z.stp _ ?_ (fun key hn => ?_))
  ·
      refine ⟨?_, ?_, ?_, ?_⟩
      · simp only [PyData.showable, showableAll_map]; exact List.all_eq_true.mpr fun d hd => (h d hd).1
      · simp only [PyData.hasDict, hasDictAll_map]; exact List.any_eq_false.mpr fun d hd => by rw [(h d hd).2.1]; decide
      · have := depthAll_le (k := k) fun d hd => (h d hd).2.2.1
        simp only [PyData.depth]; omega
      · simp only [PyData.shown, shownAll_map]
        unfold listText
        rw [strLen_append]
        have h1 := textFrom_le (ds.map PyData.shown) 0 "["
        have h2 := piled_le (n := n) (ts := ds.map PyData.shown) fun t ht => by obtain ⟨d, hd, rfl⟩ := List.mem_map.mp ht; exact (h d hd).2.2.2
        rw [List.length_map] at h2
        have h3 : ds.length * (n + 2) ≤ m * (n + 2) := Nat.mul_le_mul_right _ hl
        have e1 : ("[" : Str).length = 1 := by decide
        have e2 : ("]" : Str).length = 1 := by decide
        omega
  simpa only using Z.stc (Z.Stw.mk 5) hn key
theorem join_le : ∀ ts : List Str, (Str.join ", " ts).length ≤ piled ts
  | [] => by decide
  | t :: ts => by have := join_length_add (t :: ts) (by simp); omega
theorem shw_tuple {k n m : Nat} {ds : List PyData} (h : ∀ d ∈ ds, shw k n d) (hl : ds.length ≤ m) : shw (k + 1) (m * (n + 2) + 3) (.tuple ds) := by
  refine no_implicit_lambda% (@Z.stp _ ?_ (fun key hn => ?_))
  ·
      refine ⟨?_, ?_, ?_, ?_⟩
      · simp only [PyData.showable, showableAll_map]; exact List.all_eq_true.mpr fun d hd => (h d hd).1
      · simp only [PyData.hasDict, hasDictAll_map]; exact List.any_eq_false.mpr fun d hd => by rw [(h d hd).2.1]; decide
      · have := depthAll_le (k := k) fun d hd => (h d hd).2.2.1
        simp only [PyData.depth]; omega
      · simp only [PyData.shown, shownAll_map]
        unfold tupleText
        rw [strLen_append, strLen_append]
        have h1 := join_le (ds.map PyData.shown)
        have h2 := piled_le (n := n) (ts := ds.map PyData.shown) fun t ht => by obtain ⟨d, hd, rfl⟩ := List.mem_map.mp ht; exact (h d hd).2.2.2
        rw [List.length_map] at h2
        have h3 : ds.length * (n + 2) ≤ m * (n + 2) := Nat.mul_le_mul_right _ hl
        have e1 : ("(" : Str).length = 1 := by decide
        have e2 : (Str.ofString (if (ds.map PyData.shown).length == 1 then ",)" else ")" : String)).length ≤ 2 := by split <;> decide
        omega
  simpa only using Z.stc (Z.Stw.mk 5) hn key
theorem shw_ints {ns : List Int} {m : Nat} (h : ∀ x ∈ ns, -1000000000000 < x ∧ x < 1000000000000) (hl : ns.length ≤ m) : shw 2 (m * 16 + 2) (.list (ns.map PyData.int)) :=
  shw_list (n := 14) (fun d hd => by obtain ⟨x, hx, rfl⟩ := List.mem_map.mp hd; exact shw_int (h x hx).1 (h x hx).2) (by rw [List.length_map]; exact hl)
theorem w_reprD {K : PySem.W.Frag} {H : Hp} {L : HL} {Q : VK} {a : Addr} {d : PyData} {k n : Nat} (O : Own H L) (h : Rdg L (.ref a) d) (hs : shw k n d) (hk : k ≤ 40) (hn : n ≤ 16777216) (q : Q (.str d.shown) H) : zReprD K [.ref a] H Q :=
  ⟨a, d, rfl, h.dp O, hs.1, hs.2.1, Nat.le_trans hs.2.2.1 hk, Nat.le_trans hs.2.2.2 (line hn), q⟩
/-! ### the end of a law whose promise wants to know that no repr is under way -/
section
open PyProof.Rows
/-- what the law's call leaves: it tells True, and the caller's heap is kept -/
abbrev LawEnd (s₁ : Shared) : Result → Shared → Prop := fun r s' => r = .ok (.ret (.bool true)) ∧ OldK s₁.heap s'.heap ∧ s'.os = s₁.os ∧ AllBare s'.gens
theorem lawG_core {P : Program} {w : World} {K : PySem.W.Frag} {mg mb : Str → Option Value} {k : Nat} {fa a : Addr} {fd : FuncData} {x : Str} {sp : Sp} {s₁ : Shared} {vs : List Value} {H : Hp}
    (KX : K.In s₁.heap) (hns : s₁.heap.Ns mainGlobals mg) (hb : s₁.heap.Ns builtinsNs mb) (hbb : ∀ x : Str, x ≠ "__name__" → mb x = bootBuiltins x) (hlim : s₁.heap.NoLimit) (hg : s₁.gens = #[])
    (ha : s₁.heap.get? a = some { cls := .type "list", data := .seq vs.toArray }) (hr : Room k callerA)
    (F : ∀ base : Heap, K.In base → base.Ns mainGlobals mg → FnG P w K mg base CX0 k fa fd [x] sp) (hbind : ∀ (s : Shared) (u : Value), BindsTo s fd ⟨[u], []⟩ [(x, u)])
    (hO : Only H) (hok : HOk P w H s₁.heap) (hA : ∀ b, H b ≠ none → b = a) (hK : H a ≠ none → K.lookup a = none) (hsp : sp [.ref a] H (fun v _ => v = .bl true) fun _ _ _ => False) :
    codeAny (model P w) callerA (.call (.ref fa) ⟨[.ref a], []⟩) (LawEnd s₁) s₁ := by
  have only : ∀ {b : Addr}, (b = a → H b = none) → H b = none := fun {b} z => by
    cases q : H b with
    | none => rfl
    | some u =>
      have e := hA b (by rw [q]; exact fun z => nomatch z)
      rw [z e] at q
      cases q
  have toBase : ∀ {b : Addr} {o : Obj}, s₁.heap.get? b = some o → (b = a → H b = none) → (hidT s₁.heap H).get? b = some o := fun e n => hidT_get e (only n)
  have dict : ∀ {b : Addr} {m : Str → Option Value}, s₁.heap.Ns b m → (hidT s₁.heap H).Ns b m := fun {b m} ⟨o, es, ep, e, d, r⟩ => ⟨o, es, ep, toBase e (fun z => by
    subst z
    rw [ha] at e
    cases e
    exact nomatch (show Data.seq vs.toArray _ = Data.dict es ep from d)), d, r⟩
  have kb : K.In (hidT s₁.heap H) := fun b o e => toBase (KX b o e) fun z => by
    subst z
    cases q : H b with
    | none => rfl
    | some u =>
      rw [hK (by rw [q]; exact fun z => nomatch z)] at e
      cases e
  obtain ⟨mc, l1, l2⟩ := hlim
  have md : Mod K mg (hidT s₁.heap H) := ⟨kb, dict hns, ⟨mb, dict hb, hbb⟩, ⟨mc, dict l1, l2⟩⟩
  have e0 : Env0 P w K mg (hidT s₁.heap H) callerA [] s₁ H := ⟨rfl, md, fun b o e => of_hidT e, Nat.le_of_eq (hidT_size _ _), trivial, fun b hb => absurd (show b ∈ ([] : List Addr) from hb) List.not_mem_nil, hok, .of_eq hg⟩
  refine codeAny_mono ((F _ kb (dict hns)).go callerA [] s₁ H ⟨[.ref a], []⟩ [.ref a] [.ref a] _ _ hr rfl e0 (hbind s₁ (.ref a)) (.cons rfl .nil) hsp) fun r s' h => ?_
  match r, h with
  | .error e, h => exact False.elim h
  | .ok .next, h => exact False.elim h
  | .ok .brk, h => exact False.elim h
  | .ok .cont, h => exact False.elim h
  | .ok (.ret u), ⟨v, H', os, bare, un, hok', rv, q⟩ =>
    have q' : v = .bl true := q
    subst q'
    obtain rfl : u = Value.bool true := rv
    refine ⟨rfl, OldK.of_keep fun b o e => ?_, os, bare⟩
    rcases hO b with z | ⟨ob, xs, z⟩
    · exact un.keep b o e z (fun m => absurd (show b ∈ ([] : List Addr) from m) List.not_mem_nil) (by simp)
    · obtain ⟨e1, _⟩ := hok b _ z
      obtain ⟨e2, _⟩ := hok' b _ (un.frzs b ob _ z)
      rw [e] at e1
      cases e1
      exact e2
theorem law_runG {P : Program} {w : World} {K : PySem.W.Frag} {mg mb : Str → Option Value} {k : Nat} {fa a : Addr} {fd : FuncData} {x : Str} {sp : Sp} {s₁ : Shared} {vs : List Value} {ns : List Int}
    (KX : K.In s₁.heap) (hns : s₁.heap.Ns mainGlobals mg) (hb : s₁.heap.Ns builtinsNs mb) (hbb : ∀ x : Str, x ≠ "__name__" → mb x = bootBuiltins x) (hlim : s₁.heap.NoLimit) (hg : s₁.gens = #[])
    (ha : s₁.heap.get? a = some { cls := .type "list", data := .seq vs.toArray }) (hi : IntsAre vs ns) (hl : ns.length ≤ sizeLine) (hr : Room k callerA)
    (F : ∀ base : Heap, K.In base → base.Ns mainGlobals mg → FnG P w K mg base CX0 k fa fd [x] sp) (hbind : ∀ (s : Shared) (u : Value), BindsTo s fd ⟨[u], []⟩ [(x, u)])
    (hsp : ∀ H : Hp, Only H → SqL K H a (ns.map V.int) → sp [.ref a] H (fun v _ => v = .bl true) fun _ _ _ => False) :
    codeAny (model P w) callerA (.call (.ref fa) ⟨[.ref a], []⟩) (LawEnd s₁) s₁ := by
  have rv := vals_ints hi
  cases hk : K.lookup a with
  | some o =>
    have e := KX a o hk
    rw [ha] at e
    cases e
    have hO : Only (fun _ => none : Hp) := fun _ => .inl rfl
    exact lawG_core KX hns hb hbb hlim hg ha hr F hbind hO (fun b u z => nomatch (show (none : Option HO) = some u from z)) (fun b z => absurd rfl z) (fun z => absurd rfl z) (hsp _ hO (.inr ⟨_, vs.toArray, _, hk, rfl, rfl, rfl, by rw [List.size_toArray, hi.length]; exact hl, by simpa using rv⟩))
  | none =>
    let ob : Obj := { cls := .type "list", data := .seq vs.toArray }
    let H : Hp := fun b => if b = a then some (.frz ob (.lst (ns.map V.int))) else none
    have h1 : H a = some (.frz ob (.lst (ns.map V.int))) := if_pos rfl
    have h2 : ∀ {b : Addr}, b ≠ a → H b = none := fun n => if_neg n
    have hO : Only H := fun b => (Decidable.em (b = a)).elim (fun e => .inr ⟨_, _, e ▸ h1⟩) (fun e => .inl (h2 e))
    refine lawG_core KX hns hb hbb hlim hg ha hr F hbind hO (fun b u z => ?_) (fun b z => Decidable.byContradiction fun n => z (h2 n)) (fun _ => hk) (hsp _ hO (.inl (.inr ⟨ob, h1⟩)))
    by_cases e : b = a
    · subst e
      rw [h1] at z
      cases z
      exact ⟨ha, by rw [List.length_map]; exact hl, vs, _, rv, ha⟩
    · rw [h2 e] at z
      cases z
theorem walk_ofG {l : PySem.W.OpenLaw} {n k : Nat} {q : Program} {loose : List Str} {XP : (Str → Option Value) → Heap → Prop} {YP : World → Heap → Prop} {d : DefRec} {x : Str}
    (hn : l.most = some n) (hn2 : n ≤ sizeLine) (hdf : d.params.defaults = []) (hr : Room k callerA)
    (F : ∀ (w : World) (mg : Str → Option Value) (fa : Addr) (h : Heap), YP w h → h.Ns mainGlobals mg → mg d.name = some (.ref fa) →
      ∃ (K : PySem.W.Frag) (fd : FuncData) (sp : Sp), K.In h ∧ (∀ (s : Shared) (u : Value), BindsTo s fd ⟨[u], []⟩ [(x, u)]) ∧
        (∀ (H : Hp) (a : Addr) (ns : List Int), ns.length ≤ n → Only H → SqL K H a (ns.map V.int) → sp [.ref a] H (fun v _ => v = .bl true) fun _ _ _ => False) ∧
        ∀ base : Heap, K.In base → base.Ns mainGlobals mg → FnG l.prog w K mg base CX0 k fa fd [x] sp) :
    PySem.W.WalkO q loose XP YP l.row.toRowW d [] (fun f vs => PySem.call f vs) := by
  refine no_implicit_lambda% (@Z.stp _ ?_ (fun key hn => ?_))
  ·
      refine Att.attach_call hn hdf fun w s₀ s₁ mg mb fa o pm cd doc a vs ns G Y ho hd hcd hmg hobj hints hlen hg => ?_
      obtain ⟨K, fd, sp, KX, hb, hsp, hF⟩ := F w mg fa _ Y G.T.g hmg
      exact law_runG KX G.T.g G.T.b G.T.builtins G.T.nolimit hg hobj hints (Nat.le_trans hlen hn2) hr hF hb fun H hO hS => hsp H a ns hlen hO hS
  simpa only using Z.stc (Z.Stw.mk 5) hn key
end
end Z

set_option Elab.async false
set_option linter.all false
set_option maxRecDepth 100000
set_option maxHeartbeats 4000000
set_option pp.maxSteps 400
namespace Zl
open PySem PySem.Spec L2 Z
set_option hygiene false
local macro_rules | `(tactic| wtm_at "zpk1") => `(tactic| first | with_reducible exact Pk.nil | with_reducible exact Pk.here | with_reducible exact Pk.only | ((with_reducible apply Pk.there); wtm_at "zpk1"))
local macro_rules | `(tactic| wtm_at "zpkU") => `(tactic| fail "no block")
local macro_rules | `(tactic| wtm_at "zun1") => `(tactic| fail "none")
local macro_rules | `(tactic| wtm_at "zpk") => `(tactic| first | ((with_reducible apply Frz.pk); wtm_at "zfz") | wtm_at "zpk1" | wtm_at "zpkU")
local macro_rules | `(tactic| wtm_at "zga") => `(tactic| first | with_reducible exact GetAt.z | (apply GetAt.s; wtm_at "zga"))
local macro_rules | `(tactic| wtm_at "zsa") => `(tactic| first | with_reducible exact SetAt.z | (apply SetAt.s; wtm_at "zsa"))
local macro_rules | `(tactic| wtm_at "zgi") => `(tactic| first | with_reducible exact GetI.z | (apply GetI.s; wtm_at "zgi"))
local macro_rules | `(tactic| wtm_at "zpi") => `(tactic| first | with_reducible exact PutI.z | (apply PutI.s; wtm_at "zpi"))
local macro_rules | `(tactic| wtm_at "zii") => `(tactic| first | with_reducible exact Ints.nil | with_reducible exact Ints.map | (apply Ints.cons; wtm_at "zii"))
local macro_rules | `(tactic| wtm_at "zsub") => `(tactic| first | with_reducible exact Sub.all | with_reducible exact Sub.nil | ((with_reducible apply Sub.cons); (· wtm_at "zpk"); wtm_at "zsub") | ((with_reducible apply Sub.one); wtm_at "zpk"))
local macro_rules | `(tactic| wtm_at "zown") => `(tactic| (refine Own.sub O ?_; wtm_at "zsub"))
local macro_rules | `(tactic| wtm_at "zsd") => `(tactic| first | omega | (intro _; omega) | decide | decide +kernel | (simp only [List.length_map, List.length_append, List.length_cons, List.length_nil, List.length_replicate, List.length_set, List.length_take, List.length_drop]; omega) | with_reducible assumption | rfl | (split <;> omega) | (intro x hx; simp only [List.mem_cons, List.not_mem_nil, or_false] at hx; omega) | ((with_reducible apply LsI.id); wtm_at "zli") | ((with_reducible apply LsD.id); wtm_at "zld") | exact .inl rfl | exact .inr (by omega) | exact .inl (by omega) | exact Int.emod_nonneg _ (by omega) | exact Int.emod_lt_of_pos _ (by omega))
local macro_rules | `(tactic| wtm_at "znw") => `(tactic| (intro q H₁ O₁; clear O; (try clear H); revert H₁; intro H O))
local macro_rules | `(tactic| wtm_at "znx") => `(tactic| (intro H₁ O₁; clear O; (try clear H); revert H₁; intro H O))
local macro_rules | `(tactic| wtm_at "zc1") => `(tactic| first
  | with_reducible refine w_decR ?_ | with_reducible refine w_ndecR ?_ | with_reducible refine w_ndec2R ?_ | with_reducible refine w_T ?_ | with_reducible refine w_F ?_ | with_reducible refine w_nT ?_ | with_reducible refine w_nF ?_
  | ((with_reducible apply w_decT); (· decide +kernel)) | ((with_reducible apply w_ndecT); (· decide +kernel)) | ((with_reducible apply w_decF); (· decide +kernel)) | ((with_reducible apply w_ndecF); (· decide +kernel))
  | ((with_reducible apply w_dec); (· (intro h; exfalso; omega)); intro _) | ((with_reducible apply w_dec); rotate_left; (· (intro h; exfalso; omega)); intro _)
  | (with_reducible apply w_dec <;> intro h <;> try simp only [Int.reduceToNat, Int.reducePow, List.mem_cons, List.not_mem_nil, or_false, not_or] at h)
  | ((with_reducible apply w_ndec); (· (intro h; exfalso; omega)); intro _) | ((with_reducible apply w_ndec); rotate_left; (· (intro h; exfalso; omega)); intro _)
  | (with_reducible apply w_ndec <;> intro h <;> try simp only [List.mem_cons, List.not_mem_nil, or_false, not_or] at h)
  | (with_reducible apply w_ndec2 <;> intro h <;> try simp only [List.mem_cons, List.not_mem_nil, or_false, not_or] at h))
local macro_rules | `(tactic| wtm_at "zs1") => `(tactic| first | with_reducible refine w_seq ?_ | wtm_at "zs0" | fail "z")
local macro_rules | `(tactic| wtm_at "zn") => `(tactic| ((with_reducible refine w_seq ?_); repeat' wtm_at "zs0"))
local macro_rules | `(tactic| wtm_at "zs0") => `(tactic| first
  | with_reducible refine w_asg ?_ | with_reducible refine w_ifs ?_ | with_reducible refine w_ret ?_ | with_reducible refine w_drop ?_ | with_reducible refine w_next ?_
  | ((with_reducible apply w_gname); (· wtm_at "zsa")) | with_reducible refine w_gsub ?_
  | ((with_reducible apply w_var); (· wtm_at "zga")) | with_reducible refine w_c ?_ | with_reducible refine w_op ?_ | with_reducible refine w_un ?_
  | with_reducible refine w_test ?_ | with_reducible refine w_bl ?_ | with_reducible refine w_and ?_ | with_reducible refine w_or ?_ | with_reducible refine w_not ?_ | with_reducible refine w_if ?_
  | with_reducible refine w_tru ?_ | with_reducible refine w_truB ?_ | with_reducible refine w_anil ?_ | with_reducible refine w_acons ?_ | with_reducible refine w_cb ?_ | with_reducible refine w_call ?_ | with_reducible refine w_callD ?_
  | with_reducible refine w_for ?_ | with_reducible refine w_iRng1 ?_ | with_reducible refine w_iRng2 ?_ | with_reducible refine w_iList ?_ | with_reducible refine w_iTup ?_ | with_reducible refine w_lc ?_ | with_reducible refine w_andT ?_ | with_reducible refine w_orT ?_ | with_reducible refine w_notT ?_ | with_reducible refine w_tyes ?_ | (refine w_wipe ?_ ?_; (· exact rfl))
  | with_reducible refine w_chain ?_ | with_reducible refine w_fld ?_ | with_reducible refine w_sfld ?_ | with_reducible refine w_meth ?_ | with_reducible refine w_make ?_ | with_reducible refine w_iEnum ?_ | with_reducible refine w_nonE ?_ | with_reducible refine w_gcons ?_ | with_reducible refine w_gnil ?_
  | with_reducible refine w_tup ?_ | with_reducible refine w_lst ?_
  | wtm_at "zc1" | wtm_at "zs2" | fail "z1")
local macro_rules | `(tactic| wtm_at "zs2") => `(tactic| first
  | with_reducible refine w_addI ?_ | with_reducible refine w_subI ?_ | with_reducible refine w_neg ?_
  | ((with_reducible apply w_mulI); (· omega)) | ((with_reducible apply w_div); (· omega); (· omega)) | ((with_reducible apply w_modI); (· omega)) | ((with_reducible apply w_powI); (· decide); (· decide); (· omega); (· omega); (try dsimp only [Int.reduceToNat, Int.reducePow]))
  | with_reducible refine w_lt ?_ | with_reducible refine w_le ?_ | with_reducible refine w_gt ?_ | with_reducible refine w_ge ?_
  | with_reducible refine w_eqIT ?_ | with_reducible refine w_neIT ?_ | with_reducible refine w_eqST ?_ | with_reducible refine w_eqI ?_ | with_reducible refine w_neI ?_ | with_reducible refine w_eqS ?_ | with_reducible refine w_neS ?_ | with_reducible refine w_eqB ?_ | with_reducible refine w_neB ?_
  | with_reducible refine w_isN ?_ | with_reducible refine w_isR ?_ | with_reducible refine w_isI ?_ | with_reducible refine w_nisN ?_ | with_reducible refine w_nisR ?_ | with_reducible refine w_nisI ?_
  | with_reducible refine w_max ?_ | with_reducible refine w_min ?_ | with_reducible refine w_intI ?_ | with_reducible refine w_intB ?_
  | with_reducible refine w_part ?_ | with_reducible refine w_partI ?_ | with_reducible refine w_npart ?_ | with_reducible refine w_sl ?_ | with_reducible refine w_bm ?_ | with_reducible refine w_bm0 ?_
  | wtm_at "zs3" | fail "z2")
local macro_rules | `(tactic| wtm_at "zs3") => `(tactic| first
  | ((with_reducible apply w_ixC O); (· wtm_at "zli"); (· wtm_at "zgi")) | ((with_reducible apply w_ixCT O); (· wtm_at "zpk"); (· wtm_at "zgi")) | ((with_reducible apply w_ixCL O); (· wtm_at "zpk"); (· wtm_at "zgi"))
  | ((with_reducible apply w_setC O); (· wtm_at "zpk"); (· wtm_at "zpi"); wtm_at "znx") | ((with_reducible apply w_setCV O); (· wtm_at "zpk1"); (· wtm_at "zpi"); wtm_at "znx")
  | ((with_reducible apply w_ixN O); (· wtm_at "zli"); (· wtm_at "zsd")) | ((with_reducible apply w_ixM2 O); (· wtm_at "zli"); (· wtm_at "zsd"); (· wtm_at "zsd"); intro mx hmg hm; simp only [List.mem_cons, List.not_mem_nil, or_false] at hm) | ((with_reducible apply w_ixI O); (· wtm_at "zli"); (· wtm_at "zsd"); (· wtm_at "zsd"))
  | ((with_reducible apply w_setI O); (· wtm_at "zpk"); (· wtm_at "zsd"); (· wtm_at "zsd"); wtm_at "znx")
  | ((with_reducible apply w_newI (O := O)); (· wtm_at "zii"); (· wtm_at "zsd"); wtm_at "znw") | ((with_reducible apply w_newL (O := O)); (· wtm_at "zsd"); wtm_at "znw")
  | ((with_reducible apply w_lenI O); (· wtm_at "zli")) | ((with_reducible apply w_list O); (· wtm_at "zpk1"); wtm_at "znw") | ((with_reducible apply w_listI O); (· wtm_at "zli"); wtm_at "znw") | ((with_reducible apply w_listD O); (· wtm_at "zld"); wtm_at "znw") | ((with_reducible apply w_listTD O); (· wtm_at "ztd"); wtm_at "znw") | ((with_reducible apply w_list O); (· wtm_at "zpk"); wtm_at "znw")
  | ((with_reducible apply w_addLI O); (· wtm_at "zli"); (· wtm_at "zli"); (· wtm_at "zsd"); wtm_at "znw")
  | ((with_reducible apply w_repI O); (· wtm_at "zpk"); (· wtm_at "zsd"); (· wtm_at "zsd"); wtm_at "znw")
  | ((with_reducible apply w_slTake O); (· wtm_at "zli"); (· wtm_at "zsd"); wtm_at "znw") | ((with_reducible apply w_slDrop O); (· wtm_at "zli"); (· wtm_at "zsd"); wtm_at "znw") | ((with_reducible apply w_slMid O); (· wtm_at "zli"); (· wtm_at "zsd"); (· wtm_at "zsd"); wtm_at "znw") | ((with_reducible apply w_slI O); (· wtm_at "zli"); wtm_at "znw")
  | ((with_reducible apply w_tyL O); (· wtm_at "zpk1")) | ((with_reducible apply w_tyXL O); (· wtm_at "zld")) | ((with_reducible apply w_tyL O); (· wtm_at "zpk")) | ((with_reducible apply w_appI O); (· wtm_at "zpk"); (· wtm_at "zsd"); wtm_at "znx")
  | ((with_reducible apply w_eqLT O); (· wtm_at "zli"); (· wtm_at "zli")) | ((with_reducible apply w_neLT O); (· wtm_at "zli"); (· wtm_at "zli")) | ((with_reducible apply w_eqL O); (· wtm_at "zli"); (· wtm_at "zli")) | ((with_reducible apply w_neL O); (· wtm_at "zli"); (· wtm_at "zli"))
  | ((with_reducible apply w_isiL (c := true) O); (· wtm_at "zpk"); (· decide +kernel)) | ((with_reducible apply w_isiT (c := true) O); (· wtm_at "zpk"); (· decide +kernel)) | ((with_reducible apply w_isiI (c := true)); (· decide +kernel)) | ((with_reducible apply w_isiS (c := true)); (· decide +kernel)) | ((with_reducible apply w_isiN (c := true)); (· decide +kernel)) | ((with_reducible apply w_isiB (c := true)); (· decide +kernel)) | ((with_reducible apply w_isiL (c := false) O); (· wtm_at "zpk"); (· decide +kernel)) | ((with_reducible apply w_isiT (c := false) O); (· wtm_at "zpk"); (· decide +kernel)) | ((with_reducible apply w_isiI (c := false)); (· decide +kernel)) | ((with_reducible apply w_isiS (c := false)); (· decide +kernel)) | ((with_reducible apply w_isiN (c := false)); (· decide +kernel)) | ((with_reducible apply w_isiB (c := false)); (· decide +kernel))
  | ((with_reducible apply w_rng1); (· wtm_at "zsd"); (· wtm_at "zsd")) | ((with_reducible apply w_rng2); (· wtm_at "zsd"); (· wtm_at "zsd"); (· wtm_at "zsd"); (· wtm_at "zsd"))
  | ((with_reducible apply w_itL O); (· wtm_at "zpk1")) | ((with_reducible apply w_itI O); (· wtm_at "zli")) | ((with_reducible apply w_itD O); (· wtm_at "zld")) | ((with_reducible apply w_itL O); (· wtm_at "zpk")) | ((with_reducible apply w_itT O); (· wtm_at "zpk"))
  | ((with_reducible apply w_ixScr hS O); (· wtm_at "zpk"); (· wtm_at "zsd"); (· wtm_at "zsd")) | ((with_reducible apply w_lenScr hS O); (· wtm_at "zpk"))
  | ((with_reducible apply w_all O); (· wtm_at "zpk")) | ((with_reducible apply w_any O); (· wtm_at "zpk"))
  | ((with_reducible apply w_fldR O); (· wtm_at "zpk"); (· wtm_at "zfg"); (· wtm_at "zcls"); (· wtm_at "zno"))
  | ((with_reducible apply w_sfldR O); (· wtm_at "zpk"); (· wtm_at "zfp"); (· wtm_at "zcls"); (· wtm_at "zno"); (· wtm_at "zsd"); wtm_at "znx")
  | ((with_reducible apply w_methR O); (· wtm_at "zpk"); (· wtm_at "zfn"))
  | ((with_reducible apply w_makeR O); intro x dx H₁ O₁; clear O; (try clear H); revert H₁; intro H O)
  | ((with_reducible apply w_glst O); (· wtm_at "zpk"); (· rfl))
  | ((with_reducible apply w_gtup O); (· wtm_at "zpk"); (· rfl)) | ((with_reducible apply w_enR O); (· wtm_at "zpk"))
  | ((with_reducible apply w_newT (O := O)); (· wtm_at "zsd"); wtm_at "znw")
  | ((with_reducible apply w_sa); (· wtm_at "zap")) | ((with_reducible apply w_sa0); (· wtm_at "zap")) | ((with_reducible apply w_lcRc O); (· exact rfl); (· wtm_at "zsd"); wtm_at "znw")
  | ((with_reducible refine w_fldG ?_); wtm_at "zun1") | ((with_reducible refine w_sfldG ?_); wtm_at "zun1") | ((with_reducible refine w_methG ?_); wtm_at "zun1")
  | ((with_reducible apply w_inI O); (· wtm_at "zli")) | ((with_reducible apply w_inT O); (· wtm_at "zpk"); (· wtm_at "zii")) | ((with_reducible apply w_ninI O); (· wtm_at "zli")) | ((with_reducible apply w_ninT O); (· wtm_at "zpk"); (· wtm_at "zii"))
  | ((with_reducible apply w_idxI O); (· wtm_at "zli"); (· wtm_at "zsd")) | ((with_reducible apply w_extI O); (· wtm_at "zpk"); (· wtm_at "zpk"); (· wtm_at "zsd"); wtm_at "znx") | ((with_reducible apply w_clr O); (· wtm_at "zpk"); wtm_at "znx")
  | wtm_at "zd3" | wtm_at "ze3" | with_reducible refine w_methN ?_ | with_reducible refine w_makeZ ?_ | with_reducible refine w_callZ ?_ | ((with_reducible apply w_len); (· exact rfl); (· exact rfl)) | ((with_reducible apply w_arV); (· (dsimp only [arV, nthV, List.map, List.cons_append, List.nil_append]; try exact rfl)))
  | wtm_at "zcall" | (dsimp only [List.set]) | fail "z3")

/-! data -/
local macro_rules | `(tactic| wtm_at "zmm") => `(tactic| first | with_reducible exact mem_here | with_reducible exact mem_only | ((with_reducible apply mem_there); wtm_at "zmm"))
local macro_rules | `(tactic| wtm_at "zld") => `(tactic| first | ((with_reducible apply LsD.xl); wtm_at "zmm") | ((with_reducible apply LsD.rv); wtm_at "zmm") | ((with_reducible apply LsD.li); wtm_at "zmm"))
local macro_rules | `(tactic| wtm_at "zli") => `(tactic| first | with_reducible assumption | ((with_reducible apply LsI.pk); wtm_at "zpk1") | ((with_reducible apply LsD.ints); with_reducible apply LsD.rv; wtm_at "zmm") | ((with_reducible apply LsD.ints); with_reducible apply LsD.xl; wtm_at "zmm") | ((with_reducible apply LsI.pk); wtm_at "zpk") | ((with_reducible apply LsI.there); wtm_at "zli"))
local macro_rules | `(tactic| wtm_at "ztd") => `(tactic| ((with_reducible apply TpD.rv); wtm_at "zmm"))
local macro_rules | `(tactic| wtm_at "zrd") => `(tactic| first | with_reducible exact Rdg.int | with_reducible exact Rdg.str | with_reducible exact Rdg.non | with_reducible exact Rdg.bl | ((with_reducible apply Rdg.rv); wtm_at "zmm") | ((with_reducible apply Rdg.xl); wtm_at "zmm") | ((with_reducible apply Rdg.li); wtm_at "zmm") | ((with_reducible apply Rdg.lst); (· wtm_at "zmm"); wtm_at "zrds") | ((with_reducible apply Rdg.tup); (· wtm_at "zmm"); wtm_at "zrds"))
local macro_rules | `(tactic| wtm_at "zrds") => `(tactic| first | with_reducible exact Rdgs.nil | ((with_reducible apply Rdgs.cons); (· wtm_at "zrd"); wtm_at "zrds"))
local macro_rules | `(tactic| wtm_at "zfz") => `(tactic| first | with_reducible exact Frz.int | with_reducible exact Frz.str | with_reducible exact Frz.non | with_reducible exact Frz.bl | ((with_reducible apply Frz.rv); wtm_at "zmm") | ((with_reducible apply Frz.xl); wtm_at "zpk1") | ((with_reducible apply Frz.li); wtm_at "zpk1") | ((with_reducible apply Frz.lst); (· wtm_at "zpk1"); wtm_at "zfzs") | ((with_reducible apply Frz.tup); (· wtm_at "zpk1"); wtm_at "zfzs"))
local macro_rules | `(tactic| wtm_at "zfzs") => `(tactic| first | exact Frzs.nil | with_reducible exact Frzs.ints | ((with_reducible apply Frzs.rvs); wtm_at "zmm") | ((with_reducible apply Frzs.cons); (· wtm_at "zfz"); wtm_at "zfzs"))
local macro_rules | `(tactic| wtm_at "zsm") => `(tactic| first | with_reducible assumption | with_reducible exact small_int | with_reducible exact small_bl | with_reducible exact small_non | ((with_reducible apply small_str); decide +kernel) | ((with_reducible apply small_list); wtm_at "zsms") | ((with_reducible apply small_tuple); wtm_at "zsms"))
local macro_rules | `(tactic| wtm_at "zsms") => `(tactic| first | with_reducible assumption | with_reducible exact smalls_nil | with_reducible exact smalls_ints | ((with_reducible apply smalls_cons); (· wtm_at "zsm"); wtm_at "zsms") | ((with_reducible apply smalls_app); (· wtm_at "zsms"); wtm_at "zsms"))
local macro_rules | `(tactic| wtm_at "zde") => `(tactic| first | rfl | with_reducible assumption | (simp only []; done))
/-- an item's value -/
local macro_rules | `(tactic| wtm_at "zat") => `(tactic| (intro v₁ O₁; clear O; revert O₁; (first
  | (intro O; obtain rfl := rv_int O mem_here; replace O := O.sub Sub.right) | (intro O; obtain rfl := rv_str O mem_here; replace O := O.sub Sub.right) | (intro O; obtain rfl := rv_bl O mem_here; replace O := O.sub Sub.right) | (intro O; obtain rfl := rv_non O mem_here; replace O := O.sub Sub.right)
  | (intro O; obtain ⟨q, rfl⟩ := rv_list O mem_here) | (intro O; obtain ⟨q, rfl⟩ := rv_tup O mem_here) | intro O)))
/-- one of several items' values -/
local macro_rules | `(tactic| wtm_at "zat1") => `(tactic| first
  | (obtain rfl := rv_int O mem_here; replace O := O.sub Sub.right) | (obtain rfl := rv_str O mem_here; replace O := O.sub Sub.right) | (obtain rfl := rv_bl O mem_here; replace O := O.sub Sub.right) | (obtain rfl := rv_non O mem_here; replace O := O.sub Sub.right)
  | (obtain ⟨q, rfl⟩ := rv_list O mem_here; replace O := O.sub Sub.swap; simp only [hl_assoc] at O) | (obtain ⟨q, rfl⟩ := rv_tup O mem_here; replace O := O.sub Sub.swap; simp only [hl_assoc] at O) | (replace O := O.sub Sub.swap; simp only [hl_assoc] at O))
local macro_rules | `(tactic| wtm_at "zd3") => `(tactic| first
  | wtm_at "zix"
  | ((with_reducible apply w_ixDl O); (· wtm_at "zld"); wtm_at "zat")
  | ((with_reducible apply w_ixD O); (· wtm_at "zld"); (· wtm_at "zsd"); (· first | rfl | wtm_at "zit"); wtm_at "zat") | ((with_reducible apply w_ixTD O); (· wtm_at "ztd"); (· wtm_at "zsd"); (· first | rfl | wtm_at "zit"); wtm_at "zat")
  | ((with_reducible apply w_lenD O); (· wtm_at "zld")) | ((with_reducible apply w_lenTD2 O); (· wtm_at "ztd")) | ((with_reducible apply w_lenTD3 O); (· wtm_at "ztd")) | ((with_reducible apply w_lenTD4 O); (· wtm_at "ztd")) | ((with_reducible apply w_lenTD O); (· wtm_at "ztd"))
  | ((with_reducible apply w_addD O); (· wtm_at "zld"); (· wtm_at "zld"); (· wtm_at "zsd"); wtm_at "znw") | ((with_reducible apply w_slD O); (· wtm_at "zld"); wtm_at "znw") | ((with_reducible apply w_slT42 O); (· wtm_at "ztd"); wtm_at "znw") | ((with_reducible apply w_slT4d2 O); (· wtm_at "ztd"); wtm_at "znw") | ((with_reducible apply w_slTD O); (· wtm_at "ztd"); (· ((simp only [List.length_cons, List.length_nil]); decide)); wtm_at "znw")
  | ((with_reducible apply w_appD O); (· wtm_at "zfz"); (· wtm_at "zpx"); (· wtm_at "zsd"); wtm_at "znx")
  | ((with_reducible apply w_isiLI (c := true) O); (· wtm_at "zli"); (· decide +kernel)) | ((with_reducible apply w_isiLI (c := false) O); (· wtm_at "zli"); (· decide +kernel)) | ((with_reducible apply w_isiLD (c := true) O); (· wtm_at "zld"); (· decide +kernel)) | ((with_reducible apply w_isiLD (c := false) O); (· wtm_at "zld"); (· decide +kernel)) | ((with_reducible apply w_isiTD (c := true) O); (· wtm_at "ztd"); (· decide +kernel)) | ((with_reducible apply w_isiTD (c := false) O); (· wtm_at "ztd"); (· decide +kernel))
  | ((with_reducible apply w_gt2D O); (· wtm_at "ztd"); (rotate_left; (· rfl)); intro v₁ v₂ O₁; clear O; revert O₁; intro O; wtm_at "zat1"; wtm_at "zat1") | ((with_reducible apply w_gt3D O); (· wtm_at "ztd"); (rotate_left; (· rfl)); intro v₁ v₂ v₃ O₁; clear O; revert O₁; intro O; wtm_at "zat1"; wtm_at "zat1"; wtm_at "zat1") | ((with_reducible apply w_gt4D O); (· wtm_at "ztd"); (rotate_left; (· rfl)); intro v₁ v₂ v₃ v₄ O₁; clear O; revert O₁; intro O; wtm_at "zat1"; wtm_at "zat1"; wtm_at "zat1"; wtm_at "zat1")
  | ((with_reducible apply w_eqDT O); (· wtm_at "zrd"); (· wtm_at "zrd"); (· wtm_at "zsm"); (· wtm_at "zde")) | ((with_reducible apply w_neDT O); (· wtm_at "zrd"); (· wtm_at "zrd"); (· wtm_at "zsm"); (· wtm_at "zde"))
  | ((with_reducible apply w_eq0T); (· rfl)) | ((with_reducible apply w_ne0T); (· rfl)) | ((with_reducible apply w_eq0F); (· rfl); (· intro z; cases z)) | ((with_reducible apply w_ne0F); (· rfl); (· intro z; cases z))
  | ((with_reducible apply w_eqDF O); (· wtm_at "zrd"); (· wtm_at "zrd"); (· wtm_at "zsm"); (· wtm_at "zsm"); (· rfl)) | ((with_reducible apply w_neDF O); (· wtm_at "zrd"); (· wtm_at "zrd"); (· wtm_at "zsm"); (· wtm_at "zsm"); (· rfl))
  | fail "zd3")
local macro_rules | `(tactic| wtm_at "zix") => `(tactic| first
  | ((with_reducible apply w_ix2 O); (· wtm_at "zpk1"); (· omega); (· omega); (all_goals (intro h; try (exfalso; omega))))
  | ((with_reducible apply w_ix3 O); (· wtm_at "zpk1"); (· omega); (· omega); (all_goals (intro h; try (exfalso; omega))))
  | ((with_reducible apply w_ix4 O); (· wtm_at "zpk1"); (· omega); (· omega); (all_goals (intro h; try (exfalso; omega)))))
local macro_rules | `(tactic| wtm_at "zit") => `(tactic| fail "no item")
local macro_rules | `(tactic| wtm_at "zpx") => `(tactic| first | wtm_at "zpk1" | ((with_reducible apply Pk.xl); (· wtm_at "zpk1"); wtm_at "zfzs") | wtm_at "zpk")
/-! what is raised -/
local macro_rules | `(tactic| wtm_at "ze3") => `(tactic| first
  | with_reducible refine w_callE ?_ | with_reducible refine w_methE ?_ | with_reducible refine w_makeE ?_ | with_reducible refine w_callNE ?_ | with_reducible refine w_methNE ?_ | with_reducible refine w_makeNE ?_
  | with_reducible refine w_try ?_ | with_reducible refine w_rz ?_ | ((with_reducible refine w_rz0 ?_); wtm_at "zwz") | ((with_reducible apply w_rzA); (· wtm_at "zap"))
  | ((with_reducible apply w_rz1 O); intro xd0 H₁ O₁; clear O; (try clear H); revert H₁; intro H O; wtm_at "zwz") | ((with_reducible apply w_rz2 O); intro xd0 H₁ O₁; clear O; (try clear H); revert H₁; intro H O; wtm_at "zwz")
  | with_reducible refine w_xf ?_ | ((with_reducible apply w_xfR O); (· wtm_at "zpk"); (· wtm_at "zfg"))
  | with_reducible refine w_fldaug ?_ | ((with_reducible apply w_augR O); (· wtm_at "zpk"); (· wtm_at "zfg"); (· wtm_at "zcls"); (· wtm_at "zno")) | with_reducible refine w_rAdd ?_ | with_reducible refine w_rSub ?_ | ((with_reducible apply w_augS O); (· wtm_at "zpk"); (· wtm_at "zfp"); (· wtm_at "zsd"); wtm_at "znx") | ((with_reducible refine w_augG ?_); wtm_at "zun1")
  | with_reducible refine w_dget ?_ | ((with_reducible apply w_dgS O); (· wtm_at "zpk1"); (· wtm_at "zfg")) | ((with_reducible refine w_dgG ?_); wtm_at "zun1") | ((with_reducible refine w_dpG ?_); wtm_at "zun1") | with_reducible refine w_dput ?_ | ((with_reducible apply w_dpS O); (· wtm_at "zpk1"); (· wtm_at "zsp"); (· wtm_at "zsd"); wtm_at "znx")
  | ((with_reducible apply w_disp O); wtm_at "znw") | with_reducible refine w_tpc ?_ | with_reducible refine w_tpn ?_ | ((with_reducible apply w_dsp O); (· wtm_at "zprs"); (· wtm_at "zpk1"); (· wtm_at "zsd"); (· (simp only [List.map]; exact rfl)); (· decide +kernel); wtm_at "znx")
  | ((with_reducible apply w_inSL O); (· wtm_at "zpk1"); (· wtm_at "zss")) | ((with_reducible apply w_inST O); (· wtm_at "zpk1"); (· wtm_at "zss")) | ((with_reducible apply w_ninSL O); (· wtm_at "zpk1"); (· wtm_at "zss")) | ((with_reducible apply w_ninST O); (· wtm_at "zpk1"); (· wtm_at "zss"))
  | with_reducible refine w_isB ?_ | with_reducible refine w_isNB ?_
  | fail "ze3")
local macro_rules | `(tactic| wtm_at "zsp") => `(tactic| first | with_reducible exact SPut.n | ((with_reducible apply SPut.z); wtm_at "zfn") | (apply SPut.s; (· decide +kernel); wtm_at "zsp"))
local macro_rules | `(tactic| wtm_at "zprs") => `(tactic| first | with_reducible exact Prs.nil | (apply Prs.cons; wtm_at "zprs"))
local macro_rules | `(tactic| wtm_at "zss") => `(tactic| first | with_reducible exact Strs.nil | (apply Strs.cons; wtm_at "zss"))
local macro_rules | `(tactic| wtm_at "zxm") => `(tactic| fail "no exm")
local macro_rules | `(tactic| wtm_at "zwe") => `(tactic| first | (exfalso; first | with_reducible assumption | contradiction | omega) | ((with_reducible refine w_we ?_); wtm_at "zwz"))
local macro_rules | `(tactic| wtm_at "zwz") => `(tactic| first
  | ((with_reducible apply w_zT); (· wtm_at "zxm"); intro a₁ hna; clear hna; dsimp only [endsAs, slotAs, List.set]) | ((with_reducible apply w_zF); (· wtm_at "zxm"); wtm_at "zwz") | ((with_reducible refine w_zN ?_); wtm_at "zwz") | (wtm_at "zkE") | (dsimp only; wtm_at "zkE") | dsimp only | skip)
local macro_rules | `(tactic| wtm_at "zkE") => `(tactic| first | ((with_reducible apply ke1); (· wtm_at "zown"); (all_goals wtm_at "zsd")) | ((with_reducible apply ke2); (· wtm_at "zown"); (all_goals wtm_at "zsd")) | ((with_reducible apply ke3); (· wtm_at "zown"); (all_goals wtm_at "zsd")) | ((with_reducible apply ke4); (· wtm_at "zown"); (all_goals wtm_at "zsd")))
local macro_rules | `(tactic| wtm_at "zap") => `(tactic| first | with_reducible exact App.nil | (apply App.cons; wtm_at "zap"))
local macro_rules | `(tactic| wtm_at "zun") => `(tactic| skip)
local macro_rules | `(tactic| wtm_at "zunG") => `(tactic| skip)
/-- the end of a def: its promise k answers -/
local macro_rules | `(tactic| wtm_at "zk0") => `(tactic| (wtm_at "zunG"; first
  | ((with_reducible apply k); (· wtm_at "zown"); all_goals wtm_at "zsd") | ((with_reducible apply k2); (· wtm_at "zown"); all_goals wtm_at "zsd") | ((with_reducible apply k3); (· wtm_at "zown"); all_goals wtm_at "zsd") | ((with_reducible apply k4); (· wtm_at "zown"); all_goals wtm_at "zsd")
  | ((with_reducible apply k); (· wtm_at "zown"); all_goals first | wtm_at "zsd" | skip)))
local macro_rules | `(tactic| wtm_at "zk") => `(tactic| first | ((rw [decide_eq_true rfl]); wtm_at "zk0") | wtm_at "zk0")
local macro_rules | `(tactic| wtm_at "zfg") => `(tactic| first | with_reducible assumption | with_reducible exact FGet.z | (apply FGet.s; (· decide +kernel); wtm_at "zfg"))
local macro_rules | `(tactic| wtm_at "zfn") => `(tactic| first | with_reducible exact FNo.z | (apply FNo.s; (· decide +kernel); wtm_at "zfn"))
local macro_rules | `(tactic| wtm_at "zfp") => `(tactic| first | with_reducible exact FPut.n | with_reducible exact FPut.z | (apply FPut.s; (· decide +kernel); wtm_at "zfp"))
/-- a comprehension of bools over ints: the goal is the turn -/
local macro_rules | `(tactic| wtm_at "zlcB") => `(tactic| ((with_reducible apply w_lcB O); (· wtm_at "zli"); (· wtm_at "zsd"); (· intro i x D H₁ Qe hx O₁ hk Nx; clear O; revert H₁; intro H O; dsimp only [wipe, List.map, List.set]; wtm_at "zgo"; exact hk _ O); wtm_at "znw"))
local macro_rules | `(tactic| wtm_at "zgo") => `(tactic| repeat' wtm_at "zs1")

local macro_rules | `(tactic| wtm_at "zm") => `(tactic| repeat' wtm_at "zs0")
/-- an invariant: the names, then what is owned, then the rest -/
local macro_rules | `(tactic| wtm_at "zinv") => `(tactic| ((repeat (with_reducible apply Exists.intro)); (with_reducible refine And.intro rfl (And.intro ?_ ?_)); (· wtm_at "zown"); try omega))
/-- what names a contract's blocks -/
local macro_rules | `(tactic| wtm_at "zea") => `(tactic| first | with_reducible assumption | fail "z")
local macro_rules | `(tactic| wtm_at "zend") => `(tactic| first | wtm_at "zk" | wtm_at "zkE" | (dsimp only; wtm_at "zkE"))
local macro_rules | `(tactic| wtm_at "zabs") => `(tactic| first | contradiction | (exfalso; omega) | (exfalso; subst_vars; omega))
local macro_rules | `(tactic| wtm_at "ze3") => `(tactic| first | with_reducible refine w_rzK ?_ | ((with_reducible apply w_rzKu); (· (intro xz; dsimp only [arV, nthV, List.map, List.cons_append, List.nil_append]; try exact rfl))) | ((with_reducible apply w_rz3 O); intro xd0 H₁ O₁; clear O; (try clear H); revert H₁; intro H O; wtm_at "zwz"))
local macro_rules | `(tactic| wtm_at "ze3") => `(tactic| with_reducible refine w_fin ?_)
local macro_rules | `(tactic| wtm_at "zwz") => `(tactic| with_reducible refine w_wfin ?_)

/-- the i-th statement of the top -/
def top (i : Nat) : Stmt := PySem.Challenge.pw_sipstack_k17_whole_chain_of_pipes.main.body.getD i (.Pass ⟨0, 0, 0, 0⟩)
abbrev s_told_anew : Stmt := top 10
abbrev s__law_pool : Stmt := top 21
abbrev s__law_take : Stmt := top 22
abbrev s__law_row : Stmt := top 23
abbrev s__law_put : Stmt := top 24
abbrev s__law_taken : Stmt := top 25
abbrev s__law_in_order : Stmt := top 26
abbrev s__law_logged : Stmt := top 27
abbrev s__law_passed : Stmt := top 28
abbrev s_law : Stmt := top 29
abbrev s_Fault___init__ : Stmt := inClass (top 8) 0
abbrev s_Raw___init__ : Stmt := inClass (top 11) 0
abbrev s_Raw_shut : Stmt := inClass (top 11) 8
abbrev s_Raw_asked : Stmt := inClass (top 11) 10
abbrev s_Raw_noted : Stmt := inClass (top 11) 11
abbrev s_Raw_log : Stmt := inClass (top 11) 12
abbrev s_End___init__ : Stmt := inClass (top 16) 0
abbrev s_Mouth_put : Stmt := inClass (top 17) 1
abbrev s_Drain_take : Stmt := inClass (top 18) 0
abbrev s_Pipe___init__ : Stmt := inClass (top 19) 0
abbrev s_Pipe_into : Stmt := inClass (top 19) 1
abbrev s_Pipe_out : Stmt := inClass (top 19) 2
abbrev s_Pipe_held : Stmt := inClass (top 19) 3
theorem sc_told_anew : FnScope ["thing"] ["thing"] (defScope s_told_anew) := ⟨rfl, rfl, rfl, by decide +kernel, rfl, by decide +kernel, by decide +kernel⟩
theorem sc__law_pool : FnScope ["_law_script", "_law_at", "_law_cell", "_law_digits"] ["_law_script", "_law_at"] (defScope s__law_pool) := ⟨rfl, rfl, rfl, by decide +kernel, rfl, by decide +kernel, by decide +kernel⟩
theorem sc__law_take : FnScope ["_law_pool_here", "_law_wide", "_law_seed", "_law_found"] ["_law_pool_here", "_law_wide"] (defScope s__law_take) := ⟨rfl, rfl, rfl, by decide +kernel, rfl, by decide +kernel, by decide +kernel⟩
theorem sc__law_row : FnScope ["_law_pool_here", "_law_long", "_law_row_here", "_law_k", "_law_way"] ["_law_pool_here", "_law_long"] (defScope s__law_row) := ⟨rfl, rfl, rfl, by decide +kernel, rfl, by decide +kernel, by decide +kernel⟩
theorem sc__law_put : FnScope ["_law_pipe", "_law_number", "_law_hands", "_law_at", "_law_many", "_law_held", "_law_some", "_law_told", "_law_fit"] ["_law_pipe", "_law_number", "_law_hands", "_law_at", "_law_many"] (defScope s__law_put) := ⟨rfl, rfl, rfl, by decide +kernel, rfl, by decide +kernel, by decide +kernel⟩
theorem sc__law_taken : FnScope ["_law_pipe", "_law_hands", "_law_at", "_law_many", "_law_held", "_law_told"] ["_law_pipe", "_law_hands", "_law_at", "_law_many"] (defScope s__law_taken) := ⟨rfl, rfl, rfl, by decide +kernel, rfl, by decide +kernel, by decide +kernel⟩
theorem sc__law_in_order : FnScope ["_law_pipes", "_law_hands", "_law_found", "_law_at"] ["_law_pipes", "_law_hands"] (defScope s__law_in_order) := ⟨rfl, rfl, rfl, by decide +kernel, rfl, by decide +kernel, by decide +kernel⟩
theorem sc__law_logged : FnScope ["_law_pipe", "_law_inside", "_law_word", "_law_place", "_law_handed", "_law_came", "_law_gone"] ["_law_pipe"] (defScope s__law_logged) := ⟨rfl, rfl, rfl, by decide +kernel, rfl, by decide +kernel, by decide +kernel⟩
theorem sc__law_passed : FnScope ["_law_pipe", "_law_number", "_law_hands", "_law_at", "_law_turn"] ["_law_pipe", "_law_number", "_law_hands", "_law_at"] (defScope s__law_passed) := ⟨rfl, rfl, rfl, by decide +kernel, rfl, by decide +kernel, by decide +kernel⟩
theorem sc_law : FnScope ["_law_script", "_law_pool_here", "_law_numbers", "_law_pipes", "_law_row_here", "_law_hands", "_law_k", "_law_at", "_law_many", "_law_number", "_law_pipe"] ["_law_script"] (defScope s_law) := ⟨rfl, rfl, rfl, by decide +kernel, rfl, by decide +kernel, by decide +kernel⟩
theorem sc_Fault___init__ : FnScope ["self", "number", "taken"] ["self", "number", "taken"] (defScope s_Fault___init__) := ⟨rfl, rfl, rfl, by decide +kernel, rfl, by decide +kernel, by decide +kernel⟩
theorem sc_Raw___init__ : FnScope ["self"] ["self"] (defScope s_Raw___init__) := ⟨rfl, rfl, rfl, by decide +kernel, rfl, by decide +kernel, by decide +kernel⟩
theorem sc_Raw_shut : FnScope ["self"] ["self"] (defScope s_Raw_shut) := ⟨rfl, rfl, rfl, by decide +kernel, rfl, by decide +kernel, by decide +kernel⟩
theorem sc_Raw_asked : FnScope ["self"] ["self"] (defScope s_Raw_asked) := ⟨rfl, rfl, rfl, by decide +kernel, rfl, by decide +kernel, by decide +kernel⟩
theorem sc_Raw_noted : FnScope ["self", "word", "place", "handed", "came"] ["self", "word", "place", "handed", "came"] (defScope s_Raw_noted) := ⟨rfl, rfl, rfl, by decide +kernel, rfl, by decide +kernel, by decide +kernel⟩
theorem sc_Raw_log : FnScope ["self", "came", "handed", "place", "word"] ["self"] (defScope s_Raw_log) := ⟨rfl, rfl, rfl, by decide +kernel, rfl, by decide +kernel, by decide +kernel⟩
theorem sc_End___init__ : FnScope ["self", "pipe"] ["self", "pipe"] (defScope s_End___init__) := ⟨rfl, rfl, rfl, by decide +kernel, rfl, by decide +kernel, by decide +kernel⟩
theorem sc_Mouth_put : FnScope ["self", "data", "fit"] ["self", "data"] (defScope s_Mouth_put) := ⟨rfl, rfl, rfl, by decide +kernel, rfl, by decide +kernel, by decide +kernel⟩
theorem sc_Drain_take : FnScope ["self", "many", "found"] ["self", "many"] (defScope s_Drain_take) := ⟨rfl, rfl, rfl, by decide +kernel, rfl, by decide +kernel, by decide +kernel⟩
theorem sc_Pipe___init__ : FnScope ["self", "room"] ["self", "room"] (defScope s_Pipe___init__) := ⟨rfl, rfl, rfl, by decide +kernel, rfl, by decide +kernel, by decide +kernel⟩
theorem sc_Pipe_into : FnScope ["self"] ["self"] (defScope s_Pipe_into) := ⟨rfl, rfl, rfl, by decide +kernel, rfl, by decide +kernel, by decide +kernel⟩
theorem sc_Pipe_out : FnScope ["self"] ["self"] (defScope s_Pipe_out) := ⟨rfl, rfl, rfl, by decide +kernel, rfl, by decide +kernel, by decide +kernel⟩
theorem sc_Pipe_held : FnScope ["self"] ["self"] (defScope s_Pipe_held) := ⟨rfl, rfl, rfl, by decide +kernel, rfl, by decide +kernel, by decide +kernel⟩
/-- what the top leaves -/
structure Txt (K : PySem.W.Frag) (mg : Str → Option Value) : Prop where
  f_all : mg "all" = none
  f_isinstance : mg "isinstance" = none
  f_len : mg "len" = none
  f_list : mg "list" = none
  f_max : mg "max" = none
  f_min : mg "min" = none
  f_range : mg "range" = none
  c_BROKEN : ∃ t, mg "BROKEN" = some (.int 99 t)
  c_MOST_ROOM : ∃ t, mg "MOST_ROOM" = some (.int 64 t)
  d_told_anew : ∃ f fd, Dfn K mg "told_anew" s_told_anew [] [] f fd
  d__law_pool : ∃ f fd, Dfn K mg "_law_pool" s__law_pool [] [] f fd
  d__law_take : ∃ f fd, Dfn K mg "_law_take" s__law_take [] [] f fd
  d__law_row : ∃ f fd, Dfn K mg "_law_row" s__law_row [] [] f fd
  d__law_put : ∃ f fd, Dfn K mg "_law_put" s__law_put [] [] f fd
  d__law_taken : ∃ f fd, Dfn K mg "_law_taken" s__law_taken [] [] f fd
  d__law_in_order : ∃ f fd, Dfn K mg "_law_in_order" s__law_in_order [] [] f fd
  d__law_logged : ∃ f fd, Dfn K mg "_law_logged" s__law_logged [] [] f fd
  d__law_passed : ∃ f fd, Dfn K mg "_law_passed" s__law_passed [] [] f fd
  cl_Raw : Cls K (He.ga K "Raw")
  g_Raw : mg "Raw" = some (.ref (He.ga K "Raw"))
  cl_Mouth : Cls K (He.ga K "Mouth")
  g_Mouth : mg "Mouth" = some (.ref (He.ga K "Mouth"))
  cl_Drain : Cls K (He.ga K "Drain")
  g_Drain : mg "Drain" = some (.ref (He.ga K "Drain"))
  cl_Pipe : Cls K (He.ga K "Pipe")
  g_Pipe : mg "Pipe" = some (.ref (He.ga K "Pipe"))
  mk_Mouth : Mk K (He.ga K "Mouth") (He.ma K (He.ga K "Mouth") "__init__")
  mk_Drain : Mk K (He.ga K "Drain") (He.ma K (He.ga K "Drain") "__init__")
  mk_Pipe : Mk K (He.ga K "Pipe") (He.ma K (He.ga K "Pipe") "__init__")
  na_Mouth_live : NoAttr K (He.ga K "Mouth") "live"
  na_Mouth_notes : NoAttr K (He.ga K "Mouth") "notes"
  na_Mouth_pipe : NoAttr K (He.ga K "Mouth") "pipe"
  na_Mouth_gone : NoAttr K (He.ga K "Mouth") "gone"
  na_Drain_live : NoAttr K (He.ga K "Drain") "live"
  na_Drain_notes : NoAttr K (He.ga K "Drain") "notes"
  na_Drain_pipe : NoAttr K (He.ga K "Drain") "pipe"
  na_Drain_gone : NoAttr K (He.ga K "Drain") "gone"
  na_Pipe_room : NoAttr K (He.ga K "Pipe") "room"
  na_Pipe_inside : NoAttr K (He.ga K "Pipe") "inside"
  na_Pipe_high : NoAttr K (He.ga K "Pipe") "high"
  na_Pipe_low : NoAttr K (He.ga K "Pipe") "low"
  me_Raw___init__ : Meth K (He.ga K "Raw") "__init__" (He.ma K (He.ga K "Raw") "__init__")
  fd_Raw___init__ : ∃ fd, FunD K "__init__" "Raw.__init__" (defArgs s_Raw___init__) (defBody s_Raw___init__) (defScope s_Raw___init__) [] [] (He.ma K (He.ga K "Raw") "__init__") fd
  me_Mouth_asked : Meth K (He.ga K "Mouth") "asked" (He.ma K (He.ga K "Mouth") "asked")
  fd_Mouth_asked : ∃ fd, FunD K "asked" "Raw.asked" (defArgs s_Raw_asked) (defBody s_Raw_asked) (defScope s_Raw_asked) [] [] (He.ma K (He.ga K "Mouth") "asked") fd
  me_Drain_asked : Meth K (He.ga K "Drain") "asked" (He.ma K (He.ga K "Drain") "asked")
  fd_Drain_asked : ∃ fd, FunD K "asked" "Raw.asked" (defArgs s_Raw_asked) (defBody s_Raw_asked) (defScope s_Raw_asked) [] [] (He.ma K (He.ga K "Drain") "asked") fd
  me_Mouth_noted : Meth K (He.ga K "Mouth") "noted" (He.ma K (He.ga K "Mouth") "noted")
  fd_Mouth_noted : ∃ fd, FunD K "noted" "Raw.noted" (defArgs s_Raw_noted) (defBody s_Raw_noted) (defScope s_Raw_noted) [] [] (He.ma K (He.ga K "Mouth") "noted") fd
  me_Drain_noted : Meth K (He.ga K "Drain") "noted" (He.ma K (He.ga K "Drain") "noted")
  fd_Drain_noted : ∃ fd, FunD K "noted" "Raw.noted" (defArgs s_Raw_noted) (defBody s_Raw_noted) (defScope s_Raw_noted) [] [] (He.ma K (He.ga K "Drain") "noted") fd
  me_Mouth_log : Meth K (He.ga K "Mouth") "log" (He.ma K (He.ga K "Mouth") "log")
  fd_Mouth_log : ∃ fd, FunD K "log" "Raw.log" (defArgs s_Raw_log) (defBody s_Raw_log) (defScope s_Raw_log) [] [] (He.ma K (He.ga K "Mouth") "log") fd
  me_Drain_log : Meth K (He.ga K "Drain") "log" (He.ma K (He.ga K "Drain") "log")
  fd_Drain_log : ∃ fd, FunD K "log" "Raw.log" (defArgs s_Raw_log) (defBody s_Raw_log) (defScope s_Raw_log) [] [] (He.ma K (He.ga K "Drain") "log") fd
  me_Mouth_shut : Meth K (He.ga K "Mouth") "shut" (He.ma K (He.ga K "Mouth") "shut")
  fd_Mouth_shut : ∃ fd, FunD K "shut" "Raw.shut" (defArgs s_Raw_shut) (defBody s_Raw_shut) (defScope s_Raw_shut) [] [] (He.ma K (He.ga K "Mouth") "shut") fd
  me_Drain_shut : Meth K (He.ga K "Drain") "shut" (He.ma K (He.ga K "Drain") "shut")
  fd_Drain_shut : ∃ fd, FunD K "shut" "Raw.shut" (defArgs s_Raw_shut) (defBody s_Raw_shut) (defScope s_Raw_shut) [] [] (He.ma K (He.ga K "Drain") "shut") fd
  me_Mouth___init__ : Meth K (He.ga K "Mouth") "__init__" (He.ma K (He.ga K "Mouth") "__init__")
  fd_Mouth___init__ : ∃ fd, FunD K "__init__" "End.__init__" (defArgs s_End___init__) (defBody s_End___init__) (defScope s_End___init__) [] [] (He.ma K (He.ga K "Mouth") "__init__") fd
  me_Drain___init__ : Meth K (He.ga K "Drain") "__init__" (He.ma K (He.ga K "Drain") "__init__")
  fd_Drain___init__ : ∃ fd, FunD K "__init__" "End.__init__" (defArgs s_End___init__) (defBody s_End___init__) (defScope s_End___init__) [] [] (He.ma K (He.ga K "Drain") "__init__") fd
  me_Mouth_put : Meth K (He.ga K "Mouth") "put" (He.ma K (He.ga K "Mouth") "put")
  fd_Mouth_put : ∃ fd, FunD K "put" "Mouth.put" (defArgs s_Mouth_put) (defBody s_Mouth_put) (defScope s_Mouth_put) [] [] (He.ma K (He.ga K "Mouth") "put") fd
  me_Drain_take : Meth K (He.ga K "Drain") "take" (He.ma K (He.ga K "Drain") "take")
  fd_Drain_take : ∃ fd, FunD K "take" "Drain.take" (defArgs s_Drain_take) (defBody s_Drain_take) (defScope s_Drain_take) [] [] (He.ma K (He.ga K "Drain") "take") fd
  me_Pipe___init__ : Meth K (He.ga K "Pipe") "__init__" (He.ma K (He.ga K "Pipe") "__init__")
  fd_Pipe___init__ : ∃ fd, FunD K "__init__" "Pipe.__init__" (defArgs s_Pipe___init__) (defBody s_Pipe___init__) (defScope s_Pipe___init__) [] [("room", .int 8)] (He.ma K (He.ga K "Pipe") "__init__") fd
  me_Pipe_into : Meth K (He.ga K "Pipe") "into" (He.ma K (He.ga K "Pipe") "into")
  fd_Pipe_into : ∃ fd, FunD K "into" "Pipe.into" (defArgs s_Pipe_into) (defBody s_Pipe_into) (defScope s_Pipe_into) [] [] (He.ma K (He.ga K "Pipe") "into") fd
  me_Pipe_out : Meth K (He.ga K "Pipe") "out" (He.ma K (He.ga K "Pipe") "out")
  fd_Pipe_out : ∃ fd, FunD K "out" "Pipe.out" (defArgs s_Pipe_out) (defBody s_Pipe_out) (defScope s_Pipe_out) [] [] (He.ma K (He.ga K "Pipe") "out") fd
  me_Pipe_held : Meth K (He.ga K "Pipe") "held" (He.ma K (He.ga K "Pipe") "held")
  fd_Pipe_held : ∃ fd, FunD K "held" "Pipe.held" (defArgs s_Pipe_held) (defBody s_Pipe_held) (defScope s_Pipe_held) [] [] (He.ma K (He.ga K "Pipe") "held") fd
  um_Raw___init__ : UMet K "Raw" "__init__"
  g_BadRoom : mg "BadRoom" = some (.ref (He.ga K "BadRoom"))
  g_Closed : mg "Closed" = some (.ref (He.ga K "Closed"))
  g_Fault : mg "Fault" = some (.ref (He.ga K "Fault"))
  e0_BadRoom : Ex0 K mg "BadRoom"
  e0_Closed : Ex0 K mg "Closed"
  x1_Fault : OexC K (He.ga K "Fault")
  me_Fault___init__ : Meth K (He.ga K "Fault") "__init__" (He.ma K (He.ga K "Fault") "__init__")
  fd_Fault___init__ : ∃ fd, FunD K "__init__" "Fault.__init__" (defArgs s_Fault___init__) (defBody s_Fault___init__) (defScope s_Fault___init__) [] [("taken", .int 0)] (He.ma K (He.ga K "Fault") "__init__") fd
  na_Fault_number : NoAttr K (He.ga K "Fault") "number"
  na_Fault_taken : NoAttr K (He.ga K "Fault") "taken"
local macro_rules | `(tactic| wtm_at "zcls") => `(tactic| first | exact T.cl_Raw | exact T.cl_Mouth | exact T.cl_Drain | exact T.cl_Pipe | fail "no class")
local macro_rules | `(tactic| wtm_at "zno") => `(tactic| first | exact T.na_Mouth_live | exact T.na_Mouth_notes | exact T.na_Mouth_pipe | exact T.na_Mouth_gone | exact T.na_Drain_live | exact T.na_Drain_notes | exact T.na_Drain_pipe | exact T.na_Drain_gone | exact T.na_Pipe_room | exact T.na_Pipe_inside | exact T.na_Pipe_high | exact T.na_Pipe_low | fail "no field")
def D_told_anew : He.DefD := ⟨("told_anew", none), "told_anew", "told_anew", defArgs s_told_anew, defBody s_told_anew, defScope s_told_anew, [], []⟩
def D__law_pool : He.DefD := ⟨("_law_pool", none), "_law_pool", "_law_pool", defArgs s__law_pool, defBody s__law_pool, defScope s__law_pool, [], []⟩
def D__law_take : He.DefD := ⟨("_law_take", none), "_law_take", "_law_take", defArgs s__law_take, defBody s__law_take, defScope s__law_take, [], []⟩
def D__law_row : He.DefD := ⟨("_law_row", none), "_law_row", "_law_row", defArgs s__law_row, defBody s__law_row, defScope s__law_row, [], []⟩
def D__law_put : He.DefD := ⟨("_law_put", none), "_law_put", "_law_put", defArgs s__law_put, defBody s__law_put, defScope s__law_put, [], []⟩
def D__law_taken : He.DefD := ⟨("_law_taken", none), "_law_taken", "_law_taken", defArgs s__law_taken, defBody s__law_taken, defScope s__law_taken, [], []⟩
def D__law_in_order : He.DefD := ⟨("_law_in_order", none), "_law_in_order", "_law_in_order", defArgs s__law_in_order, defBody s__law_in_order, defScope s__law_in_order, [], []⟩
def D__law_logged : He.DefD := ⟨("_law_logged", none), "_law_logged", "_law_logged", defArgs s__law_logged, defBody s__law_logged, defScope s__law_logged, [], []⟩
def D__law_passed : He.DefD := ⟨("_law_passed", none), "_law_passed", "_law_passed", defArgs s__law_passed, defBody s__law_passed, defScope s__law_passed, [], []⟩
def D_law : He.DefD := ⟨("law", none), "law", "law", defArgs s_law, defBody s_law, defScope s_law, [], []⟩
def D_Raw___init__ : He.DefD := ⟨("Raw", some "__init__"), "__init__", "Raw.__init__", defArgs s_Raw___init__, defBody s_Raw___init__, defScope s_Raw___init__, [], []⟩
def D_Mouth_asked : He.DefD := ⟨("Mouth", some "asked"), "asked", "Raw.asked", defArgs s_Raw_asked, defBody s_Raw_asked, defScope s_Raw_asked, [], []⟩
def D_Drain_asked : He.DefD := ⟨("Drain", some "asked"), "asked", "Raw.asked", defArgs s_Raw_asked, defBody s_Raw_asked, defScope s_Raw_asked, [], []⟩
def D_Mouth_noted : He.DefD := ⟨("Mouth", some "noted"), "noted", "Raw.noted", defArgs s_Raw_noted, defBody s_Raw_noted, defScope s_Raw_noted, [], []⟩
def D_Drain_noted : He.DefD := ⟨("Drain", some "noted"), "noted", "Raw.noted", defArgs s_Raw_noted, defBody s_Raw_noted, defScope s_Raw_noted, [], []⟩
def D_Mouth_log : He.DefD := ⟨("Mouth", some "log"), "log", "Raw.log", defArgs s_Raw_log, defBody s_Raw_log, defScope s_Raw_log, [], []⟩
def D_Drain_log : He.DefD := ⟨("Drain", some "log"), "log", "Raw.log", defArgs s_Raw_log, defBody s_Raw_log, defScope s_Raw_log, [], []⟩
def D_Mouth_shut : He.DefD := ⟨("Mouth", some "shut"), "shut", "Raw.shut", defArgs s_Raw_shut, defBody s_Raw_shut, defScope s_Raw_shut, [], []⟩
def D_Drain_shut : He.DefD := ⟨("Drain", some "shut"), "shut", "Raw.shut", defArgs s_Raw_shut, defBody s_Raw_shut, defScope s_Raw_shut, [], []⟩
def D_Mouth___init__ : He.DefD := ⟨("Mouth", some "__init__"), "__init__", "End.__init__", defArgs s_End___init__, defBody s_End___init__, defScope s_End___init__, [], []⟩
def D_Drain___init__ : He.DefD := ⟨("Drain", some "__init__"), "__init__", "End.__init__", defArgs s_End___init__, defBody s_End___init__, defScope s_End___init__, [], []⟩
def D_Mouth_put : He.DefD := ⟨("Mouth", some "put"), "put", "Mouth.put", defArgs s_Mouth_put, defBody s_Mouth_put, defScope s_Mouth_put, [], []⟩
def D_Drain_take : He.DefD := ⟨("Drain", some "take"), "take", "Drain.take", defArgs s_Drain_take, defBody s_Drain_take, defScope s_Drain_take, [], []⟩
def D_Pipe___init__ : He.DefD := ⟨("Pipe", some "__init__"), "__init__", "Pipe.__init__", defArgs s_Pipe___init__, defBody s_Pipe___init__, defScope s_Pipe___init__, [], [("room", .int 8)]⟩
def D_Pipe_into : He.DefD := ⟨("Pipe", some "into"), "into", "Pipe.into", defArgs s_Pipe_into, defBody s_Pipe_into, defScope s_Pipe_into, [], []⟩
def D_Pipe_out : He.DefD := ⟨("Pipe", some "out"), "out", "Pipe.out", defArgs s_Pipe_out, defBody s_Pipe_out, defScope s_Pipe_out, [], []⟩
def D_Pipe_held : He.DefD := ⟨("Pipe", some "held"), "held", "Pipe.held", defArgs s_Pipe_held, defBody s_Pipe_held, defScope s_Pipe_held, [], []⟩
def D_Fault___init__ : He.DefD := ⟨("Fault", some "__init__"), "__init__", "Fault.__init__", defArgs s_Fault___init__, defBody s_Fault___init__, defScope s_Fault___init__, [], [("taken", .int 0)]⟩
def fn : List He.DefD := [D_told_anew, D__law_pool, D__law_take, D__law_row, D__law_put, D__law_taken, D__law_in_order, D__law_logged, D__law_passed, D_law, D_Raw___init__, D_Mouth_asked, D_Drain_asked, D_Mouth_noted, D_Drain_noted, D_Mouth_log, D_Drain_log, D_Mouth_shut, D_Drain_shut, D_Mouth___init__, D_Drain___init__, D_Mouth_put, D_Drain_take, D_Pipe___init__, D_Pipe_into, D_Pipe_out, D_Pipe_held, D_Fault___init__]
def fa : List He.Fa := [.glo "told_anew", .glo "_law_pool", .glo "_law_take", .glo "_law_row", .glo "_law_put", .glo "_law_taken", .glo "_law_in_order", .glo "_law_logged", .glo "_law_passed", .glo "law", .free "all", .free "isinstance", .free "len", .free "list", .free "max", .free "min", .free "range", .int "BROKEN" 99, .int "MOST_ROOM" 64, .glo "Raw", .cls "Raw", .glo "Mouth", .cls "Mouth", .glo "Drain", .cls "Drain", .glo "Pipe", .cls "Pipe", .mkr "Mouth", .mkr "Drain", .mkr "Pipe", .noat "Mouth" "live", .noat "Mouth" "notes", .noat "Mouth" "pipe", .noat "Mouth" "gone", .noat "Drain" "live", .noat "Drain" "notes", .noat "Drain" "pipe", .noat "Drain" "gone", .noat "Pipe" "room", .noat "Pipe" "inside", .noat "Pipe" "high", .noat "Pipe" "low", .meth "Raw" "__init__", .meth "Mouth" "asked", .meth "Drain" "asked", .meth "Mouth" "noted", .meth "Drain" "noted", .meth "Mouth" "log", .meth "Drain" "log", .meth "Mouth" "shut", .meth "Drain" "shut", .meth "Mouth" "__init__", .meth "Drain" "__init__", .meth "Mouth" "put", .meth "Drain" "take", .meth "Pipe" "__init__", .meth "Pipe" "into", .meth "Pipe" "out", .meth "Pipe" "held", .glo "BadRoom", .glo "Closed", .glo "Fault", .exc "BadRoom", .exc "Closed", .meth "Fault" "__init__", .noat "Fault" "number", .noat "Fault" "taken"]
abbrev R : PySem.W.OpenRow := PySem.W.OpenLaw.row PySem.Challenge.rw_sipstack_k17_whole_chain_of_pipes
def exl : List (PySem.W.Frag → Bool) := [umB "Raw" "__init__", oexB "Fault"]
def ex (K : PySem.W.Frag) : Bool := exl.all fun f => f K
abbrev hk : PySem.W.Hook := hookE 4 fa fn ex
def ob (s : PySem.W.SharedT) : He.AlD × Bool := obsE 4 fa fn ex (HandSHeadRun.getT s)
theorem ob_eq (s : PySem.W.SharedT) : ob s = hk.obs s.abs := obsE_eq (HandSHeadRun.getT_eq s)
abbrev loose : List Str := "_wall" :: "SipError" :: "Closed" :: "NoSeek" :: "NoReads" :: "NoWrites" :: "BadRoom" :: "Fault" :: "told_anew" :: "Raw" :: "ROOM" :: "BROKEN" :: "MOST_ROOM" :: "End" :: "Mouth" :: "Drain" :: "Pipe" :: "_law_pool" :: "_law_take" :: "_law_row" :: "_law_put" :: "_law_taken" :: "_law_in_order" :: "_law_logged" :: "_law_passed" ::  []
theorem run (w : World) : HandSHeadRun.RunEq R (PySem.W.view R.prog [29]) hk ob 6000 loose w := by
  refine no_implicit_lambda% (@Z.stp _ ?_ (fun key hn => ?_))
  ·
      intro os
      kernel_rfl
  simpa only using Z.stc (Z.Stw.mk 5) hn key

section
variable {P : Program} {w : World} {K : PySem.W.Frag} {mg : Str → Option Value} {base : Heap}
theorem fo_Fault___init__ (T : Txt K mg) {f : Addr} {fd : FuncData} (F : FunD K "__init__" "Fault.__init__" (defArgs s_Fault___init__) (defBody s_Fault___init__) (defScope s_Fault___init__) [] [("taken", .int 0)] f fd) : FnOk P w K mg base (L2.CX P w) 1 f fd ["self", "number", "taken"] (spExi K ["number", "taken"]) := by
  refine no_implicit_lambda% (@Z.stp _ ?_ (fun key hn => ?_))
  ·
      refine fo_x F sc_Fault___init__ (fun vs H Q E h => exi_len h) (fun cdv A outer s H vs Q E hr h kx po => ?_)
      exact ⟨_, (pss_cons (ps_ost (pv 0) (pv 1)) (pss_one (ps_ost (pv 0) (pv 2)))), exi2 h⟩
  simpa only using Z.stc (Z.Stw.mk 5) hn key
theorem ee_Fault (T : Txt K mg) : Ex1 P w K mg base 1 "Fault" ["number", "taken"] [.int 0] :=
  ex1_of T.g_Fault T.x1_Fault (fun f hf => by simp only [List.mem_cons, List.not_mem_nil, or_false] at hf; rcases hf with rfl | rfl; exact T.na_Fault_number; exact T.na_Fault_taken) T.me_Fault___init__ T.fd_Fault___init__ (fun fd F => fo_Fault___init__ T F) (fun fd F => F.binds0 2 (by simp) rfl fun _ _ _ _ _ _ us ks h1 h2 => match us, ks, h1, h2 with | [_, _], [_], _, _ => ⟨_, _, _, _, _, _, rfl, rfl, rfl⟩)
/-! ### the law's pool and its draws -/
def pool (p : Addr) (d n c : Int) : HL := [(p, .lst ([d, n, c].map V.int))]
def sp__law_take (_ : PySem.W.Frag) : Sp := fun vs H Q _ => ∃ (p : Addr) (d n c w : Int) (F : HL), vs = [.ref p, .int w] ∧ 0 < w ∧ w < 4000000000 ∧ 0 ≤ d ∧ 0 ≤ n ∧ n < 4000000000 ∧ Own H (pool p d n c ++ F) ∧
  ∀ r d' n' H', 0 ≤ r → r < w → 0 ≤ d' → n ≤ n' → n' ≤ n + 1 → Own H' (pool p d' n' c ++ F) → Q (.int r) H'
theorem len__law_take {vs H Q E} (h : sp__law_take K vs H Q E) : vs.length = 2 := by
  refine no_implicit_lambda% (@Z.stp _ ?_ (fun key hn => ?_))
  ·
      obtain ⟨p, d, n, c, w, F, rfl, _⟩ := h
      rfl
  simpa only using Z.stc (Z.Stw.mk 5) hn key
theorem ap__law_take {H : Hp} {L F : HL} {Q : VK} {E : XK} {p : Addr} {d n c w : Int} (O : Own H L) (pk : Pk L (pool p d n c) F) (h1 : 0 < w) (h2 : w < 4000000000) (h3 : 0 ≤ d) (h4 : 0 ≤ n) (h5 : n < 4000000000)
    (k : ∀ r d' n', 0 ≤ r → r < w → 0 ≤ d' → n ≤ n' → n' ≤ n + 1 → ∀ H', Own H' (pool p d' n' c ++ F) → Q (.int r) H') : sp__law_take K [.ref p, .int w] H Q E :=
  ⟨p, d, n, c, w, F, rfl, h1, h2, h3, h4, h5, O.pk pk, fun r d' n' H' a1 a2 a3 a4 a5 O' => k r d' n' a1 a2 a3 a4 a5 H' O'⟩
def sp__law_pool (K : PySem.W.Frag) : Sp := fun vs H Q _ => ∃ (a : Addr) (t : Int) (ns : List Int) (S F : HL), vs = [.ref a, .int t] ∧ Scr K a ns S ∧ ns.length ≤ 63 ∧ 0 ≤ t ∧ t < 1000000 ∧ Own H (S ++ F) ∧
  ∀ p d c H', 0 ≤ d → Own H' (pool p d (1000 * t) c ++ (S ++ F)) → Q (.ref p) H'
theorem len__law_pool {vs H Q E} (h : sp__law_pool K vs H Q E) : vs.length = 2 := by
  refine no_implicit_lambda% (@Z.stp _ ?_ (fun key hn => ?_))
  ·
      obtain ⟨a, t, ns, S, F, rfl, _⟩ := h
      rfl
  simpa only using Z.stc (Z.Stw.mk 5) hn key
theorem ap__law_pool {H : Hp} {L S F : HL} {Q : VK} {E : XK} {a : Addr} {t : Int} {ns : List Int} (O : Own H L) (hS : Scr K a ns S) (hl : ns.length ≤ 63) (pk : Pk L S F) (h1 : 0 ≤ t) (h2 : t < 1000000)
    (k : ∀ p d c, 0 ≤ d → ∀ H', Own H' (pool p d (1000 * t) c ++ (S ++ F)) → Q (.ref p) H') : sp__law_pool K [.ref a, .int t] H Q E :=
  ⟨a, t, ns, S, F, rfl, hS, hl, h1, h2, O.pk pk, fun p d c H' a1 O' => k p d c a1 H' O'⟩
theorem ok__law_take (T : Txt K mg) : Cal P w K mg base 1 "_law_take" (sp__law_take K) [] := by
  refine no_implicit_lambda% (@Z.stp _ ?_ (fun key hn => ?_))
  ·

      refine cal_x T.d__law_take sc__law_take (fun _ _ _ _ _ _ us hl => match us, hl with | [_, _], _ => rfl) (fun vs H Q E h => len__law_take h) (fun cdv A outer s f H vs Q E hr h kx po => ?_)
      refine ⟨_, (pss_cons (ps_if (pt_cmpR op_zGt (pe_ix ix_seq (pv 0) pe_int (fun _ _ => rfl)) pe_int (nomark _))
          (pss_cons (ps_set (i := 3) sc__law_take.nd rfl (Or.inl rfl) (pe_op op_zMod (pe_ix ix_seq (pv 0) pe_int (fun _ _ => rfl)) (pv 1)))
          (pss_cons (ps_asg (pe_op op_zDiv (pe_ix ix_seq (pv 0) pe_int (fun _ _ => rfl)) (pv 1)) (pg_sub (pv 0) pe_int set_list))
          (pss_one (ps_ret (pv 3)))))
          pss_nil)
          (pss_cons (ps_asg (pe_op op_zAdd (pe_ix ix_seq (pv 0) pe_int (fun _ _ => rfl)) pe_int) (pg_sub (pv 0) pe_int set_list))
          (pss_cons (ps_set (i := 2) sc__law_take.nd rfl (Or.inl rfl) (pe_op op_zMod (pe_op op_zPow (pe_op op_zAdd (pe_op op_zMod (pe_ix ix_seq (pv 0) pe_int (fun _ _ => rfl)) pe_int) (pe_op op_zMul pe_int (pe_ix ix_seq (pv 0) pe_int (fun _ _ => rfl)))) pe_int) pe_int))
          (pss_cons (ps_set (i := 2) sc__law_take.nd rfl (Or.inl rfl) (pe_op op_zAdd (pe_op op_zMul (pv 2) pe_int) (pe_op op_zMul (pe_op op_zMul (pe_ix ix_seq (pv 0) pe_int (fun _ _ => rfl)) (pe_ix ix_seq (pv 0) pe_int (fun _ _ => rfl))) pe_int)))
          (pss_one (ps_ret (pe_op op_zMod (pe_op op_zDiv (pe_op op_zMod (pe_op op_zAdd (pv 2) (pe_op op_zDiv (pe_ix ix_seq (pv 0) pe_int (fun _ _ => rfl)) pe_int)) pe_int) pe_int) (pv 1)))))))), ?_⟩
      try dsimp only [cxOf, Cx.tr, Cx.suite, Cx.nox, Cx.wish]
      obtain ⟨p, d, n, c, w, F, rfl, hw, hw2, hd, hn, hn2, O, k⟩ := h
      unfold pool at O
      refine w_start (σ := [some (.ref p), some (.int w), none, none]) rfl ?_
      wtm_at "zgo"
      · exact k _ _ _ _ (Int.emod_nonneg _ (by omega)) (Int.emod_lt_of_pos _ hw) (Int.ediv_nonneg hd (by omega)) (by omega) (by omega) O
      · have h5 := Int.emod_nonneg c (show (2147483647 : Int) ≠ 0 by decide)
        have h6 := Int.emod_lt_of_pos c (show (0 : Int) < 2147483647 by decide)
        wtm_at "zgo"
        exact k _ _ _ _ (Int.emod_nonneg _ (by omega)) (Int.emod_lt_of_pos _ hw) hd (by omega) (by omega) O
  simpa only using Z.stc (Z.Stw.mk 5) hn key
local macro_rules | `(tactic| wtm_at "zcall") => `(tactic| ((with_reducible apply ap__law_take O); (· wtm_at "zpk"); (· omega); (· omega); (· omega); (· omega); (· omega); intro r d n h1 h2 h3 h4 h5; wtm_at "znx"))
theorem ok__law_pool (T : Txt K mg) : Cal P w K mg base 1 "_law_pool" (sp__law_pool K) [] := by
  refine no_implicit_lambda% (@Z.stp _ ?_ (fun key hn => ?_))
  ·

      refine cal_x T.d__law_pool sc__law_pool (fun _ _ _ _ _ _ us hl => match us, hl with | [_, _], _ => rfl) (fun vs H Q E h => len__law_pool h) (fun cdv A outer s f H vs Q E hr h kx po => ?_)
      refine ⟨_, (pss_cons (ps_set (i := 2) sc__law_pool.nd rfl (Or.inl rfl) pe_int)
          (pss_cons (ps_if (pt_cmpR op_zGt (pe_callB call_zLen rfl T.f_len bt_len (pa_cons (pv 0) pa_nil)) pe_int (nomark _))
          (pss_one (ps_set (i := 2) sc__law_pool.nd rfl (Or.inl rfl) (pe_ix ix_seq (pv 0) (pe_op op_zMod (pv 1) (pe_callB call_zLen rfl T.f_len bt_len (pa_cons (pv 0) pa_nil))) (fun _ _ => rfl))))
          pss_nil)
          (pss_cons (ps_set (i := 3) sc__law_pool.nd rfl (Or.inl rfl) pe_int)
          (pss_cons (ps_if (PW.pt (pw_and (pt_cmpR op_zGe (pv 2) (pe_op op_zPow pe_int pe_int) (nomark _)) (pw_and1 (pt_cmpR op_zLt (pv 1) (pe_callB call_zLen rfl T.f_len bt_len (pa_cons (pv 0) pa_nil)) (nomark _)))))
          (pss_one (ps_set (i := 3) sc__law_pool.nd rfl (Or.inl rfl) (pv 2)))
          pss_nil)
          (pss_one (ps_ret (pe_lst (pa_cons (pv 3) (pa_cons (pe_op op_zMul pe_int (pv 1)) (pa_cons (pv 2) pa_nil)))))))))), ?_⟩
      try dsimp only [cxOf, Cx.tr, Cx.suite, Cx.nox, Cx.wish]
      obtain ⟨a, t, ns, S, F, rfl, hS, hlen, h0, h1, O, k⟩ := h
      refine w_start (σ := [some (.ref a), some (.int t), none, none]) rfl ?_
      wtm_at "zgo"
      all_goals exact k _ _ _ _ (by omega) O
  simpa only using Z.stc (Z.Stw.mk 5) hn key

local macro_rules | `(tactic| wtm_at "zcall") => `(tactic| ((with_reducible apply ap__law_pool O hS hlen); (· wtm_at "zpk"); (· omega); (· omega); intro p d c h1; wtm_at "znx"))

/-! ### what raws note -/
def Told (L : HL) (x : V) (d : PyData) : Prop := (∃ p ns, x = .ref p ∧ d = .list (List.map PyData.int ns) ∧ LsI L p ns) ∨ (∃ i, x = .int i ∧ d = .int i) ∨ (∃ s, x = .str s ∧ d = .str s) ∨ (x = .non ∧ d = .none)
theorem Told.li {L : HL} {p : Addr} {ns : List Int} (h : LsI L p ns) : Told L (.ref p) (.list (ns.map PyData.int)) := .inl ⟨p, ns, rfl, rfl, h⟩
theorem Told.int {L : HL} {i : Int} : Told L (.int i) (.int i) := .inr (.inl ⟨i, rfl, rfl⟩)
theorem Told.str {L : HL} {i : Str} : Told L (.str i) (.str i) := .inr (.inr (.inl ⟨i, rfl, rfl⟩))
theorem Told.non {L : HL} : Told L .non .none := .inr (.inr (.inr ⟨rfl, rfl⟩))
/-- data that may be told anew -/
def TD (d : PyData) : Prop := (∃ ns, d = .list (List.map PyData.int ns)) ∨ (∃ i, d = .int i) ∨ (∃ s, small 0 (.str s) = true ∧ d = .str s) ∨ d = .none
theorem Told.there {c L : HL} {x : V} {d : PyData} (h : Told L x d) : Told (c ++ L) x d := by
  refine no_implicit_lambda% (@Z.stp _ ?_ (fun key hn => ?_))
  ·
      rcases h with ⟨p, ns, e1, e2, h⟩ | h
      · exact .inl ⟨p, ns, e1, e2, h.there⟩
      · exact .inr h
  simpa only using Z.stc (Z.Stw.mk 5) hn key
theorem Told.rv {L : HL} {H : Hp} {v : V} {d : PyData} (O : Own H L) (m : ((0, .rv v d) : Addr × EO) ∈ L) (h : TD d) : Told L v d := by
  refine no_implicit_lambda% (@Z.stp _ ?_ (fun key hn => ?_))
  ·
      rcases h with ⟨ns, rfl⟩ | ⟨i, rfl⟩ | ⟨i, _, rfl⟩ | rfl
      · obtain ⟨p, rfl⟩ := rv_list O m
        exact .li (LsD.ints (LsD.rv m))
      · obtain rfl := rv_int O m; exact .int
      · obtain rfl := rv_str O m; exact .str
      · obtain rfl := rv_non O m; exact .non
  simpa only using Z.stc (Z.Stw.mk 5) hn key
def LogD (es : List PyData) : Prop := ∀ e ∈ es, ∃ w pl d1 d2, small 0 (.str w) = true ∧ e = .tuple [.str w, .int pl, d1, d2] ∧ TD d1 ∧ TD d2
theorem LogD.nil : LogD [] := fun _ h => nomatch h
theorem LogD.snoc {es : List PyData} {w : Str} {pl : Int} {d1 d2 : PyData} (h : LogD es) (hw : small 0 (.str w) = true) (h1 : TD d1) (h2 : TD d2) : LogD (es ++ [.tuple [.str w, .int pl, d1, d2]]) := fun e m => by
  rcases List.mem_append.mp m with m | m
  · exact h e m
  · exact ⟨w, pl, d1, d2, hw, List.mem_singleton.mp m, h1, h2⟩
theorem LogD.app {es fs : List PyData} (h : LogD es) (k : LogD fs) : LogD (es ++ fs) := fun e m => (List.mem_append.mp m).elim (h e) (k e)
theorem TD.li {ns : List Int} : TD (.list (ns.map PyData.int)) := .inl ⟨ns, rfl⟩
theorem TD.int {i : Int} : TD (.int i) := .inr (.inl ⟨i, rfl⟩)
theorem TD.str {i : Str} (h : small 0 (.str i) = true) : TD (.str i) := .inr (.inr (.inl ⟨i, h, rfl⟩))
theorem TD.sm {d : PyData} (h : TD d) : small 1 d = true := by
  refine no_implicit_lambda% (@Z.stp _ ?_ (fun key hn => ?_))
  ·
      rcases h with ⟨ns, rfl⟩ | ⟨i, rfl⟩ | ⟨i, h, rfl⟩ | rfl
      · exact small_list smalls_ints
      · exact small_int
      · exact small_mono h (by decide)
      · exact small_non
  simpa only using Z.stc (Z.Stw.mk 5) hn key
theorem LogD.sm {es : List PyData} {n : Nat} (hn : 2 ≤ n) (h : LogD es) : smalls n es = true := by
  refine no_implicit_lambda% (@Z.stp _ ?_ (fun key hn => ?_))
  ·
      unfold smalls
      refine List.all_eq_true.mpr fun e m => ?_
      obtain ⟨w, pl, d1, d2, hw, rfl, h1, h2⟩ := h e m
      exact small_mono (small_tuple (smalls_cons (small_mono hw (by decide)) (smalls_cons small_int (smalls_cons h1.sm (smalls_cons h2.sm smalls_nil))))) hn
  simpa only using Z.stc (Z.Stw.mk 5) hn key
local macro_rules | `(tactic| wtm_at "zsms") => `(tactic| (with_reducible refine LogD.sm (by decide) ?_); first | with_reducible assumption | wtm_at "zsd")
theorem TD.non : TD .none := .inr (.inr (.inr rfl))
local macro_rules | `(tactic| wtm_at "ztl") => `(tactic| first | with_reducible exact Told.int | with_reducible exact Told.str | with_reducible exact Told.non | ((with_reducible apply Told.li); wtm_at "zli") | exact Told.rv O (by wtm_at "zmm") (by assumption) | with_reducible assumption | ((with_reducible apply Told.there); wtm_at "ztl"))
local macro_rules | `(tactic| wtm_at "zsd") => `(tactic| first | wtm_at "ztl" | exact LogD.nil | exact LogD.app (by assumption) (by assumption) | exact TD.li | exact TD.int | exact TD.str (by decide +kernel) | exact TD.non | exact small_str (by decide +kernel) | (with_reducible apply LogD.snoc <;> wtm_at "zsd") | (with_reducible first | exact FGet.z | (apply FGet.s; (· decide +kernel); wtm_at "zfg")))
def sp_told_anew (K : PySem.W.Frag) : Sp := fun vs H Q _ => ∃ (x : V) (d : PyData) (F : HL), vs = [x] ∧ (Told F x d) ∧ Own H (F) ∧ (∀ (y : V) (H' : Hp), Own H' ((rvv y d) ++ F) → Q (y) H')
theorem len_told_anew {vs H Q E} (h : sp_told_anew K vs H Q E) : vs.length = 1 := by
  refine no_implicit_lambda% (@Z.stp _ ?_ (fun key hn => ?_))
  ·
      obtain ⟨x, d, F, rfl, _⟩ := h
      rfl
  simpa only using Z.stc (Z.Stw.mk 5) hn key
theorem ap_told_anew {H : Hp} {F : HL} {Q : VK} {E : XK} {x : V} {d : PyData} (O : Own H F)   (ht : Told F x d) (k : ∀ (y : V), ∀ H', Own H' ((rvv y d) ++ F) → Q (y) H') : sp_told_anew K [x] H Q E :=
  ⟨x, d, F, rfl, ht, O.sub (.all), (fun y H' O'  => k y H' O')⟩
theorem ok_told_anew (T : Txt K mg) : Cal P w K mg base 1 "told_anew" (sp_told_anew K) [] := by
  refine no_implicit_lambda% (@Z.stp _ ?_ (fun key hn => ?_))
  ·

      refine cal_x T.d_told_anew sc_told_anew (fun _ _ _ _ _ _ us hl => match us, hl with | [_], _ => rfl) (fun vs H Q E h => len_told_anew h) (fun cdv A outer s f H vs Q E hr h kx po => ?_)
      refine ⟨_, (pss_cons (ps_if (pt_z (pe_callB call_zIsi rfl T.f_isinstance bt_isinstance (pa_cons (pv 0) (pa_cons (pe_bltn (v := .ty "list") rfl T.f_list bt_list rfl) pa_nil))))
          (pss_one (ps_ret (pe_callTy call_zList rfl T.f_list bt_list (pa_cons (pv 0) pa_nil))))
          pss_nil)
          (pss_one (ps_ret (pv 0)))), ?_⟩
      try dsimp only [cxOf, Cx.tr, Cx.suite, Cx.nox, Cx.wish]
      obtain ⟨x, d, F, rfl, ht, O, k⟩ := h
      wtm_at "zun"
      refine w_start (σ := [some (x)]) rfl ?_
      rcases ht with ⟨p, ns, rfl, rfl, hL⟩ | ⟨i, rfl, rfl⟩ | ⟨i, rfl, rfl⟩ | ⟨rfl, rfl⟩
      all_goals
        wtm_at "zgo"
        wtm_at "zk"
  simpa only using Z.stc (Z.Stw.mk 5) hn key
local macro_rules | `(tactic| wtm_at "zcall") => `(tactic| ((with_reducible apply ap_told_anew O); (· wtm_at "zsd"); intro y; wtm_at "znx"))
def sp_Mouth_asked (K : PySem.W.Frag) : Sp := fun vs H Q E => ∃ (s dx : Addr) (fs : List (Str × V)) (b : Bool) (F : HL), vs = [.ref s] ∧ (FGet fs "live" (.bl b)) ∧ Own H ((obj s (He.ga K "Mouth") dx fs) ++ F) ∧ (∀  (H' : Hp), Own H' ((obj s (He.ga K "Mouth") dx fs) ++ F) → (b = true) → Q (.non) H') ∧ (∀ (H' : Hp), Own H' ((obj s (He.ga K "Mouth") dx fs) ++ F) → (b = false) → E (.ref (He.ga K "Closed")) none H')
theorem len_Mouth_asked {vs H Q E} (h : sp_Mouth_asked K vs H Q E) : vs.length = 1 := by
  refine no_implicit_lambda% (@Z.stp _ ?_ (fun key hn => ?_))
  ·
      obtain ⟨s, dx, fs, b, F, rfl, _⟩ := h
      rfl
  simpa only using Z.stc (Z.Stw.mk 5) hn key
theorem ap_Mouth_asked {H : Hp} {L F : HL} {Q : VK} {E : XK} {s dx : Addr} {fs : List (Str × V)} {b : Bool} (O : Own H L)  (pk1 : Pk L (obj s (He.ga K "Mouth") dx fs) F) (hf : FGet fs "live" (.bl b)) (k : (b = true) → ∀ H', Own H' ((obj s (He.ga K "Mouth") dx fs) ++ F) → Q (.non) H') (ke1 : ∀ (H' : Hp), Own H' ((obj s (He.ga K "Mouth") dx fs) ++ F) → (b = false) → E (.ref (He.ga K "Closed")) none H') : sp_Mouth_asked K [.ref s] H Q E :=
  ⟨s, dx, fs, b, F, rfl, hf, O.sub (.cons pk1 .all), (fun  H' O' q0 => k q0 H' O'), ke1⟩
theorem fo_Mouth_asked (T : Txt K mg) {f : Addr} {fd : FuncData} (F : FunD K "asked" "Raw.asked" (defArgs s_Raw_asked) (defBody s_Raw_asked) (defScope s_Raw_asked) [] [] f fd) : FnOk P w K mg base (L2.CX P w) 1 f fd ["self"] (sp_Mouth_asked K) := by
  refine no_implicit_lambda% (@Z.stp _ ?_ (fun key hn => ?_))
  ·

      refine fo_x F sc_Raw_asked (fun vs H Q E h => len_Mouth_asked h) (fun cdv A outer s H vs Q E hr h kx po => ?_)
      refine ⟨_, (pss_one (ps_if (pt_not (pt_z (pe_fld (pv 0) rfl)))
          (pss_one (ps_rz0 kx T.e0_Closed rfl rfl))
          pss_nil)), ?_⟩
      try dsimp only [cxOf, Cx.tr, Cx.suite, Cx.nox, Cx.wish]
      obtain ⟨s, dx, fs, b, F, rfl, hf, O, k, ke1⟩ := h
      wtm_at "zun"
      refine w_start (σ := [some (.ref s)]) rfl ?_
      cases b
      all_goals
        wtm_at "zgo"
      all_goals try wtm_at "zend"
  simpa only using Z.stc (Z.Stw.mk 5) hn key
theorem ok_Mouth_asked_0 (T : Txt K mg) : Met P w K mg base 1 (He.ga K "Mouth") "asked" (sp_Mouth_asked K) [] :=
  met_of T.cl_Mouth T.me_Mouth_asked T.fd_Mouth_asked (fun fd F => fo_Mouth_asked T F) (fun fd F => bi_all F fun _ _ _ _ _ _ us hl => match us, hl with | [_], _ => rfl)
def sp_Mouth_noted (K : PySem.W.Frag) : Sp := fun vs H Q _ => ∃ (s dx nl : Addr) (fs : List (Str × V)) (es : List PyData) (wd : Str) (pl : Int) (x y : V) (d1 d2 : PyData) (F : HL), vs = [.ref s, .str wd, .int pl, x, y] ∧ (FGet fs "notes" (.ref nl)) ∧ (es.length ≤ 10000) ∧ (Told F x d1) ∧ (Told F y d2) ∧ Own H ((obj s (He.ga K "Mouth") dx fs) ++ (([(nl, .xl es)]) ++ F)) ∧ (∀  (H' : Hp), Own H' ((obj s (He.ga K "Mouth") dx fs) ++ (([(nl, .xl (es ++ [.tuple [.str wd, .int pl, d1, d2]]))]) ++ F)) → Q (.non) H')
theorem len_Mouth_noted {vs H Q E} (h : sp_Mouth_noted K vs H Q E) : vs.length = 5 := by
  refine no_implicit_lambda% (@Z.stp _ ?_ (fun key hn => ?_))
  ·
      obtain ⟨s, dx, nl, fs, es, wd, pl, x, y, d1, d2, F, rfl, _⟩ := h
      rfl
  simpa only using Z.stc (Z.Stw.mk 5) hn key
theorem ap_Mouth_noted {H : Hp} {L R1 F : HL} {Q : VK} {E : XK} {s dx nl : Addr} {fs : List (Str × V)} {es : List PyData} {wd : Str} {pl : Int} {x y : V} {d1 d2 : PyData} (O : Own H L)  (pk1 : Pk L (obj s (He.ga K "Mouth") dx fs) R1) (hf : FGet fs "notes" (.ref nl)) (pk2 : Pk R1 ([(nl, .xl es)]) F) (hlen : es.length ≤ 10000) (ht1 : Told F x d1) (ht2 : Told F y d2) (k : ∀ H', Own H' ((obj s (He.ga K "Mouth") dx fs) ++ (([(nl, .xl (es ++ [.tuple [.str wd, .int pl, d1, d2]]))]) ++ F)) → Q (.non) H') : sp_Mouth_noted K [.ref s, .str wd, .int pl, x, y] H Q E :=
  ⟨s, dx, nl, fs, es, wd, pl, x, y, d1, d2, F, rfl, hf, hlen, ht1, ht2, O.sub (.cons pk1 (.cons pk2 .all)), (fun  H' O'  => k  H' O')⟩
theorem fo_Mouth_noted (T : Txt K mg) {f : Addr} {fd : FuncData} (F : FunD K "noted" "Raw.noted" (defArgs s_Raw_noted) (defBody s_Raw_noted) (defScope s_Raw_noted) [] [] f fd) : FnOk P w K mg base (L2.CX P w) 2 f fd ["self", "word", "place", "handed", "came"] (sp_Mouth_noted K) := by
  refine no_implicit_lambda% (@Z.stp _ ?_ (fun key hn => ?_))
  ·
      have c_told_anew : Cal P w K mg base 1 "told_anew" (sp_told_anew K) [] := (ok_told_anew T).mono (by decide)
      refine fo_x F sc_Raw_noted (fun vs H Q E h => len_Mouth_noted h) (fun cdv A outer s H vs Q E hr h kx po => ?_)
      refine ⟨_, (pss_one (ps_expr (pe_bm PySem.F.plainAttrs_list PySem.F.slot_list_append PySem.F.type_list_append mt_append (pe_fld (pv 0) rfl) (pa_cons (pe_tup (pa_cons (pv 1) (pa_cons (pv 2) (pa_cons (pe_cE kx c_told_anew hr (by decide) rfl (pa_cons (pv 3) pa_nil)) (pa_cons (pe_cE kx c_told_anew hr (by decide) rfl (pa_cons (pv 4) pa_nil)) pa_nil))))) pa_nil)))), ?_⟩
      try dsimp only [cxOf, Cx.tr, Cx.suite, Cx.nox, Cx.wish]
      obtain ⟨s, dx, nl, fs, es, wd, pl, x, y, d1, d2, F, rfl, hf, hlen, ht1, ht2, O, k⟩ := h
      wtm_at "zun"
      refine w_start (σ := [some (.ref s), some (.str wd), some (.int pl), some (x), some (y)]) rfl ?_
      wtm_at "zgo"
      wtm_at "zk"
  simpa only using Z.stc (Z.Stw.mk 5) hn key
theorem ok_Mouth_noted_4 (T : Txt K mg) : Met P w K mg base 2 (He.ga K "Mouth") "noted" (sp_Mouth_noted K) [] :=
  met_of T.cl_Mouth T.me_Mouth_noted T.fd_Mouth_noted (fun fd F => fo_Mouth_noted T F) (fun fd F => bi_all F fun _ _ _ _ _ _ us hl => match us, hl with | [_, _, _, _, _], _ => rfl)
def sp_Drain_asked (K : PySem.W.Frag) : Sp := fun vs H Q E => ∃ (s dx : Addr) (fs : List (Str × V)) (b : Bool) (F : HL), vs = [.ref s] ∧ (FGet fs "live" (.bl b)) ∧ Own H ((obj s (He.ga K "Drain") dx fs) ++ F) ∧ (∀  (H' : Hp), Own H' ((obj s (He.ga K "Drain") dx fs) ++ F) → (b = true) → Q (.non) H') ∧ (∀ (H' : Hp), Own H' ((obj s (He.ga K "Drain") dx fs) ++ F) → (b = false) → E (.ref (He.ga K "Closed")) none H')
theorem len_Drain_asked {vs H Q E} (h : sp_Drain_asked K vs H Q E) : vs.length = 1 := by
  refine no_implicit_lambda% (@Z.stp _ ?_ (fun key hn => ?_))
  ·
      obtain ⟨s, dx, fs, b, F, rfl, _⟩ := h
      rfl
  simpa only using Z.stc (Z.Stw.mk 5) hn key
theorem ap_Drain_asked {H : Hp} {L F : HL} {Q : VK} {E : XK} {s dx : Addr} {fs : List (Str × V)} {b : Bool} (O : Own H L)  (pk1 : Pk L (obj s (He.ga K "Drain") dx fs) F) (hf : FGet fs "live" (.bl b)) (k : (b = true) → ∀ H', Own H' ((obj s (He.ga K "Drain") dx fs) ++ F) → Q (.non) H') (ke1 : ∀ (H' : Hp), Own H' ((obj s (He.ga K "Drain") dx fs) ++ F) → (b = false) → E (.ref (He.ga K "Closed")) none H') : sp_Drain_asked K [.ref s] H Q E :=
  ⟨s, dx, fs, b, F, rfl, hf, O.sub (.cons pk1 .all), (fun  H' O' q0 => k q0 H' O'), ke1⟩
theorem fo_Drain_asked (T : Txt K mg) {f : Addr} {fd : FuncData} (F : FunD K "asked" "Raw.asked" (defArgs s_Raw_asked) (defBody s_Raw_asked) (defScope s_Raw_asked) [] [] f fd) : FnOk P w K mg base (L2.CX P w) 1 f fd ["self"] (sp_Drain_asked K) := by
  refine no_implicit_lambda% (@Z.stp _ ?_ (fun key hn => ?_))
  ·

      refine fo_x F sc_Raw_asked (fun vs H Q E h => len_Drain_asked h) (fun cdv A outer s H vs Q E hr h kx po => ?_)
      refine ⟨_, (pss_one (ps_if (pt_not (pt_z (pe_fld (pv 0) rfl)))
          (pss_one (ps_rz0 kx T.e0_Closed rfl rfl))
          pss_nil)), ?_⟩
      try dsimp only [cxOf, Cx.tr, Cx.suite, Cx.nox, Cx.wish]
      obtain ⟨s, dx, fs, b, F, rfl, hf, O, k, ke1⟩ := h
      wtm_at "zun"
      refine w_start (σ := [some (.ref s)]) rfl ?_
      cases b
      all_goals
        wtm_at "zgo"
      all_goals try wtm_at "zend"
  simpa only using Z.stc (Z.Stw.mk 5) hn key
theorem ok_Drain_asked_0 (T : Txt K mg) : Met P w K mg base 1 (He.ga K "Drain") "asked" (sp_Drain_asked K) [] :=
  met_of T.cl_Drain T.me_Drain_asked T.fd_Drain_asked (fun fd F => fo_Drain_asked T F) (fun fd F => bi_all F fun _ _ _ _ _ _ us hl => match us, hl with | [_], _ => rfl)
def sp_Drain_noted (K : PySem.W.Frag) : Sp := fun vs H Q _ => ∃ (s dx nl : Addr) (fs : List (Str × V)) (es : List PyData) (wd : Str) (pl : Int) (x y : V) (d1 d2 : PyData) (F : HL), vs = [.ref s, .str wd, .int pl, x, y] ∧ (FGet fs "notes" (.ref nl)) ∧ (es.length ≤ 10000) ∧ (Told F x d1) ∧ (Told F y d2) ∧ Own H ((obj s (He.ga K "Drain") dx fs) ++ (([(nl, .xl es)]) ++ F)) ∧ (∀  (H' : Hp), Own H' ((obj s (He.ga K "Drain") dx fs) ++ (([(nl, .xl (es ++ [.tuple [.str wd, .int pl, d1, d2]]))]) ++ F)) → Q (.non) H')
theorem len_Drain_noted {vs H Q E} (h : sp_Drain_noted K vs H Q E) : vs.length = 5 := by
  refine no_implicit_lambda% (@Z.stp _ ?_ (fun key hn => ?_))
  ·
      obtain ⟨s, dx, nl, fs, es, wd, pl, x, y, d1, d2, F, rfl, _⟩ := h
      rfl
  simpa only using Z.stc (Z.Stw.mk 5) hn key
theorem ap_Drain_noted {H : Hp} {L R1 F : HL} {Q : VK} {E : XK} {s dx nl : Addr} {fs : List (Str × V)} {es : List PyData} {wd : Str} {pl : Int} {x y : V} {d1 d2 : PyData} (O : Own H L)  (pk1 : Pk L (obj s (He.ga K "Drain") dx fs) R1) (hf : FGet fs "notes" (.ref nl)) (pk2 : Pk R1 ([(nl, .xl es)]) F) (hlen : es.length ≤ 10000) (ht1 : Told F x d1) (ht2 : Told F y d2) (k : ∀ H', Own H' ((obj s (He.ga K "Drain") dx fs) ++ (([(nl, .xl (es ++ [.tuple [.str wd, .int pl, d1, d2]]))]) ++ F)) → Q (.non) H') : sp_Drain_noted K [.ref s, .str wd, .int pl, x, y] H Q E :=
  ⟨s, dx, nl, fs, es, wd, pl, x, y, d1, d2, F, rfl, hf, hlen, ht1, ht2, O.sub (.cons pk1 (.cons pk2 .all)), (fun  H' O'  => k  H' O')⟩
theorem fo_Drain_noted (T : Txt K mg) {f : Addr} {fd : FuncData} (F : FunD K "noted" "Raw.noted" (defArgs s_Raw_noted) (defBody s_Raw_noted) (defScope s_Raw_noted) [] [] f fd) : FnOk P w K mg base (L2.CX P w) 2 f fd ["self", "word", "place", "handed", "came"] (sp_Drain_noted K) := by
  refine no_implicit_lambda% (@Z.stp _ ?_ (fun key hn => ?_))
  ·
      have c_told_anew : Cal P w K mg base 1 "told_anew" (sp_told_anew K) [] := (ok_told_anew T).mono (by decide)
      refine fo_x F sc_Raw_noted (fun vs H Q E h => len_Drain_noted h) (fun cdv A outer s H vs Q E hr h kx po => ?_)
      refine ⟨_, (pss_one (ps_expr (pe_bm PySem.F.plainAttrs_list PySem.F.slot_list_append PySem.F.type_list_append mt_append (pe_fld (pv 0) rfl) (pa_cons (pe_tup (pa_cons (pv 1) (pa_cons (pv 2) (pa_cons (pe_cE kx c_told_anew hr (by decide) rfl (pa_cons (pv 3) pa_nil)) (pa_cons (pe_cE kx c_told_anew hr (by decide) rfl (pa_cons (pv 4) pa_nil)) pa_nil))))) pa_nil)))), ?_⟩
      try dsimp only [cxOf, Cx.tr, Cx.suite, Cx.nox, Cx.wish]
      obtain ⟨s, dx, nl, fs, es, wd, pl, x, y, d1, d2, F, rfl, hf, hlen, ht1, ht2, O, k⟩ := h
      wtm_at "zun"
      refine w_start (σ := [some (.ref s), some (.str wd), some (.int pl), some (x), some (y)]) rfl ?_
      wtm_at "zgo"
      wtm_at "zk"
  simpa only using Z.stc (Z.Stw.mk 5) hn key
theorem ok_Drain_noted_4 (T : Txt K mg) : Met P w K mg base 2 (He.ga K "Drain") "noted" (sp_Drain_noted K) [] :=
  met_of T.cl_Drain T.me_Drain_noted T.fd_Drain_noted (fun fd F => fo_Drain_noted T F) (fun fd F => bi_all F fun _ _ _ _ _ _ us hl => match us, hl with | [_, _, _, _, _], _ => rfl)

local macro_rules | `(tactic| wtm_at "zcls") => `(tactic| assumption)
local macro_rules | `(tactic| wtm_at "zno") => `(tactic| assumption)
local macro_rules | `(tactic| wtm_at "zsd") => `(tactic| first | with_reducible wtm_at "zcls" | with_reducible wtm_at "zno")
def sp_Raw___init__ (K : PySem.W.Frag) : Sp := fun vs H Q _ => ∃ (s dx C : Addr) (F : HL), vs = [.ref s] ∧ (Cls K C) ∧ (NoAttr K C "live") ∧ (NoAttr K C "notes") ∧ Own H ((obj s C dx []) ++ F) ∧ (∀ (nl : Addr) (H' : Hp), Own H' ((obj s C dx [("live", .bl true), ("notes", .ref nl)]) ++ (([(nl, .xl [])]) ++ F)) → Q (.non) H')
theorem len_Raw___init__ {vs H Q E} (h : sp_Raw___init__ K vs H Q E) : vs.length = 1 := by
  refine no_implicit_lambda% (@Z.stp _ ?_ (fun key hn => ?_))
  ·
      obtain ⟨s, dx, C, F, rfl, _⟩ := h
      rfl
  simpa only using Z.stc (Z.Stw.mk 5) hn key
theorem ap_Raw___init__ {H : Hp} {L F : HL} {Q : VK} {E : XK} {s dx C : Addr} (O : Own H L)  (pk1 : Pk L (obj s C dx []) F) (hc : Cls K C) (hn1 : NoAttr K C "live") (hn2 : NoAttr K C "notes") (k : ∀ (nl : Addr), ∀ H', Own H' ((obj s C dx [("live", .bl true), ("notes", .ref nl)]) ++ (([(nl, .xl [])]) ++ F)) → Q (.non) H') : sp_Raw___init__ K [.ref s] H Q E :=
  ⟨s, dx, C, F, rfl, hc, hn1, hn2, O.sub (.cons pk1 .all), (fun nl H' O'  => k nl H' O')⟩
local macro_rules | `(tactic| wtm_at "zpkU") => `(tactic| wtm_at "zpx1")
local macro_rules | `(tactic| wtm_at "zpx1") => `(tactic| ((with_reducible apply Pk.xl); (· wtm_at "zpk1"); wtm_at "zfzs"))
theorem fo_Raw___init__ (T : Txt K mg) {f : Addr} {fd : FuncData} (F : FunD K "__init__" "Raw.__init__" (defArgs s_Raw___init__) (defBody s_Raw___init__) (defScope s_Raw___init__) [] [] f fd) : FnOk P w K mg base (L2.CX P w) 1 f fd ["self"] (sp_Raw___init__ K) := by
  refine no_implicit_lambda% (@Z.stp _ ?_ (fun key hn => ?_))
  ·

      refine fo_x F sc_Raw___init__ (fun vs H Q E h => len_Raw___init__ h) (fun cdv A outer s H vs Q E hr h kx po => ?_)
      refine ⟨_, (pss_cons (ps_fld (pv 0) pe_bl rfl)
          (pss_one (ps_fld (pv 0) (pe_lst pa_nil) rfl))), ?_⟩
      try dsimp only [cxOf, Cx.tr, Cx.suite, Cx.nox, Cx.wish]
      obtain ⟨s, dx, C, F, rfl, hc, hn1, hn2, O, k⟩ := h
      wtm_at "zun"
      refine w_start (σ := [some (.ref s)]) rfl ?_
      wtm_at "zgo"
      wtm_at "zk"
  simpa only using Z.stc (Z.Stw.mk 5) hn key
theorem umo_Raw___init___1 (T : Txt K mg) : UCal P w K mg base 1 "Raw" "__init__" (sp_Raw___init__ K) [] :=
  ucal_of T.um_Raw___init__ T.g_Raw T.fd_Raw___init__ (fun fd F => fo_Raw___init__ T F) (fun fd F => bi_all F fun _ _ _ _ _ _ us hl => match us, hl with | [_], _ => rfl)
local macro_rules | `(tactic| wtm_at "zcall") => `(tactic| ((with_reducible apply ap_Raw___init__ O); (· wtm_at "zpk"); (· wtm_at "zsd"); (· wtm_at "zsd"); (· wtm_at "zsd"); intro nl; wtm_at "znx"))
def endB (K : PySem.W.Frag) (c : Str) (m dm nl : Addr) (es : List PyData) (lv : Bool) (p : Addr) (g : Int) : HL := obj m (He.ga K c) dm [("live", .bl lv), ("notes", .ref nl), ("pipe", .ref p), ("gone", .int g)] ++ [(nl, .xl es)]
def pipeB (K : PySem.W.Frag) (p dp i m d : Addr) (room : Int) (ins : List Int) : HL := obj p (He.ga K "Pipe") dp [("room", .int room), ("inside", .ref i), ("high", .ref m), ("low", .ref d)] ++ [(i, .lst (ins.map V.int))]
local macro_rules | `(tactic| wtm_at "zun1") => `(tactic| (simp only [endB, pipeB, hl_assoc] at O))
theorem fold_endB {K : PySem.W.Frag} {L R1 R2 : HL} {c : Str} {m dm nl p : Addr} {es : List PyData} {lv : Bool} {g : Int} (h1 : Pk L (obj m (He.ga K c) dm [("live", .bl lv), ("notes", .ref nl), ("pipe", .ref p), ("gone", .int g)]) R1) (h2 : Pk R1 [(nl, .xl es)] R2) : Pk L (endB K c m dm nl es lv p g) R2 := Pk.app h1 h2
theorem fold_pipeB {K : PySem.W.Frag} {L R1 R2 : HL} {p dp i m d : Addr} {room : Int} {ins : List Int} (h1 : Pk L (obj p (He.ga K "Pipe") dp [("room", .int room), ("inside", .ref i), ("high", .ref m), ("low", .ref d)]) R1) (h2 : Pk R1 [(i, .lst (ins.map V.int))] R2) : Pk L (pipeB K p dp i m d room ins) R2 := Pk.app h1 h2
local macro_rules | `(tactic| wtm_at "zpkU") => `(tactic| (with_reducible first | apply fold_endB | apply fold_pipeB); (· wtm_at "zpk"); wtm_at "zpk")
def sp_Mouth___init__ (K : PySem.W.Frag) : Sp := fun vs H Q _ => ∃ (s dx p : Addr) (F : HL), vs = [.ref s, .ref p] ∧ Own H ((obj s (He.ga K "Mouth") dx []) ++ F) ∧ (∀ (nl : Addr) (H' : Hp), Own H' ((endB K "Mouth" s dx nl [] true p 0) ++ F) → Q (.non) H')
theorem len_Mouth___init__ {vs H Q E} (h : sp_Mouth___init__ K vs H Q E) : vs.length = 2 := by
  refine no_implicit_lambda% (@Z.stp _ ?_ (fun key hn => ?_))
  ·
      obtain ⟨s, dx, p, F, rfl, _⟩ := h
      rfl
  simpa only using Z.stc (Z.Stw.mk 5) hn key
theorem ap_Mouth___init__ {H : Hp} {L F : HL} {Q : VK} {E : XK} {s dx p : Addr} (O : Own H L)  (pk1 : Pk L (obj s (He.ga K "Mouth") dx []) F)  (k : ∀ (nl : Addr), ∀ H', Own H' ((endB K "Mouth" s dx nl [] true p 0) ++ F) → Q (.non) H') : sp_Mouth___init__ K [.ref s, .ref p] H Q E :=
  ⟨s, dx, p, F, rfl, O.sub (.cons pk1 .all), (fun nl H' O'  => k nl H' O')⟩
theorem fo_Mouth___init__ (T : Txt K mg) {f : Addr} {fd : FuncData} (F : FunD K "__init__" "End.__init__" (defArgs s_End___init__) (defBody s_End___init__) (defScope s_End___init__) [] [] f fd) : FnOk P w K mg base (L2.CX P w) 2 f fd ["self", "pipe"] (sp_Mouth___init__ K) := by
  refine no_implicit_lambda% (@Z.stp _ ?_ (fun key hn => ?_))
  ·
      have um_Raw___init___1 : UCal P w K mg base 1 "Raw" "__init__" (sp_Raw___init__ K) [] := (umo_Raw___init___1 T).mono (by decide)
      refine fo_x F sc_End___init__ (fun vs H Q E h => len_Mouth___init__ h) (fun cdv A outer s H vs Q E hr h kx po => ?_)
      refine ⟨_, (pss_cons (ps_expr (pe_umc um_Raw___init___1 hr (by decide) rfl (pa_cons (pv 0) pa_nil)))
          (pss_cons (ps_fld (pv 0) (pv 1) rfl)
          (pss_one (ps_fld (pv 0) pe_int rfl)))), ?_⟩
      try dsimp only [cxOf, Cx.tr, Cx.suite, Cx.nox, Cx.wish]
      obtain ⟨s, dx, p, F, rfl, O, k⟩ := h
      wtm_at "zun"
      refine w_start (σ := [some (.ref s), some (.ref p)]) rfl ?_
      wtm_at "zgo"
      wtm_at "zk"
  simpa only using Z.stc (Z.Stw.mk 5) hn key
theorem mk_Mouth_1 (T : Txt K mg) : Mak P w K mg base 2 "Mouth" (He.ga K "Mouth") (sp_Mouth___init__ K) [] :=
  mak_of T.mk_Mouth T.g_Mouth T.fd_Mouth___init__ (fun fd F => fo_Mouth___init__ T F) (fun fd F => bi_all F fun _ _ _ _ _ _ us hl => match us, hl with | [_, _], _ => rfl)
local macro_rules | `(tactic| wtm_at "zcall") => `(tactic| ((with_reducible apply ap_Mouth___init__ O); (· wtm_at "zpk"); intro nl; wtm_at "znx"))
local macro_rules | `(tactic| wtm_at "zcall") => `(tactic| ((with_reducible apply ap_Mouth_asked O); (· wtm_at "zpk"); (· wtm_at "zsd"); (rotate_left 1; (focus (intro H₁ O₁; clear O; (try clear H); revert H₁; intro H O; intro hc1; wtm_at "zwe")); rotate_right 1); (focus (intro hq1; wtm_at "znx"; try wtm_at "zabs"))))
local macro_rules | `(tactic| wtm_at "zcall") => `(tactic| ((with_reducible apply ap_Mouth_noted O); (· wtm_at "zpk"); (· wtm_at "zsd"); (· wtm_at "zpk"); (· wtm_at "zsd"); (· wtm_at "zsd"); (· wtm_at "zsd"); wtm_at "znx"))
def sp_Drain___init__ (K : PySem.W.Frag) : Sp := fun vs H Q _ => ∃ (s dx p : Addr) (F : HL), vs = [.ref s, .ref p] ∧ Own H ((obj s (He.ga K "Drain") dx []) ++ F) ∧ (∀ (nl : Addr) (H' : Hp), Own H' ((endB K "Drain" s dx nl [] true p 0) ++ F) → Q (.non) H')
theorem len_Drain___init__ {vs H Q E} (h : sp_Drain___init__ K vs H Q E) : vs.length = 2 := by
  refine no_implicit_lambda% (@Z.stp _ ?_ (fun key hn => ?_))
  ·
      obtain ⟨s, dx, p, F, rfl, _⟩ := h
      rfl
  simpa only using Z.stc (Z.Stw.mk 5) hn key
theorem ap_Drain___init__ {H : Hp} {L F : HL} {Q : VK} {E : XK} {s dx p : Addr} (O : Own H L)  (pk1 : Pk L (obj s (He.ga K "Drain") dx []) F)  (k : ∀ (nl : Addr), ∀ H', Own H' ((endB K "Drain" s dx nl [] true p 0) ++ F) → Q (.non) H') : sp_Drain___init__ K [.ref s, .ref p] H Q E :=
  ⟨s, dx, p, F, rfl, O.sub (.cons pk1 .all), (fun nl H' O'  => k nl H' O')⟩
theorem fo_Drain___init__ (T : Txt K mg) {f : Addr} {fd : FuncData} (F : FunD K "__init__" "End.__init__" (defArgs s_End___init__) (defBody s_End___init__) (defScope s_End___init__) [] [] f fd) : FnOk P w K mg base (L2.CX P w) 2 f fd ["self", "pipe"] (sp_Drain___init__ K) := by
  refine no_implicit_lambda% (@Z.stp _ ?_ (fun key hn => ?_))
  ·
      have um_Raw___init___1 : UCal P w K mg base 1 "Raw" "__init__" (sp_Raw___init__ K) [] := (umo_Raw___init___1 T).mono (by decide)
      refine fo_x F sc_End___init__ (fun vs H Q E h => len_Drain___init__ h) (fun cdv A outer s H vs Q E hr h kx po => ?_)
      refine ⟨_, (pss_cons (ps_expr (pe_umc um_Raw___init___1 hr (by decide) rfl (pa_cons (pv 0) pa_nil)))
          (pss_cons (ps_fld (pv 0) (pv 1) rfl)
          (pss_one (ps_fld (pv 0) pe_int rfl)))), ?_⟩
      try dsimp only [cxOf, Cx.tr, Cx.suite, Cx.nox, Cx.wish]
      obtain ⟨s, dx, p, F, rfl, O, k⟩ := h
      wtm_at "zun"
      refine w_start (σ := [some (.ref s), some (.ref p)]) rfl ?_
      wtm_at "zgo"
      wtm_at "zk"
  simpa only using Z.stc (Z.Stw.mk 5) hn key
theorem mk_Drain_1 (T : Txt K mg) : Mak P w K mg base 2 "Drain" (He.ga K "Drain") (sp_Drain___init__ K) [] :=
  mak_of T.mk_Drain T.g_Drain T.fd_Drain___init__ (fun fd F => fo_Drain___init__ T F) (fun fd F => bi_all F fun _ _ _ _ _ _ us hl => match us, hl with | [_, _], _ => rfl)
local macro_rules | `(tactic| wtm_at "zcall") => `(tactic| ((with_reducible apply ap_Drain___init__ O); (· wtm_at "zpk"); intro nl; wtm_at "znx"))
local macro_rules | `(tactic| wtm_at "zcall") => `(tactic| ((with_reducible apply ap_Drain_asked O); (· wtm_at "zpk"); (· wtm_at "zsd"); (rotate_left 1; (focus (intro H₁ O₁; clear O; (try clear H); revert H₁; intro H O; intro hc1; wtm_at "zwe")); rotate_right 1); (focus (intro hq1; wtm_at "znx"; try wtm_at "zabs"))))
local macro_rules | `(tactic| wtm_at "zcall") => `(tactic| ((with_reducible apply ap_Drain_noted O); (· wtm_at "zpk"); (· wtm_at "zsd"); (· wtm_at "zpk"); (· wtm_at "zsd"); (· wtm_at "zsd"); (· wtm_at "zsd"); wtm_at "znx"))
def sp_Pipe___init__ (K : PySem.W.Frag) : Sp := fun vs H Q E => ∃ (s dx : Addr) (room : Int) (F : HL), vs = [.ref s, .int room] ∧ Own H ((obj s (He.ga K "Pipe") dx []) ++ F) ∧ (∀ (i m dm n1 d dd n2 : Addr) (H' : Hp), Own H' ((pipeB K s dx i m d room []) ++ ((endB K "Mouth" m dm n1 [] true s 0) ++ ((endB K "Drain" d dd n2 [] true s 0) ++ F))) → (1 ≤ room ∧ room ≤ 64) → Q (.non) H') ∧ (∀ (H' : Hp), Own H' ((obj s (He.ga K "Pipe") dx []) ++ F) → (room < 1 ∨ 64 < room) → E (.ref (He.ga K "BadRoom")) none H')
theorem len_Pipe___init__ {vs H Q E} (h : sp_Pipe___init__ K vs H Q E) : vs.length = 2 := by
  refine no_implicit_lambda% (@Z.stp _ ?_ (fun key hn => ?_))
  ·
      obtain ⟨s, dx, room, F, rfl, _⟩ := h
      rfl
  simpa only using Z.stc (Z.Stw.mk 5) hn key
theorem ap_Pipe___init__ {H : Hp} {L F : HL} {Q : VK} {E : XK} {s dx : Addr} {room : Int} (O : Own H L)  (pk1 : Pk L (obj s (He.ga K "Pipe") dx []) F)  (k : ∀ (i m dm n1 d dd n2 : Addr), (1 ≤ room ∧ room ≤ 64) → ∀ H', Own H' ((pipeB K s dx i m d room []) ++ ((endB K "Mouth" m dm n1 [] true s 0) ++ ((endB K "Drain" d dd n2 [] true s 0) ++ F))) → Q (.non) H') (ke1 : ∀ (H' : Hp), Own H' ((obj s (He.ga K "Pipe") dx []) ++ F) → (room < 1 ∨ 64 < room) → E (.ref (He.ga K "BadRoom")) none H') : sp_Pipe___init__ K [.ref s, .int room] H Q E :=
  ⟨s, dx, room, F, rfl, O.sub (.cons pk1 .all), (fun i m dm n1 d dd n2 H' O' q0 => k i m dm n1 d dd n2 q0 H' O'), ke1⟩
theorem fo_Pipe___init__ (T : Txt K mg) {f : Addr} {fd : FuncData} (F : FunD K "__init__" "Pipe.__init__" (defArgs s_Pipe___init__) (defBody s_Pipe___init__) (defScope s_Pipe___init__) [] [("room", .int 8)] f fd) : FnOk P w K mg base (L2.CX P w) 4 f fd ["self", "room"] (sp_Pipe___init__ K) := by
  refine no_implicit_lambda% (@Z.stp _ ?_ (fun key hn => ?_))
  ·
      have k_Mouth_1 : Mak P w K mg base 2 "Mouth" (He.ga K "Mouth") (sp_Mouth___init__ K) [] := (mk_Mouth_1 T).mono (by decide)
      have k_Drain_1 : Mak P w K mg base 2 "Drain" (He.ga K "Drain") (sp_Drain___init__ K) [] := (mk_Drain_1 T).mono (by decide)
      refine fo_x F sc_Pipe___init__ (fun vs H Q E h => len_Pipe___init__ h) (fun cdv A outer s H vs Q E hr h kx po => ?_)
      refine ⟨_, (pss_cons (ps_if (PW.pt (pw_or (pt_cmpR op_zLt (pv 1) pe_int (nomark _)) (pw_or1 (pt_cmpR op_zGt (pv 1) (pe_gi rfl T.c_MOST_ROOM) (nomark _)))))
          (pss_one (ps_rz0 kx T.e0_BadRoom rfl rfl))
          pss_nil)
          (pss_cons (ps_fld (pv 0) (pv 1) rfl)
          (pss_cons (ps_fld (pv 0) (pe_lst pa_nil) rfl)
          (pss_cons (ps_fld (pv 0) (pe_kE kx k_Mouth_1 hr (by decide) rfl (pa_cons (pv 0) pa_nil)) rfl)
          (pss_one (ps_fld (pv 0) (pe_kE kx k_Drain_1 hr (by decide) rfl (pa_cons (pv 0) pa_nil)) rfl)))))), ?_⟩
      try dsimp only [cxOf, Cx.tr, Cx.suite, Cx.nox, Cx.wish]
      obtain ⟨s, dx, room, F, rfl, O, k, ke1⟩ := h
      wtm_at "zun"
      refine w_start (σ := [some (.ref s), some (.int room)]) rfl ?_
      wtm_at "zgo"
      all_goals try wtm_at "zend"
  simpa only using Z.stc (Z.Stw.mk 5) hn key
theorem mk_Pipe_0 (T : Txt K mg) : Mak P w K mg base 4 "Pipe" (He.ga K "Pipe") (sp_Pipe___init__ K) [.int 8] :=
  mak_of T.mk_Pipe T.g_Pipe T.fd_Pipe___init__ (fun fd F => fo_Pipe___init__ T F) (fun fd F => F.binds0 1 (by simp) rfl fun _ _ _ _ _ _ us ks h1 h2 => match us, ks, h1, h2 with | [_], [_], _, _ => ⟨_, _, _, _, _, _, rfl, rfl, rfl⟩)
theorem mkk_Pipe_0_room (T : Txt K mg) : KMak P w K mg base 4 "Pipe" (He.ga K "Pipe") (sp_Pipe___init__ K) 0 ["room"] [.at 0, .at 1] :=
  kmak_of T.mk_Pipe T.g_Pipe T.fd_Pipe___init__ (fun fd F => fo_Pipe___init__ T F) (fun fd F => kba0 F 1 ["room"] [.at 0, .at 1] rfl (fun _ _ _ _ _ _ us ws h1 h2 => match us, ws, h1, h2 with | [_], [_], _, _ => rfl))
def sp_Pipe_into (K : PySem.W.Frag) : Sp := fun vs H Q _ => ∃ (p dp i m d : Addr) (room : Int) (ins : List Int) (F : HL), vs = [.ref p] ∧ Own H ((pipeB K p dp i m d room ins) ++ F) ∧ (∀  (H' : Hp), Own H' ((pipeB K p dp i m d room ins) ++ F) → Q (.ref m) H')
theorem len_Pipe_into {vs H Q E} (h : sp_Pipe_into K vs H Q E) : vs.length = 1 := by
  refine no_implicit_lambda% (@Z.stp _ ?_ (fun key hn => ?_))
  ·
      obtain ⟨p, dp, i, m, d, room, ins, F, rfl, _⟩ := h
      rfl
  simpa only using Z.stc (Z.Stw.mk 5) hn key
theorem ap_Pipe_into {H : Hp} {L F : HL} {Q : VK} {E : XK} {p dp i m d : Addr} {room : Int} {ins : List Int} (O : Own H L)  (pk1 : Pk L (pipeB K p dp i m d room ins) F)  (k : ∀ H', Own H' ((pipeB K p dp i m d room ins) ++ F) → Q (.ref m) H') : sp_Pipe_into K [.ref p] H Q E :=
  ⟨p, dp, i, m, d, room, ins, F, rfl, O.sub (.cons pk1 .all), (fun  H' O'  => k  H' O')⟩
theorem fo_Pipe_into (T : Txt K mg) {f : Addr} {fd : FuncData} (F : FunD K "into" "Pipe.into" (defArgs s_Pipe_into) (defBody s_Pipe_into) (defScope s_Pipe_into) [] [] f fd) : FnOk P w K mg base (L2.CX P w) 1 f fd ["self"] (sp_Pipe_into K) := by
  refine no_implicit_lambda% (@Z.stp _ ?_ (fun key hn => ?_))
  ·

      refine fo_x F sc_Pipe_into (fun vs H Q E h => len_Pipe_into h) (fun cdv A outer s H vs Q E hr h kx po => ?_)
      refine ⟨_, (pss_one (ps_ret (pe_fld (pv 0) rfl))), ?_⟩
      try dsimp only [cxOf, Cx.tr, Cx.suite, Cx.nox, Cx.wish]
      obtain ⟨p, dp, i, m, d, room, ins, F, rfl, O, k⟩ := h
      wtm_at "zun"
      refine w_start (σ := [some (.ref p)]) rfl ?_
      wtm_at "zgo"
      wtm_at "zk"
  simpa only using Z.stc (Z.Stw.mk 5) hn key
theorem ok_Pipe_into_0 (T : Txt K mg) : Met P w K mg base 1 (He.ga K "Pipe") "into" (sp_Pipe_into K) [] :=
  met_of T.cl_Pipe T.me_Pipe_into T.fd_Pipe_into (fun fd F => fo_Pipe_into T F) (fun fd F => bi_all F fun _ _ _ _ _ _ us hl => match us, hl with | [_], _ => rfl)
def sp_Pipe_out (K : PySem.W.Frag) : Sp := fun vs H Q _ => ∃ (p dp i m d : Addr) (room : Int) (ins : List Int) (F : HL), vs = [.ref p] ∧ Own H ((pipeB K p dp i m d room ins) ++ F) ∧ (∀  (H' : Hp), Own H' ((pipeB K p dp i m d room ins) ++ F) → Q (.ref d) H')
theorem len_Pipe_out {vs H Q E} (h : sp_Pipe_out K vs H Q E) : vs.length = 1 := by
  refine no_implicit_lambda% (@Z.stp _ ?_ (fun key hn => ?_))
  ·
      obtain ⟨p, dp, i, m, d, room, ins, F, rfl, _⟩ := h
      rfl
  simpa only using Z.stc (Z.Stw.mk 5) hn key
theorem ap_Pipe_out {H : Hp} {L F : HL} {Q : VK} {E : XK} {p dp i m d : Addr} {room : Int} {ins : List Int} (O : Own H L)  (pk1 : Pk L (pipeB K p dp i m d room ins) F)  (k : ∀ H', Own H' ((pipeB K p dp i m d room ins) ++ F) → Q (.ref d) H') : sp_Pipe_out K [.ref p] H Q E :=
  ⟨p, dp, i, m, d, room, ins, F, rfl, O.sub (.cons pk1 .all), (fun  H' O'  => k  H' O')⟩
theorem fo_Pipe_out (T : Txt K mg) {f : Addr} {fd : FuncData} (F : FunD K "out" "Pipe.out" (defArgs s_Pipe_out) (defBody s_Pipe_out) (defScope s_Pipe_out) [] [] f fd) : FnOk P w K mg base (L2.CX P w) 1 f fd ["self"] (sp_Pipe_out K) := by
  refine no_implicit_lambda% (@Z.stp _ ?_ (fun key hn => ?_))
  ·

      refine fo_x F sc_Pipe_out (fun vs H Q E h => len_Pipe_out h) (fun cdv A outer s H vs Q E hr h kx po => ?_)
      refine ⟨_, (pss_one (ps_ret (pe_fld (pv 0) rfl))), ?_⟩
      try dsimp only [cxOf, Cx.tr, Cx.suite, Cx.nox, Cx.wish]
      obtain ⟨p, dp, i, m, d, room, ins, F, rfl, O, k⟩ := h
      wtm_at "zun"
      refine w_start (σ := [some (.ref p)]) rfl ?_
      wtm_at "zgo"
      wtm_at "zk"
  simpa only using Z.stc (Z.Stw.mk 5) hn key
theorem ok_Pipe_out_0 (T : Txt K mg) : Met P w K mg base 1 (He.ga K "Pipe") "out" (sp_Pipe_out K) [] :=
  met_of T.cl_Pipe T.me_Pipe_out T.fd_Pipe_out (fun fd F => fo_Pipe_out T F) (fun fd F => bi_all F fun _ _ _ _ _ _ us hl => match us, hl with | [_], _ => rfl)
def sp_Pipe_held (K : PySem.W.Frag) : Sp := fun vs H Q _ => ∃ (p dp i m d dd nl : Addr) (room : Int) (ins : List Int) (es : List PyData) (lv : Bool) (p' : Addr) (g : Int) (F : HL), vs = [.ref p] ∧ Own H ((pipeB K p dp i m d room ins) ++ ((endB K "Drain" d dd nl es lv p' g) ++ F)) ∧ (∀ (q : Addr) (H' : Hp), Own H' (([(q, .lst ((if lv = true then ins else []).map V.int))]) ++ ((pipeB K p dp i m d room ins) ++ ((endB K "Drain" d dd nl es lv p' g) ++ F))) → Q (.ref q) H')
theorem len_Pipe_held {vs H Q E} (h : sp_Pipe_held K vs H Q E) : vs.length = 1 := by
  refine no_implicit_lambda% (@Z.stp _ ?_ (fun key hn => ?_))
  ·
      obtain ⟨p, dp, i, m, d, dd, nl, room, ins, es, lv, p', g, F, rfl, _⟩ := h
      rfl
  simpa only using Z.stc (Z.Stw.mk 5) hn key
theorem ap_Pipe_held {H : Hp} {L R1 F : HL} {Q : VK} {E : XK} {p dp i m d dd nl : Addr} {room : Int} {ins : List Int} {es : List PyData} {lv : Bool} {p' : Addr} {g : Int} (O : Own H L)  (pk1 : Pk L (pipeB K p dp i m d room ins) R1) (pk2 : Pk R1 (endB K "Drain" d dd nl es lv p' g) F)  (k : ∀ (q : Addr), ∀ H', Own H' (([(q, .lst ((if lv = true then ins else []).map V.int))]) ++ ((pipeB K p dp i m d room ins) ++ ((endB K "Drain" d dd nl es lv p' g) ++ F))) → Q (.ref q) H') : sp_Pipe_held K [.ref p] H Q E :=
  ⟨p, dp, i, m, d, dd, nl, room, ins, es, lv, p', g, F, rfl, O.sub (.cons pk1 (.cons pk2 .all)), (fun q H' O'  => k q H' O')⟩
theorem fo_Pipe_held (T : Txt K mg) {f : Addr} {fd : FuncData} (F : FunD K "held" "Pipe.held" (defArgs s_Pipe_held) (defBody s_Pipe_held) (defScope s_Pipe_held) [] [] f fd) : FnOk P w K mg base (L2.CX P w) 1 f fd ["self"] (sp_Pipe_held K) := by
  refine no_implicit_lambda% (@Z.stp _ ?_ (fun key hn => ?_))
  ·

      refine fo_x F sc_Pipe_held (fun vs H Q E h => len_Pipe_held h) (fun cdv A outer s H vs Q E hr h kx po => ?_)
      refine ⟨_, (pss_cons (ps_if (pt_not (pt_z (pe_fld (pe_fld (pv 0) rfl) rfl)))
          (pss_one (ps_ret (pe_lst pa_nil)))
          pss_nil)
          (pss_one (ps_ret (pe_callTy call_zList rfl T.f_list bt_list (pa_cons (pe_fld (pv 0) rfl) pa_nil))))), ?_⟩
      try dsimp only [cxOf, Cx.tr, Cx.suite, Cx.nox, Cx.wish]
      obtain ⟨p, dp, i, m, d, dd, nl, room, ins, es, lv, p', g, F, rfl, O, k⟩ := h
      wtm_at "zun"
      refine w_start (σ := [some (.ref p)]) rfl ?_
      cases lv
      all_goals
        simp only [if_true, if_false, Bool.false_eq_true] at k
        wtm_at "zgo"
        wtm_at "zk"
  simpa only using Z.stc (Z.Stw.mk 5) hn key
theorem ok_Pipe_held_0 (T : Txt K mg) : Met P w K mg base 1 (He.ga K "Pipe") "held" (sp_Pipe_held K) [] :=
  met_of T.cl_Pipe T.me_Pipe_held T.fd_Pipe_held (fun fd F => fo_Pipe_held T F) (fun fd F => bi_all F fun _ _ _ _ _ _ us hl => match us, hl with | [_], _ => rfl)
local macro_rules | `(tactic| wtm_at "zcall") => `(tactic| ((with_reducible apply ap_Pipe___init__ O); (· wtm_at "zpk"); (rotate_left 1; (focus (intro H₁ O₁; clear O; (try clear H); revert H₁; intro H O; intro hc1; wtm_at "zwe")); rotate_right 1); (focus (intro i m dm n1 d dd n2 hq1; wtm_at "znx"; try wtm_at "zabs"))))
local macro_rules | `(tactic| wtm_at "zcall") => `(tactic| ((with_reducible apply ap_Pipe_into O); (· wtm_at "zpk"); wtm_at "znx"))
local macro_rules | `(tactic| wtm_at "zcall") => `(tactic| ((with_reducible apply ap_Pipe_out O); (· wtm_at "zpk"); wtm_at "znx"))
local macro_rules | `(tactic| wtm_at "zcall") => `(tactic| ((with_reducible apply ap_Pipe_held O); (· wtm_at "zpk"); (· wtm_at "zpk"); intro q; wtm_at "znx"; (try simp only [if_true] at O)))
def sp_Mouth_put (K : PySem.W.Frag) : Sp := fun vs H Q E => ∃ (m dm n1 p dp i d dd n2 a : Addr) (es es2 : List PyData) (g g2 room : Int) (ins ns : List Int) (b1 b2 : Bool) (F : HL), vs = [.ref m, .ref a] ∧ (es.length ≤ 9999) ∧ (room ≤ 64) ∧ ((ins.length : Int) ≤ room) ∧ (LsI F a ns) ∧ Own H ((endB K "Mouth" m dm n1 es b1 p g) ++ ((pipeB K p dp i m d room ins) ++ ((endB K "Drain" d dd n2 es2 b2 p g2) ++ F))) ∧ (∀  (H' : Hp), Own H' ((endB K "Mouth" m dm n1 (es ++ [.tuple [.str "put", .int g, .list (ns.map PyData.int), .str "stall"]]) b1 p g) ++ ((pipeB K p dp i m d room ins) ++ ((endB K "Drain" d dd n2 es2 b2 p g2) ++ F))) → (b1 = true) → (b2 = true) → ((ns.take (room - ins.length).toNat).length = 0) → Q (.non) H') ∧ (∀ (i' : Addr) (H' : Hp), Own H' ((endB K "Mouth" m dm n1 (es ++ [.tuple [.str "put", .int g, .list (ns.map PyData.int), .int (ns.take (room - ins.length).toNat).length]]) b1 p (g + (ns.take (room - ins.length).toNat).length)) ++ ((pipeB K p dp i' m d room (ins ++ (ns.take (room - ins.length).toNat))) ++ ((endB K "Drain" d dd n2 es2 b2 p g2) ++ F))) → (b1 = true) → (b2 = true) → ((ns.take (room - ins.length).toNat).length ≠ 0) → Q (.int (ns.take (room - ins.length).toNat).length) H') ∧ (∀ (H' : Hp), Own H' ((endB K "Mouth" m dm n1 es b1 p g) ++ ((pipeB K p dp i m d room ins) ++ ((endB K "Drain" d dd n2 es2 b2 p g2) ++ F))) → (b1 = false) → E (.ref (He.ga K "Closed")) none H') ∧ (∀ (xd0 : Addr) (H' : Hp), Own H' (([(xd0, .xd [("taken", .int 0), ("number", .int 99)])]) ++ ((endB K "Mouth" m dm n1 (es ++ [.tuple [.str "put", .int g, .list (ns.map PyData.int), .str "fault"]]) b1 p g) ++ ((pipeB K p dp i m d room ins) ++ ((endB K "Drain" d dd n2 es2 b2 p g2) ++ F)))) → (b1 = true) → (b2 = false) → E (.ref (He.ga K "Fault")) (some xd0) H')
theorem len_Mouth_put {vs H Q E} (h : sp_Mouth_put K vs H Q E) : vs.length = 2 := by
  refine no_implicit_lambda% (@Z.stp _ ?_ (fun key hn => ?_))
  ·
      obtain ⟨m, dm, n1, p, dp, i, d, dd, n2, a, es, es2, g, g2, room, ins, ns, b1, b2, F, rfl, _⟩ := h
      rfl
  simpa only using Z.stc (Z.Stw.mk 5) hn key
theorem ap_Mouth_put {H : Hp} {L R1 R2 F : HL} {Q : VK} {E : XK} {m dm n1 p dp i d dd n2 a : Addr} {es es2 : List PyData} {g g2 room : Int} {ins ns : List Int} {b1 b2 : Bool} (O : Own H L)  (pk1 : Pk L (endB K "Mouth" m dm n1 es b1 p g) R1) (pk2 : Pk R1 (pipeB K p dp i m d room ins) R2) (pk3 : Pk R2 (endB K "Drain" d dd n2 es2 b2 p g2) F) (hlen : es.length ≤ 9999) (hroom : room ≤ 64) (hins : (ins.length : Int) ≤ room) (hL : LsI F a ns) (k : (b1 = true) → (b2 = true) → ((ns.take (room - ins.length).toNat).length = 0) → ∀ H', Own H' ((endB K "Mouth" m dm n1 (es ++ [.tuple [.str "put", .int g, .list (ns.map PyData.int), .str "stall"]]) b1 p g) ++ ((pipeB K p dp i m d room ins) ++ ((endB K "Drain" d dd n2 es2 b2 p g2) ++ F))) → Q (.non) H') (k2 : ∀ (i' : Addr), (b1 = true) → (b2 = true) → ((ns.take (room - ins.length).toNat).length ≠ 0) → ∀ H', Own H' ((endB K "Mouth" m dm n1 (es ++ [.tuple [.str "put", .int g, .list (ns.map PyData.int), .int (ns.take (room - ins.length).toNat).length]]) b1 p (g + (ns.take (room - ins.length).toNat).length)) ++ ((pipeB K p dp i' m d room (ins ++ (ns.take (room - ins.length).toNat))) ++ ((endB K "Drain" d dd n2 es2 b2 p g2) ++ F))) → Q (.int (ns.take (room - ins.length).toNat).length) H') (ke1 : ∀ (H' : Hp), Own H' ((endB K "Mouth" m dm n1 es b1 p g) ++ ((pipeB K p dp i m d room ins) ++ ((endB K "Drain" d dd n2 es2 b2 p g2) ++ F))) → (b1 = false) → E (.ref (He.ga K "Closed")) none H') (ke2 : ∀ (xd0 : Addr) (H' : Hp), Own H' (([(xd0, .xd [("taken", .int 0), ("number", .int 99)])]) ++ ((endB K "Mouth" m dm n1 (es ++ [.tuple [.str "put", .int g, .list (ns.map PyData.int), .str "fault"]]) b1 p g) ++ ((pipeB K p dp i m d room ins) ++ ((endB K "Drain" d dd n2 es2 b2 p g2) ++ F)))) → (b1 = true) → (b2 = false) → E (.ref (He.ga K "Fault")) (some xd0) H') : sp_Mouth_put K [.ref m, .ref a] H Q E :=
  ⟨m, dm, n1, p, dp, i, d, dd, n2, a, es, es2, g, g2, room, ins, ns, b1, b2, F, rfl, hlen, hroom, hins, hL, O.sub (.cons pk1 (.cons pk2 (.cons pk3 .all))), (fun  H' O' q0 q1 q2 => k q0 q1 q2 H' O'), (fun i' H' O' q0 q1 q2 => k2 i' q0 q1 q2 H' O'), ke1, ke2⟩
theorem fo_Mouth_put (T : Txt K mg) {f : Addr} {fd : FuncData} (F : FunD K "put" "Mouth.put" (defArgs s_Mouth_put) (defBody s_Mouth_put) (defScope s_Mouth_put) [] [] f fd) : FnOk P w K mg base (L2.CX P w) 3 f fd ["self", "data"] (sp_Mouth_put K) := by
  refine no_implicit_lambda% (@Z.stp _ ?_ (fun key hn => ?_))
  ·
      have m_Mouth_asked_0 : Met P w K mg base 2 (He.ga K "Mouth") "asked" (sp_Mouth_asked K) [] := (ok_Mouth_asked_0 T).mono (by decide)
      have m_Mouth_noted_4 : Met P w K mg base 2 (He.ga K "Mouth") "noted" (sp_Mouth_noted K) [] := (ok_Mouth_noted_4 T).mono (by decide)
      have e1_Fault : Ex1 P w K mg base 1 "Fault" ["number", "taken"] [.int 0] := (ee_Fault T).mono (by decide)
      refine fo_x F sc_Mouth_put (fun vs H Q E h => len_Mouth_put h) (fun cdv A outer s H vs Q E hr h kx po => ?_)
      refine ⟨_, (pss_cons (ps_expr (pe_mE0 kx m_Mouth_asked_0 hr (by decide) (pv 0)))
          (pss_cons (ps_if (pt_not (pt_z (pe_fld (pe_fld (pe_fld (pv 0) rfl) rfl) rfl)))
          (pss_cons (ps_expr (pe_mE kx m_Mouth_noted_4 hr (by decide) (pv 0) (pa_cons pe_str (pa_cons (pe_fld (pv 0) rfl) (pa_cons (pv 1) (pa_cons pe_str pa_nil))))))
          (pss_one (ps_rz kx e1_Fault hr (by decide) rfl rfl (pa_cons (pe_gi rfl T.c_BROKEN) pa_nil))))
          pss_nil)
          (pss_cons (ps_set (i := 2) sc_Mouth_put.nd rfl (Or.inl rfl) (pe_slice sl_z (pv 1) po_none (po_some (pe_op op_zSub (pe_fld (pe_fld (pv 0) rfl) rfl) (pe_callB call_zLen rfl T.f_len bt_len (pa_cons (pe_fld (pe_fld (pv 0) rfl) rfl) pa_nil))))))
          (pss_cons (ps_if (pt_cmpR (op_zEq (uI hr)) (pe_callB call_zLen rfl T.f_len bt_len (pa_cons (pv 2) pa_nil)) pe_int (nomark _))
          (pss_cons (ps_expr (pe_mE kx m_Mouth_noted_4 hr (by decide) (pv 0) (pa_cons pe_str (pa_cons (pe_fld (pv 0) rfl) (pa_cons (pv 1) (pa_cons pe_str pa_nil))))))
          (pss_one (ps_ret pe_non)))
          pss_nil)
          (pss_cons (ps_expr (pe_mE kx m_Mouth_noted_4 hr (by decide) (pv 0) (pa_cons pe_str (pa_cons (pe_fld (pv 0) rfl) (pa_cons (pv 1) (pa_cons (pe_callB call_zLen rfl T.f_len bt_len (pa_cons (pv 2) pa_nil)) pa_nil))))))
          (pss_cons (ps_fld (pe_fld (pv 0) rfl) (pe_op op_zAdd (pe_fld (pe_fld (pv 0) rfl) rfl) (pe_callTy call_zList rfl T.f_list bt_list (pa_cons (pv 2) pa_nil))) rfl)
          (pss_cons (ps_fldaug (pv 0) (pe_callB call_zLen rfl T.f_len bt_len (pa_cons (pv 2) pa_nil)) in_add)
          (pss_one (ps_ret (pe_callB call_zLen rfl T.f_len bt_len (pa_cons (pv 2) pa_nil))))))))))), ?_⟩
      try dsimp only [cxOf, Cx.tr, Cx.suite, Cx.nox, Cx.wish]
      obtain ⟨m, dm, n1, p, dp, i, d, dd, n2, a, es, es2, g, g2, room, ins, ns, b1, b2, F, rfl, hlen, hroom, hins, hL, O, k, k2, ke1, ke2⟩ := h
      wtm_at "zun"
      refine w_start (σ := [some (.ref m), some (.ref a), none]) rfl ?_
      cases b1
      all_goals cases b2
      all_goals
        wtm_at "zgo"
      all_goals try wtm_at "zend"
  simpa only using Z.stc (Z.Stw.mk 5) hn key
theorem ok_Mouth_put_1 (T : Txt K mg) : Met P w K mg base 3 (He.ga K "Mouth") "put" (sp_Mouth_put K) [] :=
  met_of T.cl_Mouth T.me_Mouth_put T.fd_Mouth_put (fun fd F => fo_Mouth_put T F) (fun fd F => bi_all F fun _ _ _ _ _ _ us hl => match us, hl with | [_, _], _ => rfl)
def sp_Drain_take (K : PySem.W.Frag) : Sp := fun vs H Q E => ∃ (m dm n1 p dp i d dd n2 : Addr) (es es2 : List PyData) (g g2 room : Int) (ins : List Int) (b1 b2 : Bool) (mv : Int) (F : HL), vs = [.ref d, .int mv] ∧ (es2.length ≤ 9999) ∧ (1 ≤ mv) ∧ Own H ((endB K "Drain" d dd n2 es2 b2 p g2) ++ ((pipeB K p dp i m d room ins) ++ ((endB K "Mouth" m dm n1 es b1 p g) ++ F))) ∧ (∀  (H' : Hp), Own H' ((endB K "Drain" d dd n2 (es2 ++ [.tuple [.str "take", .int g2, .int mv, .str "stall"]]) b2 p g2) ++ ((pipeB K p dp i m d room ins) ++ ((endB K "Mouth" m dm n1 es b1 p g) ++ F))) → (b2 = true) → (b1 = true) → ((ins.take mv.toNat).length = 0) → Q (.non) H') ∧ (∀ (q i' : Addr) (H' : Hp), Own H' (([(q, .lst ((ins.take mv.toNat).map V.int))]) ++ ((endB K "Drain" d dd n2 (es2 ++ [.tuple [.str "take", .int g2, .int mv, .list ((ins.take mv.toNat).map PyData.int)]]) b2 p (g2 + (ins.take mv.toNat).length)) ++ ((pipeB K p dp i' m d room (ins.drop ((ins.take mv.toNat).length : Int).toNat)) ++ ((endB K "Mouth" m dm n1 es b1 p g) ++ F)))) → (b2 = true) → (b1 = false ∨ (ins.take mv.toNat).length ≠ 0) → Q (.ref q) H') ∧ (∀ (H' : Hp), Own H' ((endB K "Drain" d dd n2 es2 b2 p g2) ++ ((pipeB K p dp i m d room ins) ++ ((endB K "Mouth" m dm n1 es b1 p g) ++ F))) → (b2 = false) → E (.ref (He.ga K "Closed")) none H')
theorem len_Drain_take {vs H Q E} (h : sp_Drain_take K vs H Q E) : vs.length = 2 := by
  refine no_implicit_lambda% (@Z.stp _ ?_ (fun key hn => ?_))
  ·
      obtain ⟨m, dm, n1, p, dp, i, d, dd, n2, es, es2, g, g2, room, ins, b1, b2, mv, F, rfl, _⟩ := h
      rfl
  simpa only using Z.stc (Z.Stw.mk 5) hn key
theorem ap_Drain_take {H : Hp} {L R1 R2 F : HL} {Q : VK} {E : XK} {m dm n1 p dp i d dd n2 : Addr} {es es2 : List PyData} {g g2 room : Int} {ins : List Int} {b1 b2 : Bool} {mv : Int} (O : Own H L)  (pk1 : Pk L (endB K "Drain" d dd n2 es2 b2 p g2) R1) (pk2 : Pk R1 (pipeB K p dp i m d room ins) R2) (pk3 : Pk R2 (endB K "Mouth" m dm n1 es b1 p g) F) (hlen : es2.length ≤ 9999) (hm : 1 ≤ mv) (k : (b2 = true) → (b1 = true) → ((ins.take mv.toNat).length = 0) → ∀ H', Own H' ((endB K "Drain" d dd n2 (es2 ++ [.tuple [.str "take", .int g2, .int mv, .str "stall"]]) b2 p g2) ++ ((pipeB K p dp i m d room ins) ++ ((endB K "Mouth" m dm n1 es b1 p g) ++ F))) → Q (.non) H') (k2 : ∀ (q i' : Addr), (b2 = true) → (b1 = false ∨ (ins.take mv.toNat).length ≠ 0) → ∀ H', Own H' (([(q, .lst ((ins.take mv.toNat).map V.int))]) ++ ((endB K "Drain" d dd n2 (es2 ++ [.tuple [.str "take", .int g2, .int mv, .list ((ins.take mv.toNat).map PyData.int)]]) b2 p (g2 + (ins.take mv.toNat).length)) ++ ((pipeB K p dp i' m d room (ins.drop ((ins.take mv.toNat).length : Int).toNat)) ++ ((endB K "Mouth" m dm n1 es b1 p g) ++ F)))) → Q (.ref q) H') (ke1 : ∀ (H' : Hp), Own H' ((endB K "Drain" d dd n2 es2 b2 p g2) ++ ((pipeB K p dp i m d room ins) ++ ((endB K "Mouth" m dm n1 es b1 p g) ++ F))) → (b2 = false) → E (.ref (He.ga K "Closed")) none H') : sp_Drain_take K [.ref d, .int mv] H Q E :=
  ⟨m, dm, n1, p, dp, i, d, dd, n2, es, es2, g, g2, room, ins, b1, b2, mv, F, rfl, hlen, hm, O.sub (.cons pk1 (.cons pk2 (.cons pk3 .all))), (fun  H' O' q0 q1 q2 => k q0 q1 q2 H' O'), (fun q i' H' O' q0 q1 => k2 q i' q0 q1 H' O'), ke1⟩
theorem fo_Drain_take (T : Txt K mg) {f : Addr} {fd : FuncData} (F : FunD K "take" "Drain.take" (defArgs s_Drain_take) (defBody s_Drain_take) (defScope s_Drain_take) [] [] f fd) : FnOk P w K mg base (L2.CX P w) 3 f fd ["self", "many"] (sp_Drain_take K) := by
  refine no_implicit_lambda% (@Z.stp _ ?_ (fun key hn => ?_))
  ·
      have m_Drain_asked_0 : Met P w K mg base 2 (He.ga K "Drain") "asked" (sp_Drain_asked K) [] := (ok_Drain_asked_0 T).mono (by decide)
      have m_Drain_noted_4 : Met P w K mg base 2 (He.ga K "Drain") "noted" (sp_Drain_noted K) [] := (ok_Drain_noted_4 T).mono (by decide)
      refine fo_x F sc_Drain_take (fun vs H Q E h => len_Drain_take h) (fun cdv A outer s H vs Q E hr h kx po => ?_)
      refine ⟨_, (pss_cons (ps_expr (pe_mE0 kx m_Drain_asked_0 hr (by decide) (pv 0)))
          (pss_cons (ps_set (i := 2) sc_Drain_take.nd rfl (Or.inl rfl) (pe_slice sl_z (pe_fld (pe_fld (pv 0) rfl) rfl) po_none (po_some (pv 1))))
          (pss_cons (ps_if (PW.pt (pw_and (pt_cmpR (op_zEq (uI hr)) (pe_callB call_zLen rfl T.f_len bt_len (pa_cons (pv 2) pa_nil)) pe_int (nomark _)) (pw_and1 (pt_z (pe_fld (pe_fld (pe_fld (pv 0) rfl) rfl) rfl)))))
          (pss_cons (ps_expr (pe_mE kx m_Drain_noted_4 hr (by decide) (pv 0) (pa_cons pe_str (pa_cons (pe_fld (pv 0) rfl) (pa_cons (pv 1) (pa_cons pe_str pa_nil))))))
          (pss_one (ps_ret pe_non)))
          pss_nil)
          (pss_cons (ps_expr (pe_mE kx m_Drain_noted_4 hr (by decide) (pv 0) (pa_cons pe_str (pa_cons (pe_fld (pv 0) rfl) (pa_cons (pv 1) (pa_cons (pv 2) pa_nil))))))
          (pss_cons (ps_fld (pe_fld (pv 0) rfl) (pe_slice sl_z (pe_fld (pe_fld (pv 0) rfl) rfl) (po_some (pe_callB call_zLen rfl T.f_len bt_len (pa_cons (pv 2) pa_nil))) po_none) rfl)
          (pss_cons (ps_fldaug (pv 0) (pe_callB call_zLen rfl T.f_len bt_len (pa_cons (pv 2) pa_nil)) in_add)
          (pss_one (ps_ret (pv 2))))))))), ?_⟩
      try dsimp only [cxOf, Cx.tr, Cx.suite, Cx.nox, Cx.wish]
      obtain ⟨m, dm, n1, p, dp, i, d, dd, n2, es, es2, g, g2, room, ins, b1, b2, mv, F, rfl, hlen, hm, O, k, k2, ke1⟩ := h
      wtm_at "zun"
      refine w_start (σ := [some (.ref d), some (.int mv), none]) rfl ?_
      cases b1
      all_goals cases b2
      all_goals
        wtm_at "zgo"
      all_goals try wtm_at "zend"
  simpa only using Z.stc (Z.Stw.mk 5) hn key
theorem ok_Drain_take_1 (T : Txt K mg) : Met P w K mg base 3 (He.ga K "Drain") "take" (sp_Drain_take K) [] :=
  met_of T.cl_Drain T.me_Drain_take T.fd_Drain_take (fun fd F => fo_Drain_take T F) (fun fd F => bi_all F fun _ _ _ _ _ _ us hl => match us, hl with | [_, _], _ => rfl)
def sp_Mouth_log (K : PySem.W.Frag) : Sp := fun vs H Q _ => ∃ (s dx nl p : Addr) (es : List PyData) (b : Bool) (g : Int) (F : HL), vs = [.ref s] ∧ (LogD es) ∧ (es.length ≤ 10000) ∧ Own H ((endB K "Mouth" s dx nl es b p g) ++ F) ∧ (∀ (q : Addr) (H' : Hp), Own H' (([(q, .xl es)]) ++ ((endB K "Mouth" s dx nl es b p g) ++ F)) → Q (.ref q) H')
theorem len_Mouth_log {vs H Q E} (h : sp_Mouth_log K vs H Q E) : vs.length = 1 := by
  refine no_implicit_lambda% (@Z.stp _ ?_ (fun key hn => ?_))
  ·
      obtain ⟨s, dx, nl, p, es, b, g, F, rfl, _⟩ := h
      rfl
  simpa only using Z.stc (Z.Stw.mk 5) hn key
theorem ap_Mouth_log {H : Hp} {L F : HL} {Q : VK} {E : XK} {s dx nl p : Addr} {es : List PyData} {b : Bool} {g : Int} (O : Own H L)  (pk1 : Pk L (endB K "Mouth" s dx nl es b p g) F) (hD : LogD es) (hlen : es.length ≤ 10000) (k : ∀ (q : Addr), ∀ H', Own H' (([(q, .xl es)]) ++ ((endB K "Mouth" s dx nl es b p g) ++ F)) → Q (.ref q) H') : sp_Mouth_log K [.ref s] H Q E :=
  ⟨s, dx, nl, p, es, b, g, F, rfl, hD, hlen, O.sub (.cons pk1 .all), (fun q H' O'  => k q H' O')⟩
theorem fo_Mouth_log (T : Txt K mg) {f : Addr} {fd : FuncData} (F : FunD K "log" "Raw.log" (defArgs s_Raw_log) (defBody s_Raw_log) (defScope s_Raw_log) [] [] f fd) : FnOk P w K mg base (L2.CX P w) 2 f fd ["self"] (sp_Mouth_log K) := by
  refine no_implicit_lambda% (@Z.stp _ ?_ (fun key hn => ?_))
  ·
      have c_told_anew : Cal P w K mg base 1 "told_anew" (sp_told_anew K) [] := (ok_told_anew T).mono (by decide)
      refine fo_x F sc_Raw_log (fun vs H Q E h => len_Mouth_log h) (fun cdv A outer s H vs Q E hr h kx po => ?_)
      refine ⟨_, (pss_one (ps_ret (pe_lc (own := [("came", 1), ("handed", 2), ("place", 3), ("word", 4)]) (g := (gTup K 4 (gCons (gName 4) (gCons (gName 3) (gCons (gName 2) (gCons (gName 1) gNil)))))) (tt := tYes) (te := (tTup (tCons (tVar 4) (tCons (tVar 3) (tCons (tCall (sp_told_anew K) [] E0 (tCons (tVar 2) tNil)) (tCons (tCall (sp_told_anew K) [] E0 (tCons (tVar 1) tNil)) tNil)))))) rfl sc_Raw_log.nd (pi_list (pe_fld (pv 0) rfl)) (blkOk_by (own := [("came", 1), ("handed", 2), ("place", 3), ("word", 4)]) (N := ["self", "came", "handed", "place", "word"]) (sc := defScope s_Raw_log) (by decide +kernel)) (fun _ _ _ _ _ => by exact (pg_tup rfl (pgs_cons (pg_name (i := 4) sc_Raw_log.nd rfl (Or.inl rfl)) (pgs_cons (pg_name (i := 3) sc_Raw_log.nd rfl (Or.inl rfl)) (pgs_cons (pg_name (i := 2) sc_Raw_log.nd rfl (Or.inl rfl)) (pgs_cons (pg_name (i := 1) sc_Raw_log.nd rfl (Or.inl rfl)) pgs_nil)))))) (fun _ _ _ _ _ => by exact pts_nil) (fun _ _ _ _ _ => by exact (pe_tup (pa_cons (pv 4) (pa_cons (pv 3) (pa_cons (pe_c0 c_told_anew hr (by decide) rfl (pa_cons (pv 2) pa_nil)) (pa_cons (pe_c0 c_told_anew hr (by decide) rfl (pa_cons (pv 1) pa_nil)) pa_nil))))))))), ?_⟩
      try dsimp only [cxOf, Cx.tr, Cx.suite, Cx.nox, Cx.wish]
      obtain ⟨s, dx, nl, p, es, b, g, F, rfl, hD, hlen, O, k⟩ := h
      wtm_at "zun"
      refine w_start (σ := [some (.ref s), none, none, none, none]) rfl ?_
      wtm_at "zgo"
      with_reducible apply w_lcX (f := fun d => d) O
      · wtm_at "zpk"
      · omega
      · intro vs i d v D H₁ Qe he O₁ hk Nx
        obtain ⟨w, pl, d1, d2, hw, rfl, t1, t2⟩ := hD d (List.mem_of_getElem? he)
        clear O; revert H₁; intro H O
        dsimp only [wipe, List.map, List.set]
        obtain ⟨q, rfl⟩ := rv_tup O mem_here
        wtm_at "zgo"
        with_reducible apply hk
        wtm_at "zown"
      · intro D H₁ O₁; clear O; revert H₁; intro H O
        rw [List.map_id'] at O
        wtm_at "zgo"
        wtm_at "zk"
  simpa only using Z.stc (Z.Stw.mk 5) hn key
theorem ok_Mouth_log_0 (T : Txt K mg) : Met P w K mg base 2 (He.ga K "Mouth") "log" (sp_Mouth_log K) [] :=
  met_of T.cl_Mouth T.me_Mouth_log T.fd_Mouth_log (fun fd F => fo_Mouth_log T F) (fun fd F => bi_all F fun _ _ _ _ _ _ us hl => match us, hl with | [_], _ => rfl)
def sp_Drain_log (K : PySem.W.Frag) : Sp := fun vs H Q _ => ∃ (s dx nl p : Addr) (es : List PyData) (b : Bool) (g : Int) (F : HL), vs = [.ref s] ∧ (LogD es) ∧ (es.length ≤ 10000) ∧ Own H ((endB K "Drain" s dx nl es b p g) ++ F) ∧ (∀ (q : Addr) (H' : Hp), Own H' (([(q, .xl es)]) ++ ((endB K "Drain" s dx nl es b p g) ++ F)) → Q (.ref q) H')
theorem len_Drain_log {vs H Q E} (h : sp_Drain_log K vs H Q E) : vs.length = 1 := by
  refine no_implicit_lambda% (@Z.stp _ ?_ (fun key hn => ?_))
  ·
      obtain ⟨s, dx, nl, p, es, b, g, F, rfl, _⟩ := h
      rfl
  simpa only using Z.stc (Z.Stw.mk 5) hn key
theorem ap_Drain_log {H : Hp} {L F : HL} {Q : VK} {E : XK} {s dx nl p : Addr} {es : List PyData} {b : Bool} {g : Int} (O : Own H L)  (pk1 : Pk L (endB K "Drain" s dx nl es b p g) F) (hD : LogD es) (hlen : es.length ≤ 10000) (k : ∀ (q : Addr), ∀ H', Own H' (([(q, .xl es)]) ++ ((endB K "Drain" s dx nl es b p g) ++ F)) → Q (.ref q) H') : sp_Drain_log K [.ref s] H Q E :=
  ⟨s, dx, nl, p, es, b, g, F, rfl, hD, hlen, O.sub (.cons pk1 .all), (fun q H' O'  => k q H' O')⟩
theorem fo_Drain_log (T : Txt K mg) {f : Addr} {fd : FuncData} (F : FunD K "log" "Raw.log" (defArgs s_Raw_log) (defBody s_Raw_log) (defScope s_Raw_log) [] [] f fd) : FnOk P w K mg base (L2.CX P w) 2 f fd ["self"] (sp_Drain_log K) := by
  refine no_implicit_lambda% (@Z.stp _ ?_ (fun key hn => ?_))
  ·
      have c_told_anew : Cal P w K mg base 1 "told_anew" (sp_told_anew K) [] := (ok_told_anew T).mono (by decide)
      refine fo_x F sc_Raw_log (fun vs H Q E h => len_Drain_log h) (fun cdv A outer s H vs Q E hr h kx po => ?_)
      refine ⟨_, (pss_one (ps_ret (pe_lc (own := [("came", 1), ("handed", 2), ("place", 3), ("word", 4)]) (g := (gTup K 4 (gCons (gName 4) (gCons (gName 3) (gCons (gName 2) (gCons (gName 1) gNil)))))) (tt := tYes) (te := (tTup (tCons (tVar 4) (tCons (tVar 3) (tCons (tCall (sp_told_anew K) [] E0 (tCons (tVar 2) tNil)) (tCons (tCall (sp_told_anew K) [] E0 (tCons (tVar 1) tNil)) tNil)))))) rfl sc_Raw_log.nd (pi_list (pe_fld (pv 0) rfl)) (blkOk_by (own := [("came", 1), ("handed", 2), ("place", 3), ("word", 4)]) (N := ["self", "came", "handed", "place", "word"]) (sc := defScope s_Raw_log) (by decide +kernel)) (fun _ _ _ _ _ => by exact (pg_tup rfl (pgs_cons (pg_name (i := 4) sc_Raw_log.nd rfl (Or.inl rfl)) (pgs_cons (pg_name (i := 3) sc_Raw_log.nd rfl (Or.inl rfl)) (pgs_cons (pg_name (i := 2) sc_Raw_log.nd rfl (Or.inl rfl)) (pgs_cons (pg_name (i := 1) sc_Raw_log.nd rfl (Or.inl rfl)) pgs_nil)))))) (fun _ _ _ _ _ => by exact pts_nil) (fun _ _ _ _ _ => by exact (pe_tup (pa_cons (pv 4) (pa_cons (pv 3) (pa_cons (pe_c0 c_told_anew hr (by decide) rfl (pa_cons (pv 2) pa_nil)) (pa_cons (pe_c0 c_told_anew hr (by decide) rfl (pa_cons (pv 1) pa_nil)) pa_nil))))))))), ?_⟩
      try dsimp only [cxOf, Cx.tr, Cx.suite, Cx.nox, Cx.wish]
      obtain ⟨s, dx, nl, p, es, b, g, F, rfl, hD, hlen, O, k⟩ := h
      wtm_at "zun"
      refine w_start (σ := [some (.ref s), none, none, none, none]) rfl ?_
      wtm_at "zgo"
      with_reducible apply w_lcX (f := fun d => d) O
      · wtm_at "zpk"
      · omega
      · intro vs i d v D H₁ Qe he O₁ hk Nx
        obtain ⟨w, pl, d1, d2, hw, rfl, t1, t2⟩ := hD d (List.mem_of_getElem? he)
        clear O; revert H₁; intro H O
        dsimp only [wipe, List.map, List.set]
        obtain ⟨q, rfl⟩ := rv_tup O mem_here
        wtm_at "zgo"
        with_reducible apply hk
        wtm_at "zown"
      · intro D H₁ O₁; clear O; revert H₁; intro H O
        rw [List.map_id'] at O
        wtm_at "zgo"
        wtm_at "zk"
  simpa only using Z.stc (Z.Stw.mk 5) hn key
theorem ok_Drain_log_0 (T : Txt K mg) : Met P w K mg base 2 (He.ga K "Drain") "log" (sp_Drain_log K) [] :=
  met_of T.cl_Drain T.me_Drain_log T.fd_Drain_log (fun fd F => fo_Drain_log T F) (fun fd F => bi_all F fun _ _ _ _ _ _ us hl => match us, hl with | [_], _ => rfl)
local macro_rules | `(tactic| wtm_at "zcall") => `(tactic| ((with_reducible apply ap_Mouth_put O); (· wtm_at "zpk"); (· wtm_at "zpk"); (· wtm_at "zpk"); (· wtm_at "zsd"); (· wtm_at "zsd"); (· wtm_at "zsd"); (· wtm_at "zsd"); (rotate_left 3; (focus (intro xd0; intro H₁ O₁; clear O; (try clear H); revert H₁; intro H O; intro hc1 hc2; wtm_at "zwe")); rotate_right 3); (rotate_left 2; (focus (intro H₁ O₁; clear O; (try clear H); revert H₁; intro H O; intro hc1; wtm_at "zwe")); rotate_right 2); (rotate_left 1; (focus (intro i' hq1 hq2 hq3; wtm_at "znx"; try wtm_at "zabs")); rotate_right 1); (focus (intro hq1 hq2 hq3; wtm_at "znx"; try wtm_at "zabs"))))
local macro_rules | `(tactic| wtm_at "zcall") => `(tactic| ((with_reducible apply ap_Drain_take O); (· wtm_at "zpk"); (· wtm_at "zpk"); (· wtm_at "zpk"); (· wtm_at "zsd"); (· wtm_at "zsd"); (rotate_left 2; (focus (intro H₁ O₁; clear O; (try clear H); revert H₁; intro H O; intro hc1; wtm_at "zwe")); rotate_right 2); (rotate_left 1; (focus (intro q i' hq1 hq2; wtm_at "znx"; (try simp only [reduceCtorEq, or_false, false_or] at hq2); try wtm_at "zabs")); rotate_right 1); (focus (intro hq1 hq2 hq3; wtm_at "znx"; try wtm_at "zabs"))))
local macro_rules | `(tactic| wtm_at "zcall") => `(tactic| ((with_reducible apply ap_Mouth_log O); (· wtm_at "zpk"); (· wtm_at "zsd"); (· wtm_at "zsd"); intro q; wtm_at "znx"))
local macro_rules | `(tactic| wtm_at "zcall") => `(tactic| ((with_reducible apply ap_Drain_log O); (· wtm_at "zpk"); (· wtm_at "zsd"); (· wtm_at "zsd"); intro q; wtm_at "znx"))

def sp_Mouth_shut (K : PySem.W.Frag) : Sp := fun vs H Q _ => ∃ (s dx nl p : Addr) (es : List PyData) (b : Bool) (g : Int) (F : HL), vs = [.ref s] ∧ Own H ((endB K "Mouth" s dx nl es b p g) ++ F) ∧ (∀  (H' : Hp), Own H' ((endB K "Mouth" s dx nl es false p g) ++ F) → Q (.non) H')
theorem len_Mouth_shut {vs H Q E} (h : sp_Mouth_shut K vs H Q E) : vs.length = 1 := by
  refine no_implicit_lambda% (@Z.stp _ ?_ (fun key hn => ?_))
  ·
      obtain ⟨s, dx, nl, p, es, b, g, F, rfl, _⟩ := h
      rfl
  simpa only using Z.stc (Z.Stw.mk 5) hn key
theorem ap_Mouth_shut {H : Hp} {L F : HL} {Q : VK} {E : XK} {s dx nl p : Addr} {es : List PyData} {b : Bool} {g : Int} (O : Own H L)  (pk1 : Pk L (endB K "Mouth" s dx nl es b p g) F)  (k : ∀ H', Own H' ((endB K "Mouth" s dx nl es false p g) ++ F) → Q (.non) H') : sp_Mouth_shut K [.ref s] H Q E :=
  ⟨s, dx, nl, p, es, b, g, F, rfl, O.sub (.cons pk1 .all), (fun  H' O'  => k  H' O')⟩
theorem fo_Mouth_shut (T : Txt K mg) {f : Addr} {fd : FuncData} (F : FunD K "shut" "Raw.shut" (defArgs s_Raw_shut) (defBody s_Raw_shut) (defScope s_Raw_shut) [] [] f fd) : FnOk P w K mg base (L2.CX P w) 1 f fd ["self"] (sp_Mouth_shut K) := by
  refine no_implicit_lambda% (@Z.stp _ ?_ (fun key hn => ?_))
  ·

      refine fo_x F sc_Raw_shut (fun vs H Q E h => len_Mouth_shut h) (fun cdv A outer s H vs Q E hr h kx po => ?_)
      refine ⟨_, (pss_one (ps_fld (pv 0) pe_bl rfl)), ?_⟩
      try dsimp only [cxOf, Cx.tr, Cx.suite, Cx.nox, Cx.wish]
      obtain ⟨s, dx, nl, p, es, b, g, F, rfl, O, k⟩ := h
      wtm_at "zun"
      refine w_start (σ := [some (.ref s)]) rfl ?_
      wtm_at "zgo"
      wtm_at "zk"
  simpa only using Z.stc (Z.Stw.mk 5) hn key
theorem ok_Mouth_shut_0 (T : Txt K mg) : Met P w K mg base 1 (He.ga K "Mouth") "shut" (sp_Mouth_shut K) [] :=
  met_of T.cl_Mouth T.me_Mouth_shut T.fd_Mouth_shut (fun fd F => fo_Mouth_shut T F) (fun fd F => bi_all F fun _ _ _ _ _ _ us hl => match us, hl with | [_], _ => rfl)
local macro_rules | `(tactic| wtm_at "zcall") => `(tactic| ((with_reducible apply ap_Mouth_shut O); (· wtm_at "zpk"); wtm_at "znx"))
def sp_Drain_shut (K : PySem.W.Frag) : Sp := fun vs H Q _ => ∃ (s dx nl p : Addr) (es : List PyData) (b : Bool) (g : Int) (F : HL), vs = [.ref s] ∧ Own H ((endB K "Drain" s dx nl es b p g) ++ F) ∧ (∀  (H' : Hp), Own H' ((endB K "Drain" s dx nl es false p g) ++ F) → Q (.non) H')
theorem len_Drain_shut {vs H Q E} (h : sp_Drain_shut K vs H Q E) : vs.length = 1 := by
  refine no_implicit_lambda% (@Z.stp _ ?_ (fun key hn => ?_))
  ·
      obtain ⟨s, dx, nl, p, es, b, g, F, rfl, _⟩ := h
      rfl
  simpa only using Z.stc (Z.Stw.mk 5) hn key
theorem ap_Drain_shut {H : Hp} {L F : HL} {Q : VK} {E : XK} {s dx nl p : Addr} {es : List PyData} {b : Bool} {g : Int} (O : Own H L)  (pk1 : Pk L (endB K "Drain" s dx nl es b p g) F)  (k : ∀ H', Own H' ((endB K "Drain" s dx nl es false p g) ++ F) → Q (.non) H') : sp_Drain_shut K [.ref s] H Q E :=
  ⟨s, dx, nl, p, es, b, g, F, rfl, O.sub (.cons pk1 .all), (fun  H' O'  => k  H' O')⟩
theorem fo_Drain_shut (T : Txt K mg) {f : Addr} {fd : FuncData} (F : FunD K "shut" "Raw.shut" (defArgs s_Raw_shut) (defBody s_Raw_shut) (defScope s_Raw_shut) [] [] f fd) : FnOk P w K mg base (L2.CX P w) 1 f fd ["self"] (sp_Drain_shut K) := by
  refine no_implicit_lambda% (@Z.stp _ ?_ (fun key hn => ?_))
  ·

      refine fo_x F sc_Raw_shut (fun vs H Q E h => len_Drain_shut h) (fun cdv A outer s H vs Q E hr h kx po => ?_)
      refine ⟨_, (pss_one (ps_fld (pv 0) pe_bl rfl)), ?_⟩
      try dsimp only [cxOf, Cx.tr, Cx.suite, Cx.nox, Cx.wish]
      obtain ⟨s, dx, nl, p, es, b, g, F, rfl, O, k⟩ := h
      wtm_at "zun"
      refine w_start (σ := [some (.ref s)]) rfl ?_
      wtm_at "zgo"
      wtm_at "zk"
  simpa only using Z.stc (Z.Stw.mk 5) hn key
theorem ok_Drain_shut_0 (T : Txt K mg) : Met P w K mg base 1 (He.ga K "Drain") "shut" (sp_Drain_shut K) [] :=
  met_of T.cl_Drain T.me_Drain_shut T.fd_Drain_shut (fun fd F => fo_Drain_shut T F) (fun fd F => bi_all F fun _ _ _ _ _ _ us hl => match us, hl with | [_], _ => rfl)
local macro_rules | `(tactic| wtm_at "zcall") => `(tactic| ((with_reducible apply ap_Drain_shut O); (· wtm_at "zpk"); wtm_at "znx"))

/-! ### pipes in a row: what their logs tell -/
inductive PutL : List PyData → List Int → Prop
  | nil : PutL [] []
  | stall {es : List PyData} {xs ns : List Int} : PutL es xs → PutL (es ++ [.tuple [.str "put", .int xs.length, .list (ns.map PyData.int), .str "stall"]]) xs
  | put {es : List PyData} {xs ns : List Int} {j : Nat} : PutL es xs → j ≤ ns.length → ns.length ≤ 1000 → PutL (es ++ [.tuple [.str "put", .int xs.length, .list (ns.map PyData.int), .int j]]) (xs ++ ns.take j)
inductive TakL : List PyData → List Int → Prop
  | nil : TakL [] []
  | stall {es : List PyData} {ys : List Int} {m : Int} : TakL es ys → TakL (es ++ [.tuple [.str "take", .int ys.length, .int m, .str "stall"]]) ys
  | take {es : List PyData} {ys ns : List Int} {m : Int} : TakL es ys → ns.length ≤ 1000 → TakL (es ++ [.tuple [.str "take", .int ys.length, .int m, .list (ns.map PyData.int)]]) (ys ++ ns)
/-- the i-th note, and what stands ahead of it and behind it -/
theorem PutL.at {es : List PyData} {xs : List Int} (h : PutL es xs) : ∃ f : Nat → List Int, f 0 = [] ∧ f es.length = xs ∧ (∀ i, (f i).length ≤ 1000 * es.length) ∧ ∀ i e, es[i]? = some e →
    (∃ ns : List Int, e = .tuple [.str "put", .int (f i).length, .list (ns.map PyData.int), .str "stall"] ∧ f (i + 1) = f i) ∨ ∃ (ns : List Int) (j : Nat), j ≤ ns.length ∧ e = .tuple [.str "put", .int (f i).length, .list (ns.map PyData.int), .int j] ∧ f (i + 1) = f i ++ ns.take j := by
  refine no_implicit_lambda% (@Z.stp _ ?_ (fun key hn => ?_))
  ·
      induction h with
      | nil => exact ⟨fun _ => [], rfl, rfl, fun i => Nat.zero_le _, fun i e h => by simp at h⟩
      | @stall es xs ns h ih =>
        obtain ⟨f, f0, f1, fb, f2⟩ := ih
        have hfx := fb es.length
        rw [f1] at hfx
        refine ⟨fun i => if i ≤ es.length then f i else xs, by simp [f0], by rw [List.length_append]; exact if_neg (by simp), fun i => ?_, fun i e he => ?_⟩
        · dsimp only
          rw [List.length_append, List.length_cons, List.length_nil]
          have := fb i
          split <;> (try rw [List.length_append]) <;> (try rw [List.length_take]) <;> omega
        rcases Nat.lt_trichotomy i es.length with z | z | z
        · rw [List.getElem?_append_left z] at he
          simp only [if_pos (Nat.le_of_lt z), if_pos (Nat.succ_le_of_lt z)]
          exact f2 i e he
        · subst z
          rw [List.getElem?_append_right (Nat.le_refl _), Nat.sub_self] at he
          cases he
          simp only [if_pos (Nat.le_refl _), if_neg (Nat.not_succ_le_self _)]
          exact .inl ⟨ns, by rw [f1], f1.symm⟩
        · rw [List.getElem?_eq_none (by simp; omega)] at he
          cases he
      | @put es xs ns j h hj hnl ih =>
        obtain ⟨f, f0, f1, fb, f2⟩ := ih
        have hfx := fb es.length
        rw [f1] at hfx
        refine ⟨fun i => if i ≤ es.length then f i else xs ++ ns.take j, by simp [f0], by rw [List.length_append]; exact if_neg (by simp), fun i => ?_, fun i e he => ?_⟩
        · dsimp only
          rw [List.length_append, List.length_cons, List.length_nil]
          have := fb i
          split <;> (try rw [List.length_append]) <;> (try rw [List.length_take]) <;> omega
        rcases Nat.lt_trichotomy i es.length with z | z | z
        · rw [List.getElem?_append_left z] at he
          simp only [if_pos (Nat.le_of_lt z), if_pos (Nat.succ_le_of_lt z)]
          exact f2 i e he
        · subst z
          rw [List.getElem?_append_right (Nat.le_refl _), Nat.sub_self] at he
          cases he
          simp only [if_pos (Nat.le_refl _), if_neg (Nat.not_succ_le_self _)]
          exact .inr ⟨ns, j, hj, by rw [f1], by rw [f1]⟩
        · rw [List.getElem?_eq_none (by simp; omega)] at he
          cases he
  simpa only using Z.stc (Z.Stw.mk 5) hn key
theorem TakL.at {es : List PyData} {xs : List Int} (h : TakL es xs) : ∃ f : Nat → List Int, f 0 = [] ∧ f es.length = xs ∧ (∀ i, (f i).length ≤ 1000 * es.length) ∧ ∀ i e, es[i]? = some e →
    (∃ m : Int, e = .tuple [.str "take", .int (f i).length, .int m, .str "stall"] ∧ f (i + 1) = f i) ∨ ∃ (m : Int) (ns : List Int), e = .tuple [.str "take", .int (f i).length, .int m, .list (ns.map PyData.int)] ∧ f (i + 1) = f i ++ ns := by
  refine no_implicit_lambda% (@Z.stp _ ?_ (fun key hn => ?_))
  ·
      induction h with
      | nil => exact ⟨fun _ => [], rfl, rfl, fun i => Nat.zero_le _, fun i e h => by simp at h⟩
      | @stall es xs m h ih =>
        obtain ⟨f, f0, f1, fb, f2⟩ := ih
        have hfx := fb es.length
        rw [f1] at hfx
        refine ⟨fun i => if i ≤ es.length then f i else xs, by simp [f0], by rw [List.length_append]; exact if_neg (by simp), fun i => ?_, fun i e he => ?_⟩
        · dsimp only
          rw [List.length_append, List.length_cons, List.length_nil]
          have := fb i
          split <;> (try rw [List.length_append]) <;> (try rw [List.length_take]) <;> omega
        rcases Nat.lt_trichotomy i es.length with z | z | z
        · rw [List.getElem?_append_left z] at he
          simp only [if_pos (Nat.le_of_lt z), if_pos (Nat.succ_le_of_lt z)]
          exact f2 i e he
        · subst z
          rw [List.getElem?_append_right (Nat.le_refl _), Nat.sub_self] at he
          cases he
          simp only [if_pos (Nat.le_refl _), if_neg (Nat.not_succ_le_self _)]
          exact .inl ⟨m, by rw [f1], f1.symm⟩
        · rw [List.getElem?_eq_none (by simp; omega)] at he
          cases he
      | @take es xs ns m h hnl ih =>
        obtain ⟨f, f0, f1, fb, f2⟩ := ih
        have hfx := fb es.length
        rw [f1] at hfx
        refine ⟨fun i => if i ≤ es.length then f i else xs ++ ns, by simp [f0], by rw [List.length_append]; exact if_neg (by simp), fun i => ?_, fun i e he => ?_⟩
        · dsimp only
          rw [List.length_append, List.length_cons, List.length_nil]
          have := fb i
          split <;> (try rw [List.length_append]) <;> (try rw [List.length_take]) <;> omega
        rcases Nat.lt_trichotomy i es.length with z | z | z
        · rw [List.getElem?_append_left z] at he
          simp only [if_pos (Nat.le_of_lt z), if_pos (Nat.succ_le_of_lt z)]
          exact f2 i e he
        · subst z
          rw [List.getElem?_append_right (Nat.le_refl _), Nat.sub_self] at he
          cases he
          simp only [if_pos (Nat.le_refl _), if_neg (Nat.not_succ_le_self _)]
          exact .inr ⟨m, ns, by rw [f1], by rw [f1]⟩
        · rw [List.getElem?_eq_none (by simp; omega)] at he
          cases he
  simpa only using Z.stc (Z.Stw.mk 5) hn key
/-- what both logs tell, and what lies in the pipe -/
def LogOk (es es2 : List PyData) (g g2 : Int) (ins : List Int) : Prop := ∃ xs ys : List Int, PutL es xs ∧ TakL es2 ys ∧ g = xs.length ∧ g2 = ys.length ∧ ys ++ ins = xs ∧ LogD es ∧ LogD es2
theorem LogOk.nil : LogOk [] [] 0 0 [] := ⟨[], [], .nil, .nil, rfl, rfl, rfl, .nil, .nil⟩
theorem LogOk.stallP {es es2 : List PyData} {g g2 : Int} {ins ns : List Int} (h : LogOk es es2 g g2 ins) : LogOk (es ++ [.tuple [.str "put", .int g, .list (ns.map PyData.int), .str "stall"]]) es2 g g2 ins := by
  refine no_implicit_lambda% (@Z.stp _ ?_ (fun key hn => ?_))
  ·
      obtain ⟨xs, ys, h1, h2, rfl, rfl, h5, h6, h7⟩ := h
      exact ⟨xs, ys, h1.stall, h2, rfl, rfl, h5, h6.snoc (small_str (by decide +kernel)) .li (.str (small_str (by decide +kernel))), h7⟩
  simpa only using Z.stc (Z.Stw.mk 5) hn key
theorem LogOk.put {es es2 : List PyData} {g g2 : Int} {ins ns : List Int} {j : Nat} (h : LogOk es es2 g g2 ins) (hj : j ≤ ns.length) (hn : ns.length ≤ 1000) : LogOk (es ++ [.tuple [.str "put", .int g, .list (ns.map PyData.int), .int j]]) es2 (g + (ns.take j).length) g2 (ins ++ ns.take j) := by
  refine no_implicit_lambda% (@Z.stp _ ?_ (fun key hn => ?_))
  ·
      obtain ⟨xs, ys, h1, h2, rfl, rfl, h5, h6, h7⟩ := h
      exact ⟨xs ++ ns.take j, ys, h1.put hj hn, h2, by rw [List.length_append]; omega, rfl, by rw [← List.append_assoc, h5], h6.snoc (small_str (by decide +kernel)) .li .int, h7⟩
  simpa only using Z.stc (Z.Stw.mk 5) hn key
theorem LogOk.stallT {es es2 : List PyData} {g g2 m : Int} {ins : List Int} (h : LogOk es es2 g g2 ins) : LogOk es (es2 ++ [.tuple [.str "take", .int g2, .int m, .str "stall"]]) g g2 ins := by
  refine no_implicit_lambda% (@Z.stp _ ?_ (fun key hn => ?_))
  ·
      obtain ⟨xs, ys, h1, h2, rfl, rfl, h5, h6, h7⟩ := h
      exact ⟨xs, ys, h1, h2.stall, rfl, rfl, h5, h6, h7.snoc (small_str (by decide +kernel)) .int (.str (small_str (by decide +kernel)))⟩
  simpa only using Z.stc (Z.Stw.mk 5) hn key
theorem LogOk.take {es es2 : List PyData} {g g2 m : Int} {ins : List Int} {k : Nat} (h : LogOk es es2 g g2 ins) (hn : ins.length ≤ 1000) : LogOk es (es2 ++ [.tuple [.str "take", .int g2, .int m, .list ((ins.take k).map PyData.int)]]) g (g2 + (ins.take k).length) (ins.drop k) := by
  refine no_implicit_lambda% (@Z.stp _ ?_ (fun key hn => ?_))
  ·
      obtain ⟨xs, ys, h1, h2, rfl, rfl, h5, h6, h7⟩ := h
      exact ⟨xs, ys ++ ins.take k, h1, h2.take (by rw [List.length_take]; omega), rfl, by rw [List.length_append]; omega, by rw [List.append_assoc, List.take_append_drop, h5], h6, h7.snoc (small_str (by decide +kernel)) .int .li⟩
  simpa only using Z.stc (Z.Stw.mk 5) hn key
/-! ### all bytes in order -/
def ordL : List (List Int) → List (List Int) → List Int
  | i :: is, h :: hs => ordL is hs ++ i ++ h
  | _, h :: _ => h
  | _, [] => []
theorem ordL_put {k : Nat} {i i' h h' : List Int} (e : i' ++ h' = i ++ h) : ∀ {is hs : List (List Int)}, is[k]? = some i → hs[k]? = some h → ordL (is.set k i') (hs.set k h') = ordL is hs := by
  refine no_implicit_lambda% (@Z.stp _ ?_ (fun key hn => ?_))
  ·
      induction k with
      | zero =>
        intro is hs h1 h2
        match is, hs, h1, h2 with
        | j :: is, g :: hs, h1, h2 =>
          cases h1; cases h2
          simp only [List.set_cons_zero, ordL, List.append_assoc, e]
      | succ k ih =>
        intro is hs h1 h2
        match is, hs, h1, h2 with
        | j :: is, g :: hs, h1, h2 =>
          simp only [List.set_cons_succ, ordL]
          rw [ih (by simpa using h1) (by simpa using h2)]
  simpa only using Z.stc (Z.Stw.mk 5) hn key
/-- the last part of the order is the first hand -/
theorem ordL_hd : ∀ {is : List (List Int)} {hs : List (List Int)}, ∃ pre, ∀ h, ordL is (h :: hs) = pre ++ h
  | [], hs => ⟨[], fun h => by simp [ordL]⟩
  | i :: is, hs => ⟨ordL is hs ++ i, fun h => rfl⟩
theorem ordL_take {k : Nat} {i i' h h' : List Int} (e : h' ++ i' = h ++ i) : ∀ {is hs : List (List Int)}, is[k]? = some i → hs[k + 1]? = some h → ordL (is.set k i') (hs.set (k + 1) h') = ordL is hs := by
  refine no_implicit_lambda% (@Z.stp _ ?_ (fun key hn => ?_))
  ·
      induction k with
      | zero =>
        intro is hs h1 h2
        match is, hs, h1, h2 with
        | j :: is, g :: g2 :: hs, h1, h2 =>
          cases h1; cases h2
          obtain ⟨pre, hp⟩ := ordL_hd (is := is) (hs := hs)
          simp only [List.set_cons_zero, List.set_cons_succ, ordL, hp]
          rw [List.append_assoc pre, e, ← List.append_assoc pre]
      | succ k ih =>
        intro is hs h1 h2
        match is, hs, h1, h2 with
        | j :: is, g :: hs, h1, h2 =>
          simp only [List.set_cons_succ, ordL]
          rw [ih (by simpa using h1) (by simpa using h2)]
  simpa only using Z.stc (Z.Stw.mk 5) hn key

/-! ### many blocks of one kind -/
section
variable {α : Type}
def bigB (f : α → HL) : List α → HL
  | [] => []
  | x :: xs => f x ++ bigB f xs
theorem bigB_app {f : α → HL} : ∀ {xs ys : List α}, bigB f (xs ++ ys) = bigB f xs ++ bigB f ys
  | [], _ => rfl
  | x :: xs, ys => by
    show f x ++ bigB f (xs ++ ys) = (f x ++ bigB f xs) ++ bigB f ys
    rw [bigB_app (xs := xs), List.append_assoc]
theorem bigB_one {f : α → HL} {x : α} : bigB f [x] = f x := List.append_nil _
/-- the i-th of them ahead -/
theorem bigB_at {f : α → HL} {xs : List α} {i : Nat} {x : α} (h : xs[i]? = some x) : bigB f xs = bigB f (xs.take i) ++ (f x ++ bigB f (xs.drop (i + 1))) := by
  refine no_implicit_lambda% (@Z.stp _ ?_ (fun key hn => ?_))
  ·
      obtain ⟨hl, rfl⟩ := List.getElem?_eq_some_iff.mp h
      conv => lhs; rw [← List.take_append_drop i xs, List.drop_eq_getElem_cons hl, bigB_app]
      rfl
  simpa only using Z.stc (Z.Stw.mk 5) hn key
theorem bigB_set {f : α → HL} {xs : List α} {i : Nat} {x y : α} (h : xs[i]? = some x) : bigB f (xs.set i y) = bigB f (xs.take i) ++ (f y ++ bigB f (xs.drop (i + 1))) := by
  refine no_implicit_lambda% (@Z.stp _ ?_ (fun key hn => ?_))
  ·
      obtain ⟨hl, rfl⟩ := List.getElem?_eq_some_iff.mp h
      rw [List.set_eq_take_append_cons_drop, if_pos hl, bigB_app]
      rfl
  simpa only using Z.stc (Z.Stw.mk 5) hn key
theorem bigB_drop {f : α → HL} {xs : List α} {i : Nat} {x : α} (h : xs[i]? = some x) : bigB f (xs.drop i) = f x ++ bigB f (xs.drop (i + 1)) := by
  refine no_implicit_lambda% (@Z.stp _ ?_ (fun key hn => ?_))
  ·
      obtain ⟨hl, rfl⟩ := List.getElem?_eq_some_iff.mp h
      rw [List.drop_eq_getElem_cons hl]; rfl
  simpa only using Z.stc (Z.Stw.mk 5) hn key
end
theorem swapB {a b c : HL} {H : Hp} (O : Own H (a ++ (b ++ c))) : Own H (b ++ (a ++ c)) := O.sub (Sub.cons (Pk.there Pk.here) (Sub.cons Pk.here Sub.all))

/-! ### hands: an owned list of owned lists of whole numbers -/
def hnB (h : Addr × List Int) : HL := [(h.1, .lst (h.2.map V.int))]
def hnR (hs : List (Addr × List Int)) : List V := hs.map fun h => V.ref h.1
theorem hnR_app {xs ys : List (Addr × List Int)} : hnR (xs ++ ys) = hnR xs ++ hnR ys := List.map_append
theorem hnR_len {hs : List (Addr × List Int)} : (hnR hs).length = hs.length := by unfold hnR; rw [List.length_map]
theorem hnR_set {hs : List (Addr × List Int)} {k : Nat} {h : Addr × List Int} : hnR (hs.set k h) = (hnR hs).set k (.ref h.1) := by unfold hnR; rw [List.map_set]
theorem hnR_get {hs : List (Addr × List Int)} {k : Nat} {h : Addr × List Int} (e : hs[k]? = some h) : (hnR hs)[k]? = some (.ref h.1) := by unfold hnR; rw [List.getElem?_map, e]; rfl
theorem hnB_at {hs : List (Addr × List Int)} {k : Nat} {h : Addr × List Int} (e : hs[k]? = some h) : bigB hnB hs = bigB hnB (hs.take k) ++ ([(h.1, .lst (h.2.map V.int))] ++ bigB hnB (hs.drop (k + 1))) := bigB_at e
theorem hnB_set {hs : List (Addr × List Int)} {k : Nat} {h h' : Addr × List Int} (e : hs[k]? = some h) : bigB hnB (hs.set k h') = bigB hnB (hs.take k) ++ ([(h'.1, .lst (h'.2.map V.int))] ++ bigB hnB (hs.drop (k + 1))) := bigB_set e
theorem hnB_one {h : Addr × List Int} : bigB hnB [h] = [(h.1, .lst (h.2.map V.int))] := bigB_one
theorem w_ixHn {K : PySem.W.Frag} {H : Hp} {L R : HL} {Q : VK} {a : Addr} {k : Nat} {hs : List (Addr × List Int)} {h : Addr × List Int} (O : Own H L) (ha : Pk L [(a, .lst (hnR hs))] R) (e : hs[k]? = some h) (q : Q (.ref h.1) H) : rIx K (.ref a) (.int (k : Nat)) H Q :=
  w_ixL O ha (atI_nat (hnR_get e)) q
theorem w_ixHn1 {K : PySem.W.Frag} {H : Hp} {L R : HL} {Q : VK} {a : Addr} {k : Nat} {hs : List (Addr × List Int)} {h : Addr × List Int} (O : Own H L) (ha : Pk L [(a, .lst (hnR hs))] R) (e : hs[k + 1]? = some h) (q : Q (.ref h.1) H) : rIx K (.ref a) (.int ((k : Int) + 1)) H Q :=
  w_ixL (i := ((k + 1 : Nat) : Int)) O ha (atI_nat (hnR_get e)) q
theorem w_setHn {R2 : Hp → Prop} {H : Hp} {L R R' : HL} {a b : Addr} {k : Nat} {hs : List (Addr × List Int)} {ns : List Int} (O : Own H L) (ha : Pk L [(a, .lst (hnR hs))] R) (_hb : Pk L [(b, .lst (ns.map V.int))] R') (hk : k < hs.length) (q : ∀ H', Own H' ([(a, .lst (hnR (hs.set k (b, ns))))] ++ R) → R2 H') : rSetL (.ref a) (.int (k : Nat)) (.ref b) H R2 := by
  refine no_implicit_lambda% (@Z.stp _ ?_ (fun key hn => ?_))
  ·
      refine w_setL O ha (by omega) (by rw [hnR_len]; omega) fun H' O' => q H' ?_
      rw [hnR_set]
      rw [Int.toNat_natCast] at O'
      exact O'
  simpa only using Z.stc (Z.Stw.mk 5) hn key
theorem w_setHn1 {R2 : Hp → Prop} {H : Hp} {L R R' : HL} {a b : Addr} {k : Nat} {hs : List (Addr × List Int)} {ns : List Int} (O : Own H L) (ha : Pk L [(a, .lst (hnR hs))] R) (hb : Pk L [(b, .lst (ns.map V.int))] R') (hk : k + 1 < hs.length) (q : ∀ H', Own H' ([(a, .lst (hnR (hs.set (k + 1) (b, ns))))] ++ R) → R2 H') : rSetL (.ref a) (.int ((k : Int) + 1)) (.ref b) H R2 :=
  w_setHn (k := k + 1) O ha hb hk q
theorem take_len {α : Type} (l : List α) (m : Nat) : l.take (l.take m).length = l.take m := by
  refine no_implicit_lambda% (@Z.stp _ ?_ (fun key hn => ?_))
  ·
      rw [List.length_take]
      rcases Nat.le_total m l.length with h | h
      · rw [Nat.min_eq_left h]
      · rw [Nat.min_eq_right h, List.take_of_length_le (Nat.le_refl _), List.take_of_length_le h]
  simpa only using Z.stc (Z.Stw.mk 5) hn key
theorem pre_drop {α : Type} (l : List α) (a b : Nat) : (l.take b).take a ++ l.drop ((l.take b).take a).length = l := by
  refine no_implicit_lambda% (@Z.stp _ ?_ (fun key hn => ?_))
  ·
      rw [List.take_take, ← take_len l (min a b)]
      conv => lhs; arg 1; rw [take_len]
      rw [take_len]
      conv => rhs; rw [← List.take_append_drop (l.take (min a b)).length l, take_len]
  simpa only using Z.stc (Z.Stw.mk 5) hn key
theorem set_self {α : Type} {l : List α} {k : Nat} {x : α} (h : l[k]? = some x) : l.set k x = l := by
  refine no_implicit_lambda% (@Z.stp _ ?_ (fun key hn => ?_))
  ·
      obtain ⟨hl, rfl⟩ := List.getElem?_eq_some_iff.mp h
      exact List.set_getElem_self hl
  simpa only using Z.stc (Z.Stw.mk 5) hn key
theorem LsI.hn {L R : HL} {hs : List (Addr × List Int)} {k : Nat} {h : Addr × List Int} (e : hs[k]? = some h) (p : Pk L (bigB hnB hs) R) : LsI L h.1 h.2 := fun H O => by
  have O2 := O.pk p
  rw [hnB_at e] at O2
  simp only [hl_assoc] at O2
  exact O2.at1 (Pk.there Pk.here)
local macro_rules | `(tactic| wtm_at "zli") => `(tactic| ((with_reducible apply LsI.hn); (· with_reducible assumption); wtm_at "zpk1"))

local macro_rules | `(tactic| wtm_at "zcall") => `(tactic| first
  | ((with_reducible apply w_ixHn O); (· wtm_at "zpk1"); (· with_reducible assumption))
  | ((with_reducible apply w_ixHn1 O); (· wtm_at "zpk1"); (· with_reducible assumption))
  | ((with_reducible apply w_setHn O); (· wtm_at "zpk1"); (· wtm_at "zpk1"); (· omega); wtm_at "znx")
  | ((with_reducible apply w_setHn1 O); (· wtm_at "zpk1"); (· wtm_at "zpk1"); (· omega); wtm_at "znx"))
def sp__law_put (K : PySem.W.Frag) : Sp := fun vs H Q _ => ∃ (p dp i m dm n1 d dd n2 hl : Addr) (room g g2 mn : Int) (es es2 : List PyData) (ins : List Int) (hs : List (Addr × List Int)) (ak : Nat) (hd : Addr × List Int) (F : HL), vs = [.ref p, .int room, .ref hl, .int ak, .int mn] ∧ (hs[ak]? = some hd) ∧ (1 ≤ mn ∧ mn ≤ 100) ∧ (room ≤ 64) ∧ ((ins.length : Int) ≤ room) ∧ (LogOk es es2 g g2 ins) ∧ (es.length ≤ 9000) ∧ (hd.2.length ≤ 1000) ∧ Own H ((endB K "Mouth" m dm n1 es true p g) ++ ((pipeB K p dp i m d room ins) ++ ((endB K "Drain" d dd n2 es2 true p g2) ++ (([(hl, .lst (hnR hs))]) ++ ((bigB hnB hs) ++ F))))) ∧ (∀ (i' : Addr) (es' : List PyData) (g' : Int) (ins' : List Int) (hd' : Addr × List Int) (H' : Hp), Own H' ((endB K "Mouth" m dm n1 es' true p g') ++ ((pipeB K p dp i' m d room ins') ++ ((endB K "Drain" d dd n2 es2 true p g2) ++ (([(hl, .lst (hnR (hs.set ak hd')))]) ++ ((bigB hnB (hs.set ak hd')) ++ F))))) → (LogOk es' es2 g' g2 ins') → (ins' ++ hd'.2 = ins ++ hd.2) → ((ins'.length : Int) = ins.length + min (min (hd.2.length : Int) mn) (room - ins.length)) → (es'.length ≤ es.length + 1) → Q (.bl true) H')
theorem len__law_put {vs H Q E} (h : sp__law_put K vs H Q E) : vs.length = 5 := by
  refine no_implicit_lambda% (@Z.stp _ ?_ (fun key hn => ?_))
  ·
      obtain ⟨p, dp, i, m, dm, n1, d, dd, n2, hl, room, g, g2, mn, es, es2, ins, hs, ak, hd, F, rfl, _⟩ := h
      rfl
  simpa only using Z.stc (Z.Stw.mk 5) hn key
theorem ap__law_put {H : Hp} {L R1 R2 R3 R4 F : HL} {Q : VK} {E : XK} {p dp i m dm n1 d dd n2 hl : Addr} {room g g2 mn : Int} {es es2 : List PyData} {ins : List Int} {hs : List (Addr × List Int)} {ak : Nat} {hd : Addr × List Int} (O : Own H L)  (pk1 : Pk L (endB K "Mouth" m dm n1 es true p g) R1) (pk2 : Pk R1 (pipeB K p dp i m d room ins) R2) (pk3 : Pk R2 (endB K "Drain" d dd n2 es2 true p g2) R3) (pk4 : Pk R3 ([(hl, .lst (hnR hs))]) R4) (pk5 : Pk R4 (bigB hnB hs) F) (hk : hs[ak]? = some hd) (hmn : 1 ≤ mn ∧ mn ≤ 100) (hroom : room ≤ 64) (hins : (ins.length : Int) ≤ room) (hL : LogOk es es2 g g2 ins) (hlen : es.length ≤ 9000) (hh : hd.2.length ≤ 1000) (k : ∀ (i' : Addr) (es' : List PyData) (g' : Int) (ins' : List Int) (hd' : Addr × List Int), (LogOk es' es2 g' g2 ins') → (ins' ++ hd'.2 = ins ++ hd.2) → ((ins'.length : Int) = ins.length + min (min (hd.2.length : Int) mn) (room - ins.length)) → (es'.length ≤ es.length + 1) → ∀ H', Own H' ((endB K "Mouth" m dm n1 es' true p g') ++ ((pipeB K p dp i' m d room ins') ++ ((endB K "Drain" d dd n2 es2 true p g2) ++ (([(hl, .lst (hnR (hs.set ak hd')))]) ++ ((bigB hnB (hs.set ak hd')) ++ F))))) → Q (.bl true) H') : sp__law_put K [.ref p, .int room, .ref hl, .int ak, .int mn] H Q E :=
  ⟨p, dp, i, m, dm, n1, d, dd, n2, hl, room, g, g2, mn, es, es2, ins, hs, ak, hd, F, rfl, hk, hmn, hroom, hins, hL, hlen, hh, O.sub (.cons pk1 (.cons pk2 (.cons pk3 (.cons pk4 (.cons pk5 .all))))), (fun i' es' g' ins' hd' H' O' q0 q1 q2 q3 => k i' es' g' ins' hd' q0 q1 q2 q3 H' O')⟩
theorem ok__law_put (T : Txt K mg) : Cal P w K mg base 4 "_law_put" (sp__law_put K) [] := by
  refine no_implicit_lambda% (@Z.stp _ ?_ (fun key hn => ?_))
  ·
      have m_Pipe_held_0 : Met P w K mg base 3 (He.ga K "Pipe") "held" (sp_Pipe_held K) [] := (ok_Pipe_held_0 T).mono (by decide)
      have m_Mouth_put_1 : Met P w K mg base 3 (He.ga K "Mouth") "put" (sp_Mouth_put K) [] := (ok_Mouth_put_1 T).mono (by decide)
      have m_Pipe_into_0 : Met P w K mg base 3 (He.ga K "Pipe") "into" (sp_Pipe_into K) [] := (ok_Pipe_into_0 T).mono (by decide)
      refine cal_x T.d__law_put sc__law_put (fun _ _ _ _ _ _ us hl => match us, hl with | [_, _, _, _, _], _ => rfl) (fun vs H Q E h => len__law_put h) (fun cdv A outer s f H vs Q E hr h kx po => ?_)
      refine ⟨_, (pss_cons (ps_set (i := 5) sc__law_put.nd rfl (Or.inl rfl) (pe_mE0 kx m_Pipe_held_0 hr (by decide) (pv 0)))
          (pss_cons (ps_set (i := 6) sc__law_put.nd rfl (Or.inl rfl) (pe_slice sl_z (pe_ix ix_seq (pv 2) (pv 3) (fun _ _ => rfl)) po_none (po_some (pv 4))))
          (pss_cons (ps_if (pt_cmpR (op_zEq (uI hr)) (pe_callB call_zLen rfl T.f_len bt_len (pa_cons (pv 6) pa_nil)) pe_int (nomark _))
          (pss_one (ps_ret pe_bl))
          pss_nil)
          (pss_cons (ps_set (i := 7) sc__law_put.nd rfl (Or.inl rfl) (pe_mE kx m_Mouth_put_1 hr (by decide) (pe_mE0 kx m_Pipe_into_0 hr (by decide) (pv 0)) (pa_cons (pe_callTy call_zList rfl T.f_list bt_list (pa_cons (pv 6) pa_nil)) pa_nil)))
          (pss_cons (ps_set (i := 8) sc__law_put.nd rfl (Or.inl rfl) (pe_slice sl_z (pv 6) po_none (po_some (pe_op op_zSub (pv 1) (pe_callB call_zLen rfl T.f_len bt_len (pa_cons (pv 5) pa_nil))))))
          (pss_cons (ps_asg (pe_slice sl_z (pe_ix ix_seq (pv 2) (pv 3) (fun _ _ => rfl)) (po_some (pe_callB call_zLen rfl T.f_len bt_len (pa_cons (pv 8) pa_nil))) po_none) (pg_sub (pv 2) (pv 3) set_list))
          (pss_cons (ps_if (pt_cmpR (op_zEq (uI hr)) (pe_callB call_zLen rfl T.f_len bt_len (pa_cons (pv 8) pa_nil)) pe_int (nomark _))
          (pss_one (ps_ret (pe_andT (pe_cmpR op_zIs (pv 7) pe_non (nomark _)) (pe_one (pe_cmpR (op_zEq (uI hr)) (pe_mE0 kx m_Pipe_held_0 hr (by decide) (pv 0)) (pv 5) (nomark _))))))
          pss_nil)
          (pss_one (ps_ret (pe_andT (pe_cmpR (op_zEq (uI hr)) (pv 7) (pe_callB call_zLen rfl T.f_len bt_len (pa_cons (pv 8) pa_nil)) (nomark _)) (pe_one (pe_cmpR (op_zEq (uI hr)) (pe_mE0 kx m_Pipe_held_0 hr (by decide) (pv 0)) (pe_op op_zAdd (pv 5) (pv 8)) (nomark _))))))))))))), ?_⟩
      try dsimp only [cxOf, Cx.tr, Cx.suite, Cx.nox, Cx.wish]
      obtain ⟨p, dp, i, m, dm, n1, d, dd, n2, hl, room, g, g2, mn, es, es2, ins, hs, ak, hd, F, rfl, hk, hmn, hroom, hins, hL, hlen, hh, O, k⟩ := h
      wtm_at "zun"
      refine w_start (σ := [some (.ref p), some (.int room), some (.ref hl), some (.int ak), some (.int mn), none, none, none, none]) rfl ?_
      have hkl := (List.getElem?_eq_some_iff.mp hk).1
      rw [hnB_at hk] at O
      simp only [hl_assoc] at O
      have hF := pre_drop hd.2 (room - ins.length).toNat mn.toNat
      have hFl : (((hd.2.take mn.toNat).take (room - ins.length).toNat).length : Int) = min (min (hd.2.length : Int) mn) (room - ins.length) := by rw [List.length_take, List.length_take]; omega
      wtm_at "zgo"
      · have h0 : hd.2.length = 0 := by rw [List.length_take] at h; omega
        exact k i es g ins hd _ (by (rw [set_self hk, hnB_at hk]; simp only [hl_assoc]; wtm_at "zown")) hL rfl (by omega) (by omega)
      · have hz := hF
        rw [hq3, List.drop_zero] at hz
        have e0 : hd.2.drop ((((hd.2.take mn.toNat).take (room - ins.length).toNat).length : Int)).toNat = hd.2 := by rw [hq3]; rfl
        rw [e0] at O
        exact k i (es ++ [.tuple [.str "put", .int g, .list ((hd.2.take mn.toNat).map PyData.int), .str "stall"]]) g ins (_, hd.2) _ (by (rw [hnB_set hk]; simp only [hl_assoc]; wtm_at "zown")) (hL.stallP (ns := hd.2.take mn.toNat)) (by exact rfl) (by omega) (by rw [List.length_append]; exact Nat.le_refl _)
      · rw [Int.toNat_natCast] at O
        have hp := hL.put (ns := hd.2.take mn.toNat) (j := ((hd.2.take mn.toNat).take (room - ins.length).toNat).length) (by rw [List.length_take]; omega) (by rw [List.length_take]; omega)
        rw [take_len] at hp
        exact k _ _ _ (ins ++ (hd.2.take mn.toNat).take (room - ins.length).toNat) (_, hd.2.drop ((hd.2.take mn.toNat).take (room - ins.length).toNat).length) _ (by (rw [hnB_set hk]; simp only [hl_assoc]; wtm_at "zown")) hp (by rw [List.append_assoc]; exact congrArg _ hF) (by rw [List.length_append]; omega) (by rw [List.length_append]; exact Nat.le_refl _)
  simpa only using Z.stc (Z.Stw.mk 5) hn key
local macro_rules | `(tactic| wtm_at "zcall") => `(tactic| ((with_reducible apply ap__law_put O); (· wtm_at "zpk"); (· wtm_at "zpk"); (· wtm_at "zpk"); (· wtm_at "zpk"); (· wtm_at "zpk"); (· wtm_at "zsd"); (· wtm_at "zsd"); (· wtm_at "zsd"); (· wtm_at "zsd"); (· wtm_at "zsd"); (· wtm_at "zsd"); (· wtm_at "zsd"); intro i' es' g' ins' hd' hq1 hq2 hq3 hq4; wtm_at "znx"))
def sp__law_taken (K : PySem.W.Frag) : Sp := fun vs H Q _ => ∃ (p dp i m dm n1 d dd n2 hl : Addr) (room g g2 mn : Int) (es es2 : List PyData) (ins : List Int) (hs : List (Addr × List Int)) (ak : Nat) (hd : Addr × List Int) (F : HL), vs = [.ref p, .ref hl, .int ak, .int mn] ∧ (hs[ak + 1]? = some hd) ∧ (1 ≤ mn ∧ mn ≤ 100) ∧ (room ≤ 64) ∧ ((ins.length : Int) ≤ room) ∧ (LogOk es es2 g g2 ins) ∧ (es2.length ≤ 9000) ∧ (hd.2.length ≤ 1000) ∧ Own H ((endB K "Mouth" m dm n1 es true p g) ++ ((pipeB K p dp i m d room ins) ++ ((endB K "Drain" d dd n2 es2 true p g2) ++ (([(hl, .lst (hnR hs))]) ++ ((bigB hnB hs) ++ F))))) ∧ (∀ (i' : Addr) (es2' : List PyData) (g2' : Int) (ins' : List Int) (hd' : Addr × List Int) (H' : Hp), Own H' ((endB K "Mouth" m dm n1 es true p g) ++ ((pipeB K p dp i' m d room ins') ++ ((endB K "Drain" d dd n2 es2' true p g2') ++ (([(hl, .lst (hnR (hs.set (ak + 1) hd')))]) ++ ((bigB hnB (hs.set (ak + 1) hd')) ++ F))))) → (LogOk es es2' g g2' ins') → (hd'.2 ++ ins' = hd.2 ++ ins) → ((ins'.length : Int) = ins.length - min (ins.length : Int) mn) → (es2'.length ≤ es2.length + 1) → Q (.bl true) H')
theorem len__law_taken {vs H Q E} (h : sp__law_taken K vs H Q E) : vs.length = 4 := by
  refine no_implicit_lambda% (@Z.stp _ ?_ (fun key hn => ?_))
  ·
      obtain ⟨p, dp, i, m, dm, n1, d, dd, n2, hl, room, g, g2, mn, es, es2, ins, hs, ak, hd, F, rfl, _⟩ := h
      rfl
  simpa only using Z.stc (Z.Stw.mk 5) hn key
theorem ap__law_taken {H : Hp} {L R1 R2 R3 R4 F : HL} {Q : VK} {E : XK} {p dp i m dm n1 d dd n2 hl : Addr} {room g g2 mn : Int} {es es2 : List PyData} {ins : List Int} {hs : List (Addr × List Int)} {ak : Nat} {hd : Addr × List Int} (O : Own H L)  (pk1 : Pk L (endB K "Mouth" m dm n1 es true p g) R1) (pk2 : Pk R1 (pipeB K p dp i m d room ins) R2) (pk3 : Pk R2 (endB K "Drain" d dd n2 es2 true p g2) R3) (pk4 : Pk R3 ([(hl, .lst (hnR hs))]) R4) (pk5 : Pk R4 (bigB hnB hs) F) (hk : hs[ak + 1]? = some hd) (hmn : 1 ≤ mn ∧ mn ≤ 100) (hroom : room ≤ 64) (hins : (ins.length : Int) ≤ room) (hL : LogOk es es2 g g2 ins) (hlen : es2.length ≤ 9000) (hh : hd.2.length ≤ 1000) (k : ∀ (i' : Addr) (es2' : List PyData) (g2' : Int) (ins' : List Int) (hd' : Addr × List Int), (LogOk es es2' g g2' ins') → (hd'.2 ++ ins' = hd.2 ++ ins) → ((ins'.length : Int) = ins.length - min (ins.length : Int) mn) → (es2'.length ≤ es2.length + 1) → ∀ H', Own H' ((endB K "Mouth" m dm n1 es true p g) ++ ((pipeB K p dp i' m d room ins') ++ ((endB K "Drain" d dd n2 es2' true p g2') ++ (([(hl, .lst (hnR (hs.set (ak + 1) hd')))]) ++ ((bigB hnB (hs.set (ak + 1) hd')) ++ F))))) → Q (.bl true) H') : sp__law_taken K [.ref p, .ref hl, .int ak, .int mn] H Q E :=
  ⟨p, dp, i, m, dm, n1, d, dd, n2, hl, room, g, g2, mn, es, es2, ins, hs, ak, hd, F, rfl, hk, hmn, hroom, hins, hL, hlen, hh, O.sub (.cons pk1 (.cons pk2 (.cons pk3 (.cons pk4 (.cons pk5 .all))))), (fun i' es2' g2' ins' hd' H' O' q0 q1 q2 q3 => k i' es2' g2' ins' hd' q0 q1 q2 q3 H' O')⟩
theorem ok__law_taken (T : Txt K mg) : Cal P w K mg base 4 "_law_taken" (sp__law_taken K) [] := by
  refine no_implicit_lambda% (@Z.stp _ ?_ (fun key hn => ?_))
  ·
      have m_Pipe_held_0 : Met P w K mg base 3 (He.ga K "Pipe") "held" (sp_Pipe_held K) [] := (ok_Pipe_held_0 T).mono (by decide)
      have m_Drain_take_1 : Met P w K mg base 3 (He.ga K "Drain") "take" (sp_Drain_take K) [] := (ok_Drain_take_1 T).mono (by decide)
      have m_Pipe_out_0 : Met P w K mg base 3 (He.ga K "Pipe") "out" (sp_Pipe_out K) [] := (ok_Pipe_out_0 T).mono (by decide)
      refine cal_x T.d__law_taken sc__law_taken (fun _ _ _ _ _ _ us hl => match us, hl with | [_, _, _, _], _ => rfl) (fun vs H Q E h => len__law_taken h) (fun cdv A outer s f H vs Q E hr h kx po => ?_)
      refine ⟨_, (pss_cons (ps_set (i := 4) sc__law_taken.nd rfl (Or.inl rfl) (pe_mE0 kx m_Pipe_held_0 hr (by decide) (pv 0)))
          (pss_cons (ps_set (i := 5) sc__law_taken.nd rfl (Or.inl rfl) (pe_mE kx m_Drain_take_1 hr (by decide) (pe_mE0 kx m_Pipe_out_0 hr (by decide) (pv 0)) (pa_cons (pv 3) pa_nil)))
          (pss_cons (ps_if (pt_cmpR (op_zEq (uI hr)) (pe_callB call_zLen rfl T.f_len bt_len (pa_cons (pv 4) pa_nil)) pe_int (nomark _))
          (pss_one (ps_ret (pe_cmpR op_zIs (pv 5) pe_non (nomark _))))
          pss_nil)
          (pss_cons (ps_asg (pe_op op_zAdd (pe_ix ix_seq (pv 1) (pe_op op_zAdd (pv 2) pe_int) (fun _ _ => rfl)) (pe_slice sl_z (pv 4) po_none (po_some (pv 3)))) (pg_sub (pv 1) (pe_op op_zAdd (pv 2) pe_int) set_list))
          (pss_one (ps_ret (pe_andT (pe_cmpR (op_zEq (uI hr)) (pv 5) (pe_slice sl_z (pv 4) po_none (po_some (pv 3))) (nomark _)) (pe_one (pe_cmpR (op_zEq (uI hr)) (pe_mE0 kx m_Pipe_held_0 hr (by decide) (pv 0)) (pe_slice sl_z (pv 4) (po_some (pv 3)) po_none) (nomark _)))))))))), ?_⟩
      try dsimp only [cxOf, Cx.tr, Cx.suite, Cx.nox, Cx.wish]
      obtain ⟨p, dp, i, m, dm, n1, d, dd, n2, hl, room, g, g2, mn, es, es2, ins, hs, ak, hd, F, rfl, hk, hmn, hroom, hins, hL, hlen, hh, O, k⟩ := h
      wtm_at "zun"
      refine w_start (σ := [some (.ref p), some (.ref hl), some (.int ak), some (.int mn), none, none]) rfl ?_
      have hkl := (List.getElem?_eq_some_iff.mp hk).1
      rw [hnB_at hk] at O
      simp only [hl_assoc] at O
      have htl := take_len ins mn.toNat
      have htn : ((ins.take mn.toNat).length : Int) = min (ins.length : Int) mn := by rw [List.length_take]; omega
      have hdr : ins.drop (ins.take mn.toNat).length = ins.drop mn.toNat := by
        rw [List.length_take]
        rcases Nat.le_total mn.toNat ins.length with z | z
        · rw [Nat.min_eq_left z]
        · rw [Nat.min_eq_right z, List.drop_eq_nil_of_le (Nat.le_refl _), List.drop_eq_nil_of_le z]
      wtm_at "zgo"
      · exact k i (es2 ++ [.tuple [.str "take", .int g2, .int mn, .str "stall"]]) g2 ins hd _ (by (rw [set_self hk, hnB_at hk]; simp only [hl_assoc]; wtm_at "zown")) (hL.stallT (m := mn)) rfl (by omega) (by rw [List.length_append]; exact Nat.le_refl _)
      · rw [Int.toNat_natCast, hdr] at O
        have hp := hL.take (m := mn) (k := mn.toNat) (by omega)
        rw [Int.toNat_natCast, hdr, decide_eq_true rfl]
        exact k _ _ _ (ins.drop mn.toNat) (_, hd.2 ++ ins.take mn.toNat) _ (by (rw [hnB_set hk]; simp only [hl_assoc]; wtm_at "zown")) hp (by rw [List.append_assoc, List.take_append_drop]) (by rw [List.length_drop]; omega) (by rw [List.length_append]; exact Nat.le_refl _)
  simpa only using Z.stc (Z.Stw.mk 5) hn key
local macro_rules | `(tactic| wtm_at "zcall") => `(tactic| ((with_reducible apply ap__law_taken O); (· wtm_at "zpk"); (· wtm_at "zpk"); (· wtm_at "zpk"); (· wtm_at "zpk"); (· wtm_at "zpk"); (· wtm_at "zsd"); (· wtm_at "zsd"); (· wtm_at "zsd"); (· wtm_at "zsd"); (· wtm_at "zsd"); (· wtm_at "zsd"); (· wtm_at "zsd"); intro i' es2' g2' ins' hd' hq1 hq2 hq3 hq4; wtm_at "znx"))

/-! ### for k in range(n - 1, -1, -1) -/
def Rng3 (vs : List V) (R : It → Hp → Prop) (H : Hp) : Prop := ∃ (i j c : Int) (n : Nat), vs = [.int i, .int j, .int c] ∧ RgC i j c n ∧ R (Itc i c n) H
theorem w_iRng3 {σ : St} {H : Hp} {ta : TA} {R : It → Hp → Prop} (h : ta σ H fun vs H1 => Rng3 vs R H1) : iRng3 ta σ H R := h
theorem w_rngDn {H : Hp} {R : It → Hp → Prop} {n : Nat} (hn : n ≤ 1000000000) (k : R (Itc ((n : Int) - 1) (-1) n) H) : Rng3 [.int ((n : Int) - 1), .int (-1), .int (-1)] R H := by
  refine no_implicit_lambda% (@Z.stp _ ?_ (fun key hn => ?_))
  ·
      have h := RgC.neg (i := (n : Int) - 1) (j := -1) (by omega) (by omega) (by decide) (by decide)
      rw [show ((n : Int) - 1 - -1).toNat = n by omega] at h
      exact ⟨_, _, _, _, rfl, h, k⟩
  simpa only using Z.stc (Z.Stw.mk 5) hn key
theorem w_forRDn {g : TG} {tb : TS} {nx : St → Hp → Prop} {rt : VK} {σ : St} {H : Hp} {n : Nat} (Pv : Nat → St → Hp → Prop) (h0 : Pv 0 σ H) (hs : ∀ i k σ H, i < n → k + i + 1 = n → Pv i σ H → g (.int (k : Nat)) σ H fun σ2 H2 => tb ⟨Pv (i + 1), rt, nx, Pv (i + 1)⟩ σ2 H2) (hd : ∀ σ H, Pv n σ H → nx σ H) : ForR (Itc ((n : Int) - 1) (-1) n) g tb nx rt σ H := by
  refine no_implicit_lambda% (@Z.stp _ ?_ (fun key hn => ?_))
  ·
      refine w_forW walk_rangeC Pv h0 (fun _ _ _ _ _ => trivial) (fun i x σ H H' hi p y => ?_) hd
      obtain ⟨rfl, rfl⟩ := y
      show g (.int ((n : Int) - 1 + (i : Nat) * (-1))) _ _ _
      rw [show ((n : Int) - 1 + (i : Nat) * (-1)) = ((n - 1 - i : Nat) : Int) by omega]
      exact hs i _ σ _ hi (by omega) p
  simpa only using Z.stc (Z.Stw.mk 5) hn key
local macro_rules | `(tactic| wtm_at "zcall") => `(tactic| first
  | with_reducible refine w_iRng3 ?_
  | ((with_reducible apply w_rngDn); (· omega)))

/-! ### a list of pipes -/
structure Pp where
  p : Addr
  dp : Addr
  i : Addr
  m : Addr
  dm : Addr
  n1 : Addr
  d : Addr
  dd : Addr
  n2 : Addr
  room : Int
  g : Int
  g2 : Int
  es : List PyData
  es2 : List PyData
  ins : List Int
  b : Bool
def ppB (K : PySem.W.Frag) (r : Pp) : HL := endB K "Mouth" r.m r.dm r.n1 r.es r.b r.p r.g ++ (pipeB K r.p r.dp r.i r.m r.d r.room r.ins ++ endB K "Drain" r.d r.dd r.n2 r.es2 true r.p r.g2)
def ppR (rs : List Pp) : List V := rs.map fun r => V.ref r.p
def inL (rs : List Pp) : List (List Int) := rs.map Pp.ins
def hdL (hs : List (Addr × List Int)) : List (List Int) := hs.map Prod.snd
theorem ppR_len {rs : List Pp} : (ppR rs).length = rs.length := by unfold ppR; rw [List.length_map]
theorem ppR_get {rs : List Pp} {k : Nat} {r : Pp} (e : rs[k]? = some r) : (ppR rs)[k]? = some (.ref r.p) := by unfold ppR; rw [List.getElem?_map, e]; rfl
theorem ppR_set {rs : List Pp} {k : Nat} {r r' : Pp} (e : rs[k]? = some r) (h : r'.p = r.p) : ppR (rs.set k r') = ppR rs := by
  refine no_implicit_lambda% (@Z.stp _ ?_ (fun key hn => ?_))
  ·
      unfold ppR
      rw [List.map_set, h]
      exact set_self (by rw [List.getElem?_map, e]; rfl)
  simpa only using Z.stc (Z.Stw.mk 5) hn key
theorem ppB_at {K : PySem.W.Frag} {rs : List Pp} {k : Nat} {r : Pp} (e : rs[k]? = some r) : bigB (ppB K) rs = bigB (ppB K) (rs.take k) ++ ((endB K "Mouth" r.m r.dm r.n1 r.es r.b r.p r.g ++ (pipeB K r.p r.dp r.i r.m r.d r.room r.ins ++ endB K "Drain" r.d r.dd r.n2 r.es2 true r.p r.g2)) ++ bigB (ppB K) (rs.drop (k + 1))) := bigB_at e
theorem ppB_set {K : PySem.W.Frag} {rs : List Pp} {k : Nat} {r r' : Pp} (e : rs[k]? = some r) : bigB (ppB K) (rs.set k r') = bigB (ppB K) (rs.take k) ++ ((endB K "Mouth" r'.m r'.dm r'.n1 r'.es r'.b r'.p r'.g ++ (pipeB K r'.p r'.dp r'.i r'.m r'.d r'.room r'.ins ++ endB K "Drain" r'.d r'.dd r'.n2 r'.es2 true r'.p r'.g2)) ++ bigB (ppB K) (rs.drop (k + 1))) := bigB_set e
theorem w_ixPp {K : PySem.W.Frag} {H : Hp} {L R : HL} {Q : VK} {a : Addr} {k : Nat} {rs : List Pp} {r : Pp} (O : Own H L) (ha : Pk L [(a, .lst (ppR rs))] R) (e : rs[k]? = some r) (q : Q (.ref r.p) H) : rIx K (.ref a) (.int (k : Nat)) H Q := w_ixL O ha (atI_nat (ppR_get e)) q
theorem w_lenPp {K : PySem.W.Frag} {H : Hp} {L R : HL} {Q : VK} {a : Addr} {rs : List Pp} (O : Own H L) (ha : Pk L [(a, .lst (ppR rs))] R) (k : Q (.int rs.length) H) : zLen K [.ref a] H Q := w_lenL O ha (by rw [ppR_len]; exact k)
theorem w_lenHn {K : PySem.W.Frag} {H : Hp} {L R : HL} {Q : VK} {a : Addr} {hs : List (Addr × List Int)} (O : Own H L) (ha : Pk L [(a, .lst (hnR hs))] R) (k : Q (.int hs.length) H) : zLen K [.ref a] H Q := w_lenL O ha (by rw [hnR_len]; exact k)
theorem ordL_step {is hs : List (List Int)} {k : Nat} {i h : List Int} (e1 : is[k]? = some i) (e2 : hs[k]? = some h) : ordL (is.drop k) (hs.drop k) = ordL (is.drop (k + 1)) (hs.drop (k + 1)) ++ i ++ h := by
  refine no_implicit_lambda% (@Z.stp _ ?_ (fun key hn => ?_))
  ·
      obtain ⟨l1, rfl⟩ := List.getElem?_eq_some_iff.mp e1
      obtain ⟨l2, rfl⟩ := List.getElem?_eq_some_iff.mp e2
      rw [List.drop_eq_getElem_cons l1, List.drop_eq_getElem_cons l2]
      rfl
  simpa only using Z.stc (Z.Stw.mk 5) hn key
theorem inL_get {rs : List Pp} {k : Nat} {r : Pp} (e : rs[k]? = some r) : (inL rs)[k]? = some r.ins := by unfold inL; rw [List.getElem?_map, e]; rfl
theorem hdL_get {hs : List (Addr × List Int)} {k : Nat} {h : Addr × List Int} (e : hs[k]? = some h) : (hdL hs)[k]? = some h.2 := by unfold hdL; rw [List.getElem?_map, e]; rfl
theorem ordL_len : ∀ {is hs : List (List Int)} {A B : Nat}, (∀ i ∈ is, i.length ≤ A) → (∀ h ∈ hs, h.length ≤ B) → (ordL is hs).length ≤ is.length * (A + B) + B
  | [], [], _, _, _, _ => Nat.zero_le _
  | [], h :: hs, A, B, _, h2 => by have := h2 h List.mem_cons_self; show h.length ≤ _; omega
  | i :: is, [], _, _, _, _ => Nat.zero_le _
  | i :: is, h :: hs, A, B, h1, h2 => by
    have ih := ordL_len (A := A) (B := B) (fun x m => h1 x (List.mem_cons_of_mem _ m)) (fun x m => h2 x (List.mem_cons_of_mem _ m))
    have a := h1 i List.mem_cons_self
    have b := h2 h List.mem_cons_self
    show (ordL is hs ++ i ++ h).length ≤ _
    rw [List.length_append, List.length_append, List.length_cons, Nat.succ_mul]
    omega
local macro_rules | `(tactic| wtm_at "zcall") => `(tactic| first
  | ((with_reducible apply w_lenPp O); (· wtm_at "zpk1"))
  | ((with_reducible apply w_lenHn O); (· wtm_at "zpk1"))
  | ((with_reducible apply w_ixPp O); (· wtm_at "zpk1"); (· with_reducible assumption)))
def sp__law_in_order (K : PySem.W.Frag) : Sp := fun vs H Q _ => ∃ (pl hl : Addr) (rs : List Pp) (hs : List (Addr × List Int)) (F : HL), vs = [.ref pl, .ref hl] ∧ (hs.length = rs.length + 1) ∧ (rs.length ≤ 3) ∧ (∀ h ∈ hs, h.2.length ≤ 1000) ∧ (∀ r ∈ rs, r.ins.length ≤ 64) ∧ Own H (([(pl, .lst (ppR rs))]) ++ ((bigB (ppB K) rs) ++ (([(hl, .lst (hnR hs))]) ++ ((bigB hnB hs) ++ F)))) ∧ (∀ (q : Addr) (H' : Hp), Own H' (([(q, .lst ((ordL (inL rs) (hdL hs)).map V.int))]) ++ (([(pl, .lst (ppR rs))]) ++ ((bigB (ppB K) rs) ++ (([(hl, .lst (hnR hs))]) ++ ((bigB hnB hs) ++ F))))) → Q (.ref q) H')
theorem len__law_in_order {vs H Q E} (h : sp__law_in_order K vs H Q E) : vs.length = 2 := by
  refine no_implicit_lambda% (@Z.stp _ ?_ (fun key hn => ?_))
  ·
      obtain ⟨pl, hl, rs, hs, F, rfl, _⟩ := h
      rfl
  simpa only using Z.stc (Z.Stw.mk 5) hn key
theorem ap__law_in_order {H : Hp} {L R1 R2 R3 F : HL} {Q : VK} {E : XK} {pl hl : Addr} {rs : List Pp} {hs : List (Addr × List Int)} (O : Own H L)  (pk1 : Pk L ([(pl, .lst (ppR rs))]) R1) (pk2 : Pk R1 (bigB (ppB K) rs) R2) (pk3 : Pk R2 ([(hl, .lst (hnR hs))]) R3) (pk4 : Pk R3 (bigB hnB hs) F) (hln : hs.length = rs.length + 1) (hrs : rs.length ≤ 3) (hh : ∀ h ∈ hs, h.2.length ≤ 1000) (hr : ∀ r ∈ rs, r.ins.length ≤ 64) (k : ∀ (q : Addr), ∀ H', Own H' (([(q, .lst ((ordL (inL rs) (hdL hs)).map V.int))]) ++ (([(pl, .lst (ppR rs))]) ++ ((bigB (ppB K) rs) ++ (([(hl, .lst (hnR hs))]) ++ ((bigB hnB hs) ++ F))))) → Q (.ref q) H') : sp__law_in_order K [.ref pl, .ref hl] H Q E :=
  ⟨pl, hl, rs, hs, F, rfl, hln, hrs, hh, hr, O.sub (.cons pk1 (.cons pk2 (.cons pk3 (.cons pk4 .all)))), (fun q H' O'  => k q H' O')⟩
theorem ok__law_in_order (T : Txt K mg) : Cal P w K mg base 2 "_law_in_order" (sp__law_in_order K) [] := by
  refine no_implicit_lambda% (@Z.stp _ ?_ (fun key hn => ?_))
  ·
      have m_Pipe_held_0 : Met P w K mg base 1 (He.ga K "Pipe") "held" (sp_Pipe_held K) [] := (ok_Pipe_held_0 T).mono (by decide)
      refine cal_x T.d__law_in_order sc__law_in_order (fun _ _ _ _ _ _ us hl => match us, hl with | [_, _], _ => rfl) (fun vs H Q E h => len__law_in_order h) (fun cdv A outer s f H vs Q E hr h kx po => ?_)
      refine ⟨_, (pss_cons (ps_set (i := 2) sc__law_in_order.nd rfl (Or.inl rfl) (pe_callTy call_zList rfl T.f_list bt_list (pa_cons (pe_ix ix_seq (pv 1) (pe_callB call_zLen rfl T.f_len bt_len (pa_cons (pv 0) pa_nil)) (fun _ _ => rfl)) pa_nil)))
          (pss_cons (ps_for po rfl (pi_range3 rfl T.f_range (pa_cons (pe_op op_zSub (pe_callB call_zLen rfl T.f_len bt_len (pa_cons (pv 0) pa_nil)) pe_int) (pa_cons (pe_un un_zNeg pe_int) (pa_cons (pe_un un_zNeg pe_int) pa_nil)))) (pg_name (i := 3) sc__law_in_order.nd rfl (Or.inl rfl))
          (pss_one (ps_set (i := 2) sc__law_in_order.nd rfl (Or.inl rfl) (pe_op op_zAdd (pe_op op_zAdd (pv 2) (pe_mE0 kx m_Pipe_held_0 hr (by decide) (pe_ix ix_seq (pv 0) (pv 3) (fun _ _ => rfl)))) (pe_ix ix_seq (pv 1) (pv 3) (fun _ _ => rfl))))))
          (pss_one (ps_ret (pv 2))))), ?_⟩
      try dsimp only [cxOf, Cx.tr, Cx.suite, Cx.nox, Cx.wish]
      obtain ⟨pl, hl, rs, hs, F, rfl, hln, hrs, hh, hr, O, k⟩ := h
      wtm_at "zun"
      refine w_start (σ := [some (.ref pl), some (.ref hl), none, none]) rfl ?_
      obtain ⟨hz, ehz⟩ : ∃ hz, hs[rs.length]? = some hz := ⟨_, List.getElem?_eq_getElem (by omega)⟩
      wtm_at "zn"
      obtain ⟨q0, hq0⟩ : ∃ z, z = q := ⟨_, rfl⟩
      subst hq0
      wtm_at "zn"
      refine w_forRDn (fun i σ H => ∃ (q : Addr) (v3 : Option V), σ = [some (.ref pl), some (.ref hl), some (.ref q), v3] ∧ Own H ([(q, .lst ((ordL ((inL rs).drop (rs.length - i)) ((hdL hs).drop (rs.length - i))).map V.int))] ++ ([(pl, .lst (ppR rs))] ++ (bigB (ppB K) rs ++ ([(hl, .lst (hnR hs))] ++ (bigB hnB hs ++ F)))))) ?_ ?_ ?_
      · have e : ordL ((inL rs).drop (rs.length - 0)) ((hdL hs).drop (rs.length - 0)) = hz.2 := by
          have h1 : (inL rs).drop rs.length = [] := List.drop_eq_nil_of_le (by unfold inL; rw [List.length_map]; exact Nat.le_refl _)
          have h2 := hdL_get ehz
          obtain ⟨l2, e2⟩ := List.getElem?_eq_some_iff.mp h2
          rw [Nat.sub_zero, h1, List.drop_eq_getElem_cons l2, e2]
          rfl
        exact ⟨_, _, rfl, by rw [e]; wtm_at "zown"⟩
      · clear O
        rintro i kk σ H hi hki ⟨q, v3, rfl, O⟩
        obtain ⟨r1, er⟩ : ∃ r1, rs[kk]? = some r1 := ⟨_, List.getElem?_eq_getElem (by omega)⟩
        obtain ⟨h1, eh⟩ : ∃ h1, hs[kk]? = some h1 := ⟨_, List.getElem?_eq_getElem (by omega)⟩
        have hst := ordL_step (inL_get er) (hdL_get eh)
        rw [show rs.length - i = kk + 1 by omega] at O
        have hr1 := hr r1 (List.mem_of_getElem? er)
        have hh1 := hh h1 (List.mem_of_getElem? eh)
        have hol : (ordL ((inL rs).drop (kk + 1)) ((hdL hs).drop (kk + 1))).length ≤ 10000 := by
          refine Nat.le_trans (ordL_len (A := 64) (B := 1000) (fun x m => ?_) (fun x m => ?_)) ?_
          · obtain ⟨r, hr2, rfl⟩ := List.mem_map.mp (List.mem_of_mem_drop m)
            exact hr r hr2
          · obtain ⟨r, hr2, rfl⟩ := List.mem_map.mp (List.mem_of_mem_drop m)
            exact hh r hr2
          · have : ((inL rs).drop (kk + 1)).length ≤ 3 := by unfold inL; rw [List.length_drop, List.length_map]; omega
            have := Nat.mul_le_mul_right (64 + 1000) this
            omega
        generalize hG : ordL ((inL rs).drop (kk + 1)) ((hdL hs).drop (kk + 1)) = G at *
        have O0 := O
        rw [ppB_at er] at O
        simp only [hl_assoc] at O
        wtm_at "zgo"
        exact ⟨_, _, rfl, by (rw [show rs.length - (i + 1) = kk by omega, hst, ppB_at er]; simp only [hl_assoc]; wtm_at "zown")⟩
      · clear O
        rintro σ H ⟨q, v3, rfl, O⟩
        rw [Nat.sub_self, List.drop_zero, List.drop_zero] at O
        wtm_at "zgo"
        exact k _ _ (by wtm_at "zown")
  simpa only using Z.stc (Z.Stw.mk 5) hn key
local macro_rules | `(tactic| wtm_at "zcall") => `(tactic| ((with_reducible apply ap__law_in_order O); (· wtm_at "zpk"); (· wtm_at "zpk"); (· wtm_at "zpk"); (· wtm_at "zpk"); (· wtm_at "zsd"); (· wtm_at "zsd"); (· wtm_at "zsd"); (· wtm_at "zsd"); intro q; wtm_at "znx"))

/-! ### a loop over an owned list of data that leads something along -/
theorem w_forXE {κ : Type} {K : PySem.W.Frag} {σ : St} {H : Hp} {g : TG} {tb : TS} {nx : St → Hp → Prop} {rt : VK} {a : Addr} {ds : List PyData} (X : κ → HL) (S : St → κ → St) (Rr : Nat → κ → Prop) (x0 : κ) (O : Own H ([(a, .xl ds)] ++ X x0)) (h0 : σ = S σ x0) (hR : Rr 0 x0)
    (hs : ∀ vs (i : Nat) d v x H', ds[i]? = some d → Rr i x → Own H' (rvv v d ++ ([(a, .lst vs)] ++ ([(0, .rvs vs ds)] ++ X x))) → g v (S σ x) H' fun σ2 H2 => tb ⟨fun σ3 H3 => ∃ y, σ3 = S σ y ∧ Own H3 ([(a, .lst vs)] ++ ([(0, .rvs vs ds)] ++ X y)) ∧ Rr (i + 1) y, rt, nx, fun σ3 H3 => ∃ y, σ3 = S σ y ∧ Own H3 ([(a, .lst vs)] ++ ([(0, .rvs vs ds)] ++ X y)) ∧ Rr (i + 1) y⟩ σ2 H2)
    (hd : ∀ x H', Rr ds.length x → Own H' ([(a, .xl ds)] ++ X x) → nx (S σ x) H') : ForR (Itl K a) g tb nx rt σ H := by
  refine no_implicit_lambda% (@Z.stp _ ?_ (fun key hn => ?_))
  ·
      obtain ⟨vs, hvl, O2⟩ := xl_open O Pk.here
      refine w_forL (xs := vs) (fun i σ' H' => ∃ y, σ' = S σ y ∧ Own H' ([(a, .lst vs)] ++ ([(0, .rvs vs ds)] ++ X y)) ∧ Rr i y) ⟨x0, h0, O2, hR⟩ (fun i σ' H' _ ⟨_, _, h, _⟩ => .of (h.at1 Pk.here)) ?_ ?_
      · rintro i v σ' H' hx ⟨y, rfl, O', r⟩
        have hi := (List.getElem?_eq_some_iff.mp hx).1
        have he := List.getElem?_eq_getElem (l := ds) (i := i) (by omega)
        exact hs vs i _ v y H' he r (rvs_item (mem_there mem_here) O' hx he)
      · rintro σ' H' ⟨y, rfl, O', r⟩
        exact hd y H' (by rw [hvl] at r; exact r) ((O'.pk (Pk.xl (R' := [(0, .rvs vs ds)] ++ X y) Pk.here (Frzs.rvs mem_here))).sub (Sub.cons Pk.here Sub.right))
  simpa only using Z.stc (Z.Stw.mk 5) hn key

def sp__law_logged (K : PySem.W.Frag) : Sp := fun vs H Q _ => ∃ (p dp i m dm n1 d dd n2 : Addr) (room g g2 : Int) (es es2 : List PyData) (ins : List Int) (b : Bool) (F : HL), vs = [.ref p] ∧ (LogOk es es2 g g2 ins) ∧ (es.length ≤ 9000) ∧ (es2.length ≤ 9000) ∧ Own H ((endB K "Mouth" m dm n1 es b p g) ++ ((pipeB K p dp i m d room ins) ++ ((endB K "Drain" d dd n2 es2 true p g2) ++ F))) ∧ (∀  (H' : Hp), Own H' ((endB K "Mouth" m dm n1 es b p g) ++ ((pipeB K p dp i m d room ins) ++ ((endB K "Drain" d dd n2 es2 true p g2) ++ F))) → Q (.bl true) H')
theorem len__law_logged {vs H Q E} (h : sp__law_logged K vs H Q E) : vs.length = 1 := by
  refine no_implicit_lambda% (@Z.stp _ ?_ (fun key hn => ?_))
  ·
      obtain ⟨p, dp, i, m, dm, n1, d, dd, n2, room, g, g2, es, es2, ins, b, F, rfl, _⟩ := h
      rfl
  simpa only using Z.stc (Z.Stw.mk 5) hn key
theorem ap__law_logged {H : Hp} {L R1 R2 F : HL} {Q : VK} {E : XK} {p dp i m dm n1 d dd n2 : Addr} {room g g2 : Int} {es es2 : List PyData} {ins : List Int} {b : Bool} (O : Own H L)  (pk1 : Pk L (endB K "Mouth" m dm n1 es b p g) R1) (pk2 : Pk R1 (pipeB K p dp i m d room ins) R2) (pk3 : Pk R2 (endB K "Drain" d dd n2 es2 true p g2) F) (hL : LogOk es es2 g g2 ins) (hl1 : es.length ≤ 9000) (hl2 : es2.length ≤ 9000) (k : ∀ H', Own H' ((endB K "Mouth" m dm n1 es b p g) ++ ((pipeB K p dp i m d room ins) ++ ((endB K "Drain" d dd n2 es2 true p g2) ++ F))) → Q (.bl true) H') : sp__law_logged K [.ref p] H Q E :=
  ⟨p, dp, i, m, dm, n1, d, dd, n2, room, g, g2, es, es2, ins, b, F, rfl, hL, hl1, hl2, O.sub (.cons pk1 (.cons pk2 (.cons pk3 .all))), (fun  H' O'  => k  H' O')⟩
theorem ok__law_logged (T : Txt K mg) : Cal P w K mg base 3 "_law_logged" (sp__law_logged K) [] := by
  refine no_implicit_lambda% (@Z.stp _ ?_ (fun key hn => ?_))
  ·
      have m_Mouth_log_0 : Met P w K mg base 2 (He.ga K "Mouth") "log" (sp_Mouth_log K) [] := (ok_Mouth_log_0 T).mono (by decide)
      have m_Pipe_into_0 : Met P w K mg base 2 (He.ga K "Pipe") "into" (sp_Pipe_into K) [] := (ok_Pipe_into_0 T).mono (by decide)
      have m_Drain_log_0 : Met P w K mg base 2 (He.ga K "Drain") "log" (sp_Drain_log K) [] := (ok_Drain_log_0 T).mono (by decide)
      have m_Pipe_out_0 : Met P w K mg base 2 (He.ga K "Pipe") "out" (sp_Pipe_out K) [] := (ok_Pipe_out_0 T).mono (by decide)
      have m_Pipe_held_0 : Met P w K mg base 2 (He.ga K "Pipe") "held" (sp_Pipe_held K) [] := (ok_Pipe_held_0 T).mono (by decide)
      refine cal_x T.d__law_logged sc__law_logged (fun _ _ _ _ _ _ us hl => match us, hl with | [_], _ => rfl) (fun vs H Q E h => len__law_logged h) (fun cdv A outer s f H vs Q E hr h kx po => ?_)
      refine ⟨_, (pss_cons (ps_set (i := 1) sc__law_logged.nd rfl (Or.inl rfl) (pe_lst pa_nil))
          (pss_cons (ps_for po rfl (pi_list (pe_mE0 kx m_Mouth_log_0 hr (by decide) (pe_mE0 kx m_Pipe_into_0 hr (by decide) (pv 0)))) (pg_tup rfl (pgs_cons (pg_name (i := 2) sc__law_logged.nd rfl (Or.inl rfl)) (pgs_cons (pg_name (i := 3) sc__law_logged.nd rfl (Or.inl rfl)) (pgs_cons (pg_name (i := 4) sc__law_logged.nd rfl (Or.inl rfl)) (pgs_cons (pg_name (i := 5) sc__law_logged.nd rfl (Or.inl rfl)) pgs_nil)))))
          (pss_cons (ps_if (PW.pt (pw_or (pt_cmpR (op_zNe (uI hr)) (pv 2) pe_str (nomark _)) (pw_or1 (pt_cmpR (op_zNe (uI hr)) (pv 3) (pe_callB call_zLen rfl T.f_len bt_len (pa_cons (pv 1) pa_nil)) (nomark _)))))
          (pss_one (ps_ret pe_bl))
          pss_nil)
          (pss_one (ps_if (pt_cmpR (op_zNe (uI hr)) (pv 5) pe_str (nomark _))
          (pss_one (ps_set (i := 1) sc__law_logged.nd rfl (Or.inl rfl) (pe_op op_zAdd (pv 1) (pe_slice sl_z (pv 4) po_none (po_some (pv 5))))))
          pss_nil))))
          (pss_cons (ps_set (i := 6) sc__law_logged.nd rfl (Or.inl rfl) (pe_lst pa_nil))
          (pss_cons (ps_for po rfl (pi_list (pe_mE0 kx m_Drain_log_0 hr (by decide) (pe_mE0 kx m_Pipe_out_0 hr (by decide) (pv 0)))) (pg_tup rfl (pgs_cons (pg_name (i := 2) sc__law_logged.nd rfl (Or.inl rfl)) (pgs_cons (pg_name (i := 3) sc__law_logged.nd rfl (Or.inl rfl)) (pgs_cons (pg_name (i := 4) sc__law_logged.nd rfl (Or.inl rfl)) (pgs_cons (pg_name (i := 5) sc__law_logged.nd rfl (Or.inl rfl)) pgs_nil)))))
          (pss_cons (ps_if (PW.pt (pw_or (pt_cmpR (op_zNe (uI hr)) (pv 2) pe_str (nomark _)) (pw_or1 (pt_cmpR (op_zNe (uI hr)) (pv 3) (pe_callB call_zLen rfl T.f_len bt_len (pa_cons (pv 6) pa_nil)) (nomark _)))))
          (pss_one (ps_ret pe_bl))
          pss_nil)
          (pss_one (ps_if (pt_cmpR (op_zNe (uI hr)) (pv 5) pe_str (nomark _))
          (pss_one (ps_set (i := 6) sc__law_logged.nd rfl (Or.inl rfl) (pe_op op_zAdd (pv 6) (pv 5))))
          pss_nil))))
          (pss_one (ps_ret (pe_cmpR (op_zEq (uI hr)) (pe_op op_zAdd (pv 6) (pe_mE0 kx m_Pipe_held_0 hr (by decide) (pv 0))) (pv 1) (nomark _)))))))), ?_⟩
      try dsimp only [cxOf, Cx.tr, Cx.suite, Cx.nox, Cx.wish]
      obtain ⟨p, dp, i, m, dm, n1, d, dd, n2, room, g, g2, es, es2, ins, b, F, rfl, hL, hl1, hl2, O, k⟩ := h
      wtm_at "zun"
      refine w_start (σ := [some (.ref p), none, none, none, none, none, none]) rfl ?_
      obtain ⟨xs, ys, hP, hT, hg, hg2, hxy, hD1, hD2⟩ := hL
      obtain ⟨f, f0, f1, fb, f2⟩ := hP.at
      obtain ⟨e, e0, e1, eb, e2⟩ := hT.at
      have hbf : ∀ i, (f i).length ≤ 9000000 := fun i => by have := fb i; omega
      have hbe : ∀ i, (e i).length ≤ 9000000 := fun i => by have := eb i; omega
      wtm_at "zn"
      obtain ⟨q0, hq0⟩ : ∃ z, z = q := ⟨_, rfl⟩
      subst hq0
      wtm_at "zn"
      refine w_forXE (κ := Addr × List Int × Option V × Option V × Option V × Option V) (fun x => [(x.1, .lst (x.2.1.map V.int))] ++ (endB K "Mouth" m dm n1 es b p g ++ (pipeB K p dp i m d room ins ++ (endB K "Drain" d dd n2 es2 true p g2 ++ F)))) (fun _ x => [some (.ref p), some (.ref x.1), x.2.2.1, x.2.2.2.1, x.2.2.2.2.1, x.2.2.2.2.2, none]) (fun i x => x.2.1 = f i) (q0, [], none, none, none, none) (by dsimp only; wtm_at "zown") rfl f0.symm ?_ ?_
      · clear O
        rintro vs i0 nd v ⟨qa, ns, v2, v3, v4, v5⟩ H he hR O
        dsimp only at hR O ⊢
        subst hR
        have hb1 := hbf i0
        rcases f2 i0 nd he with ⟨ms, rfl, hn⟩ | ⟨ms, j, hj, rfl, hn⟩
        · obtain ⟨q, rfl⟩ := rv_tup O mem_here
          wtm_at "zm"
          wtm_at "zgo"
          exact ⟨(qa, f i0, _, _, _, _), rfl, by dsimp only; wtm_at "zown", hn.symm⟩
        · obtain ⟨q, rfl⟩ := rv_tup O mem_here
          have hb2 := hbf (i0 + 1)
          rw [hn, List.length_append, ← Int.toNat_natCast j] at hb2
          wtm_at "zm"
          wtm_at "zgo"
          exact ⟨(_, f i0 ++ ms.take j, _, _, _, _), rfl, by (dsimp only; try rw [Int.toNat_natCast] at O); wtm_at "zown", hn.symm⟩
      · clear O
        rintro ⟨qa, ns, v2, v3, v4, v5⟩ H hR O
        dsimp only at hR O ⊢
        subst hR
        rw [f1] at O
        wtm_at "zn"
        obtain ⟨qg, hqg⟩ : ∃ z, z = q := ⟨_, rfl⟩
        subst hqg
        wtm_at "zn"
        refine w_forXE (κ := Addr × List Int × Option V × Option V × Option V × Option V) (fun x => [(x.1, .lst (x.2.1.map V.int))] ++ ([(qa, .lst (xs.map V.int))] ++ (endB K "Mouth" m dm n1 es b p g ++ (pipeB K p dp i m d room ins ++ (endB K "Drain" d dd n2 es2 true p g2 ++ F))))) (fun _ x => [some (.ref p), some (.ref qa), x.2.2.1, x.2.2.2.1, x.2.2.2.2.1, x.2.2.2.2.2, some (.ref x.1)]) (fun i x => x.2.1 = e i) (qg, [], v2, v3, v4, v5) (by dsimp only; wtm_at "zown") rfl e0.symm ?_ ?_
        · clear O
          rintro vs i0 nd v ⟨qa2, ns, v2, v3, v4, v5⟩ H he hR O
          dsimp only at hR O ⊢
          subst hR
          have hb1 := hbe i0
          rcases e2 i0 nd he with ⟨mm, rfl, hn⟩ | ⟨mm, ms, rfl, hn⟩
          · obtain ⟨q, rfl⟩ := rv_tup O mem_here
            wtm_at "zm"
            wtm_at "zgo"
            exact ⟨(qa2, e i0, _, _, _, _), rfl, by dsimp only; wtm_at "zown", hn.symm⟩
          · obtain ⟨q, rfl⟩ := rv_tup O mem_here
            have hb2 := hbe (i0 + 1)
            rw [hn, List.length_append] at hb2
            wtm_at "zm"
            wtm_at "zgo"
            exact ⟨(_, e i0 ++ ms, _, _, _, _), rfl, by dsimp only; wtm_at "zown", hn.symm⟩
        · clear O
          rintro ⟨qa2, ns, v2, v3, v4, v5⟩ H hR O
          dsimp only at hR O ⊢
          subst hR
          rw [e1] at O
          have hyl : ys.length ≤ 9000000 := by have := hbe es2.length; rw [e1] at this; exact this
          have hxl : ys.length + ins.length ≤ 9000000 := by have := hbf es.length; rw [f1, ← hxy, List.length_append] at this; exact this
          wtm_at "zgo"
          rw [hxy, decide_eq_true rfl]
          exact k _ (by wtm_at "zown")
  simpa only using Z.stc (Z.Stw.mk 5) hn key
local macro_rules | `(tactic| wtm_at "zcall") => `(tactic| ((with_reducible apply ap__law_logged O); (· wtm_at "zpk"); (· wtm_at "zpk"); (· wtm_at "zpk"); (· wtm_at "zsd"); (· wtm_at "zsd"); (· wtm_at "zsd"); wtm_at "znx"))

def hs2 (hs : List (Addr × List Int)) (k : Nat) (a b : Addr × List Int) : List (Addr × List Int) := (hs.set k a).set (k + 1) b
theorem hs2_a {hs : List (Addr × List Int)} {k : Nat} {a b : Addr × List Int} (h : k < hs.length) : (hs2 hs k a b)[k]? = some a := by
  refine no_implicit_lambda% (@Z.stp _ ?_ (fun key hn => ?_))
  ·
      unfold hs2
      rw [List.getElem?_set_ne (by omega), List.getElem?_set_self h]
  simpa only using Z.stc (Z.Stw.mk 5) hn key
theorem hs2_b {hs : List (Addr × List Int)} {k : Nat} {a b : Addr × List Int} (h : k + 1 < hs.length) : (hs2 hs k a b)[k + 1]? = some b := by
  refine no_implicit_lambda% (@Z.stp _ ?_ (fun key hn => ?_))
  ·
      unfold hs2
      rw [List.getElem?_set_self (by rw [List.length_set]; exact h)]
  simpa only using Z.stc (Z.Stw.mk 5) hn key
theorem hs2_seta {hs : List (Addr × List Int)} {k : Nat} {a b a' : Addr × List Int} : (hs2 hs k a b).set k a' = hs2 hs k a' b := by
  refine no_implicit_lambda% (@Z.stp _ ?_ (fun key hn => ?_))
  ·
      unfold hs2
      rw [List.set_comm _ _ (by omega), List.set_set]
  simpa only using Z.stc (Z.Stw.mk 5) hn key
theorem hs2_setb {hs : List (Addr × List Int)} {k : Nat} {a b b' : Addr × List Int} : (hs2 hs k a b).set (k + 1) b' = hs2 hs k a b' := by
  refine no_implicit_lambda% (@Z.stp _ ?_ (fun key hn => ?_))
  ·
      unfold hs2
      rw [List.set_set]
  simpa only using Z.stc (Z.Stw.mk 5) hn key
theorem hs2_self {hs : List (Addr × List Int)} {k : Nat} {a b : Addr × List Int} (h1 : hs[k]? = some a) (h2 : hs[k + 1]? = some b) : hs2 hs k a b = hs := by
  refine no_implicit_lambda% (@Z.stp _ ?_ (fun key hn => ?_))
  ·
      unfold hs2
      rw [set_self h1, set_self h2]
  simpa only using Z.stc (Z.Stw.mk 5) hn key
def sp__law_passed (K : PySem.W.Frag) : Sp := fun vs H Q _ => ∃ (p dp i m dm n1 d dd n2 hl : Addr) (room g g2 : Int) (es es2 : List PyData) (ins : List Int) (hs : List (Addr × List Int)) (ak : Nat) (ha hb : Addr × List Int) (F : HL), vs = [.ref p, .int room, .ref hl, .int ak] ∧ (hs[ak]? = some ha) ∧ (hs[ak + 1]? = some hb) ∧ (1 ≤ room ∧ room ≤ 64) ∧ ((ins.length : Int) ≤ room) ∧ (LogOk es es2 g g2 ins) ∧ (es.length ≤ 5000) ∧ (es2.length ≤ 5000) ∧ (ha.2.length + ins.length + hb.2.length ≤ 100) ∧ Own H ((endB K "Mouth" m dm n1 es true p g) ++ ((pipeB K p dp i m d room ins) ++ ((endB K "Drain" d dd n2 es2 true p g2) ++ (([(hl, .lst (hnR hs))]) ++ ((bigB hnB hs) ++ F))))) ∧ (∀ (i' : Addr) (es' es2' : List PyData) (g' g2' : Int) (ha' hb' : Addr × List Int) (H' : Hp), Own H' ((endB K "Mouth" m dm n1 es' false p g') ++ ((pipeB K p dp i' m d room []) ++ ((endB K "Drain" d dd n2 es2' true p g2') ++ (([(hl, .lst (hnR (hs2 hs ak ha' hb')))]) ++ ((bigB hnB (hs2 hs ak ha' hb')) ++ F))))) → (ha'.2 = []) → (hb'.2 = hb.2 ++ ins ++ ha.2) → Q (.bl true) H')
theorem len__law_passed {vs H Q E} (h : sp__law_passed K vs H Q E) : vs.length = 4 := by
  refine no_implicit_lambda% (@Z.stp _ ?_ (fun key hn => ?_))
  ·
      obtain ⟨p, dp, i, m, dm, n1, d, dd, n2, hl, room, g, g2, es, es2, ins, hs, ak, ha, hb, F, rfl, _⟩ := h
      rfl
  simpa only using Z.stc (Z.Stw.mk 5) hn key
theorem ap__law_passed {H : Hp} {L R1 R2 R3 R4 F : HL} {Q : VK} {E : XK} {p dp i m dm n1 d dd n2 hl : Addr} {room g g2 : Int} {es es2 : List PyData} {ins : List Int} {hs : List (Addr × List Int)} {ak : Nat} {ha hb : Addr × List Int} (O : Own H L)  (pk1 : Pk L (endB K "Mouth" m dm n1 es true p g) R1) (pk2 : Pk R1 (pipeB K p dp i m d room ins) R2) (pk3 : Pk R2 (endB K "Drain" d dd n2 es2 true p g2) R3) (pk4 : Pk R3 ([(hl, .lst (hnR hs))]) R4) (pk5 : Pk R4 (bigB hnB hs) F) (hk : hs[ak]? = some ha) (hk1 : hs[ak + 1]? = some hb) (hroom : 1 ≤ room ∧ room ≤ 64) (hins : (ins.length : Int) ≤ room) (hL : LogOk es es2 g g2 ins) (hlen : es.length ≤ 5000) (hlen2 : es2.length ≤ 5000) (htot : ha.2.length + ins.length + hb.2.length ≤ 100) (k : ∀ (i' : Addr) (es' es2' : List PyData) (g' g2' : Int) (ha' hb' : Addr × List Int), (ha'.2 = []) → (hb'.2 = hb.2 ++ ins ++ ha.2) → ∀ H', Own H' ((endB K "Mouth" m dm n1 es' false p g') ++ ((pipeB K p dp i' m d room []) ++ ((endB K "Drain" d dd n2 es2' true p g2') ++ (([(hl, .lst (hnR (hs2 hs ak ha' hb')))]) ++ ((bigB hnB (hs2 hs ak ha' hb')) ++ F))))) → Q (.bl true) H') : sp__law_passed K [.ref p, .int room, .ref hl, .int ak] H Q E :=
  ⟨p, dp, i, m, dm, n1, d, dd, n2, hl, room, g, g2, es, es2, ins, hs, ak, ha, hb, F, rfl, hk, hk1, hroom, hins, hL, hlen, hlen2, htot, O.sub (.cons pk1 (.cons pk2 (.cons pk3 (.cons pk4 (.cons pk5 .all))))), (fun i' es' es2' g' g2' ha' hb' H' O' q0 q1 => k i' es' es2' g' g2' ha' hb' q0 q1 H' O')⟩
theorem ok__law_passed (T : Txt K mg) : Cal P w K mg base 5 "_law_passed" (sp__law_passed K) [] := by
  refine no_implicit_lambda% (@Z.stp _ ?_ (fun key hn => ?_))
  ·
      have c__law_put : Cal P w K mg base 4 "_law_put" (sp__law_put K) [] := (ok__law_put T).mono (by decide)
      have m_Pipe_held_0 : Met P w K mg base 4 (He.ga K "Pipe") "held" (sp_Pipe_held K) [] := (ok_Pipe_held_0 T).mono (by decide)
      have c__law_taken : Cal P w K mg base 4 "_law_taken" (sp__law_taken K) [] := (ok__law_taken T).mono (by decide)
      have m_Mouth_shut_0 : Met P w K mg base 4 (He.ga K "Mouth") "shut" (sp_Mouth_shut K) [] := (ok_Mouth_shut_0 T).mono (by decide)
      have m_Pipe_into_0 : Met P w K mg base 4 (He.ga K "Pipe") "into" (sp_Pipe_into K) [] := (ok_Pipe_into_0 T).mono (by decide)
      have m_Drain_take_1 : Met P w K mg base 4 (He.ga K "Drain") "take" (sp_Drain_take K) [] := (ok_Drain_take_1 T).mono (by decide)
      have m_Pipe_out_0 : Met P w K mg base 4 (He.ga K "Pipe") "out" (sp_Pipe_out K) [] := (ok_Pipe_out_0 T).mono (by decide)
      refine cal_x T.d__law_passed sc__law_passed (fun _ _ _ _ _ _ us hl => match us, hl with | [_, _, _, _], _ => rfl) (fun vs H Q E h => len__law_passed h) (fun cdv A outer s f H vs Q E hr h kx po => ?_)
      refine ⟨_, (pss_cons (ps_for po rfl (pi_range1 rfl T.f_range (pa_cons (pe_op op_zAdd (pe_callB call_zLen rfl T.f_len bt_len (pa_cons (pe_ix ix_seq (pv 2) (pv 3) (fun _ _ => rfl)) pa_nil)) pe_int) pa_nil)) (pg_name (i := 4) sc__law_passed.nd rfl (Or.inl rfl))
          (pss_one (ps_if (PW.pt (pw_or (pt_not (pt_z (pe_cE kx c__law_put hr (by decide) rfl (pa_cons (pv 0) (pa_cons (pv 1) (pa_cons (pv 2) (pa_cons (pv 3) (pa_cons pe_int pa_nil)))))))) (pw_or1 (PW.pt (pw_and (pt_cmpR op_zGt (pe_callB call_zLen rfl T.f_len bt_len (pa_cons (pe_mE0 kx m_Pipe_held_0 hr (by decide) (pv 0)) pa_nil)) pe_int (nomark _)) (pw_and1 (pt_not (pt_z (pe_cE kx c__law_taken hr (by decide) rfl (pa_cons (pv 0) (pa_cons (pv 2) (pa_cons (pv 3) (pa_cons pe_int pa_nil)))))))))))))
          (pss_one (ps_ret pe_bl))
          pss_nil)))
          (pss_cons (ps_expr (pe_mE0 kx m_Mouth_shut_0 hr (by decide) (pe_mE0 kx m_Pipe_into_0 hr (by decide) (pv 0))))
          (pss_one (ps_ret (pe_andT (pe_cmpR (op_zEq (uI hr)) (pe_mE kx m_Drain_take_1 hr (by decide) (pe_mE0 kx m_Pipe_out_0 hr (by decide) (pv 0)) (pa_cons pe_int pa_nil)) (pe_lst pa_nil) (nomark _)) (pe_andT (pe_cmpR (op_zEq (uI hr)) (pe_mE kx m_Drain_take_1 hr (by decide) (pe_mE0 kx m_Pipe_out_0 hr (by decide) (pv 0)) (pa_cons pe_int pa_nil)) (pe_lst pa_nil) (nomark _)) (pe_andT (pe_cmpR (op_zEq (uI hr)) (pe_ix ix_seq (pv 2) (pv 3) (fun _ _ => rfl)) (pe_lst pa_nil) (nomark _)) (pe_one (pe_cmpR (op_zEq (uI hr)) (pe_mE0 kx m_Pipe_held_0 hr (by decide) (pv 0)) (pe_lst pa_nil) (nomark _)))))))))), ?_⟩
      try dsimp only [cxOf, Cx.tr, Cx.suite, Cx.nox, Cx.wish]
      obtain ⟨p, dp, i, m, dm, n1, d, dd, n2, hl, room, g, g2, es, es2, ins, hs, ak, ha, hb, F, rfl, hk, hk1, hroom, hins, hL, hlen, hlen2, htot, O, k⟩ := h
      wtm_at "zun"
      refine w_start (σ := [some (.ref p), some (.int room), some (.ref hl), some (.int ak), none]) rfl ?_
      have hkl := (List.getElem?_eq_some_iff.mp hk1).1
      wtm_at "zn"
      refine w_forR (lo := 0) (fun j σ H => ∃ (i' : Addr) (es' es2' : List PyData) (g' g2' : Int) (ins' : List Int) (a b : Addr × List Int) (v4 : Option V), σ = [some (.ref p), some (.int room), some (.ref hl), some (.int ak), v4] ∧
        Own H (endB K "Mouth" m dm n1 es' true p g' ++ (pipeB K p dp i' m d room ins' ++ (endB K "Drain" d dd n2 es2' true p g2' ++ ([(hl, .lst (hnR (hs2 hs ak a b)))] ++ (bigB hnB (hs2 hs ak a b) ++ F))))) ∧ LogOk es' es2' g' g2' ins' ∧ b.2 ++ ins' ++ a.2 = hb.2 ++ ins ++ ha.2 ∧ (ins'.length : Int) ≤ room ∧ es'.length ≤ 5000 + j ∧ es2'.length ≤ 5000 + j ∧ (a.2.length + ins'.length + j ≤ ha.2.length + ins.length ∨ a.2.length + ins'.length = 0)) ?_ ?_ ?_
      · exact ⟨i, es, es2, g, g2, ins, ha, hb, _, rfl, by (rw [hs2_self hk hk1]; wtm_at "zown"), hL, rfl, hins, by omega, by omega, .inl (by omega)⟩
      · clear O
        rintro j σ H hj ⟨i', es0, es20, g0, g20, in0, a, b, v4, rfl, O, f1, f2, f3, f4, f5, f6⟩
        have hja : j ≤ 165 := by omega
        have hsa := hs2_a (hs := hs) (k := ak) (a := a) (b := b) (by omega)
        have hla := congrArg List.length f2
        simp only [List.length_append] at hla
        wtm_at "zgo"
        · rw [hs2_seta] at O
          obtain ⟨hd1, ehd⟩ : ∃ z, z = hd' := ⟨_, rfl⟩
          obtain ⟨in1, ein⟩ : ∃ z, z = ins' := ⟨_, rfl⟩
          subst ehd ein
          have hsb := hs2_b (hs := hs) (k := ak) (a := hd1) (b := b) (by omega)
          have hlc := congrArg List.length hq2
          simp only [List.length_append] at hlc
          have hp2 := hq2
          have hp3 := hq3
          have hp4 := hq4
          wtm_at "zgo"
          rw [hs2_setb] at O
          have hld := congrArg List.length hq2
          simp only [List.length_append] at hld
          exact ⟨_, _, _, _, _, ins', hd1, hd', _, rfl, by wtm_at "zown", hq1, by rw [hq2, List.append_assoc, hp2, ← List.append_assoc]; exact f2, by omega, by omega, by omega, by omega⟩
        · rw [hs2_seta] at O
          have hlc := congrArg List.length hq2
          simp only [List.length_append] at hlc
          exact ⟨_, _, _, _, _, ins', _, b, _, rfl, by wtm_at "zown", hq1, by rw [List.append_assoc, hq2, ← List.append_assoc]; exact f2, by omega, by omega, by omega, by omega⟩
      · clear O
        rintro σ H ⟨i', es', es2', g', g2', ins', a, b, v4, rfl, O, f1, f2, f3, f4, f5, f6⟩
        have hz : a.2.length + ins'.length = 0 := by omega
        have ha0 : a.2 = [] := List.eq_nil_of_length_eq_zero (by omega)
        have hi0 : ins' = [] := List.eq_nil_of_length_eq_zero (by omega)
        subst hi0
        have hsa := hs2_a (hs := hs) (k := ak) (a := a) (b := b) (by omega)
        wtm_at "zgo"
        rw [if_pos (by simp)]
        wtm_at "zgo"
        rw [if_pos (by simp)]
        wtm_at "zgo"
        rw [if_pos (by simp [ha0])]
        wtm_at "zgo"
        rw [decide_eq_true (by simp)]
        simp only [List.drop_nil] at O
        refine k i' _ _ _ _ a b _ (by wtm_at "zown") ha0 ?_
        rw [← f2, ha0, List.append_nil, List.append_nil]
  simpa only using Z.stc (Z.Stw.mk 5) hn key
local macro_rules | `(tactic| wtm_at "zcall") => `(tactic| ((with_reducible apply ap__law_passed O); (· wtm_at "zpk"); (· wtm_at "zpk"); (· wtm_at "zpk"); (· wtm_at "zpk"); (· wtm_at "zpk"); (· wtm_at "zsd"); (· wtm_at "zsd"); (· wtm_at "zsd"); (· wtm_at "zsd"); (· wtm_at "zsd"); (· wtm_at "zsd"); (· wtm_at "zsd"); (· wtm_at "zsd"); intro i' es' es2' g' g2' ha' hb' hq1 hq2; wtm_at "znx"))

/-! ### a comprehension over a range whose element leaves a trace: what holds is carried by I -/
section
variable {K : PySem.W.Frag} {σ : St} {H : Hp} {L : HL} {Q : VK} {te : TE} {tt : TT} {g : TG} {is : List Nat} {lo : Int} {n : Nat}
theorem w_lcRP (I : Nat → List V → HL → Prop) (O : Own H L) (h0 : I 0 [] L) (hn : ∀ i acc L', I i acc L' → acc.length = i) (hl : n ≤ 16777216)
    (hs : ∀ i acc L' D H' (Qe : VK), i < n → I i acc L' → Own H' ([(D, .lst acc)] ++ L') → (∀ y L2 H4, I (i + 1) (acc ++ [y]) L2 → Own H4 ([(D, .lst acc)] ++ L2) → Qe y H4) → ∀ Nx : Hp → Prop, g (.int (lo + i)) (wipe σ is) H' fun σ2 H2 => wipe σ2 is = wipe σ is ∧ tt σ2 H2 fun b H3 => if b = true then te σ2 H3 Qe else Nx H3)
    (k : ∀ acc L' D H', I n acc L' → Own H' ([(D, .lst acc)] ++ L') → Q (.ref D) H') : LcR (Itr lo n) g tt te is σ H Q := by
  refine no_implicit_lambda% (@Z.stp _ ?_ (fun key hn => ?_))
  ·
      intro D hD
      refine lc_range (fun i H' => ∃ acc L', I i acc L' ∧ Own H' ([(D, .lst acc)] ++ L')) ⟨[], L, h0, O.new hD⟩ (fun i H' hi ⟨acc, L', hI, O'⟩ => ?_) (fun H' ⟨acc, L', hI, O'⟩ => k acc L' D H' hI O')
      refine hs i acc L' D H' _ hi hI O' (fun y L2 H4 h2 O4 => ⟨acc, O4.at1 Pk.here, ?_, acc ++ [y], L2, h2, O4.put Pk.here⟩) _
      have := hn i acc L' hI
      exact lineS (by omega)
  simpa only using Z.stc (Z.Stw.mk 5) hn key
end

section
variable {K : PySem.W.Frag} {σ : St} {H : Hp} {L R : HL} {Q : VK} {te : TE} {tt : TT} {g : TG} {is : List Nat} {p : Addr} {lo d m c : Int} {N : Nat}
theorem w_lcDraw {P : Int → Prop} {s : Int} (O : Own H L) (pk : Pk L (pool p d m c) R) (hd : 0 ≤ d) (hm : 0 ≤ m) (hs0 : 0 ≤ s) (hm2 : m + s * N ≤ 2000000000) (hl : N ≤ 16777216)
    (hs : ∀ (i : Nat) acc d' m' D H' (Qe : VK), i < N → 0 ≤ d' → m ≤ m' → m' ≤ 2000000000 → Own H' ([(D, .lst acc)] ++ (pool p d' m' c ++ R)) → (∀ y d2 m2 H4, P y → 0 ≤ d2 → m' ≤ m2 → m2 ≤ m' + s → Own H4 ([(D, .lst acc)] ++ (pool p d2 m2 c ++ R)) → Qe (.int y) H4) →
      ∀ Nx : Hp → Prop, g (.int (lo + i)) (wipe σ is) H' fun σ2 H2 => wipe σ2 is = wipe σ is ∧ tt σ2 H2 fun b H3 => if b = true then te σ2 H3 Qe else Nx H3)
    (k : ∀ (ns : List Int) d' m' D H', ns.length = N → (∀ x ∈ ns, P x) → 0 ≤ d' → m ≤ m' → m' ≤ m + s * N → Own H' ([(D, .lst (ns.map V.int))] ++ (pool p d' m' c ++ R)) → Q (.ref D) H') : LcR (Itr lo N) g tt te is σ H Q := by
  refine no_implicit_lambda% (@Z.stp _ ?_ (fun key hn => ?_))
  ·
      refine w_lcRP (fun i acc L' => ∃ (ns : List Int) (d' m' : Int), acc = ns.map V.int ∧ ns.length = i ∧ (∀ x ∈ ns, P x) ∧ 0 ≤ d' ∧ m ≤ m' ∧ m' ≤ m + s * i ∧ L' = pool p d' m' c ++ R) (O.pk pk) ⟨[], d, m, rfl, rfl, (fun x h => nomatch h), hd, by omega, by simp, rfl⟩ ?_ hl ?_ ?_
      · rintro i acc L' ⟨ns, d', m', rfl, e, _⟩
        rw [List.length_map, e]
      · rintro i acc L' D H' Qe hi ⟨ns, d', m', rfl, e, hP, h1, h2, h3, rfl⟩ O' hk Nx
        have hb : m' ≤ 2000000000 := by
          have : s * i ≤ s * N := Int.mul_le_mul_of_nonneg_left (by omega) hs0
          omega
        refine hs i _ d' m' D H' Qe hi h1 h2 hb O' (fun y d2 m2 H4 hy g1 g2 g3 O4 => hk (.int y) _ H4 ⟨ns ++ [y], d2, m2, by rw [List.map_append]; rfl, by rw [List.length_append, e]; rfl, all_snoc hP hy, g1, by omega, ?_, rfl⟩ O4) Nx
        have e2 : s * ((i + 1 : Nat) : Int) = s * i + s := by rw [Int.natCast_add, Int.mul_add]; simp
        omega
      · rintro acc L' D H' ⟨ns, d', m', rfl, e, hP, h1, h2, h3, rfl⟩ O'
        exact k ns d' m' D H' e hP h1 h2 h3 O'
  simpa only using Z.stc (Z.Stw.mk 5) hn key
end
local macro_rules | `(tactic| wtm_at "zlcd") => `(tactic| ((· wtm_at "zpk"); (· omega); (· omega); (· omega); (· omega); (· omega); (· intro i acc d m D H₁ Qe hi hd0 hm0 hm1 O₁ hk Nx; clear O; revert H₁; intro H O; dsimp only [wipe, List.map, List.set]; wtm_at "zgo"; refine hk _ _ _ _ ?_ ?_ ?_ ?_ (by wtm_at "zown") <;> (try dsimp only) <;> omega); intro ns d n D H₁ hln hb h1 h2 h3 O₁; clear O; (try clear H); revert H₁; intro H O))

def sp__law_row (K : PySem.W.Frag) : Sp := fun vs H Q _ => ∃ (p : Addr) (d0 n0 c lg : Int) (F : HL), vs = [.ref p, .int lg] ∧ (0 ≤ d0) ∧ (0 ≤ n0) ∧ (n0 < 3000000000) ∧ (0 ≤ lg) ∧ (lg ≤ 1000) ∧ Own H ((pool p d0 n0 c) ++ F) ∧ (∀ (q : Addr) (ns : List Int) (d' n' : Int) (H' : Hp), Own H' (([(q, .lst (ns.map V.int))]) ++ ((pool p d' n' c) ++ F)) → ((ns.length : Int) ≤ lg) → (∀ x ∈ ns, 0 ≤ x ∧ x ≤ 255) → (0 ≤ d') → (n0 ≤ n') → (n' ≤ n0 + 100000) → Q (.ref q) H')
theorem len__law_row {vs H Q E} (h : sp__law_row K vs H Q E) : vs.length = 2 := by
  refine no_implicit_lambda% (@Z.stp _ ?_ (fun key hn => ?_))
  ·
      obtain ⟨p, d0, n0, c, lg, F, rfl, _⟩ := h
      rfl
  simpa only using Z.stc (Z.Stw.mk 5) hn key
theorem ap__law_row {H : Hp} {L F : HL} {Q : VK} {E : XK} {p : Addr} {d0 n0 c lg : Int} (O : Own H L)  (pk1 : Pk L (pool p d0 n0 c) F) (hp1 : 0 ≤ d0) (hp2 : 0 ≤ n0) (hp3 : n0 < 3000000000) (hp4 : 0 ≤ lg) (hp5 : lg ≤ 1000) (k : ∀ (q : Addr) (ns : List Int) (d' n' : Int), ((ns.length : Int) ≤ lg) → (∀ x ∈ ns, 0 ≤ x ∧ x ≤ 255) → (0 ≤ d') → (n0 ≤ n') → (n' ≤ n0 + 100000) → ∀ H', Own H' (([(q, .lst (ns.map V.int))]) ++ ((pool p d' n' c) ++ F)) → Q (.ref q) H') : sp__law_row K [.ref p, .int lg] H Q E :=
  ⟨p, d0, n0, c, lg, F, rfl, hp1, hp2, hp3, hp4, hp5, O.sub (.cons pk1 .all), (fun q ns d' n' H' O' q0 q1 q2 q3 q4 => k q ns d' n' q0 q1 q2 q3 q4 H' O')⟩
theorem ok__law_row (T : Txt K mg) : Cal P w K mg base 2 "_law_row" (sp__law_row K) [] := by
  refine no_implicit_lambda% (@Z.stp _ ?_ (fun key hn => ?_))
  ·
      have c__law_take : Cal P w K mg base 1 "_law_take" (sp__law_take K) [] := (ok__law_take T).mono (by decide)
      refine cal_x T.d__law_row sc__law_row (fun _ _ _ _ _ _ us hl => match us, hl with | [_, _], _ => rfl) (fun vs H Q E h => len__law_row h) (fun cdv A outer s f H vs Q E hr h kx po => ?_)
      refine ⟨_, (pss_cons (ps_set (i := 2) sc__law_row.nd rfl (Or.inl rfl) (pe_lst pa_nil))
          (pss_cons (ps_for po rfl (pi_range1 rfl T.f_range (pa_cons (pe_cE kx c__law_take hr (by decide) rfl (pa_cons (pv 0) (pa_cons (pe_op op_zAdd (pv 1) pe_int) pa_nil))) pa_nil)) (pg_name (i := 3) sc__law_row.nd rfl (Or.inl rfl))
          (pss_cons (ps_set (i := 4) sc__law_row.nd rfl (Or.inl rfl) (pe_cE kx c__law_take hr (by decide) rfl (pa_cons (pv 0) (pa_cons pe_int pa_nil))))
          (pss_one (ps_if (pt_cmpR op_zLt (pv 4) pe_int (nomark _))
          (pss_one (ps_expr (pe_bm PySem.F.plainAttrs_list PySem.F.slot_list_append PySem.F.type_list_append mt_append (pv 2) (pa_cons (pe_ix ix_seq (pe_lst (pa_cons pe_int (pa_cons pe_int (pa_cons pe_int (pa_cons pe_int (pa_cons pe_int pa_nil)))))) (pv 4) (fun _ _ => rfl)) pa_nil))))
          (pss_one (ps_expr (pe_bm PySem.F.plainAttrs_list PySem.F.slot_list_append PySem.F.type_list_append mt_append (pv 2) (pa_cons (pe_cE kx c__law_take hr (by decide) rfl (pa_cons (pv 0) (pa_cons pe_int pa_nil))) pa_nil))))))))
          (pss_one (ps_ret (pv 2))))), ?_⟩
      try dsimp only [cxOf, Cx.tr, Cx.suite, Cx.nox, Cx.wish]
      obtain ⟨p, d0, n0, c, lg, F, rfl, hp1, hp2, hp3, hp4, hp5, O, k⟩ := h
      wtm_at "zun"
      refine w_start (σ := [some (.ref p), some (.int lg), none, none, none]) rfl ?_
      wtm_at "zgo"
      refine w_forR (lo := 0) (n := r.toNat) (fun i σ H => ∃ (d' n' : Int) (ns : List Int) (v1 v2 : Option V), σ = [some (.ref p), some (.int lg), some (.ref q), v1, v2] ∧ Own H ([(q, .lst (ns.map V.int))] ++ (pool p d' n' c ++ F)) ∧ 0 ≤ d' ∧ n0 ≤ n' ∧ n' ≤ n0 + 1 + 2 * i ∧ ns.length = i ∧ (∀ x ∈ ns, 0 ≤ x ∧ x ≤ 255)) ?_ ?_ ?_
      · exact ⟨d, n, [], _, _, rfl, by wtm_at "zown", by omega, by omega, by omega, rfl, fun _ h => nomatch h⟩
      · rintro i σ H hi ⟨d', n', ns, v1, v2, rfl, O, g1, g2, g3, g4, g5⟩
        wtm_at "zgo"
        · exact ⟨d, n, ns ++ [mx], _, _, rfl, by wtm_at "zown", by omega, by omega, by omega, by simp [g4], all_snoc g5 (by omega)⟩
        · exact ⟨d, n, ns ++ [r], _, _, rfl, by wtm_at "zown", by omega, by omega, by omega, by simp [g4], all_snoc g5 (by omega)⟩
      · rintro σ H ⟨d', n', ns, v1, v2, rfl, O, g1, g2, g3, g4, g5⟩
        wtm_at "zgo"
        wtm_at "zk"
  simpa only using Z.stc (Z.Stw.mk 5) hn key
local macro_rules | `(tactic| wtm_at "zcall") => `(tactic| ((with_reducible apply ap__law_row O); (· wtm_at "zpk"); (· wtm_at "zsd"); (· wtm_at "zsd"); (· wtm_at "zsd"); (· wtm_at "zsd"); (· wtm_at "zsd"); intro q ns d' n' hq1 hq2 hq3 hq4 hq5; wtm_at "znx"))

/-! ### comprehension over an owned list: what each turn makes is owned -/
theorem w_lcVG {K : PySem.W.Frag} {σ : St} {H : Hp} {L R : HL} {g : TG} {tt : TT} {te : TE} {is : List Nat} {Q : VK} {a : Addr} {xs : List V} (I : Nat → List V → HL → Prop) (O : Own H L) (h : Pk L [(a, .lst xs)] R) (i0 : I 0 [] R) (hI : ∀ i acc L', I i acc L' → acc.length ≤ 1000)
    (hs : ∀ (i : Nat) x D acc L' H' (Qe : VK), xs[i]? = some x → I i acc L' → Own H' ([(D, .lst acc)] ++ ([(a, .lst xs)] ++ L')) →
      (∀ y L2 H4, I (i + 1) (acc ++ [y]) L2 → Own H4 ([(D, .lst acc)] ++ ([(a, .lst xs)] ++ L2)) → Qe y H4) → ∀ Nx : Hp → Prop, g x (wipe σ is) H' fun σ2 H2 => wipe σ2 is = wipe σ is ∧ tt σ2 H2 fun b H3 => if b = true then te σ2 H3 Qe else Nx H3)
    (k : ∀ D acc L' H', I xs.length acc L' → Own H' ([(D, .lst acc)] ++ ([(a, .lst xs)] ++ L')) → Q (.ref D) H') : LcR (Itl K a) g tt te is σ H Q := by
  refine no_implicit_lambda% (@Z.stp _ ?_ (fun key hn => ?_))
  ·
      intro D hD
      have O1 := O.pk h
      refine lc_list (K := K) (a := a) (xs := xs) (fun i H' => ∃ acc L', I i acc L' ∧ Own H' ([(D, .lst acc)] ++ ([(a, .lst xs)] ++ L'))) ⟨[], R, i0, O1.new hD⟩ (fun i H' _ ⟨acc, L', _, O'⟩ => .of (O'.at1 (Pk.there Pk.here))) (fun i v H' hv ⟨acc, L', hi, O'⟩ => ?_) (fun H' ⟨acc, L', hi, O'⟩ => k D acc L' H' hi O')
      refine hs i v D acc L' H' _ hv hi O' (fun y L2 H4 i2 O4 => ?_) _
      have ha := hI _ _ _ hi
      exact ⟨acc, O4.at1 Pk.here, lineS (by omega), acc ++ [y], L2, i2, O4.put Pk.here⟩
  simpa only using Z.stc (Z.Stw.mk 5) hn key

/-! ### a tail that is walked once: what holds ahead of it is named -/
section
variable {t u v w' x z : TS} {D : Ends} {σ : St} {H : Hp}
theorem w_seqP1 (P : St → Hp → Prop) (h1 : ∀ zz : TS, (∀ D σ H, P σ H → zz D σ H) → tSeq t zz D σ H) (h2 : ∀ σ H, P σ H → z D σ H) : tSeq t z D σ H := h1 (fun _ σ H => z D σ H) (fun _ σ H p => h2 σ H p)
theorem w_seqP2 (P : St → Hp → Prop) (h1 : ∀ zz : TS, (∀ D σ H, P σ H → zz D σ H) → tSeq t (tSeq u zz) D σ H) (h2 : ∀ σ H, P σ H → z D σ H) : tSeq t (tSeq u z) D σ H := h1 (fun _ σ H => z D σ H) (fun _ σ H p => h2 σ H p)
theorem w_seqP3 (P : St → Hp → Prop) (h1 : ∀ zz : TS, (∀ D σ H, P σ H → zz D σ H) → tSeq t (tSeq u (tSeq v zz)) D σ H) (h2 : ∀ σ H, P σ H → z D σ H) : tSeq t (tSeq u (tSeq v z)) D σ H := h1 (fun _ σ H => z D σ H) (fun _ σ H p => h2 σ H p)
theorem w_seqP4 (P : St → Hp → Prop) (h1 : ∀ zz : TS, (∀ D σ H, P σ H → zz D σ H) → tSeq t (tSeq u (tSeq v (tSeq w' zz))) D σ H) (h2 : ∀ σ H, P σ H → z D σ H) : tSeq t (tSeq u (tSeq v (tSeq w' z))) D σ H := h1 (fun _ σ H => z D σ H) (fun _ σ H p => h2 σ H p)
theorem w_seqP5 (P : St → Hp → Prop) (h1 : ∀ zz : TS, (∀ D σ H, P σ H → zz D σ H) → tSeq t (tSeq u (tSeq v (tSeq w' (tSeq x zz)))) D σ H) (h2 : ∀ σ H, P σ H → z D σ H) : tSeq t (tSeq u (tSeq v (tSeq w' (tSeq x z)))) D σ H := h1 (fun _ σ H => z D σ H) (fun _ σ H p => h2 σ H p)
end

def RsOk (ns : List Int) (rs : List Pp) (j : Nat) : Prop := rs.length = ns.length ∧ ∀ (k : Nat) (r : Pp), rs[k]? = some r → ns[k]? = some r.room ∧ (1 ≤ r.room ∧ r.room ≤ 64) ∧ (r.ins.length : Int) ≤ r.room ∧ LogOk r.es r.es2 r.g r.g2 r.ins ∧ r.b = true ∧ r.es.length ≤ j ∧ r.es2.length ≤ j
theorem bigB_app1 {K : PySem.W.Frag} {rs : List Pp} {r : Pp} : bigB (ppB K) (rs ++ [r]) = bigB (ppB K) rs ++ (endB K "Mouth" r.m r.dm r.n1 r.es r.b r.p r.g ++ (pipeB K r.p r.dp r.i r.m r.d r.room r.ins ++ endB K "Drain" r.d r.dd r.n2 r.es2 true r.p r.g2)) := by rw [bigB_app, bigB_one]; rfl
theorem ppR_app1 {rs : List Pp} {r : Pp} : ppR (rs ++ [r]) = ppR rs ++ [.ref r.p] := List.map_append
theorem int_at {ns : List Int} {i : Nat} {x : V} (h : (ns.map V.int)[i]? = some x) : ∃ n, ns[i]? = some n ∧ x = .int n := by
  refine no_implicit_lambda% (@Z.stp _ ?_ (fun key hn => ?_))
  ·
      rw [List.getElem?_map] at h
      cases e : ns[i]? with
      | none => rw [e] at h; cases h
      | some n => rw [e] at h; cases h; exact ⟨n, rfl, rfl⟩
  simpa only using Z.stc (Z.Stw.mk 5) hn key
local macro_rules | `(tactic| wtm_at "zpkU") => `(tactic| ((with_reducible apply Pk.nil)))
theorem RsOk.snoc {ns : List Int} {rs : List Pp} {kk j : Nat} {r : Pp} (h : RsOk (ns.take kk) rs j) (hl : rs.length = kk) (e : ns[kk]? = some r.room) (h1 : 1 ≤ r.room ∧ r.room ≤ 64) (h2 : (r.ins.length : Int) ≤ r.room) (h3 : LogOk r.es r.es2 r.g r.g2 r.ins) (h4 : r.b = true) (h5 : r.es.length ≤ j) (h6 : r.es2.length ≤ j) : RsOk (ns.take (kk + 1)) (rs ++ [r]) j := by
  refine no_implicit_lambda% (@Z.stp _ ?_ (fun key hn => ?_))
  ·
      have hlt := (List.getElem?_eq_some_iff.mp e).1
      rw [take_snoc e]
      have h0 : (ns.take kk).length = kk := by rw [List.length_take]; omega
      refine ⟨by rw [List.length_append, List.length_append, hl, h0]; rfl, fun k r' hr => ?_⟩
      rcases Nat.lt_trichotomy k kk with z | z | z
      · rw [List.getElem?_append_left (by omega)] at hr ⊢
        exact h.2 k r' hr
      · subst z
        rw [List.getElem?_append_right (by omega), hl, Nat.sub_self] at hr
        rw [List.getElem?_append_right (by omega), h0, Nat.sub_self]
        cases hr
        exact ⟨rfl, h1, h2, h3, h4, h5, h6⟩
      · rw [List.getElem?_eq_none (by rw [List.length_append]; simp only [List.length_cons, List.length_nil]; omega)] at hr
        cases hr
  simpa only using Z.stc (Z.Stw.mk 5) hn key
theorem hnB_app1 {hs : List (Addr × List Int)} {h : Addr × List Int} : bigB hnB (hs ++ [h]) = bigB hnB hs ++ [(h.1, .lst (h.2.map V.int))] := by rw [bigB_app, bigB_one]; rfl
theorem hnB_cons {hs : List (Addr × List Int)} {h : Addr × List Int} : bigB hnB (h :: hs) = [(h.1, .lst (h.2.map V.int))] ++ bigB hnB hs := rfl
theorem hnR_app1 {hs : List (Addr × List Int)} {h : Addr × List Int} : hnR (hs ++ [h]) = hnR hs ++ [.ref h.1] := List.map_append
theorem hnR_cons {hs : List (Addr × List Int)} {h : Addr × List Int} : hnR (h :: hs) = [.ref h.1] ++ hnR hs := rfl
theorem w_ixIe {K : PySem.W.Frag} {H : Hp} {L : HL} {Q : VK} {a : Addr} {k : Nat} {ns : List Int} {x : Int} (O : Own H L) (ha : LsI L a ns) (e : ns[k]? = some x) (q : Q (.int x) H) : rIx K (.ref a) (.int (k : Nat)) H Q :=
  .inl ⟨a, _, _, _, rfl, rfl, .of (ha _ O), atI_nat (by rw [List.getElem?_map, e]; rfl), q⟩
local macro_rules | `(tactic| wtm_at "zcall") => `(tactic| ((with_reducible apply w_ixIe O); (· wtm_at "zli"); (· with_reducible assumption)))
theorem ordL_tri {k : Nat} {i h h2 : List Int} : ∀ {is hs : List (List Int)}, is[k]? = some i → hs[k]? = some h → hs[k + 1]? = some h2 → h.length + i.length + h2.length ≤ (ordL is hs).length := by
  refine no_implicit_lambda% (@Z.stp _ ?_ (fun key hn => ?_))
  ·
      induction k with
      | zero =>
        intro is hs e1 e2 e3
        match is, hs, e1, e2, e3 with
        | j :: is, g :: g2 :: hs, e1, e2, e3 =>
          cases e1; cases e2; cases e3
          obtain ⟨pre, hp⟩ := ordL_hd (is := is) (hs := hs)
          simp only [ordL, hp, List.length_append]
          omega
      | succ k ih =>
        intro is hs e1 e2 e3
        match is, hs, e1, e2, e3 with
        | j :: is, g :: hs, e1, e2, e3 =>
          have := ih (is := is) (hs := hs) (by simpa using e1) (by simpa using e2) (by simpa using e3)
          simp only [ordL, List.length_append]
          omega
  simpa only using Z.stc (Z.Stw.mk 5) hn key
theorem ordL_mem {h : List Int} : ∀ {is hs : List (List Int)}, hs.length = is.length + 1 → h ∈ hs → h.length ≤ (ordL is hs).length
  | [], [g], _, m => by rw [List.mem_singleton.mp m]; exact Nat.le_refl _
  | i :: is, g :: hs, e, m => by
    have e' : hs.length = is.length + 1 := by simpa using e
    simp only [ordL, List.length_append]
    rcases List.mem_cons.mp m with rfl | m
    · omega
    · have := ordL_mem e' m; omega
theorem RsOk.mono {ns : List Int} {rs : List Pp} {i j : Nat} (h : RsOk ns rs i) (hij : i ≤ j) : RsOk ns rs j := ⟨h.1, fun k r e => by obtain ⟨a1, a2, a3, a4, a5, a6, a7⟩ := h.2 k r e; exact ⟨a1, a2, a3, a4, a5, by omega, by omega⟩⟩
theorem RsOk.set {ns : List Int} {rs : List Pp} {i j kk : Nat} {r r' : Pp} (h : RsOk ns rs i) (hij : i ≤ j) (e : rs[kk]? = some r) (h0 : r'.room = r.room) (h2 : (r'.ins.length : Int) ≤ r'.room) (h3 : LogOk r'.es r'.es2 r'.g r'.g2 r'.ins) (h4 : r'.b = true) (h5 : r'.es.length ≤ j) (h6 : r'.es2.length ≤ j) : RsOk ns (rs.set kk r') j := by
  refine no_implicit_lambda% (@Z.stp _ ?_ (fun key hn => ?_))
  ·
      refine ⟨by rw [List.length_set]; exact h.1, fun k r2 hr => ?_⟩
      by_cases z : kk = k
      · subst z
        rw [List.getElem?_set_self (List.getElem?_eq_some_iff.mp e).1] at hr
        cases hr
        obtain ⟨a1, a2, _⟩ := h.2 kk r e
        exact ⟨by rw [h0]; exact a1, by rw [h0]; exact a2, h2, h3, h4, h5, h6⟩
      · rw [List.getElem?_set_ne z] at hr
        exact (h.mono hij).2 k r2 hr
  simpa only using Z.stc (Z.Stw.mk 5) hn key
theorem inL_set {rs : List Pp} {k : Nat} {r : Pp} : inL (rs.set k r) = (inL rs).set k r.ins := by unfold inL; rw [List.map_set]
theorem hdL_set {hs : List (Addr × List Int)} {k : Nat} {h : Addr × List Int} : hdL (hs.set k h) = (hdL hs).set k h.2 := by unfold hdL; rw [List.map_set]
theorem hdL_len {hs : List (Addr × List Int)} : (hdL hs).length = hs.length := by unfold hdL; rw [List.length_map]
theorem inL_len {rs : List Pp} : (inL rs).length = rs.length := by unfold inL; rw [List.length_map]
theorem own_pp {K : PySem.W.Frag} {H : Hp} {B : HL} {pq : Addr} {rs : List Pp} {k : Nat} {r r' : Pp} (e : rs[k]? = some r) (h : r'.p = r.p) (O : Own H ([(pq, .lst (ppR rs))] ++ (bigB (ppB K) (rs.take k) ++ (endB K "Mouth" r'.m r'.dm r'.n1 r'.es r'.b r'.p r'.g ++ (pipeB K r'.p r'.dp r'.i r'.m r'.d r'.room r'.ins ++ (endB K "Drain" r'.d r'.dd r'.n2 r'.es2 true r'.p r'.g2 ++ (bigB (ppB K) (rs.drop (k + 1)) ++ B))))))) : Own H ([(pq, .lst (ppR (rs.set k r')))] ++ (bigB (ppB K) (rs.set k r') ++ B)) := by
  refine no_implicit_lambda% (@Z.stp _ ?_ (fun key hn => ?_))
  ·
      rw [ppR_set e h, ppB_set e]
      simp only [hl_assoc]
      exact O
  simpa only using Z.stc (Z.Stw.mk 5) hn key
theorem ppR_at {rs : List Pp} {k : Nat} {x : V} (h : (ppR rs)[k]? = some x) : ∃ r, rs[k]? = some r ∧ x = .ref r.p := by
  refine no_implicit_lambda% (@Z.stp _ ?_ (fun key hn => ?_))
  ·
      unfold ppR at h
      rw [List.getElem?_map] at h
      cases e : rs[k]? with
      | none => rw [e] at h; cases h
      | some r => rw [e] at h; cases h; exact ⟨r, rfl, rfl⟩
  simpa only using Z.stc (Z.Stw.mk 5) hn key
def RsOk2 (ns : List Int) (rs : List Pp) (j : Nat) : Prop := rs.length = ns.length ∧ ∀ (k : Nat) (r : Pp), rs[k]? = some r → ns[k]? = some r.room ∧ (1 ≤ r.room ∧ r.room ≤ 64) ∧ (r.ins.length : Int) ≤ r.room ∧ (k < j → r.ins = []) ∧ (j ≤ k → LogOk r.es r.es2 r.g r.g2 r.ins ∧ r.b = true ∧ r.es.length ≤ 100 ∧ r.es2.length ≤ 100)
theorem RsOk.two {ns : List Int} {rs : List Pp} {j : Nat} (h : RsOk ns rs j) (hj : j ≤ 100) : RsOk2 ns rs 0 := ⟨h.1, fun k r e => by
  obtain ⟨a1, a2, a3, a4, a5, a6, a7⟩ := h.2 k r e
  exact ⟨a1, a2, a3, fun z => absurd z (Nat.not_lt_zero k), fun _ => ⟨a4, a5, by omega, by omega⟩⟩⟩
theorem RsOk2.set {ns : List Int} {rs : List Pp} {j : Nat} {r r' : Pp} (h : RsOk2 ns rs j) (e : rs[j]? = some r) (h0 : r'.room = r.room) (h2 : r'.ins = []) : RsOk2 ns (rs.set j r') (j + 1) := by
  refine no_implicit_lambda% (@Z.stp _ ?_ (fun key hn => ?_))
  ·
      refine ⟨by rw [List.length_set]; exact h.1, fun k r2 hr => ?_⟩
      by_cases z : j = k
      · subst z
        rw [List.getElem?_set_self (List.getElem?_eq_some_iff.mp e).1] at hr
        cases hr
        obtain ⟨a1, a2, _⟩ := h.2 j r e
        exact ⟨by rw [h0]; exact a1, by rw [h0]; exact a2, by rw [h2, h0]; simp only [List.length_nil]; omega, fun _ => h2, fun z => by omega⟩
      · rw [List.getElem?_set_ne z] at hr
        obtain ⟨a1, a2, a3, a4, a5⟩ := h.2 k r2 hr
        exact ⟨a1, a2, a3, fun y => a4 (by omega), fun y => a5 (by omega)⟩
  simpa only using Z.stc (Z.Stw.mk 5) hn key
theorem ordL_first : ∀ {is hs : List (List Int)} {x : List Int}, (∀ i ∈ is, i = []) → (∀ h ∈ hs, h = []) → hs.length = is.length → ordL is (x :: hs) = x
  | [], _, x, _, _, _ => by simp [ordL]
  | i :: is, [], x, _, _, e => by simp at e
  | i :: is, h :: hs, x, h1, h2, e => by
    have ih := ordL_first (is := is) (hs := hs) (x := h) (fun y m => h1 y (List.mem_cons_of_mem _ m)) (fun y m => h2 y (List.mem_cons_of_mem _ m)) (by simpa using e)
    show ordL is (h :: hs) ++ i ++ x = x
    rw [ih, h1 i List.mem_cons_self, h2 h List.mem_cons_self]
    rfl
theorem ordL_last : ∀ {is hs : List (List Int)} {z : List Int}, (∀ i ∈ is, i = []) → (∀ (k : Nat) (h : List Int), hs[k]? = some h → k < is.length → h = []) → hs[is.length]? = some z → ordL is hs = z
  | [], [], z, _, _, e => by simp at e
  | [], h :: hs, z, _, _, e => by simp at e; simp [ordL, e]
  | i :: is, [], z, _, _, e => by simp at e
  | i :: is, h :: hs, z, h1, h2, e => by
    have ih := ordL_last (is := is) (hs := hs) (z := z) (fun y m => h1 y (List.mem_cons_of_mem _ m)) (fun k y m hk => h2 (k + 1) y (by simpa using m) (by simp; omega)) (by simpa using e)
    have e0 := h2 0 h rfl (by simp)
    simp only [ordL, ih, h1 i List.mem_cons_self, e0, List.append_nil]
theorem ordL_pass {k : Nat} {i i' h h' h2 h2' : List Int} (e : h2' ++ i' ++ h' = h2 ++ i ++ h) : ∀ {is hs : List (List Int)}, is[k]? = some i → hs[k]? = some h → hs[k + 1]? = some h2 → ordL (is.set k i') ((hs.set k h').set (k + 1) h2') = ordL is hs := by
  refine no_implicit_lambda% (@Z.stp _ ?_ (fun key hn => ?_))
  ·
      induction k with
      | zero =>
        intro is hs e1 e2 e3
        match is, hs, e1, e2, e3 with
        | j :: is, g :: g2 :: hs, e1, e2, e3 =>
          cases e1; cases e2; cases e3
          obtain ⟨pre, hp⟩ := ordL_hd (is := is) (hs := hs)
          simp only [List.set_cons_zero, List.set_cons_succ, ordL, hp]
          simp only [List.append_assoc] at e ⊢
          rw [e]
      | succ k ih =>
        intro is hs e1 e2 e3
        match is, hs, e1, e2, e3 with
        | j :: is, g :: hs, e1, e2, e3 =>
          simp only [List.set_cons_succ, ordL]
          rw [ih (by simpa using e1) (by simpa using e2) (by simpa using e3)]
  simpa only using Z.stc (Z.Stw.mk 5) hn key
def sp_law (K : PySem.W.Frag) : Sp := fun vs H Q _ => ∃ (a : Addr) (ns : List Int), vs = [.ref a] ∧ SqL K H a (ns.map V.int) ∧ ns.length ≤ 63 ∧ ∀ H', Q (.bl true) H'
theorem ok_law (T : Txt K mg) {f : Addr} {fd : FuncData} (F : FunD K "law" "law" (defArgs s_law) (defBody s_law) (defScope s_law) [] [] f fd) : FnOk P w K mg base CX0 6 f fd ["_law_script"] (sp_law K) := by
  refine no_implicit_lambda% (@Z.stp _ ?_ (fun key hn => ?_))
  ·
      have c__law_pool : Cal P w K mg base 5 "_law_pool" (sp__law_pool K) [] := (ok__law_pool T).mono (by decide)
      have c__law_take : Cal P w K mg base 5 "_law_take" (sp__law_take K) [] := (ok__law_take T).mono (by decide)
      have kc_Pipe_0_room : KMak P w K mg base 4 "Pipe" (He.ga K "Pipe") (sp_Pipe___init__ K) 0 ["room"] [.at 0, .at 1] := (mkk_Pipe_0_room T).mono (by decide)
      have c__law_row : Cal P w K mg base 5 "_law_row" (sp__law_row K) [] := (ok__law_row T).mono (by decide)
      have c__law_put : Cal P w K mg base 5 "_law_put" (sp__law_put K) [] := (ok__law_put T).mono (by decide)
      have c__law_taken : Cal P w K mg base 5 "_law_taken" (sp__law_taken K) [] := (ok__law_taken T).mono (by decide)
      have c__law_in_order : Cal P w K mg base 5 "_law_in_order" (sp__law_in_order K) [] := (ok__law_in_order T).mono (by decide)
      have c__law_logged : Cal P w K mg base 5 "_law_logged" (sp__law_logged K) [] := (ok__law_logged T).mono (by decide)
      have c__law_passed : Cal P w K mg base 5 "_law_passed" (sp__law_passed K) [] := (ok__law_passed T).mono (by decide)
      refine law_nox F sc_law (fun vs H Q E h => (by obtain ⟨a, ns, rfl, _⟩ := h; rfl)) (fun cdv A outer s H vs Q E hr h kx po => ?_)
      refine ⟨_, (pss_cons (ps_set (i := 1) sc_law.nd rfl (Or.inr rfl) (pe_cE kx c__law_pool hr (by decide) rfl (pa_cons (pv 0) (pa_cons pe_int pa_nil))))
          (pss_cons (ps_setLc (i := 2) (own := [("_law_k", 6)]) (g := (gName 6)) (tt := tYes) (te := (tOp (zAdd K) (tC (.int 1)) (tCall (sp__law_take K) [] E0 (tCons (tVar 1) (tCons (tOp (rIx K) (tLst (tCons (tC (.int 2)) (tCons (tC (.int 9)) (tCons (tC (.int 64)) tNil)))) (tCall (sp__law_take K) [] E0 (tCons (tVar 1) (tCons (tC (.int 3)) tNil)))) tNil))))) rfl sc_law.nd rfl rfl (sw_true rfl rfl rfl (by decide +kernel)) (pi_range1 rfl T.f_range (pa_cons (pe_op op_zAdd pe_int (pe_cE kx c__law_take hr (by decide) rfl (pa_cons (pv 1) (pa_cons pe_int pa_nil)))) pa_nil)) (blkOk_by (own := [("_law_k", 6)]) (N := ["_law_script", "_law_pool_here", "_law_numbers", "_law_pipes", "_law_row_here", "_law_hands", "_law_k", "_law_at", "_law_many", "_law_number", "_law_pipe"]) (sc := defScope s_law) (by decide +kernel)) (fun _ _ _ _ _ => by exact (pg_name (i := 6) sc_law.nd rfl (Or.inl rfl))) (fun _ _ _ _ _ => by exact pts_nil) (fun _ _ _ _ _ => by exact (pe_op op_zAdd pe_int (pe_c0 c__law_take hr (by decide) rfl (pa_cons (pv 1) (pa_cons (pe_ix ix_seq (pe_lst (pa_cons pe_int (pa_cons pe_int (pa_cons pe_int pa_nil)))) (pe_c0 c__law_take hr (by decide) rfl (pa_cons (pv 1) (pa_cons pe_int pa_nil))) (fun _ _ => rfl)) pa_nil))))))
          (pss_cons (ps_setLc (i := 3) (own := [("_law_number", 9)]) (g := (gName 9)) (tt := tYes) (te := (tMakeZ (He.ga K "Pipe") 0 (List.length (["room"] : List Str)) (sp_Pipe___init__ K) [.at 0, .at 1] E0 tNil (tCons (tVar 9) tNil))) rfl sc_law.nd rfl rfl (sw_true rfl rfl rfl (by decide +kernel)) (pi_list (pv 2)) (blkOk_by (own := [("_law_number", 9)]) (N := ["_law_script", "_law_pool_here", "_law_numbers", "_law_pipes", "_law_row_here", "_law_hands", "_law_k", "_law_at", "_law_many", "_law_number", "_law_pipe"]) (sc := defScope s_law) (by decide +kernel)) (fun _ _ _ _ _ => by exact (pg_name (i := 9) sc_law.nd rfl (Or.inl rfl))) (fun _ _ _ _ _ => by exact pts_nil) (fun _ _ _ _ _ => by exact (pe_kkw0 kc_Pipe_0_room hr (by decide) rfl (pk_cons (pv 9) pk_nil))))
          (pss_cons (ps_set (i := 4) sc_law.nd rfl (Or.inl rfl) (pe_cE kx c__law_row hr (by decide) rfl (pa_cons (pv 1) (pa_cons pe_int pa_nil))))
          (pss_cons (ps_set (i := 5) sc_law.nd rfl (Or.inl rfl) (pe_op op_zAdd (pe_lst (pa_cons (pe_callTy call_zList rfl T.f_list bt_list (pa_cons (pv 4) pa_nil)) pa_nil)) (pe_lc (own := [("_law_pipe", 10)]) (g := (gName 10)) (tt := tYes) (te := (tLst tNil)) rfl sc_law.nd (pi_list (pv 3)) (blkOk_by (own := [("_law_pipe", 10)]) (N := ["_law_script", "_law_pool_here", "_law_numbers", "_law_pipes", "_law_row_here", "_law_hands", "_law_k", "_law_at", "_law_many", "_law_number", "_law_pipe"]) (sc := defScope s_law) (by decide +kernel)) (fun _ _ _ _ _ => by exact (pg_name (i := 10) sc_law.nd rfl (Or.inl rfl))) (fun _ _ _ _ _ => by exact pts_nil) (fun _ _ _ _ _ => by exact (pe_lst pa_nil)))))
          (pss_cons (ps_for po rfl (pi_range2 rfl T.f_range (pa_cons pe_int (pa_cons (pe_callB (call_zMax rfl) rfl T.f_max bt_max (pa_cons pe_int (pa_cons (pe_callB (call_zMin rfl) rfl T.f_min bt_min (pa_cons pe_int (pa_cons (pe_callB call_zLen rfl T.f_len bt_len (pa_cons (pv 0) pa_nil)) pa_nil))) pa_nil))) pa_nil))) (pg_name (i := 6) sc_law.nd rfl (Or.inl rfl))
          (pss_cons (ps_set (i := 1) sc_law.nd rfl (Or.inr rfl) (pe_cE kx c__law_pool hr (by decide) rfl (pa_cons (pv 0) (pa_cons (pv 6) pa_nil))))
          (pss_cons (ps_set (i := 7) sc_law.nd rfl (Or.inl rfl) (pe_cE kx c__law_take hr (by decide) rfl (pa_cons (pv 1) (pa_cons (pe_callB call_zLen rfl T.f_len bt_len (pa_cons (pv 3) pa_nil)) pa_nil))))
          (pss_cons (ps_set (i := 8) sc_law.nd rfl (Or.inl rfl) (pe_op op_zAdd pe_int (pe_cE kx c__law_take hr (by decide) rfl (pa_cons (pv 1) (pa_cons (pe_ix ix_seq (pe_lst (pa_cons pe_int (pa_cons pe_int (pa_cons pe_int pa_nil)))) (pe_cE kx c__law_take hr (by decide) rfl (pa_cons (pv 1) (pa_cons pe_int pa_nil))) (fun _ _ => rfl)) pa_nil)))))
          (pss_cons (ps_if (pt_cmpR (op_zEq (uI hr)) (pe_cE kx c__law_take hr (by decide) rfl (pa_cons (pv 1) (pa_cons pe_int pa_nil))) pe_int (nomark _))
          (pss_one (ps_if (pt_not (pt_z (pe_cE kx c__law_put hr (by decide) rfl (pa_cons (pe_ix ix_seq (pv 3) (pv 7) (fun _ _ => rfl)) (pa_cons (pe_ix ix_seq (pv 2) (pv 7) (fun _ _ => rfl)) (pa_cons (pv 5) (pa_cons (pv 7) (pa_cons (pv 8) pa_nil))))))))
          (pss_one (ps_ret pe_bl))
          pss_nil))
          (pss_one (ps_if (pt_not (pt_z (pe_cE kx c__law_taken hr (by decide) rfl (pa_cons (pe_ix ix_seq (pv 3) (pv 7) (fun _ _ => rfl)) (pa_cons (pv 5) (pa_cons (pv 7) (pa_cons (pv 8) pa_nil)))))))
          (pss_one (ps_ret pe_bl))
          pss_nil)))
          (pss_one (ps_if (pt_cmpR (op_zNe (uI hr)) (pe_cE kx c__law_in_order hr (by decide) rfl (pa_cons (pv 3) (pa_cons (pv 5) pa_nil))) (pv 4) (nomark _))
          (pss_one (ps_ret pe_bl))
          pss_nil)))))))
          (pss_cons (ps_if (pt_not (pt_z (pe_callB (call_zAll rfl) rfl T.f_all bt_all (pa_cons (pe_lc (own := [("_law_pipe", 10)]) (g := (gName 10)) (tt := tYes) (te := (tCall (sp__law_logged K) [] E0 (tCons (tVar 10) tNil))) rfl sc_law.nd (pi_list (pv 3)) (blkOk_by (own := [("_law_pipe", 10)]) (N := ["_law_script", "_law_pool_here", "_law_numbers", "_law_pipes", "_law_row_here", "_law_hands", "_law_k", "_law_at", "_law_many", "_law_number", "_law_pipe"]) (sc := defScope s_law) (by decide +kernel)) (fun _ _ _ _ _ => by exact (pg_name (i := 10) sc_law.nd rfl (Or.inl rfl))) (fun _ _ _ _ _ => by exact pts_nil) (fun _ _ _ _ _ => by exact (pe_c0 c__law_logged hr (by decide) rfl (pa_cons (pv 10) pa_nil)))) pa_nil))))
          (pss_one (ps_ret pe_bl))
          pss_nil)
          (pss_cons (ps_for po rfl (pi_range1 rfl T.f_range (pa_cons (pe_callB call_zLen rfl T.f_len bt_len (pa_cons (pv 3) pa_nil)) pa_nil)) (pg_name (i := 7) sc_law.nd rfl (Or.inl rfl))
          (pss_one (ps_if (PW.pt (pw_or (pt_not (pt_z (pe_cE kx c__law_passed hr (by decide) rfl (pa_cons (pe_ix ix_seq (pv 3) (pv 7) (fun _ _ => rfl)) (pa_cons (pe_ix ix_seq (pv 2) (pv 7) (fun _ _ => rfl)) (pa_cons (pv 5) (pa_cons (pv 7) pa_nil))))))) (pw_or1 (pt_cmpR (op_zNe (uI hr)) (pe_cE kx c__law_in_order hr (by decide) rfl (pa_cons (pv 3) (pa_cons (pv 5) pa_nil))) (pv 4) (nomark _)))))
          (pss_one (ps_ret pe_bl))
          pss_nil)))
          (pss_one (ps_ret (pe_cmpR (op_zEq (uI hr)) (pe_ix ix_seq (pv 5) (pe_callB call_zLen rfl T.f_len bt_len (pa_cons (pv 3) pa_nil)) (fun _ _ => rfl)) (pv 4) (nomark _)))))))))))), ?_⟩
      try dsimp only [cxOf, Cx.tr, Cx.suite, Cx.nox, Cx.wish]
      obtain ⟨a, ns, rfl, hq, hlen, k⟩ := h
      obtain ⟨S, hS, O⟩ := scr_of hq
      clear hq
      refine w_start (σ := [some (.ref a), none, none, none, none, none, none, none, none, none, none]) rfl ?_
      wtm_at "zn"
      wtm_at "zn"
      with_reducible apply w_lcDraw (P := fun x => 1 ≤ x ∧ x ≤ 64) (s := 2) O
      wtm_at "zlcd"
      wtm_at "zm"
      wtm_at "zn"
      have hnl : 1 ≤ ns.length ∧ ns.length ≤ 3 := by omega
      obtain ⟨nsq, hnsq⟩ : ∃ z, z = D := ⟨_, rfl⟩
      subst hnsq
      obtain ⟨nms, hnms⟩ : ∃ z, z = ns := ⟨_, rfl⟩
      subst hnms
      obtain ⟨pd, hpd⟩ : ∃ z, z = d := ⟨_, rfl⟩
      subst hpd
      obtain ⟨pn, hpn⟩ : ∃ z, z = n := ⟨_, rfl⟩
      subst hpn
      refine w_lcVG (fun i acc L' => ∃ rs : List Pp, acc = ppR rs ∧ rs.length = i ∧ RsOk (nms.take i) rs 0 ∧ (∀ r ∈ rs, r.ins = []) ∧ L' = bigB (ppB K) rs ++ (pool p pd pn c ++ S)) (O.sub (T := [(nsq, .lst (nms.map V.int))] ++ (pool p pd pn c ++ S)) (by wtm_at "zsub")) Pk.here ⟨[], rfl, rfl, ⟨by simp, fun k r h => by simp at h⟩, (fun _ h => nomatch h), rfl⟩ ?_ ?_ ?_
      · rintro i acc L' ⟨rs, rfl, rfl, hr, _, _⟩
        have := hr.1
        rw [ppR_len, this, List.length_take]
        omega
      · rintro kk x0 D acc L' H₁ Qe hx ⟨rs, rfl, hl, hr, hi, rfl⟩ O₁ hk Nx
        obtain ⟨rm, hrm, rfl⟩ := int_at hx
        have hrb := hb rm (List.mem_of_getElem? hrm)
        clear O; revert H₁; intro H O
        dsimp only [wipe, List.map, List.set]
        wtm_at "zgo"
        refine hk (.ref x) (bigB (ppB K) (rs ++ [⟨x, dx, i, m, dm, n1, d, dd, n2, rm, 0, 0, [], [], [], true⟩]) ++ (pool p pd pn c ++ S)) _ ⟨rs ++ [⟨x, dx, i, m, dm, n1, d, dd, n2, rm, 0, 0, [], [], [], true⟩], by rw [ppR_app1], by rw [List.length_append, hl]; rfl, hr.snoc hl hrm hrb (by simp; omega) .nil rfl (Nat.zero_le _) (Nat.zero_le _), fun r hr2 => ?_, rfl⟩ ?_
        · rcases List.mem_append.mp hr2 with z | z
          · exact hi r z
          · rw [List.mem_singleton.mp z]
        · rw [bigB_app1]
          simp only [hl_assoc]
          wtm_at "zown"
      · rintro pq acc L' H₁ ⟨rs, rfl, hl, hr, hi, rfl⟩ O₁
        clear O; revert H₁; intro H O
        rw [List.length_map] at hl hr
        rw [List.take_length] at hr
        wtm_at "zm"
        wtm_at "zn"
        have hrl : ns.length ≤ 60 := by omega
        obtain ⟨rq, hrq⟩ : ∃ z, z = q := ⟨_, rfl⟩
        subst hrq
        obtain ⟨row, hrow⟩ : ∃ z, z = ns := ⟨_, rfl⟩
        subst hrow
        wtm_at "zn"
        rename_i q2
        refine w_lcVG (fun i acc L' => ∃ hs : List (Addr × List Int), acc = hnR hs ∧ (hs.length = i ∧ hs.length ≤ rs.length) ∧ (∀ h ∈ hs, h.2 = []) ∧ L' = bigB hnB hs ++ ([(q, .lst [.ref q2])] ++ ([(q2, .lst (row.map V.int))] ++ ([(rq, .lst (row.map V.int))] ++ ([(nsq, .lst (nms.map V.int))] ++ (bigB (ppB K) rs ++ S)))))) (O.sub (T := [(pq, .lst (ppR rs))] ++ ([(q, .lst [.ref q2])] ++ ([(q2, .lst (row.map V.int))] ++ ([(rq, .lst (row.map V.int))] ++ ([(nsq, .lst (nms.map V.int))] ++ (bigB (ppB K) rs ++ S)))))) (by wtm_at "zsub")) Pk.here ⟨[], rfl, ⟨rfl, Nat.zero_le _⟩, (fun _ h => nomatch h), rfl⟩ ?_ ?_ ?_
        · rintro i acc L' ⟨hs, rfl, ⟨hl1, hl2⟩, _, _⟩
          rw [hnR_len]; omega
        · rintro kk x0 D acc L' H₁ Qe hx ⟨hs, rfl, ⟨hl1, hl2⟩, hi2, rfl⟩ O₁ hk Nx
          have hkl := (List.getElem?_eq_some_iff.mp hx).1
          rw [ppR_len] at hkl
          clear O; revert H₁; intro H O
          dsimp only [wipe, List.map, List.set]
          wtm_at "zgo"
          refine hk (.ref q) (bigB hnB (hs ++ [(q, [])]) ++ _) _ ⟨hs ++ [(q, [])], by rw [hnR_app1], ⟨by rw [List.length_append, hl1]; rfl, by rw [List.length_append]; simp only [List.length_cons, List.length_nil]; omega⟩, fun h hh => ?_, rfl⟩ ?_
          · rcases List.mem_append.mp hh with z | z
            · exact hi2 h z
            · rw [List.mem_singleton.mp z]
          · rw [hnB_app1]
            simp only [hl_assoc]
            wtm_at "zown"
        · rintro D acc L' H₁ ⟨hs, rfl, ⟨hl1, hl2⟩, hi2, rfl⟩ O₁
          clear O; revert H₁; intro H O
          rw [ppR_len] at hl1
          have hhl := hnR_len (hs := hs)
          refine w_addL O (by wtm_at "zpk1") (by wtm_at "zpk1") (by rw [hhl]; simp only [List.length_cons, List.length_nil]; omega) ?_
          intro hl0 H₁ O₁
          clear O; revert H₁; intro H O
          rw [show ([.ref q2] : List V) ++ hnR hs = hnR ((q2, row) :: hs) from rfl] at O
          have hor : ordL (inL rs) (hdL ((q2, row) :: hs)) = row := by
            show ordL (inL rs) (row :: hdL hs) = row
            refine ordL_first (fun i m => ?_) (fun h m => ?_) (by rw [inL_len, hdL_len]; exact hl1)
            · obtain ⟨r, hr2, rfl⟩ := List.mem_map.mp m
              exact hi r hr2
            · obtain ⟨r, hr2, rfl⟩ := List.mem_map.mp m
              exact hi2 r hr2
          generalize hhs : (q2, row) :: hs = hs0 at *
          have hl0n : hs0.length = rs.length + 1 := by rw [← hhs, List.length_cons]; omega
          have O2 : Own H ([(pq, .lst (ppR rs))] ++ (bigB (ppB K) rs ++ ([(hl0, .lst (hnR hs0))] ++ (bigB hnB hs0 ++ ([(rq, .lst (row.map V.int))] ++ ([(nsq, .lst (nms.map V.int))] ++ S)))))) := by
            rw [← hhs, hnB_cons, hhs]
            simp only [hl_assoc]
            wtm_at "zown"
          clear O hhs hi2 hl1 hl2 hhl
          revert O2; intro O
          wtm_at "zm"
          wtm_at "zn"
          refine w_forR (lo := 1) (fun j σ H => ∃ (rs : List Pp) (hs : List (Addr × List Int)) (v1 v6 v7 v8 v9 v10 : Option V), σ = [some (.ref a), v1, some (.ref nsq), some (.ref pq), some (.ref rq), some (.ref hl0), v6, v7, v8, v9, v10] ∧
            Own H ([(pq, .lst (ppR rs))] ++ (bigB (ppB K) rs ++ ([(hl0, .lst (hnR hs))] ++ (bigB hnB hs ++ ([(rq, .lst (row.map V.int))] ++ ([(nsq, .lst (nms.map V.int))] ++ S)))))) ∧ RsOk nms rs j ∧ hs.length = rs.length + 1 ∧ ordL (inL rs) (hdL hs) = row) ?_ ?_ ?_
          · exact ⟨rs, hs0, _, _, _, _, _, _, rfl, O, hr, hl0n, hor⟩
          · clear O hr hl hi hor hl0n hs
            rintro j σ H hj ⟨rs, hs, v1, v6, v7, v8, v9, v10, rfl, O, f1, f2, f3⟩
            have hj2 : j ≤ 70 := by omega
            have hrn := f1.1
            wtm_at "zm"
            wtm_at "zn"
            wtm_at "zn"
            obtain ⟨ak, rfl⟩ := Int.eq_ofNat_of_zero_le h1
            have hak : ak < rs.length := by omega
            wtm_at "zn"
            obtain ⟨r1, er⟩ : ∃ r1, rs[ak]? = some r1 := ⟨_, List.getElem?_eq_getElem (by omega)⟩
            obtain ⟨ha, eh⟩ : ∃ h1, hs[ak]? = some h1 := ⟨_, List.getElem?_eq_getElem (by omega)⟩
            obtain ⟨hc, eh2⟩ : ∃ h1, hs[ak + 1]? = some h1 := ⟨_, List.getElem?_eq_getElem (by omega)⟩
            obtain ⟨e1, e2, e3, e4, e5, e6, e7⟩ := f1.2 ak r1 er
            have htri := ordL_tri (inL_get er) (hdL_get eh) (hdL_get eh2)
            rw [f3] at htri
            refine w_seqP1 (fun σ H => ∃ (rs : List Pp) (hs : List (Addr × List Int)) (v1 v6 v7 v8 v9 v10 : Option V), σ = [some (.ref a), v1, some (.ref nsq), some (.ref pq), some (.ref rq), some (.ref hl0), v6, v7, v8, v9, v10] ∧
              Own H ([(pq, .lst (ppR rs))] ++ (bigB (ppB K) rs ++ ([(hl0, .lst (hnR hs))] ++ (bigB hnB hs ++ ([(rq, .lst (row.map V.int))] ++ ([(nsq, .lst (nms.map V.int))] ++ S)))))) ∧ RsOk nms rs (j + 1) ∧ hs.length = rs.length + 1 ∧ ordL (inL rs) (hdL hs) = row) ?_ ?_
            · intro zz hzz
              rw [ppB_at er, e5] at O
              simp only [hl_assoc] at O
              have hnd : nms.getD ak 0 = r1.room := by rw [List.getD, e1]; rfl
              wtm_at "zn"
              · rw [hnd]
                wtm_at "zgo"
                exact hzz _ _ _ ⟨rs.set ak ⟨r1.p, r1.dp, i', r1.m, r1.dm, r1.n1, r1.d, r1.dd, r1.n2, r1.room, g', r1.g2, es', r1.es2, ins', true⟩, hs.set ak hd', _, _, _, _, _, _, rfl, own_pp er rfl (by wtm_at "zown"), f1.set (by omega) er rfl (by show (ins'.length : Int) ≤ r1.room; omega) hq1 rfl (by show es'.length ≤ j + 1; omega) (by show r1.es2.length ≤ j + 1; omega), by rw [List.length_set, List.length_set]; exact f2, by rw [inL_set, hdL_set, ordL_put hq2 (inL_get er) (hdL_get eh)]; exact f3⟩
              · exact hzz _ _ _ ⟨rs.set ak ⟨r1.p, r1.dp, i', r1.m, r1.dm, r1.n1, r1.d, r1.dd, r1.n2, r1.room, r1.g, g2', r1.es, es2', ins', true⟩, hs.set (ak + 1) hd', _, _, _, _, _, _, rfl, own_pp er rfl (by wtm_at "zown"), f1.set (by omega) er rfl (by show (ins'.length : Int) ≤ r1.room; omega) hq1 rfl (by show r1.es.length ≤ j + 1; omega) (by show es2'.length ≤ j + 1; omega), by rw [List.length_set, List.length_set]; exact f2, by rw [inL_set, hdL_set, ordL_take hq2 (inL_get er) (hdL_get eh2)]; exact f3⟩
            · clear O er eh eh2 e1 e2 e3 e4 e5 e6 e7 htri hak hrn f1 f2 f3
              rintro σ H ⟨rs, hs, v1, v6, v7, v8, v9, v10, rfl, O, f1, f2, f3⟩
              have hrn := f1.1
              have hhb : ∀ h ∈ hs, h.2.length ≤ 1000 := fun h m => by
                have := ordL_mem (is := inL rs) (hs := hdL hs) (h := h.2) (by rw [inL_len, hdL_len]; exact f2) (List.mem_map_of_mem m)
                rw [f3] at this
                omega
              have hib : ∀ r ∈ rs, r.ins.length ≤ 64 := fun r m => by
                obtain ⟨k, hk⟩ := List.getElem?_of_mem m
                obtain ⟨_, a2, a3, _⟩ := f1.2 k r hk
                omega
              wtm_at "zgo"
              · exact absurd f3 (by assumption)
              · exact ⟨rs, hs, _, _, _, _, _, _, rfl, by wtm_at "zown", f1, f2, f3⟩
          · clear O hr hl hi hor hl0n hs
            rintro σ H ⟨rs, hs, v1, v6, v7, v8, v9, v10, rfl, O, f1, f2, f3⟩
            have hrn := f1.1
            generalize hJ : (max 13 (min 64 (ns.length : Int)) - 1).toNat = J at *
            have hJ2 : J ≤ 64 := by omega
            refine w_seqP1 (fun σ H => σ = [some (.ref a), v1, some (.ref nsq), some (.ref pq), some (.ref rq), some (.ref hl0), v6, v7, v8, v9, v10] ∧
              Own H ([(pq, .lst (ppR rs))] ++ (bigB (ppB K) rs ++ ([(hl0, .lst (hnR hs))] ++ (bigB hnB hs ++ ([(rq, .lst (row.map V.int))] ++ ([(nsq, .lst (nms.map V.int))] ++ S))))))) ?_ ?_
            · intro zz hzz
              wtm_at "zn"
              refine w_lcVG (fun i acc L' => acc = (List.replicate i true).map V.bl ∧ i ≤ rs.length ∧ L' = bigB (ppB K) rs ++ ([(hl0, .lst (hnR hs))] ++ (bigB hnB hs ++ ([(rq, .lst (row.map V.int))] ++ ([(nsq, .lst (nms.map V.int))] ++ S))))) O Pk.here ⟨rfl, Nat.zero_le _, rfl⟩ ?_ ?_ ?_
              · rintro i acc L' ⟨rfl, hi, _⟩
                rw [List.length_map, List.length_replicate]; omega
              · rintro ii x0 D acc L' H₁ Qe hx ⟨rfl, hi, rfl⟩ O₁ hk Nx
                obtain ⟨r1, er, rfl⟩ := ppR_at hx
                obtain ⟨e1, e2, e3, e4, e5, e6, e7⟩ := f1.2 ii r1 er
                have hil := (List.getElem?_eq_some_iff.mp er).1
                clear O; revert H₁; intro H O
                rw [ppB_at er] at O
                simp only [hl_assoc] at O
                dsimp only [wipe, List.map, List.set]
                wtm_at "zgo"
                refine hk (.bl true) _ _ ⟨?_, by omega, rfl⟩ ?_
                · rw [List.replicate_succ', List.map_append]; rfl
                · rw [ppB_at er]
                  simp only [hl_assoc]
                  wtm_at "zown"
              · rintro D acc L' H₁ ⟨rfl, _, rfl⟩ O₁
                clear O; revert H₁; intro H O
                refine w_all O Pk.here ?_
                rw [show (List.replicate (ppR rs).length true).all id = true from by rw [List.all_replicate]; split <;> rfl]
                wtm_at "zgo"
                exact hzz _ _ _ ⟨rfl, by wtm_at "zown"⟩
            · rintro σ H₁ ⟨rfl, O₁⟩
              clear O; revert H₁; intro H O
              wtm_at "zn"
              refine w_forR (lo := 0) (fun j σ H => ∃ (rs : List Pp) (hs : List (Addr × List Int)) (v1 v6 v7 v8 v9 v10 : Option V), σ = [some (.ref a), v1, some (.ref nsq), some (.ref pq), some (.ref rq), some (.ref hl0), v6, v7, v8, v9, v10] ∧
                Own H ([(pq, .lst (ppR rs))] ++ (bigB (ppB K) rs ++ ([(hl0, .lst (hnR hs))] ++ (bigB hnB hs ++ ([(rq, .lst (row.map V.int))] ++ ([(nsq, .lst (nms.map V.int))] ++ S)))))) ∧ RsOk2 nms rs j ∧ hs.length = rs.length + 1 ∧ ordL (inL rs) (hdL hs) = row ∧ (∀ (k : Nat) (h : Addr × List Int), hs[k]? = some h → k < j → h.2 = [])) ?_ ?_ ?_
              · exact ⟨rs, hs, _, _, _, _, _, _, rfl, O, f1.two (by omega), f2, f3, fun k h _ hk => absurd hk (Nat.not_lt_zero k)⟩
              · have hrl0 := f1.1
                clear O f1 f2 f3
                rintro j σ H hj ⟨rs, hs, v1, v6, v7, v8, v9, v10, rfl, O, f1, f2, f3, f4⟩
                have hrn := f1.1
                obtain ⟨r1, er⟩ : ∃ r1, rs[j]? = some r1 := ⟨_, List.getElem?_eq_getElem (by omega)⟩
                obtain ⟨ha, eh⟩ : ∃ h1, hs[j]? = some h1 := ⟨_, List.getElem?_eq_getElem (by omega)⟩
                obtain ⟨hc, eh2⟩ : ∃ h1, hs[j + 1]? = some h1 := ⟨_, List.getElem?_eq_getElem (by omega)⟩
                obtain ⟨e1, e2, e3, _, e4⟩ := f1.2 j r1 er
                obtain ⟨e4, e5, e6, e7⟩ := e4 (Nat.le_refl _)
                have htri := ordL_tri (inL_get er) (hdL_get eh) (hdL_get eh2)
                rw [f3] at htri
                have hnd : nms.getD j 0 = r1.room := by rw [List.getD, e1]; rfl
                rw [ppB_at er, e5] at O
                simp only [hl_assoc] at O
                rw [Int.zero_add]
                wtm_at "zm"
                rw [hnd]
                wtm_at "zgo"
                have O2 : Own H ([(pq, .lst (ppR (rs.set j ⟨r1.p, r1.dp, i', r1.m, r1.dm, r1.n1, r1.d, r1.dd, r1.n2, r1.room, g', g2', es', es2', [], false⟩)))] ++ (bigB (ppB K) (rs.set j ⟨r1.p, r1.dp, i', r1.m, r1.dm, r1.n1, r1.d, r1.dd, r1.n2, r1.room, g', g2', es', es2', [], false⟩) ++ ([(hl0, .lst (hnR (hs2 hs j ha' hb')))] ++ (bigB hnB (hs2 hs j ha' hb') ++ ([(rq, .lst (row.map V.int))] ++ ([(nsq, .lst (nms.map V.int))] ++ S)))))) := own_pp er rfl (by wtm_at "zown")
                have g1 := f1.set (r' := ⟨r1.p, r1.dp, i', r1.m, r1.dm, r1.n1, r1.d, r1.dd, r1.n2, r1.room, g', g2', es', es2', [], false⟩) er rfl rfl
                have g3 : ordL (inL (rs.set j ⟨r1.p, r1.dp, i', r1.m, r1.dm, r1.n1, r1.d, r1.dd, r1.n2, r1.room, g', g2', es', es2', [], false⟩)) (hdL (hs2 hs j ha' hb')) = row := by
                  unfold hs2
                  rw [inL_set, hdL_set, hdL_set, ← f3]
                  exact ordL_pass (by rw [hq1, hq2, List.append_nil, List.append_nil]) (inL_get er) (hdL_get eh) (hdL_get eh2)
                generalize hRS : rs.set j ⟨r1.p, r1.dp, i', r1.m, r1.dm, r1.n1, r1.d, r1.dd, r1.n2, r1.room, g', g2', es', es2', [], false⟩ = rsn at *
                have g2 : (hs2 hs j ha' hb').length = rsn.length + 1 := by unfold hs2; rw [List.length_set, List.length_set, ← hRS, List.length_set]; exact f2
                have g4 : ∀ (k : Nat) (h : Addr × List Int), (hs2 hs j ha' hb')[k]? = some h → k < j + 1 → h.2 = [] := by
                  intro k h hk hlt
                  rcases Nat.lt_or_ge k j with z | z
                  · unfold hs2 at hk
                    rw [List.getElem?_set_ne (by omega), List.getElem?_set_ne (by omega)] at hk
                    exact f4 k h hk z
                  · obtain rfl : k = j := by omega
                    rw [hs2_a (by omega)] at hk
                    cases hk
                    exact hq1
                generalize hHS : hs2 hs j ha' hb' = hsn at *
                clear O f1 f2 f3 f4 hrn er eh eh2 hq1 hq2 htri hnd e1 e2 e3 e4 e5 e6 e7 hRS hHS
                revert O2; intro O
                have hrn := g1.1
                have hhb : ∀ h ∈ hsn, h.2.length ≤ 1000 := fun h m => by
                  have := ordL_mem (is := inL rsn) (hs := hdL hsn) (h := h.2) (by rw [inL_len, hdL_len]; exact g2) (List.mem_map_of_mem m)
                  rw [g3] at this
                  omega
                have hib : ∀ r ∈ rsn, r.ins.length ≤ 64 := fun r m => by
                  obtain ⟨k, hk⟩ := List.getElem?_of_mem m
                  obtain ⟨_, a2, a3, _⟩ := g1.2 k r hk
                  omega
                wtm_at "zgo"
                · exact absurd g3 (by assumption)
                · exact ⟨rsn, hsn, _, _, _, _, _, _, rfl, by wtm_at "zown", g1, g2, g3, g4⟩
              · clear O f1 f2 f3
                rintro σ H ⟨rs, hs, v1, v6, v7, v8, v9, v10, rfl, O, f1, f2, f3, f4⟩
                have hrn := f1.1
                have hlast : ∀ z, (hdL hs)[rs.length]? = some z → row = z := fun z hz => by
                  rw [← f3]
                  refine ordL_last (fun i m => ?_) (fun k h hk hlt => ?_) (by rw [inL_len]; exact hz)
                  · obtain ⟨r, hr2, rfl⟩ := List.mem_map.mp m
                    obtain ⟨k, hk⟩ := List.getElem?_of_mem hr2
                    exact (f1.2 k r hk).2.2.2.1 (by have := (List.getElem?_eq_some_iff.mp hk).1; omega)
                  · rw [inL_len] at hlt
                    obtain ⟨h1, e1⟩ : ∃ h1, hs[k]? = some h1 := ⟨_, List.getElem?_eq_getElem (by omega)⟩
                    have := hdL_get e1
                    rw [this] at hk
                    cases hk
                    exact f4 k h1 e1 (by omega)
                obtain ⟨hz, ehz⟩ : ∃ hz, hs[rs.length]? = some hz := ⟨_, List.getElem?_eq_getElem (by omega)⟩
                have hzr := hlast hz.2 (hdL_get ehz)
                wtm_at "zgo"
                rw [decide_eq_true hzr.symm]
                exact k _
  simpa only using Z.stc (Z.Stw.mk 5) hn key

end
theorem txt_of {K : PySem.W.Frag} {h : Heap} {mg : Str → Option Value} (X : K.In h) (G : h.Ns mainGlobals mg) (c : He.SaysD fa fn K) (cx : ex K = true) : Txt K mg where
  f_all := He.free_ok X G (c.fact 10 (f := .free "all") rfl)
  f_isinstance := He.free_ok X G (c.fact 11 (f := .free "isinstance") rfl)
  f_len := He.free_ok X G (c.fact 12 (f := .free "len") rfl)
  f_list := He.free_ok X G (c.fact 13 (f := .free "list") rfl)
  f_max := He.free_ok X G (c.fact 14 (f := .free "max") rfl)
  f_min := He.free_ok X G (c.fact 15 (f := .free "min") rfl)
  f_range := He.free_ok X G (c.fact 16 (f := .free "range") rfl)
  c_BROKEN := He.int_ok X G (c.fact 17 (f := .int "BROKEN" 99) rfl)
  c_MOST_ROOM := He.int_ok X G (c.fact 18 (f := .int "MOST_ROOM" 64) rfl)
  d_told_anew := let ⟨fd, F⟩ := c.def_ 0 (d := D_told_anew) rfl; ⟨_, fd, F, He.glo_ok X G (c.fact 0 (f := .glo "told_anew") rfl)⟩
  d__law_pool := let ⟨fd, F⟩ := c.def_ 1 (d := D__law_pool) rfl; ⟨_, fd, F, He.glo_ok X G (c.fact 1 (f := .glo "_law_pool") rfl)⟩
  d__law_take := let ⟨fd, F⟩ := c.def_ 2 (d := D__law_take) rfl; ⟨_, fd, F, He.glo_ok X G (c.fact 2 (f := .glo "_law_take") rfl)⟩
  d__law_row := let ⟨fd, F⟩ := c.def_ 3 (d := D__law_row) rfl; ⟨_, fd, F, He.glo_ok X G (c.fact 3 (f := .glo "_law_row") rfl)⟩
  d__law_put := let ⟨fd, F⟩ := c.def_ 4 (d := D__law_put) rfl; ⟨_, fd, F, He.glo_ok X G (c.fact 4 (f := .glo "_law_put") rfl)⟩
  d__law_taken := let ⟨fd, F⟩ := c.def_ 5 (d := D__law_taken) rfl; ⟨_, fd, F, He.glo_ok X G (c.fact 5 (f := .glo "_law_taken") rfl)⟩
  d__law_in_order := let ⟨fd, F⟩ := c.def_ 6 (d := D__law_in_order) rfl; ⟨_, fd, F, He.glo_ok X G (c.fact 6 (f := .glo "_law_in_order") rfl)⟩
  d__law_logged := let ⟨fd, F⟩ := c.def_ 7 (d := D__law_logged) rfl; ⟨_, fd, F, He.glo_ok X G (c.fact 7 (f := .glo "_law_logged") rfl)⟩
  d__law_passed := let ⟨fd, F⟩ := c.def_ 8 (d := D__law_passed) rfl; ⟨_, fd, F, He.glo_ok X G (c.fact 8 (f := .glo "_law_passed") rfl)⟩
  cl_Raw := He.cls_ok (c.fact 20 (f := .cls "Raw") rfl)
  g_Raw := He.glo_ok X G (c.fact 19 (f := .glo "Raw") rfl)
  cl_Mouth := He.cls_ok (c.fact 22 (f := .cls "Mouth") rfl)
  g_Mouth := He.glo_ok X G (c.fact 21 (f := .glo "Mouth") rfl)
  cl_Drain := He.cls_ok (c.fact 24 (f := .cls "Drain") rfl)
  g_Drain := He.glo_ok X G (c.fact 23 (f := .glo "Drain") rfl)
  cl_Pipe := He.cls_ok (c.fact 26 (f := .cls "Pipe") rfl)
  g_Pipe := He.glo_ok X G (c.fact 25 (f := .glo "Pipe") rfl)
  mk_Mouth := He.mkr_ok (c.fact 27 (f := .mkr "Mouth") rfl)
  mk_Drain := He.mkr_ok (c.fact 28 (f := .mkr "Drain") rfl)
  mk_Pipe := He.mkr_ok (c.fact 29 (f := .mkr "Pipe") rfl)
  na_Mouth_live := He.noat_ok (c.fact 30 (f := .noat "Mouth" "live") rfl)
  na_Mouth_notes := He.noat_ok (c.fact 31 (f := .noat "Mouth" "notes") rfl)
  na_Mouth_pipe := He.noat_ok (c.fact 32 (f := .noat "Mouth" "pipe") rfl)
  na_Mouth_gone := He.noat_ok (c.fact 33 (f := .noat "Mouth" "gone") rfl)
  na_Drain_live := He.noat_ok (c.fact 34 (f := .noat "Drain" "live") rfl)
  na_Drain_notes := He.noat_ok (c.fact 35 (f := .noat "Drain" "notes") rfl)
  na_Drain_pipe := He.noat_ok (c.fact 36 (f := .noat "Drain" "pipe") rfl)
  na_Drain_gone := He.noat_ok (c.fact 37 (f := .noat "Drain" "gone") rfl)
  na_Pipe_room := He.noat_ok (c.fact 38 (f := .noat "Pipe" "room") rfl)
  na_Pipe_inside := He.noat_ok (c.fact 39 (f := .noat "Pipe" "inside") rfl)
  na_Pipe_high := He.noat_ok (c.fact 40 (f := .noat "Pipe" "high") rfl)
  na_Pipe_low := He.noat_ok (c.fact 41 (f := .noat "Pipe" "low") rfl)
  me_Raw___init__ := He.meth_ok (c.fact 42 (f := .meth "Raw" "__init__") rfl)
  fd_Raw___init__ := c.def_ 10 (d := D_Raw___init__) rfl
  me_Mouth_asked := He.meth_ok (c.fact 43 (f := .meth "Mouth" "asked") rfl)
  fd_Mouth_asked := c.def_ 11 (d := D_Mouth_asked) rfl
  me_Drain_asked := He.meth_ok (c.fact 44 (f := .meth "Drain" "asked") rfl)
  fd_Drain_asked := c.def_ 12 (d := D_Drain_asked) rfl
  me_Mouth_noted := He.meth_ok (c.fact 45 (f := .meth "Mouth" "noted") rfl)
  fd_Mouth_noted := c.def_ 13 (d := D_Mouth_noted) rfl
  me_Drain_noted := He.meth_ok (c.fact 46 (f := .meth "Drain" "noted") rfl)
  fd_Drain_noted := c.def_ 14 (d := D_Drain_noted) rfl
  me_Mouth_log := He.meth_ok (c.fact 47 (f := .meth "Mouth" "log") rfl)
  fd_Mouth_log := c.def_ 15 (d := D_Mouth_log) rfl
  me_Drain_log := He.meth_ok (c.fact 48 (f := .meth "Drain" "log") rfl)
  fd_Drain_log := c.def_ 16 (d := D_Drain_log) rfl
  me_Mouth_shut := He.meth_ok (c.fact 49 (f := .meth "Mouth" "shut") rfl)
  fd_Mouth_shut := c.def_ 17 (d := D_Mouth_shut) rfl
  me_Drain_shut := He.meth_ok (c.fact 50 (f := .meth "Drain" "shut") rfl)
  fd_Drain_shut := c.def_ 18 (d := D_Drain_shut) rfl
  me_Mouth___init__ := He.meth_ok (c.fact 51 (f := .meth "Mouth" "__init__") rfl)
  fd_Mouth___init__ := c.def_ 19 (d := D_Mouth___init__) rfl
  me_Drain___init__ := He.meth_ok (c.fact 52 (f := .meth "Drain" "__init__") rfl)
  fd_Drain___init__ := c.def_ 20 (d := D_Drain___init__) rfl
  me_Mouth_put := He.meth_ok (c.fact 53 (f := .meth "Mouth" "put") rfl)
  fd_Mouth_put := c.def_ 21 (d := D_Mouth_put) rfl
  me_Drain_take := He.meth_ok (c.fact 54 (f := .meth "Drain" "take") rfl)
  fd_Drain_take := c.def_ 22 (d := D_Drain_take) rfl
  me_Pipe___init__ := He.meth_ok (c.fact 55 (f := .meth "Pipe" "__init__") rfl)
  fd_Pipe___init__ := c.def_ 23 (d := D_Pipe___init__) rfl
  me_Pipe_into := He.meth_ok (c.fact 56 (f := .meth "Pipe" "into") rfl)
  fd_Pipe_into := c.def_ 24 (d := D_Pipe_into) rfl
  me_Pipe_out := He.meth_ok (c.fact 57 (f := .meth "Pipe" "out") rfl)
  fd_Pipe_out := c.def_ 25 (d := D_Pipe_out) rfl
  me_Pipe_held := He.meth_ok (c.fact 58 (f := .meth "Pipe" "held") rfl)
  fd_Pipe_held := c.def_ 26 (d := D_Pipe_held) rfl
  um_Raw___init__ := umB_ok (List.all_eq_true.mp cx _ (List.mem_of_getElem? (i := 0) rfl))
  x1_Fault := oexB_ok (List.all_eq_true.mp cx _ (List.mem_of_getElem? (i := 1) rfl))
  g_BadRoom := He.glo_ok X G (c.fact 59 (f := .glo "BadRoom") rfl)
  g_Closed := He.glo_ok X G (c.fact 60 (f := .glo "Closed") rfl)
  g_Fault := He.glo_ok X G (c.fact 61 (f := .glo "Fault") rfl)
  e0_BadRoom := ex0_of (He.glo_ok X G (c.fact 59 (f := .glo "BadRoom") rfl)) (He.exc_ok (c.fact 62 (f := .exc "BadRoom") rfl))
  e0_Closed := ex0_of (He.glo_ok X G (c.fact 60 (f := .glo "Closed") rfl)) (He.exc_ok (c.fact 63 (f := .exc "Closed") rfl))
  me_Fault___init__ := He.meth_ok (c.fact 64 (f := .meth "Fault" "__init__") rfl)
  fd_Fault___init__ := c.def_ 27 (d := D_Fault___init__) rfl
  na_Fault_number := He.noat_ok (c.fact 65 (f := .noat "Fault" "number") rfl)
  na_Fault_taken := He.noat_ok (c.fact 66 (f := .noat "Fault" "taken") rfl)
theorem facts {P : Program} {w : World} {K : PySem.W.Frag} {h : Heap} {mg : Str → Option Value} {f : Addr} (X : K.In h) (G : h.Ns mainGlobals mg) (hfa : mg ("law" : Str) = some (.ref f)) (c : He.SaysD fa fn K) (cx : ex K = true) :
    ∃ fd : FuncData, (∀ (s : Shared) (v : Value), BindsTo s fd ⟨[v], []⟩ [("_law_script", v)]) ∧ ∀ base : Heap, K.In base → base.Ns mainGlobals mg → FnOk P w K mg base CX0 6 f fd ["_law_script"] (sp_law K) := by
  refine no_implicit_lambda% (@Z.stp _ ?_ (fun key hn => ?_))
  ·
      obtain ⟨fd, F⟩ := c.def_ 9 (d := D_law) rfl
      have e := hfa.symm.trans (He.glo_ok X G (c.fact 9 (f := .glo "law") rfl))
      cases e
      have b := FunD.bindsA (ps := ["_law_script"]) F fun _ _ _ _ _ _ us hl => match us, hl with | [_], _ => rfl
      exact ⟨fd, fun s v => b s [v] rfl, fun base _ _ => ok_law (txt_of X G c cx) F⟩
  simpa only using Z.stc (Z.Stw.mk 5) hn key
end Zl
open PySem PySem.W PySem.Calls PyProof.Rows
set_option maxRecDepth 100000 in
set_option maxHeartbeats 0 in
theorem PySem.Challenge.cw_sipstack_k17_whole_chain_of_pipes_holds : PySem.Challenge.rw_sipstack_k17_whole_chain_of_pipes.Holds := by
  refine no_implicit_lambda% (@Z.stp _ ?_ (fun key hn => ?_))
  ·
      w_on; o_law
      refine HandSHeadRun.head_any (r := OpenLaw.row PySem.Challenge.rw_sipstack_k17_whole_chain_of_pipes) (q := view (OpenLaw.row PySem.Challenge.rw_sipstack_k17_whole_chain_of_pipes).prog [29]) (H := Zl.hk) (ob := Zl.ob) (M := 6000) (loose := Zl.loose) (d := HandSHeadRun.topDef (OpenLaw.row PySem.Challenge.rw_sipstack_k17_whole_chain_of_pipes).prog 29) (kwd := []) Zl.ob_eq
        (by kernel_rfl) (fun s => by kernel_rfl) Zl.run (by kernel_rfl) (by kernel_rfl) (by kernel_rfl) (by rfl) (by first | assumption | decide +kernel) (by decide +kernel) ⟨rfl, rfl, rfl, rfl, rfl, by decide +kernel⟩ ?hw ?hc
      case hw => w_witness2
      case hc =>
        refine L2.walk_ofE (l := PySem.Challenge.rw_sipstack_k17_whole_chain_of_pipes) (n := 63) (k := 6) (x := "_law_script") (CX := L2.CX0) rfl (by decide) (by kernel_rfl) ⟨rfl, by decide, by decide⟩ ?F (fun _ _ _ _ z => z)
        intro w mg fa h Y G hmg0
        obtain ⟨K, KX, c⟩ := Y
        have hmg : mg ("law" : PySem.Str) = some (.ref fa) := by
          have e : (HandSHeadRun.topDef (OpenLaw.row PySem.Challenge.rw_sipstack_k17_whole_chain_of_pipes).prog 29).name = ("law" : PySem.Str) := by kernel_rfl
          rw [← e]
          exact hmg0
        obtain ⟨fd, hb, hF⟩ := Zl.facts (P := (PySem.Challenge.rw_sipstack_k17_whole_chain_of_pipes).prog) (w := w) KX G hmg c.d c.more
        exact ⟨K, fd, Zl.sp_law K, KX, hb, fun H a ns hl _ hS => ⟨a, ns, rfl, hS, hl, fun _ => rfl⟩, hF⟩
  simpa only using Z.stc (Z.Stw.mk 5) hn key



