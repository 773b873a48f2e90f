import PyProof.Rows.All
import Wide.All
import OpenK.AllK
import Wide.FinOn
import HandS.ForMost
import HandS.Defaults
import HandS.IsInst
import HandS.Codes
import HandS.Gcd
import HandS.Style
import HandS.Wide
import KE.KDictKeyed
import KE.KDictWalk
import KE.KDictDisplayH
import PyProof.SumWalkG
import HandS.DictTup
import KE.KEqSeq
import PySem.Challenge.RW_ropescounted_k49_whole_classes_are_told
import KE.KStateDown
import HandS.Head0
import HandS.Head1
import HandS.Head2
import HandS.Head3
import HandS.HeadEnd
import HandS.HeadHook1
import HandS.HeadHook2
import HandS.Words
set_option Elab.async false
set_option linter.all false
set_option maxRecDepth 100000
set_option maxHeartbeats 4000000
/-! Data of tuples and houses; readings that come to data. -/
namespace Y
open PySem PySem.Spec PyProof.Rows L2

abbrev Door := Int × Int × Int × Int
/-- a datum: None, a bool, an int, a text, a tuple of data, a house -/
inductive D where
  | non | bl (b : Bool) | num (i : Int) | text (x : Str) | tup (ds : List D) | hs (r : Int) (ds : List Door)
def doorD (d : Door) : D := .tup [.num d.1, .num d.2.1, .num d.2.2.1, .num d.2.2.2]
def DoorV (H : Hp) (v : V) (d : Door) : Prop := ∃ a, v = .ref a ∧ H a = some (.tup [.int d.1, .int d.2.1, .int d.2.2.1, .int d.2.2.2])
def hflds (r : Int) (b : Addr) : List (Str × V) := [("rooms", .int r), ("doors", .ref b)]
mutual
inductive Tp (C : Addr) (H : Hp) : V → D → Prop
  | non : Tp C H .non .non
  | bl (b : Bool) : Tp C H (.bl b) (.bl b)
  | num (i : Int) : Tp C H (.int i) (.num i)
  | text (x : Str) : Tp C H (.str x) (.text x)
  | tup {a : Addr} {xs : List V} {ds : List D} : H a = some (.tup xs) → TpA C H xs ds → Tp C H (.ref a) (.tup ds)
  | hs {a dx b : Addr} {xs : List V} {r : Int} {ds : List Door} : H a = some (.ins C dx (hflds r b)) → H b = some (.tup xs) → Paired (DoorV H) xs ds → Tp C H (.ref a) (.hs r ds)
inductive TpA (C : Addr) (H : Hp) : List V → List D → Prop
  | nil : TpA C H [] []
  | cons {v : V} {vs : List V} {d : D} {ds : List D} : Tp C H v d → TpA C H vs ds → TpA C H (v :: vs) (d :: ds)
end
/-- what never changes -/
def Imm : HO → Prop
  | .tup _ => True
  | .ins _ _ _ => True
  | _ => False
def Stay (H H' : Hp) : Prop := ∀ b o, H b = some o → Imm o → H' b = some o
/-- all but p is as it was -/
def But (p : Addr) (H H' : Hp) : Prop := ∀ b o, b ≠ p → H b = some o → H' b = some o
section
variable {C : Addr} {H H' H1 H2 : Hp} {p : Addr} {o : HO}
theorem Same.stay (s : Same H H') : Stay H H' := fun b o e _ => s b o e
theorem Stay.refl (H : Hp) : Stay H H := fun _ _ h _ => h
theorem Stay.trans (a : Stay H H1) (b : Stay H1 H2) : Stay H H2 := fun c o h i => b c o (a c o h i) i
theorem But.refl (p : Addr) (H : Hp) : But p H H := fun _ _ _ h => h
theorem But.trans (a : But p H H1) (b : But p H1 H2) : But p H H2 := fun c o n h => b c o n (a c o n h)
theorem Same.but (s : Same H H') : But p H H' := fun b o _ e => s b o e
theorem but_up : But p H (upd H p o) := fun b u n e => by rw [upd_ne n]; exact e
theorem but_set (s : But p H H') : But p H (upd H' p o) := fun b u n e => by rw [upd_ne n]; exact s b u n e
/-- what is changed is not a tuple -/
theorem But.stay (s : But p H H') (n : ∀ o, H p = some o → ¬ Imm o) : Stay H H' := fun b o e i => s b o (fun z => n o (by rw [← z]; exact e) i) e
theorem But.same (s : But p H H') (n : H p = none) : Same H H' := fun b o e => s b o (ne_of_none e n) e
theorem notImm_lst {xs : List V} (h : H p = some (.lst xs)) : ∀ o, H p = some o → ¬ Imm o := fun o e i => by
  rw [h] at e; cases e; exact i
theorem Same.new (h : H p = none) : Same H (upd H p o) := fun b u e => by rw [upd_ne (ne_of_none e h)]; exact e
theorem Same.newer (s : Same H H') (h : H' p = none) : Same H (upd H' p o) := Same.trans s (Same.new h)
/-- what was not there may change -/
theorem Same.put (s : Same H H') (h : H p = none) : Same H (upd H' p o) := fun b u e => by rw [upd_ne (ne_of_none e h)]; exact s b u e
theorem DoorV.stay {v : V} {d : Door} (s : Stay H H') (h : DoorV H v d) : DoorV H' v d := let ⟨a, e, x⟩ := h; ⟨a, e, s a _ x trivial⟩
theorem pdoor_stay (s : Stay H H') : ∀ {xs : List V} {ds : List Door}, Paired (DoorV H) xs ds → Paired (DoorV H') xs ds
  | _, _, .nil => .nil
  | _, _, .cons a b => .cons (a.stay s) (pdoor_stay s b)
mutual
theorem Tp.stay (s : Stay H H') : ∀ {v : V} {d : D}, Tp C H v d → Tp C H' v d
  | _, _, .non => .non
  | _, _, .bl b => .bl b
  | _, _, .num i => .num i
  | _, _, .text x => .text x
  | _, _, .tup a r => .tup (s _ _ a trivial) (TpA.stay s r)
  | _, _, .hs a b r => .hs (s _ _ a trivial) (s _ _ b trivial) (pdoor_stay s r)
theorem TpA.stay (s : Stay H H') : ∀ {vs : List V} {ds : List D}, TpA C H vs ds → TpA C H' vs ds
  | _, _, .nil => .nil
  | _, _, .cons a r => .cons (Tp.stay s a) (TpA.stay s r)
end
theorem Tp.same {v : V} {d : D} (s : Same H H') (h : Tp C H v d) : Tp C H' v d := h.stay (Same.stay s)
theorem TpA.same {v : List V} {d : List D} (s : Same H H') (h : TpA C H v d) : TpA C H' v d := h.stay (Same.stay s)
theorem TpA.length : ∀ {vs : List V} {ds : List D}, TpA C H vs ds → vs.length = ds.length
  | _, _, .nil => rfl
  | _, _, .cons _ r => congrArg Nat.succ (TpA.length r)
theorem TpA.get : ∀ {vs : List V} {ds : List D} {i : Nat} {d : D}, TpA C H vs ds → ds[i]? = some d → ∃ v, vs[i]? = some v ∧ Tp C H v d
  | _, _, 0, _, .cons a _, e => by simp at e; subst e; exact ⟨_, rfl, a⟩
  | _, _, i + 1, d, .cons _ r, e => by
    obtain ⟨v, h1, h2⟩ := TpA.get (i := i) (d := d) r (by simpa using e)
    exact ⟨v, by simpa using h1, h2⟩
  | _, _, _, _, .nil, e => by simp at e
theorem TpA.getV : ∀ {vs : List V} {ds : List D} {i : Nat} {v : V}, TpA C H vs ds → vs[i]? = some v → ∃ d, ds[i]? = some d ∧ Tp C H v d
  | _, _, 0, _, .cons a _, e => by simp at e; subst e; exact ⟨_, rfl, a⟩
  | _, _, i + 1, d, .cons _ r, e => by
    obtain ⟨v, h1, h2⟩ := TpA.getV (i := i) r (by simpa using e)
    exact ⟨v, by simpa using h1, h2⟩
  | _, _, _, _, .nil, e => by simp at e
theorem TpA.append : ∀ {vs ws : List V} {ds es : List D}, TpA C H vs ds → TpA C H ws es → TpA C H (vs ++ ws) (ds ++ es)
  | _, _, _, _, .nil, r => r
  | _, _, _, _, .cons a b, r => .cons a (TpA.append b r)
theorem tp_num {v : V} {i : Int} (h : Tp C H v (.num i)) : v = .int i := by cases h; rfl
theorem tp_bl {v : V} {b : Bool} (h : Tp C H v (.bl b)) : v = .bl b := by cases h; rfl
theorem tp_non {v : V} (h : Tp C H v .non) : v = .non := by cases h; rfl
theorem tp_text {v : V} {b : Str} (h : Tp C H v (.text b)) : v = .str b := by cases h; rfl
theorem tp_tup {v : V} {ds : List D} (h : Tp C H v (.tup ds)) : ∃ a xs, v = .ref a ∧ H a = some (.tup xs) ∧ TpA C H xs ds := by cases h with | tup a r => exact ⟨_, _, rfl, a, r⟩
theorem tp_hs {v : V} {r : Int} {ds : List Door} (h : Tp C H v (.hs r ds)) : ∃ a dx b xs, v = .ref a ∧ H a = some (.ins C dx (hflds r b)) ∧ H b = some (.tup xs) ∧ Paired (DoorV H) xs ds := by cases h with | hs a b r => exact ⟨_, _, _, _, rfl, a, b, r⟩
theorem tpa_nil {vs : List V} (h : TpA C H vs []) : vs = [] := by cases h; rfl
theorem tpa_cons {vs : List V} {d : D} {ds : List D} (h : TpA C H vs (d :: ds)) : ∃ v r, vs = v :: r ∧ Tp C H v d ∧ TpA C H r ds := by cases h with | cons a r => exact ⟨_, _, rfl, a, r⟩
theorem tp_door {v : V} {d : Door} (h : Tp C H v (doorD d)) : DoorV H v d := by
  obtain ⟨a, xs, rfl, e, r⟩ := tp_tup h
  obtain ⟨_, _, rfl, r1, r⟩ := tpa_cons r
  obtain ⟨_, _, rfl, r2, r⟩ := tpa_cons r
  obtain ⟨_, _, rfl, r3, r⟩ := tpa_cons r
  obtain ⟨_, _, rfl, r4, r⟩ := tpa_cons r
  cases tpa_nil r
  cases tp_num r1; cases tp_num r2; cases tp_num r3; cases tp_num r4
  exact ⟨a, rfl, e⟩
theorem door_tp {v : V} {d : Door} (h : DoorV H v d) : Tp C H v (doorD d) := by
  obtain ⟨a, rfl, e⟩ := h
  exact .tup e (.cons (.num _) (.cons (.num _) (.cons (.num _) (.cons (.num _) .nil))))
theorem doors_tp : ∀ {xs : List V} {ds : List Door}, Paired (DoorV H) xs ds → TpA C H xs (ds.map doorD)
  | _, _, .nil => .nil
  | _, _, .cons a b => .cons (door_tp a) (doors_tp b)
theorem tp_doors : ∀ {xs : List V} {ds : List Door}, TpA C H xs (ds.map doorD) → Paired (DoorV H) xs ds
  | [], [], _ => .nil
  | _ :: _, _ :: _, .cons a b => .cons (tp_door a) (tp_doors b)
mutual
/-- data without houses, as the library tells data -/
def py : D → PyData
  | .non => .none
  | .bl b => .bool b
  | .num i => .int i
  | .text x => .str x
  | .tup ds => .tuple (pyA ds)
  | .hs _ _ => .none
def pyA : List D → List PyData
  | [] => []
  | d :: ds => py d :: pyA ds
end
mutual
def flat : D → Bool
  | .tup ds => flatA ds
  | .hs _ _ => false
  | _ => true
def flatA : List D → Bool
  | [] => true
  | d :: ds => flat d && flatA ds
end
mutual
theorem Tp.dp {K : PySem.W.Frag} : ∀ {v : V} {d : D}, Tp C H v d → flat d = true → Dp K H v (py d)
  | _, _, .non, _ => .non
  | _, _, .bl b, _ => .bl b
  | _, _, .num i, _ => .int i
  | _, _, .text x, _ => .str x
  | _, _, .tup a r, h => .tup (.inl (.inl a)) (TpA.dp r h)
theorem TpA.dp {K : PySem.W.Frag} : ∀ {vs : List V} {ds : List D}, TpA C H vs ds → flatA ds = true → DpAll K H vs (pyA ds)
  | _, _, .nil, _ => .nil
  | _, _, .cons a r, h => by
    rw [flatA, Bool.and_eq_true] at h
    exact .cons (Tp.dp a h.1) (TpA.dp r h.2)
end
end

/-- len of a list, a tuple -/
def rLenS (K : PySem.W.Frag) : List V → Hp → VK → Prop := fun xs H Q => ∃ p ys, xs = [.ref p] ∧ (SqL K H p ys ∨ SqT K H p ys) ∧ Q (.int ys.length) H
theorem call_lenS {X : Cx} : CallR X (.builtin "len") (rLenS X.K) := call_len_seq
/-! ### what a reading comes to -/
section
variable (C : Addr) (te : TE) (tt : TT) (ta : TA) (σ : L2.St) (H : Hp)
/-- a datum -/
def EvD (d : D) : Prop := ∀ H1, Same H H1 → ∀ Q : VK, (∀ v H2, Same H1 H2 → Tp C H2 v d → Q v H2) → te σ H1 Q
/-- a very value -/
def EvV (v : V) : Prop := ∀ H1, Same H H1 → ∀ Q : VK, (∀ H2, Same H1 H2 → Q v H2) → te σ H1 Q
/-- a new list of data -/
def EvL (ds : List D) : Prop := ∀ H1, Same H H1 → ∀ Q : VK, (∀ a vs H2, Same H1 H2 → H1 a = none → H2 a = some (.lst vs) → TpA C H2 vs ds → Q (.ref a) H2) → te σ H1 Q
def EvT (b : Bool) : Prop := ∀ H1, Same H H1 → ∀ Q : Bool → Hp → Prop, (∀ H2, Same H1 H2 → Q b H2) → tt σ H1 Q
def EvA (ds : List D) : Prop := ∀ H1, Same H H1 → ∀ Q : List V → Hp → Prop, (∀ vs H2, Same H1 H2 → TpA C H2 vs ds → Q vs H2) → ta σ H1 Q
end
section
variable {C : Addr} {K : PySem.W.Frag} {te ta tb tc : TE} {tt tu : TT} {as : TA} {σ : L2.St} {H H' : Hp} {d e f : D} {ds : List D} {i j : Int} {v : V} {b c : Bool}
theorem EvD.mono (s : Same H H') (h : EvD C te σ H d) : EvD C te σ H' d := fun H1 a Q q => h H1 (Same.trans s a) Q q
theorem EvT.mono (s : Same H H') (h : EvT tt σ H b) : EvT tt σ H' b := fun H1 a Q q => h H1 (Same.trans s a) Q q
theorem EvL.mono (s : Same H H') (h : EvL C te σ H ds) : EvL C te σ H' ds := fun H1 a Q q => h H1 (Same.trans s a) Q q
theorem EvA.mono (s : Same H H') (h : EvA C as σ H ds) : EvA C as σ H' ds := fun H1 a Q q => h H1 (Same.trans s a) Q q
theorem ev_var {n : Nat} (hv : σ[n]? = some (some v)) (h : Tp C H v d) : EvD C (tVar n) σ H d := fun H1 s _ q => ⟨v, hv, q v H1 (Same.refl _) (h.same s)⟩
theorem ev_c (h : Tp C H v d) : EvD C (tC v) σ H d := fun H1 s _ q => q v H1 (Same.refl _) (h.same s)
theorem ev_int : EvD C (tC (.int i)) σ H (.num i) := ev_c (.num i)
theorem ev_bl : EvD C (tC (.bl b)) σ H (.bl b) := ev_c (.bl b)
theorem ev_non : EvD C (tC .non) σ H .non := ev_c .non
theorem evv_var {n : Nat} (hv : σ[n]? = some (some v)) : EvV (tVar n) σ H v := fun H1 _ _ q => ⟨v, hv, q H1 (Same.refl _)⟩
theorem ea_nil : EvA C tNil σ H [] := fun H1 _ Q q => q [] H1 (Same.refl _) .nil
theorem ea_cons (h : EvD C te σ H d) (r : EvA C as σ H ds) : EvA C (tCons te as) σ H (d :: ds) := fun H1 s Q q =>
  h H1 s _ fun v H2 s2 t => r H2 (Same.trans s s2) _ fun vs H3 s3 t3 => q (v :: vs) H3 (Same.trans s2 s3) (.cons (t.same s3) t3)
theorem ev_tup (h : EvA C as σ H ds) (hl : ds.length ≤ sizeLine) : EvD C (tTup as) σ H (.tup ds) := fun H1 s Q q =>
  h H1 s _ fun vs H2 s2 t => ⟨by rw [t.length]; exact hl, fun p hp => q _ _ (Same.newer s2 hp) (.tup upd_same (t.same (Same.new hp)))⟩
theorem evl_lst (h : EvA C as σ H ds) (hl : ds.length ≤ sizeLine) : EvL C (tLst as) σ H ds := fun H1 s Q q =>
  h H1 s _ fun vs H2 s2 t => ⟨by rw [t.length]; exact hl, fun p hp => q p vs _ (Same.newer s2 hp) (s2.free hp) upd_same (t.same (Same.new hp))⟩
theorem ev_op0 {g : Int → Int → V} (ha : EvD C ta σ H (.num i)) (hb : EvD C tb σ H (.num j)) (hg : ∀ H, Tp C H (g i j) d) : EvD C (tOp (rI0 g) ta tb) σ H d := fun H1 s Q q =>
  ha H1 s _ fun v H2 s2 t2 => hb H2 (Same.trans s s2) _ fun w H3 s3 t3 => by
    cases tp_num t2; cases tp_num t3
    exact ⟨i, j, rfl, rfl, q _ H3 (Same.trans s2 s3) (hg H3)⟩
theorem ev_opC {c : Int → Int → Prop} {g : Int → Int → V} (ha : EvD C ta σ H (.num i)) (hb : EvD C tb σ H (.num j)) (hc : c i j) (hg : ∀ H, Tp C H (g i j) d) : EvD C (tOp (rI c g) ta tb) σ H d := fun H1 s Q q =>
  ha H1 s _ fun v H2 s2 t2 => hb H2 (Same.trans s s2) _ fun w H3 s3 t3 => by
    cases tp_num t2; cases tp_num t3
    exact ⟨i, j, rfl, rfl, hc, q _ H3 (Same.trans s2 s3) (hg H3)⟩
theorem ev_opI {g : Int → Int → Int} (ha : EvD C ta σ H (.num i)) (hb : EvD C tb σ H (.num j)) : EvD C (tOp (rI0 fun i j => .int (g i j)) ta tb) σ H (.num (g i j)) := ev_op0 ha hb fun _ => .num _
theorem ev_opB {g : Int → Int → Bool} (ha : EvD C ta σ H (.num i)) (hb : EvD C tb σ H (.num j)) : EvD C (tOp (rI0 fun i j => .bl (g i j)) ta tb) σ H (.bl (g i j)) := ev_op0 ha hb fun _ => .bl _
theorem ev_opIC {c : Int → Int → Prop} {g : Int → Int → Int} (ha : EvD C ta σ H (.num i)) (hb : EvD C tb σ H (.num j)) (hc : c i j) : EvD C (tOp (rI c fun i j => .int (g i j)) ta tb) σ H (.num (g i j)) := ev_opC ha hb hc fun _ => .num _
theorem ev_un {g : Int → Int} (ha : EvD C ta σ H (.num i)) : EvD C (tUn (rU fun i => .int (g i)) ta) σ H (.num (g i)) := fun H1 s Q q =>
  ha H1 s _ fun v H2 s2 t2 => by cases tp_num t2; exact ⟨i, rfl, q _ H2 s2 (.num _)⟩
theorem ev_eqI (ha : EvD C ta σ H (.num i)) (hb : EvD C tb σ H (.num j)) : EvD C (tOp rEq ta tb) σ H (.bl (decide (i = j))) := fun H1 s Q q =>
  ha H1 s _ fun v H2 s2 t2 => hb H2 (Same.trans s s2) _ fun w H3 s3 t3 => by
    cases tp_num t2; cases tp_num t3
    refine ⟨rfl, q _ H3 (Same.trans s2 s3) ?_⟩
    have : decide (V.int i = V.int j) = decide (i = j) := by simp
    rw [this]; exact .bl _
theorem ev_neI (ha : EvD C ta σ H (.num i)) (hb : EvD C tb σ H (.num j)) : EvD C (tOp rNe ta tb) σ H (.bl (!decide (i = j))) := fun H1 s Q q =>
  ha H1 s _ fun v H2 s2 t2 => hb H2 (Same.trans s s2) _ fun w H3 s3 t3 => by
    cases tp_num t2; cases tp_num t3
    refine ⟨rfl, q _ H3 (Same.trans s2 s3) ?_⟩
    have : decide (V.int i = V.int j) = decide (i = j) := by simp
    rw [this]; exact .bl _
theorem ev_neB (ha : EvD C ta σ H (.bl b)) (hb : EvD C tb σ H (.bl c)) : EvD C (tOp rNe ta tb) σ H (.bl (!decide (b = c))) := fun H1 s Q q =>
  ha H1 s _ fun v H2 s2 t2 => hb H2 (Same.trans s s2) _ fun w H3 s3 t3 => by
    cases tp_bl t2; cases tp_bl t3
    refine ⟨rfl, q _ H3 (Same.trans s2 s3) ?_⟩
    have : decide (V.bl b = V.bl c) = decide (b = c) := by simp
    rw [this]; exact .bl _
/-- == of data -/
theorem ev_eqD (ha : EvD C ta σ H d) (hb : EvD C tb σ H e) (h1 : flat d = true) (h2 : flat e = true) (h3 : SeqAt.shaped (py d) = true) (h4 : SeqAt.shaped (py e) = true) : EvD C (tOp (rEqD K) ta tb) σ H (.bl (PyData.eqv (py d) (py e))) := fun H1 s Q q =>
  ha H1 s _ fun v H2 s2 t2 => hb H2 (Same.trans s s2) _ fun w H3 s3 t3 => ⟨py d, py e, (t2.same s3).dp h1, t3.dp h2, h3, h4, q _ H3 (Same.trans s2 s3) (.bl _)⟩
theorem ev_neD (ha : EvD C ta σ H d) (hb : EvD C tb σ H e) (h1 : flat d = true) (h2 : flat e = true) (h3 : SeqAt.shaped (py d) = true) (h4 : SeqAt.shaped (py e) = true) : EvD C (tOp (rNeD K) ta tb) σ H (.bl (!PyData.eqv (py d) (py e))) := fun H1 s Q q =>
  ha H1 s _ fun v H2 s2 t2 => hb H2 (Same.trans s s2) _ fun w H3 s3 t3 => ⟨py d, py e, (t2.same s3).dp h1, t3.dp h2, h3, h4, q _ H3 (Same.trans s2 s3) (.bl _)⟩
theorem ixN_nat {n j : Nat} (h : j < n) : ixN n (j : Int) = some j := by
  unfold ixN
  rw [if_pos (by omega), if_pos (by omega)]
  simp
/-- t[i] -/
theorem ev_ixT {n : Nat} (ha : EvD C ta σ H (.tup ds)) (hb : EvD C tb σ H (.num (n : Int))) (hd : ds[n]? = some d) : EvD C (tOp (rIxT K) ta tb) σ H d := fun H1 s Q q =>
  ha H1 s _ fun v H2 s2 t2 => hb H2 (Same.trans s s2) _ fun w H3 s3 t3 => by
    cases tp_num t3
    obtain ⟨a, xs, rfl, hx, r⟩ := tp_tup (t2.same s3)
    obtain ⟨x, h1, h2⟩ := r.get hd
    exact ⟨a, xs, n, x, rfl, rfl, .inl (.inl hx), atI_nat h1, q x H3 (Same.trans s2 s3) h2⟩
/-- house.rooms -/
theorem ev_rooms {r : Int} {ds : List Door} (ha : EvD C ta σ H (.hs r ds)) (cl : Cls K C) (na : NoAttr K C "rooms") : EvD C (tFld K ta "rooms") σ H (.num r) := fun H1 s Q q =>
  ha H1 s _ fun v H2 s2 t2 => by
    obtain ⟨a, dx, b, xs, rfl, hx, hb, r⟩ := tp_hs t2
    exact ⟨a, C, dx, _, _, rfl, hx, cl, na, rfl, q _ H2 s2 (.num _)⟩
theorem lk_doors (r : Int) (b : Addr) : (hflds r b).lookup ("doors" : Str) = some (.ref b) := by
  unfold hflds
  rw [List.lookup_cons, show (("doors" : Str) == "rooms") = false by decide +kernel]
  rfl
theorem ev_doors {r : Int} {ds : List Door} (ha : EvD C ta σ H (.hs r ds)) (cl : Cls K C) (na : NoAttr K C "doors") : EvD C (tFld K ta "doors") σ H (.tup (ds.map doorD)) := fun H1 s Q q =>
  ha H1 s _ fun v H2 s2 t2 => by
    obtain ⟨a, dx, b, xs, rfl, hx, hb, r'⟩ := tp_hs t2
    exact ⟨a, C, dx, _, _, rfl, hx, cl, na, lk_doors _ _, q _ H2 s2 (.tup hb (doors_tp r'))⟩
theorem ev_if (ht : EvT tt σ H b) (h1 : b = true → EvD C ta σ H d) (h2 : b = false → EvD C tb σ H d) : EvD C (tIf tt ta tb) σ H d := fun H1 s Q q =>
  ht H1 s _ fun H2 s2 => by
    cases b with
    | true => exact iteT (h1 rfl H2 (Same.trans s s2) Q fun v H3 s3 t => q v H3 (Same.trans s2 s3) t)
    | false => exact iteF (h2 rfl H2 (Same.trans s s2) Q fun v H3 s3 t => q v H3 (Same.trans s2 s3) t)
theorem ev_if2 (ht : EvT tt σ H b) (h1 : EvD C ta σ H d) (h2 : EvD C tb σ H e) : EvD C (tIf tt ta tb) σ H (if b = true then d else e) := ev_if ht (fun h => by rw [if_pos h]; exact h1) (fun h => by rw [if_neg (by rw [h]; decide)]; exact h2)
theorem ev_isN_num {i : Int} (ha : EvD C ta σ H (.num i)) : EvD C (tIsN ta) σ H (.bl false) := fun H1 s Q q =>
  ha H1 s _ fun v H2 s2 t2 => by cases tp_num t2; exact q _ H2 s2 (.bl _)
/-- is None | is not None of a datum -/
def isNon : D → Bool
  | .non => true
  | _ => false
theorem isNon_eq {v : V} (t : Tp C H v d) : decide (v = .non) = isNon d := by cases t <;> simp [isNon]
theorem ev_isN (ha : EvD C ta σ H d) : EvD C (tIsN ta) σ H (.bl (isNon d)) := fun H1 s Q q =>
  ha H1 s _ fun v H2 s2 t2 => by
    have := isNon_eq t2
    show Q (.bl (decide (v = .non))) H2
    rw [this]; exact q _ H2 s2 (.bl _)
theorem ev_notN (ha : EvD C ta σ H d) : EvD C (tNotN ta) σ H (.bl (!isNon d)) := fun H1 s Q q =>
  ha H1 s _ fun v H2 s2 t2 => by
    have := isNon_eq t2
    show Q (.bl (!decide (v = .non))) H2
    rw [this]; exact q _ H2 s2 (.bl _)
theorem ev_andV (ha : EvD C ta σ H (.bl b)) (hb : b = true → EvD C tb σ H (.bl c)) : EvD C (tAndV ta tb) σ H (.bl (b && c)) := fun H1 s Q q =>
  ha H1 s _ fun v H2 s2 t2 => by
    cases tp_bl t2
    refine ⟨b, rfl, ?_⟩
    cases b with
    | true => exact iteT (hb rfl H2 (Same.trans s s2) Q fun v H3 s3 t => q v H3 (Same.trans s2 s3) t)
    | false => exact iteF (q _ H2 s2 (.bl _))
theorem ev_orV (ha : EvD C ta σ H (.bl b)) (hb : b = false → EvD C tb σ H (.bl c)) : EvD C (tOrV ta tb) σ H (.bl (b || c)) := fun H1 s Q q =>
  ha H1 s _ fun v H2 s2 t2 => by
    cases tp_bl t2
    refine ⟨b, rfl, ?_⟩
    cases b with
    | true => exact iteT (q _ H2 s2 (.bl _))
    | false => exact iteF (hb rfl H2 (Same.trans s s2) Q fun v H3 s3 t => q v H3 (Same.trans s2 s3) t)
theorem ev_notV (ha : EvD C ta σ H (.bl b)) : EvD C (tNotV ta) σ H (.bl (!b)) := fun H1 s Q q =>
  ha H1 s _ fun v H2 s2 t2 => by cases tp_bl t2; exact ⟨b, rfl, q _ H2 s2 (.bl _)⟩
/-- tests -/
theorem et_test (h : EvD C te σ H (.bl b)) : EvT (tTest te) σ H b := fun H1 s Q q => h H1 s _ fun v H2 s2 t => by cases tp_bl t; exact ⟨b, rfl, q H2 s2⟩
theorem et_B (h : EvD C te σ H (.bl b)) : EvT (tB te) σ H b := fun H1 s Q q => h H1 s _ fun v H2 s2 t => by cases tp_bl t; exact ⟨b, rfl, q H2 s2⟩
theorem et_and (h1 : EvT tt σ H b) (h2 : b = true → EvT tu σ H c) : EvT (tAnd tt tu) σ H (b && c) := fun H1 s Q q => h1 H1 s _ fun H2 s2 => by
  cases b with
  | true => exact iteT (h2 rfl H2 (Same.trans s s2) Q fun H3 s3 => q H3 (Same.trans s2 s3))
  | false => exact iteF (q H2 s2)
theorem et_or (h1 : EvT tt σ H b) (h2 : b = false → EvT tu σ H c) : EvT (tOr tt tu) σ H (b || c) := fun H1 s Q q => h1 H1 s _ fun H2 s2 => by
  cases b with
  | true => exact iteT (q H2 s2)
  | false => exact iteF (h2 rfl H2 (Same.trans s s2) Q fun H3 s3 => q H3 (Same.trans s2 s3))
theorem et_not (h : EvT tt σ H b) : EvT (tNot tt) σ H (!b) := fun H1 s Q q => h H1 s _ fun H2 s2 => q H2 s2
theorem et_yes : EvT tYes σ H true := fun H1 _ Q q => q H1 (Same.refl _)
theorem ev_chain {g h : Int → Int → Bool} {k : Int} (ha : EvD C ta σ H (.num i)) (hb : EvD C tb σ H (.num j)) (hc : EvD C tc σ H (.num k)) : EvD C (tChain (rI0 fun i j => .bl (g i j)) (rI0 fun i j => .bl (h i j)) ta tb tc) σ H (.bl (g i j && h j k)) := fun H1 s Q q =>
  ha H1 s _ fun v H2 s2 t2 => hb H2 (Same.trans s s2) _ fun w H3 s3 t3 => by
    cases tp_num t2; cases tp_num t3
    refine ⟨i, j, rfl, rfl, g i j, rfl, ?_⟩
    cases e : g i j with
    | true => exact iteT (hc H3 (Same.trans (Same.trans s s2) s3) _ fun u H4 s4 t4 => by
        cases tp_num t4
        refine ⟨j, k, rfl, rfl, q _ H4 (Same.trans (Same.trans s2 s3) s4) ?_⟩
        rw [e]; exact .bl _)
    | false =>
      refine iteF (q _ H3 (Same.trans s2 s3) ?_)
      rw [e]; exact .bl _
/-! ### calls of built-ins -/
theorem ev_abs (ha : EvD C ta σ H (.num i)) : EvD C (tCB (fun xs H Q => ∃ i, xs = [.int i] ∧ Q (.int (if i < 0 then -i else i)) H) (tCons ta tNil)) σ H (.num (if i < 0 then -i else i)) := fun H1 s Q q =>
  ha H1 s _ fun v H2 s2 t2 => by cases tp_num t2; exact ⟨i, rfl, q _ H2 s2 (.num _)⟩
theorem ev_intI (ha : EvD C ta σ H (.num i)) : EvD C (tCB (fun xs H Q => (∃ i, xs = [.int i] ∧ Q (.int i) H) ∨ ∃ k, xs = [.bl k] ∧ Q (.int (if k then 1 else 0)) H) (tCons ta tNil)) σ H (.num i) := fun H1 s Q q =>
  ha H1 s _ fun v H2 s2 t2 => by cases tp_num t2; exact .inl ⟨i, rfl, q _ H2 s2 (.num _)⟩
theorem ev_gcd (ha : EvD C ta σ H (.num i)) (hb : EvD C tb σ H (.num j)) : EvD C (tCB rGcd (tCons ta (tCons tb tNil))) σ H (.num ((Nat.gcd i.natAbs j.natAbs : Nat) : Int)) := fun H1 s Q q =>
  ha H1 s _ fun v H2 s2 t2 => hb H2 (Same.trans s s2) _ fun w H3 s3 t3 => by
    cases tp_num t2; cases tp_num t3
    exact ⟨i, j, rfl, q _ H3 (Same.trans s2 s3) (.num _)⟩
/-- len of a tuple -/
theorem ev_lenT (ha : EvD C ta σ H (.tup ds)) : EvD C (tCB (rLenS K) (tCons ta tNil)) σ H (.num (ds.length : Int)) := fun H1 s Q q =>
  ha H1 s _ fun v H2 s2 t2 => by
    obtain ⟨a, xs, rfl, hx, r⟩ := tp_tup t2
    refine ⟨_, xs, rfl, .inr (.inl (.inl hx)), ?_⟩
    rw [r.length]; exact q _ H2 s2 (.num _)
end
end Y

set_option Elab.async false
set_option linter.all false
set_option maxRecDepth 100000
set_option maxHeartbeats 4000000
/-! Dicts whose keys are nested tuples. -/
namespace Y
open PySem PySem.Spec PyProof.Rows L2
mutual
def nk : D → NestedKey
  | .non => .none
  | .bl b => .num (if b = true then 1 else 0)
  | .num i => .num i
  | .text x => .text x
  | .tup ds => .tup (nkA ds)
  | .hs _ _ => .none
def nkA : List D → List NestedKey
  | [] => []
  | d :: ds => nk d :: nkA ds
end
section
variable {P : Program} {w : World} {C : Addr} {H : Hp} {h : Heap}
mutual
theorem Tp.nested (ok : HOk P w H h) : ∀ {v : V} {d : D} {u : Value}, Tp C H v d → flat d = true → RelV v u → NestedIs h (nk d) u
  | _, _, _, .non, _, r => by cases (show _ = Value.none from r); exact .none
  | _, _, _, .bl b, _, r => by cases (show _ = Value.bool b from r); exact .bool rfl
  | _, _, _, .num i, _, r => by obtain ⟨t, q⟩ := (show ∃ t, _ = Value.int i t from r); cases q; exact .int _ _
  | _, _, _, .text x, _, r => by obtain ⟨t, q⟩ := (show ∃ t, _ = Value.str x t from r); cases q; exact .text _ _
  | _, _, _, .tup (a := a) (xs := xs) ha r0, hf, r => by
    cases (show _ = Value.ref a from r)
    obtain ⟨_, its, rv, o, h1, h2, n, h3⟩ := (show ObjOk P w H h a (.tup xs) from ok a _ ha)
    exact .tup h1 h2 h3 (TpA.nested ok r0 hf rv)
theorem TpA.nested (ok : HOk P w H h) : ∀ {vs : List V} {ds : List D} {us : List Value}, TpA C H vs ds → flatA ds = true → Vals vs us → NestedAll h (nkA ds) us
  | _, _, _, .nil, _, r => by cases r; exact .nil
  | _, _, _, .cons a b, hf, r => by
    rw [flatA, Bool.and_eq_true] at hf
    cases r with
    | cons r1 r2 => exact .cons (Tp.nested ok a hf.1 r1) (TpA.nested ok b hf.2 r2)
end
/-- the tuple at a is the datum k, a key -/
structure KeyAt (C : Addr) (H : Hp) (a : Addr) (k : D) : Prop where
  tp : Tp C H (.ref a) k
  fl : flat k = true
  dp : (nk k).depth ≤ 8
theorem KeyAt.is (x : KeyAt C H a k) (ok : HOk P w H h) : (nestedKind P w).is h (nk k) a := ⟨x.tp.nested ok x.fl rfl, x.dp⟩
theorem KeyAt.stay {H' : Hp} (s : Stay H H') (x : KeyAt C H a k) : KeyAt C H' a k := ⟨x.tp.stay s, x.fl, x.dp⟩
end
/-- an entry: its key as a datum, where the key's tuple stands, the value -/
abbrev En := D × Addr × V
def EnR : List En → List (NestedKey × Addr × Value) → Prop := Paired fun p q => q.1 = nk p.1 ∧ q.2.1 = p.2.1 ∧ RelV p.2.2 q.2.2
/-- the dict's own object: its entries -/
def ndO (P : Program) (w : World) (d : Addr) (xs : List En) : HO := .ext fun h => (d == sysModules) = false ∧ xs.length ≤ sizeLine ∧ ∃ ys, EnR xs ys ∧
  ∃ o es ep, h.get? d = some o ∧ o.ExactDict ∧ o.data = .dict es ep ∧ es.toList = ys.map (entryOfKey (nestedKind P w)) ∧ (ys.map (·.1)).Nodup
section
variable {P : Program} {w : World} {C : Addr} {H : Hp} {h : Heap} {d : Addr} {xs : List En}
theorem ndO_mk (h1 : (d == sysModules) = false) (h2 : xs.length ≤ sizeLine) {ys : List (NestedKey × Addr × Value)} (h3 : EnR xs ys) {o : Obj} {es : Array DictEntry} {ep : Nat} (h4 : h.get? d = some o) (h5 : o.ExactDict) (h6 : o.data = .dict es ep)
    (h7 : es.toList = ys.map (entryOfKey (nestedKind P w))) (h8 : (ys.map (·.1)).Nodup) : ObjOk P w H h d (ndO P w d xs) :=
  ⟨⟨h1, h2, ys, h3, o, es, ep, h4, h5, h6, h7, h8⟩, ⟨o, h4⟩, fun _ _ ⟨a1, a2, ys, a3, o, es, ep, a4, r⟩ k => ⟨a1, a2, ys, a3, o, es, ep, k o a4, r⟩⟩
theorem ndO_rd (x : ObjOk P w H h d (ndO P w d xs)) : (d == sysModules) = false ∧ xs.length ≤ sizeLine ∧ ∃ ys, EnR xs ys ∧
  ∃ o es ep, h.get? d = some o ∧ o.ExactDict ∧ o.data = .dict es ep ∧ es.toList = ys.map (entryOfKey (nestedKind P w)) ∧ (ys.map (·.1)).Nodup := x.1
/-- the dict at d holds these entries, its keys are data -/
structure ND (P : Program) (w : World) (C : Addr) (H : Hp) (d : Addr) (xs : List En) : Prop where
  at_ : H d = some (ndO P w d xs)
  keys : ∀ x ∈ xs, KeyAt C H x.2.1 x.1
theorem enr_keys {ys : List (NestedKey × Addr × Value)} (ok : HOk P w H h) (r : EnR xs ys) (hk : ∀ x ∈ xs, KeyAt C H x.2.1 x.1) : ∀ y ∈ ys, (nestedKind P w).is h y.1 y.2.1 := by
  unfold EnR at r
  induction r with
  | nil => intro y hy; exact nomatch hy
  | @cons p q ps qs e t ih =>
    intro y hy
    rcases List.mem_cons.mp hy with rfl | hy
    · rw [e.1, e.2.1]
      exact (hk p (by simp)).is ok
    · exact ih (fun x hx => hk x (by simp [hx])) y hy
theorem ND.dict (x : ND P w C H d xs) (ok : HOk P w H h) : (d == sysModules) = false ∧ xs.length ≤ sizeLine ∧ ∃ ys, EnR xs ys ∧ h.DictOfH (nestedKind P w) d ys := by
  obtain ⟨h1, h2, ys, h3, o, es, ep, h4, h5, h6, h7, h8⟩ := ndO_rd (ok d _ x.at_)
  exact ⟨h1, h2, ys, h3, o, es, ep, h4, h5, h6, h7, enr_keys ok h3 x.keys, h8⟩
theorem ND.stay {H' : Hp} (x : ND P w C H d xs) (s : Stay H H') (e : H' d = some (ndO P w d xs)) : ND P w C H' d xs := ⟨e, fun y hy => (x.keys y hy).stay s⟩
end
/-- what a dict holds at a key; the entries behind d[k] = v -/
def enGet (xs : List En) (k : D) : Option V := (xs.find? fun x => decide (nk x.1 = nk k)).map (·.2.2)
def enPut (xs : List En) (k : D) (a : Addr) (v : V) : List En :=
  if (enGet xs k).isSome then xs.map (fun x => if nk x.1 = nk k then (x.1, x.2.1, v) else x) else xs ++ [(k, a, v)]
theorem enGet_rel : ∀ {xs : List En} {ys : List (NestedKey × Addr × Value)} (_ : EnR xs ys) (k : D), RelO (enGet xs k) ((atKey ys (nk k)).map (·.2))
  | _, _, .nil, _ => trivial
  | p :: ps, q :: qs, .cons e t, k => by
    obtain ⟨e1, e2, e3⟩ := e
    by_cases h : nk p.1 = nk k
    · have h' : q.1 = nk k := e1.trans h
      simp only [enGet, atKey, List.find?_cons, h, h', decide_true, Option.map_some]
      exact e3
    · have h' : ¬ q.1 = nk k := fun z => h (e1.symm.trans z)
      have ih := enGet_rel t k
      simp only [enGet, atKey, List.find?_cons, h, h', decide_false] at ih ⊢
      exact ih
theorem enr_map {xs : List En} {ys : List (NestedKey × Addr × Value)} (r : EnR xs ys) (k : D) {v : V} {u : Value} (rv : RelV v u) :
    EnR (xs.map fun x => if nk x.1 = nk k then (x.1, x.2.1, v) else x) (ys.map (putAt (nk k) u)) := by
  unfold EnR at r ⊢
  induction r with
  | nil => exact .nil
  | @cons p q ps qs e t ih =>
    refine .cons ?_ ih
    obtain ⟨e1, e2, e3⟩ := e
    dsimp only
    by_cases h : nk p.1 = nk k
    · rw [if_pos h, putAt, if_pos (e1.trans h)]; exact ⟨e1, e2, rv⟩
    · rw [if_neg h, putAt, if_neg fun z => h (e1.symm.trans z)]; exact ⟨e1, e2, e3⟩
theorem enr_snoc {xs : List En} {ys : List (NestedKey × Addr × Value)} (r : EnR xs ys) {x : En} {y : NestedKey × Addr × Value} (e : y.1 = nk x.1 ∧ y.2.1 = x.2.1 ∧ RelV x.2.2 y.2.2) : EnR (xs ++ [x]) (ys ++ [y]) := by
  unfold EnR at r ⊢
  induction r with
  | nil => exact .cons e .nil
  | cons q t ih => exact .cons q ih
theorem enr_put {xs : List En} {ys : List (NestedKey × Addr × Value)} (r : EnR xs ys) (k : D) (a : Addr) {v : V} {u : Value} (rv : RelV v u) : EnR (enPut xs k a v) (storedH ys (nk k) a u) := by
  have e := (enGet_rel r k).isSome_eq
  rw [Option.isSome_map] at e
  unfold enPut storedH
  rw [e]
  by_cases h : (atKey ys (nk k)).isSome = true
  · rw [if_pos h, if_pos h]; exact enr_map r k rv
  · rw [if_neg h, if_neg h]; exact enr_snoc r ⟨rfl, rfl, rv⟩
theorem enPut_len (xs : List En) (k : D) (a : Addr) (v : V) : (enPut xs k a v).length ≤ xs.length + 1 := by
  unfold enPut; split <;> simp
theorem enPut_keys {C : Addr} {H : Hp} {xs : List En} {k : D} {a : Addr} (v : V) (hk : ∀ x ∈ xs, KeyAt C H x.2.1 x.1) (ha : KeyAt C H a k) : ∀ x ∈ enPut xs k a v, KeyAt C H x.2.1 x.1 := by
  intro x hx
  unfold enPut at hx
  split at hx
  · obtain ⟨y, hy, rfl⟩ := List.mem_map.mp hx
    split
    · exact hk y hy
    · exact hk y hy
  · rcases List.mem_append.mp hx with h | h
    · exact hk x h
    · have : x = (k, a, v) := by simpa using h
      subst this; exact ha
section
variable {X : Cx} {C : Addr} {pins : List (Addr × Obj)} {σ : L2.St} {H : Hp} {s : Shared} {d a : Addr} {xs : List En} {k : D} {v : V} {u : Value} {E : Value → Shared → Prop}
theorem nd_type (I : Inv X pins σ H s) (x : ND X.prog X.w C H d xs) : s.TypeIs (.ref d) "dict" ∧ (∀ b, Value.ref d = .ref b → ∃ ob, s.heap.get? b = some ob ∧ ob.dict = none) ∧ (d == sysModules) = false := by
  obtain ⟨h1, h2, ys, h3, hm⟩ := x.dict I.hok
  refine ⟨hm.typeIs, fun b q => ?_, h1⟩
  cases q
  obtain ⟨ob, _, _, e1, e2, _⟩ := hm
  exact ⟨ob, e1, e2.2.1⟩
theorem nd_room {A : Around} (hu : A.units + 64 < cLine) : (nestedKind X.prog X.w).room A.in1 := by
  show A.in1.units + 8 < cLine
  rw [Around.in1_units]; omega
/-- d.get(k, x) -/
theorem nd_get2 {A : Around} {y : V} {r : Value} {Q : Value → Shared → Prop} (hu : A.units + 64 < cLine) (I : Inv X pins σ H s) (x : ND X.prog X.w C H d xs) (ka : KeyAt C H a k) (rd : RelV y r)
    (h : ∀ w' s', Inv X pins σ H s' → RelV ((enGet xs k).getD y) w' → Q w' s') : wpAny (model X.prog X.w) A (call (.builtin "dict.get") [.ref d, .ref a, r]) Q E s := by
  obtain ⟨h1, h2, ys, h3, hm⟩ := x.dict I.hok
  refine call_meetsIn PySem.F.slot_dict_get hm.typeIs PySem.F.entry_dict_get (PySem.F.args_dict_get_3 _ _ _) (meetsH_dict_get_default (nestedKind X.prog X.w) d a h1 r) ⟨nd_room hu, nk k, ys, ka.is I.hok, hm, h _ _ (I.tok _) ?_⟩
  exact (enGet_rel h3 k).getD rd
/-- d[k] = v -/
theorem nd_setItem {A : Around} {r : Value} {Q : Unit → Shared → Prop} (hu : A.units + 64 < cLine) (I : Inv X pins σ H s) (x : ND X.prog X.w C H d xs) (hl : xs.length < sizeLine) (ka : KeyAt C H a k) (rv : RelV v r)
    (h : ∀ s', Inv X pins σ (upd H d (ndO X.prog X.w d (enPut xs k a v))) s' → Q () s') : wpAny (model X.prog X.w) A (setItem (.ref d) (.ref a) r) Q E s := by
  obtain ⟨h1, h2, ys, h3, hm⟩ := x.dict I.hok
  have hz : ys.length ≤ sizeLine := by rw [← Paired.length h3]; exact h2
  refine wpAny_setItem_heap (knd := nestedKind X.prog X.w) (hsz := hz) (nd_room hu) (ka.is I.hok) hm fun h' dd' hs => h _ ?_
  obtain ⟨q, es, ep, hq, e2, e3, e4, _, e5⟩ := dd'
  exact d_write I (by rw [x.at_]; exact True.intro) hs ⟨q, hq⟩ (ndO_mk h1 (by have := enPut_len xs k a v; omega) (enr_put h3 k a rv) hq e2 e3 e4 e5)
theorem nd_empty (I : Inv X pins σ H s) : ObjOk X.prog X.w H (s.heap.push { cls := .type "dict", data := .dict #[] }) s.heap.objs.size (ndO X.prog X.w s.heap.objs.size []) :=
  ndO_mk (beq_eq_false_iff_ne.mpr (Ne.symm (Nat.ne_of_lt I.big))) (Nat.zero_le _) .nil (Heap.get?_push_size _ rfl) ⟨rfl, rfl, rfl⟩ rfl rfl List.nodup_nil
end
theorem dict_pairsH {prog : Program} {w : World} {K : Type} [DecidableEq K] {knd : HeapKind prog w K} {A : Around} {E : Value → Shared → Prop} {s : Shared} {env : Env} {keys : List (Option Expr)} {values : List Expr} {pos : Pos} {pairs : List (Sem Value × Sem Value)} {Q : Value → Shared → Prop} (hu : knd.room A)
    (hshape : (evalEachOpt keys env).zip ((evalEach values env).map fun v => do let x ← v; standAt pos; pure x) = pairs.map fun p => (some p.1, p.2)) (h0 : pairs ≠ []) (hlen : pairs.length ≤ 15)
    (h : wpAny (model prog w) A (evalPairs pairs) (fun vs s₁ => ∃ ps, CarriesH knd s₁.heap vs ps ∧ s₁.heap.DictOfH knd s.heap.objs.size [] ∧
      ∀ h' tk, h'.DictOfH knd s.heap.objs.size (storedAllH [] ps) → Heap.SameBut s.heap.objs.size s₁.heap h' → Q (.ref s.heap.objs.size) { s₁ with heap := h', toks := tk }) E
      { s with heap := s.heap.push { cls := .type "dict", data := .dict #[] } }) :
    wpAny (model prog w) A (eval (.Dict keys values pos) env) Q E s := by
  rw [arm_eval_Dict, hshape, dictDisplay_pairs pairs h0 (by omega)]
  exact wpAny_bind (wpAny_standAt (wpAny_bind (wpAny_subDictH (knd := knd) (Q := fun d s' => wpAny (model prog w) A (pure (Value.ref d)) Q E s') hu hlen
    (wpAny_mono h (fun vs s₁ h₁ => by obtain ⟨ps, hc, hm, hq⟩ := h₁; exact ⟨ps, hc, hm, fun h' tk a b => wpAny_pure (hq h' tk a b)⟩) fun _ _ e => e))))
/-! ### readings -/
/-- {} to be such a dict -/
def tNdNew (P : Program) (w : World) : TE := fun _ H Q => ∀ p, H p = none → Q (.ref p) (upd H p (ndO P w p []))
/-- d.get(k, x) -/
def tNdGet2 (P : Program) (w : World) (C : Addr) (td ty tx : TE) : TE := fun σ H Q => td σ H fun x H1 => ∃ d xs, x = .ref d ∧ ND P w C H1 d xs ∧ ty σ H1 fun y H2 => tx σ H2 fun z H3 => ∃ a k, y = .ref a ∧ ND P w C H3 d xs ∧ KeyAt C H3 a k ∧ Q ((enGet xs k).getD z) H3
/-- d[k] = v -/
def sNdPut (P : Program) (w : World) (C : Addr) (td ty tv : TE) : TS := fun D σ H => tv σ H fun v H1 => td σ H1 fun x H2 => ty σ H2 fun y H3 => ∃ d xs a k, x = .ref d ∧ y = .ref a ∧ ND P w C H3 d xs ∧ xs.length < sizeLine ∧ KeyAt C H3 a k ∧
  D.nx σ (upd H3 d (ndO P w d (enPut xs k a v)))
/-- {k: v} -/
def tNdOne (P : Program) (w : World) (C : Addr) (tk tv : TE) : TE := fun σ H Q => ∀ p, H p = none → tk σ (upd H p (ndO P w p [])) fun y H1 => tv σ H1 fun v H2 => ∃ a k, y = .ref a ∧ H2 p = some (ndO P w p []) ∧ KeyAt C H2 a k ∧ Q (.ref p) (upd H2 p (ndO P w p [(k, a, v)]))
section
variable {X : Cx} {C : Addr} {o e f i value : Expr} {apos cpos pos pos' : Pos} {td ty tx tv tk : TE}
theorem pe_ndnew : PE X (.Dict [] [] pos) (tNdNew X.prog X.w) := ⟨fun pins s σ H Q I h =>
  wpAny_Dict_empty ⟨.ref s.heap.objs.size, _, I.laid (a := s.heap.objs.size) (o := ndO X.prog X.w s.heap.objs.size []) (t' := s.toks) (fun _ _ q => Heap.get?_push_of_some _ q) (Nat.le_refl _) (by
    obtain ⟨a, b, c⟩ := nd_empty I
    exact ⟨a, b, c⟩), rfl, h _ (I.hok.fresh (Nat.le_refl _))⟩⟩
theorem pe_ndget2 (hu : X.A.units + 64 < cLine) (ho : PE X o td) (he : PE X e ty) (hf : PE X f tx) (m : M2 X o "get" apos e f cpos) : PE X (.Call (.Attribute o "get" apos) [e, f] [] cpos) (tNdGet2 X.prog X.w C td ty tx) := by
  refine ⟨fun pins s σ H Q I h => ?_⟩
  refine wpAny_Call_method m.base m.few m.line PySem.F.plainAttrs_dict PySem.F.slot_dict_get PySem.F.type_dict_get (thn (ho.run pins s σ H _ I h) fun u s1 ⟨x, H1, I1, rx, a, xs, ex, nd, q1⟩ => ?_)
  subst ex
  obtain rfl : u = Value.ref a := rx
  obtain ⟨t1, t2, _⟩ := nd_type I1 nd
  refine ⟨t1, t2, ?_⟩
  rw [m.trees]
  refine Calls.callWith_builtin rfl (Calls.evalArgs_plain (Calls.spliced_cons (thn (he.run pins s1 σ H1 _ I1 q1) fun iv s2 ⟨y, H2, I2, ry, q2⟩ =>
    Calls.spliced_cons (thn (hf.run pins s2 σ H2 _ I2 q2) fun fv s3 ⟨z, H3, I3, rz, b, k, ey, nd3, ka, q3⟩ => Calls.spliced_nil ?_))))
  subst ey
  obtain rfl : iv = Value.ref b := ry
  exact nd_get2 hu I3 nd3 ka rz fun w' s4 I4 rw' => ⟨_, H3, I4, rw', q3⟩
theorem ps_ndput (hu : X.A.units + 64 < cLine) (ho : PE X o td) (hi : PE X i ty) (hv : PE X value tv) (hs : swapsWith value (some (.Subscript o i pos')) pos.line X.env = pure false) :
    PS X (.Assign [.Subscript o i pos'] value pos) (sNdPut X.prog X.w C td ty tv) := by
  refine ⟨fun pins s σ H D I h => ?_⟩
  refine wpAny_Assign_Subscript (thn (hv.run pins s σ H _ I h) fun r s1 ⟨v, H1, I1, rv, q1⟩ => thn (ho.run pins s1 σ H1 _ I1 q1) fun u s2 ⟨x, H2, I2, rx, q2⟩ => thn (hi.run pins s2 σ H2 _ I2 q2) fun iv s3 ⟨y, H3, I3, ry, d, xs, a, k, ex, ey, nd, hl, ka, q3⟩ => ?_) hs
  subst ex ey
  obtain rfl : u = Value.ref d := rx
  obtain rfl : iv = Value.ref a := ry
  exact nd_setItem hu I3 nd hl ka rv fun s4 I4 => ⟨σ, _, I4, q3⟩
theorem pe_ndone {k v : Expr} (hu : X.A.units + 64 < cLine) (hk : PE X k tk) (hv : PE X v tv) : PE X (.Dict [some k] [v] pos) (tNdOne X.prog X.w C tk tv) := by
  refine ⟨fun pins s σ H Q I q => ?_⟩
  have hn := I.hok.fresh (Nat.le_refl s.heap.objs.size)
  have I1 := I.laid (a := s.heap.objs.size) (o := ndO X.prog X.w s.heap.objs.size []) (h' := s.heap.push { cls := .type "dict", data := .dict #[] }) (t' := s.toks) (fun _ _ q => Heap.get?_push_of_some _ q) (Nat.le_refl _) (by
    obtain ⟨a, b, c⟩ := nd_empty I
    exact ⟨a, b, c⟩)
  refine dict_pairsH (knd := nestedKind X.prog X.w) (pairs := pairTrees [some k] [v] X.env pos) (by show X.A.units + 8 < cLine; omega) rfl (by intro z; cases z) (by show (1 : Nat) ≤ 15; decide) ?_
  refine pairTrees_cons_walk (thn (hk.run pins _ σ _ _ I1 (q _ hn)) fun u s1 ⟨y, H1, I1', ry, q1⟩ => thn (hv.run pins s1 σ H1 _ I1' q1) fun w2 s2 ⟨v, H2, I2, rv, a, k, ey, e, ka, q2⟩ => pairTrees_nil_walk ?_)
  subst ey
  obtain rfl : u = Value.ref a := ry
  obtain ⟨h1, h2, ys, h3, o, es, ep, h4, h5, h6, h7, h8⟩ := ndO_rd (I2.hok _ _ e)
  cases h3
  refine ⟨[(nk k, a, w2)], ⟨rfl, rfl, ka.is I2.hok, trivial⟩, ⟨o, es, ep, h4, h5, h6, h7, (by simp), h8⟩, fun h' tk dd' hs => ⟨.ref s.heap.objs.size, _, ?_, rfl, q2⟩⟩
  obtain ⟨o', es', ep', g4, g5, g6, g7, _, g8⟩ := dd'
  exact d_write I2 (by rw [e]; exact True.intro) hs ⟨o', g4⟩ (ndO_mk h1 (by show (1 : Nat) ≤ sizeLine; decide) (.cons ⟨rfl, rfl, rv⟩ .nil) g4 g5 g6 g7 g8)
end
/-! ### d.values(), its sum -/
def valO (p d : Addr) : HO := .ext fun h => h.IsValuesView p d
theorem valO_ok {P : Program} {w : World} {H : Hp} {h : Heap} {p d : Addr} (e : h.get? p = some { cls := .type "dict_values", data := .fields #[.ref d] }) : ObjOk P w H h p (valO p d) :=
  ⟨⟨_, e, rfl, rfl⟩, ⟨_, e⟩, fun _ _ ⟨o, a, b, c⟩ k => ⟨o, k o a, b, c⟩⟩
def tNdVals (P : Program) (w : World) (C : Addr) (td : TE) : TE := fun σ H Q => td σ H fun x H1 => ∃ d xs, x = .ref d ∧ ND P w C H1 d xs ∧ ∀ p, H1 p = none → Q (.ref p) (upd H1 p (valO p d))
def rSumV (P : Program) (w : World) (C : Addr) : List V → Hp → VK → Prop := fun vs H Q => ∃ (p d : Addr) (xs : List En) (ns : List Int), vs = [.ref p] ∧ H p = some (valO p d) ∧ ND P w C H d xs ∧ xs.map (·.2.2) = ns.map V.int ∧ Q (.int ns.sum) H
section
variable {X : Cx} {C : Addr} {o : Expr} {apos cpos : Pos} {td : TE}
theorem pe_ndvals (ho : PE X o td) (hbase : attributeBase o "values" X.env (eval o X.env) = eval o X.env := by rfl) (hline : (apos.endLine == cpos.line) = true := by rfl) : PE X (.Call (.Attribute o "values" apos) [] [] cpos) (tNdVals X.prog X.w C td) := by
  refine ⟨fun pins s σ H Q I h => ?_⟩
  refine wpAny_Call_method (T := "dict") (id := "dict.values") hbase rfl hline PySem.F.plainAttrs_dict PySem.F.slot_dict_values PySem.F.type_dict_values (thn (ho.run pins s σ H _ I h) fun u s1 ⟨x, H1, I1, rx, d, xs, ex, nd, q⟩ => ?_)
  subst ex
  obtain rfl : u = Value.ref d := rx
  obtain ⟨t1, t2, t3⟩ := nd_type I1 nd
  refine ⟨t1, t2, ?_⟩
  obtain ⟨h1, h2, ys, h3, hm⟩ := nd.dict I1.hok
  obtain ⟨es, ep, raw, _⟩ := hm.raw
  show wpAny _ _ (callWith cpos (.builtin "dict.values") [.ref d] [] []) _ X.xe s1
  refine method_meetsIn PySem.F.slot_dict_values PySem.F.entry_dict_values rfl (PySem.evalArgs_none ⟨rfl, t1, PySem.F.args_dict_values_1 _, _, meets_dict_values_raw d t3, ⟨es, ep, raw⟩, ?_⟩)
  refine ⟨.ref s1.heap.objs.size, _, I1.laid (a := s1.heap.objs.size) (o := valO s1.heap.objs.size d) (t' := s1.toks) (fun _ _ q => Heap.get?_push_of_some _ q) (Nat.le_refl _) ?_, rfl, q _ (I1.hok.fresh (Nat.le_refl _))⟩
  exact valO_ok (Heap.get?_push_size _ rfl)
theorem enr_int : ∀ {xs : List En} {ys : List (NestedKey × Addr × Value)} {ns : List Int} {i : Nat} {y : NestedKey × Addr × Value}, EnR xs ys → xs.map (·.2.2) = ns.map V.int → ys[i]? = some y → RelV (.int (ns.getD i 0)) y.2.2
  | _, _, _, _, _, .nil, _, h => by simp at h
  | _, _, [], _, _, .cons _ _, e, _ => by simp at e
  | _, _, n :: ns, 0, _, .cons e0 _, e1, h => by
    simp only [List.map_cons, List.cons.injEq] at e1
    simp at h; subst h; rw [e1.1] at e0; exact e0.2.2
  | _, _, n :: ns, i + 1, _, .cons _ t0, e1, h => by
    simp only [List.map_cons, List.cons.injEq] at e1
    exact enr_int (ns := ns) (i := i) t0 e1.2 (by simpa using h)
theorem preSum_enr : ∀ {xs : List En} {ys : List (NestedKey × Addr × Value)} {ns : List Int} (val : Nat → Int), EnR xs ys → xs.map (·.2.2) = ns.map V.int → (∀ (i : Nat) (y : NestedKey × Addr × Value), ys[i]? = some y → ∃ t, y.2.2 = Value.int (val i) t) → preSum val ys.length = ns.sum := by
  intro xs ys ns val r e hv
  have h1 : ∀ i, i < ns.length → val i = ns.getD i 0 := by
    intro i hi
    have hl : xs.length = ns.length := by have := congrArg List.length e; simpa using this
    have hl2 : xs.length = ys.length := Paired.length r
    obtain ⟨y, hy⟩ : ∃ y, ys[i]? = some y := ⟨ys[i]'(by omega), List.getElem?_eq_getElem (by omega)⟩
    obtain ⟨t, ht⟩ := hv i y hy
    obtain ⟨t', q⟩ := (show ∃ t', y.2.2 = Value.int (ns.getD i 0) t' from enr_int r e hy)
    rw [ht] at q
    injection q
  have hl : ys.length = ns.length := by
    have h2 : xs.length = ys.length := Paired.length r
    have h3 := congrArg List.length e
    simp at h3; omega
  rw [hl]
  have gen : ∀ (k : Nat) (l : List Int), k ≤ l.length → (∀ i, i < l.length → val i = l.getD i 0) → preSum val k = (l.take k).sum := by
    intro k
    induction k with
    | zero => intro l _ _; rfl
    | succ k ih =>
      intro l hk hv
      show preSum val k + val k = _
      rw [ih l (by omega) hv, hv k (by omega)]
      have : l[k]? = some (l.getD k 0) := by
        rw [List.getElem?_eq_getElem (by omega)]
        simp [List.getD, List.getElem?_eq_getElem (show k < l.length by omega)]
      exact (sum_take this).symm
  rw [gen ns.length ns (Nat.le_refl _) h1, List.take_length]
theorem cr_sumV (hc : X.calm = true) : CallR X (.builtin "sum") (rSumV X.prog X.w C) := by
  intro pins s σ H vs us Q I r h
  obtain ⟨p, d, xs, ns, rfl, hp, nd, e, q⟩ := h
  rw [Vals.ref1 r]
  obtain ⟨h1, h2, ys, h3, hm⟩ := nd.dict I.hok
  obtain ⟨es, ep, raw, hsz, hes⟩ := hm.raw
  obtain ⟨hview, _, _⟩ := (show ObjOk X.prog X.w H s.heap p (valO p d) from I.hok p _ hp)
  have hh : X.A.in1.handled = none := I.ok.hd hc
  have dlt : d < s.heap.objs.size := let ⟨_, ho, _⟩ := raw; Heap.lt_size ho
  refine call_sum_walkG (wpAny_pyIter_values_raw hview raw ?_)
  have W := Walks.rawValues (prog := X.prog) (w := X.w) (A := X.A.in1) hh s.heap.objs.size d (Nat.ne_of_lt dlt) es ep
  have hval : ∀ (i : Nat) (y : NestedKey × Addr × Value), ys[i]? = some y → ∃ t, y.2.2 = Value.int (ns.getD i 0) t := by
    intro i y hy
    exact enr_int h3 e hy
  refine ⟨_, _, _, _, _, _, fun i => ns.getD i 0, rfl, W, ⟨⟨_, Heap.get?_push_size _ rfl, rfl, rfl⟩, raw.at fun o e => Heap.get?_push_of_some _ e⟩, fun b hb => ?_, fun i v hv => ?_, fun h' tk t' hk => ?_⟩
  · have hs1 : (s.heap.push { cls := .type "dict_valueiterator", data := .fields #[.ref d, .int 0 0, .int es.size 0, .int ep 0] }).objs.size = s.heap.objs.size + 1 := Heap.size_push ..
    simp only [List.mem_cons, List.not_mem_nil, or_false] at hb
    show b < (s.heap.push _).objs.size
    rw [hs1]
    rcases hb with rfl | rfl
    · exact Nat.lt_succ_self _
    · exact Nat.lt_succ_of_lt dlt
  · obtain ⟨hi, rfl⟩ := hv
    obtain ⟨y, hy, _, e2, _⟩ := hes i hi
    rw [e2]
    exact hval i y hy
  · rw [hsz, preSum_enr _ h3 e hval]
    refine ⟨.int _, H, I.kept (h' := h') (t' := tk) (fun b o e => hk b o ?_ (Heap.get?_push_of_some _ e)), ⟨_, rfl⟩, q⟩
    intro hb
    have : b = s.heap.objs.size := by simpa using hb
    exact absurd (Heap.lt_size e) (by rw [this]; exact Nat.lt_irrefl _)
end
end Y

set_option Elab.async false
set_option linter.all false
set_option maxRecDepth 100000
set_option maxHeartbeats 4000000
/-! Walks over dicts whose keys are nested tuples; loops; lists of numbers in lists. -/
namespace Y
open PySem PySem.Spec PyProof.Rows L2
section
variable {X : Cx} {pins : List (Addr × Obj)} {σ : L2.St} {H : Hp} {s : Shared} {d : Addr} {o : Obj} {xs : List En}
theorem frzN (I : Inv X pins σ H s) (hd : H d = some (.frz o (ndO X.prog X.w d xs))) : (d == sysModules) = false ∧ s.heap.get? d = some o ∧ o.ExactDict ∧ ∃ (es : Array DictEntry) (ep : Nat), o.data = .dict es ep ∧ es.size = xs.length ∧
    ∀ (i : Nat) (en : En), xs[i]? = some en → ∃ e : DictEntry, es[i]? = some e ∧ e.key = .ref en.2.1 ∧ RelV en.2.2 e.val := by
  obtain ⟨h0, x⟩ := (show s.heap.get? d = some o ∧ ObjOk X.prog X.w H s.heap d (ndO X.prog X.w d xs) from I.hok d _ hd)
  obtain ⟨h1, h2, ys, h3, o', es, ep, h4, h5, h6, h7, h8⟩ := ndO_rd x
  rw [h0] at h4; cases h4
  have hl : xs.length = ys.length := Paired.length h3
  refine ⟨h1, h0, h5, es, ep, h6, by rw [size_of_entries h7, hl], fun i en he => ?_⟩
  obtain ⟨y, hy, e1, e2, e3⟩ := paired_get h3 he
  have := entry_at h7 i
  rw [hy, Option.map_some] at this
  exact ⟨_, this, by show Value.ref y.2.1 = _; rw [e2], e3⟩
end
def Itnk (P : Program) (w : World) (d : Addr) (o : Obj) (xs : List En) : It :=
  ⟨fun i H => H d = some (.frz o (ndO P w d xs)) ∧ i < xs.length, fun i H x H' => H' = H ∧ ∃ en, xs[i]? = some en ∧ x = .ref en.2.1, fun i H => H d = some (.frz o (ndO P w d xs)) ∧ xs.length ≤ i⟩
def Itni (P : Program) (w : World) (d : Addr) (o : Obj) (xs : List En) : It :=
  ⟨fun i H => H d = some (.frz o (ndO P w d xs)) ∧ i < xs.length, fun i H x H' => ∃ T en, xs[i]? = some en ∧ x = .ref T ∧ H T = none ∧ H' = upd H T (.tup [.ref en.2.1, en.2.2]), fun i H => H d = some (.frz o (ndO P w d xs)) ∧ xs.length ≤ i⟩
section
variable {P : Program} {w : World} {K : PySem.W.Frag} {tg : Expr} {d : Addr} {o : Obj} {es : Array DictEntry} {ep : Nat} {xs : List En}
theorem turn_nk (it : Addr) (hod : o.data = .dict es ep) : Turn P w K tg (Itnk P w d o xs) [it] it (fun i h => h.IsKeyIter it d i xs.length ep) where
  mem := by simp
  obj := fun i h st b hb => by
    have e : b = it := by simpa using hb
    subst e
    obtain ⟨oi, e, c, dd⟩ := st
    exact ⟨oi, e, fun v z => by rw [dd] at z; cases z⟩
  keep := fun i h h' st k => st.at fun oi e => k it (by simp) oi e
  item := by
    intro X hP hw hK hc i pins s σ H E I hf st hg
    subst hP hw hK
    obtain ⟨hd, hi⟩ := hg
    obtain ⟨f0, f1, f2, f3, f4, f5⟩ := hf it (by simp)
    obtain ⟨hs, hgd, hx, es', ep', hdt, hsz, ent⟩ := frzN I hd
    obtain ⟨rfl, rfl⟩ := dict_ep hod hdt
    obtain ⟨en, hen⟩ : ∃ p, xs[i]? = some p := ⟨xs[i], List.getElem?_eq_getElem hi⟩
    obtain ⟨e, he, hkey, hval⟩ := ent i en hen
    refine next_key_item st hgd hdt hsz he fun h' st' sb => ?_
    have I1 : Inv X pins σ H { s with heap := h' } := I.turned (t' := s.toks) (fun b ob hb e => (sb.2 b hb).trans e) f0 f1 f3 f4 f5
    obtain ⟨oi, e1, c, dd⟩ := id st'
    exact ⟨e.key, rfl, go_of (s := { s with heap := h' }) e1 c dd (by decide) ⟨.ref en.2.1, H, I1, hkey, ⟨rfl, en, hen, rfl⟩, st', fun b hb => (hf b hb).1⟩⟩
  done := by
    intro X hP hw hK hc i pins s σ H E I hf st hg
    subst hP hw hK
    obtain ⟨hd, hi⟩ := hg
    obtain ⟨f0, f1, f2, f3, f4, f5⟩ := hf it (by simp)
    obtain ⟨hs, hgd, hx, es', ep', hdt, hsz, ent⟩ := frzN I hd
    obtain ⟨rfl, rfl⟩ := dict_ep hod hdt
    exact next_key_end (I.ok.hd hc) st hgd hdt hsz hi fun h' eb => ⟨rfl, I.turned (t' := s.toks) (fun b ob hb e => eb b ob hb e) f0 f1 f3 f4 f5⟩
  self := fun A i s Q E st h => by
    refine wpAny_pyIter_slot st.typeIs F.slot_dict_keyiterator_iter (wpAny_call_entry F.slot_dict_keyiterator_iter st.typeIs F.entry_dict_keyiterator_iter ?_ (F.args_dict_keyiterator_iter_1 _))
    show wpAny _ _ (ret (.ref it)) _ _ s
    exact wpAny_pure ⟨_, rfl, "dict_keyiterator", _, st.typeIs, F.slot_dict_keyiterator_next.lookup, h⟩
theorem turn_ni {elts : List Expr} {kk : Nat} {tpos : Pos} (it : Addr) (hod : o.data = .dict es ep) :
    Turn P w K (.Tuple elts kk tpos) (Itni P w d o xs) [it] it (fun i h => ∃ ok ov, IsItemIter h it d i xs.length ep ok ov) where
  mem := by simp
  obj := fun i h st b hb => by
    have e : b = it := by simpa using hb
    subst e
    obtain ⟨ok, ov, e⟩ := st
    exact ⟨_, e, fun v z => nomatch z⟩
  keep := fun i h h' st k => let ⟨ok, ov, e⟩ := st; ⟨ok, ov, k it (by simp) _ e⟩
  item := by
    intro X hP hw hK hc i pins s σ H E I hf st hg
    subst hP hw hK
    obtain ⟨hd, hi⟩ := hg
    obtain ⟨hs, hgd, hx, es', ep', hdt, hsz, ent⟩ := frzN I hd
    obtain ⟨rfl, rfl⟩ := dict_ep hod hdt
    obtain ⟨en, hen⟩ : ∃ p, xs[i]? = some p := ⟨xs[i], List.getElem?_eq_getElem hi⟩
    obtain ⟨e, he', hkey, hval⟩ := ent i en hen
    obtain ⟨ok, ov, he⟩ := st
    rw [← hsz] at he
    have hlt : it < s.heap.objs.size := Heap.lt_size he
    obtain ⟨hi', hee⟩ := Array.getElem?_eq_some_iff.mp he'
    refine wpAny_pyNext_items_item_raw he ⟨o, hgd, hx, hdt⟩ hi' fun h' ho hT hz hk => ?_
    rw [hee] at ho hT
    refine ⟨_, rfl, wpAny_letOwnedTupleGo_items (s := { s with heap := h' }) ho fun h'' he' sb => ?_⟩
    have hT2 : h''.get? s.heap.objs.size = some { cls := .type "tuple", data := .seq #[e.key, e.val] } := (sb.2 _ (Nat.ne_of_gt hlt)).trans hT
    have new : ObjOk X.prog X.w (upd H s.heap.objs.size (.tup [.ref en.2.1, en.2.2])) h'' s.heap.objs.size (.tup [.ref en.2.1, en.2.2]) :=
      ⟨by show 2 ≤ sizeLine; decide, [e.key, e.val], .cons hkey (.cons hval .nil), ⟨_, hT2, rfl, _, rfl⟩⟩
    have I1 : Inv X pins σ (upd H s.heap.objs.size (.tup [.ref en.2.1, en.2.2])) { s with heap := h'' } :=
      I.turnedNew (t' := s.toks) (ch := [it]) (fun b ob hb e => (sb.2 b (by simpa using hb)).trans (hk b ob (by simpa using hb) e)) hf (Nat.le_refl _) new
    refine ⟨.ref s.heap.objs.size, _, I1, rfl, ⟨_, en, hen, rfl, I.hok.fresh (Nat.le_refl _), rfl⟩, ⟨e.key, e.val, ?_⟩, fun b hb => ?_⟩
    · rw [← hsz]; exact he'
    · have e : b = it := by simpa using hb
      rw [e, upd_ne (Nat.ne_of_lt hlt)]
      exact (hf it (by simp)).1
  done := by
    intro X hP hw hK hc i pins s σ H E I hf st hg
    subst hP hw hK
    obtain ⟨hd, hi⟩ := hg
    obtain ⟨f0, f1, f2, f3, f4, f5⟩ := hf it (by simp)
    obtain ⟨hs, hgd, hx, es', ep', hdt, hsz, ent⟩ := frzN I hd
    obtain ⟨rfl, rfl⟩ := dict_ep hod hdt
    obtain ⟨ok, ov, he⟩ := st
    rw [← hsz] at he
    exact wpAny_pyNext_items_end_raw (I.ok.hd hc) he ⟨o, hgd, hx, hdt⟩ (by omega) fun h' eb => ⟨rfl, I.turned (t' := s.toks) (fun b ob hb e => eb b ob hb e) f0 f1 f3 f4 f5⟩
  self := fun _ _ _ _ _ st h => let ⟨_, _, e⟩ := st; PySem.W.kcp_self e h
end
/-- over the keys | items of a locked dict -/
def iNk (P : Program) (w : World) (td : TE) : TI := fun σ H R => td σ H fun x H1 => ∃ d o xs, x = .ref d ∧ H1 d = some (.frz o (ndO P w d xs)) ∧ R (Itnk P w d o xs) H1
def iNi (P : Program) (w : World) (td : TE) : TI := fun σ H R => td σ H fun x H1 => ∃ d o xs, x = .ref d ∧ H1 d = some (.frz o (ndO P w d xs)) ∧ R (Itni P w d o xs) H1
section
variable {X : Cx} {tg e : Expr} {td : TE} {apos cpos : Pos}
theorem pi_nk (he : PE X e td) : PI X tg e (iNk X.prog X.w td) := by
  refine ⟨fun pins s σ H R I h => ?_⟩
  refine thn (he.run pins s σ H _ I h) fun u s1 ⟨x, H1, I1, rx, d, o, xs, ex, hd, q⟩ => ?_
  subst ex
  obtain rfl : u = Value.ref d := rx
  obtain ⟨hs, hgd, hx, es, ep, hdt, hsz, ent⟩ := frzN I1 hd
  refine iter_keys hs hgd hx hdt (pi_one (tk := s1.toks) I1 _ (turn_nk _ hdt) ⟨_, Heap.get?_push_size _ rfl, rfl, ?_⟩ q)
  rw [hsz] <;> rfl
theorem pi_ni {elts : List Expr} {kk : Nat} {tpos : Pos} (he : PE X e td) (hbase : attributeBase e "items" X.env (eval e X.env) = eval e X.env := by rfl) (hline : (apos.endLine == cpos.line) = true := by rfl) :
    PI X (.Tuple elts kk tpos) (.Call (.Attribute e "items" apos) [] [] cpos) (iNi X.prog X.w td) := by
  refine ⟨fun pins s σ H R I h => ?_⟩
  refine wpAny_Call_method (T := "dict") (id := "dict.items") hbase rfl hline F.plainAttrs_dict F.slot_dict_items F.type_dict_items (thn (he.run pins s σ H _ I h) fun u s1 ⟨x, H1, I1, rx, d, o, xs, ex, hd, q⟩ => ?_)
  subst ex
  obtain rfl : u = Value.ref d := rx
  obtain ⟨hs, hgd, hx, es, ep, hdt, hsz, ent⟩ := frzN I1 hd
  have raw : s1.heap.DictRaw d es ep := ⟨o, hgd, hx, hdt⟩
  refine ⟨raw.typeIs, fun b q => (by cases q; exact ⟨o, hgd, hx.2.1⟩), ?_⟩
  have I2 : Inv X pins σ H1 { s1 with heap := s1.heap.push { cls := .type "dict_items", data := .fields #[.ref d] } } := I1.kept (t' := s1.toks) fun b ob q => Heap.get?_push_of_some _ q
  have fin : wpAny (model X.prog X.w) X.A (pyIter (.ref s1.heap.objs.size)) (PIE X pins σ (.Tuple elts kk tpos) R) X.xe { s1 with heap := s1.heap.push { cls := .type "dict_items", data := .fields #[.ref d] } } := by
    refine wpAny_pyIter_items_raw (d := d) (es := es) (ep := ep) ⟨_, Heap.get?_push_size _ rfl, rfl, rfl⟩ (raw.at fun o e => Heap.get?_push_of_some _ e) (pi_one (tk := s1.toks) I2 _ (turn_ni _ hdt) ⟨.none, .none, ?_⟩ q)
    rw [← hsz]
    exact Heap.get?_push_size _ rfl
  show wpAny _ _ (callWith cpos (.builtin "dict.items") [.ref d] [] []) _ X.xe s1
  exact method_meetsIn F.slot_dict_items F.entry_dict_items rfl (PySem.evalArgs_none ⟨rfl, raw.typeIs, F.args_dict_items_1 _, _, meets_dict_items_raw d hs, ⟨es, ep, raw⟩, fin⟩)
end
/-- a loop over n turns of an iterator J whose i-th item is what (i, H) yields -/
theorem for_any {J : It} {n : Nat} {g : TG} {tb : TS} {D : Ends} {σ : L2.St} {H : Hp} (Pv : Nat → L2.St → Hp → Prop) (h0 : Pv 0 σ H) (hgo : ∀ i σ H, i < n → Pv i σ H → J.go i H) (hstop : ∀ σ H, Pv n σ H → J.stop n H)
    (hs : ∀ i x σ H H', i < n → Pv i σ H → J.yld i H x H' → g x σ H' fun σ2 H2 => tb { D with nx := Pv (i + 1), ct := Pv (i + 1), bk := D.nx } σ2 H2) (hd : ∀ σ H, Pv n σ H → D.nx σ H) :
    ∃ W : Nat → Nat → L2.St → Hp → Prop, (∃ m, W 0 m σ H) ∧ ∀ i m σ H, W i m σ H → (J.stop i H ∧ D.nx σ H) ∨ (J.go i H ∧ ∃ N : L2.St → Hp → Prop, (∀ σ' H', N σ' H' → ∃ m', m' < m ∧ W (i + 1) m' σ' H') ∧
      ∀ x H', J.yld i H x H' → g x σ H' fun σ2 H2 => tb { D with nx := N, ct := N, bk := D.nx } σ2 H2) := by
  refine ⟨fun i m σ H => m = n - i ∧ i ≤ n ∧ Pv i σ H, ⟨n, by simp, Nat.zero_le _, h0⟩, ?_⟩
  rintro i m σ H ⟨rfl, hi, p⟩
  by_cases hlt : i < n
  · exact .inr ⟨hgo i σ H hlt p, Pv (i + 1), fun σ' H' q => ⟨n - (i + 1), by omega, rfl, by omega, q⟩, fun x H' y => hs i x σ H H' hlt p y⟩
  · have : i = n := by omega
    subst this
    exact .inl ⟨hstop σ H p, hd σ H p⟩
end Y

set_option Elab.async false
set_option linter.all false
set_option maxRecDepth 100000
set_option maxHeartbeats 4000000
/-! Defs and their callers; loops and comprehensions that come to data. -/
namespace Y
open PySem PySem.Spec PyProof.Rows L2
/-! ### defs -/
/-- the def x stands at the top as the text has it -/
def Df (K : PySem.W.Frag) (mg : Str → Option Value) (x : Str) (st : Stmt) : Prop := ∃ f fd, mg x = some (.ref f) ∧ FunD K x x (defArgs st) (defBody st) (defScope st) [] [] f fd
/-- the def x keeps the promise sp -/
def Cl (P : Program) (w : World) (K : PySem.W.Frag) (mg : Str → Option Value) (base : Heap) (x : Str) (k : Nat) (ps : List Str) (sp : Sp) : Prop :=
  ∃ f fd, mg x = some (.ref f) ∧ PySem.W.keepIn K (.ref f) = true ∧ Binds K fd ps [] ∧ FnOk P w K mg base CX0 k f fd ps sp
section
variable {P : Program} {w : World} {K : PySem.W.Frag} {mg : Str → Option Value} {base : Heap} {x : Str} {st : Stmt} {N ps : List Str} {k : Nat} {sp : Sp}
theorem Df.cl (F : Df K mg x st) (S : FnScope N ps (defScope st))
    (hb : ∀ (kV doc pm : Value) (an : Option Addr) (cdv ct : Value) (us : List Value), us.length = ps.length → bindArgs (PySem.W.fnOf x x (defArgs st) (defBody st) (defScope st) .none kV doc pm an cdv ct) ⟨us, []⟩ = pure (ps.zip us))
    (len : ∀ vs H Q E, sp vs H Q E → vs.length = ps.length)
    (body : ∀ (f : Addr) (cdv : Value) (A : Around) (outer : List Env) (s : Shared) (H : Hp) (vs : List V) (Q : VK) (E : XK), Room k (A.deeper (envOfC x (defScope st) s.heap.objs.size f cdv)) → sp vs H Q E →
      ∃ t, PSs (cxOf CX0 P w K mg base N x (defScope st) f cdv A outer s H E).nox (defBody st) t ∧ t { nx := fun _ H' => Q .non H', rt := Q } (start N vs) H) : Cl P w K mg base x (k + 1) ps sp := by
  obtain ⟨f, fd, hm, F⟩ := F
  refine ⟨f, fd, hm, F.kp, F.bindsN hb, F.ok S len fun cdv A outer s H vs Q E hr h => ?_⟩
  obtain ⟨t, h1, h2⟩ := body f cdv A outer s H vs Q E hr h
  exact ⟨t, h1.nox, h2⟩
theorem Cl.imp (c : Cl P w K mg base x k ps sp) {sp' : Sp} (h : ∀ vs H Q E, sp' vs H Q E → sp vs H Q E) : Cl P w K mg base x k ps sp' := by
  obtain ⟨f, fd, a, b, d, e⟩ := c
  exact ⟨f, fd, a, b, d, e.imp h⟩
end
section
variable {X : Cx} {k : Nat} {x : Str} {ps : List Str} {sp : Sp} {p pos : Pos} {e : Expr} {es : List Expr} {t : TA}
theorem pe_cl (c : Cl X.prog X.w X.K X.mg X.base x k ps sp) (hr : Room k X.A) (hg : Gl X x) (ha : PA X (e :: es) t) (hdb : (x == ("__debug__" : Str)) = false := by decide)
    (he : starEach (e :: es) X.env = (false, eval e X.env) :: starEach es X.env := by rfl) (hpl : (backTo pos (starEach es X.env)).any (·.1) = false := by rfl) :
    PE X (.Call (.Name x p) (e :: es) [] pos) (tCall sp [] E0 t) := by
  obtain ⟨f, fd, hm, hk, hb, F⟩ := c
  exact pe_call F hr hg hm hk hb .nil pass0 ha hdb he hpl
/-- a module's whole number -/
theorem pe_gint {i : Int} (hg : Gl X x) (hm : ∃ t, X.mg x = some (.int i t)) (hd : (x == ("__debug__" : Str)) = false := by decide) : PE X (.Name x pos) (tC (.int i)) := by
  obtain ⟨t, hm⟩ := hm
  exact pe_glob hg hm ⟨t, rfl⟩ hd
/-- xs[i] of a list, to be changed by place -/
def rGetL (K : PySem.W.Frag) : V → V → Hp → VK → Prop := fun o i H Q => ∃ (p : Addr) (xs : List V) (j : Nat) (v : V), o = .ref p ∧ i = .int (j : Int) ∧ SqL K H p xs ∧ xs[j]? = some v ∧ Q v H
theorem get_list : PGet X (rGetL X.K) := by
  intro pins s σ H o i ov iv Q I ro ri h
  obtain ⟨p, xs, j, v, rfl, rfl, hq, hj, q⟩ := h
  cases ro
  obtain ⟨t, rfl⟩ := ri
  obtain ⟨its, r, pl, hz⟩ := I.list hq
  obtain ⟨u, eu, ru⟩ := r.get hj
  have hlt : j < its.length := (List.getElem?_eq_some_iff.mp eu).1
  have hl := r.length
  have hs : sizeLine = 16777216 := sizeLine_eq
  exact wpAny_getItem_list (x := u) pl.isList (by omega) (by omega) (by simpa using eu) ⟨v, H, I, ru, q⟩
end
/-! ### the promise of a def that only reads: from data to a datum -/
/-- pre: what is asked of the data; f: what it comes to -/
def pureSp (C : Addr) (pre : List D → Prop) (f : List D → D) : Sp := fun vs H Q _ => ∃ ds, TpA C H vs ds ∧ pre ds ∧ ∀ v H', Same H H' → Tp C H' v (f ds) → Q v H'
/-- .. to a new list of data -/
def pureSpL (C : Addr) (pre : List D → Prop) (f : List D → List D) : Sp := fun vs H Q _ => ∃ ds, TpA C H vs ds ∧ pre ds ∧ ∀ a vs' H', Same H H' → H a = none → H' a = some (.lst vs') → TpA C H' vs' (f ds) → Q (.ref a) H'
section
variable {C : Addr} {K : PySem.W.Frag} {as : TA} {σ : L2.St} {H : Hp} {ds : List D} {pre : List D → Prop}
theorem ev_call {f : List D → D} (ha : EvA C as σ H ds) (hp : pre ds) : EvD C (tCall (pureSp C pre f) [] E0 as) σ H (f ds) := fun H1 s Q q =>
  ha H1 s _ fun vs H2 s2 t => ⟨ds, by rw [List.append_nil]; exact t, hp, fun v H3 s3 t3 => q v H3 (Same.trans s2 s3) t3⟩
theorem evl_call {f : List D → List D} (ha : EvA C as σ H ds) (hp : pre ds) : EvL C (tCall (pureSpL C pre f) [] E0 as) σ H (f ds) := fun H1 s Q q =>
  ha H1 s _ fun vs H2 s2 t => ⟨ds, by rw [List.append_nil]; exact t, hp, fun a vs' H3 s3 hn h3 t3 => q a vs' H3 (Same.trans s2 s3) (s2.free hn) h3 t3⟩
end
/-! ### targets -/
/-- the target takes x by setting slots -/
def GB (g : TG) (σ : L2.St) (H : Hp) (x : V) (σ' : L2.St) : Prop := ∀ Q : L2.St → Hp → Prop, Q σ' H → g x σ H Q
section
variable {C : Addr} {K : PySem.W.Frag} {σ : L2.St} {H : Hp} {x : V} {i j k l : Nat}
theorem gb_name : GB (gName i) σ H x (σ.set i (some x)) := fun _ q => q
theorem gb_tup2 {a b : Int} {d : D} (h : Tp C H x (.tup [d, .num b])) : ∃ v, Tp C H v d ∧ GB (gTup K 2 (gCons (gName i) (gCons (gName j) gNil))) σ H x ((σ.set i (some v)).set j (some (.int b))) := by
  obtain ⟨p, xs, rfl, hx, r⟩ := tp_tup h
  obtain ⟨v, _, rfl, r1, r⟩ := tpa_cons r
  obtain ⟨_, _, rfl, r2, r⟩ := tpa_cons r
  cases tpa_nil r; cases tp_num r2
  exact ⟨v, r1, fun Q q => ⟨p, _, rfl, .inl (.inl hx), rfl, _, _, rfl, _, _, rfl, rfl, q⟩⟩
theorem gb_two {d e : D} (h : Tp C H x (.tup [d, e])) : ∃ v w, Tp C H v d ∧ Tp C H w e ∧ GB (gTup K 2 (gCons (gName i) (gCons (gName j) gNil))) σ H x ((σ.set i (some v)).set j (some w)) := by
  obtain ⟨p, xs, rfl, hx, r⟩ := tp_tup h
  obtain ⟨v, _, rfl, r1, r⟩ := tpa_cons r
  obtain ⟨w, _, rfl, r2, r⟩ := tpa_cons r
  cases tpa_nil r
  exact ⟨v, w, r1, r2, fun Q q => ⟨p, _, rfl, .inl (.inl hx), rfl, _, _, rfl, _, _, rfl, rfl, q⟩⟩
theorem gb_three {d e f : D} (h : Tp C H x (.tup [d, e, f])) : ∃ u v w, Tp C H u d ∧ Tp C H v e ∧ Tp C H w f ∧ GB (gTup K 3 (gCons (gName i) (gCons (gName j) (gCons (gName k) gNil)))) σ H x (((σ.set i (some u)).set j (some v)).set k (some w)) := by
  obtain ⟨p, xs, rfl, hx, r⟩ := tp_tup h
  obtain ⟨u, _, rfl, r1, r⟩ := tpa_cons r
  obtain ⟨v, _, rfl, r2, r⟩ := tpa_cons r
  obtain ⟨w, _, rfl, r3, r⟩ := tpa_cons r
  cases tpa_nil r
  exact ⟨u, v, w, r1, r2, r3, fun Q q => ⟨p, _, rfl, .inl (.inl hx), rfl, _, _, rfl, _, _, rfl, _, _, rfl, rfl, q⟩⟩
theorem gb_four {d e f g : D} (h : Tp C H x (.tup [d, e, f, g])) : ∃ t u v w, Tp C H t d ∧ Tp C H u e ∧ Tp C H v f ∧ Tp C H w g ∧
    GB (gTup K 4 (gCons (gName i) (gCons (gName j) (gCons (gName k) (gCons (gName l) gNil))))) σ H x ((((σ.set i (some t)).set j (some u)).set k (some v)).set l (some w)) := by
  obtain ⟨p, xs, rfl, hx, r⟩ := tp_tup h
  obtain ⟨t, _, rfl, r0, r⟩ := tpa_cons r
  obtain ⟨u, _, rfl, r1, r⟩ := tpa_cons r
  obtain ⟨v, _, rfl, r2, r⟩ := tpa_cons r
  obtain ⟨w, _, rfl, r3, r⟩ := tpa_cons r
  cases tpa_nil r
  exact ⟨t, u, v, w, r0, r1, r2, r3, fun Q q => ⟨p, _, rfl, .inl (.inl hx), rfl, _, _, rfl, _, _, rfl, _, _, rfl, _, _, rfl, rfl, q⟩⟩
/-- a door's four numbers -/
theorem gb_door {d : Door} (h : Tp C H x (doorD d)) : GB (gTup K 4 (gCons (gName i) (gCons (gName j) (gCons (gName k) (gCons (gName l) gNil))))) σ H x ((((σ.set i (some (.int d.1))).set j (some (.int d.2.1))).set k (some (.int d.2.2.1))).set l (some (.int d.2.2.2))) := by
  obtain ⟨p, rfl, hx⟩ := tp_door h
  exact fun Q q => ⟨p, _, rfl, .inl (.inl hx), rfl, _, _, rfl, _, _, rfl, _, _, rfl, _, _, rfl, rfl, q⟩
end
/-! ### statements -/
section
variable {C : Addr} {K : PySem.W.Frag} {te : TE} {tt : TT} {rest : TS} {Ds : Ends} {σ : L2.St} {H H0 : Hp} {d : D} {ds : List D} {i p : Nat} {g : TG} {b : Bool}
/-- x = e, then the rest -/
theorem st_set (h : EvD C te σ H d) (k : ∀ v H2, Same H H2 → Tp C H2 v d → rest Ds (σ.set i (some v)) H2) : tSeq (tAsg te (gName i)) rest Ds σ H := h H (Same.refl _) _ k
theorem st_setL (h : EvL C te σ H ds) (k : ∀ a vs H2, Same H H2 → H a = none → H2 a = some (.lst vs) → TpA C H2 vs ds → rest Ds (σ.set i (some (.ref a))) H2) : tSeq (tAsg te (gName i)) rest Ds σ H := h H (Same.refl _) _ k
theorem st_asg (h : EvD C te σ H d) (k : ∀ v H2, Same H H2 → Tp C H2 v d → ∃ σ', GB g σ H2 v σ' ∧ rest Ds σ' H2) : tSeq (tAsg te g) rest Ds σ H := h H (Same.refl _) _ fun v H2 s t => by
  obtain ⟨σ', g1, r⟩ := k v H2 s t
  exact g1 _ r
/-- return e -/
theorem st_ret (h : EvD C te σ H d) (k : ∀ v H2, Same H H2 → Tp C H2 v d → Ds.rt v H2) : tRet te Ds σ H := h H (Same.refl _) _ k
theorem st_retL (h : EvL C te σ H ds) (k : ∀ a vs H2, Same H H2 → H a = none → H2 a = some (.lst vs) → TpA C H2 vs ds → Ds.rt (.ref a) H2) : tRet te Ds σ H := h H (Same.refl _) _ k
/-- if t: A else: B -/
theorem st_if {t u : TS} (h : EvT tt σ H b) (h1 : b = true → ∀ H2, Same H H2 → t Ds σ H2) (h2 : b = false → ∀ H2, Same H H2 → u Ds σ H2) : tIfS tt t u Ds σ H := h H (Same.refl _) _ fun H2 s => by
  cases b with
  | true => exact iteT (h1 rfl H2 s)
  | false => exact iteF (h2 rfl H2 s)
/-- xs.append(e), xs in slot i, then the rest -/
theorem st_app {xs : List V} {a : Addr} (hv : σ[i]? = some (some (.ref a))) (ha : H a = some (.lst xs)) (hl : xs.length < sizeLine) (h : EvD C te σ H d)
    (k : ∀ v H2, Same H H2 → Tp C H2 v d → rest Ds σ (upd H2 a (.lst (xs ++ [v])))) : tSeq (tDrop (tBM K "list" rAppend (tVar i) (tCons te tNil))) rest Ds σ H := by
  refine ⟨_, hv, .inl ⟨rfl, xs, .inl (.inl ha)⟩, ?_⟩
  exact h H (Same.refl _) _ fun v H2 s t => ⟨a, xs, v, rfl, rfl, s _ _ ha, hl, k v H2 s t⟩
/-- the same as the last statement of a block -/
theorem st_app1 {xs : List V} {a : Addr} (hv : σ[i]? = some (some (.ref a))) (ha : H a = some (.lst xs)) (hl : xs.length < sizeLine) (h : EvD C te σ H d)
    (k : ∀ v H2, Same H H2 → Tp C H2 v d → Ds.nx σ (upd H2 a (.lst (xs ++ [v])))) : tDrop (tBM K "list" rAppend (tVar i) (tCons te tNil)) Ds σ H := by
  refine ⟨_, hv, .inl ⟨rfl, xs, .inl (.inl ha)⟩, ?_⟩
  exact h H (Same.refl _) _ fun v H2 s t => ⟨a, xs, v, rfl, rfl, s _ _ ha, hl, k v H2 s t⟩
end
/-! ### what is walked comes to data -/
/-- the walk J gives the data ds, in order, while the tuples and what stands at F stay -/
structure Src (C : Addr) (J : It) (H : Hp) (ds : List D) (F : List Addr) : Prop where
  go : ∀ i H', Stay H H' → (∀ b ∈ F, ∀ o, H b = some o → H' b = some o) → i < ds.length → J.go i H'
  stop : ∀ H', Stay H H' → (∀ b ∈ F, ∀ o, H b = some o → H' b = some o) → J.stop ds.length H'
  yld : ∀ i x H' H'', Stay H H' → (∀ b ∈ F, ∀ o, H b = some o → H' b = some o) → i < ds.length → J.yld i H' x H'' → H'' = H' ∧ ∃ d, ds[i]? = some d ∧ Tp C H' x d
def EvI (C : Addr) (wi : TI) (σ : L2.St) (H : Hp) (ds : List D) (Fk : List Addr) : Prop := ∀ H1, Same H H1 → ∀ R : It → Hp → Prop, (∀ J H2 F, Same H1 H2 → (∀ b ∈ F, H1 b = none ∨ b ∈ Fk) → Src C J H2 ds F → R J H2) → wi σ H1 R
section
variable {C : Addr} {K : PySem.W.Frag} {te : TE} {as : TA} {σ : L2.St} {H : Hp} {ds : List D}
theorem ei_tup (h : EvD C te σ H (.tup ds)) : EvI C (iTup K te) σ H ds [] := fun H1 s R q => h H1 s _ fun v H2 s2 t => by
  obtain ⟨a, xs, rfl, hx, r⟩ := tp_tup t
  refine ⟨a, rfl, ⟨xs, .inl (.inl hx)⟩, q _ H2 [] s2 (fun b hb => nomatch hb) ⟨fun i H' st _ hi => ?_, fun H' st _ => ?_, fun i x H' H'' st _ hi hy => ?_⟩⟩
  · obtain ⟨v, h1, _⟩ := r.get (List.getElem?_eq_getElem hi)
    exact ⟨xs, v, .inl (.inl (st _ _ hx trivial)), h1⟩
  · exact ⟨xs, .inl (.inl (st _ _ hx trivial)), by rw [r.length]; exact Nat.le_refl _⟩
  · obtain ⟨rfl, hy⟩ := hy
    obtain ⟨d, e1, e2⟩ := (r.stay st).getV (hy xs (.inl (.inl (st _ _ hx trivial))))
    exact ⟨rfl, d, e1, e2⟩
theorem src_list {a : Addr} {vs : List V} (ha : H a = some (.lst vs)) (r : TpA C H vs ds) : Src C (Itl K a) H ds [a] where
  go := fun i H' st fr hi => by
    obtain ⟨v, h1, _⟩ := r.get (List.getElem?_eq_getElem hi)
    exact ⟨vs, v, .inl (.inl (fr a (by simp) _ ha)), h1⟩
  stop := fun H' st fr => ⟨vs, .inl (.inl (fr a (by simp) _ ha)), by rw [r.length]; exact Nat.le_refl _⟩
  yld := fun i x H' H'' st fr hi hy => by
    obtain ⟨rfl, hy⟩ := hy
    obtain ⟨d, e1, e2⟩ := (r.stay st).getV (hy vs (.inl (.inl (fr a (by simp) _ ha))))
    exact ⟨rfl, d, e1, e2⟩
theorem ei_lst (h : EvL C te σ H ds) : EvI C (iList K te) σ H ds [] := fun H1 s R q => h H1 s _ fun a vs H2 s2 hn ha r =>
  ⟨a, rfl, ⟨vs, .inl (.inl ha)⟩, q _ H2 [a] s2 (fun b hb => .inl (by rw [List.mem_singleton.mp hb]; exact hn)) (src_list ha r)⟩
/-- a list that stands already -/
theorem ei_at {a : Addr} {vs : List V} (h : EvV te σ H (.ref a)) (ha : H a = some (.lst vs)) (r : TpA C H vs ds) : EvI C (iList K te) σ H ds [a] := fun H1 s R q => h H1 s _ fun H2 s2 =>
  ⟨a, rfl, ⟨vs, .inl (.inl (s2 _ _ (s _ _ ha)))⟩, q _ H2 [a] s2 (fun b hb => .inr hb) (src_list (s2 _ _ (s _ _ ha)) ((r.same s).same s2))⟩
theorem src_rng (lo : Int) (n : Nat) : Src C (Itr lo n) H ((List.range n).map fun k => D.num (lo + (k : Nat))) [] where
  go := fun i H' _ _ hi => show i < n by simpa using hi
  stop := fun H' _ _ => by show n ≤ _; simp
  yld := fun i x H' H'' _ _ hi hy => by
    obtain ⟨rfl, rfl⟩ := hy
    have hi : i < n := by simpa using hi
    exact ⟨rfl, .num (lo + (i : Nat)), by simp [hi], .num _⟩
theorem ei_rng1 {n : Nat} (h : EvA C as σ H [.num (n : Int)]) (hn : n < 2 ^ 62) : EvI C (iRng1 as) σ H ((List.range n).map fun k => D.num (k : Nat)) [] := fun H1 s R q => h H1 s _ fun vs H2 s2 t => by
  obtain ⟨v, _, rfl, t1, t⟩ := tpa_cons t
  cases tpa_nil t; cases tp_num t1
  refine ⟨n, rfl, by omega, by omega, q _ H2 [] s2 (fun b hb => nomatch hb) ?_⟩
  have := src_rng (C := C) (H := H2) 0 n
  simp only [Int.zero_add] at this
  rw [Int.toNat_natCast]; exact this
theorem ei_rng2 {i j : Int} (h : EvA C as σ H [.num i, .num j]) (h1 : -(2 ^ 62) ≤ i) (h2 : i < 2 ^ 62) (h3 : -(2 ^ 62) ≤ j) (h4 : j < 2 ^ 62) : EvI C (iRng2 as) σ H ((List.range (j - i).toNat).map fun k => D.num (i + (k : Nat))) [] := fun H1 s R q => h H1 s _ fun vs H2 s2 t => by
  obtain ⟨v, _, rfl, t1, t⟩ := tpa_cons t
  obtain ⟨v, _, rfl, t2, t⟩ := tpa_cons t
  cases tpa_nil t; cases tp_num t1; cases tp_num t2
  exact ⟨i, j, rfl, ⟨h1, h2, h3, h4⟩, q _ H2 [] s2 (fun b hb => nomatch hb) (src_rng i _)⟩
end
/-! ### loops -/
section
variable {C : Addr} {K : PySem.W.Frag} {wi : TI} {te : TE} {tt : TT} {g : TG} {tb : TS} {Ds : Ends} {σ : L2.St} {H : Hp} {ds : List D} {Fk : List Addr}
theorem st_for (h : EvI C wi σ H ds Fk) (J : Hp → Nat → L2.St → Hp → Prop) (h0 : ∀ H1, Same H H1 → J H1 0 σ H1)
    (hst : ∀ H1 i σ' H', Same H H1 → J H1 i σ' H' → Stay H1 H' ∧ ∀ b o, (H b = none ∨ b ∈ Fk) → H1 b = some o → H' b = some o)
    (hs : ∀ H1 i d x σ' H', Same H H1 → ds[i]? = some d → J H1 i σ' H' → Tp C H' x d → ∃ σ2, GB g σ' H' x σ2 ∧ tb { Ds with nx := J H1 (i + 1), ct := J H1 (i + 1), bk := Ds.nx } σ2 H')
    (hd : ∀ H1 σ' H', Same H H1 → J H1 ds.length σ' H' → Ds.nx σ' H') : tFor wi g tb Ds σ H := by
  refine h H (Same.refl _) _ fun It H1 F s hF S => ?_
  have fr : ∀ i σ' H', J H1 i σ' H' → ∀ b ∈ F, ∀ o, H1 b = some o → H' b = some o := fun i σ' H' j b hb o e => (hst H1 i σ' H' s j).2 b o (hF b hb) e
  refine for_any (n := ds.length) (J H1) (h0 H1 s) (fun i σ' H' hi j => S.go i H' (hst H1 i σ' H' s j).1 (fr i σ' H' j) hi) (fun σ' H' j => S.stop H' (hst H1 _ σ' H' s j).1 (fr _ σ' H' j)) ?_ (fun σ' H' j => hd H1 σ' H' s j)
  intro i x σ' H' H'' hi j y
  obtain ⟨rfl, d, e1, e2⟩ := S.yld i x H' H'' (hst H1 i σ' H' s j).1 (fr i σ' H' j) hi y
  obtain ⟨σ2, g2, b2⟩ := hs H1 i d x σ' H'' s e1 j e2
  exact g2 _ b2
/-- [e for x in .. if t], e and t only read: keep gives what an item gives, if it is kept -/
theorem evl_lc {vs : List Nat} (h : EvI C wi σ H ds Fk) (keep : D → Option D)
    (hb : ∀ d x H', d ∈ ds → Same H H' → Tp C H' x d → ∃ σ2, GB g (wipe σ vs) H' x σ2 ∧ wipe σ2 vs = wipe σ vs ∧ EvT tt σ2 H' (keep d).isSome ∧ ∀ e, keep d = some e → EvD C te σ2 H' e)
    (hl : ds.length ≤ sizeLine) : EvL C (tLc wi g tt te vs) σ H (ds.filterMap keep) := fun H1 s Q q => by
  refine h H1 s _ fun It H2 F s2 hF S => fun Dd hD => ?_
  have hmem : ∀ i d, ds[i]? = some d → d ∈ ds := fun i d e => List.mem_of_getElem? e
  refine ⟨fun i m H' => m = ds.length - i ∧ i ≤ ds.length ∧ Same H2 H' ∧ ∃ vs', H' Dd = some (.lst vs') ∧ TpA C H' vs' ((ds.take i).filterMap keep), ⟨ds.length, rfl, Nat.zero_le _, Same.new hD, [], upd_same, .nil⟩, ?_⟩
  rintro i m H' ⟨rfl, hi, sm, vs', e, t⟩
  have st : Stay H2 H' := Same.stay sm
  have fr : ∀ b ∈ F, ∀ o, H2 b = some o → H' b = some o := fun b _ o e => sm b o e
  by_cases hlt : i < ds.length
  · refine .inr ⟨S.go i H' st fr hlt, fun H3 => Same H2 H3 ∧ ∃ vs', H3 Dd = some (.lst vs') ∧ TpA C H3 vs' ((ds.take (i + 1)).filterMap keep), fun H3 q3 => ⟨_, by omega, rfl, hlt, q3⟩, ?_⟩
    intro x H3 y
    obtain ⟨rfl, d, e1, e2⟩ := S.yld i x H' H3 st fr hlt y
    obtain ⟨σ2, g2, w2, ht, he⟩ := hb d x H3 (hmem i d e1) (Same.trans s (Same.trans s2 sm)) e2
    have tk : (ds.take (i + 1)).filterMap keep = (ds.take i).filterMap keep ++ (keep d).toList := by
      rw [List.take_add_one, e1, List.filterMap_append]
      cases hk : keep d <;> simp [hk]
    refine g2 _ ⟨w2, ht H3 (Same.refl _) _ fun H4 s4 => ?_⟩
    cases hk : keep d with
    | none =>
      refine iteF ⟨Same.trans sm s4, vs', s4 _ _ e, ?_⟩
      rw [tk, hk]
      simpa using t.same s4
    | some z =>
      refine iteT (he z hk H4 s4 _ fun v H5 s5 t5 => ?_)
      have ll : vs'.length ≤ i := by
        rw [t.length]
        exact Nat.le_trans (List.length_filterMap_le _ _) (by rw [List.length_take]; omega)
      have s45 := Same.trans s4 s5
      refine ⟨vs', s45 _ _ e, by omega, Same.put (Same.trans sm s45) hD, _, upd_same, ?_⟩
      rw [tk, hk]
      have stp : Stay H5 (upd H5 Dd (.lst (vs' ++ [v]))) := But.stay (p := Dd) but_up (notImm_lst (s45 _ _ e))
      exact ((t.same s45).stay stp).append (.cons (t5.stay stp) .nil)
  · have : i = ds.length := by omega
    subst this
    refine .inl ⟨S.stop H' st fr, ?_⟩
    rw [List.take_length] at t
    exact q Dd vs' H' (Same.trans s2 sm) (s2.free hD) e t
end
end Y

set_option Elab.async false
set_option linter.all false
set_option maxRecDepth 100000
set_option maxHeartbeats 4000000
/-! Promises by an index; isinstance; sums, all; numbers that are wide. -/
namespace Y
open PySem PySem.Spec PyProof.Rows L2
/-- a def that only reads: at i the arguments are args i, and it comes to res i -/
def fnSp (C : Addr) {ι : Type} (args : ι → List D) (pre : ι → Prop) (res : ι → D) : Sp := fun vs H Q _ => ∃ i, TpA C H vs (args i) ∧ pre i ∧ ∀ v H', Same H H' → Tp C H' v (res i) → Q v H'
def fnSpL (C : Addr) {ι : Type} (args : ι → List D) (pre : ι → Prop) (res : ι → List D) : Sp := fun vs H Q _ => ∃ i, TpA C H vs (args i) ∧ pre i ∧ ∀ a vs' H', Same H H' → H a = none → H' a = some (.lst vs') → TpA C H' vs' (res i) → Q (.ref a) H'
section
variable {C : Addr} {K : PySem.W.Frag} {as : TA} {ta tb tl : TE} {σ : L2.St} {H : Hp} {ds : List D} {ι : Type} {args : ι → List D} {pre : ι → Prop} {i j : Int} {b : Bool}
theorem ev_fn {res : ι → D} (i : ι) (ha : EvA C as σ H ds) (e : ds = args i) (hp : pre i) : EvD C (tCall (fnSp C args pre res) [] E0 as) σ H (res i) := fun H1 s Q q =>
  ha H1 s _ fun vs H2 s2 t => ⟨i, by rw [List.append_nil, ← e]; exact t, hp, fun v H3 s3 t3 => q v H3 (Same.trans s2 s3) t3⟩
theorem evl_fn {res : ι → List D} (i : ι) (ha : EvA C as σ H ds) (e : ds = args i) (hp : pre i) : EvL C (tCall (fnSpL C args pre res) [] E0 as) σ H (res i) := fun H1 s Q q =>
  ha H1 s _ fun vs H2 s2 t => ⟨i, by rw [List.append_nil, ← e]; exact t, hp, fun a vs' H3 s3 hn h3 t3 => q a vs' H3 (Same.trans s2 s3) (s2.free hn) h3 t3⟩
/-- isinstance -/
theorem ev_isiI {c : String} (ha : EvD C ta σ H (.num i)) (e : kitB "int" c = some b) : EvD C (tCB (rIsi K) (tCons ta (tCons (tC (.ty c)) tNil))) σ H (.bl b) := fun H1 s Q q =>
  ha H1 s _ fun v H2 s2 t2 => by
    cases tp_num t2
    exact ⟨_, _, _, _, b, rfl, .ty c, .base (.int i), kit_ty e, q _ H2 s2 (.bl _)⟩
theorem ev_isiT {c : String} (ha : EvD C ta σ H (.tup ds)) (e : kitB "tuple" c = some b) : EvD C (tCB (rIsi K) (tCons ta (tCons (tC (.ty c)) tNil))) σ H (.bl b) := fun H1 s Q q =>
  ha H1 s _ fun v H2 s2 t2 => by
    obtain ⟨a, xs, rfl, hx, r⟩ := tp_tup t2
    exact ⟨_, _, _, _, b, rfl, .ty c, .base (.tup hx), kit_ty e, q _ H2 s2 (.bl _)⟩
theorem ev_isiII (ha : EvD C ta σ H (.num i)) : EvD C (tCB (rIsi K) (tCons ta (tCons (tC (.ty "int")) tNil))) σ H (.bl true) := ev_isiI ha (by decide +kernel)
theorem ev_isiIB (ha : EvD C ta σ H (.num i)) : EvD C (tCB (rIsi K) (tCons ta (tCons (tC (.ty "bool")) tNil))) σ H (.bl false) := ev_isiI ha (by decide +kernel)
theorem ev_isiTT (ha : EvD C ta σ H (.tup ds)) : EvD C (tCB (rIsi K) (tCons ta (tCons (tC (.ty "tuple")) tNil))) σ H (.bl true) := ev_isiT ha (by decide +kernel)
def rIsC (C : Addr) : List V → Hp → VK → Prop := fun xs H Q => ∃ a dx fs, xs = [.ref a, .ref C] ∧ H a = some (.ins C dx fs) ∧ Q (.bl true) H
theorem call_isH {X : Cx} (c : C8.InsC X.K C) : CallR X (.builtin "isinstance") (rIsC C) := C8.call_isC c
theorem ev_isH {r : Int} {ds : List Door} (ha : EvD C ta σ H (.hs r ds)) : EvD C (tCB (rIsC C) (tCons ta (tCons (tC (.ref C)) tNil))) σ H (.bl true) := fun H1 s Q q =>
  ha H1 s _ fun v H2 s2 t2 => by
    obtain ⟨a, dx, b, xs, rfl, hx, _⟩ := tp_hs t2
    exact ⟨a, dx, _, rfl, hx, q _ H2 s2 (.bl _)⟩
/-- all, any, sum of a list of data -/
theorem bools_of : ∀ {vs : List V} {bs : List Bool}, TpA C H vs (bs.map D.bl) → vs = bs.map V.bl
  | _, [], t => tpa_nil t
  | _, b :: bs, t => by
    obtain ⟨v, r, rfl, t1, t2⟩ := tpa_cons t
    cases tp_bl t1
    rw [bools_of t2]; rfl
theorem nums_of : ∀ {vs : List V} {ns : List Int}, TpA C H vs (ns.map D.num) → vs = ns.map V.int
  | _, [], t => tpa_nil t
  | _, b :: bs, t => by
    obtain ⟨v, r, rfl, t1, t2⟩ := tpa_cons t
    cases tp_num t1
    rw [nums_of t2]; rfl
theorem of_nums (C : Addr) (H : Hp) : ∀ ns : List Int, TpA C H (ns.map V.int) (ns.map D.num)
  | [] => .nil
  | n :: ns => .cons (.num n) (of_nums C H ns)
theorem ev_all {bs : List Bool} (ha : EvL C tl σ H ds) (e : ds = bs.map D.bl) : EvD C (tCB (rAll K) (tCons tl tNil)) σ H (.bl (bs.all id)) := fun H1 s Q q =>
  ha H1 s _ fun a vs H2 s2 _ h2 t => by
    rw [e] at t
    exact ⟨a, bs, rfl, by rw [← bools_of t]; exact .inl (.inl h2), q _ H2 s2 (.bl _)⟩
theorem ev_sum {ns : List Int} (ha : EvL C tl σ H ds) (e : ds = ns.map D.num) : EvD C (tCB (rSum K) (tCons tl tNil)) σ H (.num ns.sum) := fun H1 s Q q =>
  ha H1 s _ fun a vs H2 s2 _ h2 t => by
    rw [e] at t
    exact ⟨a, ns, rfl, by rw [← nums_of t]; exact .inl (.inl h2), q _ H2 s2 (.num _)⟩
/-- sum of a tuple of numbers | a list that stands: the list's value is known -/
theorem ev_sumAt {a : Addr} {ns : List Int} (ha : EvV tl σ H (.ref a)) (h : H a = some (.lst (ns.map V.int))) : EvD C (tCB (rSum K) (tCons tl tNil)) σ H (.num ns.sum) := fun H1 s Q q =>
  ha H1 s _ fun H2 s2 => ⟨a, ns, rfl, .inl (.inl (s2 _ _ (s _ _ h))), q _ H2 s2 (.num _)⟩
/-- tuple(xs) of a new list -/
def rTupOf (K : PySem.W.Frag) : List V → Hp → VK → Prop := fun xs H Q => ∃ p ys, xs = [.ref p] ∧ ((SqL K H p ys ∧ ∀ l, H l = none → Q (.ref l) (upd H l (.tup ys))) ∨ (SqT K H p ys ∧ Q (.ref p) H))
theorem ev_tupOf (ha : EvL C tl σ H ds) : EvD C (tCB (rTupOf K) (tCons tl tNil)) σ H (.tup ds) := fun H1 s Q q =>
  ha H1 s _ fun a vs H2 s2 _ h2 t => ⟨a, vs, rfl, .inl ⟨.inl (.inl h2), fun l hl => q _ _ (Same.newer s2 hl) (.tup upd_same (t.same (Same.new hl)))⟩⟩
/-- e, a datum that is a number at hand -/
theorem EvD.num_at {te : TE} {d e : D} (h : EvD C te σ H d) (x : d = e) : EvD C te σ H e := x ▸ h
end
/-- two texts of one statement: an if without an else whose body never runs -/
theorem st_no {tt : TT} {t rest : TS} {Ds : Ends} {σ : L2.St} {H : Hp} (h : EvT tt σ H false) (k : ∀ H2, Same H H2 → rest Ds σ H2) : tSeq (tIfS tt t tNext) rest Ds σ H := h H (Same.refl _) _ fun H2 s => iteF (k H2 s)
theorem st_no1 {tt : TT} {t : TS} {Ds : Ends} {σ : L2.St} {H : Hp} (h : EvT tt σ H false) (k : ∀ H2, Same H H2 → Ds.nx σ H2) : tIfS tt t tNext Ds σ H := h H (Same.refl _) _ fun H2 s => iteF (k H2 s)
theorem st_ret' {C : Addr} {te : TE} {Ds : Ends} {σ : L2.St} {H : Hp} {d d' : D} (h : EvD C te σ H d) (e : d = d') (k : ∀ v H2, Same H H2 → Tp C H2 v d' → Ds.rt v H2) : tRet te Ds σ H := st_ret h fun v H2 s t => k v H2 s (e ▸ t)
theorem st_retL' {C : Addr} {te : TE} {Ds : Ends} {σ : L2.St} {H : Hp} {d d' : List D} (h : EvL C te σ H d) (e : d = d') (k : ∀ a vs H2, Same H H2 → H a = none → H2 a = some (.lst vs) → TpA C H2 vs d' → Ds.rt (.ref a) H2) : tRet te Ds σ H := st_retL h fun a vs H2 s hn h2 t => k a vs H2 s hn h2 (e ▸ t)
end Y

set_option Elab.async false
set_option linter.all false
set_option maxRecDepth 100000
set_option maxHeartbeats 4000000
/-! A list that grows; items by written places; doors and steps as data. -/
namespace Y
open PySem PySem.Spec PyProof.Rows L2
section
variable {C : Addr} {K : PySem.W.Frag} {ta tb : TE} {σ : L2.St} {H H0 H1 H' H2 : Hp} {p : Addr} {vs : List V} {ds : List D} {d : D} {v : V} {i : Int}
/-- the list at p has grown to ds, all else stands as in H1 -/
def Gr (C p : Addr) (H1 H' : Hp) (vs : List V) (ds : List D) : Prop := But p H1 H' ∧ H' p = some (.lst vs) ∧ TpA C H' vs ds
theorem Gr.new (h : H p = none) : Gr C p (upd H p (.lst [])) (upd H p (.lst [])) [] [] := ⟨But.refl _ _, upd_same, .nil⟩
theorem Gr.start (h : H1 p = some (.lst vs)) (t : TpA C H1 vs ds) : Gr C p H1 H1 vs ds := ⟨But.refl _ _, h, t⟩
theorem Gr.app (g : Gr C p H1 H' vs ds) (s : Same H' H2) (t : Tp C H2 v d) : Gr C p H1 (upd H2 p (.lst (vs ++ [v]))) (vs ++ [v]) (ds ++ [d]) := by
  obtain ⟨b, e, r⟩ := g
  have st : Stay H2 (upd H2 p (.lst (vs ++ [v]))) := But.stay (p := p) but_up (notImm_lst (s _ _ e))
  exact ⟨but_set (But.trans b (Same.but s)), upd_same, ((r.same s).stay st).append (.cons (t.stay st) .nil)⟩
theorem Gr.stay {l : List V} (g : Gr C p H1 H' vs ds) (h1 : H1 p = some (.lst l)) : Stay H1 H' := But.stay g.1 (notImm_lst h1)
theorem Gr.same (g : Gr C p H1 H' vs ds) (s : Same H' H2) : Gr C p H1 H2 vs ds := ⟨But.trans g.1 (Same.but s), s _ _ g.2.1, g.2.2.same s⟩
theorem Gr.len (g : Gr C p H1 H' vs ds) : vs.length = ds.length := g.2.2.length
/-- seen from ahead of the list's making -/
theorem Gr.back (g : Gr C p H1 H' vs ds) (s : Same H H1) (n : H p = none) : Same H H' := fun b o e => g.1 b o (ne_of_none e n) (s b o e)
theorem Gr.re (g : Gr C p H1 H' vs ds) (b : But p H0 H1) : Gr C p H0 H' vs ds := ⟨But.trans b g.1, g.2⟩
/-- what loops ask: the tuples stay, and all but p -/
theorem Gr.keeps {l : List V} {Fk : List Addr} (g : Gr C p H1 H' vs ds) (h1 : H1 p = some (.lst l)) (hp : H p ≠ none) (hf : p ∉ Fk) : Stay H1 H' ∧ ∀ b o, (H b = none ∨ b ∈ Fk) → H1 b = some o → H' b = some o :=
  ⟨g.stay h1, fun b o hb e => g.1 b o (fun z => by subst z; rcases hb with hb | hb; exact hp hb; exact hf hb) e⟩
theorem ev_ixi {n : Nat} (ha : EvD C ta σ H (.tup ds)) (hb : EvD C tb σ H (.num i)) (e : i = (n : Int)) (hd : ds[n]? = some d) : EvD C (tOp (rIxT K) ta tb) σ H d := ev_ixT (n := n) ha (e ▸ hb) hd
theorem ev_ix0 (ha : EvD C ta σ H (.tup ds)) (hb : EvD C tb σ H (.num 0)) (hd : ds[0]? = some d) : EvD C (tOp (rIxT K) ta tb) σ H d := ev_ixi (n := 0) ha hb rfl hd
theorem ev_ix1 (ha : EvD C ta σ H (.tup ds)) (hb : EvD C tb σ H (.num 1)) (hd : ds[1]? = some d) : EvD C (tOp (rIxT K) ta tb) σ H d := ev_ixi (n := 1) ha hb rfl hd
theorem ev_ix2 (ha : EvD C ta σ H (.tup ds)) (hb : EvD C tb σ H (.num 2)) (hd : ds[2]? = some d) : EvD C (tOp (rIxT K) ta tb) σ H d := ev_ixi (n := 2) ha hb rfl hd
theorem ev_ix3 (ha : EvD C ta σ H (.tup ds)) (hb : EvD C tb σ H (.num 3)) (hd : ds[3]? = some d) : EvD C (tOp (rIxT K) ta tb) σ H d := ev_ixi (n := 3) ha hb rfl hd
end
theorem rng_item {n i : Nat} {d : D} (h : ((List.range n).map fun k => D.num ((k : Nat) : Int))[i]? = some d) : i < n ∧ d = .num (i : Int) := by
  rw [List.getElem?_map] at h
  obtain ⟨k, hk, rfl⟩ := Option.map_eq_some_iff.mp h
  obtain ⟨h1, h2⟩ := List.getElem?_eq_some_iff.mp hk
  rw [List.length_range] at h1
  rw [List.getElem_range] at h2
  subst h2; exact ⟨h1, rfl⟩
theorem rng_item2 {lo : Int} {n i : Nat} {d : D} (h : ((List.range n).map fun k => D.num (lo + ((k : Nat) : Int)))[i]? = some d) : i < n ∧ d = .num (lo + (i : Int)) := by
  rw [List.getElem?_map] at h
  obtain ⟨k, hk, rfl⟩ := Option.map_eq_some_iff.mp h
  obtain ⟨h1, h2⟩ := List.getElem?_eq_some_iff.mp hk
  rw [List.length_range] at h1
  rw [List.getElem_range] at h2
  subst h2; exact ⟨h1, rfl⟩
theorem map_item {α : Type} {f : α → D} {l : List α} {i : Nat} {d : D} (h : (l.map f)[i]? = some d) : ∃ x, l[i]? = some x ∧ d = f x := by
  rw [List.getElem?_map] at h
  obtain ⟨k, hk, rfl⟩ := Option.map_eq_some_iff.mp h
  exact ⟨k, hk, rfl⟩
/-- a pass as a datum -/
def stepD (s : Nat × Nat) : D := .tup [.num (s.1 : Int), .num (s.2 : Int)]
def lastD : Option (Nat × Nat) → D
  | none => .non
  | some s => stepD s
theorem isNon_last (l : Option (Nat × Nat)) : isNon (lastD l) = l.isNone := by cases l <;> rfl
theorem eqv_step (a b : Nat × Nat) : PyData.eqv (py (stepD a)) (py (stepD b)) = decide (a = b) := by
  obtain ⟨a1, a2⟩ := a
  obtain ⟨b1, b2⟩ := b
  simp only [stepD, py, pyA]
  have h : PyData.eqv (.tuple [.int a1, .int a2]) (.tuple [.int b1, .int b2]) = (((a1 : Int) == (b1 : Int)) && (((a2 : Int) == (b2 : Int)) && true)) := rfl
  rw [h]
  have e1 : ((a1 : Int) = (b1 : Int)) ↔ a1 = b1 := Int.ofNat_inj
  have e2 : ((a2 : Int) = (b2 : Int)) ↔ a2 = b2 := Int.ofNat_inj
  by_cases h1 : a1 = b1 <;> by_cases h2 : a2 = b2 <;> simp [h1, h2, e1, e2]
theorem small_len {n m : Nat} (h : n ≤ m) (hm : m ≤ 16777216) : n ≤ sizeLine := by rw [sizeLine_eq]; omega
theorem small_lt {n m : Nat} (h : n < m) (hm : m ≤ 16777216) : n < sizeLine := by rw [sizeLine_eq]; omega
end Y

/-! Sums over lists, assoc lists with sums: plain mathematics. -/
namespace MS
/-- the sum of f over a list -/
def ls {α : Type} (l : List α) (f : α → Int) : Int := (l.map f).sum
section
variable {α β : Type}
@[simp] theorem ls_nil (f : α → Int) : ls [] f = 0 := rfl
@[simp] theorem ls_cons (a : α) (l : List α) (f : α → Int) : ls (a :: l) f = f a + ls l f := by simp [ls]
@[simp] theorem ls_append (l r : List α) (f : α → Int) : ls (l ++ r) f = ls l f + ls r f := by simp [ls, List.sum_append]
theorem ls_congr {l : List α} {f g : α → Int} (h : ∀ a ∈ l, f a = g a) : ls l f = ls l g := by
  unfold ls; rw [List.map_congr_left h]
theorem ls_add (l : List α) (f g : α → Int) : ls l (fun a => f a + g a) = ls l f + ls l g := by
  induction l with
  | nil => rfl
  | cons a l ih => simp only [ls_cons, ih]; omega
theorem ls_sub (l : List α) (f g : α → Int) : ls l (fun a => f a - g a) = ls l f - ls l g := by
  induction l with
  | nil => rfl
  | cons a l ih => simp only [ls_cons, ih]; omega
theorem ls_mul (l : List α) (c : Int) (f : α → Int) : ls l (fun a => c * f a) = c * ls l f := by
  induction l with
  | nil => simp
  | cons a l ih => simp only [ls_cons, ih, Int.mul_add]
theorem ls_mulr (l : List α) (c : Int) (f : α → Int) : ls l (fun a => f a * c) = ls l f * c := by
  induction l with
  | nil => simp
  | cons a l ih => simp only [ls_cons, ih, Int.add_mul]
theorem ls_zero (l : List α) : ls l (fun _ => 0) = 0 := by
  induction l with
  | nil => rfl
  | cons a l ih => simp only [ls_cons, ih]; rfl
theorem ls_zero' {l : List α} {f : α → Int} (h : ∀ a ∈ l, f a = 0) : ls l f = 0 := by rw [ls_congr h, ls_zero]
theorem ls_flatMap (l : List α) (h : α → List β) (f : β → Int) : ls (l.flatMap h) f = ls l fun a => ls (h a) f := by
  induction l with
  | nil => rfl
  | cons a l ih => simp only [List.flatMap_cons, ls_append, ls_cons, ih]
theorem ls_map (l : List α) (h : α → β) (f : β → Int) : ls (l.map h) f = ls l fun a => f (h a) := by
  simp [ls, List.map_map, Function.comp_def]
theorem ls_swap (l : List α) (m : List β) (f : α → β → Int) : ls l (fun a => ls m (f a)) = ls m fun b => ls l fun a => f a b := by
  induction l with
  | nil => simp [ls_zero]
  | cons a l ih => simp only [ls_cons, ih, ls_add]
theorem ls_filter (l : List α) (p : α → Bool) (f : α → Int) : ls (l.filter p) f = ls l fun a => if p a then f a else 0 := by
  induction l with
  | nil => rfl
  | cons a l ih =>
    by_cases h : p a = true
    · simp [h, ih]
    · simp [h, ih]
theorem ls_le {l : List α} {f g : α → Int} (h : ∀ a ∈ l, f a ≤ g a) : ls l f ≤ ls l g := by
  induction l with
  | nil => simp
  | cons a l ih =>
    have := h a (by simp)
    have := ih fun b hb => h b (by simp [hb])
    simp only [ls_cons]; omega
theorem ls_nonneg {l : List α} {f : α → Int} (h : ∀ a ∈ l, 0 ≤ f a) : 0 ≤ ls l f := by
  have := ls_le (f := fun _ => 0) h
  rw [ls_zero] at this; exact this
/-- one of a list without doubles -/
theorem ls_one [DecidableEq α] {l : List α} (hn : l.Nodup) (a : α) (c : Int) : ls l (fun b => if b = a then c else 0) = if a ∈ l then c else 0 := by
  induction l with
  | nil => simp
  | cons b l ih =>
    rw [List.nodup_cons] at hn
    rw [ls_cons, ih hn.2]
    by_cases h : b = a
    · subst h
      simp [hn.1]
    · have : ¬ a = b := fun e => h e.symm
      simp [h, this]
/-- if f ≤ g everywhere and the sums are equal, then f = g everywhere -/
theorem ls_eq_of_le {l : List α} {f g : α → Int} (h : ∀ a ∈ l, f a ≤ g a) (e : ls l f = ls l g) : ∀ a ∈ l, f a = g a := by
  induction l with
  | nil => simp
  | cons b l ih =>
    have h1 := h b (by simp)
    have h2 := ls_le (l := l) (f := f) (g := g) fun c hc => h c (by simp [hc])
    simp only [ls_cons] at e
    intro a ha
    rcases List.mem_cons.mp ha with rfl | ha
    · omega
    · exact ih (fun c hc => h c (by simp [hc])) (by omega) a ha
end

/-! ### assoc lists -/
section
variable {κ : Type} [DecidableEq κ]
def look (m : List (κ × Int)) (k : κ) : Option Int := (m.find? fun p => decide (p.1 = k)).map (·.2)
def put (m : List (κ × Int)) (k : κ) (v : Int) : List (κ × Int) :=
  if m.any (fun p => decide (p.1 = k)) then m.map (fun p => if p.1 = k then (p.1, v) else p) else m ++ [(k, v)]
def add (m : List (κ × Int)) (k : κ) (n : Int) : List (κ × Int) := if 0 < n then put m k ((look m k).getD 0 + n) else m
def adds (m : List (κ × Int)) (is : List (κ × Int)) : List (κ × Int) := is.foldl (fun m p => add m p.1 p.2) m
def ws (g : κ → Int) (m : List (κ × Int)) : Int := ls m fun p => p.2 * g p.1
def Nd (m : List (κ × Int)) : Prop := (m.map (·.1)).Nodup
def Pos (m : List (κ × Int)) : Prop := ∀ p ∈ m, 0 < p.2

theorem look_none {m : List (κ × Int)} {k : κ} (h : look m k = none) : ∀ p ∈ m, p.1 ≠ k := by
  intro p hp e
  unfold look at h
  rw [Option.map_eq_none_iff, List.find?_eq_none] at h
  exact h p hp (by simp [e])
theorem look_some {m : List (κ × Int)} {k : κ} {v : Int} (h : look m k = some v) : (k, v) ∈ m := by
  unfold look at h
  obtain ⟨p, h1, h2⟩ := Option.map_eq_some_iff.mp h
  have := List.find?_some h1
  have e : p.1 = k := by simpa using this
  have hm := List.mem_of_find?_eq_some h1
  rw [← e, ← h2]; exact hm
theorem any_iff {m : List (κ × Int)} {k : κ} : m.any (fun p => decide (p.1 = k)) = true ↔ k ∈ m.map (·.1) := by
  simp
theorem keys_put (m : List (κ × Int)) (k : κ) (v : Int) : (put m k v).map (·.1) = if k ∈ m.map (·.1) then m.map (·.1) else m.map (·.1) ++ [k] := by
  unfold put
  by_cases h : k ∈ m.map (·.1)
  · rw [if_pos (any_iff.mpr h), if_pos h, List.map_map]
    apply List.map_congr_left
    intro p _
    by_cases e : p.1 = k <;> simp [e]
  · rw [if_neg (fun q => h (any_iff.mp q)), if_neg h]; simp
theorem nd_put {m : List (κ × Int)} (h : Nd m) (k : κ) (v : Int) : Nd (put m k v) := by
  unfold Nd
  rw [keys_put]
  split
  · exact h
  · rename_i hk
    rw [List.nodup_append]
    refine ⟨h, by simp, ?_⟩
    intro a ha b hb
    simp at hb
    subst hb
    intro e; subst e; exact hk ha
theorem nd_add {m : List (κ × Int)} (h : Nd m) (k : κ) (n : Int) : Nd (add m k n) := by
  unfold add; split
  · exact nd_put h _ _
  · exact h
theorem nd_adds (is : List (κ × Int)) : ∀ {m : List (κ × Int)}, Nd m → Nd (adds m is) := by
  induction is with
  | nil => intro m h; exact h
  | cons p is ih => intro m h; exact ih (nd_add h _ _)
theorem mem_put {m : List (κ × Int)} {k : κ} {v : Int} {p : κ × Int} (h : p ∈ put m k v) : p = (k, v) ∨ p ∈ m := by
  unfold put at h
  split at h
  · obtain ⟨q, hq, rfl⟩ := List.mem_map.mp h
    by_cases e : q.1 = k
    · rw [if_pos e, e]; exact .inl rfl
    · rw [if_neg e]; exact .inr hq
  · rcases List.mem_append.mp h with h | h
    · exact .inr h
    · exact .inl (by simpa using h)
theorem pos_add {m : List (κ × Int)} (h : Pos m) (k : κ) (n : Int) : Pos (add m k n) := by
  unfold add
  split
  · rename_i hn
    intro p hp
    rcases mem_put hp with rfl | hp
    · show 0 < (look m k).getD 0 + n
      cases e : look m k with
      | none => simpa using hn
      | some v =>
        have := h _ (look_some e)
        simp only [Option.getD_some]
        have : (0:Int) < v := this
        omega
    · exact h p hp
  · exact h
theorem pos_adds (is : List (κ × Int)) : ∀ {m : List (κ × Int)}, Pos m → Pos (adds m is) := by
  induction is with
  | nil => intro m h; exact h
  | cons p is ih => intro m h; exact ih (pos_add h _ _)
/-- a property of all keys -/
theorem key_put {P : κ → Prop} {m : List (κ × Int)} (h : ∀ p ∈ m, P p.1) {k : κ} (hk : P k) (v : Int) : ∀ p ∈ put m k v, P p.1 := by
  intro p hp
  rcases mem_put hp with rfl | hp
  · exact hk
  · exact h p hp
theorem key_adds {P : κ → Prop} (is : List (κ × Int)) (hi : ∀ p ∈ is, P p.1) : ∀ {m : List (κ × Int)}, (∀ p ∈ m, P p.1) → ∀ p ∈ adds m is, P p.1 := by
  induction is with
  | nil => intro m h; exact h
  | cons q is ih =>
    intro m h
    refine ih (fun p hp => hi p (by simp [hp])) ?_
    show ∀ p ∈ add m q.1 q.2, P p.1
    unfold add
    split
    · exact key_put h (hi q (by simp)) _
    · exact h
theorem ws_map_old {m : List (κ × Int)} (g : κ → Int) (k : κ) (n : Int) (hn : Nd m) {v : Int} (hk : (k, v) ∈ m) :
    ws g (m.map fun p => if p.1 = k then (p.1, v + n) else p) = ws g m + n * g k := by
  induction m with
  | nil => simp at hk
  | cons q m ih =>
    have hn' : q.1 ∉ m.map (·.1) ∧ Nd m := by
      have : (q.1 :: m.map (·.1)).Nodup := hn
      rw [List.nodup_cons] at this
      exact this
    rw [List.map_cons]
    unfold ws at ih ⊢
    rw [ls_cons, ls_cons]
    by_cases e : q.1 = k
    · have hkm : ∀ w, (k, w) ∉ m := fun w hw => hn'.1 (List.mem_map.mpr ⟨(k, w), hw, e.symm⟩)
      have hq : (k, v) = q := by
        rcases List.mem_cons.mp hk with h | h
        · exact h
        · exact absurd h (hkm v)
      have hm : (m.map fun p => if p.1 = k then (p.1, v + n) else p) = m := by
        conv => rhs; rw [← List.map_id m]
        apply List.map_congr_left
        intro p hp
        have : ¬ p.1 = k := fun z => hkm p.2 (by rw [← z]; exact hp)
        rw [if_neg this]; rfl
      rw [hm, if_pos e, ← hq]
      show (v + n) * g k + _ = v * g k + _ + n * g k
      rw [Int.add_mul]; omega
    · rcases List.mem_cons.mp hk with h | h
      · exact absurd (by rw [← h]) e
      · rw [ih hn'.2 h, if_neg e]; omega
theorem ws_add (g : κ → Int) {m : List (κ × Int)} (hn : Nd m) (k : κ) {n : Int} (h0 : 0 ≤ n) : ws g (add m k n) = ws g m + n * g k := by
  unfold add
  split
  · unfold put
    cases e : look m k with
    | none =>
      have hk : ¬ m.any (fun p => decide (p.1 = k)) = true := by
        rw [any_iff]
        intro q
        obtain ⟨p, hp, e2⟩ := List.mem_map.mp q
        exact look_none e p hp e2
      rw [if_neg hk]
      simp [ws]
    | some v =>
      have hm := look_some e
      rw [if_pos (any_iff.mpr (List.mem_map.mpr ⟨_, hm, rfl⟩))]
      simp only [Option.getD_some]
      exact ws_map_old g k n hn hm
  · have : n = 0 := by omega
    subst this; simp
theorem ws_adds (g : κ → Int) (is : List (κ × Int)) (hi : ∀ p ∈ is, 0 ≤ p.2) : ∀ {m : List (κ × Int)}, Nd m → ws g (adds m is) = ws g m + ls is fun p => p.2 * g p.1 := by
  induction is with
  | nil => intro m _; simp [adds]
  | cons q is ih =>
    intro m hn
    show ws g (adds (add m q.1 q.2) is) = _
    rw [ih (fun p hp => hi p (by simp [hp])) (nd_add hn _ _), ws_add g hn _ (hi q (by simp)), ls_cons]
    omega
theorem adds_append (m : List (κ × Int)) (a b : List (κ × Int)) : adds m (a ++ b) = adds (adds m a) b := by
  unfold adds; rw [List.foldl_append]
theorem len_put (m : List (κ × Int)) (k : κ) (v : Int) : (put m k v).length ≤ m.length + 1 := by
  unfold put; split <;> simp
theorem len_add (m : List (κ × Int)) (k : κ) (n : Int) : (add m k n).length ≤ m.length + 1 := by
  unfold add; split
  · exact len_put _ _ _
  · omega
theorem len_adds (is : List (κ × Int)) : ∀ m : List (κ × Int), (adds m is).length ≤ m.length + is.length := by
  induction is with
  | nil => intro m; simp [adds]
  | cons p is ih =>
    intro m
    have h1 := ih (add m p.1 p.2)
    have h2 := len_add m p.1 p.2
    show (adds (add m p.1 p.2) is).length ≤ _
    rw [List.length_cons]; omega
end
end MS

/-! Feet counted by still pulls and by classes: plain mathematics. -/
namespace MF
open MS
abbrev Door := Int × Int × Int × Int
abbrev Step := Nat × Nat
def gate (ds : List Door) (s : Step) : Door :=
  match ds.getD s.1 (0, 1, 0, 1) with
  | (n, f, r, g) => if s.2 = 0 then (n, f, r, g) else (r, g, n, f)
abbrev near (ds : List Door) (s : Step) : Int := (gate ds s).1
abbrev lv (ds : List Door) (s : Step) : Int := (gate ds s).2.1
abbrev far (ds : List Door) (s : Step) : Int := (gate ds s).2.2.1
abbrev ar (ds : List Door) (s : Step) : Int := (gate ds s).2.2.2
def turn (s : Step) : Step := (s.1, 1 - s.2)
def allSteps (ds : List Door) : List Step := (List.range ds.length).flatMap fun a => [(a, 0), (a, 1)]
def stepsOf (ds : List Door) (room : Int) : List Step := (allSteps ds).filter fun s => decide (near ds s = room)
def least (last : Option Step) (s : Step) : Int :=
  match last with
  | none => 0
  | some l => if s = turn l then 1 else 0
def beyond (ds : List Door) (room : Int) (last : Option Step) : List (Step × Int) := (stepsOf ds room).map fun s => (s, least last s)

structure Ok (rooms : Int) (ds : List Door) : Prop where
  pos : 1 ≤ rooms
  nn : ∀ d ∈ ds, d.2.1 ≠ 0 ∧ d.2.2.2 ≠ 0
  rm : ∀ d ∈ ds, 0 ≤ d.1 ∧ d.1 < rooms ∧ 0 ≤ d.2.2.1 ∧ d.2.2.1 < rooms

theorem mem_all {ds : List Door} {s : Step} : s ∈ allSteps ds ↔ s.1 < ds.length ∧ s.2 ≤ 1 := by
  unfold allSteps
  rw [List.mem_flatMap]
  constructor
  · rintro ⟨a, ha, hs⟩
    rw [List.mem_range] at ha
    simp at hs
    rcases hs with rfl | rfl <;> simp [ha]
  · rintro ⟨h1, h2⟩
    refine ⟨s.1, List.mem_range.mpr h1, ?_⟩
    have : s.2 = 0 ∨ s.2 = 1 := by omega
    obtain ⟨a, b⟩ := s
    rcases this with h | h <;> simp at h <;> subst h <;> simp
theorem nodup_all (ds : List Door) : (allSteps ds).Nodup := by
  unfold allSteps
  generalize ds.length = n
  induction n with
  | zero => simp
  | succ n ih =>
    rw [List.range_succ, List.flatMap_append, List.nodup_append]
    refine ⟨ih, by simp, ?_⟩
    intro a ha b hb e
    subst e
    rw [List.mem_flatMap] at ha
    obtain ⟨c, hc, h⟩ := ha
    rw [List.mem_range] at hc
    simp at h hb
    rcases h with rfl | rfl <;> simp at hb <;> omega
theorem turn_turn {s : Step} (h : s.2 ≤ 1) : turn (turn s) = s := by
  obtain ⟨a, b⟩ := s
  simp only [turn] at h ⊢
  have : 1 - (1 - b) = b := by omega
  rw [this]
theorem turn_mem {ds : List Door} {s : Step} (h : s ∈ allSteps ds) : turn s ∈ allSteps ds := by
  rw [mem_all] at h ⊢
  exact ⟨h.1, by simp [turn]⟩
theorem gate_turn {ds : List Door} {s : Step} (h : s.2 ≤ 1) : gate ds (turn s) = (far ds s, ar ds s, near ds s, lv ds s) := by
  obtain ⟨a, b⟩ := s
  have : b = 0 ∨ b = 1 := by simp at h; omega
  rcases this with rfl | rfl <;> simp [gate, turn, far, ar, near, lv]
theorem gate_door {ds : List Door} {s : Step} (h : s ∈ allSteps ds) : ∃ d ∈ ds, gate ds s = d ∨ gate ds s = (d.2.2.1, d.2.2.2, d.1, d.2.1) := by
  rw [mem_all] at h
  refine ⟨ds[s.1], List.getElem_mem _, ?_⟩
  have e : ds.getD s.1 (0, 1, 0, 1) = ds[s.1] := by simp [List.getD, h.1]
  unfold gate
  rw [e]
  by_cases h0 : s.2 = 0
  · left; simp [h0]
  · right; simp [h0]
theorem lv_ne {rooms : Int} {ds : List Door} (ok : Ok rooms ds) {s : Step} (h : s ∈ allSteps ds) : lv ds s ≠ 0 := by
  obtain ⟨d, hd, e | e⟩ := gate_door h
  · unfold lv; rw [e]; exact (ok.nn d hd).1
  · unfold lv; rw [e]; exact (ok.nn d hd).2
theorem ar_ne {rooms : Int} {ds : List Door} (ok : Ok rooms ds) {s : Step} (h : s ∈ allSteps ds) : ar ds s ≠ 0 := by
  obtain ⟨d, hd, e | e⟩ := gate_door h
  · unfold ar; rw [e]; exact (ok.nn d hd).2
  · unfold ar; rw [e]; exact (ok.nn d hd).1
theorem far_room {rooms : Int} {ds : List Door} (ok : Ok rooms ds) {s : Step} (h : s ∈ allSteps ds) : 0 ≤ far ds s ∧ far ds s < rooms := by
  obtain ⟨d, hd, e | e⟩ := gate_door h
  · unfold far; rw [e]; exact ⟨(ok.rm d hd).2.2.1, (ok.rm d hd).2.2.2⟩
  · unfold far; rw [e]; exact ⟨(ok.rm d hd).1, (ok.rm d hd).2.1⟩
theorem near_room {rooms : Int} {ds : List Door} (ok : Ok rooms ds) {s : Step} (h : s ∈ allSteps ds) : 0 ≤ near ds s ∧ near ds s < rooms := by
  obtain ⟨d, hd, e | e⟩ := gate_door h
  · unfold near; rw [e]; exact ⟨(ok.rm d hd).1, (ok.rm d hd).2.1⟩
  · unfold near; rw [e]; exact ⟨(ok.rm d hd).2.2.1, (ok.rm d hd).2.2.2⟩
theorem mem_stepsOf {ds : List Door} {room : Int} {s : Step} : s ∈ stepsOf ds room ↔ s ∈ allSteps ds ∧ near ds s = room := by
  unfold stepsOf; rw [List.mem_filter]; simp
theorem least_01 (last : Option Step) (s : Step) : least last s = 0 ∨ least last s = 1 := by
  unfold least
  cases last with
  | none => exact .inl rfl
  | some l => simp only; split <;> simp

/-! ### still feet -/
abbrev SKey := Int × Int × Option Step
def aux (b : Int) : Int := (b.natAbs : Int)
theorem aux_nn (b : Int) : 0 ≤ aux b := by unfold aux; omega
theorem aux_pos {b : Int} (h : b ≠ 0) : 1 ≤ aux b := by unfold aux; omega
def stillInc (ds : List Door) (k : SKey) (many : Int) : List (SKey × Int) :=
  (beyond ds k.1 k.2.2).flatMap fun q => if k.2.1.fmod (lv ds q.1) = 0 then [((far ds q.1, k.2.1.fdiv (lv ds q.1) * ar ds q.1, some q.1), many * (aux (lv ds q.1) - q.2))] else []
def stillOn (ds : List Door) (m : List (SKey × Int)) : List (SKey × Int) := adds [] (m.flatMap fun p => stillInc ds p.1 p.2)
def stillN (ds : List Door) : Nat → List (SKey × Int) → List (SKey × Int)
  | 0, m => m
  | n + 1, m => stillOn ds (stillN ds n m)
def still (ds : List Door) (room pulls : Int) (length : Nat) : Int := ls (stillN ds length [((room, pulls, none), 1)]) fun p => p.2
/-- what one state gives with a weight -/
def stT (ds : List Door) (g : SKey → Int) (k : SKey) : Int :=
  ls (stepsOf ds k.1) fun s => if lv ds s ∣ k.2.1 then (aux (lv ds s) - least k.2.2 s) * g (far ds s, k.2.1.fdiv (lv ds s) * ar ds s, some s) else 0
theorem fmod_zero {a b : Int} : a.fmod b = 0 ↔ b ∣ a := by
  rw [Int.dvd_iff_fmod_eq_zero]
theorem stillInc_sum (ds : List Door) (g : SKey → Int) (k : SKey) (many : Int) : (ls (stillInc ds k many) fun p => p.2 * g p.1) = many * stT ds g k := by
  unfold stillInc beyond stT
  rw [ls_flatMap, ls_map, ← ls_mul]
  apply ls_congr
  intro s _
  by_cases h : lv ds s ∣ k.2.1
  · simp only [fmod_zero, h, if_true, ls_cons, ls_nil]
    simp [Int.mul_assoc]
  · simp only [fmod_zero, h, if_false, ls_nil]
    simp
theorem stillInc_nn {rooms : Int} {ds : List Door} (ok : Ok rooms ds) (k : SKey) {many : Int} (hm : 0 ≤ many) : ∀ p ∈ stillInc ds k many, 0 ≤ p.2 := by
  intro p hp
  unfold stillInc beyond at hp
  rw [List.mem_flatMap] at hp
  obtain ⟨q, hq, hp⟩ := hp
  obtain ⟨s, hs, rfl⟩ := List.mem_map.mp hq
  split at hp
  · simp only [List.mem_singleton] at hp
    subst hp
    have := aux_pos (lv_ne ok (mem_stepsOf.mp hs).1)
    refine Int.mul_nonneg hm ?_
    rcases least_01 k.2.2 s with h | h <;> rw [h] <;> omega
  · simp at hp
theorem nd_stillOn (ds : List Door) (m : List (SKey × Int)) : Nd (stillOn ds m) := nd_adds _ (by simp [Nd])
theorem pos_stillOn (ds : List Door) (m : List (SKey × Int)) : Pos (stillOn ds m) := pos_adds _ (by intro p hp; simp at hp)
theorem ws_stillOn {rooms : Int} {ds : List Door} (ok : Ok rooms ds) (g : SKey → Int) {m : List (SKey × Int)} (hp : Pos m) : ws g (stillOn ds m) = ws (stT ds g) m := by
  unfold stillOn
  rw [ws_adds g _ ?_ (by simp [Nd])]
  · rw [ls_flatMap]
    unfold ws
    rw [ls_nil, Int.zero_add]
    apply ls_congr
    intro p _
    exact stillInc_sum ds g p.1 p.2
  · intro p h
    obtain ⟨q, hq, h⟩ := List.mem_flatMap.mp h
    exact stillInc_nn ok q.1 (by have := hp q hq; omega) p h
theorem pos_stillN {ds : List Door} {m : List (SKey × Int)} (hp : Pos m) : ∀ n, Pos (stillN ds n m)
  | 0 => hp
  | n + 1 => pos_stillOn ds _
/-- the number of still feet behind a state -/
def SF (ds : List Door) : Nat → SKey → Int
  | 0, _ => 1
  | r + 1, k => stT ds (SF ds r) k
theorem ws_stillN {rooms : Int} {ds : List Door} (ok : Ok rooms ds) {m : List (SKey × Int)} (hp : Pos m) : ∀ (n r : Nat), ws (SF ds r) (stillN ds n m) = ws (SF ds (r + n)) m
  | 0, _ => rfl
  | n + 1, r => by
    show ws (SF ds r) (stillOn ds (stillN ds n m)) = _
    rw [ws_stillOn ok _ (pos_stillN hp n)]
    have := ws_stillN ok hp n (r + 1)
    rw [show r + (n + 1) = r + 1 + n by omega, ← this]
    rfl
theorem pos_one (k : SKey) : Pos [(k, (1 : Int))] := by intro p hp; simp at hp; subst hp; exact Int.one_pos
theorem still_eq {rooms : Int} {ds : List Door} (ok : Ok rooms ds) (room pulls : Int) (n : Nat) : still ds room pulls n = SF ds n (room, pulls, none) := by
  have h := ws_stillN ok (pos_one (room, pulls, none)) n 0
  have e : ws (SF ds 0) (stillN ds n [((room, pulls, none), 1)]) = still ds room pulls n := by
    unfold ws still
    apply ls_congr
    intro p _
    show p.2 * 1 = p.2
    omega
  rw [← e, h]
  simp [ws]
/-- pulls back leave as many -/
theorem fdiv_of_dvd {a b : Int} (hb : b ≠ 0) (h : b ∣ a) : ∃ c, a = b * c ∧ a.fdiv b = c := by
  obtain ⟨c, rfl⟩ := h
  exact ⟨c, rfl, Int.mul_fdiv_cancel_left c hb⟩
theorem SF_neg {rooms : Int} {ds : List Door} (ok : Ok rooms ds) : ∀ (r : Nat) (room x : Int) (last : Option Step), SF ds r (room, -x, last) = SF ds r (room, x, last)
  | 0, _, _, _ => rfl
  | r + 1, room, x, last => by
    show stT ds (SF ds r) (room, -x, last) = stT ds (SF ds r) (room, x, last)
    unfold stT
    apply ls_congr
    intro s hs
    have hl := lv_ne ok (mem_stepsOf.mp hs).1
    simp only [Int.dvd_neg]
    by_cases h : lv ds s ∣ x
    · rw [if_pos h, if_pos h]
      obtain ⟨c, e, e1⟩ := fdiv_of_dvd hl h
      obtain ⟨c', e', e1'⟩ := fdiv_of_dvd hl ((Int.dvd_neg).mpr h)
      have hc : c' = -c := by
        have : lv ds s * c' = lv ds s * (-c) := by rw [← e', e, Int.mul_neg]
        exact Int.eq_of_mul_eq_mul_left hl this
      rw [e1, e1', hc, show -c * ar ds s = -(c * ar ds s) by rw [Int.neg_mul], SF_neg ok r]
    · rw [if_neg h, if_neg h]
theorem SF_abs {rooms : Int} {ds : List Door} (ok : Ok rooms ds) (r : Nat) (room : Int) {x y : Int} (last : Option Step) (h : x.natAbs = y.natAbs) : SF ds r (room, x, last) = SF ds r (room, y, last) := by
  have : x = y ∨ x = -y := by omega
  rcases this with rfl | rfl
  · rfl
  · exact SF_neg ok r room y last

/-! ### classes -/
abbrev CKey := Int × Int × Int × Option Step
def gcdI (a b : Int) : Int := ((Nat.gcd a.natAbs b.natAbs : Nat) : Int)
def clInc (ds : List Door) (k : CKey) (many : Int) : List (CKey × Int) :=
  (beyond ds k.1 k.2.2.2).map fun q =>
    let shared := gcdI k.2.1 (lv ds q.1)
    let whole := k.2.1.fdiv shared * aux (lv ds q.1)
    ((far ds q.1, whole.fdiv (aux (lv ds q.1)) * aux (ar ds q.1), (k.2.2.1 * whole).fdiv k.2.1, some q.1), many * (shared - q.2))
def clOn (ds : List Door) (m : List (CKey × Int)) : List (CKey × Int) := adds [] (m.flatMap fun p => clInc ds p.1 p.2)
def clN (ds : List Door) : Nat → List (CKey × Int) → List (CKey × Int)
  | 0, m => m
  | n + 1, m => clOn ds (clN ds n m)
/-- what holds of a class -/
def KOk (ds : List Door) (k : CKey) : Prop := 0 < k.2.1 ∧ 0 < k.2.2.1 ∧ ∀ l, k.2.2.2 = some l → l ∈ allSteps ds ∧ ar ds l ∣ k.2.1
/-- the next class over a step: pulls that stay p, these in the first room f -/
def nxP (ds : List Door) (p : Int) (s : Step) : Int := p / gcdI p (lv ds s) * aux (ar ds s)
def nxF (ds : List Door) (p f : Int) (s : Step) : Int := f * (aux (lv ds s) / gcdI p (lv ds s))
theorem gcdI_pos {a b : Int} (h : a ≠ 0) : 0 < gcdI a b := by
  unfold gcdI
  have : 0 < Nat.gcd a.natAbs b.natAbs := Nat.gcd_pos_of_pos_left _ (by omega)
  omega
theorem gcdI_left (a b : Int) : gcdI a b ∣ a := Int.gcd_dvd_left a b
theorem gcdI_right (a b : Int) : gcdI a b ∣ b := Int.gcd_dvd_right a b
theorem gcdI_aux (a b : Int) : gcdI a b ∣ aux b := by
  unfold aux
  rw [Int.dvd_natAbs]
  exact gcdI_right a b
theorem dvd_aux {a b : Int} : a ∣ aux b ↔ a ∣ b := by unfold aux; exact Int.dvd_natAbs
theorem aux_dvd {a b : Int} : aux a ∣ b ↔ a ∣ b := by unfold aux; exact Int.natAbs_dvd
theorem fdiv_pos_eq {a b : Int} (h : 0 ≤ b) : a.fdiv b = a / b := Int.fdiv_eq_ediv_of_nonneg a h
theorem cl_key {rooms : Int} {ds : List Door} (ok : Ok rooms ds) {k : CKey} (hk : KOk ds k) {s : Step} (hs : s ∈ allSteps ds) :
    (k.2.1.fdiv (gcdI k.2.1 (lv ds s)) * aux (lv ds s)).fdiv (aux (lv ds s)) * aux (ar ds s) = nxP ds k.2.1 s ∧
    (k.2.2.1 * (k.2.1.fdiv (gcdI k.2.1 (lv ds s)) * aux (lv ds s))).fdiv k.2.1 = nxF ds k.2.1 k.2.2.1 s := by
  obtain ⟨hp, hf, _⟩ := hk
  have hl := lv_ne ok hs
  have ha := aux_pos hl
  have hg := gcdI_pos (b := lv ds s) (show k.2.1 ≠ 0 by omega)
  obtain ⟨c, hc⟩ := gcdI_left k.2.1 (lv ds s)
  obtain ⟨d, hd⟩ := gcdI_aux k.2.1 (lv ds s)
  unfold nxP nxF
  generalize gcdI k.2.1 (lv ds s) = g at *
  generalize aux (lv ds s) = b at *
  generalize k.2.1 = p at *
  generalize k.2.2.1 = f at *
  have e1 : p.fdiv g = c := by rw [hc]; exact Int.mul_fdiv_cancel_left c (by omega)
  have e2 : p / g = c := by rw [hc]; exact Int.mul_ediv_cancel_left c (by omega)
  have e3 : b / g = d := by rw [hd]; exact Int.mul_ediv_cancel_left d (by omega)
  rw [e1, e2, e3]
  constructor
  · rw [Int.mul_fdiv_cancel _ (by omega)]
  · have : f * (c * b) = f * d * p := by
      rw [hc, hd]; grind
    rw [this, Int.mul_fdiv_cancel _ (by omega)]
theorem nx_ok {rooms : Int} {ds : List Door} (ok : Ok rooms ds) {k : CKey} (hk : KOk ds k) {s : Step} (hs : s ∈ allSteps ds) : KOk ds (far ds s, nxP ds k.2.1 s, nxF ds k.2.1 k.2.2.1 s, some s) := by
  obtain ⟨hp, hf, _⟩ := hk
  have ha := aux_pos (lv_ne ok hs)
  have ha2 := aux_pos (ar_ne ok hs)
  have hg := gcdI_pos (b := lv ds s) (show k.2.1 ≠ 0 by omega)
  refine ⟨?_, ?_, ?_⟩
  · show 0 < nxP ds k.2.1 s
    unfold nxP
    refine Int.mul_pos (Int.ediv_pos_of_pos_of_dvd hp (by omega) (gcdI_left _ _)) (by omega)
  · show 0 < nxF ds k.2.1 k.2.2.1 s
    unfold nxF
    exact Int.mul_pos hf (Int.ediv_pos_of_pos_of_dvd (by omega) (by omega) (gcdI_aux _ _))
  · intro l e
    have e : some s = some l := e
    cases e
    refine ⟨hs, ?_⟩
    show ar ds s ∣ nxP ds k.2.1 s
    unfold nxP
    exact Int.dvd_trans (dvd_aux.mpr (Int.dvd_refl _)) (Int.dvd_mul_left _ _)
/-- a class over a step with a weight -/
def clT (ds : List Door) (g : CKey → Int) (k : CKey) : Int :=
  ls (stepsOf ds k.1) fun s => (gcdI k.2.1 (lv ds s) - least k.2.2.2 s) * g (far ds s, nxP ds k.2.1 s, nxF ds k.2.1 k.2.2.1 s, some s)
theorem clInc_eq {rooms : Int} {ds : List Door} (ok : Ok rooms ds) {k : CKey} (hk : KOk ds k) (many : Int) :
    clInc ds k many = (stepsOf ds k.1).map fun s => ((far ds s, nxP ds k.2.1 s, nxF ds k.2.1 k.2.2.1 s, some s), many * (gcdI k.2.1 (lv ds s) - least k.2.2.2 s)) := by
  unfold clInc beyond
  rw [List.map_map]
  apply List.map_congr_left
  intro s hs
  obtain ⟨e1, e2⟩ := cl_key ok hk (mem_stepsOf.mp hs).1
  simp only [Function.comp_def, e1, e2]
theorem clInc_sum {rooms : Int} {ds : List Door} (ok : Ok rooms ds) (g : CKey → Int) {k : CKey} (hk : KOk ds k) (many : Int) : (ls (clInc ds k many) fun p => p.2 * g p.1) = many * clT ds g k := by
  rw [clInc_eq ok hk, ls_map]
  unfold clT
  rw [← ls_mul]
  apply ls_congr
  intro s _
  simp only [Int.mul_assoc]
theorem clInc_nn {rooms : Int} {ds : List Door} (ok : Ok rooms ds) {k : CKey} (hk : KOk ds k) {many : Int} (hm : 0 ≤ many) : ∀ p ∈ clInc ds k many, 0 ≤ p.2 := by
  rw [clInc_eq ok hk]
  intro p hp
  obtain ⟨s, hs, rfl⟩ := List.mem_map.mp hp
  have hg := gcdI_pos (b := lv ds s) (show k.2.1 ≠ 0 by have := hk.1; omega)
  refine Int.mul_nonneg hm ?_
  rcases least_01 k.2.2.2 s with h | h <;> rw [h] <;> omega
theorem clInc_ok {rooms : Int} {ds : List Door} (ok : Ok rooms ds) {k : CKey} (hk : KOk ds k) (many : Int) : ∀ p ∈ clInc ds k many, KOk ds p.1 := by
  rw [clInc_eq ok hk]
  intro p hp
  obtain ⟨s, hs, rfl⟩ := List.mem_map.mp hp
  exact nx_ok ok hk (mem_stepsOf.mp hs).1
def CD (ds : List Door) (m : List (CKey × Int)) : Prop := Pos m ∧ ∀ p ∈ m, KOk ds p.1
theorem cd_clOn {rooms : Int} {ds : List Door} (ok : Ok rooms ds) {m : List (CKey × Int)} (h : CD ds m) : CD ds (clOn ds m) := by
  refine ⟨pos_adds _ (by intro p hp; simp at hp), key_adds (P := KOk ds) _ ?_ (by intro p hp; simp at hp)⟩
  intro p hp
  obtain ⟨q, hq, hp⟩ := List.mem_flatMap.mp hp
  exact clInc_ok ok (h.2 q hq) _ p hp
theorem ws_clOn {rooms : Int} {ds : List Door} (ok : Ok rooms ds) (g : CKey → Int) {m : List (CKey × Int)} (h : CD ds m) : ws g (clOn ds m) = ws (clT ds g) m := by
  unfold clOn
  rw [ws_adds g _ ?_ (by simp [Nd])]
  · rw [ls_flatMap]
    unfold ws
    rw [ls_nil, Int.zero_add]
    apply ls_congr
    intro p hp
    exact clInc_sum ok g (h.2 p hp) p.2
  · intro p hp
    obtain ⟨q, hq, hp⟩ := List.mem_flatMap.mp hp
    exact clInc_nn ok (h.2 q hq) (by have := h.1 q hq; omega) p hp
theorem cd_clN {rooms : Int} {ds : List Door} (ok : Ok rooms ds) {m : List (CKey × Int)} (h : CD ds m) : ∀ n, CD ds (clN ds n m)
  | 0 => h
  | n + 1 => cd_clOn ok (cd_clN ok h n)
/-- a class weighs as many still feet behind it as it has members, where its pulls divide -/
def PH (ds : List Door) (n : Int) (r : Nat) (k : CKey) : Int := if k.2.2.1 ∣ n then k.2.2.1 * SF ds r (k.1, n / k.2.2.1 * k.2.1, k.2.2.2) else 0
theorem PH_step {rooms : Int} {ds : List Door} (ok : Ok rooms ds) (n : Int) (r : Nat) {k : CKey} (hk : KOk ds k) : PH ds n (r + 1) k = clT ds (PH ds n r) k := by
  obtain ⟨room, p, f, last⟩ := k
  obtain ⟨hp, hf, hlast⟩ := hk
  simp only at hp hf hlast
  unfold PH clT
  simp only
  by_cases hn : f ∣ n
  · rw [if_pos hn]
    show f * stT ds (SF ds r) (room, n / f * p, last) = _
    unfold stT
    simp only
    rw [← ls_mul]
    apply ls_congr
    intro s hs
    have hs1 := (mem_stepsOf.mp hs).1
    have hl := lv_ne ok hs1
    have hb := aux_pos hl
    have hg := gcdI_pos (b := lv ds s) (show p ≠ 0 by omega)
    -- f' divides n exactly if the leaving number divides the pulls
    obtain ⟨m, rfl⟩ := hn
    have em : f * m / f = m := Int.mul_ediv_cancel_left m (by omega)
    rw [em]
    obtain ⟨c, hc⟩ := gcdI_left p (lv ds s)
    obtain ⟨d, hd⟩ := gcdI_aux p (lv ds s)
    have ec : p / gcdI p (lv ds s) = c := by
      conv => lhs; lhs; rw [hc]
      exact Int.mul_ediv_cancel_left c (by omega)
    have ed : aux (lv ds s) / gcdI p (lv ds s) = d := by
      conv => lhs; lhs; rw [hd]
      exact Int.mul_ediv_cancel_left d (by omega)
    have hdpos : 0 < d := by
      have h1 : 0 < gcdI p (lv ds s) * d := by rw [← hd]; omega
      exact Int.pos_of_mul_pos_right h1 hg
    have hcpos : 0 < c := by
      have h1 : 0 < gcdI p (lv ds s) * c := by rw [← hc]; omega
      exact Int.pos_of_mul_pos_right h1 hg
    have iff : lv ds s ∣ m * p ↔ f * d ∣ f * m := by
      rw [Int.mul_dvd_mul_iff_left (show f ≠ 0 by omega), ← aux_dvd, hd]
      conv => lhs; rhs; rw [hc]
      rw [show m * (gcdI p (lv ds s) * c) = gcdI p (lv ds s) * (m * c) by grind, Int.mul_dvd_mul_iff_left (by omega)]
      constructor
      · intro h
        -- d and c have no common divisor
        have cop : Nat.Coprime d.natAbs c.natAbs := by
          have hg0 : 0 < Nat.gcd p.natAbs (lv ds s).natAbs := by unfold gcdI at hg; omega
          have h1 : p.natAbs = Nat.gcd p.natAbs (lv ds s).natAbs * c.natAbs := by
            have := congrArg Int.natAbs hc
            rw [Int.natAbs_mul] at this
            unfold gcdI at this
            simpa using this
          have h2 : (lv ds s).natAbs = Nat.gcd p.natAbs (lv ds s).natAbs * d.natAbs := by
            have := congrArg Int.natAbs hd
            rw [Int.natAbs_mul] at this
            unfold gcdI aux at this
            simpa using this
          have h3 : Nat.gcd p.natAbs (lv ds s).natAbs * Nat.gcd c.natAbs d.natAbs = Nat.gcd p.natAbs (lv ds s).natAbs := by
            rw [← Nat.gcd_mul_left, ← h1, ← h2]
          have h4 : Nat.gcd c.natAbs d.natAbs = 1 := Nat.eq_of_mul_eq_mul_left hg0 (by rw [h3, Nat.mul_one])
          exact (Nat.gcd_comm _ _).trans h4
        rw [← Int.natAbs_dvd_natAbs, Int.natAbs_mul] at h
        rw [← Int.natAbs_dvd_natAbs]
        exact cop.dvd_of_dvd_mul_right h
      · intro h
        exact Int.dvd_trans h (Int.dvd_mul_right _ _)
    unfold nxF nxP
    rw [ec, ed]
    by_cases hdiv : lv ds s ∣ m * p
    · rw [if_pos hdiv, if_pos (iff.mp hdiv)]
      have hdm : d ∣ m := (Int.mul_dvd_mul_iff_left (show f ≠ 0 by omega)).mp (iff.mp hdiv)
      obtain ⟨q, rfl⟩ := hdm
      have eq : f * (d * q) / (f * d) = q := by
        rw [← Int.mul_assoc]; exact Int.mul_ediv_cancel_left q (by have := Int.mul_pos hf hdpos; omega)
      rw [eq]
      obtain ⟨z, hz, hz2⟩ := fdiv_of_dvd hl hdiv
      rw [hz2]
      have same : SF ds r (far ds s, z * ar ds s, some s) = SF ds r (far ds s, q * (c * aux (ar ds s)), some s) := by
        apply SF_abs ok
        have h1 : (d * q * p).natAbs = (lv ds s * z).natAbs := by rw [hz]
        have h2 : (lv ds s).natAbs * z.natAbs = (lv ds s).natAbs * (q * c).natAbs := by
          rw [← Int.natAbs_mul, ← h1]
          have : d * q * p = aux (lv ds s) * (q * c) := by
            rw [hd]
            conv => lhs; rw [hc]
            grind
          rw [this, Int.natAbs_mul]
          unfold aux
          simp
        have h3 : z.natAbs = (q * c).natAbs := Nat.eq_of_mul_eq_mul_left (by omega) h2
        rw [Int.natAbs_mul, h3, ← Int.natAbs_mul, ← Int.mul_assoc, Int.natAbs_mul (q * c), Int.natAbs_mul (q * c)]
        unfold aux
        simp
      rw [same]
      -- the weights
      have wt : (aux (lv ds s) - least last s) * f = (gcdI p (lv ds s) - least last s) * (f * d) := by
        rcases least_01 last s with h0 | h1
        · rw [h0, hd]; grind
        · -- a pass back: its leaving number divides the pulls
          cases hlast' : last with
          | none => rw [hlast'] at h1; simp [least] at h1
          | some l =>
            rw [hlast'] at h1
            have est : s = turn l := by
              unfold least at h1
              by_cases e : s = turn l
              · exact e
              · simp [e] at h1
            obtain ⟨hl1, hl2⟩ := hlast l hlast'
            have e2 : lv ds s = ar ds l := by
              rw [est]
              unfold lv
              rw [gate_turn (mem_all.mp hl1).2]
            have hdv : lv ds s ∣ p := by rw [e2]; exact hl2
            have eg : gcdI p (lv ds s) = aux (lv ds s) := by
              unfold gcdI aux
              rw [Nat.gcd_eq_right (Int.natAbs_dvd_natAbs.mpr hdv)]
            have ed1 : d = 1 := by
              rw [← ed, eg]
              exact Int.ediv_self (by omega)
            rw [h1, eg, ed1]; grind
      generalize SF ds r (far ds s, q * (c * aux (ar ds s)), some s) = Z at *
      calc f * ((aux (lv ds s) - least last s) * Z) = ((aux (lv ds s) - least last s) * f) * Z := by grind
        _ = ((gcdI p (lv ds s) - least last s) * (f * d)) * Z := by rw [wt]
        _ = _ := by grind
    · rw [if_neg hdiv, if_neg (fun h => hdiv (iff.mpr h))]
      simp
  · rw [if_neg hn]
    symm
    apply ls_zero'
    intro s hs
    rw [if_neg, Int.mul_zero]
    intro h
    apply hn
    unfold nxF at h
    exact Int.dvd_trans (Int.dvd_mul_right _ _) h
theorem ws_clN {rooms : Int} {ds : List Door} (ok : Ok rooms ds) (n : Int) {m : List (CKey × Int)} (h : CD ds m) : ∀ (j r : Nat), ws (PH ds n r) (clN ds j m) = ws (PH ds n (r + j)) m
  | 0, _ => rfl
  | j + 1, r => by
    show ws (PH ds n r) (clOn ds (clN ds j m)) = _
    rw [ws_clOn ok _ (cd_clN ok h j)]
    rw [show r + (j + 1) = r + 1 + j by omega, ← ws_clN ok n h j (r + 1)]
    unfold ws
    apply ls_congr
    intro p hp
    rw [PH_step ok n r ((cd_clN ok h j).2 p hp)]
def cls (ds : List Door) (room : Int) (length : Nat) : List (CKey × Int) := clN ds length [((room, 1, 1, none), 1)]
theorem cd_start (ds : List Door) (room : Int) : CD ds [((room, 1, 1, none), (1 : Int))] := by
  constructor
  · intro p hp; simp at hp; subst hp; exact Int.one_pos
  · intro p hp; simp at hp; subst hp
    exact ⟨Int.one_pos, Int.one_pos, fun l e => by cases e⟩
theorem cd_cls {rooms : Int} {ds : List Door} (ok : Ok rooms ds) (room : Int) (length : Nat) : CD ds (cls ds room length) := cd_clN ok (cd_start ds room) length
/-- THE COUNT: the feet that n pulls leave are those of the classes whose pulls divide n -/
theorem still_classes {rooms : Int} {ds : List Door} (ok : Ok rooms ds) (room n : Int) (length : Nat) :
    still ds room n length = ls (cls ds room length) fun p => if p.1.2.2.1 ∣ n then p.2 * p.1.2.2.1 else 0 := by
  rw [still_eq ok]
  have h := ws_clN ok n (cd_start ds room) length 0
  have e : ws (PH ds n 0) (clN ds length [((room, 1, 1, none), 1)]) = ls (cls ds room length) fun p => if p.1.2.2.1 ∣ n then p.2 * p.1.2.2.1 else 0 := by
    unfold ws cls
    apply ls_congr
    intro p _
    unfold PH
    by_cases hd : p.1.2.2.1 ∣ n
    · rw [if_pos hd, if_pos hd]; show p.2 * (_ * 1) = _; rw [Int.mul_one]
    · rw [if_neg hd, if_neg hd, Int.mul_zero]
  rw [← e, h]
  simp [ws, PH]
end MF

/-! The rows of numbers of feet: plain mathematics. -/
namespace MF
open MS
theorem ls_turn (ds : List Door) (f : Step → Int) : (ls (allSteps ds) fun s => f (turn s)) = ls (allSteps ds) f := by
  unfold allSteps
  rw [ls_flatMap, ls_flatMap]
  apply ls_congr
  intro a _
  simp [turn]; omega
theorem ls_range_one {n : Nat} {a : Nat} (h : a < n) (f : Nat → Int) : (ls (List.range n) fun u => if a = u then f u else 0) = f a := by
  have e : (ls (List.range n) fun u => if a = u then f u else 0) = ls (List.range n) fun u => if u = a then f a else 0 := by
    apply ls_congr
    intro u _
    by_cases h : a = u
    · subst h; simp
    · have : ¬ u = a := fun e => h e.symm
      simp [h, this]
  rw [e, ls_one List.nodup_range a (f a)]
  simp [h]
/-- the numbers of the table: sizes of passes from u to t -/
def tab (ds : List Door) (u t : Nat) : Int := ls (allSteps ds) fun s => if near ds s = (u : Int) ∧ far ds s = (t : Int) then aux (lv ds s) else 0
def siz (ds : List Door) (n u : Nat) : Int := ls (List.range n) (tab ds u)
/-- the rows -/
def NN (ds : List Door) (n r0 : Nat) : Nat → Nat → Int
  | 0, t => if t = r0 then 1 else 0
  | 1, t => ls (List.range n) fun u => NN ds n r0 0 u * tab ds u t
  | l + 2, t => (ls (List.range n) fun u => NN ds n r0 (l + 1) u * tab ds u t) - NN ds n r0 l t * (siz ds n t - if l = 0 then 0 else 1)
section
variable {ds : List Door} {n r0 : Nat}
abbrev sm (ds : List Door) (r0 l : Nat) : List (SKey × Int) := stillN ds l [(((r0 : Int), 0, none), 1)]
def Aa (ds : List Door) (r0 l : Nat) (s : Step) : Int := ws (fun k => if k.2.2 = some s then 1 else 0) (sm ds r0 l)
def Nn (ds : List Door) (r0 l : Nat) (t : Nat) : Int := ws (fun k => if k.1 = (t : Int) then 1 else 0) (sm ds r0 l)
def ZK (ds : List Door) (r0 : Nat) (k : SKey) : Prop := k.2.1 = 0 ∧ (∀ s, k.2.2 = some s → s ∈ allSteps ds ∧ k.1 = far ds s) ∧ (k.2.2 = none → k.1 = (r0 : Int))
theorem zk_inc {k : SKey} (hk : k.2.1 = 0) (many : Int) : ∀ p ∈ stillInc ds k many, ZK ds r0 p.1 ∧ p.1.2.2 ≠ none := by
  intro p hp
  unfold stillInc beyond at hp
  obtain ⟨q, hq, hp⟩ := List.mem_flatMap.mp hp
  obtain ⟨s, hs, rfl⟩ := List.mem_map.mp hq
  rw [hk] at hp
  split at hp
  · simp only [List.mem_singleton] at hp
    subst hp
    refine ⟨⟨by simp, fun s' e => ?_, fun e => by cases e⟩, by simp⟩
    have e : some s = some s' := e
    cases e
    exact ⟨(mem_stepsOf.mp hs).1, rfl⟩
  · simp at hp
theorem zk_sm (r0 : Nat) : ∀ l, ∀ p ∈ sm ds r0 l, ZK ds r0 p.1
  | 0 => by
    intro p hp
    simp [sm, stillN] at hp
    subst hp
    exact ⟨rfl, fun s e => (by cases e), fun _ => rfl⟩
  | l + 1 => by
    have ih := zk_sm r0 l
    refine key_adds (P := ZK ds r0) _ ?_ (by intro p hp; simp at hp)
    intro p hp
    obtain ⟨q, hq, hp⟩ := List.mem_flatMap.mp hp
    exact (zk_inc (ih q hq).1 q.2 p hp).1
theorem some_sm (r0 l : Nat) : ∀ p ∈ sm ds r0 (l + 1), p.1.2.2 ≠ none := by
  refine key_adds (P := fun k : SKey => k.2.2 ≠ none) _ ?_ (by intro p hp; simp at hp)
  intro p hp
  obtain ⟨q, hq, hp⟩ := List.mem_flatMap.mp hp
  exact (zk_inc (r0 := r0) (zk_sm (ds := ds) r0 l q hq).1 q.2 p hp).2
theorem ws_congr {κ : Type} {m : List (κ × Int)} {g h : κ → Int} (e : ∀ p ∈ m, g p.1 = h p.1) : ws g m = ws h m := by
  unfold ws
  apply ls_congr
  intro p hp
  rw [e p hp]
theorem ws_sub {κ : Type} (m : List (κ × Int)) (g h : κ → Int) : ws (fun k => g k - h k) m = ws g m - ws h m := by
  unfold ws
  rw [← ls_sub]
  apply ls_congr
  intro p _
  rw [Int.mul_sub]
theorem ws_mul {κ : Type} (m : List (κ × Int)) (c : Int) (g : κ → Int) : ws (fun k => c * g k) m = c * ws g m := by
  unfold ws
  rw [← ls_mul]
  apply ls_congr
  intro p _
  grind
theorem ws_ls {κ α : Type} (m : List (κ × Int)) (l : List α) (g : α → κ → Int) : ws (fun k => ls l fun a => g a k) m = ls l fun a => ws (g a) m := by
  unfold ws
  rw [← ls_swap]
  apply ls_congr
  intro p _
  rw [ls_mul]
theorem stT_zero (ds : List Door) (g : SKey → Int) {k : SKey} (hk : k.2.1 = 0) : stT ds g k = ls (stepsOf ds k.1) fun s => (aux (lv ds s) - least k.2.2 s) * g (far ds s, 0, some s) := by
  unfold stT
  apply ls_congr
  intro s _
  rw [hk]
  simp
theorem A_step {rooms : Int} (ok : Ok rooms ds) {s0 : Step} (hs0 : s0 ∈ allSteps ds) (hn : ∃ u : Nat, near ds s0 = (u : Int)) (l : Nat) : ∀ u : Nat, near ds s0 = (u : Int) → Aa ds r0 (l + 1) s0 = aux (lv ds s0) * Nn ds r0 l u - Aa ds r0 l (turn s0) := by
  intro u hu
  show ws _ (stillOn ds (sm ds r0 l)) = _
  rw [ws_stillOn ok _ (pos_stillN (pos_one _) l)]
  unfold Nn Aa
  rw [← ws_mul, ← ws_sub]
  apply ws_congr
  intro p hp
  obtain ⟨z1, z2, z3⟩ := zk_sm r0 l p hp
  rw [stT_zero ds _ z1]
  have e : (ls (stepsOf ds p.1.1) fun s => (aux (lv ds s) - least p.1.2.2 s) * (if (some s : Option Step) = some s0 then 1 else 0)) = ls (stepsOf ds p.1.1) fun s => if s = s0 then aux (lv ds s0) - least p.1.2.2 s0 else 0 := by
    apply ls_congr
    intro s _
    by_cases h : s = s0
    · subst h; simp
    · simp [h]
  refine Eq.trans e ?_
  have nd : (stepsOf ds p.1.1).Nodup := (nodup_all ds).filter _
  rw [ls_one nd]
  have mem : s0 ∈ stepsOf ds p.1.1 ↔ near ds s0 = p.1.1 := by rw [mem_stepsOf]; exact ⟨fun h => h.2, fun h => ⟨hs0, h⟩⟩
  by_cases hm : near ds s0 = p.1.1
  · rw [if_pos (mem.mpr hm), if_pos (by rw [← hm, hu])]
    cases hl : p.1.2.2 with
    | none => simp [least]
    | some l' =>
      obtain ⟨y1, y2⟩ := z2 l' hl
      unfold least
      simp only
      by_cases ht : s0 = turn l'
      · have : l' = turn s0 := by rw [ht, turn_turn (mem_all.mp y1).2]
        simp [ht, turn_turn (mem_all.mp y1).2]
      · have : ¬ l' = turn s0 := fun e => ht (by rw [e, turn_turn (mem_all.mp hs0).2])
        simp [ht, this]
  · rw [if_neg (fun h => hm (mem.mp h)), if_neg (by rw [← hu]; exact fun e => hm e.symm)]
    have : ¬ p.1.2.2 = some (turn s0) := by
      intro e
      obtain ⟨y1, y2⟩ := z2 _ e
      apply hm
      rw [y2]
      unfold far
      rw [gate_turn (mem_all.mp hs0).2]
    rw [if_neg this]
    simp
theorem N_step (l t : Nat) : Nn ds r0 (l + 1) t = ls (allSteps ds) fun s => if far ds s = (t : Int) then Aa ds r0 (l + 1) s else 0 := by
  have e : (ls (allSteps ds) fun s => if far ds s = (t : Int) then Aa ds r0 (l + 1) s else 0) = ls (allSteps ds) fun s => ws (fun k => if far ds s = (t : Int) then (if k.2.2 = some s then 1 else 0) else 0) (sm ds r0 (l + 1)) := by
    apply ls_congr
    intro s _
    by_cases h : far ds s = (t : Int)
    · simp only [h, if_true]; rfl
    · simp only [h, if_false]
      unfold ws
      symm
      apply ls_zero'
      intro p _
      simp
  rw [e, ← ws_ls]
  unfold Nn
  apply ws_congr
  intro p hp
  obtain ⟨z1, z2, z3⟩ := zk_sm r0 _ p hp
  have z4 := some_sm r0 l p hp
  cases hl : p.1.2.2 with
  | none => exact absurd hl z4
  | some s0 =>
    obtain ⟨y1, y2⟩ := z2 s0 hl
    have : (ls (allSteps ds) fun s => if far ds s = (t : Int) then (if (some s0 : Option Step) = some s then 1 else 0) else 0) = ls (allSteps ds) fun s => if s = s0 then (if far ds s0 = (t : Int) then (1 : Int) else 0) else 0 := by
      apply ls_congr
      intro s _
      by_cases h : s = s0
      · subst h; simp
      · have : ¬ s0 = s := fun e => h e.symm
        simp [h, this]
    rw [this, ls_one (nodup_all ds), if_pos y1, y2]
theorem A_zero (s : Step) : Aa ds r0 0 s = 0 := by
  simp [Aa, sm, stillN, ws]
theorem siz_eq {rooms : Int} (ok : Ok rooms ds) (hn : rooms = (n : Int)) (t : Nat) : siz ds n t = ls (allSteps ds) fun s => if near ds s = (t : Int) then aux (lv ds s) else 0 := by
  unfold siz tab
  rw [ls_swap]
  apply ls_congr
  intro s hs
  obtain ⟨h1, h2⟩ := far_room ok hs
  obtain ⟨a, ha⟩ := Int.eq_ofNat_of_zero_le h1
  have e : (ls (List.range n) fun b => if near ds s = (t : Int) ∧ far ds s = (b : Int) then aux (lv ds s) else 0) = ls (List.range n) fun b => if a = b then (if near ds s = (t : Int) then aux (lv ds s) else 0) else 0 := by
    apply ls_congr
    intro b _
    rw [ha]
    have : ((a : Int) = (b : Int)) ↔ a = b := Int.ofNat_inj
    by_cases h : a = b <;> by_cases h2 : near ds s = (t : Int) <;> simp [h, h2, this]
  rw [e]
  exact ls_range_one (by omega) fun _ => if near ds s = (t : Int) then aux (lv ds s) else 0
theorem sum_tab {rooms : Int} (ok : Ok rooms ds) (hn : rooms = (n : Int)) (f : Nat → Int) (t : Nat) :
    (ls (List.range n) fun u => f u * tab ds u t) = ls (allSteps ds) fun s => if far ds s = (t : Int) then aux (lv ds s) * f (near ds s).toNat else 0 := by
  have e : (ls (List.range n) fun u => f u * tab ds u t) = ls (List.range n) fun u => ls (allSteps ds) fun s => f u * (if near ds s = (u : Int) ∧ far ds s = (t : Int) then aux (lv ds s) else 0) := by
    apply ls_congr
    intro u _
    unfold tab
    rw [ls_mul]
  rw [e, ls_swap]
  apply ls_congr
  intro s hs
  obtain ⟨h1, h2⟩ := near_room ok hs
  obtain ⟨a, ha⟩ := Int.eq_ofNat_of_zero_le h1
  have e : (ls (List.range n) fun u => f u * (if near ds s = (u : Int) ∧ far ds s = (t : Int) then aux (lv ds s) else 0)) = ls (List.range n) fun u => if a = u then (if far ds s = (t : Int) then aux (lv ds s) * f u else 0) else 0 := by
    apply ls_congr
    intro u _
    rw [ha]
    have : ((a : Int) = (u : Int)) ↔ a = u := Int.ofNat_inj
    by_cases h : a = u <;> by_cases h2 : far ds s = (t : Int) <;> simp [h, h2, this, Int.mul_comm]
  rw [e, ls_range_one (by omega) fun u => if far ds s = (t : Int) then aux (lv ds s) * f u else 0, ha]
  simp
def Bb (ds : List Door) (r0 l t : Nat) : Int := ls (allSteps ds) fun s => if near ds s = (t : Int) then Aa ds r0 l s else 0
theorem N_rec {rooms : Int} (ok : Ok rooms ds) (hn : rooms = (n : Int)) (l t : Nat) : Nn ds r0 (l + 1) t = (ls (List.range n) fun u => Nn ds r0 l u * tab ds u t) - Bb ds r0 l t := by
  rw [N_step, sum_tab ok hn]
  have e : Bb ds r0 l t = ls (allSteps ds) fun s => if far ds s = (t : Int) then Aa ds r0 l (turn s) else 0 := by
    unfold Bb
    rw [← ls_turn]
    apply ls_congr
    intro s hs
    unfold near
    rw [gate_turn (mem_all.mp hs).2]
  rw [e, ← ls_sub]
  apply ls_congr
  intro s hs
  obtain ⟨h1, h2⟩ := near_room ok hs
  have e1 : near ds s = ((near ds s).toNat : Int) := by omega
  by_cases h : far ds s = (t : Int)
  · rw [if_pos h, if_pos h, if_pos h, A_step ok hs ⟨_, e1⟩ l _ e1]
  · rw [if_neg h, if_neg h, if_neg h]; rfl
theorem B_rec {rooms : Int} (ok : Ok rooms ds) (hn : rooms = (n : Int)) (l t : Nat) : Bb ds r0 (l + 1) t = Nn ds r0 l t * (siz ds n t - if l = 0 then 0 else 1) := by
  unfold Bb
  have e : (ls (allSteps ds) fun s => if near ds s = (t : Int) then Aa ds r0 (l + 1) s else 0) = ls (allSteps ds) fun s => (if near ds s = (t : Int) then aux (lv ds s) else 0) * Nn ds r0 l t - (if near ds s = (t : Int) then Aa ds r0 l (turn s) else 0) := by
    apply ls_congr
    intro s hs
    by_cases h : near ds s = (t : Int)
    · rw [if_pos h, if_pos h, if_pos h, A_step ok hs ⟨t, h⟩ l t h]
    · rw [if_neg h, if_neg h, if_neg h]; simp
  rw [e, ls_sub, ls_mulr, ← siz_eq ok hn]
  have e2 : (ls (allSteps ds) fun s => if near ds s = (t : Int) then Aa ds r0 l (turn s) else 0) = Nn ds r0 l t * (if l = 0 then 0 else 1) := by
    rw [← ls_turn]
    cases l with
    | zero =>
      rw [if_pos rfl, Int.mul_zero]
      apply ls_zero'
      intro s _
      rw [A_zero]; simp
    | succ l =>
      rw [if_neg (by omega), Int.mul_one, N_step]
      apply ls_congr
      intro s hs
      unfold near
      rw [gate_turn (mem_all.mp hs).2, turn_turn (mem_all.mp hs).2]
  rw [e2, Int.mul_sub, Int.mul_comm (siz ds n t)]
theorem NN_eq {rooms : Int} (ok : Ok rooms ds) (hn : rooms = (n : Int)) : ∀ (l t : Nat), NN ds n r0 l t = Nn ds r0 l t
  | 0, t => by
    simp [NN, Nn, sm, stillN, ws]
    have : ((r0 : Int) = (t : Int)) ↔ t = r0 := by omega
    simp [this]
  | 1, t => by
    rw [N_rec ok hn 0 t]
    have b : Bb ds r0 0 t = 0 := by
      unfold Bb
      apply ls_zero'
      intro s _
      rw [A_zero]; simp
    rw [b, Int.sub_zero]
    show (ls (List.range n) fun u => NN ds n r0 0 u * tab ds u t) = _
    apply ls_congr
    intro u _
    rw [NN_eq ok hn 0 u]
  | l + 2, t => by
    rw [N_rec ok hn (l + 1) t, B_rec ok hn l t, ← NN_eq ok hn l t]
    show (ls (List.range n) fun u => NN ds n r0 (l + 1) u * tab ds u t) - _ = _
    congr 1
    apply ls_congr
    intro u _
    rw [NN_eq ok hn (l + 1) u]
/-- the row's sum is the number of feet, that of still feet of 0 pulls -/
theorem NN_sum {rooms : Int} (ok : Ok rooms ds) (hn : rooms = (n : Int)) (hr : r0 < n) (l : Nat) : ls (List.range n) (NN ds n r0 l) = still ds (r0 : Int) 0 l := by
  have e : ls (List.range n) (NN ds n r0 l) = ls (List.range n) fun t => ws (fun k => if k.1 = (t : Int) then 1 else 0) (sm ds r0 l) := by
    apply ls_congr
    intro t _
    rw [NN_eq ok hn]; rfl
  rw [e, ← ws_ls]
  unfold still ws
  apply ls_congr
  intro p hp
  obtain ⟨z1, z2, z3⟩ := zk_sm r0 l p hp
  have hb : 0 ≤ p.1.1 ∧ p.1.1 < rooms := by
    cases hl : p.1.2.2 with
    | none => rw [z3 hl]; omega
    | some s =>
      obtain ⟨y1, y2⟩ := z2 s hl
      rw [y2]
      exact far_room ok y1
  obtain ⟨a, ha⟩ := Int.eq_ofNat_of_zero_le hb.1
  have : (ls (List.range n) fun t => if p.1.1 = (t : Int) then (1 : Int) else 0) = 1 := by
    have e2 : (ls (List.range n) fun t => if p.1.1 = (t : Int) then (1 : Int) else 0) = ls (List.range n) fun t => if a = t then 1 else 0 := by
      apply ls_congr
      intro t _
      rw [ha]
      have : ((a : Int) = (t : Int)) ↔ a = t := Int.ofNat_inj
      simp [this]
    rw [e2]
    exact ls_range_one (by omega) fun _ => 1
  show p.2 * (ls (List.range n) fun t => if p.1.1 = (t : Int) then (1 : Int) else 0) = p.2
  rw [this, Int.mul_one]
end
end MF

/-! The law's own comparisons: plain mathematics. -/
namespace MF
open MS
def ret (m : List (CKey × Int)) : Int := m.foldl (fun found p => (found * p.1.2.2.1).fdiv (gcdI found p.1.2.2.1)) 1
def clsMany (m : List (CKey × Int)) : Int := ls m fun p => p.2
theorem lcm_step {a b : Int} (ha : 0 < a) (hb : 0 < b) : 0 < (a * b).fdiv (gcdI a b) ∧ a ∣ (a * b).fdiv (gcdI a b) ∧ b ∣ (a * b).fdiv (gcdI a b) ∧ ∀ c, a ∣ c → b ∣ c → (a * b).fdiv (gcdI a b) ∣ c := by
  have hg := gcdI_pos (b := b) (show a ≠ 0 by omega)
  obtain ⟨x, hx⟩ := gcdI_left a b
  obtain ⟨y, hy⟩ := gcdI_right a b
  have e : (a * b).fdiv (gcdI a b) = x * b := by
    rw [show a * b = gcdI a b * (x * b) by
      conv => lhs; lhs; rw [hx]
      grind]
    exact Int.mul_fdiv_cancel_left _ (by omega)
  have e2 : x * b = a * y := by
    conv => lhs; rhs; rw [hy]
    conv => rhs; lhs; rw [hx]
    grind
  have hxp : 0 < x := by
    have h1 : 0 < gcdI a b * x := by rw [← hx]; exact ha
    exact Int.pos_of_mul_pos_right h1 hg
  rw [e]
  refine ⟨Int.mul_pos hxp hb, by rw [e2]; exact Int.dvd_mul_right _ _, Int.dvd_mul_left _ _, fun c h1 h2 => ?_⟩
  have hl : x * b = (Int.lcm a b : Int) := by
    have h3 : (Int.gcd a b : Int) * (Int.lcm a b : Int) = (a * b).natAbs := by
      have := Int.gcd_mul_lcm a b
      rw [Int.natAbs_mul, ← this]; push_cast; rfl
    have h4 : ((a * b).natAbs : Int) = a * b := by
      have := Int.mul_pos ha hb
      omega
    have h5 : gcdI a b * (Int.lcm a b : Int) = gcdI a b * (x * b) := by
      show (Int.gcd a b : Int) * _ = _
      rw [h3, h4]
      conv => lhs; lhs; rw [hx]
      grind
    exact (Int.eq_of_mul_eq_mul_left (by omega) h5).symm
  rw [hl]
  have h6 : Int.lcm a b ∣ c.natAbs := Int.lcm_dvd (Int.dvd_natAbs.mpr h1) (Int.dvd_natAbs.mpr h2)
  exact Int.dvd_natAbs.mp (Int.ofNat_dvd.mpr h6)
theorem ret_fold (m : List (CKey × Int)) (hm : ∀ p ∈ m, 0 < p.1.2.2.1) : ∀ z : Int, 0 < z →
    0 < m.foldl (fun found p => (found * p.1.2.2.1).fdiv (gcdI found p.1.2.2.1)) z ∧ z ∣ m.foldl (fun found p => (found * p.1.2.2.1).fdiv (gcdI found p.1.2.2.1)) z ∧
    (∀ p ∈ m, p.1.2.2.1 ∣ m.foldl (fun found p => (found * p.1.2.2.1).fdiv (gcdI found p.1.2.2.1)) z) ∧
    ∀ c, z ∣ c → (∀ p ∈ m, p.1.2.2.1 ∣ c) → m.foldl (fun found p => (found * p.1.2.2.1).fdiv (gcdI found p.1.2.2.1)) z ∣ c := by
  induction m with
  | nil => intro z hz; exact ⟨hz, Int.dvd_refl _, by simp, fun c h _ => h⟩
  | cons q m ih =>
    intro z hz
    obtain ⟨s1, s2, s3, s4⟩ := lcm_step hz (hm q (by simp))
    obtain ⟨h1, h2, h3, h4⟩ := ih (fun p hp => hm p (by simp [hp])) _ s1
    rw [List.foldl_cons]
    refine ⟨h1, Int.dvd_trans s2 h2, ?_, fun c hc hp => h4 c (s4 c hc (hp q (by simp))) fun p hp' => hp p (by simp [hp'])⟩
    intro p hp
    rcases List.mem_cons.mp hp with rfl | hp
    · exact Int.dvd_trans s3 h2
    · exact h3 p hp
section
variable {rooms : Int} {ds : List Door} (ok : Ok rooms ds) (room : Int) (length : Nat)
include ok
theorem ret_pos : 0 < ret (cls ds room length) := (ret_fold _ (fun p hp => ((cd_cls ok room length).2 p hp).2.1) 1 Int.one_pos).1
theorem ret_dvd : ∀ p ∈ cls ds room length, p.1.2.2.1 ∣ ret (cls ds room length) := (ret_fold _ (fun p hp => ((cd_cls ok room length).2 p hp).2.1) 1 Int.one_pos).2.2.1
theorem ret_min {c : Int} (h : ∀ p ∈ cls ds room length, p.1.2.2.1 ∣ c) : ret (cls ds room length) ∣ c := (ret_fold _ (fun p hp => ((cd_cls ok room length).2 p hp).2.1) 1 Int.one_pos).2.2.2 c (Int.one_dvd c) h
/-- the whole number of feet -/
theorem whole_eq : still ds room 0 length = ls (cls ds room length) fun p => p.2 * p.1.2.2.1 := by
  rw [still_classes ok]
  apply ls_congr
  intro p _
  rw [if_pos (Int.dvd_zero _)]
theorem law_ge : still ds room 0 length ≤ ret (cls ds room length) * clsMany (cls ds room length) := by
  rw [whole_eq ok]
  unfold clsMany
  rw [← ls_mul]
  apply ls_le
  intro p hp
  have h1 := (cd_cls ok room length).1 p hp
  have h2 := Int.le_of_dvd (ret_pos ok room length) (ret_dvd ok room length p hp)
  rw [Int.mul_comm]
  exact Int.mul_le_mul_of_nonneg_right h2 (by omega)
theorem law_many : clsMany (cls ds room length) ≤ still ds room 0 length := by
  rw [whole_eq ok]
  apply ls_le
  intro p hp
  have h1 := (cd_cls ok room length).1 p hp
  have h2 := ((cd_cls ok room length).2 p hp).2.1
  have := Int.mul_le_mul_of_nonneg_left (show (1 : Int) ≤ p.1.2.2.1 by omega) (show 0 ≤ p.2 by omega)
  omega
theorem many_nn : 0 ≤ clsMany (cls ds room length) := ls_nonneg fun p hp => by have := (cd_cls ok room length).1 p hp; omega
theorem law_pos : still ds room 0 length > 0 ↔ clsMany (cls ds room length) > 0 := by
  constructor
  · intro h
    have h1 := law_ge ok room length
    have h2 := many_nn ok room length
    by_cases e : clsMany (cls ds room length) = 0
    · rw [e] at h1; simp at h1; omega
    · omega
  · intro h
    have := law_many ok room length
    omega
theorem law_ret : still ds room (ret (cls ds room length)) length = still ds room 0 length := by
  rw [still_classes ok, still_classes ok]
  apply ls_congr
  intro p hp
  rw [if_pos (ret_dvd ok room length p hp), if_pos (Int.dvd_zero _)]
theorem law_common (n : Int) : still ds room n length = still ds room (gcdI n (ret (cls ds room length))) length := by
  rw [still_classes ok, still_classes ok]
  apply ls_congr
  intro p hp
  have h1 := ret_dvd ok room length p hp
  have : p.1.2.2.1 ∣ n ↔ p.1.2.2.1 ∣ gcdI n (ret (cls ds room length)) := ⟨fun h => Int.dvd_coe_gcd h h1, fun h => Int.dvd_trans h (gcdI_left _ _)⟩
  by_cases h : p.1.2.2.1 ∣ n
  · rw [if_pos h, if_pos (this.mp h)]
  · rw [if_neg h, if_neg fun z => h (this.mpr z)]
/-- less pulls leave fewer, if there are feet -/
theorem law_less {less : Int} (h0 : 0 < less) (h1 : less < ret (cls ds room length)) (e : still ds room less length = still ds room 0 length) : ¬ still ds room 0 length > 0 := by
  intro _
  have all : ∀ p ∈ cls ds room length, p.1.2.2.1 ∣ less := by
    rw [still_classes ok, whole_eq ok] at e
    intro p hp
    have hle : ∀ p ∈ cls ds room length, (if p.1.2.2.1 ∣ less then p.2 * p.1.2.2.1 else 0) ≤ p.2 * p.1.2.2.1 := by
      intro p hp
      have h3 := (cd_cls ok room length).1 p hp
      have h4 := ((cd_cls ok room length).2 p hp).2.1
      have := Int.mul_pos h3 h4
      split <;> omega
    have := ls_eq_of_le hle e p hp
    by_cases h : p.1.2.2.1 ∣ less
    · exact h
    · rw [if_neg h] at this
      have h3 := (cd_cls ok room length).1 p hp
      have h4 := ((cd_cls ok room length).2 p hp).2.1
      have := Int.mul_pos h3 h4
      omega
  have := Int.le_of_dvd h0 (ret_min ok room length all)
  omega
omit ok in
/-- the numbers below k * f that f divides are k -/
theorem multiples (f : Nat) (hf : 0 < f) (c : Int) : ∀ k : Nat, (ls (List.range (k * f)) fun i => if (f : Int) ∣ (i : Int) then c else 0) = k * c
  | 0 => by simp
  | k + 1 => by
    rw [show (k + 1) * f = k * f + f by rw [Nat.add_mul, Nat.one_mul], List.range_add, ls_append, multiples f hf c k, ls_map]
    have e : (ls (List.range f) fun a => if (f : Int) ∣ ((k * f + a : Nat) : Int) then c else 0) = ls (List.range f) fun a => if a = 0 then c else 0 := by
      apply ls_congr
      intro a ha
      rw [List.mem_range] at ha
      have : (f : Int) ∣ ((k * f + a : Nat) : Int) ↔ a = 0 := by
        rw [Int.natCast_dvd_natCast, Nat.dvd_add_right (Nat.dvd_mul_left f k)]
        constructor
        · intro h
          by_cases z : a = 0
          · exact z
          · exact absurd (Nat.le_of_dvd (by omega) h) (by omega)
        · rintro rfl; exact Nat.dvd_zero _
      simp only [this]
    rw [e, ls_one List.nodup_range]
    have : 0 ∈ List.range f := List.mem_range.mpr hf
    rw [if_pos this]
    push_cast
    grind
theorem law_burnside : (ls (List.range (ret (cls ds room length)).toNat) fun i => still ds room (i : Int) length) = ret (cls ds room length) * clsMany (cls ds room length) := by
  have hr := ret_pos ok room length
  have e : (ls (List.range (ret (cls ds room length)).toNat) fun i => still ds room (i : Int) length) = ls (List.range (ret (cls ds room length)).toNat) fun i => ls (cls ds room length) fun p => if p.1.2.2.1 ∣ (i : Int) then p.2 * p.1.2.2.1 else 0 := by
    apply ls_congr
    intro i _
    rw [still_classes ok]
  rw [e, ls_swap]
  unfold clsMany
  rw [← ls_mul]
  apply ls_congr
  intro p hp
  obtain ⟨k, hk⟩ := ret_dvd ok room length p hp
  have hf := ((cd_cls ok room length).2 p hp).2.1
  generalize ret (cls ds room length) = R at *
  obtain ⟨f, hf'⟩ := Int.eq_ofNat_of_zero_le (show 0 ≤ p.1.2.2.1 by omega)
  rw [hf'] at hk hf ⊢
  have hk0 : 0 < k := by
    rw [hk] at hr
    exact Int.pos_of_mul_pos_right hr hf
  obtain ⟨k', rfl⟩ := Int.eq_ofNat_of_zero_le (show 0 ≤ k by omega)
  have : R.toNat = k' * f := by
    rw [hk]
    have : ((f : Int) * (k' : Int)) = ((k' * f : Nat) : Int) := by push_cast; exact Int.mul_comm _ _
    rw [this]; exact Int.toNat_natCast _
  rw [this, multiples f (by omega)]
  rw [hk]
  grind
end
end MF

set_option linter.all false
/-! Rooms that doors join. -/
namespace MJ
abbrev Door := Int × Int × Int × Int
abbrev Eg := Int × Int
def edges (ds : List Door) : List Eg := ds.flatMap fun d => [(d.1, d.2.2.1), (d.2.2.1, d.1)]
def stepJ (here : Int) (s : List Int × List Int) (e : Eg) : List Int × List Int := if e.1 = here ∧ e.2 ∉ s.1 then (s.1 ++ [e.2], s.2 ++ [e.2]) else s
def visit (here : Int) (es : List Eg) (s : List Int × List Int) : List Int × List Int := es.foldl (stepJ here) s
theorem visit_app (here : Int) (a b : List Eg) (s : List Int × List Int) : visit here (a ++ b) s = visit here b (visit here a s) := List.foldl_append
theorem edges_app (a b : List Door) : edges (a ++ b) = edges a ++ edges b := List.flatMap_append
structure St (rooms : Int) (s : List Int × List Int) : Prop where
  nd : s.1.Nodup
  rg : ∀ x ∈ s.1, 0 ≤ x ∧ x < rooms
  z : (0 : Int) ∈ s.1
  sub : ∀ x ∈ s.2, x ∈ s.1
  le : s.2.length ≤ s.1.length
structure Vis (here : Int) (es : List Eg) (s s' : List Int × List Int) : Prop where
  up : ∀ x ∈ s.1, x ∈ s'.1
  upl : ∀ x ∈ s.2, x ∈ s'.2
  old : ∀ x ∈ s'.1, x ∉ s'.2 → x ∈ s.1
  nb : ∀ e ∈ es, e.1 = here → e.2 ∈ s'.1
  len : s'.2.length + s.1.length = s'.1.length + s.2.length
  grow : s.1.length ≤ s'.1.length
theorem visit_ok {rooms here : Int} : ∀ {es : List Eg} {s : List Int × List Int}, (∀ e ∈ es, 0 ≤ e.2 ∧ e.2 < rooms) → St rooms s → St rooms (visit here es s) ∧ Vis here es s (visit here es s)
  | [], s, _, h => ⟨h, fun x h => h, fun x h => h, fun x h _ => h, fun e he => (nomatch he), by show s.2.length + s.1.length = s.1.length + s.2.length; omega, Nat.le_refl _⟩
  | e :: es, s, hr, h => by
    have h1 : St rooms (stepJ here s e) ∧ Vis here [e] s (stepJ here s e) := by
      unfold stepJ
      by_cases c : e.1 = here ∧ e.2 ∉ s.1
      · rw [if_pos c]
        refine ⟨⟨?_, ?_, ?_, ?_, ?_⟩, ?_, ?_, ?_, ?_, ?_, ?_⟩
        · refine List.nodup_append.mpr ⟨h.nd, by simp, ?_⟩
          intro a ha b hb
          have : b = e.2 := by simpa using hb
          rintro rfl
          exact c.2 (this ▸ ha)
        · intro x hx
          rcases List.mem_append.mp hx with hx | hx
          · exact h.rg x hx
          · have : x = e.2 := by simpa using hx
            subst this; exact hr e (by simp)
        · exact List.mem_append_left _ h.z
        · intro x hx
          rcases List.mem_append.mp hx with hx | hx
          · exact List.mem_append_left _ (h.sub x hx)
          · exact List.mem_append_right _ hx
        · have := h.le; simp; omega
        · exact fun x hx => List.mem_append_left _ hx
        · exact fun x hx => List.mem_append_left _ hx
        · intro x hx hn
          rcases List.mem_append.mp hx with hx | hx
          · exact hx
          · exact absurd (List.mem_append_right _ hx) hn
        · intro e' he' _
          have : e' = e := by simpa using he'
          subst this; simp
        · simp; omega
        · simp
      · rw [if_neg c]
        refine ⟨h, fun x hx => hx, fun x hx => hx, fun x hx _ => hx, ?_, by omega, Nat.le_refl _⟩
        intro e' he' hh
        have : e' = e := by simpa using he'
        subst this
        exact Classical.byContradiction fun z => c ⟨hh, z⟩
    obtain ⟨h1, v1⟩ := h1
    obtain ⟨h2, v2⟩ := visit_ok (here := here) (es := es) (fun e he => hr e (by simp [he])) h1
    have ev : visit here (e :: es) s = visit here es (stepJ here s e) := rfl
    rw [ev]
    refine ⟨h2, fun x hx => v2.up x (v1.up x hx), fun x hx => v2.upl x (v1.upl x hx), fun x hx hn => ?_, ?_, ?_, Nat.le_trans v1.grow v2.grow⟩
    · have h3 := v2.old x hx hn
      exact v1.old x h3 fun z => hn (v2.upl x z)
    · intro e' he' hh
      rcases List.mem_cons.mp he' with rfl | he'
      · exact v2.up _ (v1.nb e' (by simp) hh)
      · exact v2.nb e' he' hh
    · have := v1.len; have := v2.len; omega
/-- all rooms but those in line are done -/
def Done (ds : List Door) (s : List Int × List Int) : Prop := ∀ x ∈ s.1, x ∉ s.2 → ∀ e ∈ edges ds, e.1 = x → e.2 ∈ s.1
theorem pop_ok {rooms : Int} {ds : List Door} {kn ln : List Int} {here : Int} (hr : ∀ e ∈ edges ds, 0 ≤ e.2 ∧ e.2 < rooms) (h : St rooms (kn, ln ++ [here])) (d : Done ds (kn, ln ++ [here])) :
    St rooms (visit here (edges ds) (kn, ln)) ∧ Done ds (visit here (edges ds) (kn, ln)) ∧ (visit here (edges ds) (kn, ln)).2.length + kn.length = (visit here (edges ds) (kn, ln)).1.length + ln.length ∧ kn.length ≤ (visit here (edges ds) (kn, ln)).1.length := by
  have h0 : St rooms (kn, ln) := ⟨h.nd, h.rg, h.z, fun x hx => h.sub x (List.mem_append_left _ hx), by have := h.le; simp at this ⊢; omega⟩
  obtain ⟨h1, v⟩ := visit_ok (here := here) hr h0
  refine ⟨h1, ?_, v.len, v.grow⟩
  intro x hx hn e he hh
  by_cases c : x = here
  · subst c; exact v.nb e he hh
  · have h3 := v.old x hx hn
    refine v.up _ (d x h3 ?_ e he hh)
    intro z
    rcases List.mem_append.mp z with z | z
    · exact hn (v.upl x z)
    · exact c (by simpa using z)
theorem len_le {rooms : Int} {l : List Int} (h : l.Nodup) (hr : ∀ x ∈ l, 0 ≤ x ∧ x < rooms) : l.length ≤ rooms.toNat := by
  have := List.Nodup.length_le_of_subset (l₂ := (List.range rooms.toNat).map fun (n : Nat) => (n : Int)) h (fun x hx => by
    have := hr x hx
    exact List.mem_map.mpr ⟨x.toNat, List.mem_range.mpr (by omega), by omega⟩)
  simpa using this
/-- each room but 0 has a door to a room below -/
def Conn (rooms : Int) (ds : List Door) : Prop := ∀ r : Int, 1 ≤ r → r < rooms → ∃ e ∈ edges ds, e.2 = r ∧ 0 ≤ e.1 ∧ e.1 < r
theorem all_in {rooms : Int} {ds : List Door} {kn : List Int} (c : Conn rooms ds) (h : St rooms (kn, [])) (d : Done ds (kn, [])) : ∀ n : Nat, ∀ r : Int, 0 ≤ r → r < rooms → r.toNat < n → r ∈ kn
  | 0, r, _, _, h => by omega
  | n + 1, r, h0, h1, h2 => by
    by_cases hz : r = 0
    · subst hz; exact h.z
    · obtain ⟨e, he, e1, e2, e3⟩ := c r (by omega) h1
      have := all_in c h d n e.1 e2 (by omega) (by omega)
      rw [← e1]
      exact d e.1 this (by simp) e he rfl
end MJ

set_option linter.all false
/-! Bounds. -/
namespace MF
open MS
/-- the product of all that leave -/
def prodL (ds : List Door) : List Step → Int
  | [] => 1
  | s :: l => aux (lv ds s) * prodL ds l
theorem prodL_dvd {ds : List Door} {s : Step} : ∀ {l : List Step}, s ∈ l → aux (lv ds s) ∣ prodL ds l
  | a :: l, h => by
    rcases List.mem_cons.mp h with rfl | h
    · exact ⟨prodL ds l, rfl⟩
    · obtain ⟨c, hc⟩ := prodL_dvd h
      exact ⟨aux (lv ds a) * c, by show aux (lv ds a) * prodL ds l = _; rw [hc, Int.mul_left_comm]⟩
theorem prodL_pos {ds : List Door} : ∀ {l : List Step}, (∀ s ∈ l, lv ds s ≠ 0) → 1 ≤ prodL ds l
  | [], _ => Int.le_refl _
  | a :: l, h => by
    have h1 := aux_pos (h a (by simp))
    have h2 := prodL_pos (ds := ds) (l := l) fun s hs => h s (by simp [hs])
    have := Int.mul_le_mul h1 h2 (by omega) (by omega)
    show 1 ≤ aux (lv ds a) * prodL ds l
    omega
theorem prodL_le {ds : List Door} : ∀ {l : List Step}, (∀ s ∈ l, lv ds s ≠ 0 ∧ (lv ds s).natAbs ≤ 50) → prodL ds l ≤ 50 ^ l.length
  | [], _ => Int.le_refl _
  | a :: l, h => by
    have h1 : aux (lv ds a) ≤ 50 := by have := (h a (by simp)).2; unfold aux; omega
    have h2 := prodL_le (ds := ds) (l := l) fun s hs => h s (by simp [hs])
    have h3 := prodL_pos (ds := ds) (l := l) fun s hs => (h s (by simp [hs])).1
    have := Int.mul_le_mul h1 h2 (by omega) (by omega)
    show aux (lv ds a) * prodL ds l ≤ 50 ^ (l.length + 1)
    rw [Int.pow_succ, Int.mul_comm (50 ^ l.length)]
    exact this
theorem clN_dvd {rooms : Int} {ds : List Door} (ok : Ok rooms ds) (room : Int) : ∀ n : Nat, ∀ p ∈ clN ds n [(((room, 1, 1, none) : CKey), (1 : Int))], p.1.2.2.1 ∣ prodL ds (allSteps ds) ^ n
  | 0, p, hp => by
    have hp : p ∈ [(((room, 1, 1, none) : CKey), (1 : Int))] := hp
    have : p = ((room, 1, 1, none), 1) := by simpa using hp
    subst this
    exact Int.one_dvd _
  | n + 1, p, hp => by
    have cd := cd_clN ok (cd_start ds room) n
    have ih := clN_dvd ok room n
    have := key_adds (P := fun k : CKey => k.2.2.1 ∣ prodL ds (allSteps ds) ^ (n + 1)) ((clN ds n [((room, 1, 1, none), 1)]).flatMap fun p => clInc ds p.1 p.2) (by
      intro p hp
      obtain ⟨q, hq, hp⟩ := List.mem_flatMap.mp hp
      rw [clInc_eq ok (cd.2 q hq)] at hp
      obtain ⟨s, hs, rfl⟩ := List.mem_map.mp hp
      show q.1.2.2.1 * (aux (lv ds s) / gcdI q.1.2.1 (lv ds s)) ∣ _
      rw [Int.pow_succ]
      refine Int.mul_dvd_mul (ih q hq) (Int.dvd_trans ?_ (prodL_dvd (mem_stepsOf.mp hs).1))
      exact Int.ediv_dvd_of_dvd (gcdI_aux _ _)) (m := []) (by intro p hp; simp at hp)
    exact this p hp
/-- what is found so far stays small -/
theorem ret_small {rooms : Int} {ds : List Door} (ok : Ok rooms ds) (d4 : ds.length ≤ 4) (n50 : ∀ s ∈ allSteps ds, (lv ds s).natAbs ≤ 50) (room : Int) {L : Nat} (hL : L ≤ 7) (i : Nat) : 0 < ret ((cls ds room L).take i) ∧ ret ((cls ds room L).take i) < 2 ^ 320 := by
  have cd := cd_cls ok room L
  have f := ret_fold ((cls ds room L).take i) (fun p hp => (cd.2 p (List.mem_of_mem_take hp)).2.1) 1 Int.one_pos
  have hp := prodL_pos (ds := ds) (l := allSteps ds) fun s hs => lv_ne ok hs
  have hd : ret ((cls ds room L).take i) ∣ prodL ds (allSteps ds) ^ L := f.2.2.2 _ (Int.one_dvd _) fun p hp => clN_dvd ok room L p (List.mem_of_mem_take hp)
  have h1 : 0 < prodL ds (allSteps ds) ^ L := Int.pow_pos (by omega)
  have h2 := Int.le_of_dvd h1 hd
  have al : (allSteps ds).length ≤ 8 := by
    unfold allSteps
    have : ∀ n, ((List.range n).flatMap fun a => [(a, 0), (a, 1)] : List Step).length = 2 * n := by
      intro n
      induction n with
      | zero => rfl
      | succ n ih => rw [List.range_succ, List.flatMap_append, List.length_append, ih]; simp; omega
    rw [this]; omega
  have h3 := prodL_le (ds := ds) (l := allSteps ds) fun s hs => ⟨lv_ne ok hs, n50 s hs⟩
  have mono : ∀ (b : Int) (m n : Nat), 1 ≤ b → m ≤ n → b ^ m ≤ b ^ n := by
    intro b m n hb hmn
    induction n with
    | zero => have : m = 0 := by omega
              subst this; exact Int.le_refl _
    | succ n ih =>
      by_cases h : m = n + 1
      · subst h; exact Int.le_refl _
      · have h1 := ih (by omega)
        have h2 : 0 < b ^ n := Int.pow_pos (by omega)
        rw [Int.pow_succ]
        have := Int.mul_le_mul_of_nonneg_left hb (show 0 ≤ b ^ n by omega)
        omega
  have h4 : prodL ds (allSteps ds) ≤ 50 ^ 8 := Int.le_trans h3 (mono 50 _ _ (by decide) al)
  have h5 : ∀ n : Nat, prodL ds (allSteps ds) ^ n ≤ (50 ^ 8) ^ n := by
    intro n
    induction n with
    | zero => rw [Int.pow_zero, Int.pow_zero]; exact Int.le_refl _
    | succ n ih =>
      rw [Int.pow_succ, Int.pow_succ]
      exact Int.mul_le_mul ih h4 (by omega) (Int.le_of_lt (Int.pow_pos (by decide)))
  have h6 := Int.le_trans (h5 L) (mono (50 ^ 8) L 7 (by decide) hL)
  have h7 : ((50 : Int) ^ 8) ^ 7 < 2 ^ 320 := by decide +kernel
  exact ⟨f.1, by omega⟩
/-- how many feet at most -/
theorem SF_le {rooms : Int} {ds : List Door} (ok : Ok rooms ds) (d4 : ds.length ≤ 4) (n50 : ∀ s ∈ allSteps ds, (lv ds s).natAbs ≤ 50) : ∀ (n : Nat) (k : SKey), 0 ≤ SF ds n k ∧ SF ds n k ≤ 400 ^ n
  | 0, k => ⟨by show (0 : Int) ≤ 1; decide, Int.le_refl _⟩
  | n + 1, k => by
    have ih := SF_le ok d4 n50 n
    have al : (stepsOf ds k.1).length ≤ 8 := by
      unfold stepsOf
      refine Nat.le_trans (List.length_filter_le _ _) ?_
      unfold allSteps
      have : ∀ n, ((List.range n).flatMap fun a => [(a, 0), (a, 1)] : List Step).length = 2 * n := by
        intro n
        induction n with
        | zero => rfl
        | succ n ih => rw [List.range_succ, List.flatMap_append, List.length_append, ih]; simp; omega
      rw [this]; omega
    have one : ∀ s ∈ stepsOf ds k.1, 0 ≤ (if lv ds s ∣ k.2.1 then (aux (lv ds s) - least k.2.2 s) * SF ds n (far ds s, k.2.1.fdiv (lv ds s) * ar ds s, some s) else 0) ∧ (if lv ds s ∣ k.2.1 then (aux (lv ds s) - least k.2.2 s) * SF ds n (far ds s, k.2.1.fdiv (lv ds s) * ar ds s, some s) else 0) ≤ 50 * 400 ^ n := by
      intro s hs
      have hs := (mem_stepsOf.mp hs).1
      have a1 := aux_pos (lv_ne ok hs)
      have a2 : aux (lv ds s) ≤ 50 := by have := n50 s hs; unfold aux; omega
      have l := least_01 k.2.2 s
      obtain ⟨i1, i2⟩ := ih (far ds s, k.2.1.fdiv (lv ds s) * ar ds s, some s)
      have p0 : (0 : Int) ≤ 400 ^ n := Int.le_of_lt (Int.pow_pos (by decide))
      split
      · refine ⟨Int.mul_nonneg (by omega) i1, ?_⟩
        exact Int.mul_le_mul (by omega) i2 i1 (by decide)
      · exact ⟨Int.le_refl _, Int.mul_nonneg (by decide) p0⟩
    refine ⟨ls_nonneg fun s hs => (one s hs).1, ?_⟩
    have h1 : SF ds (n + 1) k ≤ ls (stepsOf ds k.1) fun _ => 50 * 400 ^ n := ls_le fun s hs => (one s hs).2
    have h2 : ∀ (l : List Step) (c : Int), (ls l fun _ => c) = l.length * c := by
      intro l c
      induction l with
      | nil => simp
      | cons a l ih => rw [ls_cons, ih, List.length_cons, Int.natCast_succ, Int.add_mul, Int.one_mul, Int.add_comm]
    rw [h2] at h1
    have p0 : (0 : Int) ≤ 50 * 400 ^ n := Int.mul_nonneg (by decide) (Int.le_of_lt (Int.pow_pos (by decide)))
    have h3 := Int.mul_le_mul_of_nonneg_right (show ((stepsOf ds k.1).length : Int) ≤ 8 by omega) p0
    rw [Int.pow_succ]
    omega
theorem still_le {rooms : Int} {ds : List Door} (ok : Ok rooms ds) (d4 : ds.length ≤ 4) (n50 : ∀ s ∈ allSteps ds, (lv ds s).natAbs ≤ 50) (room pulls : Int) {L : Nat} (hL : L ≤ 7) : 0 ≤ still ds room pulls L ∧ still ds room pulls L < 2 ^ 62 := by
  rw [still_eq ok]
  obtain ⟨h1, h2⟩ := SF_le ok d4 n50 L (room, pulls, none)
  refine ⟨h1, Int.lt_of_le_of_lt h2 ?_⟩
  have : L = 0 ∨ L = 1 ∨ L = 2 ∨ L = 3 ∨ L = 4 ∨ L = 5 ∨ L = 6 ∨ L = 7 := by omega
  rcases this with rfl | rfl | rfl | rfl | rfl | rfl | rfl | rfl <;> decide
end MF

set_option Elab.async false
set_option linter.all false
set_option maxRecDepth 100000
set_option maxHeartbeats 4000000
/-! Two objects that change; lists against []; objects made; dicts of whole numbers. -/
namespace Y
open PySem PySem.Spec PyProof.Rows L2
/-- all but p and q is as it was -/
def But2 (p q : Addr) (H H' : Hp) : Prop := ∀ b o, b ≠ p → b ≠ q → H b = some o → H' b = some o
section
variable {C : Addr} {K : PySem.W.Frag} {te ta tb : TE} {as : TA} {σ : L2.St} {H H0 H1 H' H2 : Hp} {p q : Addr} {vs : List V} {ds : List D} {d : D} {v : V} {i : Int} {o : HO}
theorem But2.refl (p q : Addr) (H : Hp) : But2 p q H H := fun _ _ _ _ h => h
theorem But2.trans (a : But2 p q H H1) (b : But2 p q H1 H2) : But2 p q H H2 := fun c o n m h => b c o n m (a c o n m h)
theorem Same.but2 (s : Same H H') : But2 p q H H' := fun b o _ _ e => s b o e
theorem but2_set (s : But2 p q H H') : But2 p q H (upd H' p o) := fun b u n m e => by rw [upd_ne n]; exact s b u n m e
theorem but2_set' (s : But2 p q H H') : But2 p q H (upd H' q o) := fun b u n m e => by rw [upd_ne m]; exact s b u n m e
theorem But2.stay (s : But2 p q H H') (n : ∀ o, H p = some o → ¬ Imm o) (m : ∀ o, H q = some o → ¬ Imm o) : Stay H H' := fun b o e i =>
  s b o (fun z => n o (by rw [← z]; exact e) i) (fun z => m o (by rw [← z]; exact e) i) e
theorem But2.back (s : But2 p q H H') (s0 : Same H0 H) (n : H0 p = none) (m : H0 q = none) : Same H0 H' := fun b o e => s b o (ne_of_none e n) (ne_of_none e m) (s0 b o e)
theorem But2.keeps (s : But2 p q H1 H') {H : Hp} {Fk : List Addr} (hp : H p ≠ none) (hq : H q ≠ none) (fp : p ∉ Fk) (fq : q ∉ Fk) : ∀ b o, (H b = none ∨ b ∈ Fk) → H1 b = some o → H' b = some o := fun b o hb e =>
  s b o (fun z => by subst z; rcases hb with hb | hb; exact hp hb; exact fp hb) (fun z => by subst z; rcases hb with hb | hb; exact hq hb; exact fq hb) e
theorem notImm_dK {xs : List (Key × V)} (h : H p = some (.dK xs)) : ∀ o, H p = some o → ¬ Imm o := fun o e i => by
  rw [h] at e; cases e; exact i
/-- xs != [] -/
theorem et_neNil {a : Addr} (ha : EvV te σ H (.ref a)) (h : H a = some (.lst vs)) (t : TpA C H vs ds) (fl : flatA ds = true) (sh : SeqAt.shaped (.list (pyA ds)) = true) : EvT (tTest (tOp (rNeD K) te (tLst tNil))) σ H (!ds.isEmpty) := fun H1 s Q k =>
  ha H1 s _ fun H2 s2 => ⟨Nat.zero_le _, fun x hx => by
    have sx : Same H2 (upd H2 x (.lst [])) := Same.new hx
    have hs : SeqAt.shaped (.list []) = true := rfl
    have e : PyData.eqv (.list (pyA ds)) (.list []) = ds.isEmpty := by cases ds <;> rfl
    refine ⟨.list (pyA ds), .list [], .lst (.inl (.inl (sx _ _ (s2 _ _ (s _ _ h))))) (TpA.dp (((t.same s).same s2).same sx) fl), .lst (.inl (.inl upd_same)) .nil, sh, hs, _, rfl, ?_⟩
    rw [e]
    exact k _ (Same.newer s2 hx)⟩
theorem pyA_nums (ns : List Int) : pyA (ns.map D.num) = ns.map PyData.int := by
  induction ns with
  | nil => rfl
  | cons n ns ih => simp [pyA, py, ih]
theorem flatA_nums (ns : List Int) : flatA (ns.map D.num) = true := by
  induction ns with
  | nil => rfl
  | cons n ns ih => simp [flatA, flat, ih]
theorem et_neNums {a : Addr} {ns : List Int} (ha : EvV te σ H (.ref a)) (h : H a = some (.lst (ns.map V.int))) : EvT (tTest (tOp (rNeD K) te (tLst tNil))) σ H (!ns.isEmpty) := by
  have := et_neNil (K := K) (C := 0) ha h (of_nums 0 H ns) (flatA_nums ns) (by rw [pyA_nums]; exact PySem.W.ke_shaped_ints ns)
  rwa [List.isEmpty_map] at this
/-! dicts whose keys are whole numbers, whose values are True -/
def knd (kn : List Int) : List (Key × V) := kn.map fun r => (Sum.inl r, V.bl true)
theorem knd_get (kn : List Int) (r : Int) : (valV (knd kn) (.inl r : Key)).isSome = decide (r ∈ kn) := by
  unfold valV knd
  rw [Option.isSome_map]
  induction kn with
  | nil => rfl
  | cons k kn ih =>
    rw [List.map_cons, List.find?_cons]
    by_cases h : k = r
    · subst h; simp
    · have h1 : ¬ (Sum.inl k : Key) = Sum.inl r := fun z => h (Sum.inl.inj z)
      have h2 : ¬ r = k := fun z => h z.symm
      simp only [h1, decide_false, List.mem_cons, h2, false_or]
      exact ih
theorem knd_put (kn : List Int) (r : Int) (h : r ∉ kn) : putK (knd kn) (.inl r : Key) (.bl true) = knd (kn ++ [r]) := by
  have hg := knd_get kn r
  have e : (valV (knd kn) (.inl r : Key)).isSome = false := by rw [hg]; exact decide_eq_false h
  unfold putK
  unfold valV at e
  simp only [Option.isSome_map] at e
  simp [e, knd, valV]
  exact fun z => absurd z h
/-- k not in d -/
theorem et_notIn {a : Addr} {kn : List Int} {r : Int} (hr : EvD C ta σ H (.num r)) (hd : EvV te σ H (.ref a)) (h : H a = some (.dK (knd kn))) : EvT (tTest (tDNotIn ta te)) σ H (!decide (r ∈ kn)) := fun H1 s Q q =>
  hr H1 s _ fun v H2 s2 t2 => by
    cases tp_num t2
    refine hd H2 (Same.trans s s2) _ fun H3 s3 => ⟨a, _, rfl, DGet.k (k := .inl r) (s3 _ _ (s2 _ _ (s _ _ h))), _, rfl, ?_⟩
    rw [knd_get]
    exact q H3 (Same.trans s2 s3)
/-! ### objects made -/
/-- C's __init__ is this def -/
def DfM (K : PySem.W.Frag) (C : Addr) (qual : Str) (st : Stmt) : Prop := ∃ f fd, Mk K C f ∧ FunD K "__init__" qual (defArgs st) (defBody st) (defScope st) [] [] f fd
def ClM (P : Program) (w : World) (K : PySem.W.Frag) (mg : Str → Option Value) (base : Heap) (C : Addr) (k : Nat) (ps : List Str) (sp : Sp) : Prop :=
  ∃ f fd, Mk K C f ∧ Binds K fd ps [] ∧ FnOk P w K mg base CX0 k f fd ps sp
end
section
variable {P : Program} {w : World} {K : PySem.W.Frag} {mg : Str → Option Value} {base : Heap} {C : Addr} {x : Str} {st : Stmt} {N ps : List Str} {k : Nat} {sp : Sp}
theorem DfM.cl (F : DfM K C x st) (S : FnScope N ps (defScope st))
    (hb : ∀ (kV doc pm : Value) (an : Option Addr) (cdv ct : Value) (us : List Value), us.length = ps.length → bindArgs (PySem.W.fnOf "__init__" x (defArgs st) (defBody st) (defScope st) .none kV doc pm an cdv ct) ⟨us, []⟩ = pure (ps.zip us))
    (len : ∀ vs H Q E, sp vs H Q E → vs.length = ps.length)
    (body : ∀ (f : Addr) (cdv : Value) (A : Around) (outer : List Env) (s : Shared) (H : Hp) (vs : List V) (Q : VK) (E : XK), Room k (A.deeper (envOfC x (defScope st) s.heap.objs.size f cdv)) → sp vs H Q E →
      ∃ t, PSs (cxOf CX0 P w K mg base N x (defScope st) f cdv A outer s H E).nox (defBody st) t ∧ t { nx := fun _ H' => Q .non H', rt := Q } (start N vs) H) : ClM P w K mg base C (k + 1) ps sp := by
  obtain ⟨f, fd, M, F⟩ := F
  refine ⟨f, fd, M, F.bindsN hb, F.ok S len fun cdv A outer s H vs Q E hr h => ?_⟩
  obtain ⟨t, h1, h2⟩ := body f cdv A outer s H vs Q E hr h
  exact ⟨t, h1.nox, h2⟩
end
section
variable {X : Cx} {k : Nat} {C : Addr} {x : Str} {ps : List Str} {sp : Sp} {p pos : Pos} {e : Expr} {es : List Expr} {t : TA}
theorem pe_mkc (c : ClM X.prog X.w X.K X.mg X.base C k ps sp) (hr : Room (k + 1) X.A) (hg : Gl X x) (hm : X.mg x = some (.ref C)) (ha : PA X (e :: es) t) (hdb : (x == ("__debug__" : Str)) = false := by decide)
    (he : starEach (e :: es) X.env = (false, eval e X.env) :: starEach es X.env := by rfl) (hpl : (backTo pos (starEach es X.env)).any (·.1) = false := by rfl) :
    PE X (.Call (.Name x p) (e :: es) [] pos) (tMake C sp [] E0 t) := by
  obtain ⟨f, fd, M, hb, F⟩ := c
  exact pe_make M F hr hg hm hb .nil pass0 ha hdb he hpl
end
/-- the promise of House.__init__ -/
def spInit (C : Addr) (pre : Int → List Door → Prop) : Sp := fun vs H Q _ => ∃ x dx r b ds, vs = [.ref x, .int r, .ref b] ∧ H x = some (.ins C dx []) ∧ Tp C H (.ref b) (.tup (ds.map doorD)) ∧ pre r ds ∧ ∀ H', Same H H' → Q .non (upd H' x (.ins C dx (hflds r b)))
theorem ev_make {C : Addr} {pre : Int → List Door → Prop} {as : TA} {σ : L2.St} {H : Hp} {r : Int} {ds : List Door} (ha : EvA C as σ H [.num r, .tup (ds.map doorD)]) (hp : pre r ds) : EvD C (tMake C (spInit C pre) [] E0 as) σ H (.hs r ds) := fun H1 s Q q =>
  ha H1 s _ fun vs H2 s2 t x dx hx hdx ne => by
    obtain ⟨v, _, rfl, t1, t⟩ := tpa_cons t
    obtain ⟨v', _, rfl, t2, t⟩ := tpa_cons t
    cases tpa_nil t
    cases tp_num t1
    obtain ⟨b, xs, rfl, hb, tr⟩ := tp_tup t2
    have sa : Same H2 (upd (upd H2 dx (.own x)) x (.ins C dx [])) := Same.newer (Same.new hdx) (by rw [upd_ne (Ne.symm ne)]; exact hx)
    have hd : Tp C (upd (upd H2 dx (.own x)) x (.ins C dx [])) (.ref b) (.tup (ds.map doorD)) := t2.same sa
    refine ⟨x, dx, r, b, ds, rfl, upd_same, hd, hp, fun H' s' => ⟨rfl, ?_⟩⟩
    have sb : Same H2 H' := Same.trans sa s'
    have sc : Same H2 (upd H' x (.ins C dx (hflds r b))) := Same.put sb hx
    refine q _ _ (Same.trans s2 sc) (.hs upd_same (sc _ _ hb) ?_)
    exact tp_doors (tr.same sc)
/-- self.f = e -/
theorem st_fld {C a dx : Addr} {K : PySem.W.Frag} {tv : TE} {f : Str} {rest : TS} {Ds : Ends} {σ : L2.St} {H : Hp} {d : D} {i : Nat} {fs : List (Str × V)} (hv : σ[i]? = some (some (.ref a))) (h : H a = some (.ins C dx fs)) (cl : Cls K C) (na : NoAttr K C f) (hl : fs.length < 1000)
    (he : EvD C tv σ H d) (k : ∀ v H2, Same H H2 → Tp C H2 v d → rest Ds σ (upd H2 a (.ins C dx (putF f v fs)))) : tSeq (sFld K (tVar i) tv f) rest Ds σ H :=
  he H (Same.refl _) _ fun v H2 s t => ⟨_, hv, a, C, dx, fs, rfl, s _ _ h, cl, na, hl, k v H2 s t⟩
theorem st_fld1 {C a dx : Addr} {K : PySem.W.Frag} {tv : TE} {f : Str} {Ds : Ends} {σ : L2.St} {H : Hp} {d : D} {i : Nat} {fs : List (Str × V)} (hv : σ[i]? = some (some (.ref a))) (h : H a = some (.ins C dx fs)) (cl : Cls K C) (na : NoAttr K C f) (hl : fs.length < 1000)
    (he : EvD C tv σ H d) (k : ∀ v H2, Same H H2 → Tp C H2 v d → Ds.nx σ (upd H2 a (.ins C dx (putF f v fs)))) : sFld K (tVar i) tv f Ds σ H :=
  he H (Same.refl _) _ fun v H2 s t => ⟨_, hv, a, C, dx, fs, rfl, s _ _ h, cl, na, hl, k v H2 s t⟩
end Y

set_option Elab.async false
set_option linter.all false
set_option maxRecDepth 100000
set_option maxHeartbeats 4000000
/-! Dicts with nested tuple keys, mirrored by lists of keys and whole numbers. -/
namespace Y
open PySem PySem.Spec PyProof.Rows L2
/-- the keys as data -/
structure KD {κ : Type} (kD : κ → D) : Prop where
  inj : ∀ a b, nk (kD a) = nk (kD b) → a = b
  fl : ∀ k, flat (kD k) = true
  dp : ∀ k, (nk (kD k)).depth ≤ 8
  tup : ∀ k, ∃ ds, kD k = .tup ds
def MR {κ : Type} (kD : κ → D) (m : List (κ × Int)) (xs : List En) : Prop := Paired (fun p (x : En) => x.1 = kD p.1 ∧ x.2.2 = V.int p.2) m xs
section
variable {κ : Type} [DecidableEq κ] {kD : κ → D} {m : List (κ × Int)} {xs : List En}
theorem mr_len (h : MR kD m xs) : m.length = xs.length := Paired.length h
theorem mr_get (K : KD kD) (h : MR kD m xs) (k : κ) : enGet xs (kD k) = (MS.look m k).map V.int := by
  unfold MR at h
  induction h with
  | nil => rfl
  | @cons p x ps xs e t ih =>
    obtain ⟨e1, e2⟩ := e
    by_cases hk : p.1 = k
    · have h' : nk x.1 = nk (kD k) := by rw [e1, hk]
      simp only [enGet, MS.look, List.find?_cons, hk, h', decide_true, Option.map_some, e2]
    · have h' : ¬ nk x.1 = nk (kD k) := fun z => hk (K.inj _ _ (by rw [← e1]; exact z))
      simp only [enGet, MS.look, List.find?_cons, hk, h', decide_false] at ih ⊢
      exact ih
theorem mr_any (K : KD kD) (h : MR kD m xs) (k : κ) : (enGet xs (kD k)).isSome = m.any fun p => decide (p.1 = k) := by
  rw [mr_get K h, Option.isSome_map]
  unfold MS.look
  rw [Option.isSome_map]
  clear h
  induction m with
  | nil => rfl
  | cons p m ih =>
    rw [List.find?_cons, List.any_cons]
    cases decide (p.1 = k) <;> simp_all
theorem mr_put (K : KD kD) (h : MR kD m xs) (k : κ) (a : Addr) (v : Int) : MR kD (MS.put m k v) (enPut xs (kD k) a (.int v)) := by
  have e := mr_any K h k
  unfold enPut MS.put
  rw [e]
  by_cases c : (m.any fun p => decide (p.1 = k)) = true
  · rw [if_pos c, if_pos c]
    clear c e
    unfold MR at h ⊢
    induction h with
    | nil => exact .nil
    | @cons p x ps xs e t ih =>
      refine .cons ?_ ih
      obtain ⟨e1, e2⟩ := e
      by_cases hk : p.1 = k
      · have h' : nk x.1 = nk (kD k) := by rw [e1, hk]
        dsimp only
        rw [if_pos h', if_pos hk]; exact ⟨e1, rfl⟩
      · have h' : ¬ nk x.1 = nk (kD k) := fun z => hk (K.inj _ _ (by rw [← e1]; exact z))
        dsimp only
        rw [if_neg h', if_neg hk]; exact ⟨e1, e2⟩
  · rw [if_neg c, if_neg c]
    clear c e
    unfold MR at h ⊢
    induction h with
    | nil => exact .cons ⟨rfl, rfl⟩ .nil
    | cons e t ih => exact .cons e ih
theorem mr_vals (h : MR kD m xs) : xs.map (·.2.2) = (m.map (·.2)).map V.int := by
  unfold MR at h
  induction h with
  | nil => rfl
  | cons e t ih => simp only [List.map_cons, ih, e.2]
theorem mr_at {i : Nat} {p : κ × Int} (h : MR kD m xs) (hp : m[i]? = some p) : ∃ x, xs[i]? = some x ∧ x.1 = kD p.1 ∧ x.2.2 = V.int p.2 := by
  unfold MR at h
  induction h generalizing i with
  | nil => simp at hp
  | cons e t ih =>
    cases i with
    | zero => simp at hp; subst hp; exact ⟨_, rfl, e⟩
    | succ i => exact ih (by simpa using hp)
theorem mr_at' {i : Nat} {x : En} (h : MR kD m xs) (hx : xs[i]? = some x) : ∃ p, m[i]? = some p ∧ x.1 = kD p.1 ∧ x.2.2 = V.int p.2 := by
  unfold MR at h
  induction h generalizing i with
  | nil => simp at hx
  | cons e t ih =>
    cases i with
    | zero => simp at hx; subst hx; exact ⟨_, rfl, e⟩
    | succ i => exact ih (by simpa using hx)
end
/-- the dict at d holds m -/
def MD (P : Program) (w : World) (C : Addr) {κ : Type} (kD : κ → D) (H : Hp) (d : Addr) (m : List (κ × Int)) : Prop := ∃ xs, ND P w C H d xs ∧ MR kD m xs
section
variable {P : Program} {w : World} {K : PySem.W.Frag} {C d p a : Addr} {κ : Type} [DecidableEq κ] {kD : κ → D} {H H' H1 : Hp} {m : List (κ × Int)} {k : κ} {n : Int} {σ : L2.St} {Ds : Ends} {i j l : Nat}
theorem notImm_nd {xs : List En} (h : H d = some (ndO P w d xs)) : ∀ o, H d = some o → ¬ Imm o := fun o e z => by
  rw [h] at e; cases e; exact z
theorem MD.same (h : MD P w C kD H d m) (s : Same H H') : MD P w C kD H' d m := by
  obtain ⟨xs, nd, r⟩ := h
  exact ⟨xs, nd.stay (Same.stay s) (s _ _ nd.at_), r⟩
theorem MD.but (h : MD P w C kD H d m) (ne : p ≠ d) (s : But p H H') (st : Stay H H') : MD P w C kD H' d m := by
  obtain ⟨xs, nd, r⟩ := h
  exact ⟨xs, nd.stay st (s _ _ (Ne.symm ne) nd.at_), r⟩
theorem MD.notImm (h : MD P w C kD H d m) : ∀ o, H d = some o → ¬ Imm o := let ⟨_, nd, _⟩ := h; notImm_nd nd.at_
theorem MD.some (h : MD P w C kD H d m) : H d ≠ none := let ⟨_, nd, _⟩ := h; by rw [nd.at_]; simp
theorem md_new (h : H p = none) : MD P w C kD (upd H p (ndO P w p [])) p ([] : List (κ × Int)) := ⟨[], ⟨upd_same, fun x hx => nomatch hx⟩, .nil⟩
theorem MD.put (KK : KD kD) (h : MD P w C kD H d m) (ta : Tp C H (.ref a) (kD k)) (v : Int) : ∃ o, (∃ xs, H d = .some (ndO P w d xs) ∧ ND P w C H d xs ∧ MR kD m xs ∧ o = ndO P w d (enPut xs (kD k) a (.int v))) ∧ MD P w C kD (upd H d o) d (MS.put m k v) := by
  obtain ⟨xs, nd, r⟩ := h
  refine ⟨_, ⟨xs, nd.at_, nd, r, rfl⟩, _, ⟨upd_same, fun x hx => ?_⟩, mr_put KK r k a v⟩
  have st : Stay H (upd H d (ndO P w d (enPut xs (kD k) a (.int v)))) := But.stay (p := d) but_up (notImm_nd nd.at_)
  exact (enPut_keys _ nd.keys ⟨ta, KK.fl k, KK.dp k⟩ x hx).stay st
/-- found[key] = found.get(key, 0) + many -/
theorem st_ndadd (KK : KD kD) (hd : σ[i]? = .some (.some (.ref d))) (hk : σ[j]? = .some (.some (.ref a))) (hn : σ[l]? = .some (.some (.int n))) (M : MD P w C kD H d m) (ta : Tp C H (.ref a) (kD k)) (hl : m.length < sizeLine)
    (q : ∀ H', But d H H' → MD P w C kD H' d (MS.put m k ((MS.look m k).getD 0 + n)) → Ds.nx σ H') : sNdPut P w C (tVar i) (tVar j) (tOp rAdd (tNdGet2 P w C (tVar i) (tVar j) (tC (.int 0))) (tVar l)) Ds σ H := by
  obtain ⟨o, ⟨xs, e, nd, r, rfl⟩, M2⟩ := M.put KK ta ((MS.look m k).getD 0 + n)
  have ka : KeyAt C H a (kD k) := ⟨ta, KK.fl k, KK.dp k⟩
  have g : (enGet xs (kD k)).getD (.int 0) = .int ((MS.look m k).getD 0) := by
    rw [mr_get KK r]
    cases MS.look m k <;> rfl
  refine ⟨_, hd, d, xs, rfl, nd, _, hk, a, kD k, rfl, nd, ka, _, hn, ?_⟩
  rw [g]
  refine ⟨_, _, rfl, rfl, _, hd, _, hk, d, xs, a, kD k, rfl, rfl, nd, by rw [← mr_len r]; exact hl, ka, q _ but_up M2⟩
end
/-- the promise of put_many -/
def spPut (P : Program) (w : World) (C : Addr) : Sp := fun vs H Q _ => ∃ (κ : Type) (_ : DecidableEq κ) (kD : κ → D) (d a : Addr) (m : List (κ × Int)) (k : κ) (n : Int), KD kD ∧ vs = [.ref d, .ref a, .int n] ∧ MD P w C kD H d m ∧ Tp C H (.ref a) (kD k) ∧ m.length < sizeLine ∧
  ∀ H', But d H H' → MD P w C kD H' d (MS.add m k n) → Q .non H'
section
variable {P : Program} {w : World} {K : PySem.W.Frag} {C d p a : Addr} {κ : Type} [DecidableEq κ] {kD : κ → D} {H H' H1 : Hp} {m : List (κ × Int)} {k : κ} {n : Int} {σ : L2.St} {Ds : Ends} {i j l : Nat} {tk tn : TE}
theorem st_put (KK : KD kD) (hd : σ[i]? = .some (.some (.ref d))) (M : MD P w C kD H d m) (hl : m.length < sizeLine) (hk : EvD C tk σ H (kD k)) (hn : EvD C tn σ H (.num n)) (q : ∀ H', But d H H' → MD P w C kD H' d (MS.add m k n) → Ds.nx σ H') :
    tDrop (tCall (spPut P w C) [] E0 (tCons (tVar i) (tCons tk (tCons tn tNil)))) Ds σ H := by
  refine ⟨_, hd, hk H (Same.refl _) _ fun v1 H2 s2 t2 => hn H2 s2 _ fun v3 H3 s3 t3 => ?_⟩
  obtain ⟨ds, e⟩ := KK.tup k
  cases tp_num t3
  have t2' := t2
  rw [e] at t2'
  obtain ⟨a, xs, rfl, _⟩ := tp_tup t2'
  have s23 := Same.trans s2 s3
  exact ⟨κ, inferInstance, kD, d, a, m, k, n, KK, rfl, M.same s23, t2.same s3, hl, fun H' b M' => q H' (But.trans (Same.but s23) b) M'⟩
/-- G is H with d locked -/
def Fz (d : Addr) (H G : Hp) : Prop := ∃ od u, H d = .some u ∧ ¬ Imm u ∧ G = upd H d (.frz od u)
theorem Fz.stay {G : Hp} (f : Fz d H G) : Stay H G := by
  obtain ⟨od, u, e, n, rfl⟩ := f
  intro b o eb i
  rw [upd_ne (fun z => by subst z; rw [e] at eb; cases eb; exact n i)]
  exact eb
theorem Fz.ne {G : Hp} (f : Fz d H G) {b : Addr} (h : b ≠ d) : G b = H b := by
  obtain ⟨od, u, e, n, rfl⟩ := f
  exact upd_ne h
theorem Fz.notImm {G : Hp} (f : Fz d H G) : ∀ o, G d = .some o → ¬ Imm o := by
  obtain ⟨od, u, e, n, rfl⟩ := f
  intro o eo i
  rw [upd_same] at eo
  cases eo
  exact i
theorem Fz.at_ {G : Hp} (f : Fz d H G) : ∃ o, G d = .some o := by
  obtain ⟨od, u, e, n, rfl⟩ := f
  exact ⟨_, upd_same⟩
theorem MD.fz {G : Hp} (f : Fz d H G) (ne : p ≠ d) (M : MD P w C kD H p m) : MD P w C kD G p m := by
  obtain ⟨xs, nd, r⟩ := M
  exact ⟨xs, nd.stay f.stay (by rw [f.ne ne]; exact nd.at_), r⟩
/-- what holds of the new dict p when the lock is off -/
theorem MD.off {κ2 : Type} {kD2 : κ2 → D} {m2 : List (κ2 × Int)} {u : HO} (ne : p ≠ d) (n : ∀ o, H' d = .some o → ¬ Imm o) (M : MD P w C kD2 H' p m2) : MD P w C kD2 (upd H' d u) p m2 := by
  obtain ⟨xs, nd, r⟩ := M
  exact ⟨xs, nd.stay (But.stay but_up n) (by rw [upd_ne ne]; exact nd.at_), r⟩
/-- the lock is off; all but p (new) is as it was -/
theorem Fz.off {G : Hp} {u : HO} (f : Fz d H G) (hu : H d = .some u) (hp : H p = none) (b : But p G H') : Same H (upd H' d u) := by
  intro c o e
  by_cases h : c = d
  · subst h
    rw [upd_same, ← hu, e]
  · rw [upd_ne h]
    exact b c o (ne_of_none e hp) (by rw [f.ne h]; exact e)
/-- for (key, many) in d.items(): under the lock -/
theorem st_ni {g : TG} {tb : TS} (hv : σ[i]? = .some (.some (.ref d))) (M : MD P w C kD H d m) (J : Hp → Nat → L2.St → Hp → Prop)
    (h0 : ∀ G, Fz d H G → J G 0 σ G)
    (hst : ∀ G i σ' H', Fz d H G → J G i σ' H' → Stay G H' ∧ H' d = G d)
    (hs : ∀ G i k n x σ' H' H'', Fz d H G → m[i]? = .some (k, n) → J G i σ' H' → Same H' H'' → Tp C H'' x (.tup [kD k, .num n]) → ∃ σ2, GB g σ' H'' x σ2 ∧ ∀ R1 R2, tb { nx := J G (i + 1), rt := R1, bk := R2, ct := J G (i + 1) } σ2 H'')
    (hd : ∀ G σ' H' u, Fz d H G → J G m.length σ' H' → H d = .some u → Ds.nx σ' (upd H' d u)) : tLock (tFor (iNi P w (tVar i)) g tb) Ds σ H := by
  obtain ⟨xs, nd, r⟩ := M
  refine ⟨d, _, nd.at_, True.intro, fun od => ?_⟩
  have f : Fz d H (upd H d (.frz od (ndO P w d xs))) := ⟨od, _, nd.at_, fun z => z, rfl⟩
  have gd : upd H d (.frz od (ndO P w d xs)) d = .some (.frz od (ndO P w d xs)) := upd_same
  have hl := mr_len r
  refine ⟨_, hv, d, od, xs, rfl, gd, for_any (n := xs.length) (J (upd H d (.frz od (ndO P w d xs)))) (h0 _ f) (fun i σ' H' hi j => ⟨(hst _ _ _ _ f j).2.trans gd, hi⟩) (fun σ' H' j => ⟨(hst _ _ _ _ f j).2.trans gd, Nat.le_refl _⟩) ?_ (fun σ' H' j => ?_)⟩
  · rintro i x σ' H' H'' hi j ⟨T, en, he, rfl, hT, rfl⟩
    obtain ⟨⟨k, n⟩, hp, e1, e2⟩ := mr_at' r he
    have ka := nd.keys en (List.mem_of_getElem? he)
    have s2 : Same H' (upd H' T (.tup [.ref en.2.1, en.2.2])) := Same.new hT
    have tk : Tp C (upd H' T (.tup [.ref en.2.1, en.2.2])) (.ref en.2.1) (kD k) := by
      rw [← e1]
      exact ((ka.tp.stay f.stay).stay (hst _ _ _ _ f j).1).same s2
    have tx : Tp C (upd H' T (.tup [.ref en.2.1, en.2.2])) (.ref T) (.tup [kD k, .num n]) := by
      refine .tup upd_same (.cons tk (.cons ?_ .nil))
      rw [e2]; exact .num n
    obtain ⟨σ2, g2, b2⟩ := hs _ i k n _ σ' H' _ f hp j s2 tx
    exact g2 _ (b2 _ _)
  · rw [← hl] at j
    exact ⟨(hst _ _ _ _ f j).2.trans gd, hd _ _ _ _ f j nd.at_⟩
/-- a new dict that holds m -/
def EvN (P : Program) (w : World) (C : Addr) {κ : Type} (kD : κ → D) (te : TE) (σ : L2.St) (H : Hp) (m : List (κ × Int)) : Prop := ∀ H1, Same H H1 → ∀ Q : VK, (∀ d H2, Same H1 H2 → H1 d = none → MD P w C kD H2 d m → Q (.ref d) H2) → te σ H1 Q
/-- over the keys of a new dict that nobody else sees: it stays locked -/
def iNkL (P : Program) (w : World) (td : TE) : TI := fun σ H R => td σ H fun x H1 => ∃ d xs, x = .ref d ∧ H1 d = .some (ndO P w d xs) ∧ ∀ od, R (Itnk P w d od xs) (upd H1 d (.frz od (ndO P w d xs)))
theorem pi_nkL {X : Cx} {tg e : Expr} {td : TE} (he : PE X e td) : PI X tg e (iNkL X.prog X.w td) := by
  refine ⟨fun pins s σ H R I h => ?_⟩
  refine thn (he.run pins s σ H _ I h) fun u s1 ⟨x, H1, I1, rx, d, xs, ex, hd, q⟩ => ?_
  subst ex
  obtain rfl : u = Value.ref d := rx
  obtain ⟨od, I2⟩ := I1.lock hd True.intro
  have q := q od
  obtain ⟨hs, hgd, hx, es, ep, hdt, hsz, ent⟩ := frzN I2 (o := od) (xs := xs) upd_same
  refine iter_keys hs hgd hx hdt (pi_one (tk := s1.toks) I2 _ (turn_nk _ hdt) ⟨_, Heap.get?_push_size _ rfl, rfl, ?_⟩ q)
  rw [hsz] <;> rfl
theorem st_nkL {g : TG} {tb : TS} {td : TE} (h : EvN P w C kD td σ H m) (J : Hp → Nat → L2.St → Hp → Prop)
    (h0 : ∀ G, Same H G → J G 0 σ G)
    (hst : ∀ G i σ' H', Same H G → J G i σ' H' → Same G H')
    (hs : ∀ G i k n x σ' H', Same H G → m[i]? = .some (k, n) → J G i σ' H' → Tp C H' x (kD k) → ∃ σ2, GB g σ' H' x σ2 ∧ tb { nx := J G (i + 1), rt := Ds.rt, bk := Ds.nx, ct := J G (i + 1) } σ2 H')
    (hd : ∀ G σ' H', Same H G → J G m.length σ' H' → Ds.nx σ' H') : tFor (iNkL P w td) g tb Ds σ H := by
  refine h H (Same.refl _) _ fun d H2 s2 hn M => ?_
  obtain ⟨xs, nd, r⟩ := M
  refine ⟨d, xs, rfl, nd.at_, fun od => ?_⟩
  have f : Fz d H2 (upd H2 d (.frz od (ndO P w d xs))) := ⟨od, _, nd.at_, fun z => z, rfl⟩
  have sG : Same H (upd H2 d (.frz od (ndO P w d xs))) := Same.put s2 hn
  have gd : upd H2 d (.frz od (ndO P w d xs)) d = .some (.frz od (ndO P w d xs)) := upd_same
  have hl := mr_len r
  refine for_any (n := xs.length) (J (upd H2 d (.frz od (ndO P w d xs)))) (h0 _ sG) (fun i σ' H' hi j => ⟨hst _ _ _ _ sG j _ _ gd, hi⟩) (fun σ' H' j => ⟨hst _ _ _ _ sG j _ _ gd, Nat.le_refl _⟩) ?_ (fun σ' H' j => hd _ _ _ sG (by rw [hl]; exact j))
  rintro i x σ' H' H'' hi j ⟨rfl, en, he, rfl⟩
  obtain ⟨⟨k, n⟩, hp, e1, e2⟩ := mr_at' r he
  have ka := nd.keys en (List.mem_of_getElem? he)
  have tk : Tp C H'' (.ref en.2.1) (kD k) := by
    rw [← e1]
    exact (ka.tp.stay f.stay).same (hst _ _ _ _ sG j)
  obtain ⟨σ2, g2, b2⟩ := hs _ i k n _ σ' H'' sG hp j tk
  exact g2 _ b2
/-- the sum of a dict's values -/
theorem ev_sumV {ta : TE} (ha : ∀ H1, Same H H1 → ∀ Q : VK, (∀ d H2, Same H1 H2 → MD P w C kD H2 d m → Q (.ref d) H2) → ta σ H1 Q) : EvD C (tCB (rSumV P w C) (tCons (tNdVals P w C ta) tNil)) σ H (.num (MS.ls m fun p => p.2)) := fun H1 s Q q =>
  ha H1 s _ fun d H2 s2 ⟨xs, nd, r⟩ => ⟨d, xs, rfl, nd, fun p hp => by
    have sn : Same H2 (upd H2 p (valO p d)) := Same.new hp
    refine ⟨p, d, xs, m.map (·.2), rfl, upd_same, nd.stay (Same.stay sn) (sn _ _ nd.at_), mr_vals r, ?_⟩
    exact q _ _ (Same.trans s2 sn) (.num _)⟩
end
section
variable {C : Addr} {K : PySem.W.Frag} {H : Hp} {σ : L2.St} {x : V} {g1 : TG} {j : Nat} {d : D} {n : Int} {ta tb : TE} {i : Int}
/-- a pair whose first part has a target of its own -/
theorem gb_nest (h : Tp C H x (.tup [d, .num n])) : ∃ v, Tp C H v d ∧ ∀ σ1, GB g1 σ H v σ1 → GB (gTup K 2 (gCons g1 (gCons (gName j) gNil))) σ H x (σ1.set j (.some (.int n))) := by
  obtain ⟨p, xs, rfl, hx, r⟩ := tp_tup h
  obtain ⟨v, _, rfl, r1, r⟩ := tpa_cons r
  obtain ⟨_, _, rfl, r2, r⟩ := tpa_cons r
  cases tpa_nil r; cases tp_num r2
  exact ⟨v, r1, fun σ1 hg Q q => ⟨p, _, rfl, .inl (.inl hx), rfl, _, _, rfl, hg _ ⟨_, _, rfl, rfl, q⟩⟩⟩
theorem ev_mulR {m : Int} (ha : EvD C ta σ H (.num i)) (hb : EvD C tb σ H (.num m)) (hm : m.natAbs < 2 ^ 64) : EvD C (tOp (rI CMul fun i j => .int (i * j)) ta tb) σ H (.num (i * m)) :=
  ev_opIC (g := fun i j => i * j) ha hb (.inr ⟨by omega, by omega⟩)
theorem ev_mulL {m : Int} (ha : EvD C ta σ H (.num i)) (hb : EvD C tb σ H (.num m)) (hm : i.natAbs < 2 ^ 64) : EvD C (tOp (rI CMul fun i j => .int (i * j)) ta tb) σ H (.num (i * m)) :=
  ev_opIC (g := fun i j => i * j) ha hb (.inl ⟨by omega, by omega⟩)
theorem ev_fdiv {m : Int} (ha : EvD C ta σ H (.num i)) (hb : EvD C tb σ H (.num m)) (h0 : m ≠ 0) (hm : m.natAbs < 1073741824) : EvD C (tOp (rI CDivN fun i j => .int (Int.fdiv i j)) ta tb) σ H (.num (Int.fdiv i m)) :=
  ev_opIC (g := Int.fdiv) ha hb ⟨h0, hm⟩
theorem ev_fmod {m : Int} (ha : EvD C ta σ H (.num i)) (hb : EvD C tb σ H (.num m)) (h0 : m ≠ 0) : EvD C (tOp (rI (fun _ j => j ≠ 0) fun i j => .int (Int.fmod i j)) ta tb) σ H (.num (Int.fmod i m)) :=
  ev_opIC (g := Int.fmod) ha hb h0
end
section
variable {P : Program} {w : World} {K : PySem.W.Frag} {C d p a : Addr} {κ : Type} [DecidableEq κ] {kD : κ → D} {H H' H1 : Hp} {m : List (κ × Int)} {k : κ} {n : Int} {σ : L2.St} {Ds : Ends} {i j l : Nat} {tk tv te : TE} {rest : TS} {e : D}
/-- {key: n} -/
theorem evn_one (KK : KD kD) (hk : EvD C tk σ H (kD k)) (hv : EvD C tv σ H (.num n)) : EvN P w C kD (tNdOne P w C tk tv) σ H [(k, n)] := fun H1 s Q q p hp => by
  have sn : Same H1 (upd H1 p (ndO P w p [])) := Same.new hp
  refine hk _ (Same.trans s sn) _ fun y H2 s2 t2 => hv H2 (Same.trans (Same.trans s sn) s2) _ fun v H3 s3 t3 => ?_
  cases tp_num t3
  obtain ⟨ds, ek⟩ := KK.tup k
  have t2' := t2
  rw [ek] at t2'
  obtain ⟨a, xs, rfl, _⟩ := tp_tup t2'
  have s23 := Same.trans s2 s3
  have e3 : H3 p = .some (ndO P w p []) := s23 _ _ upd_same
  have ta := t2.same s3
  refine ⟨a, kD k, rfl, e3, ⟨ta, KK.fl k, KK.dp k⟩, q p _ (Same.put (Same.trans sn s23) hp) hp ?_⟩
  have st : Stay H3 (upd H3 p (ndO P w p [(kD k, a, .int n)])) := But.stay (p := p) but_up (notImm_nd e3)
  refine ⟨_, ⟨upd_same, fun x hx => ?_⟩, .cons ⟨rfl, rfl⟩ .nil⟩
  have : x = (kD k, a, .int n) := by simpa using hx
  subst this
  exact ⟨ta.stay st, KK.fl k, KK.dp k⟩
theorem st_setN (h : EvN P w C kD te σ H m) (q : ∀ d H2, Same H H2 → H d = none → MD P w C kD H2 d m → rest Ds (σ.set i (.some (.ref d))) H2) : tSeq (tAsg te (gName i)) rest Ds σ H := h H (Same.refl _) _ q
theorem st_retN (h : EvN P w C kD te σ H m) (q : ∀ d H2, Same H H2 → H d = none → MD P w C kD H2 d m → Ds.rt (.ref d) H2) : tRet te Ds σ H := h H (Same.refl _) _ q
/-- f(..) as a statement -/
theorem st_drop (h : EvD C te σ H e) (q : ∀ H2, Same H H2 → rest Ds σ H2) : tSeq (tDrop te) rest Ds σ H := h H (Same.refl _) _ fun _ H2 s _ => q H2 s
theorem st_drop1 (h : EvD C te σ H e) (q : ∀ H2, Same H H2 → Ds.nx σ H2) : tDrop te Ds σ H := h H (Same.refl _) _ fun _ H2 s _ => q H2 s
end
end Y

set_option Elab.async false
set_option linter.all false
set_option maxRecDepth 100000
set_option maxHeartbeats 4000000
/-! Lists of whole numbers, lists of such lists; comprehensions that make them. -/
namespace Y
open PySem PySem.Spec PyProof.Rows L2
def IL (ns : List Int) (H : Hp) (v : V) : Prop := ∃ a, v = .ref a ∧ H a = some (.lst (ns.map V.int))
def LL (rows : List (List Int)) (H : Hp) (v : V) : Prop := ∃ a vs, v = .ref a ∧ H a = some (.lst vs) ∧ Paired (fun v r => IL r H v) vs rows
/-- a reading that comes to a value that has Pr -/
def EvP (te : TE) (σ : L2.St) (H : Hp) (Pr : Hp → V → Prop) : Prop := ∀ H1, Same H H1 → ∀ Q : VK, (∀ v H2, Same H1 H2 → Pr H2 v → Q v H2) → te σ H1 Q
section
variable {C : Addr} {K : PySem.W.Frag} {te ta tb : TE} {as : TA} {σ : L2.St} {H H' : Hp} {v : V} {ns row : List Int} {rows : List (List Int)} {n : Int} {i : Nat} {d : D} {ds : List D}
theorem IL.same (h : IL ns H v) (s : Same H H') : IL ns H' v := let ⟨a, e, x⟩ := h; ⟨a, e, s _ _ x⟩
theorem pil_same (s : Same H H') : ∀ {vs : List V} {rows : List (List Int)}, Paired (fun v r => IL r H v) vs rows → Paired (fun v r => IL r H' v) vs rows
  | _, _, .nil => .nil
  | _, _, .cons a b => .cons (a.same s) (pil_same s b)
theorem LL.same (h : LL rows H v) (s : Same H H') : LL rows H' v := let ⟨a, vs, e, x, p⟩ := h; ⟨a, vs, e, s _ _ x, pil_same s p⟩
theorem evp_il (hv : σ[i]? = some (some v)) (h : IL ns H v) : EvP (tVar i) σ H (IL ns) := fun H1 s _ q => ⟨v, hv, q v H1 (Same.refl _) (h.same s)⟩
theorem evp_ll (hv : σ[i]? = some (some v)) (h : LL rows H v) : EvP (tVar i) σ H (LL rows) := fun H1 s _ q => ⟨v, hv, q v H1 (Same.refl _) (h.same s)⟩
theorem pil_get : ∀ {vs : List V} {rows : List (List Int)} {i : Nat} {row : List Int}, Paired (fun v r => IL r H v) vs rows → rows[i]? = some row → ∃ v, vs[i]? = some v ∧ IL row H v
  | _, _, 0, _, .cons a _, e => by simp at e; subst e; exact ⟨_, rfl, a⟩
  | _, _, i + 1, _, .cons _ b, e => by
    obtain ⟨v, h1, h2⟩ := pil_get (i := i) b (by simpa using e)
    exact ⟨v, by simpa using h1, h2⟩
  | _, _, _, _, .nil, e => by simp at e
/-- ns[i] -/
theorem ev_ixL (ha : EvP ta σ H (IL ns)) (hb : EvD C tb σ H (.num (i : Int))) (hn : ns[i]? = some n) : EvD C (tOp (rIxL K) ta tb) σ H (.num n) := fun H1 s Q q =>
  ha H1 s _ fun v H2 s2 p => hb H2 (Same.trans s s2) _ fun w H3 s3 t3 => by
    obtain ⟨a, rfl, e⟩ := p
    cases tp_num t3
    refine ⟨a, _, (i : Int), _, rfl, rfl, .inl (.inl (s3 _ _ e)), atI_nat (v := .int n) (by rw [List.getElem?_map, hn]; rfl), q _ H3 (Same.trans s2 s3) (.num _)⟩
/-- rows[i] -/
theorem evp_ixLL (ha : EvP ta σ H (LL rows)) (hb : EvD C tb σ H (.num (i : Int))) (hn : rows[i]? = some row) : EvP (tOp (rIxL K) ta tb) σ H (IL row) := fun H1 s Q q =>
  ha H1 s _ fun v H2 s2 p => hb H2 (Same.trans s s2) _ fun w H3 s3 t3 => by
    obtain ⟨a, vs, rfl, e, pr⟩ := p
    cases tp_num t3
    obtain ⟨x, h1, h2⟩ := pil_get pr hn
    exact ⟨a, _, (i : Int), x, rfl, rfl, .inl (.inl (s3 _ _ e)), atI_nat h1, q x H3 (Same.trans s2 s3) (h2.same s3)⟩
theorem ixN_neg {n k : Nat} (h : k < n) : ixN n (-((k : Int) + 1)) = some (n - 1 - k) := by
  unfold ixN
  rw [if_neg (by omega), if_pos (by omega)]
  congr 1
  omega
/-- rows[-1], rows[-2] -/
theorem evp_ixNeg {j : Int} {k : Nat} (ha : EvP ta σ H (LL rows)) (hb : EvD C tb σ H (.num j)) (hj : j = -((k : Int) + 1)) (hk : k < rows.length) (hn : rows[rows.length - 1 - k]? = some row) : EvP (tOp (rIxL K) ta tb) σ H (IL row) := fun H1 s Q q =>
  ha H1 s _ fun v H2 s2 p => hb H2 (Same.trans s s2) _ fun w H3 s3 t3 => by
    obtain ⟨a, vs, rfl, e, pr⟩ := p
    cases tp_num t3
    obtain ⟨x, h1, h2⟩ := pil_get pr hn
    have hl : vs.length = rows.length := Paired.length pr
    refine ⟨a, _, j, x, rfl, rfl, .inl (.inl (s3 _ _ e)), ?_, q x H3 (Same.trans s2 s3) (h2.same s3)⟩
    unfold atI
    rw [hj, hl, ixN_neg hk]
    exact h1
theorem ev_lenLL (ha : EvP ta σ H (LL rows)) : EvD C (tCB (rLenS K) (tCons ta tNil)) σ H (.num (rows.length : Int)) := fun H1 s Q q =>
  ha H1 s _ fun v H2 s2 p => by
    obtain ⟨a, vs, rfl, e, pr⟩ := p
    refine ⟨a, vs, rfl, .inl (.inl (.inl e)), ?_⟩
    rw [show vs.length = rows.length from Paired.length pr]
    exact q _ H2 s2 (.num _)
theorem ev_lenIL (ha : EvP ta σ H (IL ns)) : EvD C (tCB (rLenS K) (tCons ta tNil)) σ H (.num (ns.length : Int)) := fun H1 s Q q =>
  ha H1 s _ fun v H2 s2 p => by
    obtain ⟨a, rfl, e⟩ := p
    refine ⟨a, _, rfl, .inl (.inl (.inl e)), ?_⟩
    rw [List.length_map]
    exact q _ H2 s2 (.num _)
theorem ev_sumIL (ha : EvP ta σ H (IL ns)) : EvD C (tCB (rSum K) (tCons ta tNil)) σ H (.num ns.sum) := fun H1 s Q q =>
  ha H1 s _ fun v H2 s2 p => by
    obtain ⟨a, rfl, e⟩ := p
    exact ⟨a, ns, rfl, .inl (.inl e), q _ H2 s2 (.num _)⟩
/-- a new list of numbers as such -/
theorem evp_new (h : EvL C te σ H ds) (e : ds = ns.map D.num) : EvP te σ H (IL ns) := fun H1 s Q q => h H1 s _ fun a vs H2 s2 hn h2 t => q _ H2 s2 ⟨a, rfl, by subst e; rw [h2, nums_of t]⟩
theorem evp_if {tt : TT} {b : Bool} {Pr : Hp → V → Prop} (ht : EvT tt σ H b) (h1 : b = true → EvP ta σ H Pr) (h2 : b = false → EvP tb σ H Pr) : EvP (tIf tt ta tb) σ H Pr := fun H1 s Q q =>
  ht H1 s _ fun H2 s2 => by
    cases b with
    | true => exact iteT (h1 rfl H2 (Same.trans s s2) Q fun v H3 s3 t => q v H3 (Same.trans s2 s3) t)
    | false => exact iteF (h2 rfl H2 (Same.trans s s2) Q fun v H3 s3 t => q v H3 (Same.trans s2 s3) t)
/-- tuple(ns) -/
theorem ev_tupIL (ha : EvP ta σ H (IL ns)) : EvD C (tCB (rTupOf K) (tCons ta tNil)) σ H (.tup (ns.map D.num)) := fun H1 s Q q =>
  ha H1 s _ fun v H2 s2 p => by
    obtain ⟨a, rfl, e⟩ := p
    exact ⟨a, _, rfl, .inl ⟨.inl (.inl e), fun l hl => q _ _ (Same.newer s2 hl) (.tup upd_same (of_nums C _ ns))⟩⟩
/-- sum of a tuple of numbers -/
def rSumT (K : PySem.W.Frag) : List V → Hp → VK → Prop := fun vs H Q => ∃ (a : Addr) (ns : List Int), vs = [V.ref a] ∧ SqT K H a (ns.map V.int) ∧ Q (.int ns.sum) H
theorem ev_sumT (ha : EvD C ta σ H (.tup (ns.map D.num))) : EvD C (tCB (rSumT K) (tCons ta tNil)) σ H (.num ns.sum) := fun H1 s Q q =>
  ha H1 s _ fun v H2 s2 t => by
    obtain ⟨a, xs, rfl, hx, r⟩ := tp_tup t
    exact ⟨a, ns, rfl, .inl (.inl (by rw [hx, nums_of r])), q _ H2 s2 (.num _)⟩
end
theorem cr_sumT {X : Cx} (hc : X.calm = true) : CallR X (.builtin "sum") (rSumT X.K) := by
  intro pins s σ H vs us Q I r h
  obtain ⟨a, ns, rfl, hs, q⟩ := h
  obtain ⟨its, rv, hl, _⟩ := I.tuple hs
  rw [Vals.ref1 r]
  obtain ⟨xs, e⟩ := rv.ints.allInts.items
  have hn : numsOf (intItems xs).toList = ns := by rw [← e]; exact rv.ints.numsOf
  rw [nums_intItems] at hn
  have hh : X.A.in1.handled = none := I.ok.hd hc
  have hl : s.heap.IsTuple a (intItems xs) := by
    rw [← e]; obtain ⟨o, h1, h2⟩ := hl; exact ⟨o, h1, h2⟩
  have alt : a < s.heap.objs.size := let ⟨_, ho, _⟩ := hl; Heap.lt_size ho
  refine call_sum_walkG (wpAny_pyIter_tuple hl ?_)
  have hs1 : (s.heap.push { cls := .type "tuple_iterator", data := .fields #[.ref a, .int 0 0] }).objs.size = s.heap.objs.size + 1 := Heap.size_push ..
  refine ⟨_, [s.heap.objs.size, a], [s.heap.objs.size], _, _, _, numAt xs, rfl, Walks.tuple (A := X.A.in1) hh s.heap.objs.size a (Nat.ne_of_lt alt) (intItems xs), ⟨⟨_, Heap.get?_push_size _ rfl, rfl, rfl⟩, hl.at fun o e => Heap.get?_push_of_some _ e⟩, fun b hb => ?_, fun i v => intItems_at, fun h' tk t' hk => ?_⟩
  · simp only [List.mem_cons, List.not_mem_nil, or_false] at hb
    show b < (s.heap.push _).objs.size
    rw [hs1]
    rcases hb with rfl | rfl
    · exact Nat.lt_succ_self _
    · exact Nat.lt_succ_of_lt alt
  · have en : preSum (numAt xs) (intItems xs).size = ns.sum := by
      rw [preSum_eq, List.take_of_length_le (by simp [intItems]), hn]
    rw [en]
    refine ⟨.int _, H, I.kept (h' := h') (t' := tk) (fun b o e => hk b o ?_ (Heap.get?_push_of_some _ e)), ⟨_, rfl⟩, q⟩
    intro hb
    have : b = s.heap.objs.size := by simpa using hb
    exact absurd (Heap.lt_size e) (by rw [this]; exact Nat.lt_irrefl _)
section
variable {C : Addr} {K : PySem.W.Frag} {wi wi1 : TI} {g g1 : TG} {te ta : TE} {σ : L2.St} {H : Hp} {ds : List D} {Fk : List Addr} {vs vs1 : List Nat} {Q : VK}
/-- [e for x in .. ] with any record of what is made -/
theorem lc_gen (h : EvI C wi σ H ds Fk) (J : Hp → Addr → Nat → List V → Hp → Prop)
    (h0 : ∀ G D, Same H G → G D = none → J G D 0 [] (upd G D (.lst [])))
    (hst : ∀ G D i xs H', Same H G → G D = none → J G D i xs H' → Same G H' ∧ H' D = some (.lst xs) ∧ xs.length = i)
    (hb : ∀ G D i xs d x H', Same H G → G D = none → ds[i]? = some d → J G D i xs H' → Tp C H' x d → ∃ σ2, GB g (wipe σ vs) H' x σ2 ∧ wipe σ2 vs = wipe σ vs ∧ ∀ R : VK, (∀ y H4, H4 D = some (.lst xs) → J G D (i + 1) (xs ++ [y]) (upd H4 D (.lst (xs ++ [y]))) → R y H4) → te σ2 H' R)
    (hl : ds.length ≤ sizeLine)
    (q : ∀ G D xs H', Same H G → G D = none → J G D ds.length xs H' → Q (.ref D) H') : tLc wi g tYes te vs σ H Q := by
  refine h H (Same.refl _) _ fun It H2 F s2 hF S => fun Dd hD => ?_
  refine ⟨fun i m H' => m = ds.length - i ∧ i ≤ ds.length ∧ ∃ xs, J H2 Dd i xs H', ⟨ds.length, rfl, Nat.zero_le _, [], h0 H2 Dd s2 hD⟩, ?_⟩
  rintro i m H' ⟨rfl, hi, xs, j⟩
  obtain ⟨sm, e, xl⟩ := hst H2 Dd i xs H' s2 hD j
  have st : Stay H2 H' := Same.stay sm
  have fr : ∀ b ∈ F, ∀ o, H2 b = some o → H' b = some o := fun b _ o e => sm b o e
  by_cases hlt : i < ds.length
  · refine .inr ⟨S.go i H' st fr hlt, fun H3 => ∃ xs, J H2 Dd (i + 1) xs H3, fun H3 q3 => ⟨_, by omega, rfl, hlt, q3⟩, ?_⟩
    intro x H3 y
    obtain ⟨rfl, d, e1, e2⟩ := S.yld i x H' H3 st fr hlt y
    obtain ⟨σ2, g2, w2, he⟩ := hb H2 Dd i xs d x H3 s2 hD e1 j e2
    refine g2 _ ⟨w2, ?_⟩
    unfold tYes
    refine iteT ?_
    exact he _ fun y H4 e4 j4 => ⟨xs, e4, by omega, _, j4⟩
  · have : i = ds.length := by omega
    subst this
    exact .inl ⟨S.stop H' st fr, q H2 Dd xs H' s2 hD j⟩
/-- [e for x in .. for y in ..]: data -/
theorem evl_lc2 (h : EvI C wi σ H ds Fk) (f : D → List D) (ff : D → D → D)
    (hb : ∀ d x H', d ∈ ds → Same H H' → Tp C H' x d → ∃ σ2, GB g (wipe σ vs) H' x σ2 ∧ wipe σ2 vs = wipe σ vs ∧ EvI C wi1 σ2 H' (f d) [] ∧
      ∀ e y H'', e ∈ f d → Same H H'' → Tp C H'' x d → Tp C H'' y e → ∃ σ3, GB g1 (wipe σ2 vs1) H'' y σ3 ∧ wipe σ3 vs1 = wipe σ2 vs1 ∧ EvD C te σ3 H'' (ff d e))
    (hl : (ds.flatMap fun d => (f d).map (ff d)).length ≤ sizeLine) : EvL C (tLc2 wi g tYes wi1 g1 tYes te vs vs1) σ H (ds.flatMap fun d => (f d).map (ff d)) := fun H1 s Q q => by
  refine h H1 s _ fun It H2 F s2 hF S => fun Dd hD => ?_
  have hmem : ∀ i d, ds[i]? = some d → d ∈ ds := fun i d e => List.mem_of_getElem? e
  refine ⟨fun i m H' => m = ds.length - i ∧ i ≤ ds.length ∧ Same H2 H' ∧ ∃ vs', H' Dd = some (.lst vs') ∧ TpA C H' vs' ((ds.take i).flatMap fun d => (f d).map (ff d)), ⟨ds.length, rfl, Nat.zero_le _, Same.new hD, [], upd_same, .nil⟩, ?_⟩
  rintro i m H' ⟨rfl, hi, sm, vs', e, t⟩
  have st : Stay H2 H' := Same.stay sm
  have fr : ∀ b ∈ F, ∀ o, H2 b = some o → H' b = some o := fun b _ o e => sm b o e
  by_cases hlt : i < ds.length
  · refine .inr ⟨S.go i H' st fr hlt, fun H3 => Same H2 H3 ∧ ∃ vs', H3 Dd = some (.lst vs') ∧ TpA C H3 vs' ((ds.take (i + 1)).flatMap fun d => (f d).map (ff d)), fun H3 q3 => ⟨_, by omega, rfl, hlt, q3⟩, ?_⟩
    intro x H3 y
    obtain ⟨rfl, d, e1, e2⟩ := S.yld i x H' H3 st fr hlt y
    obtain ⟨σ2, g2, w2, hi1, he⟩ := hb d x H3 (hmem i d e1) (Same.trans s (Same.trans s2 sm)) e2
    have tk : (ds.take (i + 1)).flatMap (fun d => (f d).map (ff d)) = (ds.take i).flatMap (fun d => (f d).map (ff d)) ++ (f d).map (ff d) := by
      rw [List.take_add_one, e1, List.flatMap_append]
      simp
    have tl : ((ds.take (i + 1)).flatMap fun d => (f d).map (ff d)).length ≤ sizeLine := by
      refine Nat.le_trans ?_ hl
      have : ds = ds.take (i + 1) ++ ds.drop (i + 1) := (List.take_append_drop _ _).symm
      conv => rhs; rw [this, List.flatMap_append, List.length_append]
      omega
    rw [tk, List.length_append, List.length_map] at tl
    refine g2 _ ⟨w2, ?_⟩
    unfold tYes
    refine iteT ?_
    refine hi1 H3 (Same.refl _) _ fun It1 H4 F1 s4 hF1 S1 => ?_
    refine ⟨fun j k H' => k = (f d).length - j ∧ j ≤ (f d).length ∧ Same H2 H' ∧ But Dd H4 H' ∧ ∃ vs', H' Dd = some (.lst vs') ∧ TpA C H' vs' ((ds.take i).flatMap (fun d => (f d).map (ff d)) ++ ((f d).take j).map (ff d)), ⟨_, rfl, Nat.zero_le _, Same.trans sm s4, But.refl _ _, vs', s4 _ _ e, by simpa using t.same s4⟩, ?_⟩
    rintro j k H5 ⟨rfl, hj, sm5, b5, vs5, e5, t5⟩
    have st5 : Stay H4 H5 := But.stay b5 (notImm_lst (s4 _ _ e))
    have fr5 : ∀ b ∈ F1, ∀ o, H4 b = some o → H5 b = some o := fun b hb o eo => b5 b o (fun z => by
      rcases hF1 b hb with hn | hn
      · rw [z, e] at hn; cases hn
      · exact nomatch hn) eo
    by_cases hjl : j < (f d).length
    · refine .inr ⟨S1.go j H5 st5 fr5 hjl, fun H6 => Same H2 H6 ∧ But Dd H4 H6 ∧ ∃ vs', H6 Dd = some (.lst vs') ∧ TpA C H6 vs' ((ds.take i).flatMap (fun d => (f d).map (ff d)) ++ ((f d).take (j + 1)).map (ff d)), fun H6 q6 => ⟨_, by omega, rfl, hjl, q6⟩, ?_⟩
      intro x1 H6 y1
      obtain ⟨rfl, d1, e11, e12⟩ := S1.yld j x1 H5 H6 st5 fr5 hjl y1
      obtain ⟨σ3, g3, w3, ev⟩ := he d1 x1 H6 (List.mem_of_getElem? e11) (Same.trans s (Same.trans s2 sm5)) ((e2.same s4).stay st5) e12
      refine g3 _ ⟨w3, ?_⟩
      dsimp only
      refine iteT ?_
      refine ev H6 (Same.refl _) _ fun v H7 s7 t7 => ?_
      have ll : vs5.length < sizeLine := by
        rw [t5.length, List.length_append, List.length_map, List.length_take]
        omega
      refine ⟨vs5, s7 _ _ e5, ll, Same.put (Same.trans sm5 s7) hD, but_set (But.trans b5 (Same.but s7)), _, upd_same, ?_⟩
      have stp : Stay H7 (upd H7 Dd (.lst (vs5 ++ [v]))) := But.stay (p := Dd) but_up (notImm_lst (s7 _ _ e5))
      have tk1 : ((f d).take (j + 1)).map (ff d) = ((f d).take j).map (ff d) ++ [ff d d1] := by
        rw [List.take_add_one, e11, List.map_append]
        simp
      rw [tk1, ← List.append_assoc]
      exact ((t5.same s7).stay stp).append (.cons (t7.stay stp) .nil)
    · have : j = (f d).length := by omega
      subst this
      refine .inl ⟨S1.stop H5 st5 fr5, sm5, vs5, e5, ?_⟩
      rw [tk]
      rw [List.take_length] at t5
      exact t5
  · have : i = ds.length := by omega
    subst this
    refine .inl ⟨S.stop H' st fr, ?_⟩
    rw [List.take_length] at t
    exact q Dd vs' H' (Same.trans s2 sm) (s2.free hD) e t
end
end Y

set_option Elab.async false
set_option linter.all false
set_option maxRecDepth 100000
set_option maxHeartbeats 4000000
/-! The text by places; what the top holds. -/
namespace K49
open PySem PySem.Spec PyProof.Rows L2 Y
def top (i : Nat) : Stmt := PySem.Challenge.pw_ropescounted_k49_whole_classes_are_told.main.body.getD i (.Pass ⟨0, 0, 0, 0⟩)
abbrev s_is_number : Stmt := top 2
abbrev s_is_below : Stmt := top 3
abbrev s_is_door : Stmt := top 17
abbrev s_are_doors : Stmt := top 18
abbrev s_joined_rooms : Stmt := top 19
abbrev s_House___init__ : Stmt := inClass (top 20) 0
abbrev s_need_house : Stmt := top 21
abbrev s_need_room : Stmt := top 22
abbrev s_gate_of : Stmt := top 23
abbrev s_steps_of_room : Stmt := top 24
abbrev s_turned_step : Stmt := top 26
abbrev s_steps_beyond : Stmt := top 27
abbrev s_need_short : Stmt := top 30
abbrev s_put_many : Stmt := top 31
abbrev s_still_on : Stmt := top 32
abbrev s_still_many : Stmt := top 33
abbrev s_classes_on : Stmt := top 34
abbrev s_class_states : Stmt := top 35
abbrev s_need_lengthy : Stmt := top 36
abbrev s_foot_classes_many : Stmt := top 37
abbrev s_foot_return : Stmt := top 38
abbrev s_need_length : Stmt := top 41
abbrev s_all_steps : Stmt := top 42
abbrev s_rooms_table : Stmt := top 43
abbrev s_sizes_of_rooms : Stmt := top 44
abbrev s_next_line : Stmt := top 45
abbrev s_lines_of : Stmt := top 46
abbrev s_feet_to : Stmt := top 47
abbrev s_feet_many : Stmt := top 48
abbrev s__law_begun : Stmt := top 50
abbrev s__law_blended : Stmt := top 51
abbrev s__law_draw : Stmt := top 52
abbrev s__law_pick : Stmt := top 53
abbrev s__law_mixed : Stmt := top 54
abbrev s__law_common : Stmt := top 55
abbrev s__law_gr_doors : Stmt := top 56
abbrev s__law_gr_size : Stmt := top 57
abbrev s__law_gr_house : Stmt := top 58
abbrev s__law_gr_small : Stmt := top 59
abbrev s__law_ax_world : Stmt := top 60
abbrev s__law_su_factors : Stmt := top 61
abbrev s_law : Stmt := top 62
/-- what the module's names stand for -/
structure Bi (K : PySem.W.Frag) (mg : Str → Option Value) (C : Addr) : Prop where
  len : mg "len" = none
  range : mg "range" = none
  isinstance : mg "isinstance" = none
  int : mg "int" = none
  bool : mg "bool" = none
  tuple : mg "tuple" = none
  list : mg "list" = none
  abs : mg "abs" = none
  sum : mg "sum" = none
  all : mg "all" = none
  min : mg "min" = none
  gcd : mg "gcd" = some (.builtin "math.gcd")
  MOST_ROOMS : ∃ t, mg "MOST_ROOMS" = some (.int 12 t)
  MOST_DOORS : ∃ t, mg "MOST_DOORS" = some (.int 20 t)
  GREATEST : ∃ t, mg "GREATEST" = some (.int 999 t)
  MOST_LENGTH_stillness : ∃ t, mg "MOST_LENGTH_stillness" = some (.int 40 t)
  MOST_LENGTH_counts : ∃ t, mg "MOST_LENGTH_counts" = some (.int 300 t)
  House : mg "House" = some (.ref C)
  cl : Cls K C
  ic : C8.InsC K C
  nr : NoAttr K C "rooms"
  nd : NoAttr K C "doors"
local macro_rules | `(tactic| trivial) => `(tactic| first
  | with_reducible exact ev_int
  | with_reducible exact ev_bl
  | with_reducible exact ev_non
  | with_reducible exact ea_nil
  | with_reducible exact et_yes
  | ((with_reducible apply ev_var); exact rfl; first | exact .num _ | exact .bl _ | exact .non | assumption)
  | ((with_reducible apply ea_cons); trivial; trivial)
  | ((with_reducible apply ev_tup); trivial; first | decide | (show _ ≤ sizeLine; simp; decide))
  | ((with_reducible apply ev_ix0); trivial; trivial; exact rfl)
  | ((with_reducible apply ev_ix1); trivial; trivial; exact rfl)
  | ((with_reducible apply ev_ix2); trivial; trivial; exact rfl)
  | ((with_reducible apply ev_ix3); trivial; trivial; exact rfl)
  | ((with_reducible apply ev_opI); trivial; trivial)
  | ((with_reducible apply ev_opB); trivial; trivial)
  | ((with_reducible apply ev_eqI); trivial; trivial)
  | ((with_reducible apply ev_neI); trivial; trivial)
  | ((with_reducible apply ev_un); trivial)
  | ((with_reducible apply ev_chain); trivial; trivial; trivial)
  | ((with_reducible apply ev_abs); trivial)
  | ((with_reducible apply ev_intI); trivial)
  | ((with_reducible apply ev_gcd); trivial; trivial)
  | ((with_reducible apply ev_lenT); trivial)
  | ((with_reducible apply et_test); trivial)
  | ((with_reducible apply et_B); trivial)
  | ((with_reducible apply et_not); trivial)
  | ((with_reducible apply et_and); trivial; (intro _; trivial))
  | ((with_reducible apply et_or); trivial; (intro _; trivial))
  | ((with_reducible apply ev_andV); trivial; (intro _; trivial))
  | ((with_reducible apply ev_orV); trivial; (intro _; trivial))
  | ((with_reducible apply ev_notV); trivial)
  | ((with_reducible apply ev_isN); trivial)
  | ((with_reducible apply ev_notN); trivial)
  | ((with_reducible apply ev_isiII); trivial)
  | ((with_reducible apply ev_isiIB); trivial)
  | ((with_reducible apply ev_isiTT); trivial)
  | ((with_reducible apply ev_isH); trivial))
section
variable {P : Program} {w : World} {K : PySem.W.Frag} {mg : Str → Option Value} {base : Heap} {C : Addr}
/-! ### is_number, is_below -/
theorem sc_is_number : FnScope ["value"] ["value"] (defScope s_is_number) := ⟨rfl, rfl, rfl, by decide +kernel, rfl, by decide +kernel, by decide +kernel⟩
abbrev sp_is_number (C : Addr) : Sp := fnSp C (fun i : Int => [.num i]) (fun _ => True) (fun _ => .bl true)
theorem ok_is_number (F : Df K mg "is_number" s_is_number) (B : Bi K mg C) : Cl P w K mg base "is_number" 1 ["value"] (sp_is_number C) := by
  refine F.cl sc_is_number (fun _ _ _ _ _ _ us hl => match us, hl with | [_], _ => rfl) (fun vs H Q E h => ?_) (fun f cdv A outer s H vs Q E hr h => ?_)
  · obtain ⟨i, t, _⟩ := h; exact t.length
  · obtain ⟨i, t, _, q⟩ := h
    obtain ⟨v, _, rfl, t1, t⟩ := tpa_cons t
    cases tpa_nil t
    refine ⟨_, (pss_one (ps_ret (pe_and (pe_callB call_isi (by rfl) B.isinstance (by decide +kernel) (pa_cons (pv 0) (pa_cons (pe_bltn (v := .ty "int") (by rfl) B.int (by decide +kernel) rfl) pa_nil))) (pe_one (pe_not (pe_callB call_isi (by rfl) B.isinstance (by decide +kernel) (pa_cons (pv 0) (pa_cons (pe_bltn (v := .ty "bool") (by rfl) B.bool (by decide +kernel) rfl) pa_nil)))))))), ?_⟩
    apply st_ret' (k := q)
    · trivial
    · rfl
theorem sc_is_below : FnScope ["value", "size"] ["value", "size"] (defScope s_is_below) := ⟨rfl, rfl, rfl, by decide +kernel, rfl, by decide +kernel, by decide +kernel⟩
abbrev sp_is_below (C : Addr) : Sp := fnSp C (fun i : Int × Int => [.num i.1, .num i.2]) (fun _ => True) (fun i => .bl (decide (0 ≤ i.1) && decide (i.1 < i.2)))
theorem ok_is_below (F : Df K mg "is_below" s_is_below) (B : Bi K mg C) (h_is_number : Cl P w K mg base "is_number" 1 ["value"] (sp_is_number C)) : Cl P w K mg base "is_below" 2 ["value", "size"] (sp_is_below C) := by
  refine F.cl sc_is_below (fun _ _ _ _ _ _ us hl => match us, hl with | [_, _], _ => rfl) (fun vs H Q E h => ?_) (fun f cdv A outer s H vs Q E hr h => ?_)
  · obtain ⟨i, t, _⟩ := h; exact t.length
  · obtain ⟨i, t, _, q⟩ := h
    obtain ⟨v, _, rfl, t1, t⟩ := tpa_cons t
    obtain ⟨v', _, rfl, t2, t⟩ := tpa_cons t
    cases tpa_nil t
    refine ⟨_, (pss_one (ps_ret (pe_and (pe_cl h_is_number (hr.mono (by decide)) (by rfl) (pa_cons (pv 0) pa_nil)) (pe_one (pe_chain op_le op_lt pe_int (pv 0) (pv 1)))))), ?_⟩
    apply st_ret' (k := q)
    · apply ev_andV
      · apply ev_fn i.1
        · trivial
        · rfl
        · exact True.intro
      · intro _; trivial
    · rfl
end
end K49

set_option Elab.async false
set_option linter.all false
set_option maxRecDepth 100000
set_option maxHeartbeats 4000000
/-! Houses: doors, gates, steps. -/
namespace K49
open PySem PySem.Spec PyProof.Rows L2 Y
local macro_rules | `(tactic| trivial) => `(tactic| first
  | with_reducible exact ev_int
  | with_reducible exact ev_bl
  | with_reducible exact ev_non
  | with_reducible exact ea_nil
  | with_reducible exact et_yes
  | ((with_reducible apply ev_var); exact rfl; first | exact .num _ | exact .bl _ | exact .non | assumption)
  | ((with_reducible apply ea_cons); trivial; trivial)
  | ((with_reducible apply ev_tup); trivial; first | decide | (show _ ≤ sizeLine; simp; decide))
  | ((with_reducible apply ev_ix0); trivial; trivial; exact rfl)
  | ((with_reducible apply ev_ix1); trivial; trivial; exact rfl)
  | ((with_reducible apply ev_ix2); trivial; trivial; exact rfl)
  | ((with_reducible apply ev_ix3); trivial; trivial; exact rfl)
  | ((with_reducible apply ev_opI); trivial; trivial)
  | ((with_reducible apply ev_opB); trivial; trivial)
  | ((with_reducible apply ev_eqI); trivial; trivial)
  | ((with_reducible apply ev_neI); trivial; trivial)
  | ((with_reducible apply ev_un); trivial)
  | ((with_reducible apply ev_chain); trivial; trivial; trivial)
  | ((with_reducible apply ev_abs); trivial)
  | ((with_reducible apply ev_intI); trivial)
  | ((with_reducible apply ev_gcd); trivial; trivial)
  | ((with_reducible apply ev_lenT); trivial)
  | ((with_reducible apply et_test); trivial)
  | ((with_reducible apply et_B); trivial)
  | ((with_reducible apply et_not); trivial)
  | ((with_reducible apply et_and); trivial; (intro _; trivial))
  | ((with_reducible apply et_or); trivial; (intro _; trivial))
  | ((with_reducible apply ev_andV); trivial; (intro _; trivial))
  | ((with_reducible apply ev_orV); trivial; (intro _; trivial))
  | ((with_reducible apply ev_notV); trivial)
  | ((with_reducible apply ev_isN); trivial)
  | ((with_reducible apply ev_notN); trivial)
  | ((with_reducible apply ev_isiII); trivial)
  | ((with_reducible apply ev_isiIB); trivial)
  | ((with_reducible apply ev_isiTT); trivial)
  | ((with_reducible apply ev_isH); trivial))
section
variable {P : Program} {w : World} {K : PySem.W.Frag} {mg : Str → Option Value} {base : Heap} {C : Addr}
/-! ### need_house, need_room, gate_of -/
theorem sc_need_house : FnScope ["house"] ["house"] (defScope s_need_house) := ⟨rfl, rfl, rfl, by decide +kernel, rfl, by decide +kernel, by decide +kernel⟩
abbrev sp_need_house (C : Addr) : Sp := fnSp C (fun i : Int × List Door => [.hs i.1 i.2]) (fun _ => True) (fun _ => .non)
theorem ok_need_house (F : Df K mg "need_house" s_need_house) (B : Bi K mg C) : Cl P w K mg base "need_house" 1 ["house"] (sp_need_house C) := by
  refine F.cl sc_need_house (fun _ _ _ _ _ _ us hl => match us, hl with | [_], _ => rfl) (fun vs H Q E h => ?_) (fun f cdv A outer s H vs Q E hr h => ?_)
  · obtain ⟨i, t, _⟩ := h; exact t.length
  · obtain ⟨i, t, _, q⟩ := h
    obtain ⟨v, _, rfl, t1, t⟩ := tpa_cons t
    cases tpa_nil t
    refine ⟨_, (pss_one (ps_if (pt_not (pt_val (pe_callB (call_isH B.ic) (by rfl) B.isinstance (by decide +kernel) (pa_cons (pv 0) (pa_cons (pe_glob (v := .ref C) (by rfl) B.House rfl) pa_nil))))) (pss_one ps_never) pss_nil)), ?_⟩
    apply st_no1
    · exact et_not (b := true) (by trivial)
    · exact fun H2 s2 => q _ _ s2 .non
theorem sc_need_room : FnScope ["house", "room"] ["house", "room"] (defScope s_need_room) := ⟨rfl, rfl, rfl, by decide +kernel, rfl, by decide +kernel, by decide +kernel⟩
abbrev sp_need_room (C : Addr) : Sp := fnSp C (fun i : Int × List Door × Int => [.hs i.1 i.2.1, .num i.2.2]) (fun i => 0 ≤ i.2.2 ∧ i.2.2 < i.1) (fun _ => .non)
theorem ok_need_room (F : Df K mg "need_room" s_need_room) (B : Bi K mg C) (h_is_below : Cl P w K mg base "is_below" 2 ["value", "size"] (sp_is_below C)) : Cl P w K mg base "need_room" 3 ["house", "room"] (sp_need_room C) := by
  refine F.cl sc_need_room (fun _ _ _ _ _ _ us hl => match us, hl with | [_, _], _ => rfl) (fun vs H Q E h => ?_) (fun f cdv A outer s H vs Q E hr h => ?_)
  · obtain ⟨i, t, _⟩ := h; exact t.length
  · obtain ⟨⟨r, ds, room⟩, t, hp, q⟩ := h
    obtain ⟨v, _, rfl, t1, t⟩ := tpa_cons t
    obtain ⟨v', _, rfl, t2, t⟩ := tpa_cons t
    cases tpa_nil t
    refine ⟨_, (pss_one (ps_if (pt_not (pt_val (pe_cl h_is_below (hr.mono (by decide)) (by rfl) (pa_cons (pv 1) (pa_cons (pe_fld (pv 0) rfl) pa_nil))))) (pss_one ps_never) pss_nil)), ?_⟩
    apply st_no1
    · refine et_not (b := true) (et_B (C := C) ?_)
      have h1 : 0 ≤ room ∧ room < r := hp
      have e : D.bl true = D.bl (decide (0 ≤ room) && decide (room < r)) := by simp [h1.1, h1.2]
      rw [e]
      apply ev_fn (room, r)
      · apply ea_cons
        · trivial
        · apply ea_cons
          · exact ev_rooms (by trivial) B.cl B.nr
          · trivial
      · rfl
      · exact True.intro
    · exact fun H2 s2 => q _ _ s2 .non
theorem sc_gate_of : FnScope ["house", "step", "near", "first", "far", "second"] ["house", "step"] (defScope s_gate_of) := ⟨rfl, rfl, rfl, by decide +kernel, rfl, by decide +kernel, by decide +kernel⟩
abbrev sp_gate_of (C : Addr) : Sp := fnSp C (fun i : Int × List Door × MF.Step => [.hs i.1 i.2.1, stepD i.2.2]) (fun i => i.2.2 ∈ MF.allSteps i.2.1) (fun i => doorD (MF.gate i.2.1 i.2.2))
theorem ok_gate_of (F : Df K mg "gate_of" s_gate_of) (B : Bi K mg C) : Cl P w K mg base "gate_of" 1 ["house", "step"] (sp_gate_of C) := by
  refine F.cl sc_gate_of (fun _ _ _ _ _ _ us hl => match us, hl with | [_, _], _ => rfl) (fun vs H Q E h => ?_) (fun f cdv A outer s H vs Q E hr h => ?_)
  · obtain ⟨i, t, _⟩ := h; exact t.length
  · obtain ⟨⟨r, ds, st⟩, t, hp, q⟩ := h
    obtain ⟨v, _, rfl, t1, t⟩ := tpa_cons t
    obtain ⟨v', _, rfl, t2, t⟩ := tpa_cons t
    cases tpa_nil t
    have hm : st.1 < ds.length ∧ st.2 ≤ 1 := MF.mem_all.mp hp
    refine ⟨_, (pss_cons (ps_asg (pe_ix ix_tup (pe_fld (pv 0) rfl) (pe_ix ix_tup (pv 1) pe_int (fun _ _ => rfl)) (fun _ _ => rfl)) (pg_tup (by rfl) (pgs_cons (pg_name (i := 2) sc_gate_of.nd rfl (by first | exact Or.inl rfl | exact Or.inr rfl)) (pgs_cons (pg_name (i := 3) sc_gate_of.nd rfl (by first | exact Or.inl rfl | exact Or.inr rfl)) (pgs_cons (pg_name (i := 4) sc_gate_of.nd rfl (by first | exact Or.inl rfl | exact Or.inr rfl)) (pgs_cons (pg_name (i := 5) sc_gate_of.nd rfl (by first | exact Or.inl rfl | exact Or.inr rfl)) pgs_nil))))))
      (pss_one (ps_ret (pe_ifExp (pt_cmpR op_eq (pe_ix ix_tup (pv 1) pe_int (fun _ _ => rfl)) pe_int (nomark _)) (pe_tup (pa_cons (pv 2) (pa_cons (pv 3) (pa_cons (pv 4) (pa_cons (pv 5) pa_nil))))) (pe_tup (pa_cons (pv 4) (pa_cons (pv 5) (pa_cons (pv 2) (pa_cons (pv 3) pa_nil))))))))), ?_⟩
    have hd : (ds.map doorD)[st.1]? = some (doorD (ds.getD st.1 (0, 1, 0, 1))) := by
      rw [List.getElem?_map, List.getElem?_eq_getElem hm.1]
      simp [List.getD, hm.1]
    apply st_asg
    · apply ev_ixT
      · exact ev_doors (by trivial) B.cl B.nd
      · apply ev_ix0
        · trivial
        · trivial
        · rfl
      · exact hd
    · intro x H2 s2 tx
      refine ⟨_, gb_door tx, ?_⟩
      have t2' := t2.same s2
      apply st_ret' (k := fun v H3 s3 t3 => q v H3 (Same.trans s2 s3) t3)
      · apply ev_if2
        · apply et_test
          apply ev_eqI
          · apply ev_ix1
            · trivial
            · trivial
            · rfl
          · trivial
        · trivial
        · trivial
      · show (if decide ((st.2 : Int) = 0) = true then _ else _) = doorD (MF.gate ds st)
        unfold MF.gate doorD
        by_cases h0 : st.2 = 0
        · simp [h0]
        · have : ¬ (st.2 : Int) = 0 := by omega
          simp [h0, this]
/-! ### steps_of_room, turned_step, steps_beyond -/
def prefixSteps (n : Nat) : List MF.Step := (List.range n).flatMap fun a => [(a, 0), (a, 1)]
theorem prefix_succ (n : Nat) : prefixSteps (n + 1) = prefixSteps n ++ [(n, 0), (n, 1)] := by simp [prefixSteps, List.range_succ]
theorem sc_steps_of_room : FnScope ["house", "room", "found", "at", "side"] ["house", "room"] (defScope s_steps_of_room) := ⟨rfl, rfl, rfl, by decide +kernel, rfl, by decide +kernel, by decide +kernel⟩
abbrev sp_steps_of_room (C : Addr) : Sp := fnSpL C (fun i : Int × List Door × Int => [.hs i.1 i.2.1, .num i.2.2]) (fun i => i.2.1.length ≤ 20) (fun i => (MF.stepsOf i.2.1 i.2.2).map stepD)
theorem ok_steps_of_room (F : Df K mg "steps_of_room" s_steps_of_room) (B : Bi K mg C) (h_gate_of : Cl P w K mg base "gate_of" 1 ["house", "step"] (sp_gate_of C)) : Cl P w K mg base "steps_of_room" 2 ["house", "room"] (sp_steps_of_room C) := by
  refine F.cl sc_steps_of_room (fun _ _ _ _ _ _ us hl => match us, hl with | [_, _], _ => rfl) (fun vs H Q E h => ?_) (fun f cdv A outer s H vs Q E hr h => ?_)
  · obtain ⟨i, t, _⟩ := h; exact t.length
  · obtain ⟨⟨r, ds, room⟩, t, hp, q⟩ := h
    obtain ⟨v, _, rfl, t1, t⟩ := tpa_cons t
    obtain ⟨v', _, rfl, t2, t⟩ := tpa_cons t
    cases tpa_nil t
    cases tp_num t2
    have hp : ds.length ≤ 20 := hp
    refine ⟨_, (pss_cons (ps_set (i := 2) sc_steps_of_room.nd rfl (by first | exact Or.inl rfl | exact Or.inr rfl) (pe_lst pa_nil))
      (pss_cons (ps_for PassesOwn.never rfl (pi_range1 (by rfl) B.range (pa_cons (pe_callB call_lenS (by rfl) B.len (by decide +kernel) (pa_cons (pe_fld (pv 0) rfl) pa_nil)) pa_nil)) (pg_name (i := 3) sc_steps_of_room.nd rfl (by first | exact Or.inl rfl | exact Or.inr rfl)) (pss_one (ps_for PassesOwn.never rfl (pi_tup (pe_tup (pa_cons pe_int (pa_cons pe_int pa_nil)))) (pg_name (i := 4) sc_steps_of_room.nd rfl (by first | exact Or.inl rfl | exact Or.inr rfl)) (pss_one (ps_if (pt_cmpR op_eq (pe_ix ix_tup (pe_cl h_gate_of (hr.mono (by decide)) (by rfl) (pa_cons (pv 0) (pa_cons (pe_tup (pa_cons (pv 3) (pa_cons (pv 4) pa_nil))) pa_nil))) pe_int (fun _ _ => rfl)) (pv 1) (nomark _)) (pss_one (ps_expr (pe_bm PySem.F.plainAttrs_list PySem.F.slot_list_append PySem.F.type_list_append mt_append (pv 2) (pa_cons (pe_tup (pa_cons (pv 3) (pa_cons (pv 4) pa_nil))) pa_nil)))) pss_nil)))))
      (pss_one (ps_ret (pv 2))))), ?_⟩
    apply st_setL (C := C) (ds := [])
    · apply evl_lst
      · trivial
      · exact Nat.zero_le _
    intro a vs0 H1 s1 hn ha r0
    cases tpa_nil r0
    have t1' := t1.same s1
    let flt (l : List MF.Step) : List D := (l.filter fun s => decide (MF.near ds s = room)).map stepD
    have fl_app : ∀ l x, flt (l ++ [x]) = if MF.near ds x = room then flt l ++ [stepD x] else flt l := by
      intro l x
      by_cases hx : MF.near ds x = room <;> simp [flt, List.filter_append, hx]
    have fl_len : ∀ l : List MF.Step, (flt l).length ≤ l.length := fun l => by simp only [flt, List.length_map]; exact List.length_filter_le _ _
    have pl : ∀ n, (prefixSteps n).length = 2 * n := by
      intro n
      induction n with
      | zero => rfl
      | succ n ih => rw [prefix_succ, List.length_append, ih]; simp; omega
    refine st_for (C := C) (wi := _) (ei_rng1 (n := ds.length) (C := C) ?_ (by omega)) (fun G i σ' H' => ∃ vs x y, σ' = [some v, some (.int room), some (.ref a), x, y] ∧ Gr C a G H' vs (flt (prefixSteps i))) ?_ ?_ ?_ ?_
    · apply ea_cons
      · have e : (D.num (ds.length : Int)) = D.num (((ds.map doorD).length : Nat) : Int) := by rw [List.length_map]
        rw [e]
        apply ev_lenT
        exact ev_doors (by trivial) B.cl B.nd
      · trivial
    · intro G sG
      exact ⟨[], none, none, rfl, Gr.start (sG _ _ ha) .nil⟩
    · rintro G i σ' H' sG ⟨vs, x, y, rfl, g⟩
      exact g.keeps (H := H1) (Fk := []) (sG _ _ ha) (by rw [ha]; simp) (by simp)
    · rintro G i d x σ' H' sG hi ⟨vs, y, z, rfl, g⟩ tx
      obtain ⟨hi2, rfl⟩ := rng_item hi
      cases tp_num tx
      refine ⟨_, gb_name, ?_⟩
      have stG : Stay H1 H' := Stay.trans (Same.stay sG) (g.stay (sG _ _ ha))
      have t1g := t1'.stay stG
      have two : ∀ j : Nat, j < 2 → (i, j) ∈ MF.allSteps ds := fun j hj => MF.mem_all.mpr ⟨hi2, by show j ≤ 1; omega⟩
      refine st_for (C := C) (wi := _) (ei_tup (ds := [.num 0, .num 1]) ?_) (fun G2 j σ' H2 => ∃ vs z, σ' = [some v, some (.int room), some (.ref a), some (.int i), z] ∧ Gr C a G H2 vs (flt (prefixSteps i ++ [(i, 0), (i, 1)].take j)) ∧ But a G2 H2 ∧ G2 a ≠ none) ?_ ?_ ?_ ?_
      · trivial
      · intro G2 s2
        refine ⟨vs, z, rfl, ?_, But.refl _ _, ?_⟩
        · rw [List.take_zero, List.append_nil]; exact g.same s2
        · rw [s2 _ _ g.2.1]; simp
      · rintro G2 j σ' H2 s2 ⟨vs, z, rfl, g2, b2, _⟩
        have e2 : G2 a = some (.lst _) := s2 _ _ g.2.1
        refine ⟨b2.stay (notImm_lst e2), fun b o hb e => b2 b o (fun z => ?_) e⟩
        subst z
        rcases hb with hb | hb
        · rw [g.2.1] at hb; cases hb
        · cases hb
      · rintro G2 j d x σ' H2 s2 hj ⟨vs2, z2, rfl, g2, b2, ne2⟩ tx
        have hj2 : j < 2 ∧ d = .num (j : Int) := by
          match j, hj with
          | 0, hj => exact ⟨by omega, by simpa using hj.symm⟩
          | 1, hj => exact ⟨by omega, by simpa using hj.symm⟩
          | j + 2, hj => simp at hj
        obtain ⟨hj2, rfl⟩ := hj2
        cases tp_num tx
        refine ⟨_, gb_name, ?_⟩
        have t1h := t1'.stay (Stay.trans (Same.stay sG) (g2.stay (sG _ _ ha)))
        have tk : [(i, 0), (i, 1)].take (j + 1) = [(i, 0), (i, 1)].take j ++ [(i, j)] := by
          match j, hj2 with
          | 0, _ => rfl
          | 1, _ => rfl
        have ll : (flt (prefixSteps i ++ [(i, 0), (i, 1)].take j)).length < 100 := by
          have h1 := fl_len (prefixSteps i ++ [(i, 0), (i, 1)].take j)
          rw [List.length_append, pl] at h1
          have h2 : ([(i, 0), (i, 1)].take j).length ≤ 2 := by rw [List.length_take]; simp; omega
          omega
        apply st_if
        · apply et_test (C := C)
          apply ev_eqI
          · apply ev_ix0
            · apply ev_fn (r, ds, (i, j))
              · trivial
              · rfl
              · exact two j hj2
            · trivial
            · rfl
          · trivial
        · intro hb H3 s3
          have hb : MF.near ds (i, j) = room := of_decide_eq_true hb
          apply st_app1 (C := C) (d := stepD (i, j)) (hv := rfl) (ha := s3 _ _ g2.2.1)
          · rw [g2.len]; exact small_lt ll (by omega)
          · show EvD C _ _ _ (.tup [.num (i : Int), .num (j : Int)])
            trivial
          · intro v4 H4 s4 t4
            refine ⟨vs2 ++ [v4], _, rfl, ?_, ?_, ne2⟩
            · rw [tk, ← List.append_assoc, fl_app, if_pos hb]
              exact (g2.same s3).app s4 t4
            · exact but_set (But.trans b2 (Same.but (Same.trans s3 s4)))
        · intro hb H3 s3
          have hb : ¬ MF.near ds (i, j) = room := of_decide_eq_false hb
          refine ⟨vs2, _, rfl, ?_, But.trans b2 (Same.but s3), ne2⟩
          rw [tk, ← List.append_assoc, fl_app, if_neg hb]
          exact g2.same s3
      · rintro G2 σ' H2 s2 ⟨vs2, z2, rfl, g2, b2, ne2⟩
        refine ⟨vs2, _, _, rfl, ?_⟩
        rw [prefix_succ]
        exact g2
    · rintro G σ' H' sG ⟨vs, x, y, rfl, g⟩
      have e : ((List.range ds.length).map fun k => D.num ((k : Nat) : Int)).length = ds.length := by simp
      rw [e] at g
      exact ⟨_, rfl, q a vs H' ((g.re (Same.but sG)).back s1 hn) hn g.2.1 g.2.2⟩
theorem sc_turned_step : FnScope ["step"] ["step"] (defScope s_turned_step) := ⟨rfl, rfl, rfl, by decide +kernel, rfl, by decide +kernel, by decide +kernel⟩
abbrev sp_turned_step (C : Addr) : Sp := fnSp C (fun s : MF.Step => [stepD s]) (fun s => s.2 ≤ 1) (fun s => stepD (MF.turn s))
theorem ok_turned_step (F : Df K mg "turned_step" s_turned_step) (B : Bi K mg C) : Cl P w K mg base "turned_step" 1 ["step"] (sp_turned_step C) := by
  refine F.cl sc_turned_step (fun _ _ _ _ _ _ us hl => match us, hl with | [_], _ => rfl) (fun vs H Q E h => ?_) (fun f cdv A outer s H vs Q E hr h => ?_)
  · obtain ⟨i, t, _⟩ := h; exact t.length
  · obtain ⟨st, t, hp, q⟩ := h
    obtain ⟨v, _, rfl, t1, t⟩ := tpa_cons t
    cases tpa_nil t
    have hp : st.2 ≤ 1 := hp
    refine ⟨_, (pss_one (ps_ret (pe_tup (pa_cons (pe_ix ix_tup (pv 0) pe_int (fun _ _ => rfl)) (pa_cons (pe_op op_sub pe_int (pe_ix ix_tup (pv 0) pe_int (fun _ _ => rfl))) pa_nil))))), ?_⟩
    apply st_ret' (k := q)
    · apply ev_tup
      · apply ea_cons
        · apply ev_ix0
          · trivial
          · trivial
          · rfl
        · apply ea_cons
          · apply ev_opI
            · trivial
            · apply ev_ix1
              · trivial
              · trivial
              · rfl
          · trivial
      · show 2 ≤ sizeLine; decide
    · show D.tup [.num (st.1 : Int), .num (1 - (st.2 : Int))] = stepD (MF.turn st)
      unfold stepD MF.turn
      have : (1 - (st.2 : Int)) = ((1 - st.2 : Nat) : Int) := by omega
      rw [this]
/-- a pass beyond as a datum -/
def beyD (q : MF.Step × Int) : D := .tup [stepD q.1, .num q.2]
theorem sc_steps_beyond : FnScope ["house", "room", "last", "found", "step"] ["house", "room", "last"] (defScope s_steps_beyond) := ⟨rfl, rfl, rfl, by decide +kernel, rfl, by decide +kernel, by decide +kernel⟩
abbrev sp_steps_beyond (C : Addr) : Sp := fnSpL C (fun i : Int × List Door × Int × Option MF.Step => [.hs i.1 i.2.1, .num i.2.2.1, lastD i.2.2.2]) (fun i => i.2.1.length ≤ 20 ∧ ∀ l, i.2.2.2 = some l → l.2 ≤ 1) (fun i => (MF.beyond i.2.1 i.2.2.1 i.2.2.2).map beyD)
theorem ok_steps_beyond (F : Df K mg "steps_beyond" s_steps_beyond) (B : Bi K mg C) (h_steps_of_room : Cl P w K mg base "steps_of_room" 2 ["house", "room"] (sp_steps_of_room C)) (h_turned_step : Cl P w K mg base "turned_step" 1 ["step"] (sp_turned_step C)) : Cl P w K mg base "steps_beyond" 3 ["house", "room", "last"] (sp_steps_beyond C) := by
  refine F.cl sc_steps_beyond (fun _ _ _ _ _ _ us hl => match us, hl with | [_, _, _], _ => rfl) (fun vs H Q E h => ?_) (fun f cdv A outer s H vs Q E hr h => ?_)
  · obtain ⟨i, t, _⟩ := h; exact t.length
  · obtain ⟨⟨r, ds, room, last⟩, t, hp, q⟩ := h
    obtain ⟨v, _, rfl, t1, t⟩ := tpa_cons t
    obtain ⟨v', _, rfl, t2, t⟩ := tpa_cons t
    obtain ⟨vl, _, rfl, t3, t⟩ := tpa_cons t
    cases tpa_nil t
    cases tp_num t2
    have hp : ds.length ≤ 20 ∧ ∀ l, last = some l → l.2 ≤ 1 := hp
    refine ⟨_, (pss_cons (ps_set (i := 3) sc_steps_beyond.nd rfl (by first | exact Or.inl rfl | exact Or.inr rfl) (pe_lst pa_nil))
      (pss_cons (ps_for PassesOwn.never rfl (pi_list (pe_cl h_steps_of_room (hr.mono (by decide)) (by rfl) (pa_cons (pv 0) (pa_cons (pv 1) pa_nil)))) (pg_name (i := 4) sc_steps_beyond.nd rfl (by first | exact Or.inl rfl | exact Or.inr rfl)) (pss_one (ps_expr (pe_bm PySem.F.plainAttrs_list PySem.F.slot_list_append PySem.F.type_list_append mt_append (pv 3) (pa_cons (pe_tup (pa_cons (pv 4) (pa_cons (pe_ifExp (PW.pt (pw_and (pt_cmp (pc_notN (pv 2)) rfl) (pw_and1 (pt_cmpR (op_eqD hr.units) (pv 4) (pe_cl h_turned_step (hr.mono (by decide)) (by rfl) (pa_cons (pv 2) pa_nil)) (nomark _))))) pe_int pe_int) pa_nil))) pa_nil)))))
      (pss_one (ps_ret (pv 3))))), ?_⟩
    apply st_setL (C := C) (ds := [])
    · apply evl_lst
      · trivial
      · exact Nat.zero_le _
    intro a vs0 H1 s1 hn ha r0
    cases tpa_nil r0
    have t1' := t1.same s1
    have t3' := t3.same s1
    have sl : (MF.stepsOf ds room).length ≤ 40 := by
      unfold MF.stepsOf MF.allSteps
      refine Nat.le_trans (List.length_filter_le _ _) ?_
      have : ∀ n, ((List.range n).flatMap fun a => [(a, 0), (a, 1)] : List MF.Step).length = 2 * n := by
        intro n
        induction n with
        | zero => rfl
        | succ n ih => rw [List.range_succ, List.flatMap_append, List.length_append, ih]; simp; omega
      rw [this]; omega
    refine st_for (C := C) (wi := _) (ei_lst (C := C) (ds := (MF.stepsOf ds room).map stepD) ?_) (fun G i σ' H' => ∃ vs x, σ' = [some v, some (.int room), some vl, some (.ref a), x] ∧ Gr C a G H' vs (((MF.beyond ds room last).map beyD).take i)) ?_ ?_ ?_ ?_
    · apply evl_fn (r, ds, room)
      · trivial
      · rfl
      · exact hp.1
    · intro G sG
      exact ⟨[], none, rfl, Gr.start (sG _ _ ha) .nil⟩
    · rintro G i σ' H' sG ⟨vs, x, rfl, g⟩
      exact g.keeps (H := H1) (Fk := []) (sG _ _ ha) (by rw [ha]; simp) (by simp)
    · rintro G i d x σ' H' sG hi ⟨vs, y, rfl, g⟩ tx
      obtain ⟨st, hst, rfl⟩ := map_item hi
      refine ⟨_, gb_name, ?_⟩
      have stG : Stay H1 H' := Stay.trans (Same.stay sG) (g.stay (sG _ _ ha))
      have t3g := t3'.stay stG
      have hin : st ∈ MF.stepsOf ds room := List.mem_of_getElem? hst
      have hlt : i < (MF.stepsOf ds room).length := (List.getElem?_eq_some_iff.mp hst).1
      have tk : ((MF.beyond ds room last).map beyD).take (i + 1) = ((MF.beyond ds room last).map beyD).take i ++ [beyD (st, MF.least last st)] := by
        rw [List.take_add_one]
        congr 1
        unfold MF.beyond
        rw [List.map_map, List.getElem?_map, hst]
        rfl
      apply st_app1 (C := C) (d := beyD (st, MF.least last st)) (hv := rfl) (ha := g.2.1)
      · rw [g.len, List.length_take]; exact small_lt (m := 100) (by omega) (by omega)
      · show EvD C _ _ _ (.tup [stepD st, .num (MF.least last st)])
        apply ev_tup
        · apply ea_cons
          · trivial
          · apply ea_cons
            · have e : D.num (MF.least last st) = if (!isNon (lastD last) && PyData.eqv (py (stepD st)) (py (stepD (MF.turn (last.getD (0, 0)))))) = true then D.num 1 else D.num 0 := by
                rw [eqv_step, isNon_last]
                cases last with
                | none => rfl
                | some l =>
                  show D.num (if st = MF.turn l then 1 else 0) = _
                  by_cases h : st = MF.turn l <;> simp [h]
              rw [e]
              apply ev_if2
              · apply et_and
                · trivial
                · intro hnn
                  apply et_test (C := C)
                  obtain ⟨l, rfl⟩ : ∃ l, last = some l := by
                    cases last with
                    | none => simp [isNon_last] at hnn
                    | some l => exact ⟨l, rfl⟩
                  apply ev_eqD
                  · trivial
                  · apply ev_fn l
                    · apply ea_cons
                      · exact ev_var rfl t3g
                      · trivial
                    · rfl
                    · exact hp.2 l rfl
                  · rfl
                  · rfl
                  · rfl
                  · rfl
              · trivial
              · trivial
            · trivial
        · show 2 ≤ sizeLine; decide
      · intro v4 H4 s4 t4
        refine ⟨vs ++ [v4], _, rfl, ?_⟩
        rw [tk]
        exact g.app s4 t4
    · rintro G σ' H' sG ⟨vs, x, rfl, g⟩
      have e : ((MF.beyond ds room last).map beyD).take ((MF.stepsOf ds room).map stepD).length = (MF.beyond ds room last).map beyD := by
        apply List.take_of_length_le
        unfold MF.beyond
        simp
      rw [e] at g
      exact ⟨_, rfl, q a vs H' ((g.re (Same.but sG)).back s1 hn) hn g.2.1 g.2.2⟩
end
end K49

set_option Elab.async false
set_option linter.all false
set_option maxRecDepth 100000
set_option maxHeartbeats 4000000
/-! Houses made. -/
namespace K49
open PySem PySem.Spec PyProof.Rows L2 Y
local macro_rules | `(tactic| trivial) => `(tactic| first
  | with_reducible exact ev_int
  | with_reducible exact ev_bl
  | with_reducible exact ev_non
  | with_reducible exact ea_nil
  | with_reducible exact et_yes
  | ((with_reducible apply ev_var); exact rfl; first | exact .num _ | exact .bl _ | exact .non | assumption)
  | ((with_reducible apply ea_cons); trivial; trivial)
  | ((with_reducible apply ev_tup); trivial; first | decide | (show _ ≤ sizeLine; simp; decide))
  | ((with_reducible apply ev_ix0); trivial; trivial; exact rfl)
  | ((with_reducible apply ev_ix1); trivial; trivial; exact rfl)
  | ((with_reducible apply ev_ix2); trivial; trivial; exact rfl)
  | ((with_reducible apply ev_ix3); trivial; trivial; exact rfl)
  | ((with_reducible apply ev_opI); trivial; trivial)
  | ((with_reducible apply ev_opB); trivial; trivial)
  | ((with_reducible apply ev_eqI); trivial; trivial)
  | ((with_reducible apply ev_neI); trivial; trivial)
  | ((with_reducible apply ev_un); trivial)
  | ((with_reducible apply ev_chain); trivial; trivial; trivial)
  | ((with_reducible apply ev_abs); trivial)
  | ((with_reducible apply ev_intI); trivial)
  | ((with_reducible apply ev_gcd); trivial; trivial)
  | ((with_reducible apply ev_lenT); trivial)
  | ((with_reducible apply et_test); trivial)
  | ((with_reducible apply et_B); trivial)
  | ((with_reducible apply et_not); trivial)
  | ((with_reducible apply et_and); trivial; (intro _; trivial))
  | ((with_reducible apply et_or); trivial; (intro _; trivial))
  | ((with_reducible apply ev_andV); trivial; (intro _; trivial))
  | ((with_reducible apply ev_orV); trivial; (intro _; trivial))
  | ((with_reducible apply ev_notV); trivial)
  | ((with_reducible apply ev_isN); trivial)
  | ((with_reducible apply ev_notN); trivial)
  | ((with_reducible apply ev_isiII); trivial)
  | ((with_reducible apply ev_isiIB); trivial)
  | ((with_reducible apply ev_isiTT); trivial)
  | ((with_reducible apply ev_isH); trivial))
/-- a right door -/
def DOk (rooms : Int) (d : Door) : Prop := (0 ≤ d.1 ∧ d.1 < rooms) ∧ (0 ≤ d.2.2.1 ∧ d.2.2.1 < rooms) ∧ (d.2.1 ≠ 0 ∧ -999 ≤ d.2.1 ∧ d.2.1 ≤ 999) ∧ (d.2.2.2 ≠ 0 ∧ -999 ≤ d.2.2.2 ∧ d.2.2.2 ≤ 999)
section
variable {P : Program} {w : World} {K : PySem.W.Frag} {mg : Str → Option Value} {base : Heap} {C : Addr}
theorem sc_is_door : FnScope ["value", "rooms", "near", "first", "far", "second", "item"] ["value", "rooms"] (defScope s_is_door) := ⟨rfl, rfl, rfl, by decide +kernel, rfl, by decide +kernel, by decide +kernel⟩
abbrev sp_is_door (C : Addr) : Sp := fnSp C (fun i : Door × Int => [doorD i.1, .num i.2]) (fun i => DOk i.2 i.1) (fun _ => .bl true)
theorem ok_is_door (F : Df K mg "is_door" s_is_door) (B : Bi K mg C) (h_is_number : Cl P w K mg base "is_number" 1 ["value"] (sp_is_number C)) (h_is_below : Cl P w K mg base "is_below" 2 ["value", "size"] (sp_is_below C)) : Cl P w K mg base "is_door" 3 ["value", "rooms"] (sp_is_door C) := by
  refine F.cl sc_is_door (fun _ _ _ _ _ _ us hl => match us, hl with | [_, _], _ => rfl) (fun vs H Q E h => ?_) (fun f cdv A outer s H vs Q E hr h => ?_)
  · obtain ⟨i, t, _⟩ := h; exact t.length
  · obtain ⟨⟨d, rooms⟩, t, hp, q⟩ := h
    obtain ⟨v, _, rfl, t1, t⟩ := tpa_cons t
    obtain ⟨v', _, rfl, t2, t⟩ := tpa_cons t
    cases tpa_nil t
    cases tp_num t2
    obtain ⟨⟨n1, n2⟩, ⟨f1, f2⟩, ⟨a1, a2, a3⟩, ⟨b1, b2, b3⟩⟩ := hp
    dsimp only at n1 n2 f1 f2 a1 a2 a3 b1 b2 b3 t1
    refine ⟨_, (pss_cons (ps_if (PW.pt (pw_or (pt_not (pt_val (pe_callB call_isi (by rfl) B.isinstance (by decide +kernel) (pa_cons (pv 0) (pa_cons (pe_bltn (v := .ty "tuple") (by rfl) B.tuple (by decide +kernel) rfl) pa_nil))))) (pw_or1 (pt_cmpR op_ne (pe_callB call_lenS (by rfl) B.len (by decide +kernel) (pa_cons (pv 0) pa_nil)) pe_int (nomark _))))) (pss_one (ps_ret pe_bl)) pss_nil)
      (pss_cons (ps_asg (pv 0) (pg_tup (by rfl) (pgs_cons (pg_name (i := 2) sc_is_door.nd rfl (by first | exact Or.inl rfl | exact Or.inr rfl)) (pgs_cons (pg_name (i := 3) sc_is_door.nd rfl (by first | exact Or.inl rfl | exact Or.inr rfl)) (pgs_cons (pg_name (i := 4) sc_is_door.nd rfl (by first | exact Or.inl rfl | exact Or.inr rfl)) (pgs_cons (pg_name (i := 5) sc_is_door.nd rfl (by first | exact Or.inl rfl | exact Or.inr rfl)) pgs_nil))))))
      (pss_cons (ps_if (PW.pt (pw_or (pt_not (pt_val (pe_cl h_is_below (hr.mono (by decide)) (by rfl) (pa_cons (pv 2) (pa_cons (pv 1) pa_nil))))) (pw_or1 (pt_not (pt_val (pe_cl h_is_below (hr.mono (by decide)) (by rfl) (pa_cons (pv 4) (pa_cons (pv 1) pa_nil)))))))) (pss_one (ps_ret pe_bl)) pss_nil)
      (pss_one (ps_ret (pe_callB (cr_all rfl) (by rfl) B.all (by decide +kernel) (pa_cons (pe_lc (own := [("item", 6)]) (tt := tYes) rfl sc_is_door.nd (pi_tup (pe_tup (pa_cons (pv 3) (pa_cons (pv 5) pa_nil)))) (blkOk_by (own := [("item", 6)]) (N := ["value", "rooms", "near", "first", "far", "second", "item"]) (sc := defScope s_is_door) (by decide +kernel)) (fun _ _ _ _ _ => (pg_name (i := 6) sc_is_door.nd rfl (by first | exact Or.inl rfl | exact Or.inr rfl))) (fun _ _ _ _ _ => pts_nil) (fun _ _ _ _ _ => (pe_and (pe_cl h_is_number (hr.mono (by decide)) (by rfl) (pa_cons (pv 6) pa_nil)) (pe_and (pe_cmpR op_ne (pv 6) pe_int (nomark _)) (pe_one (pe_chain op_le op_le (pe_un un_neg (pe_gint (by rfl) B.GREATEST)) (pv 6) (pe_gint (by rfl) B.GREATEST))))))) pa_nil))))))), ?_⟩
    have t1' : Tp C H v (.tup [.num d.1, .num d.2.1, .num d.2.2.1, .num d.2.2.2]) := t1
    have below : ∀ (n : Int), 0 ≤ n → n < rooms → D.bl true = D.bl (decide (0 ≤ n) && decide (n < rooms)) := by
      intro n h1 h2; simp [h1, h2]
    apply st_no (h := ?_)
    · intro H2 s2
      have t1b := t1.same s2
      apply st_asg (C := C) (d := doorD d)
      · exact ev_var rfl t1b
      · intro x H3 s3 tx
        refine ⟨_, gb_door tx, ?_⟩
        apply st_no (h := ?_)
        · intro H4 s4
          apply st_ret' (k := fun v H5 s5 t5 => q v H5 (Same.trans s2 (Same.trans s3 (Same.trans s4 s5))) t5)
          · apply ev_all (C := C) (bs := [true, true])
            · apply evl_lc (keep := fun _ => some (.bl true)) (h := ei_tup (ds := [.num d.2.1, .num d.2.2.2]) ?_) (hl := ?_)
              · intro e x H6 he s6 t6
                have hn : ∃ n : Int, e = .num n ∧ n ≠ 0 ∧ -999 ≤ n ∧ n ≤ 999 := by
                  simp only [List.mem_cons, List.not_mem_nil, or_false] at he
                  rcases he with rfl | rfl
                  · exact ⟨_, rfl, a1, a2, a3⟩
                  · exact ⟨_, rfl, b1, b2, b3⟩
                obtain ⟨n, rfl, c1, c2, c3⟩ := hn
                cases tp_num t6
                refine ⟨_, gb_name, rfl, et_yes, fun z hz => ?_⟩
                cases hz
                have e1 : D.bl true = D.bl (true && (!decide (n = 0) && (decide (-999 ≤ n) && decide (n ≤ 999)))) := by simp [c1, c2, c3]
                rw [e1]
                apply ev_andV
                · apply ev_fn n
                  · trivial
                  · rfl
                  · exact True.intro
                · intro _
                  trivial
              · trivial
              · show 2 ≤ sizeLine; decide
            · rfl
          · rfl
        · apply et_or (b := false) (c := false)
          · apply et_not (b := true)
            apply et_B (C := C)
            rw [below d.1 n1 n2]
            apply ev_fn (d.1, rooms)
            · trivial
            · rfl
            · exact True.intro
          · intro _
            apply et_not (b := true)
            apply et_B (C := C)
            rw [below d.2.2.1 f1 f2]
            apply ev_fn (d.2.2.1, rooms)
            · trivial
            · rfl
            · exact True.intro
    · apply et_or (b := false) (c := false)
      · apply et_not (b := true)
        apply et_B (C := C)
        trivial
      · intro _
        apply et_test (C := C)
        have e : D.bl false = D.bl (!decide (((4 : Nat) : Int) = 4)) := rfl
        rw [e]
        apply ev_neI
        · exact ev_lenT (ev_var rfl t1')
        · trivial
theorem sc_are_doors : FnScope ["value", "rooms", "door"] ["value", "rooms"] (defScope s_are_doors) := ⟨rfl, rfl, rfl, by decide +kernel, rfl, by decide +kernel, by decide +kernel⟩
abbrev sp_are_doors (C : Addr) : Sp := fnSp C (fun i : List Door × Int => [.tup (i.1.map doorD), .num i.2]) (fun i => i.1.length ≤ 20 ∧ ∀ d ∈ i.1, DOk i.2 d) (fun _ => .bl true)
theorem ok_are_doors (F : Df K mg "are_doors" s_are_doors) (B : Bi K mg C) (h_is_door : Cl P w K mg base "is_door" 3 ["value", "rooms"] (sp_is_door C)) : Cl P w K mg base "are_doors" 4 ["value", "rooms"] (sp_are_doors C) := by
  refine F.cl sc_are_doors (fun _ _ _ _ _ _ us hl => match us, hl with | [_, _], _ => rfl) (fun vs H Q E h => ?_) (fun f cdv A outer s H vs Q E hr h => ?_)
  · obtain ⟨i, t, _⟩ := h; exact t.length
  · obtain ⟨⟨ds, rooms⟩, t, hp, q⟩ := h
    obtain ⟨v, _, rfl, t1, t⟩ := tpa_cons t
    obtain ⟨v', _, rfl, t2, t⟩ := tpa_cons t
    cases tpa_nil t
    cases tp_num t2
    have hp : ds.length ≤ 20 ∧ ∀ d ∈ ds, DOk rooms d := hp
    dsimp only at t1
    refine ⟨_, (pss_cons (ps_if (PW.pt (pw_or (pt_not (pt_val (pe_callB call_isi (by rfl) B.isinstance (by decide +kernel) (pa_cons (pv 0) (pa_cons (pe_bltn (v := .ty "tuple") (by rfl) B.tuple (by decide +kernel) rfl) pa_nil))))) (pw_or1 (pt_cmpR op_gt (pe_callB call_lenS (by rfl) B.len (by decide +kernel) (pa_cons (pv 0) pa_nil)) (pe_gint (by rfl) B.MOST_DOORS) (nomark _))))) (pss_one (ps_ret pe_bl)) pss_nil)
      (pss_one (ps_ret (pe_callB (cr_all rfl) (by rfl) B.all (by decide +kernel) (pa_cons (pe_lc (own := [("door", 2)]) (tt := tYes) rfl sc_are_doors.nd (pi_tup (pv 0)) (blkOk_by (own := [("door", 2)]) (N := ["value", "rooms", "door"]) (sc := defScope s_are_doors) (by decide +kernel)) (fun _ _ _ _ _ => (pg_name (i := 2) sc_are_doors.nd rfl (by first | exact Or.inl rfl | exact Or.inr rfl))) (fun _ _ _ _ _ => pts_nil) (fun _ _ _ _ _ => (pe_cl h_is_door (hr.mono (by decide)) (by rfl) (pa_cons (pv 2) (pa_cons (pv 1) pa_nil))))) pa_nil))))), ?_⟩
    apply st_no (h := ?_)
    · intro H2 s2
      have t1b := t1.same s2
      apply st_ret' (k := fun v H5 s5 t5 => q v H5 (Same.trans s2 s5) t5)
      · apply ev_all (C := C) (bs := ds.map fun _ => true)
        · apply evl_lc (keep := fun _ => some (.bl true)) (h := ei_tup (ds := ds.map doorD) ?_) (hl := ?_)
          · intro e x H6 he s6 t6
            obtain ⟨d, hd, rfl⟩ := List.mem_map.mp he
            refine ⟨_, gb_name, rfl, et_yes, fun z hz => ?_⟩
            cases hz
            apply ev_fn (d, rooms)
            · trivial
            · rfl
            · exact hp.2 d hd
          · exact ev_var rfl t1b
          · rw [List.length_map]; exact small_len hp.1 (by omega)
        · simp [List.filterMap_map, Function.comp_def]
      · simp
    · apply et_or (b := false) (c := false)
      · apply et_not (b := true)
        apply et_B (C := C)
        trivial
      · intro _
        apply et_test (C := C)
        have e : D.bl false = D.bl (decide (20 < (((ds.map doorD).length : Nat) : Int))) := by
          rw [List.length_map, decide_eq_false (by omega)]
        rw [e]
        apply ev_opB (g := fun i j => decide (j < i))
        · trivial
        · trivial
end
end K49

set_option Elab.async false
set_option linter.all false
set_option maxRecDepth 100000
set_option maxHeartbeats 4000000
/-! Rooms joined; houses made. -/
namespace K49
open PySem PySem.Spec PyProof.Rows L2 Y
local macro_rules | `(tactic| trivial) => `(tactic| first
  | with_reducible exact ev_int
  | with_reducible exact ev_bl
  | with_reducible exact ev_non
  | with_reducible exact ea_nil
  | with_reducible exact et_yes
  | ((with_reducible apply ev_var); exact rfl; first | exact .num _ | exact .bl _ | exact .non | assumption)
  | ((with_reducible apply ea_cons); trivial; trivial)
  | ((with_reducible apply ev_tup); trivial; first | decide | (show _ ≤ sizeLine; simp; decide))
  | ((with_reducible apply ev_ix0); trivial; trivial; exact rfl)
  | ((with_reducible apply ev_ix1); trivial; trivial; exact rfl)
  | ((with_reducible apply ev_ix2); trivial; trivial; exact rfl)
  | ((with_reducible apply ev_ix3); trivial; trivial; exact rfl)
  | ((with_reducible apply ev_opI); trivial; trivial)
  | ((with_reducible apply ev_opB); trivial; trivial)
  | ((with_reducible apply ev_eqI); trivial; trivial)
  | ((with_reducible apply ev_neI); trivial; trivial)
  | ((with_reducible apply ev_un); trivial)
  | ((with_reducible apply ev_chain); trivial; trivial; trivial)
  | ((with_reducible apply ev_abs); trivial)
  | ((with_reducible apply ev_intI); trivial)
  | ((with_reducible apply ev_gcd); trivial; trivial)
  | ((with_reducible apply ev_lenT); trivial)
  | ((with_reducible apply et_test); trivial)
  | ((with_reducible apply et_B); trivial)
  | ((with_reducible apply et_not); trivial)
  | ((with_reducible apply et_and); trivial; (intro _; trivial))
  | ((with_reducible apply et_or); trivial; (intro _; trivial))
  | ((with_reducible apply ev_andV); trivial; (intro _; trivial))
  | ((with_reducible apply ev_orV); trivial; (intro _; trivial))
  | ((with_reducible apply ev_notV); trivial)
  | ((with_reducible apply ev_isN); trivial)
  | ((with_reducible apply ev_notN); trivial)
  | ((with_reducible apply ev_isiII); trivial)
  | ((with_reducible apply ev_isiIB); trivial)
  | ((with_reducible apply ev_isiTT); trivial)
  | ((with_reducible apply ev_isH); trivial))
section
variable {P : Program} {w : World} {K : PySem.W.Frag} {mg : Str → Option Value} {base : Heap} {C : Addr}
/-- what is asked of a house's parts -/
structure HOk (rooms : Int) (ds : List Door) : Prop where
  r0 : 1 ≤ rooms
  r1 : rooms ≤ 12
  dl : ds.length ≤ 20
  dok : ∀ d ∈ ds, DOk rooms d
  con : MJ.Conn rooms ds
theorem HOk.eg {rooms : Int} {ds : List Door} (h : HOk rooms ds) : ∀ e ∈ MJ.edges ds, 0 ≤ e.2 ∧ e.2 < rooms := by
  intro e he
  obtain ⟨d, hd, he⟩ := List.mem_flatMap.mp he
  obtain ⟨⟨n1, n2⟩, ⟨f1, f2⟩, _⟩ := h.dok d hd
  simp only [List.mem_cons, List.not_mem_nil, or_false] at he
  rcases he with rfl | rfl
  · exact ⟨f1, f2⟩
  · exact ⟨n1, n2⟩
theorem sc_joined_rooms : FnScope ["doors", "known", "line", "here", "near", "first", "far", "second", "one", "other"] ["doors"] (defScope s_joined_rooms) := ⟨rfl, rfl, rfl, by decide +kernel, rfl, by decide +kernel, by decide +kernel⟩
abbrev sp_joined_rooms (C : Addr) : Sp := fun vs H Q _ => ∃ (rooms : Int) (ds : List Door), TpA C H vs [.tup (ds.map doorD)] ∧ HOk rooms ds ∧
  ∀ a kn H', Same H H' → H' a = some (.dK (knd kn)) → (∀ r : Int, 0 ≤ r → r < rooms → r ∈ kn) → Q (.ref a) H'
theorem ok_joined_rooms (F : Df K mg "joined_rooms" s_joined_rooms) (B : Bi K mg C) : Cl P w K mg base "joined_rooms" 1 ["doors"] (sp_joined_rooms C) := by
  refine F.cl sc_joined_rooms (fun _ _ _ _ _ _ us hl => match us, hl with | [_], _ => rfl) (fun vs H Q E h => ?_) (fun f cdv A outer s H vs Q E hr h => ?_)
  · obtain ⟨r, i, t, _⟩ := h; exact t.length
  · obtain ⟨rooms, ds, t, hk, q⟩ := h
    obtain ⟨v, _, rfl, t1, t⟩ := tpa_cons t
    cases tpa_nil t
    refine ⟨_, (pss_cons (ps_par (i := 1) (j := 2) (by rfl) sc_joined_rooms.nd rfl rfl (by decide) rfl rfl (pa_cons (pe_disp (pps_cons pe_int pe_bl pps_nil) (by rfl) (by rfl) (fun z => by cases z) (by decide)) (pa_cons (pe_lst (pa_cons pe_int pa_nil)) pa_nil)) (by rfl))
      (pss_cons (ps_while PassesOwn.never (pt_cmpR (op_neD hr.units) (pv 2) (pe_lst pa_nil) (nomark _)) (pss_cons (ps_set (i := 3) sc_joined_rooms.nd rfl (by first | exact Or.inl rfl | exact Or.inr rfl) (pe_bm0 PySem.F.plainAttrs_list PySem.F.slot_list_pop PySem.F.type_list_pop mt_pop (pv 2)))
      (pss_one (ps_for PassesOwn.never rfl (pi_tup (pv 0)) (pg_tup (by rfl) (pgs_cons (pg_name (i := 4) sc_joined_rooms.nd rfl (by first | exact Or.inl rfl | exact Or.inr rfl)) (pgs_cons (pg_name (i := 5) sc_joined_rooms.nd rfl (by first | exact Or.inl rfl | exact Or.inr rfl)) (pgs_cons (pg_name (i := 6) sc_joined_rooms.nd rfl (by first | exact Or.inl rfl | exact Or.inr rfl)) (pgs_cons (pg_name (i := 7) sc_joined_rooms.nd rfl (by first | exact Or.inl rfl | exact Or.inr rfl)) pgs_nil))))) (pss_one (ps_for PassesOwn.never rfl (pi_tup (pe_tup (pa_cons (pe_tup (pa_cons (pv 4) (pa_cons (pv 6) pa_nil))) (pa_cons (pe_tup (pa_cons (pv 6) (pa_cons (pv 4) pa_nil))) pa_nil)))) (pg_tup (by rfl) (pgs_cons (pg_name (i := 8) sc_joined_rooms.nd rfl (by first | exact Or.inl rfl | exact Or.inr rfl)) (pgs_cons (pg_name (i := 9) sc_joined_rooms.nd rfl (by first | exact Or.inl rfl | exact Or.inr rfl)) pgs_nil))) (pss_one (ps_if (PW.pt (pw_and (pt_cmpR op_eq (pv 8) (pv 3) (nomark _)) (pw_and1 (pt_cmp (pc_dnotin (hu_of hr) (pv 9) (pv 1)))))) (pss_cons (ps_dput (hu_of hr) (pv 1) (pv 9) pe_bl rfl)
      (pss_one (ps_expr (pe_bm PySem.F.plainAttrs_list PySem.F.slot_list_append PySem.F.type_list_append mt_append (pv 2) (pa_cons (pv 9) pa_nil))))) pss_nil))))))))
      (pss_one (ps_ret (pv 1))))), ?_⟩
    intro p hp
    refine ⟨upd_same, [(.inl 0, .bl true)], rfl, by decide, Nat.succ_le_of_lt (by rw [sizeLine_eq]; decide), fun l hl => ⟨_, _, rfl, ?_⟩⟩
    have e0 : mergeK [] [((.inl 0 : Key), V.bl true)] = knd [0] := rfl
    rw [e0] at hl ⊢
    have hpl : p ≠ l := fun z => by rw [← z, upd_same] at hl; cases hl
    have nl : H l = none := by
      have := hl
      rw [upd_ne (Ne.symm hpl), upd_ne (Ne.symm hpl)] at this
      exact this
    let G0 : Hp := upd (upd (upd H p (.dK [])) p (.dK (knd [0]))) l (.lst ([0].map V.int))
    have sG0 : Same H G0 := Same.put (Same.put (Same.new hp) hp) nl
    refine ⟨fun m σ' H' => ∃ kn ln x3 x4 x5 x6 x7 x8 x9, σ' = [some v, some (.ref p), some (.ref l), x3, x4, x5, x6, x7, x8, x9] ∧ Same H H' ∧ H' p = some (.dK (knd kn)) ∧ H' l = some (.lst (ln.map V.int)) ∧ MJ.St rooms (kn, ln) ∧ MJ.Done ds (kn, ln) ∧ m = 2 * (rooms.toNat - kn.length) + ln.length, ⟨_, [0], [0], none, none, none, none, none, none, none, rfl, sG0, ?_, ?_, ?_, ?_, rfl⟩, ?_⟩
    · show upd _ l _ p = _
      rw [upd_ne hpl]; exact upd_same
    · exact upd_same
    · refine ⟨by simp, ?_, by simp, fun x hx => hx, Nat.le_refl _⟩
      intro x hx
      have : x = 0 := by simpa using hx
      subst this
      exact ⟨Int.le_refl _, Int.lt_of_lt_of_le Int.one_pos hk.r0⟩
    · intro x hx hn; exact absurd hx hn
    rintro m σ' H1 ⟨kn, ln, x3, x4, x5, x6, x7, x8, x9, rfl, s1, hp1, hl1, S1, D1, rfl⟩
    refine et_neNums (a := l) (ns := ln) (evv_var rfl) hl1 H1 (Same.refl _) _ fun H2 s2 => ?_
    cases hln : ln.isEmpty with
    | true =>
      have : ln = [] := by simpa using hln
      subst this
      refine iteF ⟨_, rfl, q p kn H2 (Same.trans s1 s2) (s2 _ _ hp1) fun r h0 h1 => MJ.all_in hk.con S1 D1 _ r h0 h1 (Nat.lt_succ_self _)⟩
    | false =>
      refine iteT ?_
      obtain ⟨l0, here, rfl⟩ : ∃ l0 here, ln = l0 ++ [here] := by
        refine ⟨ln.dropLast, ln.getLast (by intro z; rw [z] at hln; cases hln), (List.dropLast_concat_getLast _).symm⟩
      refine ⟨fun σ' H' => ∃ kn' ln' x3 x4 x5 x6 x7 x8 x9, σ' = [some v, some (.ref p), some (.ref l), x3, x4, x5, x6, x7, x8, x9] ∧ Same H H' ∧ H' p = some (.dK (knd kn')) ∧ H' l = some (.lst (ln'.map V.int)) ∧ (kn', ln') = MJ.visit here (MJ.edges ds) (kn, l0), ?_, ?_⟩
      · rintro σ' H' ⟨kn', ln', x3, x4, x5, x6, x7, x8, x9, rfl, s3, hp3, hl3, e3⟩
        obtain ⟨S2, D2, L2, L3⟩ := MJ.pop_ok hk.eg S1 D1
        rw [← e3] at S2 D2 L2 L3
        have b1 := MJ.len_le S2.nd S2.rg
        have b2 := MJ.len_le S1.nd S1.rg
        dsimp only at L2 L3 b1 b2
        refine ⟨_, ?_, kn', ln', _, _, _, _, _, _, _, rfl, s3, hp3, hl3, S2, D2, rfl⟩
        rw [List.length_append, List.length_singleton]
        omega
      · have hp2 := s2 _ _ hp1
        have hl2 := s2 _ _ hl1
        refine ⟨_, rfl, .inl ⟨rfl, _, .inl (.inl hl2)⟩, l, _, .int here, rfl, rfl, hl2, by simp, ?_⟩
        rw [List.map_append, List.map_singleton, List.dropLast_concat]
        have s3 : Same H (upd H2 l (.lst (l0.map V.int))) := Same.put (Same.trans s1 s2) nl
        have hp3 : upd H2 l (.lst (l0.map V.int)) p = some (.dK (knd kn)) := by rw [upd_ne hpl]; exact hp2
        have hl3 : upd H2 l (.lst (l0.map V.int)) l = some (.lst (l0.map V.int)) := upd_same
        have S3 : MJ.St rooms (kn, l0) := ⟨S1.nd, S1.rg, S1.z, fun x hx => S1.sub x (List.mem_append_left _ hx), by have := S1.le; simp at this ⊢; omega⟩
        generalize upd H2 l (.lst (l0.map V.int)) = H3 at s3 hp3 hl3 ⊢
        refine st_for (C := C) (wi := _) (ei_tup (ds := ds.map doorD) (ev_var rfl (t1.same s3))) (fun G i σ' H' => ∃ kn' ln' x4 x5 x6 x7 x8 x9, σ' = [some v, some (.ref p), some (.ref l), some (.int here), x4, x5, x6, x7, x8, x9] ∧ But2 p l G H' ∧ H' p = some (.dK (knd kn')) ∧ H' l = some (.lst (ln'.map V.int)) ∧ (kn', ln') = MJ.visit here (MJ.edges (ds.take i)) (kn, l0) ∧ MJ.St rooms (kn', ln')) ?_ ?_ ?_ ?_
        · intro G sG
          exact ⟨kn, l0, x4, x5, x6, x7, x8, x9, rfl, But2.refl _ _ _, sG _ _ hp3, sG _ _ hl3, rfl, S3⟩
        · rintro G i σ' H' sG ⟨kn', ln', y4, y5, y6, y7, y8, y9, rfl, b, hp', hl', e', S'⟩
          exact ⟨b.stay (notImm_dK (sG _ _ hp3)) (notImm_lst (sG _ _ hl3)), b.keeps (by rw [hp3]; simp) (by rw [hl3]; simp) (by simp) (by simp)⟩
        · rintro G i d x σ' H' sG hi ⟨kn', ln', y4, y5, y6, y7, y8, y9, rfl, b, hp', hl', e', S'⟩ tx
          obtain ⟨dr, hdr, rfl⟩ := map_item hi
          refine ⟨_, gb_door tx, ?_⟩
          have hmem : dr ∈ ds := List.mem_of_getElem? hdr
          obtain ⟨⟨n1, n2⟩, ⟨f1, f2⟩, _⟩ := hk.dok dr hmem
          refine st_for (C := C) (wi := _) (ei_tup (ds := [.tup [.num dr.1, .num dr.2.2.1], .tup [.num dr.2.2.1, .num dr.1]]) ?_) (fun G2 j σ' H'' => ∃ kn2 ln2 x8 x9, σ' = [some v, some (.ref p), some (.ref l), some (.int here), some (.int dr.1), some (.int dr.2.1), some (.int dr.2.2.1), some (.int dr.2.2.2), x8, x9] ∧ But2 p l G H'' ∧ But2 p l G2 H'' ∧ H'' p = some (.dK (knd kn2)) ∧ H'' l = some (.lst (ln2.map V.int)) ∧ (kn2, ln2) = MJ.visit here ([(dr.1, dr.2.2.1), (dr.2.2.1, dr.1)].take j) (kn', ln') ∧ MJ.St rooms (kn2, ln2)) ?_ ?_ ?_ ?_
          · trivial
          · intro G2 s2
            exact ⟨kn', ln', y8, y9, rfl, But2.trans b (Same.but2 s2), But2.refl _ _ _, s2 _ _ hp', s2 _ _ hl', rfl, S'⟩
          · rintro G2 j σ' H'' s2 ⟨kn2, ln2, z8, z9, rfl, b1, b2, hp2, hl2, e2, S2⟩
            exact ⟨b2.stay (notImm_dK (s2 _ _ hp')) (notImm_lst (s2 _ _ hl')), b2.keeps (by rw [hp']; simp) (by rw [hl']; simp) (by simp) (by simp)⟩
          · rintro G2 j d x σ' H'' s2 hj ⟨kn2, ln2, z8, z9, rfl, b1, b2, hp2, hl2, e2, S2⟩ tx
            obtain ⟨eg, heg, rfl, hrg⟩ : ∃ eg : MJ.Eg, [(dr.1, dr.2.2.1), (dr.2.2.1, dr.1)][j]? = some eg ∧ d = .tup [.num eg.1, .num eg.2] ∧ 0 ≤ eg.2 ∧ eg.2 < rooms := by
              match j, hj with
              | 0, hj => exact ⟨_, rfl, by simpa using hj.symm, f1, f2⟩
              | 1, hj => exact ⟨_, rfl, by simpa using hj.symm, n1, n2⟩
              | j + 2, hj => simp at hj
            obtain ⟨u1, u2, w1, w2, g2⟩ := gb_two (K := K) (i := 8) (j := 9) (σ := [some v, some (.ref p), some (.ref l), some (.int here), some (.int dr.1), some (.int dr.2.1), some (.int dr.2.2.1), some (.int dr.2.2.2), z8, z9]) tx
            cases tp_num w1
            cases tp_num w2
            refine ⟨_, g2, ?_⟩
            have ev : ([(dr.1, dr.2.2.1), (dr.2.2.1, dr.1)] : List MJ.Eg).take (j + 1) = ([(dr.1, dr.2.2.1), (dr.2.2.1, dr.1)] : List MJ.Eg).take j ++ [eg] := by
              rw [List.take_add_one, heg]; rfl
            have vs1 : MJ.visit here (([(dr.1, dr.2.2.1), (dr.2.2.1, dr.1)] : List MJ.Eg).take (j + 1)) (kn', ln') = MJ.stepJ here (kn2, ln2) eg := by
              rw [ev, MJ.visit_app, ← e2]; rfl
            have S3' : MJ.St rooms (MJ.stepJ here (kn2, ln2) eg) := (MJ.visit_ok (here := here) (es := [eg]) (fun e he => by
              have : e = eg := by simpa using he
              rw [this]; exact hrg) S2).1
            have k12 : kn2.length ≤ 12 := by
              have := MJ.len_le S2.nd S2.rg
              have := hk.r1
              dsimp only at *
              omega
            have kl : kn2.length < sizeLine := small_lt (m := 100) (by omega) (by omega)
            have ll : ln2.length < sizeLine := small_lt (m := 100) (by have := S2.le; dsimp only at this; omega) (by omega)
            apply st_if
            · apply et_and
              · apply et_test (C := C)
                trivial
              · intro _
                exact et_notIn (C := C) (ev_var rfl (.num _)) (evv_var rfl) hp2
            · intro hb H4 s4
              have hb : eg.1 = here ∧ eg.2 ∉ kn2 := by simpa using hb
              have sj : MJ.stepJ here (kn2, ln2) eg = (kn2 ++ [eg.2], ln2 ++ [eg.2]) := if_pos hb
              have hp4 := s4 _ _ hp2
              refine ⟨_, rfl, _, rfl, p, _, rfl, DPut.k (k := .inl eg.2) hp4 (by rw [knd, List.length_map]; exact kl), ?_⟩
              rw [knd_put kn2 eg.2 hb.2]
              have hl4 : upd H4 p (.dK (knd (kn2 ++ [eg.2]))) l = some (.lst (ln2.map V.int)) := by
                rw [upd_ne (Ne.symm hpl)]; exact s4 _ _ hl2
              have b14 : But2 p l G (upd H4 p (.dK (knd (kn2 ++ [eg.2])))) := but2_set (But2.trans b1 (Same.but2 s4))
              have b24 : But2 p l G2 (upd H4 p (.dK (knd (kn2 ++ [eg.2])))) := but2_set (But2.trans b2 (Same.but2 s4))
              have hp5 : upd H4 p (.dK (knd (kn2 ++ [eg.2]))) p = some (.dK (knd (kn2 ++ [eg.2]))) := upd_same
              generalize upd H4 p (.dK (knd (kn2 ++ [eg.2]))) = H5 at hl4 b14 b24 hp5 ⊢
              apply st_app1 (C := C) (d := .num eg.2) (hv := rfl) (ha := hl4)
              · rw [List.length_map]; exact ll
              · trivial
              · intro v6 H6 s6 t6
                cases tp_num t6
                refine ⟨kn2 ++ [eg.2], ln2 ++ [eg.2], _, _, rfl, but2_set' (But2.trans b14 (Same.but2 s6)), but2_set' (But2.trans b24 (Same.but2 s6)), ?_, ?_, ?_, ?_⟩
                · rw [upd_ne hpl]; exact s6 _ _ hp5
                · rw [upd_same, List.map_append]; rfl
                · rw [vs1, sj]
                · rw [← sj]; exact S3'
            · intro hb H4 s4
              have hb : ¬ (eg.1 = here ∧ eg.2 ∉ kn2) := by
                intro z
                rw [decide_eq_true z.1, decide_eq_false z.2] at hb
                cases hb
              have sj : MJ.stepJ here (kn2, ln2) eg = (kn2, ln2) := if_neg hb
              refine ⟨kn2, ln2, _, _, rfl, But2.trans b1 (Same.but2 s4), But2.trans b2 (Same.but2 s4), s4 _ _ hp2, s4 _ _ hl2, ?_, S2⟩
              rw [vs1, sj]
          · rintro G2 σ' H'' s2 ⟨kn2, ln2, z8, z9, rfl, b1, b2, hp2, hl2, e2, S2⟩
            refine ⟨kn2, ln2, _, _, _, _, _, _, rfl, b1, hp2, hl2, ?_, S2⟩
            rw [e2, List.take_add_one, hdr, MJ.edges_app, MJ.visit_app, ← e']
            rfl
        · rintro G σ' H' sG ⟨kn', ln', y4, y5, y6, y7, y8, y9, rfl, b, hp', hl', e', S'⟩
          refine ⟨kn', ln', _, _, _, _, _, _, _, rfl, ?_, hp', hl', ?_⟩
          · exact b.back (Same.trans s3 sG) hp nl
          · rw [e', List.length_map, List.take_length]
theorem sc_House___init__ : FnScope ["self", "rooms", "doors", "known", "room"] ["self", "rooms", "doors"] (defScope s_House___init__) := ⟨rfl, rfl, rfl, by decide +kernel, rfl, by decide +kernel, by decide +kernel⟩
abbrev sp_House (C : Addr) : Sp := spInit C HOk
theorem ok_House (F : DfM K C "House.__init__" s_House___init__) (B : Bi K mg C) (h_is_number : Cl P w K mg base "is_number" 1 ["value"] (sp_is_number C)) (h_are_doors : Cl P w K mg base "are_doors" 4 ["value", "rooms"] (sp_are_doors C)) (h_joined_rooms : Cl P w K mg base "joined_rooms" 1 ["doors"] (sp_joined_rooms C)) : ClM P w K mg base C 5 ["self", "rooms", "doors"] (sp_House C) := by
  refine F.cl sc_House___init__ (fun _ _ _ _ _ _ us hl => match us, hl with | [_, _, _], _ => rfl) (fun vs H Q E h => ?_) (fun f cdv A outer s H vs Q E hr h => ?_)
  · obtain ⟨x, dx, r, b, ds, rfl, _⟩ := h; rfl
  · obtain ⟨x, dx, rooms, b, ds, rfl, hx, t1, hk, q⟩ := h
    refine ⟨_, (pss_cons (ps_if (PW.pt (pw_or (pt_not (pt_val (pe_cl h_is_number (hr.mono (by decide)) (by rfl) (pa_cons (pv 1) pa_nil)))) (pw_or1 (pt_not (pt_chain op_le op_le pe_int (pv 1) (pe_gint (by rfl) B.MOST_ROOMS)))))) (pss_one ps_never) pss_nil)
      (pss_cons (ps_if (pt_not (pt_val (pe_cl h_are_doors (hr.mono (by decide)) (by rfl) (pa_cons (pv 2) (pa_cons (pv 1) pa_nil))))) (pss_one ps_never) pss_nil)
      (pss_cons (ps_set (i := 3) sc_House___init__.nd rfl (by first | exact Or.inl rfl | exact Or.inr rfl) (pe_cl h_joined_rooms (hr.mono (by decide)) (by rfl) (pa_cons (pv 2) pa_nil)))
      (pss_cons (ps_for PassesOwn.never rfl (pi_range1 (by rfl) B.range (pa_cons (pv 1) pa_nil)) (pg_name (i := 4) sc_House___init__.nd rfl (by first | exact Or.inl rfl | exact Or.inr rfl)) (pss_one (ps_if (pt_cmp (pc_dnotin (hu_of hr) (pv 4) (pv 3))) (pss_one ps_never) pss_nil)))
      (pss_cons (ps_fld (pv 0) (pv 1) rfl)
      (pss_one (ps_fld (pv 0) (pv 2) rfl))))))), ?_⟩
    have := hk.r0
    have := hk.r1
    apply st_no (h := ?_)
    · intro H2 s2
      apply st_no (h := ?_)
      · intro H3 s3
        have s03 := Same.trans s2 s3
        refine ⟨_, rfl, rooms, ds, .cons (t1.same s03) .nil, hk, fun a kn H4 s4 ha hall => ?_⟩
        have s04 := Same.trans s03 s4
        change tFor (iRng1 (tCons (tVar 1) tNil)) (gName 4) _ _ [some (.ref x), some (.int rooms), some (.ref b), some (.ref a), none] H4
        refine st_for (C := C) (wi := _) (ei_rng1 (n := rooms.toNat) (C := C) ?_ (by omega)) (fun G i σ' H' => ∃ y, σ' = [some (.ref x), some (.int rooms), some (.ref b), some (.ref a), y] ∧ Same G H') ?_ ?_ ?_ ?_
        · have e : (rooms.toNat : Int) = rooms := by omega
          rw [e]
          trivial
        · intro G sG
          exact ⟨none, rfl, Same.refl _⟩
        · rintro G i σ' H' sG ⟨y, rfl, s⟩
          exact ⟨Same.stay s, fun b o _ e => s b o e⟩
        · rintro G i d z σ' H' sG hi ⟨y, rfl, s⟩ tz
          obtain ⟨hi2, rfl⟩ := rng_item hi
          cases tp_num tz
          refine ⟨_, gb_name, ?_⟩
          apply st_no1
          · have e : false = !decide ((i : Int) ∈ kn) := by
              rw [decide_eq_true (hall i (by omega) (by omega))]; rfl
            rw [e]
            exact et_notIn (C := C) (ev_var rfl (.num _)) (evv_var rfl) (s _ _ (sG _ _ ha))
          · exact fun H5 s5 => ⟨_, rfl, Same.trans s s5⟩
        · rintro G σ' H' sG ⟨y, rfl, s⟩
          have s5 := Same.trans s04 (Same.trans sG s)
          refine ⟨_, rfl, _, rfl, x, C, dx, [], rfl, s5 _ _ hx, B.cl, B.nr, by decide, ?_⟩
          refine ⟨_, rfl, _, rfl, x, C, dx, _, rfl, upd_same, B.cl, B.nd, (show 1 < 1000 by decide), ?_⟩
          have e : upd (upd H' x (.ins C dx (putF "rooms" (.int rooms) []))) x (.ins C dx (putF "doors" (.ref b) (putF "rooms" (.int rooms) []))) = upd H' x (.ins C dx (hflds rooms b)) := by
            have e1 : putF "doors" (.ref b) (putF "rooms" (.int rooms) []) = hflds rooms b := by
              show (if ("rooms" : Str) = "doors" then _ else _) = _
              rw [if_neg (by decide +kernel)]
              rfl
            rw [e1]
            funext z
            unfold upd
            split <;> rfl
          rw [e]
          exact q H' s5
      · apply et_not (b := true)
        apply et_B (C := C)
        apply ev_fn (ds, rooms)
        · apply ea_cons
          · exact ev_var rfl (t1.same s2)
          · trivial
        · rfl
        · exact ⟨hk.dl, hk.dok⟩
    · apply et_or (b := false) (c := false)
      · apply et_not (b := true)
        apply et_B (C := C)
        apply ev_fn rooms
        · trivial
        · rfl
        · exact True.intro
      · intro _
        apply et_not (b := true)
        apply et_test (C := C)
        have e : D.bl true = D.bl (decide (1 ≤ rooms) && decide (rooms ≤ 12)) := by
          rw [decide_eq_true hk.r0, decide_eq_true hk.r1]; rfl
        rw [e]
        trivial
end
end K49

set_option Elab.async false
set_option linter.all false
set_option maxRecDepth 100000
set_option maxHeartbeats 4000000
/-! Stillness: states as dicts. -/
namespace K49
open PySem PySem.Spec PyProof.Rows L2 Y
local macro_rules | `(tactic| trivial) => `(tactic| first
  | with_reducible exact ev_int
  | with_reducible exact ev_bl
  | with_reducible exact ev_non
  | with_reducible exact ea_nil
  | with_reducible exact et_yes
  | ((with_reducible apply ev_var); exact rfl; first | exact .num _ | exact .bl _ | exact .non | assumption)
  | ((with_reducible apply ea_cons); trivial; trivial)
  | ((with_reducible apply ev_tup); trivial; first | decide | (show _ ≤ sizeLine; simp; decide))
  | ((with_reducible apply ev_ix0); trivial; trivial; exact rfl)
  | ((with_reducible apply ev_ix1); trivial; trivial; exact rfl)
  | ((with_reducible apply ev_ix2); trivial; trivial; exact rfl)
  | ((with_reducible apply ev_ix3); trivial; trivial; exact rfl)
  | ((with_reducible apply ev_opI); trivial; trivial)
  | ((with_reducible apply ev_opB); trivial; trivial)
  | ((with_reducible apply ev_eqI); trivial; trivial)
  | ((with_reducible apply ev_neI); trivial; trivial)
  | ((with_reducible apply ev_un); trivial)
  | ((with_reducible apply ev_chain); trivial; trivial; trivial)
  | ((with_reducible apply ev_abs); trivial)
  | ((with_reducible apply ev_intI); trivial)
  | ((with_reducible apply ev_gcd); trivial; trivial)
  | ((with_reducible apply ev_lenT); trivial)
  | ((with_reducible apply et_test); trivial)
  | ((with_reducible apply et_B); trivial)
  | ((with_reducible apply et_not); trivial)
  | ((with_reducible apply et_and); trivial; (intro _; trivial))
  | ((with_reducible apply et_or); trivial; (intro _; trivial))
  | ((with_reducible apply ev_andV); trivial; (intro _; trivial))
  | ((with_reducible apply ev_orV); trivial; (intro _; trivial))
  | ((with_reducible apply ev_notV); trivial)
  | ((with_reducible apply ev_isN); trivial)
  | ((with_reducible apply ev_notN); trivial)
  | ((with_reducible apply ev_isiII); trivial)
  | ((with_reducible apply ev_isiIB); trivial)
  | ((with_reducible apply ev_isiTT); trivial)
  | ((with_reducible apply ev_isH); trivial))
/-- a state's key; a class's -/
def sKD (k : MF.SKey) : D := .tup [.num k.1, .num k.2.1, lastD k.2.2]
def cKD (k : MF.CKey) : D := .tup [.num k.1, .num k.2.1, .num k.2.2.1, lastD k.2.2.2]
theorem nk_last {a b : Option MF.Step} (h : nk (lastD a) = nk (lastD b)) : a = b := by
  cases a with
  | none => cases b with
    | none => rfl
    | some b => simp [lastD, stepD, nk] at h
  | some a => cases b with
    | none => simp [lastD, stepD, nk] at h
    | some b =>
      simp only [lastD, stepD, nk, nkA, NestedKey.tup.injEq, List.cons.injEq, NestedKey.num.injEq, and_true] at h
      obtain ⟨h1, h2⟩ := h
      have e1 : a.1 = b.1 := by omega
      have e2 : a.2 = b.2 := by omega
      rw [show a = b from Prod.ext e1 e2]
theorem kd_s : KD sKD where
  inj := fun a b h => by
    simp only [sKD, nk, nkA, NestedKey.tup.injEq, List.cons.injEq, NestedKey.num.injEq, and_true] at h
    obtain ⟨h1, h2, h3⟩ := h
    exact Prod.ext h1 (Prod.ext h2 (nk_last h3))
  fl := fun k => by obtain ⟨a, b, c⟩ := k; cases c <;> rfl
  dp := fun k => by obtain ⟨a, b, c⟩ := k; cases c <;> exact Nat.le_of_ble_eq_true rfl
  tup := fun k => ⟨_, rfl⟩
theorem kd_c : KD cKD where
  inj := fun a b h => by
    simp only [cKD, nk, nkA, NestedKey.tup.injEq, List.cons.injEq, NestedKey.num.injEq, and_true] at h
    obtain ⟨h1, h2, h3, h4⟩ := h
    exact Prod.ext h1 (Prod.ext h2 (Prod.ext h3 (nk_last h4)))
  fl := fun k => by obtain ⟨a, b, c, d⟩ := k; cases d <;> rfl
  dp := fun k => by obtain ⟨a, b, c, d⟩ := k; cases d <;> exact Nat.le_of_ble_eq_true rfl
  tup := fun k => ⟨_, rfl⟩
/-- the houses of the law -/
structure HW (rooms : Int) (ds : List Door) : Prop where
  hk : HOk rooms ds
  d4 : ds.length ≤ 4
  n50 : ∀ d ∈ ds, d.2.1.natAbs ≤ 50 ∧ d.2.2.2.natAbs ≤ 50
theorem HW.ok {rooms : Int} {ds : List Door} (h : HW rooms ds) : MF.Ok rooms ds where
  pos := h.hk.r0
  nn := fun d hd => ⟨(h.hk.dok d hd).2.2.1.1, (h.hk.dok d hd).2.2.2.1⟩
  rm := fun d hd => ⟨(h.hk.dok d hd).1.1, (h.hk.dok d hd).1.2, (h.hk.dok d hd).2.1.1, (h.hk.dok d hd).2.1.2⟩
theorem HW.lv {rooms : Int} {ds : List Door} (h : HW rooms ds) {s : MF.Step} (hs : s ∈ MF.allSteps ds) : MF.lv ds s ≠ 0 ∧ (MF.lv ds s).natAbs ≤ 50 ∧ MF.ar ds s ≠ 0 ∧ (MF.ar ds s).natAbs ≤ 50 := by
  refine ⟨MF.lv_ne h.ok hs, ?_, MF.ar_ne h.ok hs, ?_⟩
  · obtain ⟨d, hd, e | e⟩ := MF.gate_door hs
    · show (MF.gate ds s).2.1.natAbs ≤ 50
      rw [e]; exact (h.n50 d hd).1
    · show (MF.gate ds s).2.1.natAbs ≤ 50
      rw [e]; exact (h.n50 d hd).2
  · obtain ⟨d, hd, e | e⟩ := MF.gate_door hs
    · show (MF.gate ds s).2.2.2.natAbs ≤ 50
      rw [e]; exact (h.n50 d hd).2
    · show (MF.gate ds s).2.2.2.natAbs ≤ 50
      rw [e]; exact (h.n50 d hd).1
theorem len_beyond {ds : List Door} {room : Int} {last : Option MF.Step} (h : ds.length ≤ 4) : (MF.beyond ds room last).length ≤ 8 := by
  unfold MF.beyond MF.stepsOf MF.allSteps
  rw [List.length_map]
  refine Nat.le_trans (List.length_filter_le _ _) ?_
  have : ∀ n, ((List.range n).flatMap fun a => [(a, 0), (a, 1)] : List MF.Step).length = 2 * n := by
    intro n
    induction n with
    | zero => rfl
    | succ n ih => rw [List.range_succ, List.flatMap_append, List.length_append, ih]; simp; omega
  rw [this]; omega
theorem len_flat {α β : Type} {c : Nat} {f : α → List β} (h : ∀ a, (f a).length ≤ c) : ∀ l : List α, (l.flatMap f).length ≤ c * l.length
  | [] => by simp
  | a :: l => by
    rw [List.flatMap_cons, List.length_append, List.length_cons]
    have := h a
    have := len_flat h l
    rw [Nat.mul_add]; omega
section
variable {P : Program} {w : World} {K : PySem.W.Frag} {mg : Str → Option Value} {base : Heap} {C : Addr}
theorem sc_need_short : FnScope ["length"] ["length"] (defScope s_need_short) := ⟨rfl, rfl, rfl, by decide +kernel, rfl, by decide +kernel, by decide +kernel⟩
abbrev sp_need_short (C : Addr) : Sp := fnSp C (fun i : Int => [.num i]) (fun i => 0 ≤ i ∧ i ≤ 40) (fun _ => .non)
theorem ok_need_short (F : Df K mg "need_short" s_need_short) (B : Bi K mg C) (h_is_below : Cl P w K mg base "is_below" 2 ["value", "size"] (sp_is_below C)) : Cl P w K mg base "need_short" 3 ["length"] (sp_need_short C) := by
  refine F.cl sc_need_short (fun _ _ _ _ _ _ us hl => match us, hl with | [_], _ => rfl) (fun vs H Q E h => ?_) (fun f cdv A outer s H vs Q E hr h => ?_)
  · obtain ⟨i, t, _⟩ := h; exact t.length
  · obtain ⟨i, t, hp, q⟩ := h
    obtain ⟨v, _, rfl, t1, t⟩ := tpa_cons t
    cases tpa_nil t
    have hp : 0 ≤ i ∧ i ≤ 40 := hp
    refine ⟨_, (pss_one (ps_if (pt_not (pt_val (pe_cl h_is_below (hr.mono (by decide)) (by rfl) (pa_cons (pv 0) (pa_cons (pe_op op_add (pe_gint (by rfl) B.MOST_LENGTH_stillness) pe_int) pa_nil))))) (pss_one ps_never) pss_nil)), ?_⟩
    apply st_no1
    · refine et_not (b := true) (et_B (C := C) ?_)
      have e : D.bl true = D.bl (decide (0 ≤ i) && decide (i < 40 + 1)) := by
        rw [decide_eq_true hp.1, decide_eq_true (by omega)]; rfl
      rw [e]
      apply ev_fn (i, (40 : Int) + 1)
      · trivial
      · rfl
      · exact True.intro
    · exact fun H2 s2 => q _ _ s2 .non
theorem sc_put_many : FnScope ["found", "key", "many"] ["found", "key", "many"] (defScope s_put_many) := ⟨rfl, rfl, rfl, by decide +kernel, rfl, by decide +kernel, by decide +kernel⟩
theorem ok_put_many (F : Df K mg "put_many" s_put_many) (B : Bi K mg C) : Cl P w K mg base "put_many" 1 ["found", "key", "many"] (spPut P w C) := by
  refine F.cl sc_put_many (fun _ _ _ _ _ _ us hl => match us, hl with | [_, _, _], _ => rfl) (fun vs H Q E h => ?_) (fun f cdv A outer s H vs Q E hr h => ?_)
  · obtain ⟨κ, i2, kD, d, a, m, k, n, KK, rfl, _⟩ := h; rfl
  · obtain ⟨κ, i2, kD, d, a, m, k, n, KK, rfl, M, tk, hl, q⟩ := h
    refine ⟨_, (pss_one (ps_if (pt_cmpR op_gt (pv 2) pe_int (nomark _)) (pss_one (ps_ndput (C := C) hr.units (pv 0) (pv 1) (pe_op op_add (pe_ndget2 (C := C) hr.units (pv 0) (pv 1) pe_int ⟨rfl, rfl, rfl, rfl⟩) (pv 2)) rfl)) pss_nil)), ?_⟩
    apply st_if
    · apply et_test (C := C)
      apply ev_opB (g := fun i j => decide (j < i))
      · trivial
      · trivial
    · intro hb H2 s2
      have hb : 0 < n := of_decide_eq_true hb
      apply st_ndadd (m := m) (k := k) (n := n) KK rfl rfl rfl (M.same s2) (tk.same s2) hl
      intro H3 b3 M3
      refine q H3 (But.trans (Same.but s2) b3) ?_
      unfold MS.add
      rw [if_pos hb]
      exact M3
    · intro hb H2 s2
      have hb : ¬ 0 < n := of_decide_eq_false hb
      refine q H2 (Same.but s2) ?_
      unfold MS.add
      rw [if_neg hb]
      exact M.same s2
end
/-- what one step of one state gives -/
def sInc (ds : List Door) (k : MF.SKey) (many : Int) (q : MF.Step × Int) : List (MF.SKey × Int) := if k.2.1.fmod (MF.lv ds q.1) = 0 then [((MF.far ds q.1, k.2.1.fdiv (MF.lv ds q.1) * MF.ar ds q.1, some q.1), many * (MF.aux (MF.lv ds q.1) - q.2))] else []
theorem sInc_len (ds : List Door) (k : MF.SKey) (many : Int) (q : MF.Step × Int) : (sInc ds k many q).length ≤ 1 := by unfold sInc; split <;> simp
theorem stillInc_len {ds : List Door} (h : ds.length ≤ 4) (k : MF.SKey) (many : Int) : (MF.stillInc ds k many).length ≤ 8 := by
  have h1 := len_flat (c := 1) (sInc_len ds k many) (MF.beyond ds k.1 k.2.2)
  have h2 := len_beyond (room := k.1) (last := k.2.2) h
  show ((MF.beyond ds k.1 k.2.2).flatMap (sInc ds k many)).length ≤ 8
  omega
theorem aux_if (x : Int) : (if x < 0 then -x else x) = MF.aux x := by unfold MF.aux; split <;> omega
theorem stillInc_last {ds : List Door} {k : MF.SKey} {many : Int} : ∀ p ∈ MF.stillInc ds k many, ∀ l, p.1.2.2 = some l → l.2 ≤ 1 := by
  intro p hp l hl
  unfold MF.stillInc MF.beyond at hp
  obtain ⟨q, hq, hp⟩ := List.mem_flatMap.mp hp
  obtain ⟨s, hs, rfl⟩ := List.mem_map.mp hq
  split at hp
  · simp only [List.mem_cons, List.not_mem_nil, or_false] at hp
    subst hp
    cases hl
    exact (MF.mem_all.mp (MF.mem_stepsOf.mp hs).1).2
  · exact absurd hp (by simp)
/-- every last step has a side -/
def LS (m : List (MF.SKey × Int)) : Prop := ∀ p ∈ m, ∀ l, p.1.2.2 = some l → l.2 ≤ 1
theorem LS.on {ds : List Door} {m : List (MF.SKey × Int)} : LS (MF.stillOn ds m) := by
  refine MS.key_adds (P := fun k : MF.SKey => ∀ l, k.2.2 = some l → l.2 ≤ 1) _ ?_ (by intro p hp; simp at hp)
  intro p hp
  obtain ⟨q, hq, hp⟩ := List.mem_flatMap.mp hp
  exact stillInc_last p hp
theorem stillOn_len {ds : List Door} (h : ds.length ≤ 4) (m : List (MF.SKey × Int)) : (MF.stillOn ds m).length ≤ 8 * m.length := by
  unfold MF.stillOn
  have h1 := MS.len_adds (m.flatMap fun p => MF.stillInc ds p.1 p.2) []
  have h2 := len_flat (c := 8) (f := fun p : MF.SKey × Int => MF.stillInc ds p.1 p.2) (fun p => stillInc_len h p.1 p.2) m
  rw [List.length_nil] at h1
  omega
section
variable {P : Program} {w : World} {K : PySem.W.Frag} {mg : Str → Option Value} {base : Heap} {C : Addr}
theorem sc_still_on : FnScope ["house", "states", "found", "room", "pulls", "last", "many", "step", "least", "here", "leaving", "there", "arriving"] ["house", "states"] (defScope s_still_on) := ⟨rfl, rfl, rfl, by decide +kernel, rfl, by decide +kernel, by decide +kernel⟩
abbrev sp_still_on (P : Program) (w : World) (C : Addr) : Sp := fun vs H Q _ => ∃ rooms ds d m, TpA C H (vs.take 1) [.hs rooms ds] ∧ vs.drop 1 = [.ref d] ∧ HW rooms ds ∧ MD P w C sKD H d m ∧ LS m ∧ m.length ≤ 262144 ∧
  ∀ p H', Same H H' → H p = none → MD P w C sKD H' p (MF.stillOn ds m) → Q (.ref p) H'
theorem ok_still_on (F : Df K mg "still_on" s_still_on) (B : Bi K mg C) (h_steps_beyond : Cl P w K mg base "steps_beyond" 3 ["house", "room", "last"] (sp_steps_beyond C)) (h_gate_of : Cl P w K mg base "gate_of" 1 ["house", "step"] (sp_gate_of C)) (h_put_many : Cl P w K mg base "put_many" 1 ["found", "key", "many"] (spPut P w C)) : Cl P w K mg base "still_on" 4 ["house", "states"] (sp_still_on P w C) := by
  refine F.cl sc_still_on (fun _ _ _ _ _ _ us hl => match us, hl with | [_, _], _ => rfl) (fun vs H Q E h => ?_) (fun f cdv A outer s H vs Q E hr h => ?_)
  · obtain ⟨rooms, ds, d, m, t, e, _⟩ := h
    match vs, t, e with
    | [_, _], _, _ => rfl
    | [_], _, e => simp at e
    | _ :: _ :: _ :: _, _, e => simp at e
  · obtain ⟨rooms, ds, d, m, t, e, hw, M, ls, hl, q⟩ := h
    obtain ⟨v, rfl⟩ : ∃ v, vs = [v, .ref d] := by
      match vs, t, e with
      | [v, _], _, e => exact ⟨v, by simpa using e⟩
      | [_], _, e => simp at e
      | _ :: _ :: _ :: _, _, e => simp at e
    obtain ⟨_, _, ev, t1, t⟩ := tpa_cons t
    cases ev
    refine ⟨_, (pss_cons (ps_set (i := 2) sc_still_on.nd rfl (by first | exact Or.inl rfl | exact Or.inr rfl) (pe_ndnew))
      (pss_cons (ps_lock (ps_for PassesOwn.never rfl (pi_ni (pv 1)) (pg_tup (by rfl) (pgs_cons (pg_tup (by rfl) (pgs_cons (pg_name (i := 3) sc_still_on.nd rfl (by first | exact Or.inl rfl | exact Or.inr rfl)) (pgs_cons (pg_name (i := 4) sc_still_on.nd rfl (by first | exact Or.inl rfl | exact Or.inr rfl)) (pgs_cons (pg_name (i := 5) sc_still_on.nd rfl (by first | exact Or.inl rfl | exact Or.inr rfl)) pgs_nil)))) (pgs_cons (pg_name (i := 6) sc_still_on.nd rfl (by first | exact Or.inl rfl | exact Or.inr rfl)) pgs_nil))) (pss_one (ps_for PassesOwn.never rfl (pi_list (pe_cl h_steps_beyond (hr.mono (by decide)) (by rfl) (pa_cons (pv 0) (pa_cons (pv 3) (pa_cons (pv 5) pa_nil))))) (pg_tup (by rfl) (pgs_cons (pg_name (i := 7) sc_still_on.nd rfl (by first | exact Or.inl rfl | exact Or.inr rfl)) (pgs_cons (pg_name (i := 8) sc_still_on.nd rfl (by first | exact Or.inl rfl | exact Or.inr rfl)) pgs_nil))) (pss_cons (ps_asg (pe_cl h_gate_of (hr.mono (by decide)) (by rfl) (pa_cons (pv 0) (pa_cons (pv 7) pa_nil))) (pg_tup (by rfl) (pgs_cons (pg_name (i := 9) sc_still_on.nd rfl (by first | exact Or.inl rfl | exact Or.inr rfl)) (pgs_cons (pg_name (i := 10) sc_still_on.nd rfl (by first | exact Or.inl rfl | exact Or.inr rfl)) (pgs_cons (pg_name (i := 11) sc_still_on.nd rfl (by first | exact Or.inl rfl | exact Or.inr rfl)) (pgs_cons (pg_name (i := 12) sc_still_on.nd rfl (by first | exact Or.inl rfl | exact Or.inr rfl)) pgs_nil))))))
      (pss_one (ps_if (pt_cmpR op_eq (pe_op op_modN (pv 4) (pv 10)) pe_int (nomark _)) (pss_one (ps_expr (pe_cl h_put_many (hr.mono (by decide)) (by rfl) (pa_cons (pv 2) (pa_cons (pe_tup (pa_cons (pv 11) (pa_cons (pe_op op_mul (pe_op op_fdivN (pv 4) (pv 10)) (pv 12)) (pa_cons (pv 7) pa_nil)))) (pa_cons (pe_op op_mul (pv 6) (pe_op op_sub (pe_callB call_abs (by rfl) B.abs (by decide +kernel) (pa_cons (pv 10) pa_nil)) (pv 8))) pa_nil)))))) pss_nil)))))))
      (pss_one (ps_ret (pv 2))))), ?_⟩
    intro p hp
    have sp : Same H (upd H p (ndO P w p [])) := Same.new hp
    have M1 : MD P w C sKD (upd H p (ndO P w p [])) p ([] : List (MF.SKey × Int)) := md_new hp
    have Md := M.same sp
    have npd : p ≠ d := fun z => M.some (by rw [← z]; exact hp)
    have t1' := t1.same sp
    change tLock _ _ [some v, some (.ref d), some (.ref p), none, none, none, none, none, none, none, none, none, none] (upd H p (ndO P w p []))
    generalize upd H p (ndO P w p []) = H1 at sp M1 Md t1' ⊢
    refine st_ni (P := P) (w := w) (C := C) (kD := sKD) (d := d) (i := 1) (m := m) rfl Md (fun G i σ' H' => ∃ x3 x4 x5 x6 x7 x8 x9 x10 x11 x12, σ' = [some v, some (.ref d), some (.ref p), x3, x4, x5, x6, x7, x8, x9, x10, x11, x12] ∧ But p G H' ∧ MD P w C sKD H' p (MS.adds [] ((m.take i).flatMap fun z => MF.stillInc ds z.1 z.2))) ?_ ?_ ?_ ?_
    · intro G fz
      exact ⟨none, none, none, none, none, none, none, none, none, none, rfl, But.refl _ _, M1.fz fz npd⟩
    · rintro G i σ' H' fz ⟨x3, x4, x5, x6, x7, x8, x9, x10, x11, x12, rfl, b, M'⟩
      refine ⟨b.stay (M1.fz fz npd).notImm, ?_⟩
      obtain ⟨o, ho⟩ := fz.at_
      rw [ho]
      exact b d o (Ne.symm npd) ho
    · rintro G i ⟨room, pulls, last⟩ n x σ' H' H'' fz hi ⟨x3, x4, x5, x6, x7, x8, x9, x10, x11, x12, rfl, b, M'⟩ s2 tx
      obtain ⟨vk, tk, gk⟩ := gb_nest (K := K) (g1 := gTup K 3 (gCons (gName 3) (gCons (gName 4) (gCons (gName 5) gNil)))) (j := 6) (σ := [some v, some (.ref d), some (.ref p), x3, x4, x5, x6, x7, x8, x9, x10, x11, x12]) tx
      obtain ⟨u1, u2, u3, w1, w2, w3, g3⟩ := gb_three (K := K) (i := 3) (j := 4) (k := 5) (σ := [some v, some (.ref d), some (.ref p), x3, x4, x5, x6, x7, x8, x9, x10, x11, x12]) tk
      cases tp_num w1
      cases tp_num w2
      refine ⟨_, gk _ g3, fun R1 R2 => ?_⟩
      have hm := List.mem_of_getElem? hi
      have il : i < m.length := (List.getElem?_eq_some_iff.mp hi).1
      have b2 : But p G H'' := But.trans b (Same.but s2)
      have MG := M1.fz fz npd
      have t1k := t1'.stay (Stay.trans fz.stay (b2.stay MG.notImm))
      have M2 := M'.same s2
      have al : (MS.adds [] ((m.take i).flatMap fun z => MF.stillInc ds z.1 z.2)).length ≤ 8 * i := by
        have h1 := MS.len_adds ((m.take i).flatMap fun z => MF.stillInc ds z.1 z.2) []
        have h2 := len_flat (c := 8) (f := fun p : MF.SKey × Int => MF.stillInc ds p.1 p.2) (fun p => stillInc_len hw.d4 p.1 p.2) (m.take i)
        rw [List.length_nil] at h1
        rw [List.length_take] at h2
        omega
      have tki : (m.take (i + 1)).flatMap (fun z => MF.stillInc ds z.1 z.2) = (m.take i).flatMap (fun z => MF.stillInc ds z.1 z.2) ++ MF.stillInc ds (room, pulls, last) n := by
        rw [List.take_add_one, hi, List.flatMap_append]
        simp
      rw [tki, MS.adds_append] at *
      generalize MS.adds [] ((m.take i).flatMap fun z => MF.stillInc ds z.1 z.2) = acc at M2 al ⊢
      refine st_for (C := C) (wi := _) (ei_lst (C := C) (ds := (MF.beyond ds room last).map beyD) ?_) (fun G2 j σ' Hj => ∃ x7 x8 x9 x10 x11 x12, σ' = [some v, some (.ref d), some (.ref p), some (.int room), some (.int pulls), some u3, some (.int n), x7, x8, x9, x10, x11, x12] ∧ But p G Hj ∧ But p G2 Hj ∧ MD P w C sKD Hj p (MS.adds acc (((MF.beyond ds room last).take j).flatMap (sInc ds (room, pulls, last) n)))) ?_ ?_ ?_ ?_
      · apply evl_fn (rooms, ds, room, last)
        · exact ea_cons (ev_var rfl t1k) (ea_cons (ev_var rfl (.num _)) (ea_cons (ev_var rfl w3) ea_nil))
        · rfl
        · exact ⟨by have := hw.d4; dsimp only; omega, fun l hl => ls _ hm l hl⟩
      · intro G2 sG
        exact ⟨x7, x8, x9, x10, x11, x12, rfl, But.trans b2 (Same.but sG), But.refl _ _, M2.same sG⟩
      · rintro G2 j σ' Hj sG ⟨y7, y8, y9, y10, y11, y12, rfl, bj, b2j, Mj⟩
        refine ⟨b2j.stay (M2.same sG).notImm, fun c o hc e => b2j c o (fun z => ?_) e⟩
        subst z
        rcases hc with hc | hc
        · exact M2.some hc
        · simp at hc
      · rintro G2 j dd x σ' Hj sG hj ⟨y7, y8, y9, y10, y11, y12, rfl, bj, b2j, Mj⟩ tx
        obtain ⟨q2, hq, rfl⟩ := map_item hj
        obtain ⟨us, ul, ts, tl, g2⟩ := gb_two (K := K) (i := 7) (j := 8) (σ := [some v, some (.ref d), some (.ref p), some (.int room), some (.int pulls), some u3, some (.int n), y7, y8, y9, y10, y11, y12]) tx
        cases tp_num tl
        refine ⟨_, g2, ?_⟩
        have hmq := List.mem_of_getElem? hq
        obtain ⟨hs, hle⟩ : q2.1 ∈ MF.allSteps ds ∧ (q2.2 = 0 ∨ q2.2 = 1) := by
          unfold MF.beyond at hmq
          obtain ⟨z, hz, rfl⟩ := List.mem_map.mp hmq
          exact ⟨(MF.mem_stepsOf.mp hz).1, MF.least_01 _ _⟩
        obtain ⟨lv0, lv1, ar0, ar1⟩ := hw.lv hs
        have t1j := t1'.stay (Stay.trans fz.stay (bj.stay MG.notImm))
        have tkj : ((MF.beyond ds room last).take (j + 1)).flatMap (sInc ds (room, pulls, last) n) = ((MF.beyond ds room last).take j).flatMap (sInc ds (room, pulls, last) n) ++ sInc ds (room, pulls, last) n q2 := by
          rw [List.take_add_one, hq, List.flatMap_append]
          simp
        have jl : j < (MF.beyond ds room last).length := (List.getElem?_eq_some_iff.mp hq).1
        have bl := len_beyond (room := room) (last := last) hw.d4
        have alj : (MS.adds acc (((MF.beyond ds room last).take j).flatMap (sInc ds (room, pulls, last) n))).length < sizeLine := small_lt (m := 3000000) (by
          have h1 := MS.len_adds (((MF.beyond ds room last).take j).flatMap (sInc ds (room, pulls, last) n)) acc
          have h2 := len_flat (c := 1) (sInc_len ds (room, pulls, last) n) ((MF.beyond ds room last).take j)
          rw [List.length_take] at h2
          omega) (by omega)
        rw [tkj, MS.adds_append]
        apply st_asg (C := C) (d := doorD (MF.gate ds q2.1))
        · apply ev_fn (rooms, ds, q2.1)
          · exact ea_cons (ev_var rfl t1j) (ea_cons (ev_var rfl ts) ea_nil)
          · rfl
          · exact hs
        · intro xg H3 s3 tg
          refine ⟨_, gb_door tg, ?_⟩
          apply st_if (b := decide (pulls.fmod (MF.lv ds q2.1) = 0))
          · apply et_test (C := C)
            apply ev_eqI
            · exact ev_fmod (by trivial) (by trivial) lv0
            · trivial
          · intro hb H4 s4
            have hb : pulls.fmod (MF.lv ds q2.1) = 0 := of_decide_eq_true hb
            have e1 : sInc ds (room, pulls, last) n q2 = [((MF.far ds q2.1, pulls.fdiv (MF.lv ds q2.1) * MF.ar ds q2.1, some q2.1), n * (MF.aux (MF.lv ds q2.1) - q2.2))] := if_pos hb
            rw [e1]
            have s34 := Same.trans s3 s4
            refine st_put (k := (MF.far ds q2.1, pulls.fdiv (MF.lv ds q2.1) * MF.ar ds q2.1, some q2.1)) (n := n * (MF.aux (MF.lv ds q2.1) - q2.2)) kd_s rfl (Mj.same s34) alj ?_ ?_ ?_
            · show EvD C _ _ _ (.tup [.num _, .num _, stepD q2.1])
              apply ev_tup
              · apply ea_cons
                · trivial
                · apply ea_cons
                  · apply ev_mulR
                    · exact ev_fdiv (by trivial) (by trivial) lv0 (by omega)
                    · trivial
                    · omega
                  · exact ea_cons (ev_var rfl (ts.same s34)) ea_nil
              · show 3 ≤ sizeLine; decide
            · rw [← aux_if]
              apply ev_mulR
              · trivial
              · trivial
              · split <;> omega
            · intro H5 b5 M5
              exact ⟨_, _, _, _, _, _, rfl, But.trans bj (But.trans (Same.but s34) b5), But.trans b2j (But.trans (Same.but s34) b5), M5⟩
          · intro hb H4 s4
            have hb : ¬ pulls.fmod (MF.lv ds q2.1) = 0 := of_decide_eq_false hb
            have e1 : sInc ds (room, pulls, last) n q2 = [] := if_neg hb
            rw [e1]
            have s34 := Same.trans s3 s4
            exact ⟨_, _, _, _, _, _, rfl, But.trans bj (Same.but s34), But.trans b2j (Same.but s34), Mj.same s34⟩
      · rintro G2 σ' Hj sG ⟨y7, y8, y9, y10, y11, y12, rfl, bj, b2j, Mj⟩
        refine ⟨_, _, _, _, _, _, _, _, _, _, rfl, bj, ?_⟩
        rw [List.length_map, List.take_length] at Mj
        exact Mj
    · rintro G σ' H' u fz ⟨x3, x4, x5, x6, x7, x8, x9, x10, x11, x12, rfl, b, M'⟩ hu
      rw [List.take_length] at M'
      have nd : ∀ o, H' d = some o → ¬ Imm o := by
        intro o ho
        obtain ⟨o2, h2⟩ := fz.at_
        rw [b d o2 (Ne.symm npd) h2] at ho
        cases ho
        exact fz.notImm _ h2
      refine ⟨_, rfl, q p _ ?_ hp ?_⟩
      · intro c o ec
        by_cases h : c = d
        · rw [h, upd_same, ← hu, ← h]
          exact sp _ _ ec
        · rw [upd_ne h]
          exact b c o (ne_of_none ec hp) (by rw [fz.ne h]; exact sp _ _ ec)
      · exact MD.off npd nd M'
end
end K49

set_option Elab.async false
set_option linter.all false
set_option maxRecDepth 100000
set_option maxHeartbeats 4000000
/-! Stillness counted. -/
namespace K49
open PySem PySem.Spec PyProof.Rows L2 Y
local macro_rules | `(tactic| trivial) => `(tactic| first
  | with_reducible exact ev_int
  | with_reducible exact ev_bl
  | with_reducible exact ev_non
  | with_reducible exact ea_nil
  | with_reducible exact et_yes
  | ((with_reducible apply ev_var); exact rfl; first | exact .num _ | exact .bl _ | exact .non | assumption)
  | ((with_reducible apply ea_cons); trivial; trivial)
  | ((with_reducible apply ev_tup); trivial; first | decide | (show _ ≤ sizeLine; simp; decide))
  | ((with_reducible apply ev_ix0); trivial; trivial; exact rfl)
  | ((with_reducible apply ev_ix1); trivial; trivial; exact rfl)
  | ((with_reducible apply ev_ix2); trivial; trivial; exact rfl)
  | ((with_reducible apply ev_ix3); trivial; trivial; exact rfl)
  | ((with_reducible apply ev_opI); trivial; trivial)
  | ((with_reducible apply ev_opB); trivial; trivial)
  | ((with_reducible apply ev_eqI); trivial; trivial)
  | ((with_reducible apply ev_neI); trivial; trivial)
  | ((with_reducible apply ev_un); trivial)
  | ((with_reducible apply ev_chain); trivial; trivial; trivial)
  | ((with_reducible apply ev_abs); trivial)
  | ((with_reducible apply ev_intI); trivial)
  | ((with_reducible apply ev_gcd); trivial; trivial)
  | ((with_reducible apply ev_lenT); trivial)
  | ((with_reducible apply et_test); trivial)
  | ((with_reducible apply et_B); trivial)
  | ((with_reducible apply et_not); trivial)
  | ((with_reducible apply et_and); trivial; (intro _; trivial))
  | ((with_reducible apply et_or); trivial; (intro _; trivial))
  | ((with_reducible apply ev_andV); trivial; (intro _; trivial))
  | ((with_reducible apply ev_orV); trivial; (intro _; trivial))
  | ((with_reducible apply ev_notV); trivial)
  | ((with_reducible apply ev_isN); trivial)
  | ((with_reducible apply ev_notN); trivial)
  | ((with_reducible apply ev_isiII); trivial)
  | ((with_reducible apply ev_isiIB); trivial)
  | ((with_reducible apply ev_isiTT); trivial)
  | ((with_reducible apply ev_isH); trivial))
theorem stillN_len {ds : List Door} (h : ds.length ≤ 4) (x : MF.SKey × Int) : ∀ n, (MF.stillN ds n [x]).length ≤ 8 ^ n
  | 0 => Nat.le_refl _
  | n + 1 => by
    have h1 := stillOn_len h (MF.stillN ds n [x])
    have h2 := stillN_len h x n
    show (MF.stillOn ds (MF.stillN ds n [x])).length ≤ 8 ^ (n + 1)
    rw [Nat.pow_succ]; omega
theorem stillN_ls {ds : List Door} {room pulls : Int} : ∀ n, LS (MF.stillN ds n [((room, pulls, none), 1)])
  | 0 => by
    intro p hp l hl
    have hp : p ∈ [((room, pulls, none), (1 : Int))] := hp
    have : p = ((room, pulls, none), 1) := by simpa using hp
    subst this; cases hl
  | n + 1 => LS.on
section
variable {P : Program} {w : World} {K : PySem.W.Frag} {mg : Str → Option Value} {base : Heap} {C : Addr}
theorem sc_still_many : FnScope ["house", "room", "pulls", "length", "states", "turn"] ["house", "room", "pulls", "length"] (defScope s_still_many) := ⟨rfl, rfl, rfl, by decide +kernel, rfl, by decide +kernel, by decide +kernel⟩
abbrev sp_still_many (C : Addr) : Sp := fnSp C (fun i : Int × List Door × Int × Int × Nat => [.hs i.1 i.2.1, .num i.2.2.1, .num i.2.2.2.1, .num (i.2.2.2.2 : Int)]) (fun i => HW i.1 i.2.1 ∧ (0 ≤ i.2.2.1 ∧ i.2.2.1 < i.1) ∧ i.2.2.2.2 ≤ 7) (fun i => .num (MF.still i.2.1 i.2.2.1 i.2.2.2.1 i.2.2.2.2))
theorem ok_still_many (F : Df K mg "still_many" s_still_many) (B : Bi K mg C) (h_is_number : Cl P w K mg base "is_number" 1 ["value"] (sp_is_number C)) (h_need_house : Cl P w K mg base "need_house" 1 ["house"] (sp_need_house C)) (h_need_room : Cl P w K mg base "need_room" 3 ["house", "room"] (sp_need_room C))
    (h_need_short : Cl P w K mg base "need_short" 3 ["length"] (sp_need_short C)) (h_still_on : Cl P w K mg base "still_on" 4 ["house", "states"] (sp_still_on P w C)) : Cl P w K mg base "still_many" 5 ["house", "room", "pulls", "length"] (sp_still_many C) := by
  refine F.cl sc_still_many (fun _ _ _ _ _ _ us hl => match us, hl with | [_, _, _, _], _ => rfl) (fun vs H Q E h => ?_) (fun f cdv A outer s H vs Q E hr h => ?_)
  · obtain ⟨i, t, _⟩ := h; exact t.length
  · obtain ⟨⟨rooms, ds, room, pulls, L⟩, t, hp, q⟩ := h
    obtain ⟨v, _, rfl, t1, t⟩ := tpa_cons t
    obtain ⟨_, _, rfl, t2, t⟩ := tpa_cons t
    obtain ⟨_, _, rfl, t3, t⟩ := tpa_cons t
    obtain ⟨_, _, rfl, t4, t⟩ := tpa_cons t
    cases tpa_nil t; cases tp_num t2; cases tp_num t3; cases tp_num t4
    obtain ⟨hw, hroom, hL⟩ := hp
    dsimp only at hw hroom hL t1 q ⊢
    refine ⟨_, (pss_cons (ps_expr (pe_cl h_need_house (hr.mono (by decide)) (by rfl) (pa_cons (pv 0) pa_nil)))
      (pss_cons (ps_expr (pe_cl h_need_room (hr.mono (by decide)) (by rfl) (pa_cons (pv 0) (pa_cons (pv 1) pa_nil))))
      (pss_cons (ps_if (pt_not (pt_val (pe_cl h_is_number (hr.mono (by decide)) (by rfl) (pa_cons (pv 2) pa_nil)))) (pss_one ps_never) pss_nil)
      (pss_cons (ps_expr (pe_cl h_need_short (hr.mono (by decide)) (by rfl) (pa_cons (pv 3) pa_nil)))
      (pss_cons (ps_set (i := 4) sc_still_many.nd rfl (by first | exact Or.inl rfl | exact Or.inr rfl) (pe_ndone (C := C) hr.units (pe_tup (pa_cons (pv 1) (pa_cons (pv 2) (pa_cons pe_non pa_nil)))) pe_int))
      (pss_cons (ps_for PassesOwn.never rfl (pi_range1 (by rfl) B.range (pa_cons (pv 3) pa_nil)) (pg_name (i := 5) sc_still_many.nd rfl (by first | exact Or.inl rfl | exact Or.inr rfl)) (pss_one (ps_set (i := 4) sc_still_many.nd rfl (by first | exact Or.inl rfl | exact Or.inr rfl) (pe_cl h_still_on (hr.mono (by decide)) (by rfl) (pa_cons (pv 0) (pa_cons (pv 4) pa_nil))))))
      (pss_one (ps_ret (pe_callB (cr_sumV (C := C) rfl) (by rfl) B.sum (by decide +kernel) (pa_cons (pe_ndvals (C := C) (pv 4)) pa_nil)))))))))), ?_⟩
    apply st_drop (C := C) (e := .non)
    · apply ev_fn (rooms, ds)
      · exact ea_cons (ev_var rfl t1) ea_nil
      · rfl
      · exact True.intro
    intro H1 s1
    have t1a := t1.same s1
    apply st_drop (C := C) (e := .non)
    · apply ev_fn (rooms, ds, room)
      · exact ea_cons (ev_var rfl t1a) (by trivial)
      · rfl
      · exact hroom
    intro H2 s2
    have t1b := t1a.same s2
    apply st_no (h := ?_)
    · intro H3 s3
      have t1c := t1b.same s3
      apply st_drop (C := C) (e := .non)
      · apply ev_fn (L : Int)
        · trivial
        · rfl
        · show 0 ≤ (L : Int) ∧ (L : Int) ≤ 40
          omega
      intro H4 s4
      have t1d := t1c.same s4
      refine st_setN (P := P) (w := w) (C := C) (kD := sKD) (m := [((room, pulls, none), 1)]) (evn_one kd_s ?_ ?_) ?_
      · show EvD C _ _ _ (.tup [.num room, .num pulls, .non])
        trivial
      · trivial
      intro d H5 s5 hn M
      have t1e := t1d.same s5
      have s05 := Same.trans (Same.trans (Same.trans (Same.trans s1 s2) s3) s4) s5
      refine st_for (C := C) (wi := _) (ei_rng1 (n := L) (C := C) ?_ (by omega)) (fun G i σ' H' => ∃ d' y, σ' = [some v, some (.int room), some (.int pulls), some (.int (L : Int)), some (.ref d'), y] ∧ Same G H' ∧ MD P w C sKD H' d' (MF.stillN ds i [((room, pulls, none), 1)])) ?_ ?_ ?_ ?_
      · trivial
      · intro G sG
        exact ⟨d, none, rfl, Same.refl _, M.same sG⟩
      · rintro G i σ' H' sG ⟨d', y, rfl, s, M'⟩
        exact ⟨Same.stay s, fun b o _ e => s b o e⟩
      · rintro G i dd x σ' H' sG hi ⟨d', y, rfl, s, M'⟩ tx
        obtain ⟨hi2, rfl⟩ := rng_item hi
        cases tp_num tx
        refine ⟨_, gb_name, ?_⟩
        have len : (MF.stillN ds i [((room, pulls, none), 1)]).length ≤ 262144 := by
          have h1 := stillN_len hw.d4 ((room, pulls, none), 1) i
          have h2 : 8 ^ i ≤ 8 ^ 6 := Nat.pow_le_pow_right (by omega) (by omega)
          omega
        refine ⟨_, rfl, _, rfl, rooms, ds, d', _, .cons ((t1e.same sG).same s) .nil, rfl, hw, M', stillN_ls i, len, fun p H6 s6 hp6 M6 => ?_⟩
        exact ⟨p, _, rfl, Same.trans s s6, M6⟩
      · rintro G σ' H' sG ⟨d', y, rfl, s, M'⟩
        have e : ((List.range L).map fun k => D.num ((k : Nat) : Int)).length = L := by simp
        rw [e] at M'
        refine ev_sumV (P := P) (w := w) (C := C) (kD := sKD) (σ := [some v, some (.int room), some (.int pulls), some (.int (L : Int)), some (.ref d'), y]) (H := H') (ta := tVar 4) (m := MF.stillN ds L [((room, pulls, none), 1)]) (fun H7 s7 Q' q' => ⟨_, rfl, q' d' H7 (Same.refl _) (M'.same s7)⟩) H' (Same.refl _) _ fun v H6 s6 t6 => q v H6 (Same.trans s05 (Same.trans (Same.trans sG s) s6)) t6
    · apply et_not (b := true)
      apply et_B (C := C)
      apply ev_fn pulls
      · trivial
      · rfl
      · exact True.intro
theorem sc_need_lengthy : FnScope ["house", "room", "length"] ["house", "room", "length"] (defScope s_need_lengthy) := ⟨rfl, rfl, rfl, by decide +kernel, rfl, by decide +kernel, by decide +kernel⟩
abbrev sp_need_lengthy (C : Addr) : Sp := fnSp C (fun i : Int × List Door × Int × Int => [.hs i.1 i.2.1, .num i.2.2.1, .num i.2.2.2]) (fun i => (0 ≤ i.2.2.1 ∧ i.2.2.1 < i.1) ∧ 0 ≤ i.2.2.2 ∧ i.2.2.2 ≤ 40) (fun _ => .non)
theorem ok_need_lengthy (F : Df K mg "need_lengthy" s_need_lengthy) (B : Bi K mg C) (h_need_house : Cl P w K mg base "need_house" 1 ["house"] (sp_need_house C)) (h_need_room : Cl P w K mg base "need_room" 3 ["house", "room"] (sp_need_room C))
    (h_need_short : Cl P w K mg base "need_short" 3 ["length"] (sp_need_short C)) : Cl P w K mg base "need_lengthy" 4 ["house", "room", "length"] (sp_need_lengthy C) := by
  refine F.cl sc_need_lengthy (fun _ _ _ _ _ _ us hl => match us, hl with | [_, _, _], _ => rfl) (fun vs H Q E h => ?_) (fun f cdv A outer s H vs Q E hr h => ?_)
  · obtain ⟨i, t, _⟩ := h; exact t.length
  · obtain ⟨⟨rooms, ds, room, L⟩, t, hp, q⟩ := h
    obtain ⟨v, _, rfl, t1, t⟩ := tpa_cons t
    obtain ⟨_, _, rfl, t2, t⟩ := tpa_cons t
    obtain ⟨_, _, rfl, t3, t⟩ := tpa_cons t
    cases tpa_nil t; cases tp_num t2; cases tp_num t3
    obtain ⟨hroom, hL⟩ := hp
    dsimp only at hroom hL t1 q ⊢
    refine ⟨_, (pss_cons (ps_expr (pe_cl h_need_house (hr.mono (by decide)) (by rfl) (pa_cons (pv 0) pa_nil)))
      (pss_cons (ps_expr (pe_cl h_need_room (hr.mono (by decide)) (by rfl) (pa_cons (pv 0) (pa_cons (pv 1) pa_nil))))
      (pss_one (ps_expr (pe_cl h_need_short (hr.mono (by decide)) (by rfl) (pa_cons (pv 2) pa_nil)))))), ?_⟩
    apply st_drop (C := C) (e := .non)
    · apply ev_fn (rooms, ds)
      · exact ea_cons (ev_var rfl t1) ea_nil
      · rfl
      · exact True.intro
    intro H1 s1
    have t1a := t1.same s1
    apply st_drop (C := C) (e := .non)
    · apply ev_fn (rooms, ds, room)
      · exact ea_cons (ev_var rfl t1a) (by trivial)
      · rfl
      · exact hroom
    intro H2 s2
    apply st_drop1 (C := C) (e := .non)
    · apply ev_fn L
      · trivial
      · rfl
      · exact hL
    intro H3 s3
    exact q _ _ (Same.trans (Same.trans s1 s2) s3) .non
end
end K49

set_option Elab.async false
set_option linter.all false
set_option maxRecDepth 100000
set_option maxHeartbeats 4000000
/-! Classes. -/
namespace K49
open PySem PySem.Spec PyProof.Rows L2 Y
local macro_rules | `(tactic| trivial) => `(tactic| first
  | with_reducible exact ev_int
  | with_reducible exact ev_bl
  | with_reducible exact ev_non
  | with_reducible exact ea_nil
  | with_reducible exact et_yes
  | ((with_reducible apply ev_var); exact rfl; first | exact .num _ | exact .bl _ | exact .non | assumption)
  | ((with_reducible apply ea_cons); trivial; trivial)
  | ((with_reducible apply ev_tup); trivial; first | decide | (show _ ≤ sizeLine; simp; decide))
  | ((with_reducible apply ev_ix0); trivial; trivial; exact rfl)
  | ((with_reducible apply ev_ix1); trivial; trivial; exact rfl)
  | ((with_reducible apply ev_ix2); trivial; trivial; exact rfl)
  | ((with_reducible apply ev_ix3); trivial; trivial; exact rfl)
  | ((with_reducible apply ev_opI); trivial; trivial)
  | ((with_reducible apply ev_opB); trivial; trivial)
  | ((with_reducible apply ev_eqI); trivial; trivial)
  | ((with_reducible apply ev_neI); trivial; trivial)
  | ((with_reducible apply ev_un); trivial)
  | ((with_reducible apply ev_chain); trivial; trivial; trivial)
  | ((with_reducible apply ev_abs); trivial)
  | ((with_reducible apply ev_intI); trivial)
  | ((with_reducible apply ev_gcd); trivial; trivial)
  | ((with_reducible apply ev_lenT); trivial)
  | ((with_reducible apply et_test); trivial)
  | ((with_reducible apply et_B); trivial)
  | ((with_reducible apply et_not); trivial)
  | ((with_reducible apply et_and); trivial; (intro _; trivial))
  | ((with_reducible apply et_or); trivial; (intro _; trivial))
  | ((with_reducible apply ev_andV); trivial; (intro _; trivial))
  | ((with_reducible apply ev_orV); trivial; (intro _; trivial))
  | ((with_reducible apply ev_notV); trivial)
  | ((with_reducible apply ev_isN); trivial)
  | ((with_reducible apply ev_notN); trivial)
  | ((with_reducible apply ev_isiII); trivial)
  | ((with_reducible apply ev_isiIB); trivial)
  | ((with_reducible apply ev_isiTT); trivial)
  | ((with_reducible apply ev_isH); trivial))
/-- what one step of one class gives -/
def cInc (ds : List Door) (k : MF.CKey) (many : Int) (q : MF.Step × Int) : MF.CKey × Int :=
  let shared := MF.gcdI k.2.1 (MF.lv ds q.1)
  let whole := k.2.1.fdiv shared * MF.aux (MF.lv ds q.1)
  ((MF.far ds q.1, whole.fdiv (MF.aux (MF.lv ds q.1)) * MF.aux (MF.ar ds q.1), (k.2.2.1 * whole).fdiv k.2.1, some q.1), many * (shared - q.2))
theorem clInc_def (ds : List Door) (k : MF.CKey) (many : Int) : MF.clInc ds k many = (MF.beyond ds k.1 k.2.2.2).map (cInc ds k many) := rfl
theorem clInc_len {ds : List Door} (h : ds.length ≤ 4) (k : MF.CKey) (many : Int) : (MF.clInc ds k many).length ≤ 8 := by
  rw [clInc_def, List.length_map]; exact len_beyond h
theorem clOn_len {ds : List Door} (h : ds.length ≤ 4) (m : List (MF.CKey × Int)) : (MF.clOn ds m).length ≤ 8 * m.length := by
  unfold MF.clOn
  have h1 := MS.len_adds (m.flatMap fun p => MF.clInc ds p.1 p.2) []
  have h2 := len_flat (c := 8) (f := fun p : MF.CKey × Int => MF.clInc ds p.1 p.2) (fun p => clInc_len h p.1 p.2) m
  rw [List.length_nil] at h1
  omega
theorem clN_len {ds : List Door} (h : ds.length ≤ 4) (x : MF.CKey × Int) : ∀ n, (MF.clN ds n [x]).length ≤ 8 ^ n
  | 0 => Nat.le_refl _
  | n + 1 => by
    have h1 := clOn_len h (MF.clN ds n [x])
    have h2 := clN_len h x n
    show (MF.clOn ds (MF.clN ds n [x])).length ≤ 8 ^ (n + 1)
    rw [Nat.pow_succ]; omega
/-- bounds of classes -/
def BK (b : Int) (m : List (MF.CKey × Int)) : Prop := ∀ p ∈ m, p.1.2.1 ≤ b ∧ p.1.2.2.1 ≤ b
theorem gcdI_le {a b : Int} (h : b ≠ 0) : MF.gcdI a b ≤ MF.aux b := by
  unfold MF.gcdI MF.aux
  have := Nat.le_of_dvd (show 0 < b.natAbs by omega) (Nat.gcd_dvd_right a.natAbs b.natAbs)
  omega
theorem BK.on {rooms : Int} {ds : List Door} (hw : HW rooms ds) {b : Int} {m : List (MF.CKey × Int)} (cd : MF.CD ds m) (h : BK b m) : BK (50 * b) (MF.clOn ds m) := by
  refine MS.key_adds (P := fun k : MF.CKey => k.2.1 ≤ 50 * b ∧ k.2.2.1 ≤ 50 * b) _ ?_ (by intro p hp; simp at hp)
  intro p hp
  obtain ⟨q, hq, hp⟩ := List.mem_flatMap.mp hp
  have hk := cd.2 q hq
  rw [MF.clInc_eq hw.ok hk] at hp
  obtain ⟨s, hs, rfl⟩ := List.mem_map.mp hp
  obtain ⟨lv0, lv1, ar0, ar1⟩ := hw.lv (MF.mem_stepsOf.mp hs).1
  obtain ⟨b1, b2⟩ := h q hq
  have g0 := MF.gcdI_pos (b := MF.lv ds s) (show q.1.2.1 ≠ 0 by have := hk.1; omega)
  have p0 := hk.1
  have f0 := hk.2.1
  have e1 : q.1.2.1 / MF.gcdI q.1.2.1 (MF.lv ds s) ≤ b := Int.le_trans (Int.ediv_le_self _ (by omega)) b1
  have e10 : 0 ≤ q.1.2.1 / MF.gcdI q.1.2.1 (MF.lv ds s) := Int.ediv_nonneg (by omega) (by omega)
  have e2 : MF.aux (MF.lv ds s) / MF.gcdI q.1.2.1 (MF.lv ds s) ≤ 50 := Int.le_trans (Int.ediv_le_self _ (MF.aux_nn _)) (by unfold MF.aux; omega)
  have a1 : MF.aux (MF.ar ds s) ≤ 50 := by unfold MF.aux; omega
  refine ⟨?_, ?_⟩
  · show q.1.2.1 / MF.gcdI q.1.2.1 (MF.lv ds s) * MF.aux (MF.ar ds s) ≤ 50 * b
    have := Int.mul_le_mul e1 a1 (MF.aux_nn _) (by omega)
    rw [Int.mul_comm 50 b]; exact this
  · show q.1.2.2.1 * (MF.aux (MF.lv ds s) / MF.gcdI q.1.2.1 (MF.lv ds s)) ≤ 50 * b
    have := Int.mul_le_mul b2 e2 (Int.ediv_nonneg (MF.aux_nn _) (by omega)) (by omega)
    rw [Int.mul_comm 50 b]; exact this
theorem clN_bk {rooms : Int} {ds : List Door} (hw : HW rooms ds) (room : Int) : ∀ n : Nat, BK (50 ^ n) (MF.clN ds n [((room, 1, 1, none), 1)])
  | 0 => by
    intro p hp
    have hp : p ∈ [(((room, 1, 1, none) : MF.CKey), (1 : Int))] := hp
    have : p = ((room, 1, 1, none), 1) := by simpa using hp
    subst this
    exact ⟨show (1 : Int) ≤ 50 ^ 0 by decide, show (1 : Int) ≤ 50 ^ 0 by decide⟩
  | n + 1 => by
    have h := (clN_bk hw room n).on hw (MF.cd_clN hw.ok (MF.cd_start ds room) n)
    show BK (50 ^ (n + 1)) (MF.clOn ds (MF.clN ds n [((room, 1, 1, none), 1)]))
    rw [Int.pow_succ, Int.mul_comm]
    exact h
theorem pow50 {i : Nat} (h : i ≤ 7) : (50 : Int) ^ i ≤ 781250000000 := by
  have : i = 0 ∨ i = 1 ∨ i = 2 ∨ i = 3 ∨ i = 4 ∨ i = 5 ∨ i = 6 ∨ i = 7 := by omega
  rcases this with rfl | rfl | rfl | rfl | rfl | rfl | rfl | rfl <;> decide
theorem log2_lt {n b : Nat} (h : n < 2 ^ b) (hb : 0 < b) : n.log2 < b := PySem.Flt.log2_lt_of hb h
section
variable {P : Program} {w : World} {K : PySem.W.Frag} {mg : Str → Option Value} {base : Heap} {C : Addr}
theorem sc_classes_on : FnScope ["house", "states", "found", "room", "pulls", "first", "last", "many", "step", "least", "here", "leaving", "there", "arriving", "shared", "whole", "key"] ["house", "states"] (defScope s_classes_on) := ⟨rfl, rfl, rfl, by decide +kernel, rfl, by decide +kernel, by decide +kernel⟩
abbrev sp_classes_on (P : Program) (w : World) (C : Addr) : Sp := fun vs H Q _ => ∃ rooms ds d m, TpA C H (vs.take 1) [.hs rooms ds] ∧ vs.drop 1 = [.ref d] ∧ HW rooms ds ∧ MD P w C cKD H d m ∧ MF.CD ds m ∧ BK 781250000000 m ∧ m.length ≤ 262144 ∧
  ∀ p H', Same H H' → H p = none → MD P w C cKD H' p (MF.clOn ds m) → Q (.ref p) H'
theorem ok_classes_on (F : Df K mg "classes_on" s_classes_on) (B : Bi K mg C) (h_steps_beyond : Cl P w K mg base "steps_beyond" 3 ["house", "room", "last"] (sp_steps_beyond C)) (h_gate_of : Cl P w K mg base "gate_of" 1 ["house", "step"] (sp_gate_of C)) (h_put_many : Cl P w K mg base "put_many" 1 ["found", "key", "many"] (spPut P w C)) : Cl P w K mg base "classes_on" 4 ["house", "states"] (sp_classes_on P w C) := by
  refine F.cl sc_classes_on (fun _ _ _ _ _ _ us hl => match us, hl with | [_, _], _ => rfl) (fun vs H Q E h => ?_) (fun f cdv A outer s H vs Q E hr h => ?_)
  · obtain ⟨rooms, ds, d, m, t, e, _⟩ := h
    match vs, t, e with
    | [_, _], _, _ => rfl
    | [_], _, e => simp at e
    | _ :: _ :: _ :: _, _, e => simp at e
  · obtain ⟨rooms, ds, d, m, t, e, hw, M, cd, bk, hl, q⟩ := h
    obtain ⟨v, rfl⟩ : ∃ v, vs = [v, .ref d] := by
      match vs, t, e with
      | [v, _], _, e => exact ⟨v, by simpa using e⟩
      | [_], _, e => simp at e
      | _ :: _ :: _ :: _, _, e => simp at e
    obtain ⟨_, _, ev, t1, t⟩ := tpa_cons t
    cases ev
    refine ⟨_, (pss_cons (ps_set (i := 2) sc_classes_on.nd rfl (by first | exact Or.inl rfl | exact Or.inr rfl) (pe_ndnew))
      (pss_cons (ps_lock (ps_for PassesOwn.never rfl (pi_ni (pv 1)) (pg_tup (by rfl) (pgs_cons (pg_tup (by rfl) (pgs_cons (pg_name (i := 3) sc_classes_on.nd rfl (by first | exact Or.inl rfl | exact Or.inr rfl)) (pgs_cons (pg_name (i := 4) sc_classes_on.nd rfl (by first | exact Or.inl rfl | exact Or.inr rfl)) (pgs_cons (pg_name (i := 5) sc_classes_on.nd rfl (by first | exact Or.inl rfl | exact Or.inr rfl)) (pgs_cons (pg_name (i := 6) sc_classes_on.nd rfl (by first | exact Or.inl rfl | exact Or.inr rfl)) pgs_nil))))) (pgs_cons (pg_name (i := 7) sc_classes_on.nd rfl (by first | exact Or.inl rfl | exact Or.inr rfl)) pgs_nil))) (pss_one (ps_for PassesOwn.never rfl (pi_list (pe_cl h_steps_beyond (hr.mono (by decide)) (by rfl) (pa_cons (pv 0) (pa_cons (pv 3) (pa_cons (pv 6) pa_nil))))) (pg_tup (by rfl) (pgs_cons (pg_name (i := 8) sc_classes_on.nd rfl (by first | exact Or.inl rfl | exact Or.inr rfl)) (pgs_cons (pg_name (i := 9) sc_classes_on.nd rfl (by first | exact Or.inl rfl | exact Or.inr rfl)) pgs_nil))) (pss_cons (ps_asg (pe_cl h_gate_of (hr.mono (by decide)) (by rfl) (pa_cons (pv 0) (pa_cons (pv 8) pa_nil))) (pg_tup (by rfl) (pgs_cons (pg_name (i := 10) sc_classes_on.nd rfl (by first | exact Or.inl rfl | exact Or.inr rfl)) (pgs_cons (pg_name (i := 11) sc_classes_on.nd rfl (by first | exact Or.inl rfl | exact Or.inr rfl)) (pgs_cons (pg_name (i := 12) sc_classes_on.nd rfl (by first | exact Or.inl rfl | exact Or.inr rfl)) (pgs_cons (pg_name (i := 13) sc_classes_on.nd rfl (by first | exact Or.inl rfl | exact Or.inr rfl)) pgs_nil))))))
      (pss_cons (ps_set (i := 14) sc_classes_on.nd rfl (by first | exact Or.inl rfl | exact Or.inr rfl) (pe_callBfun cr_gcd (by rfl) B.gcd (pa_cons (pv 4) (pa_cons (pv 11) pa_nil))))
      (pss_cons (ps_set (i := 15) sc_classes_on.nd rfl (by first | exact Or.inl rfl | exact Or.inr rfl) (pe_op op_mul (pe_op op_fdivN (pv 4) (pv 14)) (pe_callB call_abs (by rfl) B.abs (by decide +kernel) (pa_cons (pv 11) pa_nil))))
      (pss_cons (ps_set (i := 16) sc_classes_on.nd rfl (by first | exact Or.inl rfl | exact Or.inr rfl) (pe_tup (pa_cons (pv 12) (pa_cons (pe_op op_mul (pe_op op_fdivN (pv 15) (pe_callB call_abs (by rfl) B.abs (by decide +kernel) (pa_cons (pv 11) pa_nil))) (pe_callB call_abs (by rfl) B.abs (by decide +kernel) (pa_cons (pv 13) pa_nil))) (pa_cons (pe_op op_fdivW (pe_op op_mul (pv 5) (pv 15)) (pv 4)) (pa_cons (pv 8) pa_nil))))))
      (pss_one (ps_expr (pe_cl h_put_many (hr.mono (by decide)) (by rfl) (pa_cons (pv 2) (pa_cons (pv 16) (pa_cons (pe_op op_mul (pv 7) (pe_op op_sub (pv 14) (pv 9))) pa_nil))))))))))))))
      (pss_one (ps_ret (pv 2))))), ?_⟩
    intro p hp
    have sp : Same H (upd H p (ndO P w p [])) := Same.new hp
    have M1 : MD P w C cKD (upd H p (ndO P w p [])) p ([] : List (MF.CKey × Int)) := md_new hp
    have Md := M.same sp
    have npd : p ≠ d := fun z => M.some (by rw [← z]; exact hp)
    have t1' := t1.same sp
    change tLock _ _ [some v, some (.ref d), some (.ref p), none, none, none, none, none, none, none, none, none, none, none, none, none, none] (upd H p (ndO P w p []))
    generalize upd H p (ndO P w p []) = H1 at sp M1 Md t1' ⊢
    refine st_ni (P := P) (w := w) (C := C) (kD := cKD) (d := d) (i := 1) (m := m) rfl Md (fun G i σ' H' => ∃ x3 x4 x5 x6 x7 x8 x9 x10 x11 x12 x13 x14 x15 x16, σ' = [some v, some (.ref d), some (.ref p), x3, x4, x5, x6, x7, x8, x9, x10, x11, x12, x13, x14, x15, x16] ∧ But p G H' ∧ MD P w C cKD H' p (MS.adds [] ((m.take i).flatMap fun z => MF.clInc ds z.1 z.2))) ?_ ?_ ?_ ?_
    · intro G fz
      exact ⟨none, none, none, none, none, none, none, none, none, none, none, none, none, none, rfl, But.refl _ _, M1.fz fz npd⟩
    · rintro G i σ' H' fz ⟨x3, x4, x5, x6, x7, x8, x9, x10, x11, x12, x13, x14, x15, x16, rfl, b, M'⟩
      refine ⟨b.stay (M1.fz fz npd).notImm, ?_⟩
      obtain ⟨o, ho⟩ := fz.at_
      rw [ho]
      exact b d o (Ne.symm npd) ho
    · rintro G i ⟨room, pulls, first, last⟩ n x σ' H' H'' fz hi ⟨x3, x4, x5, x6, x7, x8, x9, x10, x11, x12, x13, x14, x15, x16, rfl, b, M'⟩ s2 tx
      obtain ⟨vk, tk, gk⟩ := gb_nest (K := K) (g1 := gTup K 4 (gCons (gName 3) (gCons (gName 4) (gCons (gName 5) (gCons (gName 6) gNil))))) (j := 7) (σ := [some v, some (.ref d), some (.ref p), x3, x4, x5, x6, x7, x8, x9, x10, x11, x12, x13, x14, x15, x16]) tx
      obtain ⟨u1, u2, u3, u4, w1, w2, w3, w4, g3⟩ := gb_four (K := K) (i := 3) (j := 4) (k := 5) (l := 6) (σ := [some v, some (.ref d), some (.ref p), x3, x4, x5, x6, x7, x8, x9, x10, x11, x12, x13, x14, x15, x16]) tk
      cases tp_num w1
      cases tp_num w2
      cases tp_num w3
      refine ⟨_, gk _ g3, fun R1 R2 => ?_⟩
      have hm := List.mem_of_getElem? hi
      have il : i < m.length := (List.getElem?_eq_some_iff.mp hi).1
      have b2 : But p G H'' := But.trans b (Same.but s2)
      have MG := M1.fz fz npd
      have t1k := t1'.stay (Stay.trans fz.stay (b2.stay MG.notImm))
      have M2 := M'.same s2
      obtain ⟨pu0, fi0, hlast⟩ := cd.2 _ hm
      obtain ⟨pu1, fi1⟩ := bk _ hm
      dsimp only at pu0 fi0 hlast pu1 fi1
      have al : (MS.adds [] ((m.take i).flatMap fun z => MF.clInc ds z.1 z.2)).length ≤ 8 * i := by
        have h1 := MS.len_adds ((m.take i).flatMap fun z => MF.clInc ds z.1 z.2) []
        have h2 := len_flat (c := 8) (f := fun p : MF.CKey × Int => MF.clInc ds p.1 p.2) (fun p => clInc_len hw.d4 p.1 p.2) (m.take i)
        rw [List.length_nil] at h1
        rw [List.length_take] at h2
        omega
      have tki : (m.take (i + 1)).flatMap (fun z => MF.clInc ds z.1 z.2) = (m.take i).flatMap (fun z => MF.clInc ds z.1 z.2) ++ MF.clInc ds (room, pulls, first, last) n := by
        rw [List.take_add_one, hi, List.flatMap_append]
        simp
      rw [tki, MS.adds_append] at *
      generalize MS.adds [] ((m.take i).flatMap fun z => MF.clInc ds z.1 z.2) = acc at M2 al ⊢
      refine st_for (C := C) (wi := _) (ei_lst (C := C) (ds := (MF.beyond ds room last).map beyD) ?_) (fun G2 j σ' Hj => ∃ x8 x9 x10 x11 x12 x13 x14 x15 x16, σ' = [some v, some (.ref d), some (.ref p), some (.int room), some (.int pulls), some (.int first), some u4, some (.int n), x8, x9, x10, x11, x12, x13, x14, x15, x16] ∧ But p G Hj ∧ But p G2 Hj ∧ MD P w C cKD Hj p (MS.adds acc (((MF.beyond ds room last).take j).map (cInc ds (room, pulls, first, last) n)))) ?_ ?_ ?_ ?_
      · apply evl_fn (rooms, ds, room, last)
        · exact ea_cons (ev_var rfl t1k) (ea_cons (ev_var rfl (.num _)) (ea_cons (ev_var rfl w4) ea_nil))
        · rfl
        · exact ⟨by have := hw.d4; dsimp only; omega, fun l hl => (MF.mem_all.mp (hlast l hl).1).2⟩
      · intro G2 sG
        exact ⟨x8, x9, x10, x11, x12, x13, x14, x15, x16, rfl, But.trans b2 (Same.but sG), But.refl _ _, M2.same sG⟩
      · rintro G2 j σ' Hj sG ⟨y8, y9, y10, y11, y12, y13, y14, y15, y16, rfl, bj, b2j, Mj⟩
        refine ⟨b2j.stay (M2.same sG).notImm, fun c o hc e => b2j c o (fun z => ?_) e⟩
        subst z
        rcases hc with hc | hc
        · exact M2.some hc
        · simp at hc
      · rintro G2 j dd x σ' Hj sG hj ⟨y8, y9, y10, y11, y12, y13, y14, y15, y16, rfl, bj, b2j, Mj⟩ tx
        obtain ⟨q2, hq, rfl⟩ := map_item hj
        obtain ⟨us, ul, ts, tl, g2⟩ := gb_two (K := K) (i := 8) (j := 9) (σ := [some v, some (.ref d), some (.ref p), some (.int room), some (.int pulls), some (.int first), some u4, some (.int n), y8, y9, y10, y11, y12, y13, y14, y15, y16]) tx
        cases tp_num tl
        refine ⟨_, g2, ?_⟩
        have hmq := List.mem_of_getElem? hq
        obtain ⟨hs, hle⟩ : q2.1 ∈ MF.allSteps ds ∧ (q2.2 = 0 ∨ q2.2 = 1) := by
          unfold MF.beyond at hmq
          obtain ⟨z, hz, rfl⟩ := List.mem_map.mp hmq
          exact ⟨(MF.mem_stepsOf.mp hz).1, MF.least_01 _ _⟩
        obtain ⟨lv0, lv1, ar0, ar1⟩ := hw.lv hs
        have t1j := t1'.stay (Stay.trans fz.stay (bj.stay MG.notImm))
        have tkj : ((MF.beyond ds room last).take (j + 1)).map (cInc ds (room, pulls, first, last) n) = ((MF.beyond ds room last).take j).map (cInc ds (room, pulls, first, last) n) ++ [cInc ds (room, pulls, first, last) n q2] := by
          rw [List.take_add_one, hq, List.map_append]
          simp
        have jl : j < (MF.beyond ds room last).length := (List.getElem?_eq_some_iff.mp hq).1
        have bl := len_beyond (room := room) (last := last) hw.d4
        have alj : (MS.adds acc (((MF.beyond ds room last).take j).map (cInc ds (room, pulls, first, last) n))).length < sizeLine := small_lt (m := 3000000) (by
          have h1 := MS.len_adds (((MF.beyond ds room last).take j).map (cInc ds (room, pulls, first, last) n)) acc
          rw [List.length_map, List.length_take] at h1
          omega) (by omega)
        rw [tkj, MS.adds_append]
        have g0 := MF.gcdI_pos (b := MF.lv ds q2.1) (show pulls ≠ 0 by omega)
        have g1 := gcdI_le (a := pulls) lv0
        have a1 : MF.aux (MF.lv ds q2.1) ≤ 50 := by unfold MF.aux; omega
        have a0 := MF.aux_pos lv0
        have a2 : MF.aux (MF.ar ds q2.1) ≤ 50 := by unfold MF.aux; omega
        have a3 := MF.aux_nn (MF.ar ds q2.1)
        apply st_asg (C := C) (d := doorD (MF.gate ds q2.1))
        · apply ev_fn (rooms, ds, q2.1)
          · exact ea_cons (ev_var rfl t1j) (ea_cons (ev_var rfl ts) ea_nil)
          · rfl
          · exact hs
        · intro xg H3 s3 tg
          refine ⟨_, gb_door tg, ?_⟩
          have ts3 := ts.same s3
          apply st_set (C := C) (d := .num (MF.gcdI pulls (MF.lv ds q2.1)))
          · exact ev_gcd (by trivial) (by trivial)
          intro vs' H4 s4 t4
          cases tp_num t4
          have ts4 := ts3.same s4
          apply st_set (C := C) (d := .num (pulls.fdiv (MF.gcdI pulls (MF.lv ds q2.1)) * MF.aux (MF.lv ds q2.1)))
          · rw [← aux_if (MF.lv ds q2.1)]
            apply ev_mulR
            · exact ev_fdiv (by trivial) (by trivial) (by omega) (by omega)
            · trivial
            · split <;> omega
          intro vw H5 s5 t5
          cases tp_num t5
          have ts5 := ts4.same s5
          apply st_set (C := C) (d := cKD (cInc ds (room, pulls, first, last) n q2).1)
          · show EvD C _ _ _ (.tup [.num _, .num _, .num _, stepD q2.1])
            apply ev_tup
            · apply ea_cons
              · trivial
              · apply ea_cons
                · show EvD C _ _ _ (.num ((pulls.fdiv (MF.gcdI pulls (MF.lv ds q2.1)) * MF.aux (MF.lv ds q2.1)).fdiv (MF.aux (MF.lv ds q2.1)) * MF.aux (MF.ar ds q2.1)))
                  rw [← aux_if (MF.ar ds q2.1)]
                  apply ev_mulR
                  · refine EvD.num_at (d := .num ((pulls.fdiv (MF.gcdI pulls (MF.lv ds q2.1)) * MF.aux (MF.lv ds q2.1)).fdiv (if MF.lv ds q2.1 < 0 then -MF.lv ds q2.1 else MF.lv ds q2.1))) ?_ (by rw [aux_if])
                    apply ev_fdiv
                    · trivial
                    · trivial
                    · split <;> omega
                    · split <;> omega
                  · trivial
                  · split <;> omega
                · apply ea_cons
                  · show EvD C _ _ _ (.num ((first * (pulls.fdiv (MF.gcdI pulls (MF.lv ds q2.1)) * MF.aux (MF.lv ds q2.1))).fdiv pulls))
                    rw [Int.fdiv_eq_ediv_of_nonneg (first * (pulls.fdiv (MF.gcdI pulls (MF.lv ds q2.1)) * MF.aux (MF.lv ds q2.1))) (show 0 ≤ pulls by omega)]
                    apply ev_opIC (g := fun i j => i / j)
                    · apply ev_mulL
                      · trivial
                      · trivial
                      · omega
                    · trivial
                    · exact ⟨pu0, Nat.lt_trans (log2_lt (b := 64) (by omega) (by omega)) (by omega)⟩
                  · exact ea_cons (ev_var rfl ts5) ea_nil
            · show 4 ≤ sizeLine; decide
          intro vk2 H6 s6 t6
          have s36 := Same.trans (Same.trans (Same.trans s3 s4) s5) s6
          refine st_put (k := (cInc ds (room, pulls, first, last) n q2).1) (n := (cInc ds (room, pulls, first, last) n q2).2) kd_c rfl (Mj.same s36) alj ?_ ?_ ?_
          · exact ev_var rfl t6
          · show EvD C _ _ _ (.num (n * (MF.gcdI pulls (MF.lv ds q2.1) - q2.2)))
            apply ev_mulR
            · trivial
            · trivial
            · omega
          · intro H7 b7 M7
            exact ⟨_, _, _, _, _, _, _, _, _, rfl, But.trans bj (But.trans (Same.but s36) b7), But.trans b2j (But.trans (Same.but s36) b7), M7⟩
      · rintro G2 σ' Hj sG ⟨y8, y9, y10, y11, y12, y13, y14, y15, y16, rfl, bj, b2j, Mj⟩
        refine ⟨_, _, _, _, _, _, _, _, _, _, _, _, _, _, rfl, bj, ?_⟩
        rw [List.length_map, List.take_length] at Mj
        exact Mj
    · rintro G σ' H' u fz ⟨x3, x4, x5, x6, x7, x8, x9, x10, x11, x12, x13, x14, x15, x16, rfl, b, M'⟩ hu
      rw [List.take_length] at M'
      have nd : ∀ o, H' d = some o → ¬ Imm o := by
        intro o ho
        obtain ⟨o2, h2⟩ := fz.at_
        rw [b d o2 (Ne.symm npd) h2] at ho
        cases ho
        exact fz.notImm _ h2
      refine ⟨_, rfl, q p _ ?_ hp ?_⟩
      · intro c o ec
        by_cases h : c = d
        · rw [h, upd_same, ← hu, ← h]
          exact sp _ _ ec
        · rw [upd_ne h]
          exact b c o (ne_of_none ec hp) (by rw [fz.ne h]; exact sp _ _ ec)
      · exact MD.off npd nd M'
end
end K49

set_option Elab.async false
set_option linter.all false
set_option maxRecDepth 100000
set_option maxHeartbeats 4000000
/-! Classes counted. -/
namespace K49
open PySem PySem.Spec PyProof.Rows L2 Y
local macro_rules | `(tactic| trivial) => `(tactic| first
  | with_reducible exact ev_int
  | with_reducible exact ev_bl
  | with_reducible exact ev_non
  | with_reducible exact ea_nil
  | with_reducible exact et_yes
  | ((with_reducible apply ev_var); exact rfl; first | exact .num _ | exact .bl _ | exact .non | assumption)
  | ((with_reducible apply ea_cons); trivial; trivial)
  | ((with_reducible apply ev_tup); trivial; first | decide | (show _ ≤ sizeLine; simp; decide))
  | ((with_reducible apply ev_ix0); trivial; trivial; exact rfl)
  | ((with_reducible apply ev_ix1); trivial; trivial; exact rfl)
  | ((with_reducible apply ev_ix2); trivial; trivial; exact rfl)
  | ((with_reducible apply ev_ix3); trivial; trivial; exact rfl)
  | ((with_reducible apply ev_opI); trivial; trivial)
  | ((with_reducible apply ev_opB); trivial; trivial)
  | ((with_reducible apply ev_eqI); trivial; trivial)
  | ((with_reducible apply ev_neI); trivial; trivial)
  | ((with_reducible apply ev_un); trivial)
  | ((with_reducible apply ev_chain); trivial; trivial; trivial)
  | ((with_reducible apply ev_abs); trivial)
  | ((with_reducible apply ev_intI); trivial)
  | ((with_reducible apply ev_gcd); trivial; trivial)
  | ((with_reducible apply ev_lenT); trivial)
  | ((with_reducible apply et_test); trivial)
  | ((with_reducible apply et_B); trivial)
  | ((with_reducible apply et_not); trivial)
  | ((with_reducible apply et_and); trivial; (intro _; trivial))
  | ((with_reducible apply et_or); trivial; (intro _; trivial))
  | ((with_reducible apply ev_andV); trivial; (intro _; trivial))
  | ((with_reducible apply ev_orV); trivial; (intro _; trivial))
  | ((with_reducible apply ev_notV); trivial)
  | ((with_reducible apply ev_isN); trivial)
  | ((with_reducible apply ev_notN); trivial)
  | ((with_reducible apply ev_isiII); trivial)
  | ((with_reducible apply ev_isiIB); trivial)
  | ((with_reducible apply ev_isiTT); trivial)
  | ((with_reducible apply ev_isH); trivial))
theorem HW.n50s {rooms : Int} {ds : List Door} (h : HW rooms ds) : ∀ s ∈ MF.allSteps ds, (MF.lv ds s).natAbs ≤ 50 := fun s hs => (h.lv hs).2.1
section
variable {P : Program} {w : World} {K : PySem.W.Frag} {mg : Str → Option Value} {base : Heap} {C : Addr}
theorem sc_class_states : FnScope ["house", "room", "length", "states", "turn"] ["house", "room", "length"] (defScope s_class_states) := ⟨rfl, rfl, rfl, by decide +kernel, rfl, by decide +kernel, by decide +kernel⟩
abbrev sp_class_states (P : Program) (w : World) (C : Addr) : Sp := fun vs H Q _ => ∃ rooms ds room L, TpA C H vs [.hs rooms ds, .num room, .num ((L : Nat) : Int)] ∧ HW rooms ds ∧ L ≤ 7 ∧
  ∀ p H', Same H H' → H p = none → MD P w C cKD H' p (MF.cls ds room L) → Q (.ref p) H'
theorem ok_class_states (F : Df K mg "class_states" s_class_states) (B : Bi K mg C) (h_classes_on : Cl P w K mg base "classes_on" 4 ["house", "states"] (sp_classes_on P w C)) : Cl P w K mg base "class_states" 5 ["house", "room", "length"] (sp_class_states P w C) := by
  refine F.cl sc_class_states (fun _ _ _ _ _ _ us hl => match us, hl with | [_, _, _], _ => rfl) (fun vs H Q E h => ?_) (fun f cdv A outer s H vs Q E hr h => ?_)
  · obtain ⟨rooms, ds, room, L, t, _⟩ := h; exact t.length
  · obtain ⟨rooms, ds, room, L, t, hw, hL, q⟩ := h
    obtain ⟨v, _, rfl, t1, t⟩ := tpa_cons t
    obtain ⟨_, _, rfl, t2, t⟩ := tpa_cons t
    obtain ⟨_, _, rfl, t3, t⟩ := tpa_cons t
    cases tpa_nil t; cases tp_num t2; cases tp_num t3
    refine ⟨_, (pss_cons (ps_set (i := 3) sc_class_states.nd rfl (by first | exact Or.inl rfl | exact Or.inr rfl) (pe_ndone (C := C) hr.units (pe_tup (pa_cons (pv 1) (pa_cons pe_int (pa_cons pe_int (pa_cons pe_non pa_nil))))) pe_int))
      (pss_cons (ps_for PassesOwn.never rfl (pi_range1 (by rfl) B.range (pa_cons (pv 2) pa_nil)) (pg_name (i := 4) sc_class_states.nd rfl (by first | exact Or.inl rfl | exact Or.inr rfl)) (pss_one (ps_set (i := 3) sc_class_states.nd rfl (by first | exact Or.inl rfl | exact Or.inr rfl) (pe_cl h_classes_on (hr.mono (by decide)) (by rfl) (pa_cons (pv 0) (pa_cons (pv 3) pa_nil))))))
      (pss_one (ps_ret (pv 3))))), ?_⟩
    refine st_setN (P := P) (w := w) (C := C) (kD := cKD) (m := [((room, 1, 1, none), 1)]) (evn_one kd_c ?_ ?_) ?_
    · show EvD C _ _ _ (.tup [.num room, .num 1, .num 1, .non])
      trivial
    · trivial
    intro d H5 s5 hn M
    have t1e := t1.same s5
    refine st_for (C := C) (wi := _) (ei_rng1 (n := L) (C := C) ?_ (by omega)) (fun G i σ' H' => ∃ d' y, σ' = [some v, some (.int room), some (.int (L : Int)), some (.ref d'), y] ∧ Same G H' ∧ H d' = none ∧ MD P w C cKD H' d' (MF.clN ds i [((room, 1, 1, none), 1)])) ?_ ?_ ?_ ?_
    · trivial
    · intro G sG
      exact ⟨d, none, rfl, Same.refl _, hn, M.same sG⟩
    · rintro G i σ' H' sG ⟨d', y, rfl, s, hn', M'⟩
      exact ⟨Same.stay s, fun b o _ e => s b o e⟩
    · rintro G i dd x σ' H' sG hi ⟨d', y, rfl, s, hn', M'⟩ tx
      obtain ⟨hi2, rfl⟩ := rng_item hi
      cases tp_num tx
      refine ⟨_, gb_name, ?_⟩
      have len : (MF.clN ds i [((room, 1, 1, none), 1)]).length ≤ 262144 := by
        have h1 := clN_len hw.d4 ((room, 1, 1, none), 1) i
        have h2 : 8 ^ i ≤ 8 ^ 6 := Nat.pow_le_pow_right (by omega) (by omega)
        omega
      have bk : BK 781250000000 (MF.clN ds i [((room, 1, 1, none), 1)]) := fun p hp => by
        have h1 := clN_bk hw room i p hp
        have h2 := pow50 (i := i) (by omega)
        omega
      refine ⟨_, rfl, _, rfl, rooms, ds, d', _, .cons ((t1e.same sG).same s) .nil, rfl, hw, M', MF.cd_clN hw.ok (MF.cd_start ds room) i, bk, len, fun p H6 s6 hp6 M6 => ?_⟩
      exact ⟨p, _, rfl, Same.trans s s6, (Same.trans (Same.trans s5 sG) s).free hp6, M6⟩
    · rintro G σ' H' sG ⟨d', y, rfl, s, hn', M'⟩
      have e : ((List.range L).map fun k => D.num ((k : Nat) : Int)).length = L := by simp
      rw [e] at M'
      exact ⟨_, rfl, q d' H' (Same.trans s5 (Same.trans sG s)) hn' M'⟩
theorem sc_foot_classes_many : FnScope ["house", "room", "length"] ["house", "room", "length"] (defScope s_foot_classes_many) := ⟨rfl, rfl, rfl, by decide +kernel, rfl, by decide +kernel, by decide +kernel⟩
abbrev sp_foot_classes_many (C : Addr) : Sp := fnSp C (fun i : Int × List Door × Int × Nat => [.hs i.1 i.2.1, .num i.2.2.1, .num (i.2.2.2 : Int)]) (fun i => HW i.1 i.2.1 ∧ (0 ≤ i.2.2.1 ∧ i.2.2.1 < i.1) ∧ i.2.2.2 ≤ 7) (fun i => .num (MF.clsMany (MF.cls i.2.1 i.2.2.1 i.2.2.2)))
theorem ok_foot_classes_many (F : Df K mg "foot_classes_many" s_foot_classes_many) (B : Bi K mg C) (h_need_lengthy : Cl P w K mg base "need_lengthy" 4 ["house", "room", "length"] (sp_need_lengthy C)) (h_class_states : Cl P w K mg base "class_states" 5 ["house", "room", "length"] (sp_class_states P w C)) : Cl P w K mg base "foot_classes_many" 6 ["house", "room", "length"] (sp_foot_classes_many C) := by
  refine F.cl sc_foot_classes_many (fun _ _ _ _ _ _ us hl => match us, hl with | [_, _, _], _ => rfl) (fun vs H Q E h => ?_) (fun f cdv A outer s H vs Q E hr h => ?_)
  · obtain ⟨i, t, _⟩ := h; exact t.length
  · obtain ⟨⟨rooms, ds, room, L⟩, t, hp, q⟩ := h
    obtain ⟨v, _, rfl, t1, t⟩ := tpa_cons t
    obtain ⟨_, _, rfl, t2, t⟩ := tpa_cons t
    obtain ⟨_, _, rfl, t3, t⟩ := tpa_cons t
    cases tpa_nil t; cases tp_num t2; cases tp_num t3
    obtain ⟨hw, hroom, hL⟩ := hp
    dsimp only at hw hroom hL t1 q ⊢
    refine ⟨_, (pss_cons (ps_expr (pe_cl h_need_lengthy (hr.mono (by decide)) (by rfl) (pa_cons (pv 0) (pa_cons (pv 1) (pa_cons (pv 2) pa_nil)))))
      (pss_one (ps_ret (pe_callB (cr_sumV (C := C) rfl) (by rfl) B.sum (by decide +kernel) (pa_cons (pe_ndvals (C := C) (pe_cl h_class_states (hr.mono (by decide)) (by rfl) (pa_cons (pv 0) (pa_cons (pv 1) (pa_cons (pv 2) pa_nil))))) pa_nil))))), ?_⟩
    apply st_drop (C := C) (e := .non)
    · apply ev_fn (rooms, ds, room, (L : Int))
      · exact ea_cons (ev_var rfl t1) (by trivial)
      · rfl
      · exact ⟨hroom, by show 0 ≤ (L : Int); omega, by show (L : Int) ≤ 40; omega⟩
    intro H1 s1
    have t1a := t1.same s1
    refine st_ret' (C := C) (d := .num (MS.ls (MF.cls ds room L) fun p => p.2)) ?_ rfl fun v H6 s6 t6 => q v H6 (Same.trans s1 s6) t6
    refine ev_sumV (P := P) (w := w) (C := C) (kD := cKD) (m := MF.cls ds room L) (fun H7 s7 Q' q' => ?_)
    exact ⟨_, rfl, _, rfl, _, rfl, rooms, ds, room, L, .cons (t1a.same s7) (.cons (.num _) (.cons (.num _) .nil)), hw, hL, fun p H8 s8 hn M => q' p H8 s8 M⟩
theorem sc_foot_return : FnScope ["house", "room", "length", "found", "there", "pulls", "first", "last"] ["house", "room", "length"] (defScope s_foot_return) := ⟨rfl, rfl, rfl, by decide +kernel, rfl, by decide +kernel, by decide +kernel⟩
abbrev sp_foot_return (C : Addr) : Sp := fnSp C (fun i : Int × List Door × Int × Nat => [.hs i.1 i.2.1, .num i.2.2.1, .num (i.2.2.2 : Int)]) (fun i => HW i.1 i.2.1 ∧ (0 ≤ i.2.2.1 ∧ i.2.2.1 < i.1) ∧ i.2.2.2 ≤ 7) (fun i => .num (MF.ret (MF.cls i.2.1 i.2.2.1 i.2.2.2)))
theorem ok_foot_return (F : Df K mg "foot_return" s_foot_return) (B : Bi K mg C) (h_need_lengthy : Cl P w K mg base "need_lengthy" 4 ["house", "room", "length"] (sp_need_lengthy C)) (h_class_states : Cl P w K mg base "class_states" 5 ["house", "room", "length"] (sp_class_states P w C)) : Cl P w K mg base "foot_return" 6 ["house", "room", "length"] (sp_foot_return C) := by
  refine F.cl sc_foot_return (fun _ _ _ _ _ _ us hl => match us, hl with | [_, _, _], _ => rfl) (fun vs H Q E h => ?_) (fun f cdv A outer s H vs Q E hr h => ?_)
  · obtain ⟨i, t, _⟩ := h; exact t.length
  · obtain ⟨⟨rooms, ds, room, L⟩, t, hp, q⟩ := h
    obtain ⟨v, _, rfl, t1, t⟩ := tpa_cons t
    obtain ⟨_, _, rfl, t2, t⟩ := tpa_cons t
    obtain ⟨_, _, rfl, t3, t⟩ := tpa_cons t
    cases tpa_nil t; cases tp_num t2; cases tp_num t3
    obtain ⟨hw, hroom, hL⟩ := hp
    dsimp only at hw hroom hL t1 q ⊢
    refine ⟨_, (pss_cons (ps_expr (pe_cl h_need_lengthy (hr.mono (by decide)) (by rfl) (pa_cons (pv 0) (pa_cons (pv 1) (pa_cons (pv 2) pa_nil)))))
      (pss_cons (ps_set (i := 3) sc_foot_return.nd rfl (by first | exact Or.inl rfl | exact Or.inr rfl) pe_int)
      (pss_cons (ps_for PassesOwn.never rfl (pi_nkL (pe_cl h_class_states (hr.mono (by decide)) (by rfl) (pa_cons (pv 0) (pa_cons (pv 1) (pa_cons (pv 2) pa_nil))))) (pg_tup (by rfl) (pgs_cons (pg_name (i := 4) sc_foot_return.nd rfl (by first | exact Or.inl rfl | exact Or.inr rfl)) (pgs_cons (pg_name (i := 5) sc_foot_return.nd rfl (by first | exact Or.inl rfl | exact Or.inr rfl)) (pgs_cons (pg_name (i := 6) sc_foot_return.nd rfl (by first | exact Or.inl rfl | exact Or.inr rfl)) (pgs_cons (pg_name (i := 7) sc_foot_return.nd rfl (by first | exact Or.inl rfl | exact Or.inr rfl)) pgs_nil))))) (pss_one (ps_set (i := 3) sc_foot_return.nd rfl (by first | exact Or.inl rfl | exact Or.inr rfl) (pe_op op_fdivW (pe_op op_mulW (pv 3) (pv 6)) (pe_callBfun cr_gcd (by rfl) B.gcd (pa_cons (pv 3) (pa_cons (pv 6) pa_nil)))))))
      (pss_one (ps_ret (pv 3)))))), ?_⟩
    apply st_drop (C := C) (e := .non)
    · apply ev_fn (rooms, ds, room, (L : Int))
      · exact ea_cons (ev_var rfl t1) (by trivial)
      · rfl
      · exact ⟨hroom, by show 0 ≤ (L : Int); omega, by show (L : Int) ≤ 40; omega⟩
    intro H1 s1
    have t1a := t1.same s1
    apply st_set (C := C) (d := .num 1)
    · trivial
    intro vf H2 s2 tf
    cases tp_num tf
    have t1b := t1a.same s2
    refine st_nkL (P := P) (w := w) (C := C) (kD := cKD) (m := MF.cls ds room L) (fun H7 s7 Q' q' => ?_) (fun G i σ' H' => ∃ x4 x5 x6 x7, σ' = [some v, some (.int room), some (.int (L : Int)), some (.int (MF.ret ((MF.cls ds room L).take i))), x4, x5, x6, x7] ∧ Same G H') ?_ ?_ ?_ ?_
    · exact ⟨_, rfl, _, rfl, _, rfl, rooms, ds, room, L, .cons (t1b.same s7) (.cons (.num _) (.cons (.num _) .nil)), hw, hL, fun p H8 s8 hn M => q' p H8 s8 hn M⟩
    · intro G sG
      exact ⟨none, none, none, none, rfl, Same.refl _⟩
    · rintro G i σ' H' sG ⟨x4, x5, x6, x7, rfl, s⟩
      exact s
    · rintro G i ⟨there, pulls, first, last⟩ n x σ' H' sG hi ⟨x4, x5, x6, x7, rfl, s⟩ tx
      obtain ⟨u1, u2, u3, u4, w1, w2, w3, w4, g3⟩ := gb_four (K := K) (i := 4) (j := 5) (k := 6) (l := 7) (σ := [some v, some (.int room), some (.int (L : Int)), some (.int (MF.ret ((MF.cls ds room L).take i))), x4, x5, x6, x7]) tx
      cases tp_num w1
      cases tp_num w2
      cases tp_num w3
      refine ⟨_, g3, ?_⟩
      have hm := List.mem_of_getElem? hi
      have cd := (MF.cd_cls hw.ok room L).2 _ hm
      obtain ⟨r0, r1⟩ := MF.ret_small hw.ok hw.d4 hw.n50s room hL i
      have f0 : 0 < first := cd.2.1
      have f1 : first ≤ 781250000000 := by
        have h1 := (clN_bk hw room L _ hm).2
        have h2 := pow50 hL
        dsimp only at h1
        omega
      have e : MF.ret ((MF.cls ds room L).take (i + 1)) = (MF.ret ((MF.cls ds room L).take i) * first).fdiv (MF.gcdI (MF.ret ((MF.cls ds room L).take i)) first) := by
        unfold MF.ret
        rw [List.take_add_one, hi, List.foldl_append]
        rfl
      generalize MF.ret ((MF.cls ds room L).take i) = fo at r0 r1 e ⊢
      rw [e]
      have g0 := MF.gcdI_pos (b := first) (show fo ≠ 0 by omega)
      have g1 := gcdI_le (a := fo) (show first ≠ 0 by omega)
      have g2 : MF.aux first = first := by unfold MF.aux; omega
      have ev : EvD C (tOp (rI CDivW fun i j => .int (i / j)) (tOp (rI CMulW fun i j => .int (i * j)) (tVar 3) (tVar 6)) (tCB rGcd (tCons (tVar 3) (tCons (tVar 6) tNil)))) (((([some v, some (.int room), some (.int (L : Int)), some (.int fo), x4, x5, x6, x7].set 4 (some (.int there))).set 5 (some (.int pulls))).set 6 (some (.int first))).set 7 (some u4)) H' (.num ((fo * first).fdiv (MF.gcdI fo first))) := by
        rw [Int.fdiv_eq_ediv_of_nonneg _ (show 0 ≤ MF.gcdI fo first by omega)]
        apply ev_opIC (g := fun i j => i / j)
        · apply ev_opIC (g := fun i j => i * j)
          · trivial
          · trivial
          · exact wide_mul (a := 320) (b := 64) (by omega) (by omega) (by decide) (by decide) (by decide)
        · exact ev_gcd (by trivial) (by trivial)
        · exact ⟨g0, Nat.lt_trans (log2_lt (b := 64) (by omega) (by omega)) (by omega)⟩
      refine ev H' (Same.refl _) _ fun v3 H3 s3 t3 => ?_
      cases tp_num t3
      exact ⟨_, _, _, _, rfl, Same.trans s s3⟩
    · rintro G σ' H' sG ⟨x4, x5, x6, x7, rfl, s⟩
      rw [List.take_length]
      exact ⟨_, rfl, q _ H' (Same.trans (Same.trans s1 s2) (Same.trans sG s)) (.num _)⟩
end
end K49

set_option Elab.async false
set_option linter.all false
set_option maxRecDepth 100000
set_option maxHeartbeats 4000000
/-! Rooms in a table. -/
namespace K49
open PySem PySem.Spec PyProof.Rows L2 Y
local macro_rules | `(tactic| trivial) => `(tactic| first
  | with_reducible exact ev_int
  | with_reducible exact ev_bl
  | with_reducible exact ev_non
  | with_reducible exact ea_nil
  | with_reducible exact et_yes
  | ((with_reducible apply ev_var); exact rfl; first | exact .num _ | exact .bl _ | exact .non | assumption)
  | ((with_reducible apply ea_cons); trivial; trivial)
  | ((with_reducible apply ev_tup); trivial; first | decide | (show _ ≤ sizeLine; simp; decide))
  | ((with_reducible apply ev_ix0); trivial; trivial; exact rfl)
  | ((with_reducible apply ev_ix1); trivial; trivial; exact rfl)
  | ((with_reducible apply ev_ix2); trivial; trivial; exact rfl)
  | ((with_reducible apply ev_ix3); trivial; trivial; exact rfl)
  | ((with_reducible apply ev_opI); trivial; trivial)
  | ((with_reducible apply ev_opB); trivial; trivial)
  | ((with_reducible apply ev_eqI); trivial; trivial)
  | ((with_reducible apply ev_neI); trivial; trivial)
  | ((with_reducible apply ev_un); trivial)
  | ((with_reducible apply ev_chain); trivial; trivial; trivial)
  | ((with_reducible apply ev_abs); trivial)
  | ((with_reducible apply ev_intI); trivial)
  | ((with_reducible apply ev_gcd); trivial; trivial)
  | ((with_reducible apply ev_lenT); trivial)
  | ((with_reducible apply et_test); trivial)
  | ((with_reducible apply et_B); trivial)
  | ((with_reducible apply et_not); trivial)
  | ((with_reducible apply et_and); trivial; (intro _; trivial))
  | ((with_reducible apply et_or); trivial; (intro _; trivial))
  | ((with_reducible apply ev_andV); trivial; (intro _; trivial))
  | ((with_reducible apply ev_orV); trivial; (intro _; trivial))
  | ((with_reducible apply ev_notV); trivial)
  | ((with_reducible apply ev_isN); trivial)
  | ((with_reducible apply ev_notN); trivial)
  | ((with_reducible apply ev_isiII); trivial)
  | ((with_reducible apply ev_isiIB); trivial)
  | ((with_reducible apply ev_isiTT); trivial)
  | ((with_reducible apply ev_isH); trivial))
/-- a def that only reads and comes to a value with a property -/
def pSp {ι : Type} (pre : ι → List V → Hp → Prop) (post : ι → Hp → V → Prop) : Sp := fun vs H Q _ => ∃ i, pre i vs H ∧ ∀ v H', Same H H' → post i H' v → Q v H'
/-- arguments with a property -/
def EvAP (as : TA) (σ : L2.St) (H : Hp) (Pr : List V → Hp → Prop) : Prop := ∀ H1, Same H H1 → ∀ Q : List V → Hp → Prop, (∀ vs H2, Same H1 H2 → Pr vs H2 → Q vs H2) → as σ H1 Q
theorem evp_call {ι : Type} {pre : ι → List V → Hp → Prop} {post : ι → Hp → V → Prop} {as : TA} {σ : L2.St} {H : Hp} (i : ι) (ha : EvAP as σ H (pre i)) : EvP (tCall (pSp pre post) [] E0 as) σ H (post i) := fun H1 s Q q =>
  ha H1 s _ fun vs H2 s2 t => ⟨i, by rw [List.append_nil]; exact t, fun v H3 s3 t3 => q v H3 (Same.trans s2 s3) t3⟩
theorem eap_nil {σ : L2.St} {H : Hp} : EvAP tNil σ H (fun vs _ => vs = []) := fun H1 _ Q q => q [] H1 (Same.refl _) rfl
theorem eap_cons {te : TE} {as : TA} {σ : L2.St} {H : Hp} {Pr : Hp → V → Prop} {Ps : List V → Hp → Prop} (h : EvP te σ H Pr) (r : EvAP as σ H Ps) (st : ∀ H H' v, Same H H' → Pr H v → Pr H' v) : EvAP (tCons te as) σ H (fun vs H => ∃ v r, vs = v :: r ∧ Pr H v ∧ Ps r H) := fun H1 s Q q =>
  h H1 s _ fun v H2 s2 p => r H2 (Same.trans s s2) _ fun vs H3 s3 ps => q (v :: vs) H3 (Same.trans s2 s3) ⟨v, vs, rfl, st _ _ _ s3 p, ps⟩
theorem evp_d {C : Addr} {te : TE} {σ : L2.St} {H : Hp} {d : D} (h : EvD C te σ H d) : EvP te σ H (fun H v => Tp C H v d) := h
theorem eap_mono {as : TA} {σ : L2.St} {H : Hp} {Pr Ps : List V → Hp → Prop} (h : EvAP as σ H Pr) (i : ∀ vs H, Pr vs H → Ps vs H) : EvAP as σ H Ps := fun H1 s Q q => h H1 s Q fun vs H2 s2 p => q vs H2 s2 (i _ _ p)
theorem st_lcg {te : TE} {rest : TS} {Ds : Ends} {σ : L2.St} {H : Hp} {i : Nat} (h : te σ H fun x H1 => rest Ds (σ.set i (some x)) H1) : tSeq (tAsg te (gName i)) rest Ds σ H := h
/-- the steps so far, counted from room u to t -/
def tabP (ds : List Door) (l : List MF.Step) (u t : Nat) : Int := MS.ls l fun s => if MF.near ds s = (u : Int) ∧ MF.far ds s = (t : Int) then MF.aux (MF.lv ds s) else 0
theorem tabP_all (ds : List Door) (u t : Nat) : tabP ds (MF.allSteps ds) u t = MF.tab ds u t := rfl
theorem set_row {n t0 : Nat} {T : Nat → Int} {c : Int} (h : t0 < n) : ((List.range n).map fun t => V.int (T t)).set t0 (V.int (T t0 + c)) = (List.range n).map fun t => V.int (T t + if t = t0 then c else 0) := by
  apply List.ext_getElem
  · simp
  · intro i h1 h2
    rw [List.getElem_set]
    simp only [List.getElem_map, List.getElem_range]
    by_cases e : t0 = i
    · subst e; simp
    · have : ¬ i = t0 := fun z => e z.symm
      simp [e, this]
section
variable {P : Program} {w : World} {K : PySem.W.Frag} {mg : Str → Option Value} {base : Heap} {C : Addr}
theorem sc_need_length : FnScope ["length"] ["length"] (defScope s_need_length) := ⟨rfl, rfl, rfl, by decide +kernel, rfl, by decide +kernel, by decide +kernel⟩
abbrev sp_need_length (C : Addr) : Sp := fnSp C (fun i : Int => [.num i]) (fun i => 0 ≤ i ∧ i ≤ 300) (fun _ => .non)
theorem ok_need_length (F : Df K mg "need_length" s_need_length) (B : Bi K mg C) (h_is_below : Cl P w K mg base "is_below" 2 ["value", "size"] (sp_is_below C)) : Cl P w K mg base "need_length" 3 ["length"] (sp_need_length C) := by
  refine F.cl sc_need_length (fun _ _ _ _ _ _ us hl => match us, hl with | [_], _ => rfl) (fun vs H Q E h => ?_) (fun f cdv A outer s H vs Q E hr h => ?_)
  · obtain ⟨i, t, _⟩ := h; exact t.length
  · obtain ⟨i, t, hp, q⟩ := h
    obtain ⟨v, _, rfl, t1, t⟩ := tpa_cons t
    cases tpa_nil t
    have hp : 0 ≤ i ∧ i ≤ 300 := hp
    refine ⟨_, (pss_one (ps_if (pt_not (pt_val (pe_cl h_is_below (hr.mono (by decide)) (by rfl) (pa_cons (pv 0) (pa_cons (pe_op op_add (pe_gint (by rfl) B.MOST_LENGTH_counts) pe_int) pa_nil))))) (pss_one ps_never) pss_nil)), ?_⟩
    apply st_no1
    · refine et_not (b := true) (et_B (C := C) ?_)
      have e : D.bl true = D.bl (decide (0 ≤ i) && decide (i < 300 + 1)) := by
        rw [decide_eq_true hp.1, decide_eq_true (by omega)]; rfl
      rw [e]
      apply ev_fn (i, (300 : Int) + 1)
      · trivial
      · rfl
      · exact True.intro
    · exact fun H2 s2 => q _ _ s2 .non
theorem sc_all_steps : FnScope ["house", "at", "side"] ["house"] (defScope s_all_steps) := ⟨rfl, rfl, rfl, by decide +kernel, rfl, by decide +kernel, by decide +kernel⟩
abbrev sp_all_steps (C : Addr) : Sp := fnSpL C (fun i : Int × List Door => [.hs i.1 i.2]) (fun i => i.2.length ≤ 20) (fun i => (MF.allSteps i.2).map stepD)
theorem ok_all_steps (F : Df K mg "all_steps" s_all_steps) (B : Bi K mg C) : Cl P w K mg base "all_steps" 1 ["house"] (sp_all_steps C) := by
  refine F.cl sc_all_steps (fun _ _ _ _ _ _ us hl => match us, hl with | [_], _ => rfl) (fun vs H Q E h => ?_) (fun f cdv A outer s H vs Q E hr h => ?_)
  · obtain ⟨i, t, _⟩ := h; exact t.length
  · obtain ⟨⟨rooms, ds⟩, t, hp, q⟩ := h
    obtain ⟨v, _, rfl, t1, t⟩ := tpa_cons t
    cases tpa_nil t
    have hp : ds.length ≤ 20 := hp
    refine ⟨_, (pss_one (ps_ret (pe_lc2 (own := [("at", 1), ("side", 2)]) (vs1 := [2]) (tt := tYes) (wi1 := iTup K _) (tt1 := tYes) rfl sc_all_steps.nd (pi_range1 (by rfl) B.range (pa_cons (pe_callB call_lenS (by rfl) B.len (by decide +kernel) (pa_cons (pe_fld (pv 0) rfl) pa_nil)) pa_nil)) (blkOk_by (own := [("at", 1), ("side", 2)]) (N := ["house", "at", "side"]) (sc := defScope s_all_steps) (by decide +kernel)) (by decide) (fun _ _ _ _ _ => (pg_name (i := 1) sc_all_steps.nd rfl (by first | exact Or.inl rfl | exact Or.inr rfl))) (fun _ _ _ _ _ => pts_nil) (fun _ _ _ _ _ => (pi_tup (pe_tup (pa_cons pe_int (pa_cons pe_int pa_nil))))) (fun _ _ _ _ _ => (pg_name (i := 2) sc_all_steps.nd rfl (by first | exact Or.inl rfl | exact Or.inr rfl))) (fun _ _ _ _ _ => pts_nil) (fun _ _ _ _ _ => (pe_tup (pa_cons (pv 1) (pa_cons (pv 2) pa_nil))))))), ?_⟩
    have e : ((((List.range ds.length).map fun k => D.num ((k : Nat) : Int)).flatMap fun d => [D.num 0, D.num 1].map fun e => D.tup [d, e])) = (MF.allSteps ds).map stepD := by
      unfold MF.allSteps
      rw [List.flatMap_map, List.map_flatMap]
      rfl
    refine st_retL' (C := C) (d := ((List.range ds.length).map fun k => D.num ((k : Nat) : Int)).flatMap fun d => [D.num 0, D.num 1].map fun e => D.tup [d, e]) ?_ e fun a vs H2 s2 hn h2 t2 => q a vs H2 s2 hn h2 t2
    refine evl_lc2 (C := C) (ei_rng1 (n := ds.length) (C := C) ?_ (by omega)) (fun _ => [.num 0, .num 1]) (fun d e => .tup [d, e]) ?_ ?_
    · apply ea_cons
      · have e2 : (D.num (ds.length : Int)) = D.num (((ds.map doorD).length : Nat) : Int) := by rw [List.length_map]
        rw [e2]
        exact ev_lenT (ev_doors (ev_var rfl t1) B.cl B.nd)
      · trivial
    · intro d x H1 hd s1 tx
      obtain ⟨k, hk, rfl⟩ := List.mem_map.mp hd
      cases tp_num tx
      refine ⟨_, gb_name, rfl, ei_tup (by trivial), fun e y H2 he s2 tx2 ty => ?_⟩
      have hy : ∃ z : Int, e = .num z := by
        simp only [List.mem_cons, List.not_mem_nil, or_false] at he
        rcases he with rfl | rfl
        · exact ⟨_, rfl⟩
        · exact ⟨_, rfl⟩
      obtain ⟨z, rfl⟩ := hy
      cases tp_num ty
      refine ⟨_, gb_name, rfl, ?_⟩
      trivial
    · rw [e, List.length_map]
      have : ∀ n, ((List.range n).flatMap fun a => [(a, 0), (a, 1)] : List MF.Step).length = 2 * n := by
        intro n
        induction n with
        | zero => rfl
        | succ n ih => rw [List.range_succ, List.flatMap_append, List.length_append, ih]; simp; omega
      show (MF.allSteps ds).length ≤ sizeLine
      unfold MF.allSteps
      rw [this]
      exact small_len (m := 40) (by omega) (by omega)
/-- the rows stand at rs -/
def TB (T : Nat → Nat → Int) (n : Nat) (rs : List Addr) (H : Hp) : Prop := ∀ u r, rs[u]? = some r → H r = some (.lst ((List.range n).map fun t => V.int (T u t)))
theorem TB.ll {T : Nat → Nat → Int} {n : Nat} : ∀ {rs : List Addr} {H : Hp} (k : Nat), (∀ u r, rs[u]? = some r → H r = some (.lst ((List.range n).map fun t => V.int (T (k + u) t)))) → Paired (fun v r => IL r H v) (rs.map V.ref) ((List.range rs.length).map fun u => (List.range n).map fun t => T (k + u) t)
  | [], H, k, _ => .nil
  | r :: rs, H, k, h => by
    rw [List.length_cons, List.range_succ_eq_map, List.map_cons, List.map_cons, List.map_map]
    refine .cons ⟨r, rfl, ?_⟩ ?_
    · have := h 0 r rfl
      rw [this]
      simp [Function.comp_def]
    · have := TB.ll (T := T) (n := n) (rs := rs) (H := H) (k + 1) (fun u r' hr => by
        have := h (u + 1) r' (by simpa using hr)
        rw [show k + 1 + u = k + (u + 1) by omega]
        exact this)
      refine (cast ?_ this)
      congr 1
      apply List.map_congr_left
      intro u hu
      show _ = (fun t => T (k + (u + 1)) t) <$> _
      rw [show k + 1 + u = k + (u + 1) by omega]
      rfl
def tabL (ds : List Door) (n : Nat) : List (List Int) := (List.range n).map fun u => (List.range n).map fun t => MF.tab ds u t
theorem sc_rooms_table : FnScope ["house", "found", "room", "step", "near", "leaving", "far", "arriving"] ["house"] (defScope s_rooms_table) := ⟨rfl, rfl, rfl, by decide +kernel, rfl, by decide +kernel, by decide +kernel⟩
abbrev sp_rooms_table (C : Addr) : Sp := pSp (fun (i : Int × List Door × Nat) vs H => TpA C H vs [.hs i.1 i.2.1] ∧ HW i.1 i.2.1 ∧ i.1 = (i.2.2 : Int)) (fun i H v => LL (tabL i.2.1 i.2.2) H v)
theorem ok_rooms_table (F : Df K mg "rooms_table" s_rooms_table) (B : Bi K mg C) (h_all_steps : Cl P w K mg base "all_steps" 1 ["house"] (sp_all_steps C)) (h_gate_of : Cl P w K mg base "gate_of" 1 ["house", "step"] (sp_gate_of C)) : Cl P w K mg base "rooms_table" 2 ["house"] (sp_rooms_table C) := by
  refine F.cl sc_rooms_table (fun _ _ _ _ _ _ us hl => match us, hl with | [_], _ => rfl) (fun vs H Q E h => ?_) (fun f cdv A outer s H vs Q E hr h => ?_)
  · obtain ⟨i, ⟨t, _⟩, _⟩ := h; exact t.length
  · obtain ⟨⟨rooms, ds, n⟩, ⟨t, hw, hn⟩, q⟩ := h
    obtain ⟨v, _, rfl, t1, t⟩ := tpa_cons t
    cases tpa_nil t
    have hn : rooms = (n : Int) := hn
    have hw : HW rooms ds := hw
    have t1 : Tp C H v (.hs rooms ds) := t1
    subst hn
    have hn12 : n ≤ 12 := by have := hw.hk.r1; omega
    have hn1 : 1 ≤ n := by have := hw.hk.r0; omega
    refine ⟨_, (pss_cons (ps_setLc (i := 1) (own := [("room", 2)]) (tt := tYes) (te := tOp rRep _ (tFld K _ _)) rfl sc_rooms_table.nd rfl rfl (sw_true rfl rfl rfl (by decide +kernel)) (pi_range1 (by rfl) B.range (pa_cons (pe_fld (pv 0) rfl) pa_nil)) (blkOk_by (own := [("room", 2)]) (N := ["house", "found", "room", "step", "near", "leaving", "far", "arriving"]) (sc := defScope s_rooms_table) (by decide +kernel)) (fun _ _ _ _ _ => (pg_name (i := 2) sc_rooms_table.nd rfl (by first | exact Or.inl rfl | exact Or.inr rfl))) (fun _ _ _ _ _ => pts_nil) (fun _ _ _ _ _ => (pe_op op_rep (pe_lst (pa_cons pe_int pa_nil)) (pe_fld (pv 0) rfl))))
      (pss_cons (ps_for PassesOwn.never rfl (pi_list (pe_cl h_all_steps (hr.mono (by decide)) (by rfl) (pa_cons (pv 0) pa_nil))) (pg_name (i := 3) sc_rooms_table.nd rfl (by first | exact Or.inl rfl | exact Or.inr rfl)) (pss_cons (ps_asg (pe_cl h_gate_of (hr.mono (by decide)) (by rfl) (pa_cons (pv 0) (pa_cons (pv 3) pa_nil))) (pg_tup (by rfl) (pgs_cons (pg_name (i := 4) sc_rooms_table.nd rfl (by first | exact Or.inl rfl | exact Or.inr rfl)) (pgs_cons (pg_name (i := 5) sc_rooms_table.nd rfl (by first | exact Or.inl rfl | exact Or.inr rfl)) (pgs_cons (pg_name (i := 6) sc_rooms_table.nd rfl (by first | exact Or.inl rfl | exact Or.inr rfl)) (pgs_cons (pg_name (i := 7) sc_rooms_table.nd rfl (by first | exact Or.inl rfl | exact Or.inr rfl)) pgs_nil))))))
      (pss_one (ps_augS (pe_ix ix_list (pv 1) (pv 4) (fun _ _ => rfl)) (pv 6) get_list (pe_callB call_abs (by rfl) B.abs (by decide +kernel) (pa_cons (pv 5) pa_nil)) ip_add set_list (fun _ _ _ => rfl)))))
      (pss_one (ps_ret (pv 1))))), ?_⟩
    refine st_lcg ?_
    refine lc_gen (C := C) (ei_rng1 (n := n) (C := C) ?_ (by omega)) (fun G D i xs H' => Same G H' ∧ H' D = some (.lst xs) ∧ xs.length = i ∧ ∃ rs : List Addr, xs = rs.map V.ref ∧ rs.Nodup ∧ ∀ r ∈ rs, G r = none ∧ r ≠ D ∧ H' r = some (.lst ((List.range n).map fun _ => V.int 0))) ?_ ?_ ?_ ?_ ?_
    · exact ea_cons (ev_rooms (ev_var rfl t1) B.cl B.nr) ea_nil
    · intro G D sG hD
      exact ⟨Same.new hD, upd_same, rfl, [], rfl, List.nodup_nil, fun r hr => nomatch hr⟩
    · rintro G D i xs H' sG hD ⟨s, e, l, _⟩
      exact ⟨s, e, l⟩
    · rintro G D i xs d x H' sG hD hi ⟨s, e, l, rs, rfl, nd, hrs⟩ tx
      obtain ⟨hi2, rfl⟩ := rng_item hi
      cases tp_num tx
      refine ⟨_, gb_name, rfl, fun R hR => ?_⟩
      refine ⟨Nat.succ_le_of_lt (by rw [sizeLine_eq]; decide), fun p hp => ?_⟩
      have s2 : Same H' (upd H' p (.lst [V.int 0])) := Same.new hp
      refine ev_rooms (ev_var rfl (((t1.same sG).same s).same s2)) B.cl B.nr _ (Same.refl _) _ fun y H3 s3 ty => ?_
      cases tp_num ty
      have e3 : H3 p = some (.lst [V.int 0]) := s3 _ _ upd_same
      refine ⟨p, (n : Int), [V.int 0], rfl, rfl, e3, by omega, by omega, ?_, fun r hr => ?_⟩
      · exact small_len (m := 12) (by simp; omega) (by omega)
      have zz : ([V.int 0] : List V) = [V.int 0] := rfl
      have er : (List.replicate ((n : Int).toNat) [V.int 0]).flatten = (List.range n).map fun _ => V.int 0 := by
        rw [Int.toNat_natCast]
        clear hn12 hn1 hi hi2 hw t1 q hr
        apply List.ext_getElem
        · simp
        · intro i h1 h2
          simp at h1 h2
          simp
      rw [er]
      have s23 : Same H' (upd H3 r (.lst ((List.range n).map fun _ => V.int 0))) := Same.newer (Same.trans s2 s3) hr
      have rD : r ≠ D := fun z => by
        rw [z] at hr
        rw [Same.trans s2 s3 _ _ e] at hr
        cases hr
      refine hR _ _ (s23 _ _ e) ⟨?_, upd_same, by simp [l], rs ++ [r], by simp, ?_, ?_⟩
      · intro b o eb
        rw [upd_ne (fun z => by subst z; rw [hD] at eb; cases eb)]
        exact s23 _ _ (s _ _ eb)
      · refine List.nodup_append.mpr ⟨nd, by simp, ?_⟩
        intro a ha b hb
        have : b = r := by simpa using hb
        rintro rfl
        subst this
        have := (hrs a ha).2.2
        rw [Same.trans s2 s3 _ _ this] at hr
        cases hr
      · intro r' hr'
        rcases List.mem_append.mp hr' with h | h
        · obtain ⟨a1, a2, a3⟩ := hrs r' h
          refine ⟨a1, a2, ?_⟩
          rw [upd_ne a2]
          exact s23 _ _ a3
        · have : r' = r := by simpa using h
          subst this
          refine ⟨(Same.trans s (Same.trans s2 s3)).free hr, rD, ?_⟩
          rw [upd_ne rD]
          exact upd_same
    · rw [List.length_map, List.length_range]; exact small_len (m := 12) hn12 (by omega)
    rintro G D xs H1 sG hD ⟨sm, e, l, rs, rfl, nd, hrs⟩
    rw [List.length_map, List.length_map, List.length_range] at l
    have s1 : Same H H1 := Same.trans sG sm
    have t1' := t1.same s1
    have nH : ∀ r ∈ rs, H r = none := fun r hr => sG.free (hrs r hr).1
    have nD : H D = none := sG.free hD
    have tb0 : TB (tabP ds []) n rs H1 := fun u r hr => (hrs r (List.mem_of_getElem? hr)).2.2
    have rD : ∀ r ∈ rs, r ≠ D := fun r hr => (hrs r hr).2.1
    have imm : ∀ r ∈ rs, ∀ o, H1 r = some o → ¬ Imm o := fun r hr => notImm_lst (hrs r hr).2.2
    have some1 : ∀ r ∈ rs, H1 r ≠ none := fun r hr => by rw [(hrs r hr).2.2]; simp
    clear hrs
    have al : (MF.allSteps ds).length ≤ 8 := by
      have : ∀ n, ((List.range n).flatMap fun a => [(a, 0), (a, 1)] : List MF.Step).length = 2 * n := by
        intro n
        induction n with
        | zero => rfl
        | succ n ih => rw [List.range_succ, List.flatMap_append, List.length_append, ih]; simp; omega
      unfold MF.allSteps
      rw [this]; have := hw.d4; omega
    refine st_for (C := C) (wi := _) (ei_lst (C := C) (ds := (MF.allSteps ds).map stepD) ?_) (fun G i σ' H' => ∃ x2 x3 x4 x5 x6 x7, σ' = [some v, some (.ref D), x2, x3, x4, x5, x6, x7] ∧ (∀ b o, b ∉ rs → G b = some o → H' b = some o) ∧ TB (tabP ds ((MF.allSteps ds).take i)) n rs H') ?_ ?_ ?_ ?_
    · apply evl_fn ((n : Int), ds)
      · exact ea_cons (ev_var rfl t1') ea_nil
      · rfl
      · have := hw.d4; dsimp only; omega
    · intro G2 s2
      exact ⟨none, none, none, none, none, none, rfl, fun _ _ _ h => h, fun u r hr => s2 _ _ (tb0 u r hr)⟩
    · rintro G2 i σ' H' s2 ⟨x2, x3, x4, x5, x6, x7, rfl, b, tb⟩
      refine ⟨fun c o ec ic => b c o (fun hc => ?_) ec, fun c o hc ec => b c o (fun z => ?_) ec⟩
      · obtain ⟨o2, h2⟩ : ∃ o2, H1 c = some o2 := Option.ne_none_iff_exists'.mp (some1 c hc)
        have := s2 _ _ h2
        rw [ec] at this
        cases this
        exact imm c hc o h2 ic
      · rcases hc with hc | hc
        · exact some1 c z hc
        · exact nomatch hc
    · rintro G2 i d x σ' H' s2 hi ⟨x2, x3, x4, x5, x6, x7, rfl, b, tb⟩ tx
      obtain ⟨st, hst, rfl⟩ := map_item hi
      refine ⟨_, gb_name, ?_⟩
      have hs := List.mem_of_getElem? hst
      have sH : Same H H' := fun c o ec => b c o (fun hc => by rw [nH c hc] at ec; cases ec) (s2 _ _ (s1 _ _ ec))
      have tx' := tx
      apply st_asg (C := C) (d := doorD (MF.gate ds st))
      · apply ev_fn ((n : Int), ds, st)
        · exact ea_cons (ev_var rfl (t1.same sH)) (ea_cons (ev_var rfl tx) ea_nil)
        · rfl
        · exact hs
      · intro xg H3 s3 tg
        refine ⟨_, gb_door tg, ?_⟩
        obtain ⟨nr0, nr1⟩ := MF.near_room hw.ok hs
        obtain ⟨fr0, fr1⟩ := MF.far_room hw.ok hs
        obtain ⟨u0, hu⟩ : ∃ u0 : Nat, MF.near ds st = (u0 : Int) := ⟨_, (Int.toNat_of_nonneg nr0).symm⟩
        obtain ⟨t0, ht⟩ : ∃ t0 : Nat, MF.far ds st = (t0 : Int) := ⟨_, (Int.toNat_of_nonneg fr0).symm⟩
        have u0n : u0 < n := by omega
        have t0n : t0 < n := by omega
        obtain ⟨r0, hr0⟩ : ∃ r0, rs[u0]? = some r0 := ⟨_, List.getElem?_eq_getElem (by omega)⟩
        have hr0m := List.mem_of_getElem? hr0
        have eD : H3 D = some (.lst (rs.map V.ref)) := s3 _ _ (b D _ (fun z => rD D z rfl) (s2 _ _ e))
        have er0 := s3 _ _ (tb u0 r0 hr0)
        have eg1 : (MF.gate ds st).1 = (u0 : Int) := hu
        have eg2 : (MF.gate ds st).2.2.1 = (t0 : Int) := ht
        refine ⟨_, rfl, _, rfl, D, rs.map V.ref, (MF.gate ds st).1, V.ref r0, rfl, rfl, .inl (.inl eD), ?_, _, rfl, r0, _, t0, V.int (tabP ds ((MF.allSteps ds).take i) u0 t0), rfl, ?_, .inl (.inl er0), ?_, _, rfl, _, rfl, _, _, rfl, rfl, r0, _, (MF.gate ds st).2.2.1, t0, rfl, rfl, er0, ?_, ?_⟩
        · rw [eg1]
          exact atI_nat (by rw [List.getElem?_map, hr0]; rfl)
        · show V.int _ = V.int _
          rw [eg2]
        · rw [List.getElem?_map, List.getElem?_range t0n]; rfl
        · rw [eg2]
          exact ixN_nat (by simpa using t0n)
        · have tk : (MF.allSteps ds).take (i + 1) = (MF.allSteps ds).take i ++ [st] := by
            rw [List.take_add_one, hst]; rfl
          refine ⟨_, _, _, _, _, _, rfl, fun c o hc ec => ?_, fun u r hr => ?_⟩
          · rw [upd_ne (fun z : c = r0 => hc (by rw [z]; exact hr0m))]
            exact s3 _ _ (b c o hc ec)
          · have step : ∀ u t, tabP ds ((MF.allSteps ds).take (i + 1)) u t = tabP ds ((MF.allSteps ds).take i) u t + if u0 = u ∧ t0 = t then MF.aux (MF.lv ds st) else 0 := by
              intro u t
              unfold tabP
              rw [tk, MS.ls_append, MS.ls_cons, MS.ls_nil, Int.add_zero, hu, ht]
              congr 1
              simp only [Int.natCast_inj]
            by_cases hru : r = r0
            · subst hru
              have : u0 = u := by
                have h1 := hr0.trans hr.symm
                exact (List.getElem?_inj (by omega) nd).mp h1
              subst this
              rw [upd_same]
              have e9 : (if (MF.gate ds st).2.1 < 0 then -(MF.gate ds st).2.1 else (MF.gate ds st).2.1) = MF.aux (MF.lv ds st) := aux_if _
              rw [e9, set_row t0n]
              congr 2
              apply List.map_congr_left
              intro t _
              rw [step]
              congr 2
              by_cases z : t = t0
              · subst z; simp
              · have : ¬ t0 = t := fun y => z y.symm
                simp [z, this]
            · rw [upd_ne hru]
              have : ¬ u0 = u := by
                intro z
                subst z
                rw [hr0] at hr
                cases hr
                exact hru rfl
              have h9 := s3 _ _ (tb u r hr)
              rw [h9]
              congr 2
              apply List.map_congr_left
              intro t _
              rw [step]
              simp [this]
    · rintro G2 σ' H' s2 ⟨x2, x3, x4, x5, x6, x7, rfl, b, tb⟩
      rw [List.length_map, List.take_length] at tb
      have sH : Same H H' := fun c o ec => b c o (fun hc => by rw [nH c hc] at ec; cases ec) (s2 _ _ (s1 _ _ ec))
      refine ⟨_, rfl, q _ H' sH ⟨D, rs.map V.ref, rfl, b D _ (fun z => rD D z rfl) (s2 _ _ e), ?_⟩⟩
      have := TB.ll (T := MF.tab ds) (n := n) (rs := rs) (H := H') 0 (fun u r hr => by rw [Nat.zero_add]; exact tb u r hr)
      rw [l] at this
      simpa [tabL] using this
end
end K49

set_option Elab.async false
set_option linter.all false
set_option maxRecDepth 100000
set_option maxHeartbeats 4000000
/-! Lines of feet. -/
namespace K49
open PySem PySem.Spec PyProof.Rows L2 Y
local macro_rules | `(tactic| trivial) => `(tactic| first
  | with_reducible exact ev_int
  | with_reducible exact ev_bl
  | with_reducible exact ev_non
  | with_reducible exact ea_nil
  | with_reducible exact et_yes
  | ((with_reducible apply ev_var); exact rfl; first | exact .num _ | exact .bl _ | exact .non | assumption)
  | ((with_reducible apply ea_cons); trivial; trivial)
  | ((with_reducible apply ev_tup); trivial; first | decide | (show _ ≤ sizeLine; simp; decide))
  | ((with_reducible apply ev_ix0); trivial; trivial; exact rfl)
  | ((with_reducible apply ev_ix1); trivial; trivial; exact rfl)
  | ((with_reducible apply ev_ix2); trivial; trivial; exact rfl)
  | ((with_reducible apply ev_ix3); trivial; trivial; exact rfl)
  | ((with_reducible apply ev_opI); trivial; trivial)
  | ((with_reducible apply ev_opB); trivial; trivial)
  | ((with_reducible apply ev_eqI); trivial; trivial)
  | ((with_reducible apply ev_neI); trivial; trivial)
  | ((with_reducible apply ev_un); trivial)
  | ((with_reducible apply ev_chain); trivial; trivial; trivial)
  | ((with_reducible apply ev_abs); trivial)
  | ((with_reducible apply ev_intI); trivial)
  | ((with_reducible apply ev_gcd); trivial; trivial)
  | ((with_reducible apply ev_lenT); trivial)
  | ((with_reducible apply et_test); trivial)
  | ((with_reducible apply et_B); trivial)
  | ((with_reducible apply et_not); trivial)
  | ((with_reducible apply et_and); trivial; (intro _; trivial))
  | ((with_reducible apply et_or); trivial; (intro _; trivial))
  | ((with_reducible apply ev_andV); trivial; (intro _; trivial))
  | ((with_reducible apply ev_orV); trivial; (intro _; trivial))
  | ((with_reducible apply ev_notV); trivial)
  | ((with_reducible apply ev_isN); trivial)
  | ((with_reducible apply ev_notN); trivial)
  | ((with_reducible apply ev_isiII); trivial)
  | ((with_reducible apply ev_isiIB); trivial)
  | ((with_reducible apply ev_isiTT); trivial)
  | ((with_reducible apply ev_isH); trivial))
def rowL (n : Nat) (S : Nat → Int) : List Int := (List.range n).map S
def tblL (n : Nat) (T : Nat → Nat → Int) : List (List Int) := (List.range n).map fun u => rowL n (T u)
theorem rowL_get {n u : Nat} {S : Nat → Int} (h : u < n) : (rowL n S)[u]? = some (S u) := by unfold rowL; rw [List.getElem?_map, List.getElem?_range h]; rfl
theorem tblL_get {n u : Nat} {T : Nat → Nat → Int} (h : u < n) : (tblL n T)[u]? = some (rowL n (T u)) := by unfold tblL; rw [List.getElem?_map, List.getElem?_range h]; rfl
theorem rowL_len (n : Nat) (S : Nat → Int) : (rowL n S).length = n := by simp [rowL]
theorem tblL_len (n : Nat) (T : Nat → Nat → Int) : (tblL n T).length = n := by simp [tblL]
def nextF (n : Nat) (T : Nat → Nat → Int) (S Lf Af : Nat → Int) (len : Nat) (t : Nat) : Int := (MS.ls (List.range n) fun u => Lf u * T u t) - (if 0 < len then Af t * (S t - if 1 < len then 1 else 0) else 0)
theorem ls_bd {α : Type} (c : Int) (f : α → Int) : ∀ {l : List α}, (∀ a ∈ l, 0 ≤ f a ∧ f a ≤ c) → 0 ≤ MS.ls l f ∧ MS.ls l f ≤ l.length * c
  | [], _ => by simp
  | a :: l, h => by
    have h1 := h a (by simp)
    have h2 := ls_bd c f (l := l) fun b hb => h b (by simp [hb])
    rw [MS.ls_cons, List.length_cons, Int.natCast_succ, Int.add_mul, Int.one_mul]
    omega
theorem tab_bd {rooms : Int} {ds : List Door} (hw : HW rooms ds) (u t : Nat) : 0 ≤ MF.tab ds u t ∧ MF.tab ds u t ≤ 400 := by
  have h := ls_bd 50 (fun s => if MF.near ds s = (u : Int) ∧ MF.far ds s = (t : Int) then MF.aux (MF.lv ds s) else 0) (l := MF.allSteps ds) (fun s hs => by
    have a1 := MF.aux_nn (MF.lv ds s)
    have a2 : MF.aux (MF.lv ds s) ≤ 50 := by have := (hw.lv hs).2.1; unfold MF.aux; omega
    split
    · exact ⟨a1, a2⟩
    · exact ⟨Int.le_refl _, by decide⟩)
  have al : (MF.allSteps ds).length ≤ 8 := by
    have : ∀ n, ((List.range n).flatMap fun a => [(a, 0), (a, 1)] : List MF.Step).length = 2 * n := by
      intro n
      induction n with
      | zero => rfl
      | succ n ih => rw [List.range_succ, List.flatMap_append, List.length_append, ih]; simp; omega
    unfold MF.allSteps
    rw [this]; have := hw.d4; omega
  refine ⟨h.1, Int.le_trans h.2 ?_⟩
  omega
theorem siz_bd {rooms : Int} {ds : List Door} (hw : HW rooms ds) {n : Nat} (hn : n ≤ 12) (u : Nat) : 0 ≤ MF.siz ds n u ∧ MF.siz ds n u ≤ 4800 := by
  have h := ls_bd 400 (MF.tab ds u) (l := List.range n) (fun t _ => tab_bd hw u t)
  rw [List.length_range] at h
  refine ⟨h.1, Int.le_trans h.2 ?_⟩
  omega
section
variable {P : Program} {w : World} {K : PySem.W.Frag} {mg : Str → Option Value} {base : Heap} {C : Addr}
theorem sc_sizes_of_rooms : FnScope ["table", "row"] ["table"] (defScope s_sizes_of_rooms) := ⟨rfl, rfl, rfl, by decide +kernel, rfl, by decide +kernel, by decide +kernel⟩
abbrev sp_sizes_of_rooms : Sp := pSp (fun (rows : List (List Int)) vs H => (∃ v, vs = [v] ∧ LL rows H v) ∧ rows.length ≤ 1000) (fun rows H v => IL (rows.map List.sum) H v)
theorem ok_sizes_of_rooms (F : Df K mg "sizes_of_rooms" s_sizes_of_rooms) (B : Bi K mg C) : Cl P w K mg base "sizes_of_rooms" 1 ["table"] sp_sizes_of_rooms := by
  refine F.cl sc_sizes_of_rooms (fun _ _ _ _ _ _ us hl => match us, hl with | [_], _ => rfl) (fun vs H Q E h => ?_) (fun f cdv A outer s H vs Q E hr h => ?_)
  · obtain ⟨i, ⟨⟨v, rfl, _⟩, _⟩, _⟩ := h; rfl
  · obtain ⟨rows, ⟨⟨v, rfl, ll⟩, hl⟩, q⟩ := h
    obtain ⟨a, vs, rfl, ha, pr⟩ := ll
    have vl : vs.length = rows.length := Paired.length pr
    refine ⟨_, (pss_one (ps_ret (pe_lc (own := [("row", 1)]) (tt := tYes) (te := tCB (rSum K) _) rfl sc_sizes_of_rooms.nd (pi_list (pv 0)) (blkOk_by (own := [("row", 1)]) (N := ["table", "row"]) (sc := defScope s_sizes_of_rooms) (by decide +kernel)) (fun _ _ _ _ _ => (pg_name (i := 1) sc_sizes_of_rooms.nd rfl (by first | exact Or.inl rfl | exact Or.inr rfl))) (fun _ _ _ _ _ => pts_nil) (fun _ _ _ _ _ => (pe_callB (cr_sum rfl) (by rfl) B.sum (by decide +kernel) (pa_cons (pv 1) pa_nil)))))), ?_⟩
    refine ⟨_, rfl, a, rfl, ⟨vs, .inl (.inl ha)⟩, fun D hD => ?_⟩
    refine ⟨fun i m H' => m = rows.length - i ∧ i ≤ rows.length ∧ Same H H' ∧ H' D = some (.lst (((rows.take i).map List.sum).map V.int)), ⟨_, rfl, Nat.zero_le _, Same.new hD, upd_same⟩, ?_⟩
    rintro i m H' ⟨rfl, hi, s, e⟩
    have ha' := s _ _ ha
    by_cases hlt : i < rows.length
    · obtain ⟨row, hrow⟩ : ∃ row, rows[i]? = some row := ⟨_, List.getElem?_eq_getElem hlt⟩
      obtain ⟨x, hx, ra, rfl, hra⟩ := pil_get pr hrow
      refine .inr ⟨⟨vs, _, .inl (.inl ha'), hx⟩, fun H' => Same H H' ∧ H' D = some (.lst (((rows.take (i + 1)).map List.sum).map V.int)), fun H3 q3 => ⟨_, by omega, rfl, hlt, q3⟩, ?_⟩
      rintro y H3 ⟨rfl, hy⟩
      have := hy vs (.inl (.inl ha'))
      rw [hx] at this
      cases this
      refine ⟨rfl, ?_⟩
      unfold tYes
      refine iteT ⟨_, rfl, ra, row, rfl, .inl (.inl (s _ _ hra)), _, e, ?_, Same.put s hD, ?_⟩
      · exact small_lt (m := 2000) (by simp; omega) (by omega)
      · rw [upd_same, List.take_add_one, hrow]
        simp
    · have : i = rows.length := by omega
      subst this
      refine .inl ⟨⟨vs, .inl (.inl ha'), by rw [vl]; exact Nat.le_refl _⟩, ?_⟩
      rw [List.take_length] at e
      exact q _ H' s ⟨D, rfl, e⟩
theorem sc_next_line : FnScope ["table", "sizes", "line", "ahead", "length", "found", "room", "come", "there", "lost"] ["table", "sizes", "line", "ahead", "length"] (defScope s_next_line) := ⟨rfl, rfl, rfl, by decide +kernel, rfl, by decide +kernel, by decide +kernel⟩
structure NL where
  n : Nat
  T : Nat → Nat → Int
  S : Nat → Int
  Lf : Nat → Int
  Af : Nat → Int
  len : Nat
structure NL.Pre (x : NL) (vs : List V) (H : Hp) : Prop where
  ex : ∃ v0 v1 v2 v3, vs = [v0, v1, v2, v3, .int x.len] ∧ LL (tblL x.n x.T) H v0 ∧ IL (rowL x.n x.S) H v1 ∧ IL (rowL x.n x.Lf) H v2 ∧ IL (rowL x.n x.Af) H v3
  n12 : x.n ≤ 12
  bT : ∀ u t, 0 ≤ x.T u t ∧ x.T u t ≤ 400
  bS : ∀ u, 0 ≤ x.S u ∧ x.S u ≤ 4800
abbrev sp_next_line : Sp := pSp NL.Pre (fun x H v => IL (rowL x.n (nextF x.n x.T x.S x.Lf x.Af x.len)) H v)
theorem ok_next_line (F : Df K mg "next_line" s_next_line) (B : Bi K mg C) : Cl P w K mg base "next_line" 1 ["table", "sizes", "line", "ahead", "length"] sp_next_line := by
  refine F.cl sc_next_line (fun _ _ _ _ _ _ us hl => match us, hl with | [_, _, _, _, _], _ => rfl) (fun vs H Q E h => ?_) (fun f cdv A outer s H vs Q E hr h => ?_)
  · obtain ⟨i, ⟨⟨v0, v1, v2, v3, rfl, _⟩, _⟩, _⟩ := h; rfl
  · obtain ⟨⟨n, T, S, Lf, Af, len⟩, ⟨⟨v0, v1, v2, v3, rfl, l0, l1, l2, l3⟩, n12, bT, bS⟩, q⟩ := h
    dsimp only at l0 l1 l2 l3 n12 bT bS q
    refine ⟨_, (pss_cons (ps_set (i := 5) sc_next_line.nd rfl (by first | exact Or.inl rfl | exact Or.inr rfl) (pe_lst pa_nil))
      (pss_cons (ps_for PassesOwn.never rfl (pi_range1 (by rfl) B.range (pa_cons (pe_callB call_lenS (by rfl) B.len (by decide +kernel) (pa_cons (pv 0) pa_nil)) pa_nil)) (pg_name (i := 6) sc_next_line.nd rfl (by first | exact Or.inl rfl | exact Or.inr rfl)) (pss_cons (ps_set (i := 7) sc_next_line.nd rfl (by first | exact Or.inl rfl | exact Or.inr rfl) (pe_callB (cr_sum rfl) (by rfl) B.sum (by decide +kernel) (pa_cons (pe_lc (own := [("there", 8)]) (tt := tYes) (te := tOp _ (tOp (rIxL K) _ _) (tOp (rIxL K) (tOp (rIxL K) _ _) _)) rfl sc_next_line.nd (pi_range1 (by rfl) B.range (pa_cons (pe_callB call_lenS (by rfl) B.len (by decide +kernel) (pa_cons (pv 0) pa_nil)) pa_nil)) (blkOk_by (own := [("there", 8)]) (N := ["table", "sizes", "line", "ahead", "length", "found", "room", "come", "there", "lost"]) (sc := defScope s_next_line) (by decide +kernel)) (fun _ _ _ _ _ => (pg_name (i := 8) sc_next_line.nd rfl (by first | exact Or.inl rfl | exact Or.inr rfl))) (fun _ _ _ _ _ => pts_nil) (fun _ _ _ _ _ => (pe_op op_mul (pe_ix ix_list (pv 2) (pv 8) (fun _ _ => rfl)) (pe_ix ix_list (pe_ix ix_list (pv 0) (pv 8) (fun _ _ => rfl)) (pv 6) (fun _ _ => rfl))))) pa_nil)))
      (pss_cons (ps_set (i := 9) sc_next_line.nd rfl (by first | exact Or.inl rfl | exact Or.inr rfl) (pe_ifExp (pt_cmpR op_gt (pv 4) pe_int (nomark _)) (pe_op op_mul (pe_ix ix_list (pv 3) (pv 6) (fun _ _ => rfl)) (pe_op op_sub (pe_ix ix_list (pv 1) (pv 6) (fun _ _ => rfl)) (pe_ifExp (pt_cmpR op_gt (pv 4) pe_int (nomark _)) pe_int pe_int))) pe_int))
      (pss_one (ps_expr (pe_bm PySem.F.plainAttrs_list PySem.F.slot_list_append PySem.F.type_list_append mt_append (pv 5) (pa_cons (pe_op op_sub (pv 7) (pv 9)) pa_nil)))))))
      (pss_one (ps_ret (pv 5))))), ?_⟩
    apply st_setL (C := C) (ds := [])
    · apply evl_lst
      · trivial
      · exact Nat.zero_le _
    intro a vs0 H1 s1 hn ha r0
    cases tpa_nil r0
    refine st_for (C := C) (wi := _) (ei_rng1 (n := n) (C := C) ?_ (by omega)) (fun G i σ' H' => ∃ vs x6 x7 x8 x9, σ' = [some v0, some v1, some v2, some v3, some (.int (len : Int)), some (.ref a), x6, x7, x8, x9] ∧ Gr C a G H' vs (((List.range i).map (nextF n T S Lf Af len)).map D.num)) ?_ ?_ ?_ ?_
    · apply ea_cons
      · have := ev_lenLL (C := C) (K := K) (evp_ll (i := 0) (σ := [some v0, some v1, some v2, some v3, some (.int (len : Int)), some (.ref a), none, none, none, none]) rfl (l0.same s1))
        rw [tblL_len] at this
        exact this
      · trivial
    · intro G sG
      exact ⟨[], none, none, none, none, rfl, Gr.start (sG _ _ ha) .nil⟩
    · rintro G i σ' H' sG ⟨vs, x6, x7, x8, x9, rfl, g⟩
      exact g.keeps (H := H1) (Fk := []) (sG _ _ ha) (by rw [ha]; simp) (by simp)
    · rintro G i d x σ' H' sG hi ⟨vs, x6, x7, x8, x9, rfl, g⟩ tx
      obtain ⟨hi2, rfl⟩ := rng_item hi
      cases tp_num tx
      refine ⟨_, gb_name, ?_⟩
      have sH : Same H H' := (g.re (Same.but sG)).back s1 hn
      have l0' := l0.same sH
      have l1' := l1.same sH
      have l2' := l2.same sH
      have l3' := l3.same sH
      apply st_set (C := C) (d := .num (MS.ls (List.range n) fun u => Lf u * T u i))
      · apply ev_sum (C := C) (ns := (List.range n).map fun u => Lf u * T u i)
        · refine evl_lc (C := C) (keep := fun d => match d with | .num u => some (.num (Lf u.toNat * T u.toNat i)) | _ => none) (h := ei_rng1 (n := n) (C := C) ?_ (by omega)) ?_ ?_
          · apply ea_cons
            · have := ev_lenLL (C := C) (K := K) (evp_ll (i := 0) (σ := [some v0, some v1, some v2, some v3, some (.int (len : Int)), some (.ref a), some (.int (i : Int)), x7, x8, x9]) rfl l0')
              rw [tblL_len] at this
              exact this
            · trivial
          · intro d x H2 hd s2 tx
            obtain ⟨u, hu, rfl⟩ := List.mem_map.mp hd
            have hun : u < n := List.mem_range.mp hu
            cases tp_num tx
            refine ⟨_, gb_name, rfl, et_yes, fun z hz => ?_⟩
            have hz : D.num (Lf u * T u i) = z := by simpa using hz
            subst hz
            apply ev_mulR
            · exact ev_ixL (i := u) (evp_il rfl (l2'.same s2)) (ev_var rfl (.num _)) (rowL_get hun)
            · exact ev_ixL (i := i) (evp_ixLL (C := C) (i := u) (evp_ll rfl (l0'.same s2)) (ev_var rfl (.num _)) (tblL_get hun)) (ev_var rfl (.num _)) (rowL_get hi2)
            · have := bT u i; omega
          · rw [List.length_map, List.length_range]; exact small_len (m := 12) n12 (by omega)
        · rw [List.filterMap_map, List.map_map]
          rw [show ((fun d => match d with | D.num u => some (D.num (Lf u.toNat * T u.toNat i)) | _ => none) ∘ fun k : Nat => D.num (k : Int)) = fun k : Nat => some (D.num (Lf k * T k i)) from by funext k; simp]
          rw [List.filterMap_eq_map']
          rfl
      · intro vc H2 s2 tc
        cases tp_num tc
        apply st_set (C := C) (d := .num (if 0 < len then Af i * (S i - if 1 < len then 1 else 0) else 0))
        · apply ev_if (C := C) (b := decide (0 < (len : Int)))
          · apply et_test (C := C)
            apply ev_opB (g := fun i j => decide (j < i))
            · trivial
            · trivial
          · intro hb
            have hb : 0 < (len : Int) := of_decide_eq_true hb
            rw [if_pos (by omega)]
            apply ev_mulR
            · exact ev_ixL (i := i) (evp_il rfl (l3'.same s2)) (ev_var rfl (.num _)) (rowL_get hi2)
            · apply ev_opI (g := fun i j => i - j)
              · exact ev_ixL (i := i) (evp_il rfl (l1'.same s2)) (ev_var rfl (.num _)) (rowL_get hi2)
              · have e : (D.num (if 1 < len then 1 else 0)) = if decide (1 < (len : Int)) = true then D.num 1 else D.num 0 := by
                  by_cases h : 1 < len
                  · rw [if_pos h, if_pos (decide_eq_true (by omega))]
                  · rw [if_neg h, if_neg (by rw [decide_eq_false (by omega)]; decide)]
                rw [e]
                apply ev_if2
                · apply et_test (C := C)
                  apply ev_opB (g := fun i j => decide (j < i))
                  · trivial
                  · trivial
                · trivial
                · trivial
            · have := bS i
              split <;> omega
          · intro hb
            have hb : ¬ 0 < (len : Int) := of_decide_eq_false hb
            rw [if_neg (by omega)]
            trivial
        · intro vl H3 s3 tl
          cases tp_num tl
          have s23 := Same.trans s2 s3
          apply st_app1 (C := C) (d := .num (nextF n T S Lf Af len i)) (hv := rfl) (ha := s23 _ _ g.2.1)
          · rw [g.len]; exact small_lt (m := 100) (by simp; omega) (by omega)
          · exact ev_opI (g := fun i j => i - j) (by trivial) (by trivial)
          · intro v4 H4 s4 t4
            refine ⟨vs ++ [v4], _, _, _, _, rfl, ?_⟩
            rw [List.range_succ, List.map_append, List.map_append]
            exact (g.same s23).app s4 t4
    · rintro G σ' H' sG ⟨vs, x6, x7, x8, x9, rfl, g⟩
      rw [List.length_map, List.length_range] at g
      refine ⟨_, rfl, q _ H' ((g.re (Same.but sG)).back s1 hn) ⟨a, rfl, ?_⟩⟩
      rw [g.2.1, nums_of g.2.2]
      rfl
end
end K49

set_option Elab.async false
set_option linter.all false
set_option maxRecDepth 100000
set_option maxHeartbeats 4000000
/-! Feet counted by lines. -/
namespace K49
open PySem PySem.Spec PyProof.Rows L2 Y
local macro_rules | `(tactic| trivial) => `(tactic| first
  | with_reducible exact ev_int
  | with_reducible exact ev_bl
  | with_reducible exact ev_non
  | with_reducible exact ea_nil
  | with_reducible exact et_yes
  | ((with_reducible apply ev_var); exact rfl; first | exact .num _ | exact .bl _ | exact .non | assumption)
  | ((with_reducible apply ea_cons); trivial; trivial)
  | ((with_reducible apply ev_tup); trivial; first | decide | (show _ ≤ sizeLine; simp; decide))
  | ((with_reducible apply ev_ix0); trivial; trivial; exact rfl)
  | ((with_reducible apply ev_ix1); trivial; trivial; exact rfl)
  | ((with_reducible apply ev_ix2); trivial; trivial; exact rfl)
  | ((with_reducible apply ev_ix3); trivial; trivial; exact rfl)
  | ((with_reducible apply ev_opI); trivial; trivial)
  | ((with_reducible apply ev_opB); trivial; trivial)
  | ((with_reducible apply ev_eqI); trivial; trivial)
  | ((with_reducible apply ev_neI); trivial; trivial)
  | ((with_reducible apply ev_un); trivial)
  | ((with_reducible apply ev_chain); trivial; trivial; trivial)
  | ((with_reducible apply ev_abs); trivial)
  | ((with_reducible apply ev_intI); trivial)
  | ((with_reducible apply ev_gcd); trivial; trivial)
  | ((with_reducible apply ev_lenT); trivial)
  | ((with_reducible apply et_test); trivial)
  | ((with_reducible apply et_B); trivial)
  | ((with_reducible apply et_not); trivial)
  | ((with_reducible apply et_and); trivial; (intro _; trivial))
  | ((with_reducible apply et_or); trivial; (intro _; trivial))
  | ((with_reducible apply ev_andV); trivial; (intro _; trivial))
  | ((with_reducible apply ev_orV); trivial; (intro _; trivial))
  | ((with_reducible apply ev_notV); trivial)
  | ((with_reducible apply ev_isN); trivial)
  | ((with_reducible apply ev_notN); trivial)
  | ((with_reducible apply ev_isiII); trivial)
  | ((with_reducible apply ev_isiIB); trivial)
  | ((with_reducible apply ev_isiTT); trivial)
  | ((with_reducible apply ev_isH); trivial))
theorem st_par2 {ta tb : TE} {rest : TS} {Ds : Ends} {σ : L2.St} {H : Hp} {i j : Nat} (h : ta σ H fun v H1 => tb σ H1 fun w H2 => ∃ v' w', [v, w] = [v', w'] ∧ rest Ds ((σ.set i (some v')).set j (some w')) H2) : tSeq (tPar i j (tCons ta (tCons tb tNil))) rest Ds σ H := h
theorem st_setP {te : TE} {rest : TS} {Ds : Ends} {σ : L2.St} {H : Hp} {i : Nat} {Pr : Hp → V → Prop} (h : EvP te σ H Pr) (k : ∀ v H2, Same H H2 → Pr H2 v → rest Ds (σ.set i (some v)) H2) : tSeq (tAsg te (gName i)) rest Ds σ H := h H (Same.refl _) _ k
theorem st_setP1 {te : TE} {Ds : Ends} {σ : L2.St} {H : Hp} {i : Nat} {Pr : Hp → V → Prop} (h : EvP te σ H Pr) (k : ∀ v H2, Same H H2 → Pr H2 v → Ds.nx (σ.set i (some v)) H2) : tAsg te (gName i) Ds σ H := h H (Same.refl _) _ k
theorem evl_lst1 {C : Addr} {te : TE} {σ : L2.St} {H : Hp} {ds : List D} (h : EvL C te σ H ds) (Q : VK) (q : ∀ l vs0 H3, Same H H3 → H l = none → H3 l = some (.lst vs0) → TpA C H3 vs0 ds → ∀ a, H3 a = none → Q (.ref a) (upd H3 a (.lst [.ref l]))) : tLst (tCons te tNil) σ H Q := h H (Same.refl _) _ fun l vs0 H3 s3 hn h3 r3 => ⟨Nat.succ_le_of_lt (by rw [sizeLine_eq]; decide), fun a ha => q l vs0 H3 s3 hn h3 r3 a ha⟩
def rowsN (ds : List Door) (n r0 k : Nat) : List (List Int) := (List.range k).map fun l => rowL n (MF.NN ds n r0 l)
theorem rowsN_get {ds : List Door} {n r0 k l : Nat} (h : l < k) : (rowsN ds n r0 k)[l]? = some (rowL n (MF.NN ds n r0 l)) := by unfold rowsN; rw [List.getElem?_map, List.getElem?_range h]; rfl
theorem rowsN_len (ds : List Door) (n r0 k : Nat) : (rowsN ds n r0 k).length = k := by simp [rowsN]
theorem NN_next (ds : List Door) (n r0 k t : Nat) : MF.NN ds n r0 (k + 1) t = nextF n (MF.tab ds) (MF.siz ds n) (MF.NN ds n r0 k) (MF.NN ds n r0 (k - 1)) k t := by
  cases k with
  | zero => simp [MF.NN, nextF]
  | succ l =>
    show _ = (MS.ls (List.range n) fun u => MF.NN ds n r0 (l + 1) u * MF.tab ds u t) - (if 0 < l + 1 then MF.NN ds n r0 l t * (MF.siz ds n t - if 1 < l + 1 then 1 else 0) else 0)
    rw [if_pos (Nat.succ_pos l)]
    show (MS.ls (List.range n) fun u => MF.NN ds n r0 (l + 1) u * MF.tab ds u t) - MF.NN ds n r0 l t * (MF.siz ds n t - if l = 0 then 0 else 1) = _
    congr 3
    by_cases h : l = 0
    · subst h; rfl
    · rw [if_neg h, if_pos (by omega)]
/-- lists of rows, none of them the list itself -/
def PL (H : Hp) (a : Addr) (vs : List V) (rows : List (List Int)) : Prop := Paired (fun v r => IL r H v ∧ v ≠ .ref a) vs rows
theorem PL.pil {H : Hp} {a : Addr} : ∀ {vs : List V} {rows : List (List Int)}, PL H a vs rows → Paired (fun v r => IL r H v) vs rows
  | _, _, .nil => .nil
  | _, _, .cons x y => .cons x.1 (PL.pil y)
theorem PL.but {H H' : Hp} {a : Addr} (b : But a H H') : ∀ {vs : List V} {rows : List (List Int)}, PL H a vs rows → PL H' a vs rows
  | _, _, .nil => .nil
  | _, _, .cons x y => .cons ⟨let ⟨⟨r, e, h⟩, ne⟩ := x; ⟨r, e, b _ _ (fun z => ne (by rw [e, z])) h⟩, x.2⟩ (PL.but b y)
theorem PL.snoc {H : Hp} {a : Addr} {v : V} {r : List Int} (h : IL r H v ∧ v ≠ .ref a) : ∀ {vs : List V} {rows : List (List Int)}, PL H a vs rows → PL H a (vs ++ [v]) (rows ++ [r])
  | _, _, .nil => .cons h .nil
  | _, _, .cons x y => .cons x (PL.snoc h y)
section
variable {P : Program} {w : World} {K : PySem.W.Frag} {mg : Str → Option Value} {base : Heap} {C : Addr}
theorem sc_lines_of : FnScope ["house", "room", "length", "table", "sizes", "lines", "there", "so_far", "ahead"] ["house", "room", "length"] (defScope s_lines_of) := ⟨rfl, rfl, rfl, by decide +kernel, rfl, by decide +kernel, by decide +kernel⟩
structure LO where
  rooms : Int
  ds : List Door
  n : Nat
  r0 : Nat
  L : Nat
structure LO.Pre (C : Addr) (x : LO) (vs : List V) (H : Hp) : Prop where
  ar : TpA C H vs [.hs x.rooms x.ds, .num (x.r0 : Int), .num (x.L : Int)]
  hw : HW x.rooms x.ds
  hn : x.rooms = (x.n : Int)
  hr : x.r0 < x.n
  hL : x.L ≤ 7
abbrev sp_lines_of (C : Addr) : Sp := pSp (LO.Pre C) (fun x H v => LL (rowsN x.ds x.n x.r0 (x.L + 1)) H v)
theorem ok_lines_of (F : Df K mg "lines_of" s_lines_of) (B : Bi K mg C) (h_rooms_table : Cl P w K mg base "rooms_table" 2 ["house"] (sp_rooms_table C)) (h_sizes_of_rooms : Cl P w K mg base "sizes_of_rooms" 1 ["table"] sp_sizes_of_rooms) (h_next_line : Cl P w K mg base "next_line" 1 ["table", "sizes", "line", "ahead", "length"] sp_next_line) : Cl P w K mg base "lines_of" 3 ["house", "room", "length"] (sp_lines_of C) := by
  refine F.cl sc_lines_of (fun _ _ _ _ _ _ us hl => match us, hl with | [_, _, _], _ => rfl) (fun vs H Q E h => ?_) (fun f cdv A outer s H vs Q E hr h => ?_)
  · obtain ⟨x, ⟨t, _⟩, _⟩ := h; exact t.length
  · obtain ⟨⟨rooms, ds, n, r0, L⟩, ⟨t, hw, hn, hr0, hL⟩, q⟩ := h
    dsimp only at t hw hn hr0 hL q
    obtain ⟨v, _, rfl, t1, t⟩ := tpa_cons t
    obtain ⟨_, _, rfl, t2, t⟩ := tpa_cons t
    obtain ⟨_, _, rfl, t3, t⟩ := tpa_cons t
    cases tpa_nil t; cases tp_num t2; cases tp_num t3
    have hn12 : n ≤ 12 := by have := hw.hk.r1; omega
    refine ⟨_, (pss_cons (ps_set (i := 3) sc_lines_of.nd rfl (by first | exact Or.inl rfl | exact Or.inr rfl) (pe_cl h_rooms_table (hr.mono (by decide)) (by rfl) (pa_cons (pv 0) pa_nil)))
      (pss_cons (ps_par (i := 4) (j := 5) (by rfl) sc_lines_of.nd rfl rfl (by decide) rfl rfl (pa_cons (pe_cl h_sizes_of_rooms (hr.mono (by decide)) (by rfl) (pa_cons (pv 3) pa_nil)) (pa_cons (pe_lst (pa_cons (pe_lc (own := [("there", 6)]) (tt := tYes)  rfl sc_lines_of.nd (pi_range1 (by rfl) B.range (pa_cons (pe_fld (pv 0) rfl) pa_nil)) (blkOk_by (own := [("there", 6)]) (N := ["house", "room", "length", "table", "sizes", "lines", "there", "so_far", "ahead"]) (sc := defScope s_lines_of) (by decide +kernel)) (fun _ _ _ _ _ => (pg_name (i := 6) sc_lines_of.nd rfl (by first | exact Or.inl rfl | exact Or.inr rfl))) (fun _ _ _ _ _ => pts_nil) (fun _ _ _ _ _ => (pe_ifExp (pt_cmpR op_eq (pv 6) (pv 1) (nomark _)) pe_int pe_int))) pa_nil)) pa_nil)) (by rfl))
      (pss_cons (ps_for PassesOwn.never rfl (pi_range1 (by rfl) B.range (pa_cons (pv 2) pa_nil)) (pg_name (i := 7) sc_lines_of.nd rfl (by first | exact Or.inl rfl | exact Or.inr rfl)) (pss_cons (ps_set (i := 8) sc_lines_of.nd rfl (by first | exact Or.inl rfl | exact Or.inr rfl) (pe_ifExp (pt_cmpR op_gt (pv 7) pe_int (nomark _)) (pe_ix ix_list (pv 5) (pe_un un_neg pe_int) (fun _ _ => rfl)) (pe_ix ix_list (pv 5) (pe_un un_neg pe_int) (fun _ _ => rfl))))
      (pss_one (ps_expr (pe_bm PySem.F.plainAttrs_list PySem.F.slot_list_append PySem.F.type_list_append mt_append (pv 5) (pa_cons (pe_cl h_next_line (hr.mono (by decide)) (by rfl) (pa_cons (pv 3) (pa_cons (pv 4) (pa_cons (pe_ix ix_list (pv 5) (pe_un un_neg pe_int) (fun _ _ => rfl)) (pa_cons (pv 8) (pa_cons (pv 7) pa_nil)))))) pa_nil))))))
      (pss_one (ps_ret (pv 5)))))), ?_⟩
    refine st_setP (evp_call (pre := fun (i : Int × List Door × Nat) vs H => TpA C H vs [.hs i.1 i.2.1] ∧ HW i.1 i.2.1 ∧ i.1 = (i.2.2 : Int)) (post := fun i H v => LL (tabL i.2.1 i.2.2) H v) (rooms, ds, n) ?_) ?_
    · exact fun H1 s1 Q' q' => ⟨_, rfl, q' _ H1 (Same.refl _) ⟨.cons (t1.same s1) .nil, hw, hn⟩⟩
    intro vt H1 s1 lt
    have lt : LL (tblL n (MF.tab ds)) H1 vt := lt
    have t1a := t1.same s1
    refine st_par2 ?_
    refine evp_call (pre := fun (rows : List (List Int)) vs H => (∃ v, vs = [v] ∧ LL rows H v) ∧ rows.length ≤ 1000) (post := fun rows H v => IL (rows.map List.sum) H v) (tblL n (MF.tab ds)) ?_ H1 (Same.refl _) _ fun vz H2 s2 lz => ?_
    · exact fun H2 s2 Q' q' => ⟨_, rfl, q' _ H2 (Same.refl _) ⟨⟨_, rfl, lt.same s2⟩, by rw [tblL_len]; omega⟩⟩
    have lz : IL (rowL n (MF.siz ds n)) H2 vz := by
      have e : (tblL n (MF.tab ds)).map List.sum = rowL n (MF.siz ds n) := by
        unfold tblL rowL
        rw [List.map_map]
        rfl
      rw [← e]; exact lz
    have lt2 := lt.same s2
    have t1b := t1a.same s2
    have ev0 : EvL C (tLc (iRng1 (tCons (tFld K (tVar 0) "rooms") tNil)) (gName 6) tYes (tIf (tTest (tOp rEq (tVar 6) (tVar 1))) (tC (.int 1)) (tC (.int 0))) [6]) [some v, some (.int (r0 : Int)), some (.int (L : Int)), some vt, none, none, none, none, none] H2 ((rowL n (MF.NN ds n r0 0)).map D.num) := by
      have e : (rowL n (MF.NN ds n r0 0)).map D.num = ((List.range n).map fun k => D.num ((k : Nat) : Int)).filterMap fun d => match d with | .num u => some (.num (if u = (r0 : Int) then 1 else 0)) | _ => none := by
        rw [List.filterMap_map]
        unfold rowL
        rw [List.map_map]
        rw [show ((fun d => match d with | D.num u => some (D.num (if u = (r0 : Int) then 1 else 0)) | _ => none) ∘ fun k : Nat => D.num (k : Int)) = fun k : Nat => some ((D.num ∘ MF.NN ds n r0 0) k) from by
          funext k
          show some (D.num (if (k : Int) = (r0 : Int) then 1 else 0)) = some (D.num (if k = r0 then 1 else 0))
          simp only [Int.natCast_inj]]
        rw [List.filterMap_eq_map']
      rw [e]
      refine evl_lc (C := C) (wi := iRng1 (tCons (tFld K (tVar 0) "rooms") tNil)) (g := gName 6) (tt := tYes) (te := tIf (tTest (tOp rEq (tVar 6) (tVar 1))) (tC (.int 1)) (tC (.int 0))) (vs := [6]) (σ := [some v, some (.int (r0 : Int)), some (.int (L : Int)), some vt, none, none, none, none, none]) (ei_rng1 (n := n) (C := C) ?_ (by omega)) _ ?_ ?_
      · rw [← hn]
        exact ea_cons (ev_rooms (ev_var rfl t1b) B.cl B.nr) ea_nil
      · intro d x H3 hd s3 tx
        obtain ⟨u, hu, rfl⟩ := List.mem_map.mp hd
        cases tp_num tx
        refine ⟨_, gb_name, rfl, et_yes, fun z hz => ?_⟩
        have hz : D.num (if (u : Int) = (r0 : Int) then 1 else 0) = z := by simpa using hz
        subst hz
        have e : D.num (if (u : Int) = (r0 : Int) then 1 else 0) = if decide ((u : Int) = (r0 : Int)) = true then D.num 1 else D.num 0 := by
          by_cases h : (u : Int) = (r0 : Int) <;> simp [h]
        rw [e]
        apply ev_if2
        · apply et_test (C := C)
          trivial
        · trivial
        · trivial
      · rw [List.length_map, List.length_range]; exact small_len (m := 12) hn12 (by omega)
    refine evl_lst1 ev0 _ fun l0 vs0 H3 s3 hn3 h3 r3 a ha => ⟨_, _, rfl, ?_⟩
    have s03 := Same.trans (Same.trans s1 s2) s3
    have il0 : IL (rowL n (MF.NN ds n r0 0)) H3 (.ref l0) := ⟨l0, rfl, by rw [h3, nums_of r3]⟩
    have lt3 := lt2.same s3
    have lz3 := lz.same s3
    have t1c := t1b.same s3
    have l0a : (V.ref l0) ≠ .ref a := fun z => by cases z; rw [h3] at ha; cases ha
    have pl0 : PL (upd H3 a (.lst [.ref l0])) a [.ref l0] (rowsN ds n r0 1) := .cons ⟨il0.same (Same.new ha), l0a⟩ .nil
    have s4 : Same H3 (upd H3 a (.lst [.ref l0])) := Same.new ha
    have ha4 : upd H3 a (.lst [.ref l0]) a = some (.lst [.ref l0]) := upd_same
    change tSeq (tFor _ _ _) _ _ [some v, some (.int (r0 : Int)), some (.int (L : Int)), some vt, some vz, some (.ref a), none, none, none] (upd H3 a (.lst [.ref l0]))
    generalize upd H3 a (.lst [.ref l0]) = H4 at pl0 s4 ha4 ⊢
    refine st_for (C := C) (wi := _) (ei_rng1 (n := L) (C := C) ?_ (by omega)) (fun G i σ' H' => ∃ vs y6 y7 y8, σ' = [some v, some (.int (r0 : Int)), some (.int (L : Int)), some vt, some vz, some (.ref a), y6, y7, y8] ∧ But a G H' ∧ H' a = some (.lst vs) ∧ PL H' a vs (rowsN ds n r0 (i + 1))) ?_ ?_ ?_ ?_
    · trivial
    · intro G sG
      exact ⟨_, none, none, none, rfl, But.refl _ _, sG _ _ ha4, PL.but (Same.but sG) pl0⟩
    · rintro G i σ' H' sG ⟨vs, y6, y7, y8, rfl, b, e, pl⟩
      refine ⟨b.stay (notImm_lst (sG _ _ ha4)), fun c o hc ec => b c o (fun z => ?_) ec⟩
      subst z
      rcases hc with hc | hc
      · rw [ha4] at hc; cases hc
      · exact nomatch hc
    · rintro G i d x σ' H' sG hi ⟨vs, y6, y7, y8, rfl, b, e, pl⟩ tx
      obtain ⟨hi2, rfl⟩ := rng_item hi
      cases tp_num tx
      refine ⟨_, gb_name, ?_⟩
      have s34 : Same H3 H' := fun c o ec => b c o (fun z => by rw [z, ha] at ec; cases ec) (sG _ _ (s4 _ _ ec))
      have lt4 := lt3.same s34
      have lz4 := lz3.same s34
      have llH : LL (rowsN ds n r0 (i + 1)) H' (.ref a) := ⟨a, vs, rfl, e, pl.pil⟩
      have last : ∀ {σ : L2.St} {H'' : Hp}, σ[5]? = some (some (.ref a)) → Same H' H'' → EvP (tOp (rIxL K) (tVar 5) (tUn (rU fun i => .int (-i)) (tC (.int 1)))) σ H'' (IL (rowL n (MF.NN ds n r0 i))) := by
        intro σ H'' hσ sx
        refine evp_ixNeg (C := C) (j := -1) (k := 0) (evp_ll hσ (llH.same sx)) (ev_un (g := fun i => -i) ev_int) rfl (by rw [rowsN_len]; omega) ?_
        rw [rowsN_len]
        exact rowsN_get (by omega)
      apply st_setP (Pr := IL (rowL n (MF.NN ds n r0 (i - 1))))
      · apply evp_if (b := decide (0 < (i : Int)))
        · apply et_test (C := C)
          apply ev_opB (g := fun i j => decide (j < i))
          · trivial
          · trivial
        · intro hb
          have hb : 0 < (i : Int) := of_decide_eq_true hb
          refine evp_ixNeg (C := C) (j := -2) (k := 1) (evp_ll rfl llH) (ev_un (g := fun i => -i) ev_int) rfl (by rw [rowsN_len]; omega) ?_
          rw [rowsN_len]
          rw [show i + 1 - 1 - 1 = i - 1 by omega]
          exact rowsN_get (by omega)
        · intro hb
          have hb : ¬ 0 < (i : Int) := of_decide_eq_false hb
          have : i = 0 := by omega
          subst this
          exact last rfl (Same.refl _)
      · intro va H5 s5 la
        have e5 := s5 _ _ e
        have n0 : vs.length = i + 1 := by have : vs.length = (rowsN ds n r0 (i + 1)).length := Paired.length pl; rw [this, rowsN_len]
        have evn : EvP (tCall sp_next_line [] E0 (tCons (tVar 3) (tCons (tVar 4) (tCons (tOp (rIxL K) (tVar 5) (tUn (rU fun i => .int (-i)) (tC (.int 1)))) (tCons (tVar 8) (tCons (tVar 7) tNil)))))) [some v, some (.int (r0 : Int)), some (.int (L : Int)), some vt, some vz, some (.ref a), y6, some (.int (i : Int)), some va] H5 (IL (rowL n (MF.NN ds n r0 (i + 1)))) := by
          have key := evp_call (pre := NL.Pre) (post := fun x H v => IL (rowL x.n (nextF x.n x.T x.S x.Lf x.Af x.len)) H v) (σ := [some v, some (.int (r0 : Int)), some (.int (L : Int)), some vt, some vz, some (.ref a), y6, some (.int (i : Int)), some va]) (H := H5) (as := tCons (tVar 3) (tCons (tVar 4) (tCons (tOp (rIxL K) (tVar 5) (tUn (rU fun i => .int (-i)) (tC (.int 1)))) (tCons (tVar 8) (tCons (tVar 7) tNil))))) ⟨n, MF.tab ds, MF.siz ds n, MF.NN ds n r0 i, MF.NN ds n r0 (i - 1), i⟩ (fun H6 s6 Q' q' => ⟨_, rfl, _, rfl, last rfl (Same.trans s5 s6) H6 (Same.refl _) _ fun vl H7 s7 ll => ⟨_, rfl, _, rfl, q' _ H7 s7 ⟨⟨vt, vz, vl, va, rfl, ((lt4.same s5).same s6).same s7, ((lz4.same s5).same s6).same s7, ll, (la.same s6).same s7⟩, hn12, fun u t => tab_bd hw u t, fun u => siz_bd hw hn12 u⟩⟩⟩)
          have er : rowL n (nextF n (MF.tab ds) (MF.siz ds n) (MF.NN ds n r0 i) (MF.NN ds n r0 (i - 1)) i) = rowL n (MF.NN ds n r0 (i + 1)) := by
            unfold rowL
            apply List.map_congr_left
            intro t _
            exact (NN_next ds n r0 i t).symm
          rw [← er]
          exact key
        refine ⟨_, rfl, .inl ⟨rfl, vs, .inl (.inl e5)⟩, ?_⟩
        refine evn H5 (Same.refl _) _ fun vn H6 s6 ln => ?_
        have e6 := s6 _ _ e5
        refine ⟨a, vs, vn, rfl, rfl, e6, small_lt (m := 100) (by omega) (by omega), ?_⟩
        have vna : vn ≠ .ref a := by
          intro z
          obtain ⟨r, er, hr⟩ := ln
          rw [z] at er
          cases er
          rw [e6] at hr
          have hv : vs = (rowL n (MF.NN ds n r0 (i + 1))).map V.int := by
            injection hr with hr
            injection hr
          have h0 : ∃ r', vs[0]? = some (V.ref r') := by
            obtain ⟨x, hx, rr, ex, _⟩ := pil_get pl.pil (rowsN_get (ds := ds) (n := n) (r0 := r0) (show 0 < i + 1 by omega))
            exact ⟨rr, by rw [hx, ex]⟩
          obtain ⟨r', h0⟩ := h0
          rw [hv, List.getElem?_map] at h0
          cases h9 : (rowL n (MF.NN ds n r0 (i + 1)))[0]? with
          | none => rw [h9] at h0; cases h0
          | some z => rw [h9] at h0; cases h0
        refine ⟨vs ++ [vn], _, _, _, rfl, but_set (But.trans b (Same.but (Same.trans s5 s6))), upd_same, ?_⟩
        have r1 : rowsN ds n r0 (i + 1 + 1) = rowsN ds n r0 (i + 1) ++ [rowL n (MF.NN ds n r0 (i + 1))] := by
          unfold rowsN
          rw [List.range_succ, List.map_append]
          rfl
        rw [r1]
        exact PL.but but_up (PL.snoc ⟨ln, vna⟩ (PL.but (Same.but (Same.trans s5 s6)) pl))
    · rintro G σ' H' sG ⟨vs, y6, y7, y8, rfl, b, e, pl⟩
      rw [List.length_map, List.length_range] at pl
      have sH : Same H H' := fun c o ec => b c o (fun z => by have := s03 _ _ ec; rw [z, ha] at this; cases this) (sG _ _ (s4 _ _ (s03 _ _ ec)))
      exact ⟨_, rfl, q _ H' sH ⟨a, vs, rfl, e, pl.pil⟩⟩
end
end K49

set_option Elab.async false
set_option linter.all false
set_option maxRecDepth 100000
set_option maxHeartbeats 4000000
/-! Feet to rooms; common divisors; factors. -/
namespace K49
open PySem PySem.Spec PyProof.Rows L2 Y
local macro_rules | `(tactic| trivial) => `(tactic| first
  | with_reducible exact ev_int
  | with_reducible exact ev_bl
  | with_reducible exact ev_non
  | with_reducible exact ea_nil
  | with_reducible exact et_yes
  | ((with_reducible apply ev_var); exact rfl; first | exact .num _ | exact .bl _ | exact .non | assumption)
  | ((with_reducible apply ea_cons); trivial; trivial)
  | ((with_reducible apply ev_tup); trivial; first | decide | (show _ ≤ sizeLine; simp; decide))
  | ((with_reducible apply ev_ix0); trivial; trivial; exact rfl)
  | ((with_reducible apply ev_ix1); trivial; trivial; exact rfl)
  | ((with_reducible apply ev_ix2); trivial; trivial; exact rfl)
  | ((with_reducible apply ev_ix3); trivial; trivial; exact rfl)
  | ((with_reducible apply ev_opI); trivial; trivial)
  | ((with_reducible apply ev_opB); trivial; trivial)
  | ((with_reducible apply ev_eqI); trivial; trivial)
  | ((with_reducible apply ev_neI); trivial; trivial)
  | ((with_reducible apply ev_un); trivial)
  | ((with_reducible apply ev_chain); trivial; trivial; trivial)
  | ((with_reducible apply ev_abs); trivial)
  | ((with_reducible apply ev_intI); trivial)
  | ((with_reducible apply ev_gcd); trivial; trivial)
  | ((with_reducible apply ev_lenT); trivial)
  | ((with_reducible apply et_test); trivial)
  | ((with_reducible apply et_B); trivial)
  | ((with_reducible apply et_not); trivial)
  | ((with_reducible apply et_and); trivial; (intro _; trivial))
  | ((with_reducible apply et_or); trivial; (intro _; trivial))
  | ((with_reducible apply ev_andV); trivial; (intro _; trivial))
  | ((with_reducible apply ev_orV); trivial; (intro _; trivial))
  | ((with_reducible apply ev_notV); trivial)
  | ((with_reducible apply ev_isN); trivial)
  | ((with_reducible apply ev_notN); trivial)
  | ((with_reducible apply ev_isiII); trivial)
  | ((with_reducible apply ev_isiIB); trivial)
  | ((with_reducible apply ev_isiTT); trivial)
  | ((with_reducible apply ev_isH); trivial))
section
variable {P : Program} {w : World} {K : PySem.W.Frag} {mg : Str → Option Value} {base : Heap} {C : Addr}
theorem sc_feet_to : FnScope ["house", "room", "length"] ["house", "room", "length"] (defScope s_feet_to) := ⟨rfl, rfl, rfl, by decide +kernel, rfl, by decide +kernel, by decide +kernel⟩
abbrev sp_feet_to (C : Addr) : Sp := fnSp C (fun i : Int × List Door × Nat × Nat => [.hs i.1 i.2.1, .num (i.2.2.1 : Int), .num (i.2.2.2 : Int)]) (fun i => HW i.1 i.2.1 ∧ (i.2.2.1 : Int) < i.1 ∧ i.2.2.2 ≤ 7) (fun i => .tup ((rowL i.1.toNat (MF.NN i.2.1 i.1.toNat i.2.2.1 i.2.2.2)).map D.num))
theorem ok_feet_to (F : Df K mg "feet_to" s_feet_to) (B : Bi K mg C) (h_need_house : Cl P w K mg base "need_house" 1 ["house"] (sp_need_house C)) (h_need_room : Cl P w K mg base "need_room" 3 ["house", "room"] (sp_need_room C)) (h_need_length : Cl P w K mg base "need_length" 3 ["length"] (sp_need_length C))
    (h_lines_of : Cl P w K mg base "lines_of" 3 ["house", "room", "length"] (sp_lines_of C)) : Cl P w K mg base "feet_to" 4 ["house", "room", "length"] (sp_feet_to C) := by
  refine F.cl sc_feet_to (fun _ _ _ _ _ _ us hl => match us, hl with | [_, _, _], _ => rfl) (fun vs H Q E h => ?_) (fun f cdv A outer s H vs Q E hr h => ?_)
  · obtain ⟨i, t, _⟩ := h; exact t.length
  · obtain ⟨⟨rooms, ds, r0, L⟩, t, hp, q⟩ := h
    obtain ⟨v, _, rfl, t1, t⟩ := tpa_cons t
    obtain ⟨_, _, rfl, t2, t⟩ := tpa_cons t
    obtain ⟨_, _, rfl, t3, t⟩ := tpa_cons t
    cases tpa_nil t; cases tp_num t2; cases tp_num t3
    obtain ⟨hw, hr0, hL⟩ := hp
    dsimp only at hw hr0 hL t1 q ⊢
    have r0' := hw.hk.r0
    refine ⟨_, (pss_cons (ps_expr (pe_cl h_need_house (hr.mono (by decide)) (by rfl) (pa_cons (pv 0) pa_nil)))
      (pss_cons (ps_expr (pe_cl h_need_room (hr.mono (by decide)) (by rfl) (pa_cons (pv 0) (pa_cons (pv 1) pa_nil))))
      (pss_cons (ps_expr (pe_cl h_need_length (hr.mono (by decide)) (by rfl) (pa_cons (pv 2) pa_nil)))
      (pss_one (ps_ret (pe_callTy call_tuple_of (by rfl) B.tuple (by decide +kernel) (pa_cons (pe_ix ix_list (pe_cl h_lines_of (hr.mono (by decide)) (by rfl) (pa_cons (pv 0) (pa_cons (pv 1) (pa_cons (pv 2) pa_nil)))) (pv 2) (fun _ _ => rfl)) pa_nil))))))), ?_⟩
    apply st_drop (C := C) (e := .non)
    · apply ev_fn (rooms, ds)
      · exact ea_cons (ev_var rfl t1) ea_nil
      · rfl
      · exact True.intro
    intro H1 s1
    have t1a := t1.same s1
    apply st_drop (C := C) (e := .non)
    · apply ev_fn (rooms, ds, (r0 : Int))
      · exact ea_cons (ev_var rfl t1a) (by trivial)
      · rfl
      · exact ⟨by show 0 ≤ (r0 : Int); omega, hr0⟩
    intro H2 s2
    have t1b := t1a.same s2
    apply st_drop (C := C) (e := .non)
    · apply ev_fn (L : Int)
      · trivial
      · rfl
      · show 0 ≤ (L : Int) ∧ (L : Int) ≤ 300
        omega
    intro H3 s3
    have t1c := t1b.same s3
    have s03 := Same.trans (Same.trans s1 s2) s3
    refine st_ret' (C := C) (d := .tup ((rowL rooms.toNat (MF.NN ds rooms.toNat r0 L)).map D.num)) ?_ rfl fun v H6 s6 t6 => q v H6 (Same.trans s03 s6) t6
    apply ev_tupIL
    refine evp_ixLL (C := C) (i := L) (rows := rowsN ds rooms.toNat r0 (L + 1)) ?_ (ev_var rfl (.num _)) (rowsN_get (by omega))
    exact evp_call (pre := LO.Pre C) (post := fun x H v => LL (rowsN x.ds x.n x.r0 (x.L + 1)) H v) ⟨rooms, ds, rooms.toNat, r0, L⟩ (fun H6 s6 Q' q' => ⟨_, rfl, _, rfl, _, rfl, q' _ H6 (Same.refl _) ⟨.cons (t1c.same s6) (.cons (.num _) (.cons (.num _) .nil)), hw, by show rooms = (rooms.toNat : Int); omega, by show r0 < rooms.toNat; omega, hL⟩⟩)
theorem sc_feet_many : FnScope ["house", "room", "length"] ["house", "room", "length"] (defScope s_feet_many) := ⟨rfl, rfl, rfl, by decide +kernel, rfl, by decide +kernel, by decide +kernel⟩
abbrev sp_feet_many (C : Addr) : Sp := fnSp C (fun i : Int × List Door × Nat × Nat => [.hs i.1 i.2.1, .num (i.2.2.1 : Int), .num (i.2.2.2 : Int)]) (fun i => HW i.1 i.2.1 ∧ (i.2.2.1 : Int) < i.1 ∧ i.2.2.2 ≤ 7) (fun i => .num (MF.still i.2.1 (i.2.2.1 : Int) 0 i.2.2.2))
theorem ok_feet_many (F : Df K mg "feet_many" s_feet_many) (B : Bi K mg C) (h_feet_to : Cl P w K mg base "feet_to" 4 ["house", "room", "length"] (sp_feet_to C)) : Cl P w K mg base "feet_many" 5 ["house", "room", "length"] (sp_feet_many C) := by
  refine F.cl sc_feet_many (fun _ _ _ _ _ _ us hl => match us, hl with | [_, _, _], _ => rfl) (fun vs H Q E h => ?_) (fun f cdv A outer s H vs Q E hr h => ?_)
  · obtain ⟨i, t, _⟩ := h; exact t.length
  · obtain ⟨⟨rooms, ds, r0, L⟩, t, hp, q⟩ := h
    obtain ⟨v, _, rfl, t1, t⟩ := tpa_cons t
    obtain ⟨_, _, rfl, t2, t⟩ := tpa_cons t
    obtain ⟨_, _, rfl, t3, t⟩ := tpa_cons t
    cases tpa_nil t; cases tp_num t2; cases tp_num t3
    obtain ⟨hw, hr0, hL⟩ := hp
    dsimp only at hw hr0 hL t1 q ⊢
    have r0' := hw.hk.r0
    refine ⟨_, (pss_one (ps_ret (pe_callB (cr_sumT rfl) (by rfl) B.sum (by decide +kernel) (pa_cons (pe_cl h_feet_to (hr.mono (by decide)) (by rfl) (pa_cons (pv 0) (pa_cons (pv 1) (pa_cons (pv 2) pa_nil)))) pa_nil)))), ?_⟩
    have e : (rowL rooms.toNat (MF.NN ds rooms.toNat r0 L)).sum = MF.still ds (r0 : Int) 0 L := MF.NN_sum hw.ok (by omega) (by omega) L
    refine st_ret' (C := C) (d := .num (rowL rooms.toNat (MF.NN ds rooms.toNat r0 L)).sum) ?_ (by rw [e]) q
    apply ev_sumT
    apply ev_fn (rooms, ds, r0, L)
    · exact ea_cons (ev_var rfl t1) (by trivial)
    · rfl
    · exact ⟨hw, hr0, hL⟩
theorem sc__law_common : FnScope ["one", "other", "first", "second"] ["one", "other"] (defScope s__law_common) := ⟨rfl, rfl, rfl, by decide +kernel, rfl, by decide +kernel, by decide +kernel⟩
abbrev sp__law_common (C : Addr) : Sp := fnSp C (fun i : Int × Int => [.num i.1, .num i.2]) (fun _ => True) (fun i => .num (MF.gcdI i.1 i.2))
theorem ok__law_common (F : Df K mg "_law_common" s__law_common) (B : Bi K mg C) : Cl P w K mg base "_law_common" 1 ["one", "other"] (sp__law_common C) := by
  refine F.cl sc__law_common (fun _ _ _ _ _ _ us hl => match us, hl with | [_, _], _ => rfl) (fun vs H Q E h => ?_) (fun f cdv A outer s H vs Q E hr h => ?_)
  · obtain ⟨i, t, _⟩ := h; exact t.length
  · obtain ⟨⟨x, y⟩, t, _, q⟩ := h
    obtain ⟨_, _, rfl, t1, t⟩ := tpa_cons t
    obtain ⟨_, _, rfl, t2, t⟩ := tpa_cons t
    cases tpa_nil t; cases tp_num t1; cases tp_num t2
    refine ⟨_, (pss_cons (ps_par (i := 2) (j := 3) (by rfl) sc__law_common.nd rfl rfl (by decide) rfl rfl (pa_cons (pe_callB call_abs (by rfl) B.abs (by decide +kernel) (pa_cons (pv 0) pa_nil)) (pa_cons (pe_callB call_abs (by rfl) B.abs (by decide +kernel) (pa_cons (pv 1) pa_nil)) pa_nil)) (by rfl))
      (pss_cons (ps_while PassesOwn.never (pt_cmpR op_ne (pv 3) pe_int (nomark _)) (pss_one (ps_par (i := 2) (j := 3) (by rfl) sc__law_common.nd rfl rfl (by decide) rfl rfl (pa_cons (pv 3) (pa_cons (pe_op op_modN (pe_callTy call_int1 (by rfl) B.int (by decide +kernel) (pa_cons (pv 2) pa_nil)) (pv 3)) pa_nil)) (by rfl))))
      (pss_one (ps_ret (pv 2))))), ?_⟩
    refine ⟨_, rfl, x, rfl, _, rfl, y, rfl, _, _, rfl, ?_⟩
    refine ⟨fun m σ' H' => ∃ a b : Nat, σ' = [some (.int x), some (.int y), some (.int (a : Int)), some (.int (b : Int))] ∧ Same H H' ∧ Nat.gcd a b = Nat.gcd x.natAbs y.natAbs ∧ m = b, ⟨_, x.natAbs, y.natAbs, ?_, Same.refl _, rfl, rfl⟩, ?_⟩
    · rw [aux_if, aux_if]; rfl
    · rintro m σ' H' ⟨a, b, rfl, s, hg, hm⟩
      have tst : EvT (tTest (tOp rNe (tVar 3) (tC (.int 0)))) [some (.int x), some (.int y), some (.int (a : Int)), some (.int (b : Int))] H' (!decide ((b : Int) = 0)) := by
        apply et_test (C := C)
        trivial
      refine tst H' (Same.refl _) _ fun H2 s2 => ?_
      by_cases hb : (b : Int) = 0
      · rw [decide_eq_true hb]
        have : b = 0 := by omega
        subst this
        rw [Nat.gcd_zero_right] at hg
        refine iteF ⟨_, rfl, q _ H2 (Same.trans s s2) ?_⟩
        rw [hg]
        exact .num _
      · rw [decide_eq_false hb]
        refine iteT ⟨fun σ' H' => σ' = [some (.int x), some (.int y), some (.int (b : Int)), some (.int ((a % b : Nat) : Int))] ∧ Same H H', ?_, ?_⟩
        · rintro σ' H' ⟨rfl, s'⟩
          refine ⟨a % b, by rw [hm]; exact Nat.mod_lt _ (by omega), b, a % b, rfl, s', ?_, rfl⟩
          rw [← hg, Nat.gcd_comm a b, Nat.gcd_rec b a, Nat.gcd_comm]
        · have ev : EvD C (tOp (rI (fun _ j => j ≠ 0) fun i j => .int (Int.fmod i j)) (tCB (fun xs H Q => (∃ i, xs = [.int i] ∧ Q (.int i) H) ∨ ∃ k, xs = [.bl k] ∧ Q (.int (if k then 1 else 0)) H) (tCons (tVar 2) tNil)) (tVar 3)) [some (.int x), some (.int y), some (.int (a : Int)), some (.int (b : Int))] H2 (.num ((a : Int).fmod b)) := ev_fmod (ev_intI (by trivial)) (by trivial) hb
          refine ⟨_, rfl, ev H2 (Same.refl _) _ fun v3 H3 s3 t3 => ?_⟩
          cases tp_num t3
          refine ⟨_, _, rfl, ?_, Same.trans (Same.trans s s2) s3⟩
          rw [Int.fmod_eq_emod_of_nonneg _ (by omega)]
          rfl
theorem sc__law_su_factors : FnScope ["number", "item"] ["number"] (defScope s__law_su_factors) := ⟨rfl, rfl, rfl, by decide +kernel, rfl, by decide +kernel, by decide +kernel⟩
abbrev sp__law_su_factors (C : Addr) : Sp := fnSpL C (fun i : Nat => [.num (i : Int)]) (fun i => i ≤ 1000) (fun i => ((List.range i).filter fun k : Nat => decide ((1 + k) ∣ i)).map fun k : Nat => .num (1 + (k : Int)))
theorem ok__law_su_factors (F : Df K mg "_law_su_factors" s__law_su_factors) (B : Bi K mg C) : Cl P w K mg base "_law_su_factors" 1 ["number"] (sp__law_su_factors C) := by
  refine F.cl sc__law_su_factors (fun _ _ _ _ _ _ us hl => match us, hl with | [_], _ => rfl) (fun vs H Q E h => ?_) (fun f cdv A outer s H vs Q E hr h => ?_)
  · obtain ⟨i, t, _⟩ := h; exact t.length
  · obtain ⟨n, t, hp, q⟩ := h
    obtain ⟨_, _, rfl, t1, t⟩ := tpa_cons t
    cases tpa_nil t; cases tp_num t1
    have hp : n ≤ 1000 := hp
    refine ⟨_, (pss_one (ps_ret (pe_lc (own := [("item", 1)])   rfl sc__law_su_factors.nd (pi_range2 (by rfl) B.range (pa_cons pe_int (pa_cons (pe_op op_add (pv 0) pe_int) pa_nil))) (blkOk_by (own := [("item", 1)]) (N := ["number", "item"]) (sc := defScope s__law_su_factors) (by decide +kernel)) (fun _ _ _ _ _ => (pg_name (i := 1) sc__law_su_factors.nd rfl (by first | exact Or.inl rfl | exact Or.inr rfl))) (fun _ _ _ _ _ => (pts_one (pt_cmpR op_eq (pe_op op_modN (pe_callTy call_int1 (by rfl) B.int (by decide +kernel) (pa_cons (pv 0) pa_nil)) (pv 1)) pe_int (nomark _)))) (fun _ _ _ _ _ => (pv 1))))), ?_⟩
    have e : ((List.range ((n : Int) + 1 - 1).toNat).map fun k => D.num (1 + ((k : Nat) : Int))).filterMap (fun d => match d with | .num i => if ((n : Int).fmod i = 0) then some (.num i) else none | _ => none) = ((List.range n).filter fun k : Nat => decide ((1 + k) ∣ n)).map fun k : Nat => D.num (1 + (k : Int)) := by
      rw [show ((n : Int) + 1 - 1).toNat = n by omega, List.filterMap_map]
      generalize List.range n = l
      induction l with
      | nil => rfl
      | cons k l ih =>
        rw [List.filterMap_cons, List.filter_cons, ih]
        have h1 : ((n : Int).fmod (1 + (k : Int)) = 0) ↔ (1 + k) ∣ n := by
          rw [← Int.dvd_iff_fmod_eq_zero]
          rw [show (1 + (k : Int)) = ((1 + k : Nat) : Int) by omega]
          exact Int.ofNat_dvd
        by_cases h : (1 + k) ∣ n
        · simp only [Function.comp, if_pos (h1.mpr h), decide_eq_true h, if_true, List.map_cons]
        · simp only [Function.comp, if_neg (fun z => h (h1.mp z)), decide_eq_false h]
          rfl
    refine st_retL' (C := C) (d := ((List.range ((n : Int) + 1 - 1).toNat).map fun k => D.num (1 + ((k : Nat) : Int))).filterMap (fun d => match d with | .num i => if ((n : Int).fmod i = 0) then some (.num i) else none | _ => none)) ?_ e q
    refine evl_lc (C := C) (h := ei_rng2 (C := C) (i := 1) (j := (n : Int) + 1) ?_ (by omega) (by omega) (by omega) (by omega)) (keep := _) ?_ ?_
    · trivial
    · intro d x H2 hd s2 tx
      obtain ⟨k, hk, rfl⟩ := List.mem_map.mp hd
      cases tp_num tx
      refine ⟨_, gb_name, rfl, ?_, fun z hz => ?_⟩
      · have e9 : ((match D.num (1 + ((k : Nat) : Int)) with | .num i => if ((n : Int).fmod i = 0) then some (D.num i) else none | _ => none)).isSome = decide ((n : Int).fmod (1 + (k : Int)) = 0) := by
          dsimp only
          by_cases h : (n : Int).fmod (1 + (k : Int)) = 0
          · rw [if_pos h, decide_eq_true h]; rfl
          · rw [if_neg h, decide_eq_false h]; rfl
        rw [e9]
        apply et_test (C := C)
        apply ev_eqI
        · exact ev_fmod (ev_intI (by trivial)) (by trivial) (by omega)
        · trivial
      · dsimp only at hz
        split at hz
        · cases hz
          trivial
        · cases hz
    · rw [List.length_map, List.length_range]; exact small_len (m := 1000) (by omega) (by omega)
end
end K49

set_option Elab.async false
set_option linter.all false
set_option maxRecDepth 100000
set_option maxHeartbeats 4000000
/-! The state of the draws. -/
namespace K49
open PySem PySem.Spec PyProof.Rows L2 Y
local macro_rules | `(tactic| trivial) => `(tactic| first
  | with_reducible exact ev_int
  | with_reducible exact ev_bl
  | with_reducible exact ev_non
  | with_reducible exact ea_nil
  | with_reducible exact et_yes
  | ((with_reducible apply ev_var); exact rfl; first | exact .num _ | exact .bl _ | exact .non | assumption)
  | ((with_reducible apply ea_cons); trivial; trivial)
  | ((with_reducible apply ev_tup); trivial; first | decide | (show _ ≤ sizeLine; simp; decide))
  | ((with_reducible apply ev_ix0); trivial; trivial; exact rfl)
  | ((with_reducible apply ev_ix1); trivial; trivial; exact rfl)
  | ((with_reducible apply ev_ix2); trivial; trivial; exact rfl)
  | ((with_reducible apply ev_ix3); trivial; trivial; exact rfl)
  | ((with_reducible apply ev_opI); trivial; trivial)
  | ((with_reducible apply ev_opB); trivial; trivial)
  | ((with_reducible apply ev_eqI); trivial; trivial)
  | ((with_reducible apply ev_neI); trivial; trivial)
  | ((with_reducible apply ev_un); trivial)
  | ((with_reducible apply ev_chain); trivial; trivial; trivial)
  | ((with_reducible apply ev_abs); trivial)
  | ((with_reducible apply ev_intI); trivial)
  | ((with_reducible apply ev_gcd); trivial; trivial)
  | ((with_reducible apply ev_lenT); trivial)
  | ((with_reducible apply et_test); trivial)
  | ((with_reducible apply et_B); trivial)
  | ((with_reducible apply et_not); trivial)
  | ((with_reducible apply et_and); trivial; (intro _; trivial))
  | ((with_reducible apply et_or); trivial; (intro _; trivial))
  | ((with_reducible apply ev_andV); trivial; (intro _; trivial))
  | ((with_reducible apply ev_orV); trivial; (intro _; trivial))
  | ((with_reducible apply ev_notV); trivial)
  | ((with_reducible apply ev_isN); trivial)
  | ((with_reducible apply ev_notN); trivial)
  | ((with_reducible apply ev_isiII); trivial)
  | ((with_reducible apply ev_isiIB); trivial)
  | ((with_reducible apply ev_isiTT); trivial)
  | ((with_reducible apply ev_isH); trivial))
def stK (g c : Addr) (l t : Int) : List (Key × V) := [(.inr "great", .ref g), (.inr "cells", .ref c), (.inr "left", .int l), (.inr "turn", .int t)]
theorem sne1 : ¬ (("great" : Str) = "cells") := by decide +kernel
theorem sne2 : ¬ (("great" : Str) = "left") := by decide +kernel
theorem sne3 : ¬ (("great" : Str) = "turn") := by decide +kernel
theorem sne4 : ¬ (("cells" : Str) = "left") := by decide +kernel
theorem sne5 : ¬ (("cells" : Str) = "turn") := by decide +kernel
theorem sne6 : ¬ (("left" : Str) = "turn") := by decide +kernel
theorem sne7 : ¬ (("turn" : Str) = "left") := by decide +kernel
section
variable {g c : Addr} {l t l' t' : Int}
theorem stk_great : valV (stK g c l t) (.inr "great" : Key) = some (.ref g) := by simp [valV, stK]
theorem stk_cells : valV (stK g c l t) (.inr "cells" : Key) = some (.ref c) := by simp [valV, stK, sne1]
theorem stk_left : valV (stK g c l t) (.inr "left" : Key) = some (.int l) := by simp [valV, stK, sne2, sne4]
theorem stk_turn : valV (stK g c l t) (.inr "turn" : Key) = some (.int t) := by simp [valV, stK, sne3, sne5, sne6]
theorem stk_pleft : putK (stK g c l t) (.inr "left" : Key) (.int l') = stK g c l' t := by simp [putK, stK, sne2, sne4, sne7]
theorem stk_pturn : putK (stK g c l t) (.inr "turn" : Key) (.int t') = stK g c l t' := by simp [putK, stK, sne3, sne5, sne6]
end
/-- the state stands at p, its lists at g and c; n draws more may be made -/
def SA (H : Hp) (p g c : Addr) (n : Nat) : Prop := ∃ (gs cs : List Int) (l t : Int), H p = some (.dK (stK g c l t)) ∧ H g = some (.lst (gs.map V.int)) ∧ H c = some (.lst (cs.map V.int)) ∧ p ≠ g ∧ p ≠ c ∧ g ≠ c ∧ 0 ≤ t ∧ t + n ≤ 1000000000
theorem SA.mono {H : Hp} {p g c : Addr} {n m : Nat} (h : SA H p g c n) (e : m ≤ n) : SA H p g c m := by
  obtain ⟨gs, cs, l, t, a, b, d, x, y, z, t0, t1⟩ := h
  exact ⟨gs, cs, l, t, a, b, d, x, y, z, t0, by omega⟩
theorem SA.same {H H' : Hp} {p g c : Addr} {n : Nat} (h : SA H p g c n) (s : Same H H') : SA H' p g c n := by
  obtain ⟨gs, cs, l, t, a, b, d, r⟩ := h
  exact ⟨gs, cs, l, t, s _ _ a, s _ _ b, s _ _ d, r⟩
theorem SA.np {H : Hp} {p g c : Addr} {n : Nat} (h : SA H p g c n) : ∀ o, H p = some o → ¬ Imm o := let ⟨_, _, _, _, a, _⟩ := h; notImm_dK a
theorem SA.ng {H : Hp} {p g c : Addr} {n : Nat} (h : SA H p g c n) : ∀ o, H g = some o → ¬ Imm o := let ⟨_, _, _, _, _, b, _⟩ := h; notImm_lst b
theorem SA.sp {H : Hp} {p g c : Addr} {n : Nat} (h : SA H p g c n) : H p ≠ none := let ⟨_, _, _, _, a, _⟩ := h; by rw [a]; simp
theorem SA.sg {H : Hp} {p g c : Addr} {n : Nat} (h : SA H p g c n) : H g ≠ none := let ⟨_, _, _, _, _, b, _⟩ := h; by rw [b]; simp
theorem SA.sc {H : Hp} {p g c : Addr} {n : Nat} (h : SA H p g c n) : H c ≠ none := let ⟨_, _, _, _, _, _, b, _⟩ := h; by rw [b]; simp
theorem SA.stay {H H' : Hp} {p g c : Addr} {n : Nat} (h : SA H p g c n) (b : But2 p g H H') : Stay H H' := b.stay h.np h.ng
section
variable {C : Addr} {K : PySem.W.Frag} {te : TE} {σ : L2.St} {H H' : Hp} {p : Addr} {i : Nat} {kvs : List (Key × V)} {key : Str} {v : V}
theorem evv_dget (hp : σ[i]? = some (some (.ref p))) (h : H p = some (.dK kvs)) (e : valV kvs (.inr key : Key) = some v) : EvV (tDGet (tVar i) (tC (.str key))) σ H v := fun H1 s Q q =>
  ⟨_, hp, p, v, rfl, .inl ⟨kvs, .inr key, .inl (s _ _ h), rfl, e.symm⟩, q H1 (Same.refl _)⟩
theorem ev_dget {n : Int} (hp : σ[i]? = some (some (.ref p))) (h : H p = some (.dK kvs)) (e : valV kvs (.inr key : Key) = some (.int n)) : EvD C (tDGet (tVar i) (tC (.str key))) σ H (.num n) := fun H1 s Q q =>
  evv_dget hp h e H1 s Q fun H2 s2 => q _ H2 s2 (.num n)
/-- a list of numbers that the head may have frozen -/
theorem ei_sq {a : Addr} {ns : List Int} (h : EvV te σ H (.ref a)) (sq : SqL K H a (ns.map V.int)) : EvI C (iList K te) σ H (ns.map D.num) [a] := fun H1 s R q => h H1 s _ fun H2 s2 => by
  have keep : ∀ {G : Hp}, (∀ b ∈ [a], ∀ o, H2 b = some o → G b = some o) → SqL K G a (ns.map V.int) := by
    intro G fr
    rcases sq with (sq | ⟨o, sq⟩) | sq
    · exact .inl (.inl (fr a (by simp) _ (s2 _ _ (s _ _ sq))))
    · exact .inl (.inr ⟨o, fr a (by simp) _ (s2 _ _ (s _ _ sq))⟩)
    · exact .inr sq
  refine ⟨a, rfl, ⟨_, keep (G := H2) fun _ _ _ e => e⟩, q _ H2 [a] s2 (fun b hb => .inr hb) ⟨fun i G st fr hi => ?_, fun G st fr => ?_, fun i x G G' st fr hi hy => ?_⟩⟩
  · rw [List.length_map] at hi
    exact ⟨_, .int (ns[i]), keep fr, by rw [List.getElem?_map, List.getElem?_eq_getElem hi]; rfl⟩
  · exact ⟨_, keep fr, by simp⟩
  · obtain ⟨rfl, hy⟩ := hy
    rw [List.length_map] at hi
    have := hy _ (keep fr)
    rw [List.getElem?_map, List.getElem?_eq_getElem hi] at this
    cases this
    exact ⟨rfl, .num ns[i], by rw [List.getElem?_map, List.getElem?_eq_getElem hi]; rfl, .num _⟩
end
section
variable {P : Program} {w : World} {K : PySem.W.Frag} {mg : Str → Option Value} {base : Heap} {C : Addr}
theorem sc__law_begun : FnScope ["script", "great", "cell"] ["script"] (defScope s__law_begun) := ⟨rfl, rfl, rfl, by decide +kernel, rfl, by decide +kernel, by decide +kernel⟩
abbrev sp__law_begun (K : PySem.W.Frag) : Sp := fun vs H Q _ => ∃ (a : Addr) (ns : List Int), vs = [.ref a] ∧ SqL K H a (ns.map V.int) ∧ ns.length ≤ 1000 ∧ ∀ p g c H', Same H H' → H p = none → H g = none → SA H' p g c 1000000000 → Q (.ref p) H'
theorem ok__law_begun (F : Df K mg "_law_begun" s__law_begun) (B : Bi K mg C) : Cl P w K mg base "_law_begun" 1 ["script"] (sp__law_begun K) := by
  refine F.cl sc__law_begun (fun _ _ _ _ _ _ us hl => match us, hl with | [_], _ => rfl) (fun vs H Q E h => ?_) (fun f cdv A outer s H vs Q E hr h => ?_)
  · obtain ⟨a, ns, rfl, _⟩ := h; rfl
  · obtain ⟨a, ns, rfl, sq, hl, q⟩ := h
    refine ⟨_, (pss_cons (ps_setLc (i := 1) (own := [("cell", 2)])   rfl sc__law_begun.nd rfl rfl (sw_true rfl rfl rfl (by decide +kernel)) (pi_list (pv 0)) (blkOk_by (own := [("cell", 2)]) (N := ["script", "great", "cell"]) (sc := defScope s__law_begun) (by decide +kernel)) (fun _ _ _ _ _ => (pg_name (i := 2) sc__law_begun.nd rfl (by first | exact Or.inl rfl | exact Or.inr rfl))) (fun _ _ _ _ _ => (pts_one (pt_cmpR op_ge (pe_callB call_abs (by rfl) B.abs (by decide +kernel) (pa_cons (pv 2) pa_nil)) (pe_op op_pow pe_int pe_int) (nomark _)))) (fun _ _ _ _ _ => (pe_op op_sub (pe_callB call_abs (by rfl) B.abs (by decide +kernel) (pa_cons (pv 2) pa_nil)) (pe_op op_pow pe_int pe_int))))
      (pss_one (ps_ret (pe_disp (pps_cons pe_str (pv 1) (pps_cons pe_str (pe_lc (own := [("cell", 2)]) (tt := tYes)  rfl sc__law_begun.nd (pi_list (pv 0)) (blkOk_by (own := [("cell", 2)]) (N := ["script", "great", "cell"]) (sc := defScope s__law_begun) (by decide +kernel)) (fun _ _ _ _ _ => (pg_name (i := 2) sc__law_begun.nd rfl (by first | exact Or.inl rfl | exact Or.inr rfl))) (fun _ _ _ _ _ => pts_nil) (fun _ _ _ _ _ => (pe_callB call_abs (by rfl) B.abs (by decide +kernel) (pa_cons (pv 2) pa_nil)))) (pps_cons pe_str pe_int (pps_cons pe_str pe_int pps_nil)))) (by rfl) (by rfl) (fun z => by cases z) (by decide))))), ?_⟩
    have e1 : (ns.map D.num).filterMap (fun d => match d with | .num i => if (10 ^ 18 : Int) ≤ MF.aux i then some (.num (MF.aux i - 10 ^ 18)) else none | _ => none) = ((ns.filter fun i => decide ((10 ^ 18 : Int) ≤ MF.aux i)).map fun i => MF.aux i - 10 ^ 18).map D.num := by
      clear hl sq q
      induction ns with
      | nil => rfl
      | cons k l ih =>
        rw [List.map_cons, List.filterMap_cons, List.filter_cons, ih]
        by_cases h : (10 ^ 18 : Int) ≤ MF.aux k
        · simp only [if_pos h, decide_eq_true h, if_true, List.map_cons]
        · simp only [if_neg h, decide_eq_false h]
          rfl
    have e2 : (ns.map D.num).filterMap (fun d => match d with | .num i => some (.num (MF.aux i)) | _ => none) = (ns.map MF.aux).map D.num := by
      clear hl sq q e1
      induction ns with
      | nil => rfl
      | cons k l ih => rw [List.map_cons, List.filterMap_cons, ih]; rfl
    have sqs : ∀ {H' : Hp}, Same H H' → SqL K H' a (ns.map V.int) := by
      intro H' s
      rcases sq with (sq | ⟨o, sq⟩) | sq
      · exact .inl (.inl (s _ _ sq))
      · exact .inl (.inr ⟨o, s _ _ sq⟩)
      · exact .inr sq
    refine st_setL (C := C) (ds := (ns.map D.num).filterMap (fun d => match d with | .num i => if (10 ^ 18 : Int) ≤ MF.aux i then some (.num (MF.aux i - 10 ^ 18)) else none | _ => none)) ?_ ?_
    · refine evl_lc (C := C) (h := ei_sq (C := C) (evv_var rfl) sq) (keep := _) ?_ ?_
      · intro d x H2 hd s2 tx
        obtain ⟨k, hk, rfl⟩ := List.mem_map.mp hd
        cases tp_num tx
        refine ⟨_, gb_name, rfl, ?_, fun z hz => ?_⟩
        · have e9 : ((match D.num k with | .num i => if (10 ^ 18 : Int) ≤ MF.aux i then some (D.num (MF.aux i - 10 ^ 18)) else none | _ => none)).isSome = decide ((10 ^ 18 : Int) ≤ MF.aux k) := by
            dsimp only
            by_cases h : (10 ^ 18 : Int) ≤ MF.aux k
            · rw [if_pos h, decide_eq_true h]; rfl
            · rw [if_neg h, decide_eq_false h]; rfl
          rw [e9, ← aux_if]
          apply et_test (C := C)
          apply ev_opB (g := fun i j => decide (j ≤ i))
          · trivial
          · exact ev_opIC (g := fun i j => i ^ j.toNat) (i := 10) (j := 18) (by trivial) (by trivial) ⟨by decide, by decide, by decide⟩
        · dsimp only at hz
          split at hz
          · cases hz
            rw [← aux_if]
            apply ev_opI (g := fun i j => i - j)
            · trivial
            · exact ev_opIC (g := fun i j => i ^ j.toNat) (i := 10) (j := 18) (by trivial) (by trivial) ⟨by decide, by decide, by decide⟩
          · cases hz
      · rw [List.length_map]; exact small_len hl (by omega)
    intro g xs H1 s1 hg h1 r1
    rw [e1] at r1
    intro p hp
    have s2 : Same H1 (upd H1 p (.dK [])) := Same.new hp
    refine ⟨_, rfl, ?_⟩
    have ev2 := evl_lc (C := C) (σ := [some (.ref a), some (.ref g), none]) (H := upd H1 p (.dK [])) (g := gName 2) (tt := tYes) (te := tCB (fun xs H Q => ∃ i, xs = [.int i] ∧ Q (.int (if i < 0 then -i else i)) H) (tCons (tVar 2) tNil)) (vs := [2]) (h := ei_sq (C := C) (K := K) (te := tVar 0) (ns := ns) (evv_var rfl) (sqs (Same.trans s1 s2))) (keep := fun d => match d with | .num i => some (.num (MF.aux i)) | _ => none) (fun d x H2 hd s2 tx => by
        obtain ⟨k, hk, rfl⟩ := List.mem_map.mp hd
        cases tp_num tx
        refine ⟨_, gb_name, rfl, et_yes, fun z hz => ?_⟩
        have hz : D.num (MF.aux k) = z := by simpa using hz
        subst hz
        rw [← aux_if]
        trivial) (by rw [List.length_map]; exact small_len hl (by omega))
    rw [e2] at ev2
    dsimp only [tPairs, tC]
    refine ev2 _ (Same.refl _) _ fun c cs H3 s3 hc h3 r3 => ?_
    have e3 : H3 p = some (.dK []) := s3 _ _ upd_same
    refine ⟨e3, stK g c 0 0, rfl, (show 4 ≤ 15 by decide), ?_⟩
    have em : mergeK [] (stK g c 0 0) = stK g c 0 0 := by
      simp [mergeK, stK, putK, sne1, sne2, sne3, sne4, sne5, sne6]
    rw [em]
    have h13 : Same H1 H3 := Same.trans s2 s3
    have pg : p ≠ g := fun z => by rw [z, h1] at hp; cases hp
    have pc : p ≠ c := fun z => by rw [← z, upd_same] at hc; cases hc
    have gc : g ≠ c := fun z => by rw [← z, upd_ne (Ne.symm pg), h1] at hc; cases hc
    refine q p g c _ (Same.put (Same.trans s1 h13) (s1.free hp)) (s1.free hp) hg ⟨(ns.filter fun i => decide ((10 ^ 18 : Int) ≤ MF.aux i)).map fun i => MF.aux i - 10 ^ 18, ns.map MF.aux, 0, 0, upd_same, ?_, ?_, pg, pc, gc, Int.le_refl _, by decide⟩
    · rw [upd_ne (Ne.symm pg), h13 _ _ h1, nums_of r1]
    · rw [upd_ne (Ne.symm pc), h3, nums_of r3]
theorem sc__law_blended : FnScope ["state", "turn", "found", "prime", "blend", "cell"] ["state"] (defScope s__law_blended) := ⟨rfl, rfl, rfl, by decide +kernel, rfl, by decide +kernel, by decide +kernel⟩
abbrev sp__law_blended : Sp := fun vs H Q _ => ∃ p g c n, vs = [.ref p] ∧ SA H p g c (n + 1) ∧ ∀ i H', But2 p g H H' → SA H' p g c n → Q (.int i) H'
theorem ok__law_blended (F : Df K mg "_law_blended" s__law_blended) (B : Bi K mg C) : Cl P w K mg base "_law_blended" 1 ["state"] sp__law_blended := by
  refine F.cl sc__law_blended (fun _ _ _ _ _ _ us hl => match us, hl with | [_], _ => rfl) (fun vs H Q E h => ?_) (fun f cdv A outer s H vs Q E hr h => ?_)
  · obtain ⟨p, g, c, n, rfl, _⟩ := h; rfl
  · obtain ⟨p, g, c, n, rfl, sa, q⟩ := h
    refine ⟨_, (pss_cons (ps_par (i := 1) (j := 2) (by rfl) sc__law_blended.nd rfl rfl (by decide) rfl rfl (pa_cons (pe_op op_add (pe_dget (hu_of hr) (pv 0) pe_str (fun _ _ => rfl)) pe_int) (pa_cons pe_int pa_nil)) (by rfl))
      (pss_cons (ps_dput (hu_of hr) (pv 0) pe_str (pv 1) rfl)
      (pss_cons (ps_for PassesOwn.never rfl (pi_list (pe_lst (pa_cons pe_int (pa_cons pe_int (pa_cons pe_int pa_nil))))) (pg_name (i := 3) sc__law_blended.nd rfl (by first | exact Or.inl rfl | exact Or.inr rfl)) (pss_cons (ps_set (i := 4) sc__law_blended.nd rfl (by first | exact Or.inl rfl | exact Or.inr rfl) (pe_op op_add (pe_op op_mul pe_int (pv 1)) (pe_op op_fdivN (pv 3) pe_int)))
      (pss_cons (ps_for PassesOwn.never rfl (pi_list (pe_dget (hu_of hr) (pv 0) pe_str (fun _ _ => rfl))) (pg_name (i := 5) sc__law_blended.nd rfl (by first | exact Or.inl rfl | exact Or.inr rfl)) (pss_one (ps_set (i := 4) sc__law_blended.nd rfl (by first | exact Or.inl rfl | exact Or.inr rfl) (pe_op op_modN (pe_callTy call_int1 (by rfl) B.int (by decide +kernel) (pa_cons (pe_op op_add (pe_op op_add (pe_op op_mul (pv 4) pe_int) (pv 5)) (pv 1)) pa_nil)) (pv 3)))))
      (pss_one (ps_set (i := 2) sc__law_blended.nd rfl (by first | exact Or.inl rfl | exact Or.inr rfl) (pe_op op_add (pe_op op_mul (pv 2) pe_int) (pe_op op_modN (pe_callTy call_int1 (by rfl) B.int (by decide +kernel) (pa_cons (pe_op op_pow (pv 4) pe_int) pa_nil)) (pv 3))))))))
      (pss_one (ps_ret (pv 2)))))), ?_⟩
    obtain ⟨gs, cs, l, t, hp, hg, hc, pg, pc, gc, t0, t1⟩ := sa
    refine st_par2 ?_
    have ev : EvD C (tOp (rI0 fun i j => .int (i + j)) (tDGet (tVar 0) (tC (.str "turn"))) (tC (.int 1))) [some (.ref p), none, none, none, none, none] H (.num (t + 1)) := ev_opI (g := fun i j => i + j) (ev_dget rfl hp stk_turn) ev_int
    refine ev H (Same.refl _) _ fun v1 H1 s1 t1' => ?_
    cases tp_num t1'
    refine ⟨_, _, rfl, ?_⟩
    refine ⟨_, rfl, _, rfl, p, _, rfl, DPut.k (k := .inr "turn") (s1 _ _ hp) (small_lt (m := 100) (show 4 < 100 by decide) (by omega)), ?_⟩
    rw [stk_pturn]
    have b2 : But2 p g H (upd H1 p (.dK (stK g c l (t + 1)))) := but2_set (Same.but2 s1)
    have sa2 : SA (upd H1 p (.dK (stK g c l (t + 1)))) p g c n := ⟨gs, cs, l, t + 1, upd_same, by rw [upd_ne (Ne.symm pg)]; exact s1 _ _ hg, by rw [upd_ne (Ne.symm pc)]; exact s1 _ _ hc, pg, pc, gc, by omega, by omega⟩
    have hp2 : upd H1 p (.dK (stK g c l (t + 1))) p = some (.dK (stK g c l (t + 1))) := upd_same
    have hc2 : upd H1 p (.dK (stK g c l (t + 1))) c = some (.lst (cs.map V.int)) := by rw [upd_ne (Ne.symm pc)]; exact s1 _ _ hc
    generalize upd H1 p (.dK (stK g c l (t + 1))) = H2 at b2 sa2 hp2 hc2 ⊢
    dsimp only [L2.start, List.set, List.map, List.length, List.replicate, List.append]
    refine st_for (C := C) (wi := _) (ei_lst (C := C) (ds := [.num 2147483587, .num 2147483563, .num 2147483549]) ?_) (fun G i σ' H' => ∃ f x3 x4 x5, σ' = [some (.ref p), some (.int (t + 1)), some (.int f), x3, x4, x5] ∧ Same G H') ?_ ?_ ?_ ?_
    · apply evl_lst
      · trivial
      · show 3 ≤ sizeLine; decide
    · intro G sG
      exact ⟨0, none, none, none, rfl, Same.refl _⟩
    · rintro G i σ' H' sG ⟨f, x3, x4, x5, rfl, s⟩
      exact ⟨Same.stay s, fun b o _ e => s b o e⟩
    · rintro G i d x σ' H' sG hi ⟨f, x3, x4, x5, rfl, s⟩ tx
      obtain ⟨pr, rfl, pr0, pr1⟩ : ∃ pr : Int, d = .num pr ∧ 2000000000 ≤ pr ∧ pr ≤ 2147483587 := by
        match i, hi with
        | 0, hi => exact ⟨_, by simpa using hi.symm, by decide, by decide⟩
        | 1, hi => exact ⟨_, by simpa using hi.symm, by decide, by decide⟩
        | 2, hi => exact ⟨_, by simpa using hi.symm, by decide, by decide⟩
        | i + 3, hi => simp at hi
      cases tp_num tx
      refine ⟨_, gb_name, ?_⟩
      have f61 := Int.fdiv_eq_ediv_of_nonneg pr (show (0 : Int) ≤ 61 by decide)
      apply st_set (C := C) (d := .num (40692 * (t + 1) + pr.fdiv 61))
      · apply ev_opI (g := fun i j => i + j)
        · exact ev_mulL (by trivial) (by trivial) (by decide)
        · exact ev_fdiv (by trivial) (by trivial) (by decide) (by decide)
      intro vb H3 s3 tb
      cases tp_num tb
      have sH3 := Same.trans s s3
      refine st_for (C := C) (wi := _) (ei_at (C := C) (ds := cs.map D.num) (a := c) (vs := cs.map V.int) (evv_dget rfl (sH3 _ _ (sG _ _ hp2)) stk_cells) (sH3 _ _ (sG _ _ hc2)) (of_nums C _ cs)) (fun G2 i σ' H' => ∃ b x5, σ' = [some (.ref p), some (.int (t + 1)), some (.int f), some (.int pr), some (.int b), x5] ∧ b.natAbs < 2 ^ 62 ∧ Same G2 H') ?_ ?_ ?_ ?_
      · intro G2 s2
        exact ⟨_, x5, rfl, by omega, Same.refl _⟩
      · rintro G2 i σ' H' s2 ⟨b, y5, rfl, bb, s'⟩
        exact ⟨Same.stay s', fun b o _ e => s' b o e⟩
      · rintro G2 i d x σ' H' s2 hi ⟨b, y5, rfl, bb, s'⟩ tx
        obtain ⟨ce, hce, rfl⟩ := map_item hi
        cases tp_num tx
        refine ⟨_, gb_name, ?_⟩
        have ev2 : EvD C (tOp (rI (fun _ j => j ≠ 0) fun i j => .int (Int.fmod i j)) (tCB (fun xs H Q => (∃ i, xs = [.int i] ∧ Q (.int i) H) ∨ ∃ k, xs = [.bl k] ∧ Q (.int (if k then 1 else 0)) H) (tCons (tOp (rI0 fun i j => .int (i + j)) (tOp (rI0 fun i j => .int (i + j)) (tOp (rI CMul fun i j => .int (i * j)) (tVar 4) (tC (.int 69621))) (tVar 5)) (tVar 1)) tNil)) (tVar 3)) ([some (.ref p), some (.int (t + 1)), some (.int f), some (.int pr), some (.int b), y5].set 5 (some (.int ce))) H' (.num ((b * 69621 + ce + (t + 1)).fmod pr)) := by
          apply ev_fmod
          · apply ev_intI
            apply ev_opI (g := fun i j => i + j)
            · apply ev_opI (g := fun i j => i + j)
              · exact ev_mulR (by trivial) (by trivial) (by decide)
              · trivial
            · trivial
          · trivial
          · omega
        refine ev2 H' (Same.refl _) _ fun v4 H4 s4 t4 => ?_
        cases tp_num t4
        refine ⟨_, _, rfl, ?_, Same.trans s' s4⟩
        have h1 := Int.fmod_nonneg_of_pos (b * 69621 + ce + (t + 1)) (show 0 < pr by omega)
        have h2 := Int.fmod_lt_of_pos (b * 69621 + ce + (t + 1)) (show 0 < pr by omega)
        omega
      · rintro G2 σ' H' s2 ⟨b, y5, rfl, bb, s'⟩
        have ev3 : EvD C (tOp (rI0 fun i j => .int (i + j)) (tOp (rI CMul fun i j => .int (i * j)) (tVar 2) (tC (.int 2147483647))) (tOp (rI (fun _ j => j ≠ 0) fun i j => .int (Int.fmod i j)) (tCB (fun xs H Q => (∃ i, xs = [.int i] ∧ Q (.int i) H) ∨ ∃ k, xs = [.bl k] ∧ Q (.int (if k then 1 else 0)) H) (tCons (tOp (rI CPow fun i j => .int (i ^ j.toNat)) (tVar 4) (tC (.int 5))) tNil)) (tVar 3))) [some (.ref p), some (.int (t + 1)), some (.int f), some (.int pr), some (.int b), y5] H' (.num (f * 2147483647 + (b ^ (5 : Int).toNat).fmod pr)) := by
          apply ev_opI (g := fun i j => i + j)
          · exact ev_mulR (by trivial) (by trivial) (by decide)
          · apply ev_fmod
            · apply ev_intI
              exact ev_opIC (g := fun i j => i ^ j.toNat) (by trivial) (by trivial) ⟨by decide, by decide, by omega⟩
            · trivial
            · omega
        refine ev3 H' (Same.refl _) _ fun v5 H5 s5 t5 => ?_
        cases tp_num t5
        exact ⟨_, _, _, _, rfl, Same.trans sH3 (Same.trans s2 (Same.trans s' s5))⟩
    · rintro G σ' H' sG ⟨f, x3, x4, x5, rfl, s⟩
      have s2 := Same.trans sG s
      exact ⟨_, rfl, q f H' (But2.trans b2 (Same.but2 s2)) (sa2.same s2)⟩
theorem sc__law_draw : FnScope ["state", "size_here", "found"] ["state", "size_here"] (defScope s__law_draw) := ⟨rfl, rfl, rfl, by decide +kernel, rfl, by decide +kernel, by decide +kernel⟩
abbrev sp__law_draw : Sp := fun vs H Q _ => ∃ p g c n size, vs = [.ref p, .int size] ∧ SA H p g c (n + 1) ∧ (0 < size ∧ size < 1000000000) ∧ ∀ i H', 0 ≤ i → i < size → But2 p g H H' → SA H' p g c n → Q (.int i) H'
theorem ok__law_draw (F : Df K mg "_law_draw" s__law_draw) (B : Bi K mg C) (h__law_blended : Cl P w K mg base "_law_blended" 1 ["state"] sp__law_blended) : Cl P w K mg base "_law_draw" 2 ["state", "size_here"] sp__law_draw := by
  refine F.cl sc__law_draw (fun _ _ _ _ _ _ us hl => match us, hl with | [_, _], _ => rfl) (fun vs H Q E h => ?_) (fun f cdv A outer s H vs Q E hr h => ?_)
  · obtain ⟨p, g, c, n, size, rfl, _⟩ := h; rfl
  · obtain ⟨p, g, c, n, size, rfl, sa, ⟨z0, z1⟩, q⟩ := h
    refine ⟨_, (pss_cons (ps_if (pt_cmpR op_eq (pe_dget (hu_of hr) (pv 0) pe_str (fun _ _ => rfl)) pe_int (nomark _)) (pss_one (ps_dput (hu_of hr) (pv 0) pe_str (pe_ifExp (pt_cmpR (op_neD hr.units) (pe_dget (hu_of hr) (pv 0) pe_str (fun _ _ => rfl)) (pe_lst pa_nil) (nomark _)) (pe_bm PySem.F.plainAttrs_list PySem.F.slot_list_pop PySem.F.type_list_pop mt_popAt (pe_dget (hu_of hr) (pv 0) pe_str (fun _ _ => rfl)) (pa_cons pe_int pa_nil)) (pe_cl h__law_blended (hr.mono (by decide)) (by rfl) (pa_cons (pv 0) pa_nil))) rfl)) pss_nil)
      (pss_cons (ps_set (i := 2) sc__law_draw.nd rfl (by first | exact Or.inl rfl | exact Or.inr rfl) (pe_op op_modN (pe_callTy call_int1 (by rfl) B.int (by decide +kernel) (pa_cons (pe_dget (hu_of hr) (pv 0) pe_str (fun _ _ => rfl)) pa_nil)) (pv 1)))
      (pss_cons (ps_dput (hu_of hr) (pv 0) pe_str (pe_op op_fdivN (pe_dget (hu_of hr) (pv 0) pe_str (fun _ _ => rfl)) (pv 1)) rfl)
      (pss_one (ps_ret (pv 2)))))), ?_⟩
    have rest : ∀ H2, But2 p g H H2 → SA H2 p g c n → tSeq (tAsg (tOp (rI (fun _ j => j ≠ 0) fun i j => .int (Int.fmod i j)) (tCB (fun xs H Q => (∃ i, xs = [.int i] ∧ Q (.int i) H) ∨ ∃ k, xs = [.bl k] ∧ Q (.int (if k then 1 else 0)) H) (tCons (tDGet (tVar 0) (tC (.str "left"))) tNil)) (tVar 1)) (gName 2)) (tSeq (sDPut (tVar 0) (tC (.str "left")) (tOp (rI CDivN fun i j => .int (Int.fdiv i j)) (tDGet (tVar 0) (tC (.str "left"))) (tVar 1))) (tRet (tVar 2))) { nx := fun _ H' => Q .non H', rt := Q } [some (.ref p), some (.int size), none] H2 := by
      intro H2 b2 sa2
      obtain ⟨gs, cs, l, t, hp, hg, hc, pg, pc, gc, t0, t1⟩ := sa2
      apply st_set (C := C) (d := .num (l.fmod size))
      · apply ev_fmod
        · apply ev_intI
          exact ev_dget rfl hp stk_left
        · trivial
        · omega
      intro v3 H3 s3 t3
      cases tp_num t3
      have hp3 := s3 _ _ hp
      have ev : EvD C (tOp (rI CDivN fun i j => .int (Int.fdiv i j)) (tDGet (tVar 0) (tC (.str "left"))) (tVar 1)) ([some (.ref p), some (.int size), none].set 2 (some (.int (l.fmod size)))) H3 (.num (l.fdiv size)) := ev_fdiv (ev_dget rfl hp3 stk_left) (by trivial) (by omega) (by omega)
      refine ev H3 (Same.refl _) _ fun v4 H4 s4 t4 => ?_
      cases tp_num t4
      refine ⟨_, rfl, p, _, rfl, DPut.k (k := .inr "left") (s4 _ _ hp3) (small_lt (m := 100) (show 4 < 100 by decide) (by omega)), ?_⟩
      rw [stk_pleft]
      have s24 := Same.trans s3 s4
      refine ⟨_, rfl, q _ _ (Int.fmod_nonneg_of_pos _ z0) (Int.fmod_lt_of_pos _ z0) (But2.trans b2 (but2_set (Same.but2 s24))) ⟨gs, cs, l.fdiv size, t, upd_same, ?_, ?_, pg, pc, gc, t0, t1⟩⟩
      · rw [upd_ne (Ne.symm pg)]; exact s24 _ _ hg
      · rw [upd_ne (Ne.symm pc)]; exact s24 _ _ hc
    have put : ∀ (H2 : Hp) (i : Int), But2 p g H H2 → SA H2 p g c n → ∃ kvs, H2 p = some (.dK kvs) ∧ kvs.length < sizeLine ∧ But2 p g H (upd H2 p (.dK (putK kvs (.inr "left" : Key) (.int i)))) ∧ SA (upd H2 p (.dK (putK kvs (.inr "left" : Key) (.int i)))) p g c n := by
      intro H2 i b2 sa2
      obtain ⟨gs, cs, l, t, hp, hg, hc, pg, pc, gc, t0, t1⟩ := sa2
      refine ⟨_, hp, small_lt (m := 100) (show 4 < 100 by decide) (by omega), but2_set b2, gs, cs, i, t, ?_, ?_, ?_, pg, pc, gc, t0, t1⟩
      · rw [stk_pleft]; exact upd_same
      · rw [upd_ne (Ne.symm pg)]; exact hg
      · rw [upd_ne (Ne.symm pc)]; exact hc
    have san := sa.mono (Nat.le_succ n)
    obtain ⟨gs, cs, l, t, hp, hg, hc, pg, pc, gc, t0, t1⟩ := id sa
    apply st_if (b := decide (l = 0))
    · apply et_test (C := C)
      apply ev_eqI
      · exact ev_dget rfl hp stk_left
      · trivial
    · intro _ H2 s2
      have hp2 := s2 _ _ hp
      have hg2 := s2 _ _ hg
      have sa2 := san.same s2
      have tst : EvT (tTest (tOp (rNeD K) (tDGet (tVar 0) (tC (.str "great"))) (tLst tNil))) [some (.ref p), some (.int size), none] H2 (!gs.isEmpty) := et_neNums (evv_dget rfl hp2 stk_great) hg2
      refine tst H2 (Same.refl _) _ fun H3 s3 => ?_
      have hp3 := s3 _ _ hp2
      have hg3 := s3 _ _ hg2
      have s23 := Same.trans s2 s3
      cases gs with
      | nil =>
        refine iteF ⟨_, rfl, p, g, c, n, rfl, sa.same s23, fun i H4 b4 sa4 => ?_⟩
        obtain ⟨kvs, e1, e2, e3, e4⟩ := put H4 i (But2.trans (Same.but2 s23) b4) sa4
        exact ⟨_, rfl, p, _, rfl, DPut.k (k := .inr "left") e1 e2, rest _ e3 e4⟩
      | cons g0 gs =>
        refine iteT ?_
        refine evv_dget rfl hp3 stk_great H3 (Same.refl _) _ fun H4 s4 => ?_
        have hg4 := s4 _ _ hg3
        refine ⟨.inl ⟨rfl, _, .inl (.inl hg4)⟩, g, _, 0, 0, .int g0, rfl, rfl, hg4, by decide, by decide, by simp [seqIndex?], rfl, ?_⟩
        have sa5 : SA (upd H4 g (.lst (((g0 :: gs).map V.int).eraseIdx 0))) p g c n := by
          refine ⟨gs, cs, l, t, ?_, ?_, ?_, pg, pc, gc, t0, by omega⟩
          · rw [upd_ne pg]; exact s4 _ _ hp3
          · rw [upd_same]; rfl
          · rw [upd_ne (Ne.symm gc)]; exact s4 _ _ (s23 _ _ hc)
        obtain ⟨kvs, e1, e2, e3, e4⟩ := put (upd H4 g (.lst (((g0 :: gs).map V.int).eraseIdx 0))) g0 (but2_set' (Same.but2 (Same.trans s23 s4))) sa5
        exact ⟨_, rfl, p, _, rfl, DPut.k (k := .inr "left") e1 e2, rest _ e3 e4⟩
    · intro _ H2 s2
      exact rest H2 (Same.but2 s2) (san.same s2)
end
end K49

set_option Elab.async false
set_option linter.all false
set_option maxRecDepth 100000
set_option maxHeartbeats 4000000
/-! Picks and mixed lists. -/
namespace K49
open PySem PySem.Spec PyProof.Rows L2 Y
local macro_rules | `(tactic| trivial) => `(tactic| first
  | with_reducible exact ev_int
  | with_reducible exact ev_bl
  | with_reducible exact ev_non
  | with_reducible exact ea_nil
  | with_reducible exact et_yes
  | ((with_reducible apply ev_var); exact rfl; first | exact .num _ | exact .bl _ | exact .non | assumption)
  | ((with_reducible apply ea_cons); trivial; trivial)
  | ((with_reducible apply ev_tup); trivial; first | decide | (show _ ≤ sizeLine; simp; decide))
  | ((with_reducible apply ev_ix0); trivial; trivial; exact rfl)
  | ((with_reducible apply ev_ix1); trivial; trivial; exact rfl)
  | ((with_reducible apply ev_ix2); trivial; trivial; exact rfl)
  | ((with_reducible apply ev_ix3); trivial; trivial; exact rfl)
  | ((with_reducible apply ev_opI); trivial; trivial)
  | ((with_reducible apply ev_opB); trivial; trivial)
  | ((with_reducible apply ev_eqI); trivial; trivial)
  | ((with_reducible apply ev_neI); trivial; trivial)
  | ((with_reducible apply ev_un); trivial)
  | ((with_reducible apply ev_chain); trivial; trivial; trivial)
  | ((with_reducible apply ev_abs); trivial)
  | ((with_reducible apply ev_intI); trivial)
  | ((with_reducible apply ev_gcd); trivial; trivial)
  | ((with_reducible apply ev_lenT); trivial)
  | ((with_reducible apply et_test); trivial)
  | ((with_reducible apply et_B); trivial)
  | ((with_reducible apply et_not); trivial)
  | ((with_reducible apply et_and); trivial; (intro _; trivial))
  | ((with_reducible apply et_or); trivial; (intro _; trivial))
  | ((with_reducible apply ev_andV); trivial; (intro _; trivial))
  | ((with_reducible apply ev_orV); trivial; (intro _; trivial))
  | ((with_reducible apply ev_notV); trivial)
  | ((with_reducible apply ev_isN); trivial)
  | ((with_reducible apply ev_notN); trivial)
  | ((with_reducible apply ev_isiII); trivial)
  | ((with_reducible apply ev_isiIB); trivial)
  | ((with_reducible apply ev_isiTT); trivial)
  | ((with_reducible apply ev_isH); trivial))
theorem seqIx {i : Int} {n : Nat} (h0 : 0 ≤ i) (h1 : i < n) : seqIndex? i n = some i.toNat := by
  unfold seqIndex?
  simp only [h0, if_true]
  split
  · omega
  · rename_i h
    first | rfl | (simp; omega)
theorem TpA.erase {C : Addr} {H : Hp} : ∀ {vs : List V} {ds : List D} (k : Nat), TpA C H vs ds → TpA C H (vs.eraseIdx k) (ds.eraseIdx k)
  | _, _, _, .nil => .nil
  | _, _, 0, .cons a b => b
  | _, _, k + 1, .cons a b => .cons a (TpA.erase k b)
theorem erase_map {α β : Type} (f : α → β) : ∀ (l : List α) (k : Nat), (l.map f).eraseIdx k = (l.eraseIdx k).map f
  | [], _ => by simp
  | _ :: _, 0 => rfl
  | a :: l, k + 1 => by simp [erase_map f l k]
theorem erase_perm {α : Type} : ∀ {l : List α} {k : Nat} {a : α}, l[k]? = some a → (a :: l.eraseIdx k).Perm l
  | [], _, _, h => by simp at h
  | x :: l, 0, a, h => by
    have : x = a := by simpa using h
    subst this
    exact List.Perm.refl _
  | x :: l, k + 1, a, h => by
    have ih := erase_perm (l := l) (k := k) (a := a) (by simpa using h)
    show (a :: x :: l.eraseIdx k).Perm (x :: l)
    exact List.Perm.trans (List.Perm.swap x a _) (List.Perm.cons x ih)
theorem doors_lay : ∀ ds : List Door, PyData.canLayAll0 (pyA (ds.map doorD)) = true ∧ PyData.depthAll (pyA (ds.map doorD)) ≤ 1
  | [] => by simp [pyA, PyData.canLayAll0, PyData.depthAll]
  | d :: ds => by
    have ih := doors_lay ds
    simp [pyA, py, doorD, PyData.canLayAll0, PyData.canLay0, PyData.depthAll, PyData.depth, ih.1]
    have := ih.2
    omega
theorem doors_shaped (ds : List Door) : SeqAt.shaped (.list (pyA (ds.map doorD))) = true := by
  obtain ⟨h1, h2⟩ := doors_lay ds
  simp [SeqAt.shaped, PyData.canLay0, PyData.depth, h1]
  omega
theorem doors_flat : ∀ ds : List Door, flatA (ds.map doorD) = true
  | [] => rfl
  | d :: ds => by simp [flatA, flat, doorD, doors_flat ds]
section
variable {P : Program} {w : World} {K : PySem.W.Frag} {mg : Str → Option Value} {base : Heap} {C : Addr}
theorem sc__law_pick : FnScope ["state", "several"] ["state", "several"] (defScope s__law_pick) := ⟨rfl, rfl, rfl, by decide +kernel, rfl, by decide +kernel, by decide +kernel⟩
abbrev sp__law_pick : Sp := fun vs H Q _ => ∃ (p g c : Addr) (n : Nat) (b : Addr) (xs : List V), vs = [.ref p, .ref b] ∧ SA H p g c (n + 1) ∧ H b = some (.lst xs) ∧ b ≠ p ∧ b ≠ g ∧ (0 < xs.length ∧ xs.length < 1000) ∧ ∀ (i : Nat) (x : V) (H' : Hp), xs[i]? = some x → But2 p g H H' → SA H' p g c n → Q x H'
theorem ok__law_pick (F : Df K mg "_law_pick" s__law_pick) (B : Bi K mg C) (h__law_draw : Cl P w K mg base "_law_draw" 2 ["state", "size_here"] sp__law_draw) : Cl P w K mg base "_law_pick" 3 ["state", "several"] sp__law_pick := by
  refine F.cl sc__law_pick (fun _ _ _ _ _ _ us hl => match us, hl with | [_, _], _ => rfl) (fun vs H Q E h => ?_) (fun f cdv A outer s H vs Q E hr h => ?_)
  · obtain ⟨p, g, c, n, b, xs, rfl, _⟩ := h; rfl
  · obtain ⟨p, g, c, n, b, xs, rfl, sa, hb, bp, bg, ⟨x0, x1⟩, q⟩ := h
    refine ⟨_, (pss_one (ps_ret (pe_ix ix_list (pv 1) (pe_cl h__law_draw (hr.mono (by decide)) (by rfl) (pa_cons (pv 0) (pa_cons (pe_callB call_lenS (by rfl) B.len (by decide +kernel) (pa_cons (pv 1) pa_nil)) pa_nil))) (fun _ _ => rfl)))), ?_⟩
    refine ⟨_, rfl, _, rfl, _, rfl, b, xs, rfl, .inl (.inl (.inl hb)), p, g, c, n, _, rfl, sa, ⟨by omega, by omega⟩, fun i H2 i0 i1 b2 sa2 => ?_⟩
    obtain ⟨x, hx⟩ : ∃ x, xs[i.toNat]? = some x := ⟨_, List.getElem?_eq_getElem (by omega)⟩
    refine ⟨b, xs, i, x, rfl, rfl, .inl (.inl (b2 b _ bp bg hb)), ?_, q i.toNat x H2 hx b2 sa2⟩
    have : i = ((i.toNat : Nat) : Int) := by omega
    rw [this]
    exact atI_nat hx
theorem sc__law_mixed : FnScope ["state", "several", "left", "found"] ["state", "several"] (defScope s__law_mixed) := ⟨rfl, rfl, rfl, by decide +kernel, rfl, by decide +kernel, by decide +kernel⟩
abbrev sp__law_mixed (C : Addr) : Sp := fun vs H Q _ => ∃ (p g c : Addr) (n : Nat) (b : Addr) (xs : List V) (ds : List Door), vs = [.ref p, .ref b] ∧ SA H p g c (n + ds.length) ∧ H b = some (.lst xs) ∧ TpA C H xs (ds.map doorD) ∧ ds.length ≤ 100 ∧ ∀ (a : Addr) (xs' : List V) (ds' : List Door) (H' : Hp), But2 p g H H' → SA H' p g c n → H a = none → H' a = some (.lst xs') → TpA C H' xs' (ds'.map doorD) → ds'.Perm ds → Q (.ref a) H'
theorem ok__law_mixed (F : Df K mg "_law_mixed" s__law_mixed) (B : Bi K mg C) (h__law_draw : Cl P w K mg base "_law_draw" 2 ["state", "size_here"] sp__law_draw) : Cl P w K mg base "_law_mixed" 3 ["state", "several"] (sp__law_mixed C) := by
  refine F.cl sc__law_mixed (fun _ _ _ _ _ _ us hl => match us, hl with | [_, _], _ => rfl) (fun vs H Q E h => ?_) (fun f cdv A outer s H vs Q E hr h => ?_)
  · obtain ⟨p, g, c, n, b, xs, ds, rfl, _⟩ := h; rfl
  · obtain ⟨p, g, c, n, b, xs, ds, rfl, sa, hb, tb, dl, q⟩ := h
    refine ⟨_, (pss_cons (ps_par (i := 2) (j := 3) (by rfl) sc__law_mixed.nd rfl rfl (by decide) rfl rfl (pa_cons (pe_callTy call_list_of (by rfl) B.list (by decide +kernel) (pa_cons (pv 1) pa_nil)) (pa_cons (pe_lst pa_nil) pa_nil)) (by rfl))
      (pss_cons (ps_while PassesOwn.never (pt_cmpR (op_neD hr.units) (pv 2) (pe_lst pa_nil) (nomark _)) (pss_one (ps_expr (pe_bm PySem.F.plainAttrs_list PySem.F.slot_list_append PySem.F.type_list_append mt_append (pv 3) (pa_cons (pe_bm PySem.F.plainAttrs_list PySem.F.slot_list_pop PySem.F.type_list_pop mt_popAt (pv 2) (pa_cons (pe_cl h__law_draw (hr.mono (by decide)) (by rfl) (pa_cons (pv 0) (pa_cons (pe_callB call_lenS (by rfl) B.len (by decide +kernel) (pa_cons (pv 2) pa_nil)) pa_nil))) pa_nil)) pa_nil)))))
      (pss_one (ps_ret (pv 3))))), ?_⟩
    refine ⟨_, rfl, b, xs, rfl, .inl (.inl (.inl hb)), fun a1 h1 => ⟨Nat.zero_le _, fun a2 h2 => ⟨_, _, rfl, ?_⟩⟩⟩
    have h12 : a1 ≠ a2 := fun z => by rw [← z, upd_same] at h2; cases h2
    have n2 : H a2 = none := by rw [upd_ne (Ne.symm h12)] at h2; exact h2
    have sG : Same H (upd (upd H a1 (.lst xs)) a2 (.lst [])) := Same.put (Same.new h1) n2
    have ap : a1 ≠ p := fun z => sa.sp (by rw [← z]; exact h1)
    have ag : a1 ≠ g := fun z => sa.sg (by rw [← z]; exact h1)
    have ac : a1 ≠ c := fun z => sa.sc (by rw [← z]; exact h1)
    have ap2 : a2 ≠ p := fun z => sa.sp (by rw [← z]; exact n2)
    have ag2 : a2 ≠ g := fun z => sa.sg (by rw [← z]; exact n2)
    have ac2 : a2 ≠ c := fun z => sa.sc (by rw [← z]; exact n2)
    have updSA : ∀ {H' : Hp} {m : Nat} {a : Addr} {o : HO}, SA H' p g c m → a ≠ p → a ≠ g → a ≠ c → SA (upd H' a o) p g c m := by
      intro H' m a o sa x y z
      obtain ⟨gs, cs, l, t, e1, e2, e3, r⟩ := sa
      exact ⟨gs, cs, l, t, by rw [upd_ne (Ne.symm x)]; exact e1, by rw [upd_ne (Ne.symm y)]; exact e2, by rw [upd_ne (Ne.symm z)]; exact e3, r⟩
    refine ⟨fun m σ' H' => ∃ (lv fv : List V) (l1 l2 : List Door), σ' = [some (.ref p), some (.ref b), some (.ref a1), some (.ref a2)] ∧ But2 p g H H' ∧ H' a1 = some (.lst lv) ∧ H' a2 = some (.lst fv) ∧ TpA C H' lv (l1.map doorD) ∧ TpA C H' fv (l2.map doorD) ∧ (l2 ++ l1).Perm ds ∧ SA H' p g c (n + l1.length) ∧ m = l1.length, ⟨_, xs, [], ds, [], rfl, Same.but2 sG, by rw [upd_ne h12]; exact upd_same, upd_same, tb.same sG, .nil, by simp, sa.same sG, rfl⟩, ?_⟩
    rintro m σ' H' ⟨lv, fv, l1, l2, rfl, b2, e1, e2, t1, t2, pm, sa', rfl⟩
    have tst : EvT (tTest (tOp (rNeD K) (tVar 2) (tLst tNil))) [some (.ref p), some (.ref b), some (.ref a1), some (.ref a2)] H' (!(l1.map doorD).isEmpty) := et_neNil (C := C) (evv_var rfl) e1 t1 (doors_flat l1) (doors_shaped l1)
    refine tst H' (Same.refl _) _ fun H2 s2 => ?_
    have lens : l1.length + l2.length = ds.length := by have := pm.length_eq; rw [List.length_append] at this; omega
    cases l1 with
    | nil =>
      refine iteF ⟨_, rfl, q a2 fv l2 H2 (But2.trans b2 (Same.but2 s2)) (sa'.same s2) n2 (s2 _ _ e2) (t2.same s2) (by simpa using pm)⟩
    | cons d0 l1 =>
      refine iteT ⟨fun σ' H' => ∃ (lv fv : List V) (l1' l2 : List Door), σ' = [some (.ref p), some (.ref b), some (.ref a1), some (.ref a2)] ∧ But2 p g H H' ∧ H' a1 = some (.lst lv) ∧ H' a2 = some (.lst fv) ∧ TpA C H' lv (l1'.map doorD) ∧ TpA C H' fv (l2.map doorD) ∧ (l2 ++ l1').Perm ds ∧ SA H' p g c (n + l1'.length) ∧ l1'.length < (d0 :: l1).length, ?_, ?_⟩
      · rintro σ' H' ⟨lv, fv, l1', l2, r1, r2, r3, r4, r5, r6, r7, r8, r9⟩
        exact ⟨_, r9, lv, fv, l1', l2, r1, r2, r3, r4, r5, r6, r7, r8, rfl⟩
      · have e1' := s2 _ _ e1
        have e2' := s2 _ _ e2
        have ll : lv.length = (d0 :: l1).length := by rw [t1.length, List.length_map]
        have lf : fv.length = l2.length := by rw [t2.length, List.length_map]
        have lc : (d0 :: l1).length = l1.length + 1 := List.length_cons
        refine ⟨_, rfl, .inl ⟨rfl, fv, .inl (.inl e2')⟩, _, rfl, .inl ⟨rfl, lv, .inl (.inl e1')⟩, _, rfl, _, rfl, a1, lv, rfl, .inl (.inl (.inl e1')), p, g, c, n + l1.length, _, rfl, sa'.same s2, ⟨by omega, by omega⟩, fun i H3 i0 i1 b3 sa3 => ?_⟩
        have st3 : Stay H2 H3 := (sa'.same s2).stay b3
        have e13 := b3 a1 _ ap ag e1'
        have e23 := b3 a2 _ ap2 ag2 e2'
        obtain ⟨y, hy⟩ : ∃ y, lv[i.toNat]? = some y := ⟨_, List.getElem?_eq_getElem (by omega)⟩
        refine ⟨a1, lv, i, i.toNat, y, rfl, rfl, e13, by omega, by omega, seqIx i0 i1, hy, ?_⟩
        have t13 := (t1.same s2).stay st3
        have t23 := (t2.same s2).stay st3
        obtain ⟨dy, hdy, ty⟩ := t13.getV hy
        obtain ⟨dd, hdd, rfl⟩ := map_item hdy
        have st4 : Stay H3 (upd H3 a1 (.lst (lv.eraseIdx i.toNat))) := But.stay (p := a1) but_up (notImm_lst e13)
        have e24 : upd H3 a1 (.lst (lv.eraseIdx i.toNat)) a2 = some (.lst fv) := by rw [upd_ne (Ne.symm h12)]; exact e23
        have e14 : upd H3 a1 (.lst (lv.eraseIdx i.toNat)) a1 = some (.lst (lv.eraseIdx i.toNat)) := upd_same
        have b4 : But2 p g H (upd H3 a1 (.lst (lv.eraseIdx i.toNat))) := fun z o zp zg ez => by
          rw [upd_ne (fun y => by rw [y, h1] at ez; cases ez)]
          exact b3 z o zp zg (s2 _ _ (b2 z o zp zg ez))
        have sa4 := updSA (o := .lst (lv.eraseIdx i.toNat)) sa3 ap ag ac
        generalize upd H3 a1 (.lst (lv.eraseIdx i.toNat)) = H4 at st4 e24 e14 b4 sa4 ⊢
        refine ⟨a2, fv, y, rfl, rfl, e24, small_lt (m := 1000) (by omega) (by omega), ?_⟩
        have st5 : Stay H4 (upd H4 a2 (.lst (fv ++ [y]))) := But.stay (p := a2) but_up (notImm_lst e24)
        refine ⟨lv.eraseIdx i.toNat, fv ++ [y], (d0 :: l1).eraseIdx i.toNat, l2 ++ [dd], rfl, ?_, ?_, upd_same, ?_, ?_, ?_, ?_, ?_⟩
        · intro z o zp zg ez
          rw [upd_ne (fun y => by rw [y, n2] at ez; cases ez)]
          exact b4 z o zp zg ez
        · rw [upd_ne h12]; exact e14
        · have := ((TpA.erase i.toNat t13).stay st4).stay st5
          rw [erase_map] at this
          exact this
        · rw [List.map_append]
          exact ((t23.stay st4).stay st5).append (.cons ((ty.stay st4).stay st5) .nil)
        · have := erase_perm hdd
          refine List.Perm.trans ?_ pm
          rw [List.append_assoc]
          exact List.Perm.append_left l2 this
        · have : ((d0 :: l1).eraseIdx i.toNat).length = l1.length := by rw [List.length_eraseIdx_of_lt (by omega)]; omega
          rw [this]
          exact updSA sa4 ap2 ag2 ac2
        · rw [List.length_eraseIdx_of_lt (by omega)]; omega
end
end K49

set_option Elab.async false
set_option linter.all false
set_option maxRecDepth 100000
set_option maxHeartbeats 4000000
/-! Doors drawn. -/
namespace K49
open PySem PySem.Spec PyProof.Rows L2 Y
local macro_rules | `(tactic| trivial) => `(tactic| first
  | with_reducible exact ev_int
  | with_reducible exact ev_bl
  | with_reducible exact ev_non
  | with_reducible exact ea_nil
  | with_reducible exact et_yes
  | ((with_reducible apply ev_var); exact rfl; first | exact .num _ | exact .bl _ | exact .non | assumption)
  | ((with_reducible apply ea_cons); trivial; trivial)
  | ((with_reducible apply ev_tup); trivial; first | decide | (show _ ≤ sizeLine; simp; decide))
  | ((with_reducible apply ev_ix0); trivial; trivial; exact rfl)
  | ((with_reducible apply ev_ix1); trivial; trivial; exact rfl)
  | ((with_reducible apply ev_ix2); trivial; trivial; exact rfl)
  | ((with_reducible apply ev_ix3); trivial; trivial; exact rfl)
  | ((with_reducible apply ev_opI); trivial; trivial)
  | ((with_reducible apply ev_opB); trivial; trivial)
  | ((with_reducible apply ev_eqI); trivial; trivial)
  | ((with_reducible apply ev_neI); trivial; trivial)
  | ((with_reducible apply ev_un); trivial)
  | ((with_reducible apply ev_chain); trivial; trivial; trivial)
  | ((with_reducible apply ev_abs); trivial)
  | ((with_reducible apply ev_intI); trivial)
  | ((with_reducible apply ev_gcd); trivial; trivial)
  | ((with_reducible apply ev_lenT); trivial)
  | ((with_reducible apply et_test); trivial)
  | ((with_reducible apply et_B); trivial)
  | ((with_reducible apply et_not); trivial)
  | ((with_reducible apply et_and); trivial; (intro _; trivial))
  | ((with_reducible apply et_or); trivial; (intro _; trivial))
  | ((with_reducible apply ev_andV); trivial; (intro _; trivial))
  | ((with_reducible apply ev_orV); trivial; (intro _; trivial))
  | ((with_reducible apply ev_notV); trivial)
  | ((with_reducible apply ev_isN); trivial)
  | ((with_reducible apply ev_notN); trivial)
  | ((with_reducible apply ev_isiII); trivial)
  | ((with_reducible apply ev_isiIB); trivial)
  | ((with_reducible apply ev_isiTT); trivial)
  | ((with_reducible apply ev_isH); trivial))
/-- doors drawn so far: right ones, that join the rooms below k -/
structure GD (rooms k : Int) (ds : List Door) : Prop where
  ok : ∀ d ∈ ds, DOk rooms d ∧ d.2.1.natAbs ≤ 50 ∧ d.2.2.2.natAbs ≤ 50
  con : ∀ r : Int, 1 ≤ r → r < k → ∃ e ∈ MJ.edges ds, e.2 = r ∧ 0 ≤ e.1 ∧ e.1 < r
theorem GD.nil (rooms : Int) : GD rooms 1 [] := ⟨(fun d h => nomatch h), fun r h1 h2 => by omega⟩
def Sz (x : Int) : Prop := x ≠ 0 ∧ x.natAbs ≤ 50
theorem GD.snoc {rooms k : Int} {ds : List Door} (h : GD rooms k ds) {a x b y : Int} (ha : 0 ≤ a ∧ a < rooms) (hx : Sz x) (hb : 0 ≤ b ∧ b < rooms) (hy : Sz y) : GD rooms k (ds ++ [(a, x, b, y)]) := by
  refine ⟨fun d hd => ?_, fun r h1 h2 => ?_⟩
  · rcases List.mem_append.mp hd with hd | hd
    · exact h.ok d hd
    · have : d = (a, x, b, y) := by simpa using hd
      subst this
      refine ⟨⟨ha, hb, ⟨hx.1, ?_, ?_⟩, ⟨hy.1, ?_, ?_⟩⟩, hx.2, hy.2⟩
      · have := hx.2; show -999 ≤ x; omega
      · have := hx.2; show x ≤ 999; omega
      · have := hy.2; show -999 ≤ y; omega
      · have := hy.2; show y ≤ 999; omega
  · obtain ⟨e, he, r⟩ := h.con r h1 h2
    exact ⟨e, by rw [MJ.edges_app]; exact List.mem_append_left _ he, r⟩
theorem GD.snoc2 {rooms k : Int} {ds : List Door} (h : GD rooms k ds) {a x y : Int} (ha : 0 ≤ a ∧ a < k) (hx : Sz x) (hk : k < rooms) (hy : Sz y) : GD rooms (k + 1) (ds ++ [(a, x, k, y)]) := by
  refine ⟨(h.snoc (a := a) (b := k) ⟨ha.1, by omega⟩ hx ⟨by omega, hk⟩ hy).ok, fun r h1 h2 => ?_⟩
  by_cases hr : r = k
  · subst hr
    exact ⟨(a, r), by rw [MJ.edges_app]; exact List.mem_append_right _ (by simp [MJ.edges]), rfl, ha.1, ha.2⟩
  · obtain ⟨e, he, r⟩ := h.con r h1 (by omega)
    exact ⟨e, by rw [MJ.edges_app]; exact List.mem_append_left _ he, r⟩
theorem paired_mem {α β : Type} {R : α → β → Prop} : ∀ {l : List α} {m : List β}, Paired R l m → (∀ a ∈ l, ∃ b ∈ m, R a b) ∧ ∀ b ∈ m, ∃ a ∈ l, R a b
  | _, _, .nil => ⟨(fun a h => nomatch h), fun b h => nomatch h⟩
  | _, _, .cons x y => by
    obtain ⟨h1, h2⟩ := paired_mem y
    refine ⟨fun a ha => ?_, fun b hb => ?_⟩
    · rcases List.mem_cons.mp ha with rfl | ha
      · exact ⟨_, List.mem_cons_self, x⟩
      · obtain ⟨b, hb, r⟩ := h1 a ha
        exact ⟨b, List.mem_cons_of_mem _ hb, r⟩
    · rcases List.mem_cons.mp hb with rfl | hb
      · exact ⟨_, List.mem_cons_self, x⟩
      · obtain ⟨a, ha, r⟩ := h2 b hb
        exact ⟨a, List.mem_cons_of_mem _ ha, r⟩
theorem paired_snoc {α β : Type} {R : α → β → Prop} {a : α} {b : β} (r : R a b) : ∀ {l : List α} {m : List β}, Paired R l m → Paired R (l ++ [a]) (m ++ [b])
  | _, _, .nil => .cons r .nil
  | _, _, .cons x y => .cons x (paired_snoc r y)
def flp (d : Door) : Door := (d.2.2.1, d.2.2.2, d.1, d.2.1)
theorem GD.mem {rooms k : Int} {ds ds' : List Door} (h : K49.GD rooms k ds) (h1 : ∀ d ∈ ds', d ∈ ds ∨ flp d ∈ ds) (h2 : ∀ d ∈ ds, d ∈ ds' ∨ flp d ∈ ds') : GD rooms k ds' := by
  refine ⟨fun d hd => ?_, fun r r1 r2 => ?_⟩
  · rcases h1 d hd with hd | hd
    · exact h.ok d hd
    · obtain ⟨⟨a, b, c, e⟩, x, y⟩ := h.ok _ hd
      exact ⟨⟨b, a, e, c⟩, y, x⟩
  · obtain ⟨e, he, r⟩ := h.con r r1 r2
    refine ⟨e, ?_, r⟩
    obtain ⟨d, hd, he⟩ := List.mem_flatMap.mp he
    rcases h2 d hd with hd | hd
    · exact List.mem_flatMap.mpr ⟨d, hd, he⟩
    · refine List.mem_flatMap.mpr ⟨flp d, hd, ?_⟩
      simp only [List.mem_cons, List.not_mem_nil, or_false] at he ⊢
      rcases he with rfl | rfl
      · exact .inr rfl
      · exact .inl rfl
theorem flp_flp (d : Door) : flp (flp d) = d := rfl
theorem GD.flips {rooms k : Int} {ds ds' : List Door} (h : K49.GD rooms k ds) (r : Paired (fun d d' => d' = d ∨ d' = flp d) ds ds') : K49.GD rooms k ds' := by
  obtain ⟨h1, h2⟩ := paired_mem r
  refine h.mem (fun d hd => ?_) (fun d hd => ?_)
  · obtain ⟨e, he, x | x⟩ := h2 d hd
    · exact .inl (x ▸ he)
    · refine .inr ?_
      rw [x, flp_flp]; exact he
  · obtain ⟨e, he, x | x⟩ := h1 d hd
    · exact .inl (x ▸ he)
    · exact .inr (x ▸ he)
theorem GD.perm {rooms k : Int} {ds ds' : List Door} (h : K49.GD rooms k ds) (r : ds'.Perm ds) : K49.GD rooms k ds' := h.mem (fun d hd => .inl (r.mem_iff.mp hd)) (fun d hd => .inl (r.mem_iff.mpr hd))
/-- all but p, q and r is as it was -/
def But3 (p q r : Addr) (H H' : Hp) : Prop := ∀ b o, b ≠ p → b ≠ q → b ≠ r → H b = some o → H' b = some o
section
variable {C : Addr} {K : PySem.W.Frag} {wi : TI} {g : TG} {te : TE} {σ : L2.St} {H : Hp} {ds : List D} {Fk : List Addr} {vs : List Nat} {Q : VK}
/-- a loop over what a source gives -/
theorem for_src {It : L2.It} {F : List Addr} {tb : TS} {Ds : Ends} {H1 : Hp} (S : Src C It H1 ds F) (J : Nat → L2.St → Hp → Prop) (h0 : J 0 σ H1) (hst : ∀ i σ' H', J i σ' H' → Stay H1 H' ∧ ∀ b ∈ F, ∀ o, H1 b = some o → H' b = some o)
    (hs : ∀ i d x σ' H', ds[i]? = some d → J i σ' H' → Tp C H' x d → ∃ σ2, GB g σ' H' x σ2 ∧ tb { nx := J (i + 1), rt := Ds.rt, bk := Ds.nx, ct := J (i + 1) } σ2 H') (hd : ∀ σ' H', J ds.length σ' H' → Ds.nx σ' H') :
    ∃ W : Nat → Nat → L2.St → Hp → Prop, (∃ m, W 0 m σ H1) ∧ ∀ i m σ H, W i m σ H → (It.stop i H ∧ Ds.nx σ H) ∨ (It.go i H ∧ ∃ N : L2.St → Hp → Prop, (∀ σ' H', N σ' H' → ∃ m', m' < m ∧ W (i + 1) m' σ' H') ∧
      ∀ x H', It.yld i H x H' → g x σ H' fun σ2 H2 => tb { Ds with nx := N, ct := N, bk := Ds.nx } σ2 H2) := by
  refine for_any (n := ds.length) J h0 (fun i σ' H' hi j => S.go i H' (hst i σ' H' j).1 (hst i σ' H' j).2 hi) (fun σ' H' j => S.stop H' (hst _ σ' H' j).1 (hst _ σ' H' j).2) ?_ (fun σ' H' j => hd σ' H' j)
  intro i x σ' H' H'' hi j y
  obtain ⟨rfl, d, e1, e2⟩ := S.yld i x H' H'' (hst i σ' H' j).1 (hst i σ' H' j).2 hi y
  obtain ⟨σ2, g2, b2⟩ := hs i d x σ' H'' e1 j e2
  exact g2 _ b2
/-- [e for x in ..] whose e may change what is not walked -/
theorem lc_gen2 (h : EvI C wi σ H ds Fk) (J : Hp → Addr → Nat → List V → Hp → Prop)
    (h0 : ∀ G D, Same H G → G D = none → J G D 0 [] (upd G D (.lst [])))
    (hst : ∀ G D i xs H', Same H G → G D = none → J G D i xs H' → Stay G H' ∧ (∀ b o, (H b = none ∨ b ∈ Fk) → G b = some o → H' b = some o) ∧ H' D = some (.lst xs) ∧ xs.length = i)
    (hb : ∀ G D i xs d x H', Same H G → G D = none → ds[i]? = some d → J G D i xs H' → Tp C H' x d → ∃ σ2, GB g (wipe σ vs) H' x σ2 ∧ wipe σ2 vs = wipe σ vs ∧ ∀ R : VK, (∀ y H4, H4 D = some (.lst xs) → J G D (i + 1) (xs ++ [y]) (upd H4 D (.lst (xs ++ [y]))) → R y H4) → te σ2 H' R)
    (hl : ds.length ≤ sizeLine)
    (q : ∀ G D xs H', Same H G → G D = none → J G D ds.length xs H' → Q (.ref D) H') : tLc wi g tYes te vs σ H Q := by
  refine h H (Same.refl _) _ fun It H2 F s2 hF S => fun Dd hD => ?_
  refine ⟨fun i m H' => m = ds.length - i ∧ i ≤ ds.length ∧ ∃ xs, J H2 Dd i xs H', ⟨ds.length, rfl, Nat.zero_le _, [], h0 H2 Dd s2 hD⟩, ?_⟩
  rintro i m H' ⟨rfl, hi, xs, j⟩
  obtain ⟨st, fr0, e, xl⟩ := hst H2 Dd i xs H' s2 hD j
  have fr : ∀ b ∈ F, ∀ o, H2 b = some o → H' b = some o := fun b hb o e => fr0 b o (hF b hb) e
  by_cases hlt : i < ds.length
  · refine .inr ⟨S.go i H' st fr hlt, fun H3 => ∃ xs, J H2 Dd (i + 1) xs H3, fun H3 q3 => ⟨_, by omega, rfl, hlt, q3⟩, ?_⟩
    intro x H3 y
    obtain ⟨rfl, d, e1, e2⟩ := S.yld i x H' H3 st fr hlt y
    obtain ⟨σ2, g2, w2, he⟩ := hb H2 Dd i xs d x H3 s2 hD e1 j e2
    refine g2 _ ⟨w2, ?_⟩
    unfold tYes
    refine iteT ?_
    exact he _ fun y H4 e4 j4 => ⟨xs, e4, by omega, _, j4⟩
  · have : i = ds.length := by omega
    subst this
    exact .inl ⟨S.stop H' st fr, q H2 Dd xs H' s2 hD j⟩
end
section
variable {P : Program} {w : World} {K : PySem.W.Frag} {mg : Str → Option Value} {base : Heap} {C : Addr}
theorem sc__law_gr_size : FnScope ["state", "sizes_here"] ["state", "sizes_here"] (defScope s__law_gr_size) := ⟨rfl, rfl, rfl, by decide +kernel, rfl, by decide +kernel, by decide +kernel⟩
/-- a list of sizes at b -/
def SzL (H : Hp) (b p g : Addr) : Prop := b ≠ p ∧ b ≠ g ∧ ∃ ns : List Int, H b = some (.lst (ns.map V.int)) ∧ (0 < ns.length ∧ ns.length < 1000) ∧ ∀ x ∈ ns, 1 ≤ x ∧ x ≤ 50
abbrev sp__law_gr_size : Sp := fun vs H Q _ => ∃ (p g c : Addr) (n : Nat) (b : Addr), vs = [.ref p, .ref b] ∧ SA H p g c (n + 2) ∧ SzL H b p g ∧ ∀ i H', Sz i → But2 p g H H' → SA H' p g c n → Q (.int i) H'
theorem ok__law_gr_size (F : Df K mg "_law_gr_size" s__law_gr_size) (B : Bi K mg C) (h__law_pick : Cl P w K mg base "_law_pick" 3 ["state", "several"] sp__law_pick) : Cl P w K mg base "_law_gr_size" 4 ["state", "sizes_here"] sp__law_gr_size := by
  refine F.cl sc__law_gr_size (fun _ _ _ _ _ _ us hl => match us, hl with | [_, _], _ => rfl) (fun vs H Q E h => ?_) (fun f cdv A outer s H vs Q E hr h => ?_)
  · obtain ⟨p, g, c, n, b, rfl, _⟩ := h; rfl
  · obtain ⟨p, g, c, n, b, rfl, sa, ⟨bp, bg, ns, hb, ⟨n0, n1⟩, hns⟩, q⟩ := h
    refine ⟨_, (pss_one (ps_ret (pe_op op_mul (pe_cl h__law_pick (hr.mono (by decide)) (by rfl) (pa_cons (pv 0) (pa_cons (pv 1) pa_nil))) (pe_cl h__law_pick (hr.mono (by decide)) (by rfl) (pa_cons (pv 0) (pa_cons (pe_lst (pa_cons pe_int (pa_cons pe_int (pa_cons (pe_un un_neg pe_int) pa_nil)))) pa_nil)))))), ?_⟩
    refine ⟨_, rfl, _, rfl, p, g, c, n + 1, b, ns.map V.int, rfl, sa, hb, bp, bg, ⟨by rw [List.length_map]; exact n0, by rw [List.length_map]; exact n1⟩, fun i x H2 hx b2 sa2 => ?_⟩
    obtain ⟨k, hk, rfl⟩ : ∃ k : Int, ns[i]? = some k ∧ x = .int k := by
      rw [List.getElem?_map] at hx
      obtain ⟨k, h1, h2⟩ := Option.map_eq_some_iff.mp hx
      exact ⟨k, h1, h2.symm⟩
    have hk2 := hns k (List.mem_of_getElem? hk)
    refine ⟨_, rfl, 1, rfl, by rw [show ([V.int 1, V.int 1, V.int (-1)] : List V).length = 3 from rfl]; exact small_len (m := 3) (by omega) (by omega), fun a ha => ?_⟩
    have sn : Same H2 (upd H2 a (.lst [V.int 1, V.int 1, V.int (-1)])) := Same.new ha
    refine ⟨p, g, c, n, a, [V.int 1, V.int 1, V.int (-1)], rfl, sa2.same sn, upd_same, fun z => sa2.sp (by rw [← z]; exact ha), fun z => sa2.sg (by rw [← z]; exact ha), ⟨by show 0 < 3; omega, by show 3 < 1000; omega⟩, fun j y H3 hy b3 sa3 => ?_⟩
    obtain ⟨m, rfl, hm⟩ : ∃ m : Int, y = .int m ∧ (m = 1 ∨ m = -1) := by
      match j, hy with
      | 0, hy => exact ⟨1, by simpa using hy.symm, .inl rfl⟩
      | 1, hy => exact ⟨1, by simpa using hy.symm, .inl rfl⟩
      | 2, hy => exact ⟨-1, by simpa using hy.symm, .inr rfl⟩
      | j + 3, hy => simp at hy
    refine ⟨k, m, rfl, rfl, .inl ⟨by omega, by omega⟩, q (k * m) H3 ?_ (But2.trans b2 (But2.trans (Same.but2 sn) b3)) sa3⟩
    rcases hm with rfl | rfl
    · rw [Int.mul_one]; exact ⟨by omega, by omega⟩
    · rw [Int.mul_neg, Int.mul_one]; exact ⟨by omega, by omega⟩
theorem sc__law_gr_doors : FnScope ["state", "rooms_here", "more", "sizes_here", "found", "room_here", "turn", "one", "other", "item"] ["state", "rooms_here", "more", "sizes_here"] (defScope s__law_gr_doors) := ⟨rfl, rfl, rfl, by decide +kernel, rfl, by decide +kernel, by decide +kernel⟩
abbrev sp__law_gr_doors (C : Addr) : Sp := fun vs H Q _ => ∃ (p g c : Addr) (n : Nat) (rooms more : Int) (b : Addr), vs = [.ref p, .int rooms, .int more, .ref b] ∧ SA H p g c (n + 100) ∧ (1 ≤ rooms ∧ rooms ≤ 3) ∧ (0 ≤ more ∧ more ≤ 2) ∧ SzL H b p g ∧ ∀ v ds H', But2 p g H H' → SA H' p g c n → Tp C H' v (.tup (ds.map doorD)) → HW rooms ds → Q v H'
theorem ok__law_gr_doors (F : Df K mg "_law_gr_doors" s__law_gr_doors) (B : Bi K mg C) (h__law_draw : Cl P w K mg base "_law_draw" 2 ["state", "size_here"] sp__law_draw) (h__law_gr_size : Cl P w K mg base "_law_gr_size" 4 ["state", "sizes_here"] sp__law_gr_size) (h__law_mixed : Cl P w K mg base "_law_mixed" 3 ["state", "several"] (sp__law_mixed C)) : Cl P w K mg base "_law_gr_doors" 5 ["state", "rooms_here", "more", "sizes_here"] (sp__law_gr_doors C) := by
  refine F.cl sc__law_gr_doors (fun _ _ _ _ _ _ us hl => match us, hl with | [_, _, _, _], _ => rfl) (fun vs H Q E h => ?_) (fun f cdv A outer s H vs Q E hr h => ?_)
  · obtain ⟨p, g, c, n, rooms, more, b, rfl, _⟩ := h; rfl
  · obtain ⟨p, g, c, n, rooms, more, b, rfl, sa, ⟨r1, r3⟩, ⟨m0, m2⟩, sz, q⟩ := h
    refine ⟨_, (pss_cons (ps_set (i := 4) sc__law_gr_doors.nd rfl (by first | exact Or.inl rfl | exact Or.inr rfl) (pe_lst pa_nil))
      (pss_cons (ps_for PassesOwn.never rfl (pi_range2 (by rfl) B.range (pa_cons pe_int (pa_cons (pv 1) pa_nil))) (pg_name (i := 5) sc__law_gr_doors.nd rfl (by first | exact Or.inl rfl | exact Or.inr rfl)) (pss_one (ps_expr (pe_bm PySem.F.plainAttrs_list PySem.F.slot_list_append PySem.F.type_list_append mt_append (pv 4) (pa_cons (pe_tup (pa_cons (pe_cl h__law_draw (hr.mono (by decide)) (by rfl) (pa_cons (pv 0) (pa_cons (pv 5) pa_nil))) (pa_cons (pe_cl h__law_gr_size (hr.mono (by decide)) (by rfl) (pa_cons (pv 0) (pa_cons (pv 3) pa_nil))) (pa_cons (pv 5) (pa_cons (pe_cl h__law_gr_size (hr.mono (by decide)) (by rfl) (pa_cons (pv 0) (pa_cons (pv 3) pa_nil))) pa_nil))))) pa_nil)))))
      (pss_cons (ps_for PassesOwn.never rfl (pi_range1 (by rfl) B.range (pa_cons (pe_cl h__law_draw (hr.mono (by decide)) (by rfl) (pa_cons (pv 0) (pa_cons (pe_op op_add (pv 2) pe_int) pa_nil))) pa_nil)) (pg_name (i := 6) sc__law_gr_doors.nd rfl (by first | exact Or.inl rfl | exact Or.inr rfl)) (pss_cons (ps_par (i := 7) (j := 8) (by rfl) sc__law_gr_doors.nd rfl rfl (by decide) rfl rfl (pa_cons (pe_cl h__law_draw (hr.mono (by decide)) (by rfl) (pa_cons (pv 0) (pa_cons (pv 1) pa_nil))) (pa_cons (pe_cl h__law_draw (hr.mono (by decide)) (by rfl) (pa_cons (pv 0) (pa_cons (pv 1) pa_nil))) pa_nil)) (by rfl))
      (pss_one (ps_expr (pe_bm PySem.F.plainAttrs_list PySem.F.slot_list_append PySem.F.type_list_append mt_append (pv 4) (pa_cons (pe_tup (pa_cons (pv 7) (pa_cons (pe_cl h__law_gr_size (hr.mono (by decide)) (by rfl) (pa_cons (pv 0) (pa_cons (pv 3) pa_nil))) (pa_cons (pv 8) (pa_cons (pe_cl h__law_gr_size (hr.mono (by decide)) (by rfl) (pa_cons (pv 0) (pa_cons (pv 3) pa_nil))) pa_nil))))) pa_nil))))))
      (pss_cons (ps_setLc (i := 4) (own := [("item", 9)]) (tt := tYes) (te := tIf _ _ (tTup (tCons (tOp (rIxT K) _ _) (tCons (tOp (rIxT K) _ _) (tCons (tOp (rIxT K) _ _) (tCons (tOp (rIxT K) _ _) tNil)))))) rfl sc__law_gr_doors.nd rfl rfl (sw_true rfl rfl rfl (by decide +kernel)) (pi_list (pv 4)) (blkOk_by (own := [("item", 9)]) (N := ["state", "rooms_here", "more", "sizes_here", "found", "room_here", "turn", "one", "other", "item"]) (sc := defScope s__law_gr_doors) (by decide +kernel)) (fun _ _ _ _ _ => (pg_name (i := 9) sc__law_gr_doors.nd rfl (by first | exact Or.inl rfl | exact Or.inr rfl))) (fun _ _ _ _ _ => pts_nil) (fun _ _ _ _ _ => (pe_ifExp (pt_cmpR op_eq (pe_cl h__law_draw (hr.mono (by decide)) (by rfl) (pa_cons (pv 0) (pa_cons pe_int pa_nil))) pe_int (nomark _)) (pv 9) (pe_tup (pa_cons (pe_ix ix_tup (pv 9) pe_int (fun _ _ => rfl)) (pa_cons (pe_ix ix_tup (pv 9) pe_int (fun _ _ => rfl)) (pa_cons (pe_ix ix_tup (pv 9) pe_int (fun _ _ => rfl)) (pa_cons (pe_ix ix_tup (pv 9) pe_int (fun _ _ => rfl)) pa_nil))))))))
      (pss_one (ps_ret (pe_callTy call_tuple_of (by rfl) B.tuple (by decide +kernel) (pa_cons (pe_cl h__law_mixed (hr.mono (by decide)) (by rfl) (pa_cons (pv 0) (pa_cons (pv 4) pa_nil))) pa_nil)))))))), ?_⟩
    obtain ⟨bp, bg, ns, hb, nl, hns⟩ := id sz
    apply st_setL (C := C) (ds := [])
    · apply evl_lst
      · trivial
      · exact Nat.zero_le _
    intro a vs0 H1 s1 hn ha r0
    cases tpa_nil r0
    have ap : a ≠ p := fun z => sa.sp (by rw [← z]; exact hn)
    have ag : a ≠ g := fun z => sa.sg (by rw [← z]; exact hn)
    have ac : a ≠ c := fun z => sa.sc (by rw [← z]; exact hn)
    have ba : b ≠ a := fun z => by rw [z, hn] at hb; cases hb
    have updSA : ∀ {H' : Hp} {m : Nat} {o : HO}, SA H' p g c m → SA (upd H' a o) p g c m := by
      intro H' m o sa
      obtain ⟨gs, cs, l, t, e1, e2, e3, r⟩ := sa
      exact ⟨gs, cs, l, t, by rw [upd_ne (Ne.symm ap)]; exact e1, by rw [upd_ne (Ne.symm ag)]; exact e2, by rw [upd_ne (Ne.symm ac)]; exact e3, r⟩
    have szAt : ∀ {H' : Hp}, But2 p g H H' → SzL H' b p g := fun b2 => ⟨bp, bg, ns, b2 b _ bp bg hb, nl, hns⟩
    -- what stands through the loops
    let J : List Door → Nat → Hp → Prop := fun ds m H' => But2 p g H H' ∧ SA H' p g c m ∧ ∃ vs, H' a = some (.lst vs) ∧ TpA C H' vs (ds.map doorD)
    have jstay : ∀ {ds m H'}, J ds m H' → ∀ {H''}, But2 p g H' H'' → ∀ {m'}, SA H'' p g c m' → J ds m' H'' := by
      rintro ds m H' ⟨b2, sa', vs, e, t⟩ H'' b3 m' sa''
      exact ⟨But2.trans b2 b3, sa'', vs, b3 a _ ap ag e, t.stay (sa'.stay b3)⟩
    have jsame : ∀ {ds m H'}, J ds m H' → ∀ {H''}, Same H' H'' → J ds m H'' := fun j _ s => jstay j (Same.but2 s) (j.2.1.same s)
    have jmono : ∀ {ds m H'}, J ds m H' → ∀ {m'}, m' ≤ m → J ds m' H' := fun j _ h => ⟨j.1, j.2.1.mono h, j.2.2⟩
    have fr : ∀ {ds0 ds m0 m G H'}, J ds0 m0 G → But3 p g a G H' → J ds m H' → (Stay G H' ∧ ∀ {Hs : Hp} b o, J ds0 m0 Hs → (Hs b = none ∨ b ∈ ([] : List Addr)) → G b = some o → H' b = some o) := by
      rintro ds0 ds m0 m G H' ⟨g1, g2, vsg, g3, g4⟩ b3 j
      refine ⟨fun z o ez iz => b3 z o (fun y => g2.np o (by rw [← y]; exact ez) iz) (fun y => g2.ng o (by rw [← y]; exact ez) iz) (fun y => notImm_lst g3 o (by rw [← y]; exact ez) iz) ez, ?_⟩
      rintro Hs z o ⟨h1, h2, vsh, h3, h4⟩ hz ez
      refine b3 z o (fun y => ?_) (fun y => ?_) (fun y => ?_) ez
      · subst y; rcases hz with hz | hz
        · exact h2.sp hz
        · exact nomatch hz
      · subst y; rcases hz with hz | hz
        · exact h2.sg hz
        · exact nomatch hz
      · subst y; rcases hz with hz | hz
        · rw [h3] at hz; cases hz
        · exact nomatch hz
    have j0 : J [] (n + 100) H1 := ⟨Same.but2 s1, sa.same s1, [], ha, .nil⟩
    have japp : ∀ {ds m H3}, J ds m H3 → ∀ {vs}, H3 a = some (.lst vs) → ∀ {qq} (d : Door), H3 qq = none → J (ds ++ [d]) m (upd (upd H3 qq (.tup [.int d.1, .int d.2.1, .int d.2.2.1, .int d.2.2.2])) a (.lst (vs ++ [.ref qq]))) := by
      rintro ds m H3 ⟨b2, sa', vs', e', t'⟩ vs e qq d hq
      have e2 : vs' = vs := by
        rw [e] at e'
        injection e' with h
        injection h with h
        exact h.symm
      rw [e2] at t'
      have sn : Same H3 (upd H3 qq (.tup [.int d.1, .int d.2.1, .int d.2.2.1, .int d.2.2.2])) := Same.new hq
      have st : Stay (upd H3 qq (.tup [.int d.1, .int d.2.1, .int d.2.2.1, .int d.2.2.2])) (upd (upd H3 qq (.tup [.int d.1, .int d.2.1, .int d.2.2.1, .int d.2.2.2])) a (.lst (vs ++ [.ref qq]))) := But.stay (p := a) but_up (notImm_lst (sn _ _ e))
      refine ⟨fun z o zp zg ez => ?_, updSA (sa'.same sn), _, upd_same, ?_⟩
      · rw [upd_ne (fun y => by rw [y, hn] at ez; cases ez)]
        exact sn _ _ (b2 z o zp zg ez)
      · rw [List.map_append]
        refine ((t'.same sn).stay st).append (.cons (Tp.stay st ?_) .nil)
        exact door_tp ⟨qq, rfl, upd_same⟩
    have bapp : ∀ {G H3 : Hp} {qq : Addr} {o : HO} {l : List V}, But3 p g a G H3 → H3 qq = none → But3 p g a G (upd (upd H3 qq o) a (.lst l)) := by
      intro G H3 qq o l b3 hq z o' zp zg za ez
      rw [upd_ne za]
      have := b3 z o' zp zg za ez
      rw [upd_ne (fun y => by rw [y, hq] at this; cases this)]
      exact this
    have b23 : ∀ {G H2 H3 : Hp}, But3 p g a G H2 → But2 p g H2 H3 → But3 p g a G H3 := fun b3 b2 z o zp zg za ez => b2 z o zp zg (b3 z o zp zg za ez)
    refine st_for (C := C) (wi := _) (ei_rng2 (C := C) (i := 1) (j := rooms) ?_ (by omega) (by omega) (by omega) (by omega)) (fun G i σ' H' => ∃ x5 ds, σ' = [some (.ref p), some (.int rooms), some (.int more), some (.ref b), some (.ref a), x5, none, none, none, none] ∧ But3 p g a G H' ∧ J ds (n + 100 - 5 * i) H' ∧ ds.length = i ∧ GD rooms (1 + i) ds) ?_ ?_ ?_ ?_
    · trivial
    · intro G sG
      exact ⟨none, [], rfl, fun _ _ _ _ _ h => h, jsame j0 sG, rfl, GD.nil rooms⟩
    · rintro G i σ' H' sG ⟨x5, ds, rfl, b3, j, _⟩
      obtain ⟨h1, h2⟩ := fr (jsame j0 sG) b3 j
      exact ⟨h1, fun z o hz ez => h2 z o j0 hz ez⟩
    · rintro G i d x σ' H' sG hi ⟨x5, ds, rfl, b3, j, dl, gd⟩ tx
      obtain ⟨hi2, rfl⟩ := rng_item2 hi
      cases tp_num tx
      refine ⟨_, gb_name, ?_⟩
      obtain ⟨b2, sa', vs, e, t⟩ := id j
      have vl : vs.length = i := by rw [t.length, List.length_map, dl]
      refine ⟨_, rfl, .inl ⟨rfl, vs, .inl (.inl e)⟩, _, rfl, _, rfl, p, g, c, n + 100 - 5 * i - 1, _, rfl, sa'.mono (by omega), ⟨by omega, by omega⟩, fun d1 H2 d10 d11 bb2 sa2 => ?_⟩
      have j2 := jstay j bb2 sa2
      refine ⟨_, rfl, _, rfl, p, g, c, n + 100 - 5 * i - 3, b, rfl, sa2.mono (by omega), szAt j2.1, fun s1 H3 z1 bb3 sa3 => ?_⟩
      have j3 := jstay j2 bb3 sa3
      refine ⟨_, rfl, _, rfl, _, rfl, p, g, c, n + 100 - 5 * (i + 1), b, rfl, sa3.mono (by omega), szAt j3.1, fun s2 H4 z2 bb4 sa4 => ?_⟩
      have j4 := jstay j3 bb4 sa4
      have e4 := bb4 a _ ap ag (bb3 a _ ap ag (bb2 a _ ap ag e))
      refine ⟨small_len (m := 4) (Nat.le_refl 4) (by omega), fun qq hq => ?_⟩
      refine ⟨a, vs, .ref qq, rfl, rfl, Same.new hq _ _ e4, small_lt (m := 100) (by omega) (by omega), ?_⟩
      refine ⟨_, ds ++ [(d1, s1, 1 + (i : Int), s2)], rfl, bapp (b23 (b23 (b23 b3 bb2) bb3) bb4) hq, japp j4 e4 (d1, s1, 1 + (i : Int), s2) hq, by simp [dl], ?_⟩
      have := gd.snoc2 (a := d1) (x := s1) (y := s2) ⟨d10, d11⟩ z1 (by omega) z2
      rw [show ((i + 1 : Nat) : Int) = (i : Int) + 1 by omega, ← Int.add_assoc]
      exact this
    rintro G σ' H2 sG ⟨x5, ds1, rfl, b3, j1, dl1, gd1⟩
    rw [List.length_map, List.length_range] at j1 dl1 gd1
    have gd1 : GD rooms rooms ds1 := by
      have : (1 : Int) + ((rooms - 1).toNat : Int) = rooms := by omega
      rw [this] at gd1
      exact gd1
    have j1 : J ds1 (n + 90) H2 := jmono j1 (by omega)
    have dl1 : ds1.length ≤ 2 := by omega
    clear b3 sG
    -- the second loop
    refine ⟨_, rfl, _, rfl, more, 1, rfl, rfl, p, g, c, n + 89, more + 1, rfl, j1.2.1.mono (by omega), ⟨by omega, by omega⟩, fun tn H3 tn0 tn1 bb3 sa3 => ?_⟩
    have j3 := jstay j1 bb3 sa3
    clear sa3
    refine ⟨tn, rfl, by omega, by omega, for_src (C := C) (src_rng 0 tn.toNat) (fun i σ' H' => ∃ x6 x7 x8 ds, σ' = [some (.ref p), some (.int rooms), some (.int more), some (.ref b), some (.ref a), x5, x6, x7, x8, none] ∧ But3 p g a H3 H' ∧ J ds (n + 89 - 6 * i) H' ∧ ds.length ≤ 2 + i ∧ GD rooms rooms ds) ?_ ?_ ?_ ?_⟩
    · exact ⟨none, none, none, ds1, rfl, fun _ _ _ _ _ h => h, j3, dl1, gd1⟩
    · rintro i σ' H' ⟨x6, x7, x8, ds, rfl, b3, j, _⟩
      obtain ⟨h1, h2⟩ := fr j3 b3 j
      exact ⟨h1, fun z hz => nomatch hz⟩
    · rintro i d x σ' H' hi ⟨x6, x7, x8, ds, rfl, b3, j, dl, gd⟩ tx
      obtain ⟨hi2, rfl⟩ := rng_item2 hi
      cases tp_num tx
      refine ⟨_, gb_name, ?_⟩
      obtain ⟨b2, sa', vs, e, t⟩ := id j
      have vl : vs.length ≤ 2 + i := by rw [t.length, List.length_map]; exact dl
      refine ⟨_, rfl, _, rfl, p, g, c, n + 89 - 6 * i - 1, _, rfl, sa'.mono (by omega), ⟨by omega, by omega⟩, fun o1 Ha o10 o11 ba2 saa => ?_⟩
      have ja := jstay j ba2 saa
      refine ⟨_, rfl, _, rfl, p, g, c, n + 89 - 6 * i - 2, _, rfl, saa.mono (by omega), ⟨by omega, by omega⟩, fun o2 Hb o20 o21 bb2 sab => ?_⟩
      have jb := jstay ja bb2 sab
      refine ⟨_, _, rfl, ?_⟩
      have eb := bb2 a _ ap ag (ba2 a _ ap ag e)
      refine ⟨_, rfl, .inl ⟨rfl, vs, .inl (.inl eb)⟩, _, rfl, _, rfl, _, rfl, p, g, c, n + 89 - 6 * i - 4, b, rfl, sab.mono (by omega), szAt jb.1, fun s1 Hc z1 bc2 sac => ?_⟩
      have jc := jstay jb bc2 sac
      refine ⟨_, rfl, _, rfl, _, rfl, p, g, c, n + 89 - 6 * (i + 1), b, rfl, sac.mono (by omega), szAt jc.1, fun s2 Hd z2 bd2 sad => ?_⟩
      have jd := jstay jc bd2 sad
      have ed := bd2 a _ ap ag (bc2 a _ ap ag eb)
      refine ⟨small_len (m := 4) (Nat.le_refl 4) (by omega), fun qq hq => ?_⟩
      refine ⟨a, vs, .ref qq, rfl, rfl, Same.new hq _ _ ed, small_lt (m := 100) (by omega) (by omega), ?_⟩
      refine ⟨_, _, _, ds ++ [(o1, s1, o2, s2)], rfl, bapp (b23 (b23 (b23 (b23 b3 ba2) bb2) bc2) bd2) hq, japp jd ed (o1, s1, o2, s2) hq, by rw [List.length_append, List.length_singleton]; omega, gd.snoc ⟨o10, o11⟩ z1 ⟨o20, o21⟩ z2⟩
    rintro σ' H4 ⟨x6, x7, x8, ds2, rfl, b3, j4, dl2, gd2⟩
    rw [List.length_map, List.length_range] at j4 dl2
    have j4 : J ds2 (n + 70) H4 := jmono j4 (by omega)
    have dl2 : ds2.length ≤ 4 := by omega
    clear b3
    obtain ⟨b4, sa4, vs4, e4, t4⟩ := j4
    have vl4 : vs4.length ≤ 4 := by rw [t4.length, List.length_map]; exact dl2
    dsimp only
    refine st_lcg ?_
    refine lc_gen2 (C := C) (H := H4) (ds := ds2.map doorD) (Fk := [a]) (ei_at (C := C) (a := a) (vs := vs4) (evv_var rfl) e4 t4) (fun G D i xs H' => But2 p g H H' ∧ SA H' p g c (n + 70 - i) ∧ But3 p g D G H' ∧ Same H4 G ∧ H' D = some (.lst xs) ∧ xs.length = i ∧ ∃ ds', TpA C H' xs (ds'.map doorD) ∧ Paired (fun d d' => d' = d ∨ d' = flp d) (ds2.take i) ds') ?_ ?_ ?_ ?_ ?_
    · intro G D sG hD
      have sD : Same H4 (upd G D (.lst [])) := Same.newer sG hD
      exact ⟨But2.trans b4 (Same.but2 sD), sa4.same sD, fun z o _ _ zD ez => by rw [upd_ne zD]; exact ez, sG, upd_same, rfl, [], .nil, .nil⟩
    · rintro G D i xs H' sG hD ⟨j1, j2, j3, j4, j5, j6, _⟩
      have sG4 := sa4.same sG
      refine ⟨fun z o ez iz => j3 z o (fun y => sG4.np o (by rw [← y]; exact ez) iz) (fun y => sG4.ng o (by rw [← y]; exact ez) iz) (fun y => by rw [y, hD] at ez; cases ez) ez, fun z o hz ez => j3 z o (fun y => ?_) (fun y => ?_) (fun y => by rw [y, hD] at ez; cases ez) ez, j5, j6⟩
      · rcases hz with hz | hz
        · exact sa4.sp (y ▸ hz)
        · exact ap (by rw [← List.mem_singleton.mp hz]; exact y)
      · rcases hz with hz | hz
        · exact sa4.sg (y ▸ hz)
        · exact ag (by rw [← List.mem_singleton.mp hz]; exact y)
    · rintro G D i xs d x H' sG hD hi ⟨j1, j2, j3, j4, j5, j6, ds', j7, j8⟩ tx
      obtain ⟨dr, hdr, rfl⟩ := map_item hi
      have hi4 : i < ds2.length := (List.getElem?_eq_some_iff.mp hdr).1
      refine ⟨_, gb_name, rfl, fun R hR => ?_⟩
      have Dp : D ≠ p := fun z => (sa4.same sG).sp (by rw [← z]; exact hD)
      have Dg : D ≠ g := fun z => (sa4.same sG).sg (by rw [← z]; exact hD)
      have Dc : D ≠ c := fun z => (sa4.same sG).sc (by rw [← z]; exact hD)
      have hDH : H D = none := by
        cases hh : H D with
        | none => rfl
        | some o => rw [sG _ _ (b4 D o Dp Dg hh)] at hD; cases hD
      refine ⟨_, rfl, p, g, c, n + 70 - (i + 1), 2, rfl, j2.mono (by omega), ⟨by decide, by decide⟩, fun k H5 k0 k1 b5 sa5 => ⟨rfl, _, rfl, ?_⟩⟩
      have st5 : Stay H' H5 := j2.stay b5
      have e5 := b5 D _ Dp Dg j5
      have tk : ds2.take (i + 1) = ds2.take i ++ [dr] := by rw [List.take_add_one, hdr]; rfl
      have fin : ∀ (y : V) (H6 : Hp) (d' : Door), Same H5 H6 → Tp C H6 y (doorD d') → (d' = dr ∨ d' = flp dr) → R y H6 := by
        intro y H6 d' s6 ty hd'
        have e6 := s6 _ _ e5
        have st6 : Stay H6 (upd H6 D (.lst (xs ++ [y]))) := But.stay (p := D) but_up (notImm_lst e6)
        refine hR y H6 e6 ⟨fun z o zp zg ez => ?_, ?_, fun z o zp zg zD ez => ?_, sG, upd_same, by simp [j6], ds' ++ [d'], ?_, ?_⟩
        · rw [upd_ne (fun y => by rw [y, hDH] at ez; cases ez)]
          exact s6 _ _ (b5 z o zp zg (j1 z o zp zg ez))
        · obtain ⟨gs, cs, l, t, e1, e2, e3, r⟩ := sa5.same s6
          exact ⟨gs, cs, l, t, by rw [upd_ne (Ne.symm Dp)]; exact e1, by rw [upd_ne (Ne.symm Dg)]; exact e2, by rw [upd_ne (Ne.symm Dc)]; exact e3, r⟩
        · rw [upd_ne zD]
          exact s6 _ _ (b5 z o zp zg (j3 z o zp zg zD ez))
        · rw [List.map_append]
          exact (((j7.stay st5).same s6).stay st6).append (.cons (ty.stay st6) .nil)
        · rw [tk]
          exact paired_snoc (R := fun d d' => d' = d ∨ d' = flp d) hd' j8
      by_cases hk : V.int k = V.int 0
      · rw [decide_eq_true hk]
        refine iteT ⟨_, rfl, fin x H5 dr (Same.refl _) (tx.stay st5) (.inl rfl)⟩
      · rw [decide_eq_false hk]
        refine iteF ?_
        have tx5 : Tp C H5 x (.tup [.num dr.1, .num dr.2.1, .num dr.2.2.1, .num dr.2.2.2]) := tx.stay st5
        have ev : EvD C (tTup (tCons (tOp (rIxT K) (tVar 9) (tC (.int 2))) (tCons (tOp (rIxT K) (tVar 9) (tC (.int 3))) (tCons (tOp (rIxT K) (tVar 9) (tC (.int 0))) (tCons (tOp (rIxT K) (tVar 9) (tC (.int 1))) tNil))))) [some (.ref p), some (.int rooms), some (.int more), some (.ref b), some (.ref a), x5, x6, x7, x8, some x] H5 (doorD (flp dr)) := by
          show EvD C _ _ _ (.tup [.num _, .num _, .num _, .num _])
          apply ev_tup
          · refine ea_cons (ev_ixi (n := 2) (ev_var rfl tx5) ev_int rfl rfl) (ea_cons (ev_ixi (n := 3) (ev_var rfl tx5) ev_int rfl rfl) (ea_cons (ev_ixi (n := 0) (ev_var rfl tx5) ev_int rfl rfl) (ea_cons (ev_ixi (n := 1) (ev_var rfl tx5) ev_int rfl rfl) ea_nil)))
          · exact small_len (m := 4) (Nat.le_refl 4) (by omega)
        refine ev H5 (Same.refl _) _ fun y H6 s6 t6 => fin y H6 (flp dr) s6 t6 (.inr rfl)
    · rw [List.length_map]; exact small_len (m := 4) dl2 (by omega)
    rintro G D xs H5 sG hD ⟨j1, j2, j3, j4, j5, j6, ds', j7, j8⟩
    rw [List.length_map] at j2 j6 j8
    rw [List.take_length] at j8
    have gd3 := gd2.flips j8
    have dl3 : ds'.length = ds2.length := (Paired.length j8).symm
    refine ⟨_, rfl, _, rfl, p, g, c, n, D, xs, ds', rfl, j2.mono (by omega), j5, j7, by omega, fun a' xs' ds'' H6 b6 sa6 hn6 e6 t6 pm => ?_⟩
    refine ⟨a', xs', rfl, .inl ⟨.inl (.inl e6), fun l hl => ?_⟩⟩
    have sl : Same H6 (upd H6 l (.tup xs')) := Same.new hl
    have gd4 := gd3.perm pm
    have dl4 := pm.length_eq
    refine q (.ref l) ds'' _ (But2.trans j1 (But2.trans b6 (Same.but2 sl))) (sa6.same sl) (.tup upd_same (t6.same sl)) ⟨⟨r1, by omega, by omega, fun d hd => (gd4.ok d hd).1, gd4.con⟩, by omega, fun d hd => (gd4.ok d hd).2⟩
end
end K49

set_option Elab.async false
set_option linter.all false
set_option maxRecDepth 100000
set_option maxHeartbeats 4000000
/-! Houses drawn. -/
namespace K49
open PySem PySem.Spec PyProof.Rows L2 Y
local macro_rules | `(tactic| trivial) => `(tactic| first
  | with_reducible exact ev_int
  | with_reducible exact ev_bl
  | with_reducible exact ev_non
  | with_reducible exact ea_nil
  | with_reducible exact et_yes
  | ((with_reducible apply ev_var); exact rfl; first | exact .num _ | exact .bl _ | exact .non | assumption)
  | ((with_reducible apply ea_cons); trivial; trivial)
  | ((with_reducible apply ev_tup); trivial; first | decide | (show _ ≤ sizeLine; simp; decide))
  | ((with_reducible apply ev_ix0); trivial; trivial; exact rfl)
  | ((with_reducible apply ev_ix1); trivial; trivial; exact rfl)
  | ((with_reducible apply ev_ix2); trivial; trivial; exact rfl)
  | ((with_reducible apply ev_ix3); trivial; trivial; exact rfl)
  | ((with_reducible apply ev_opI); trivial; trivial)
  | ((with_reducible apply ev_opB); trivial; trivial)
  | ((with_reducible apply ev_eqI); trivial; trivial)
  | ((with_reducible apply ev_neI); trivial; trivial)
  | ((with_reducible apply ev_un); trivial)
  | ((with_reducible apply ev_chain); trivial; trivial; trivial)
  | ((with_reducible apply ev_abs); trivial)
  | ((with_reducible apply ev_intI); trivial)
  | ((with_reducible apply ev_gcd); trivial; trivial)
  | ((with_reducible apply ev_lenT); trivial)
  | ((with_reducible apply et_test); trivial)
  | ((with_reducible apply et_B); trivial)
  | ((with_reducible apply et_not); trivial)
  | ((with_reducible apply et_and); trivial; (intro _; trivial))
  | ((with_reducible apply et_or); trivial; (intro _; trivial))
  | ((with_reducible apply ev_andV); trivial; (intro _; trivial))
  | ((with_reducible apply ev_orV); trivial; (intro _; trivial))
  | ((with_reducible apply ev_notV); trivial)
  | ((with_reducible apply ev_isN); trivial)
  | ((with_reducible apply ev_notN); trivial)
  | ((with_reducible apply ev_isiII); trivial)
  | ((with_reducible apply ev_isiIB); trivial)
  | ((with_reducible apply ev_isiTT); trivial)
  | ((with_reducible apply ev_isH); trivial))
/-- readings of new lists of numbers -/
def EvAL (as : TA) (σ : L2.St) (H : Hp) (rows : List (List Int)) : Prop := ∀ H1, Same H H1 → ∀ Q : List V → Hp → Prop, (∀ vs H2, Same H1 H2 → Paired (fun v r => IL r H2 v ∧ ∀ a, v = .ref a → H1 a = none) vs rows → Q vs H2) → as σ H1 Q
theorem eal_nil {σ : L2.St} {H : Hp} : EvAL tNil σ H [] := fun H1 _ Q q => q [] H1 (Same.refl _) .nil
theorem pal_same {H1 H0 H2 H3 : Hp} (s0 : Same H0 H1) (s : Same H2 H3) : ∀ {vs : List V} {rows : List (List Int)}, Paired (fun v r => IL r H2 v ∧ ∀ a, v = .ref a → H1 a = none) vs rows → Paired (fun v r => IL r H3 v ∧ ∀ a, v = .ref a → H0 a = none) vs rows
  | _, _, .nil => .nil
  | _, _, .cons x y => .cons ⟨x.1.same s, fun a e => s0.free (x.2 a e)⟩ (pal_same s0 s y)
theorem eal_cons {C : Addr} {te : TE} {as : TA} {σ : L2.St} {H : Hp} {row : List Int} {rows : List (List Int)} (h : EvL C te σ H (row.map D.num)) (r : EvAL as σ H rows) : EvAL (tCons te as) σ H (row :: rows) := fun H1 s Q q =>
  h H1 s _ fun l vs0 H2 s2 hn h2 t2 => r H2 (Same.trans s s2) _ fun vs H3 s3 p => q (.ref l :: vs) H3 (Same.trans s2 s3) (.cons ⟨(show IL row H2 (.ref l) from ⟨l, rfl, by rw [h2, nums_of t2]⟩).same s3, fun a e => by cases e; exact hn⟩ (pal_same s2 (Same.refl _) p))
theorem pal_get {H1 H2 : Hp} : ∀ {vs : List V} {rows : List (List Int)} {i : Nat} {v : V}, Paired (fun v r => IL r H2 v ∧ ∀ a, v = .ref a → H1 a = none) vs rows → vs[i]? = some v → ∃ row, row ∈ rows ∧ IL row H2 v ∧ ∀ a, v = .ref a → H1 a = none
  | _, _, 0, v, .cons x y, h => by
    simp at h; subst h
    exact ⟨_, List.mem_cons_self, x⟩
  | _, _, i + 1, v, .cons x y, h => by
    obtain ⟨row, hr, z⟩ := pal_get (i := i) y (by simpa using h)
    exact ⟨row, List.mem_cons_of_mem _ hr, z⟩
  | _, _, _, _, .nil, h => by simp at h
def RowOk (row : List Int) : Prop := (0 < row.length ∧ row.length < 1000) ∧ ∀ x ∈ row, 1 ≤ x ∧ x ≤ 50
instance (row : List Int) : Decidable (RowOk row) := by unfold RowOk; infer_instance
/-- pick(state, [[..], ..]) -/
theorem pick_rows {as : TA} {σ : L2.St} {H : Hp} {rows : List (List Int)} {p g c : Addr} {n i : Nat} {Q : VK} (hv : σ[i]? = some (some (.ref p))) (h : EvAL as σ H rows) (sa : SA H p g c (n + 1)) (ok : ∀ row ∈ rows, RowOk row) (l0 : 0 < rows.length) (l1 : rows.length < 1000)
    (q : ∀ b H', But2 p g H H' → SA H' p g c n → SzL H' b p g → Q (.ref b) H') : tCall sp__law_pick [] E0 (tCons (tVar i) (tCons (tLst as) tNil)) σ H Q := by
  refine ⟨_, hv, h H (Same.refl _) _ fun vs H2 s2 pr => ?_⟩
  have vl : vs.length = rows.length := Paired.length pr
  refine ⟨small_len (m := 1000) (by omega) (by omega), fun a ha => ?_⟩
  have sn : Same H2 (upd H2 a (.lst vs)) := Same.new ha
  have s02 := Same.trans s2 sn
  refine ⟨p, g, c, n, a, vs, rfl, sa.same s02, upd_same, fun z => (sa.same s2).sp (by rw [← z]; exact ha), fun z => (sa.same s2).sg (by rw [← z]; exact ha), ⟨by omega, by omega⟩, fun j x H3 hx b3 sa3 => ?_⟩
  obtain ⟨row, hr, ⟨r, rfl, er⟩, fr⟩ := pal_get pr hx
  have hn := fr r rfl
  have rp : r ≠ p := fun z => sa.sp (by rw [← z]; exact hn)
  have rg : r ≠ g := fun z => sa.sg (by rw [← z]; exact hn)
  obtain ⟨o1, o2⟩ := ok row hr
  exact q r H3 (But2.trans (Same.but2 s02) b3) sa3 ⟨rp, rg, row, b3 r _ rp rg (sn _ _ er), o1, o2⟩
theorem evl_nums {C : Addr} {as : TA} {σ : L2.St} {H : Hp} {ns : List Int} (h : EvA C as σ H (ns.map D.num)) (hl : ns.length ≤ 100) : EvL C (tLst as) σ H (ns.map D.num) := evl_lst h (by rw [List.length_map]; exact small_len hl (by omega))
section
variable {P : Program} {w : World} {K : PySem.W.Frag} {mg : Str → Option Value} {base : Heap} {C : Addr}
theorem sc__law_gr_house : FnScope ["state", "most", "more", "rooms_here", "sizes_here"] ["state", "most", "more"] (defScope s__law_gr_house) := ⟨rfl, rfl, rfl, by decide +kernel, rfl, by decide +kernel, by decide +kernel⟩
abbrev sp__law_gr_house (C : Addr) : Sp := fun vs H Q _ => ∃ (p g c : Addr) (n : Nat), vs = [.ref p, .int 3, .int 2] ∧ SA H p g c (n + 110) ∧ ∀ v rooms ds H', But2 p g H H' → SA H' p g c n → Tp C H' v (.tup [.num rooms, .tup (ds.map doorD)]) → HW rooms ds → rooms ≤ 3 → Q v H'
theorem ok__law_gr_house (F : Df K mg "_law_gr_house" s__law_gr_house) (B : Bi K mg C) (h__law_draw : Cl P w K mg base "_law_draw" 2 ["state", "size_here"] sp__law_draw) (h__law_pick : Cl P w K mg base "_law_pick" 3 ["state", "several"] sp__law_pick) (h__law_gr_doors : Cl P w K mg base "_law_gr_doors" 5 ["state", "rooms_here", "more", "sizes_here"] (sp__law_gr_doors C)) : Cl P w K mg base "_law_gr_house" 6 ["state", "most", "more"] (sp__law_gr_house C) := by
  refine F.cl sc__law_gr_house (fun _ _ _ _ _ _ us hl => match us, hl with | [_, _, _], _ => rfl) (fun vs H Q E h => ?_) (fun f cdv A outer s H vs Q E hr h => ?_)
  · obtain ⟨p, g, c, n, rfl, _⟩ := h; rfl
  · obtain ⟨p, g, c, n, rfl, sa, q⟩ := h
    refine ⟨_, (pss_cons (ps_set (i := 3) sc__law_gr_house.nd rfl (by first | exact Or.inl rfl | exact Or.inr rfl) (pe_op op_add pe_int (pe_cl h__law_draw (hr.mono (by decide)) (by rfl) (pa_cons (pv 0) (pa_cons (pv 1) pa_nil)))))
      (pss_cons (ps_set (i := 4) sc__law_gr_house.nd rfl (by first | exact Or.inl rfl | exact Or.inr rfl) (pe_cl h__law_pick (hr.mono (by decide)) (by rfl) (pa_cons (pv 0) (pa_cons (pe_lst (pa_cons (pe_lst (pa_cons pe_int pa_nil)) (pa_cons (pe_lst (pa_cons pe_int (pa_cons pe_int pa_nil))) (pa_cons (pe_lst (pa_cons pe_int (pa_cons pe_int (pa_cons pe_int pa_nil)))) (pa_cons (pe_lst (pa_cons pe_int (pa_cons pe_int pa_nil))) (pa_cons (pe_lst (pa_cons pe_int (pa_cons pe_int (pa_cons pe_int (pa_cons pe_int (pa_cons pe_int pa_nil)))))) (pa_cons (pe_lst (pa_cons pe_int (pa_cons pe_int (pa_cons pe_int pa_nil)))) pa_nil))))))) pa_nil))))
      (pss_one (ps_ret (pe_tup (pa_cons (pv 3) (pa_cons (pe_cl h__law_gr_doors (hr.mono (by decide)) (by rfl) (pa_cons (pv 0) (pa_cons (pv 3) (pa_cons (pv 2) (pa_cons (pv 4) pa_nil))))) pa_nil))))))), ?_⟩
    refine ⟨_, rfl, _, rfl, p, g, c, n + 102, 3, rfl, sa.mono (by omega), ⟨by decide, by decide⟩, fun k H1 k0 k1 b1 sa1 => ⟨_, _, rfl, rfl, ?_⟩⟩
    refine pick_rows (as := tCons _ (tCons _ (tCons _ (tCons _ (tCons _ (tCons _ tNil)))))) (rows := [[1], [1, 2], [1, 2, 3], [2, 3], [1, 1, 1, 2, 7], [3, 12, 50]]) (p := p) (g := g) (c := c) (n := n + 101) rfl ?_ sa1 (by decide) (by decide) (by decide) fun b H2 b2 sa2 sz => ?_
    · refine eal_cons (C := C) (evl_nums ?_ (by decide)) (eal_cons (C := C) (evl_nums ?_ (by decide)) (eal_cons (C := C) (evl_nums ?_ (by decide)) (eal_cons (C := C) (evl_nums ?_ (by decide)) (eal_cons (C := C) (evl_nums ?_ (by decide)) (eal_cons (C := C) (evl_nums ?_ (by decide)) eal_nil)))))
      · exact ea_cons ev_int ea_nil
      · exact ea_cons ev_int (ea_cons ev_int ea_nil)
      · exact ea_cons ev_int (ea_cons ev_int (ea_cons ev_int ea_nil))
      · exact ea_cons ev_int (ea_cons ev_int ea_nil)
      · exact ea_cons ev_int (ea_cons ev_int (ea_cons ev_int (ea_cons ev_int (ea_cons ev_int ea_nil))))
      · exact ea_cons ev_int (ea_cons ev_int (ea_cons ev_int ea_nil))
    · refine ⟨_, rfl, _, rfl, _, rfl, _, rfl, _, rfl, p, g, c, n, 1 + k, 2, b, rfl, sa2.mono (by omega), ⟨by omega, by omega⟩, ⟨by decide, by decide⟩, sz, fun v ds H3 b3 sa3 tv hw => ?_⟩
      refine ⟨small_len (m := 2) (Nat.le_refl 2) (by omega), fun t ht => ?_⟩
      have sn : Same H3 (upd H3 t (.tup [.int (1 + k), v])) := Same.new ht
      exact q (.ref t) (1 + k) ds _ (But2.trans b1 (But2.trans b2 (But2.trans b3 (Same.but2 sn)))) (sa3.same sn) (.tup upd_same (.cons (.num _) (.cons (tv.same sn) .nil))) hw (by omega)
theorem sc__law_gr_small : FnScope ["state", "rooms_here"] ["state"] (defScope s__law_gr_small) := ⟨rfl, rfl, rfl, by decide +kernel, rfl, by decide +kernel, by decide +kernel⟩
abbrev sp__law_gr_small (C : Addr) : Sp := fun vs H Q _ => ∃ (p g c : Addr) (n : Nat), vs = [.ref p] ∧ SA H p g c (n + 110) ∧ ∀ v rooms ds H', But2 p g H H' → SA H' p g c n → Tp C H' v (.tup [.num rooms, .tup (ds.map doorD)]) → HW rooms ds → rooms ≤ 3 → Q v H'
theorem ok__law_gr_small (F : Df K mg "_law_gr_small" s__law_gr_small) (B : Bi K mg C) (h__law_draw : Cl P w K mg base "_law_draw" 2 ["state", "size_here"] sp__law_draw) (h__law_pick : Cl P w K mg base "_law_pick" 3 ["state", "several"] sp__law_pick) (h__law_gr_doors : Cl P w K mg base "_law_gr_doors" 5 ["state", "rooms_here", "more", "sizes_here"] (sp__law_gr_doors C)) : Cl P w K mg base "_law_gr_small" 6 ["state"] (sp__law_gr_small C) := by
  refine F.cl sc__law_gr_small (fun _ _ _ _ _ _ us hl => match us, hl with | [_], _ => rfl) (fun vs H Q E h => ?_) (fun f cdv A outer s H vs Q E hr h => ?_)
  · obtain ⟨p, g, c, n, rfl, _⟩ := h; rfl
  · obtain ⟨p, g, c, n, rfl, sa, q⟩ := h
    refine ⟨_, (pss_cons (ps_set (i := 1) sc__law_gr_small.nd rfl (by first | exact Or.inl rfl | exact Or.inr rfl) (pe_op op_add pe_int (pe_cl h__law_draw (hr.mono (by decide)) (by rfl) (pa_cons (pv 0) (pa_cons pe_int pa_nil)))))
      (pss_one (ps_ret (pe_tup (pa_cons (pv 1) (pa_cons (pe_cl h__law_gr_doors (hr.mono (by decide)) (by rfl) (pa_cons (pv 0) (pa_cons (pv 1) (pa_cons (pe_ifExp (pt_cmpR op_lt (pv 1) pe_int (nomark _)) pe_int pe_int) (pa_cons (pe_cl h__law_pick (hr.mono (by decide)) (by rfl) (pa_cons (pv 0) (pa_cons (pe_lst (pa_cons (pe_lst (pa_cons pe_int pa_nil)) (pa_cons (pe_lst (pa_cons pe_int (pa_cons pe_int pa_nil))) (pa_cons (pe_lst (pa_cons pe_int (pa_cons pe_int (pa_cons pe_int pa_nil)))) pa_nil)))) pa_nil))) pa_nil))))) pa_nil)))))), ?_⟩
    refine ⟨_, rfl, p, g, c, n + 102, 3, rfl, sa.mono (by omega), ⟨by decide, by decide⟩, fun k H1 k0 k1 b1 sa1 => ⟨_, _, rfl, rfl, ?_⟩⟩
    refine ⟨_, rfl, _, rfl, _, rfl, ?_⟩
    have evm : EvD C (tIf (tTest (tOp (rI0 fun i j => .bl (decide (i < j))) (tVar 1) (tC (.int 3)))) (tC (.int 2)) (tC (.int 1))) [some (.ref p), some (.int (1 + k))] H1 (.num (if 1 + k < 3 then 2 else 1)) := by
      apply ev_if (C := C) (b := decide (1 + k < 3))
      · apply et_test (C := C)
        apply ev_opB (g := fun i j => decide (i < j))
        · trivial
        · trivial
      · intro hb
        rw [if_pos (of_decide_eq_true hb)]; trivial
      · intro hb
        rw [if_neg (of_decide_eq_false hb)]; trivial
    refine evm H1 (Same.refl _) _ fun vm H2 s2 tm => ?_
    cases tp_num tm
    refine pick_rows (as := tCons _ (tCons _ (tCons _ tNil))) (rows := [[1], [1, 2], [1, 1, 3]]) (p := p) (g := g) (c := c) (n := n + 101) rfl ?_ (sa1.same s2) (by decide) (by decide) (by decide) fun b H3 b3 sa3 sz => ?_
    · refine eal_cons (C := C) (evl_nums ?_ (by decide)) (eal_cons (C := C) (evl_nums ?_ (by decide)) (eal_cons (C := C) (evl_nums ?_ (by decide)) eal_nil))
      · exact ea_cons ev_int ea_nil
      · exact ea_cons ev_int (ea_cons ev_int ea_nil)
      · exact ea_cons ev_int (ea_cons ev_int (ea_cons ev_int ea_nil))
    · refine ⟨p, g, c, n, 1 + k, _, b, rfl, sa3.mono (by omega), ⟨by omega, by omega⟩, ?_, sz, fun v ds H4 b4 sa4 tv hw => ?_⟩
      · split <;> exact ⟨by decide, by decide⟩
      refine ⟨small_len (m := 2) (Nat.le_refl 2) (by omega), fun t ht => ?_⟩
      have sn : Same H4 (upd H4 t (.tup [.int (1 + k), v])) := Same.new ht
      exact q (.ref t) (1 + k) ds _ (But2.trans b1 (But2.trans (Same.but2 s2) (But2.trans b3 (But2.trans b4 (Same.but2 sn))))) (sa4.same sn) (.tup upd_same (.cons (.num _) (.cons (tv.same sn) .nil))) hw (by omega)
theorem sc__law_ax_world : FnScope ["state", "rooms_here", "doors_here"] ["state"] (defScope s__law_ax_world) := ⟨rfl, rfl, rfl, by decide +kernel, rfl, by decide +kernel, by decide +kernel⟩
abbrev sp__law_ax_world (C : Addr) : Sp := fun vs H Q _ => ∃ (p g c : Addr) (n : Nat), vs = [.ref p] ∧ SA H p g c (n + 200) ∧ ∀ v rooms ds r0 H', But2 p g H H' → SA H' p g c n → Tp C H' v (.tup [.num rooms, .tup (ds.map doorD), .num ((r0 : Nat) : Int)]) → HW rooms ds → (r0 : Int) < rooms → rooms ≤ 3 → Q v H'
theorem ok__law_ax_world (F : Df K mg "_law_ax_world" s__law_ax_world) (B : Bi K mg C) (h__law_draw : Cl P w K mg base "_law_draw" 2 ["state", "size_here"] sp__law_draw) (h__law_gr_house : Cl P w K mg base "_law_gr_house" 6 ["state", "most", "more"] (sp__law_gr_house C)) (h__law_gr_small : Cl P w K mg base "_law_gr_small" 6 ["state"] (sp__law_gr_small C)) : Cl P w K mg base "_law_ax_world" 7 ["state"] (sp__law_ax_world C) := by
  refine F.cl sc__law_ax_world (fun _ _ _ _ _ _ us hl => match us, hl with | [_], _ => rfl) (fun vs H Q E h => ?_) (fun f cdv A outer s H vs Q E hr h => ?_)
  · obtain ⟨p, g, c, n, rfl, _⟩ := h; rfl
  · obtain ⟨p, g, c, n, rfl, sa, q⟩ := h
    refine ⟨_, (pss_cons (ps_asg (pe_ifExp (pt_cmpR op_eq (pe_cl h__law_draw (hr.mono (by decide)) (by rfl) (pa_cons (pv 0) (pa_cons pe_int pa_nil))) pe_int (nomark _)) (pe_cl h__law_gr_house (hr.mono (by decide)) (by rfl) (pa_cons (pv 0) (pa_cons pe_int (pa_cons pe_int pa_nil)))) (pe_cl h__law_gr_small (hr.mono (by decide)) (by rfl) (pa_cons (pv 0) pa_nil))) (pg_tup (by rfl) (pgs_cons (pg_name (i := 1) sc__law_ax_world.nd rfl (by first | exact Or.inl rfl | exact Or.inr rfl)) (pgs_cons (pg_name (i := 2) sc__law_ax_world.nd rfl (by first | exact Or.inl rfl | exact Or.inr rfl)) pgs_nil))))
      (pss_one (ps_ret (pe_tup (pa_cons (pv 1) (pa_cons (pv 2) (pa_cons (pe_cl h__law_draw (hr.mono (by decide)) (by rfl) (pa_cons (pv 0) (pa_cons (pv 1) pa_nil))) pa_nil))))))), ?_⟩
    refine ⟨_, rfl, p, g, c, n + 190, 2, rfl, sa.mono (by omega), ⟨by decide, by decide⟩, fun k H1 k0 k1 b1 sa1 => ⟨rfl, _, rfl, ?_⟩⟩
    have rest : ∀ v rooms ds H2, But2 p g H1 H2 → SA H2 p g c (n + 80) → Tp C H2 v (.tup [.num rooms, .tup (ds.map doorD)]) → HW rooms ds → rooms ≤ 3 → gTup K 2 (gCons (gName 1) (gCons (gName 2) gNil)) v [some (.ref p), none, none] H2 (tRet (tTup (tCons (tVar 1) (tCons (tVar 2) (tCons (tCall sp__law_draw [] E0 (tCons (tVar 0) (tCons (tVar 1) tNil))) tNil)))) { nx := fun _ H' => Q .non H', rt := Q }) := by
      intro v rooms ds H2 b2 sa2 tv hw r3
      obtain ⟨v1, v2, t1, t2, g2⟩ := gb_two (K := K) (i := 1) (j := 2) (σ := [some (.ref p), none, none]) tv
      cases tp_num t1
      refine g2 _ ?_
      have r1 := hw.hk.r0
      refine ⟨_, rfl, _, rfl, _, rfl, _, rfl, p, g, c, n, rooms, rfl, sa2.mono (by omega), ⟨by omega, by omega⟩, fun r H3 r00 r01 b3 sa3 => ?_⟩
      refine ⟨small_len (m := 3) (Nat.le_refl 3) (by omega), fun t ht => ?_⟩
      have sn : Same H3 (upd H3 t (.tup [.int rooms, v2, .int r])) := Same.new ht
      refine q (.ref t) rooms ds r.toNat _ (But2.trans b1 (But2.trans b2 (But2.trans b3 (Same.but2 sn)))) (sa3.same sn) ?_ hw (by omega) r3
      rw [show ((r.toNat : Nat) : Int) = r by omega]
      exact .tup upd_same (.cons (.num _) (.cons ((t2.stay (sa2.stay b3)).same sn) (.cons (.num _) .nil)))
    by_cases hk : V.int k = V.int 0
    · rw [decide_eq_true hk]
      exact iteT ⟨_, rfl, p, g, c, n + 80, rfl, sa1, fun v rooms ds H2 b2 sa2 tv hw r3 => rest v rooms ds H2 b2 sa2 tv hw r3⟩
    · rw [decide_eq_false hk]
      exact iteF ⟨_, rfl, p, g, c, n + 80, rfl, sa1, fun v rooms ds H2 b2 sa2 tv hw r3 => rest v rooms ds H2 b2 sa2 tv hw r3⟩
end
end K49

set_option Elab.async false
set_option linter.all false
set_option maxRecDepth 100000
set_option maxHeartbeats 4000000
/-! The law. -/
namespace K49
open PySem PySem.Spec PyProof.Rows L2 Y
local macro_rules | `(tactic| trivial) => `(tactic| first
  | with_reducible exact ev_int
  | with_reducible exact ev_bl
  | with_reducible exact ev_non
  | with_reducible exact ea_nil
  | with_reducible exact et_yes
  | ((with_reducible apply ev_var); exact rfl; first | exact .num _ | exact .bl _ | exact .non | assumption)
  | ((with_reducible apply ea_cons); trivial; trivial)
  | ((with_reducible apply ev_tup); trivial; first | decide | (show _ ≤ sizeLine; simp; decide))
  | ((with_reducible apply ev_ix0); trivial; trivial; exact rfl)
  | ((with_reducible apply ev_ix1); trivial; trivial; exact rfl)
  | ((with_reducible apply ev_ix2); trivial; trivial; exact rfl)
  | ((with_reducible apply ev_ix3); trivial; trivial; exact rfl)
  | ((with_reducible apply ev_opI); trivial; trivial)
  | ((with_reducible apply ev_opB); trivial; trivial)
  | ((with_reducible apply ev_eqI); trivial; trivial)
  | ((with_reducible apply ev_neI); trivial; trivial)
  | ((with_reducible apply ev_un); trivial)
  | ((with_reducible apply ev_chain); trivial; trivial; trivial)
  | ((with_reducible apply ev_abs); trivial)
  | ((with_reducible apply ev_intI); trivial)
  | ((with_reducible apply ev_gcd); trivial; trivial)
  | ((with_reducible apply ev_lenT); trivial)
  | ((with_reducible apply et_test); trivial)
  | ((with_reducible apply et_B); trivial)
  | ((with_reducible apply et_not); trivial)
  | ((with_reducible apply et_and); trivial; (intro _; trivial))
  | ((with_reducible apply et_or); trivial; (intro _; trivial))
  | ((with_reducible apply ev_andV); trivial; (intro _; trivial))
  | ((with_reducible apply ev_orV); trivial; (intro _; trivial))
  | ((with_reducible apply ev_notV); trivial)
  | ((with_reducible apply ev_isN); trivial)
  | ((with_reducible apply ev_notN); trivial)
  | ((with_reducible apply ev_isiII); trivial)
  | ((with_reducible apply ev_isiIB); trivial)
  | ((with_reducible apply ev_isiTT); trivial)
  | ((with_reducible apply ev_isH); trivial))
section
variable {C : Addr} {K : PySem.W.Frag} {te : TE} {tt : TT} {t rest : TS} {Ds : Ends} {σ : L2.St} {H : Hp} {ns : List Int} {a : Addr} {b : Bool}
theorem st_ifs (h : EvT tt σ H b) (h1 : b = true → ∀ H2, Same H H2 → ∀ Ds' : Ends, (∀ H3, Same H2 H3 → Ds'.nx σ H3) → t Ds' σ H2) (k : ∀ H2, Same H H2 → rest Ds σ H2) : tSeq (tIfS tt t tNext) rest Ds σ H := by
  apply st_if h
  · exact fun hb H2 s2 => h1 hb H2 s2 _ fun H3 s3 => k H3 (Same.trans s2 s3)
  · exact fun _ H2 s2 => k H2 s2
theorem st_tup2 {ta tb : TE} {g : TG} (h : ta σ H fun v H1 => tb σ H1 fun w H2 => [v, w].length ≤ sizeLine ∧ ∀ p, H2 p = none → g (.ref p) σ (upd H2 p (.tup [v, w])) (rest Ds)) : tSeq (tAsg (tTup (tCons ta (tCons tb tNil))) g) rest Ds σ H := h
theorem et_neNew (h : EvL C te σ H (ns.map D.num)) : EvT (tTest (tOp (rNeD K) te (tLst tNil))) σ H (!ns.isEmpty) := fun H1 s Q q =>
  h H1 s _ fun l vs H2 s2 hn h2 t2 => ⟨Nat.zero_le _, fun x hx => by
    have sx : Same H2 (upd H2 x (.lst [])) := Same.new hx
    have hs : SeqAt.shaped (.list []) = true := rfl
    have e : PyData.eqv (.list (pyA (ns.map D.num))) (.list []) = ns.isEmpty := by cases ns <;> rfl
    refine ⟨.list (pyA (ns.map D.num)), .list [], .lst (.inl (.inl (sx _ _ h2))) (TpA.dp (t2.same sx) (flatA_nums ns)), .lst (.inl (.inl upd_same)) .nil, by rw [pyA_nums]; exact PySem.W.ke_shaped_ints ns, hs, _, rfl, ?_⟩
    rw [e]
    exact q _ (Same.newer s2 hx)⟩
theorem ev_lenSq (ha : EvV te σ H (.ref a)) (sq : ∀ H', Same H H' → SqL K H' a (ns.map V.int)) : EvD C (tCB (rLenS K) (tCons te tNil)) σ H (.num (ns.length : Int)) := fun H1 s Q q =>
  ha H1 s _ fun H2 s2 => by
    refine ⟨a, _, rfl, .inl (sq _ (Same.trans s s2)), ?_⟩
    rw [List.length_map]
    exact q _ H2 s2 (.num _)
theorem ev_min {ta tb : TE} {i j : Int} (ha : EvD C ta σ H (.num i)) (hb : EvD C tb σ H (.num j)) : EvD C (tCB (fun xs H Q => ∃ i j, xs = [V.int i, V.int j] ∧ Q (V.int (if j < i then j else i)) H) (tCons ta (tCons tb tNil))) σ H (.num (if j < i then j else i)) := fun H1 s Q q =>
  ha H1 s _ fun v H2 s2 t2 => hb H2 (Same.trans s s2) _ fun w H3 s3 t3 => by
    cases tp_num t2; cases tp_num t3
    exact ⟨i, j, rfl, q _ H3 (Same.trans s2 s3) (.num _)⟩
theorem sq_same {H' : Hp} (sq : SqL K H a (ns.map V.int)) (s : Same H H') : SqL K H' a (ns.map V.int) := by
  rcases sq with (sq | ⟨o, sq⟩) | sq
  · exact .inl (.inl (s _ _ sq))
  · exact .inl (.inr ⟨o, s _ _ sq⟩)
  · exact .inr sq
end
section
variable {P : Program} {w : World} {K : PySem.W.Frag} {mg : Str → Option Value} {base : Heap} {C : Addr}
theorem sc_law : FnScope ["script", "state", "turn", "rooms_here", "doors_here", "room_here", "house", "length_here", "back_here", "many", "whole", "number", "less"] ["script"] (defScope s_law) := ⟨rfl, rfl, rfl, by decide +kernel, rfl, by decide +kernel, by decide +kernel⟩
abbrev sp_law (K : PySem.W.Frag) : Sp := fun vs H Q _ => ∃ (a : Addr) (ns : List Int), vs = [.ref a] ∧ SqL K H a (ns.map V.int) ∧ ns.length ≤ 63 ∧ ∀ H', Q (.bl true) H'
theorem okB {x : Str} {st : Stmt} {N ps : List Str} {k : Nat} {sp : Sp} {f : Addr} {fd : FuncData} (F : FunD K x x (defArgs st) (defBody st) (defScope st) [] [] f fd) (S : FnScope N ps (defScope st)) (len : ∀ vs H Q E, sp vs H Q E → vs.length = ps.length)
    (body : ∀ (cdv : Value) (A : Around) (outer : List Env) (s : Shared) (H : Hp) (vs : List V) (Q : VK) (E : XK), Room k (A.deeper (envOfC x (defScope st) s.heap.objs.size f cdv)) → sp vs H Q E →
      ∃ t, PSs (cxOf CX0 P w K mg base N x (defScope st) f cdv A outer s H E).nox (defBody st) t ∧ t { nx := fun _ H' => Q .non H', rt := Q } (start N vs) H) : FnOk P w K mg base CX0 (k + 1) f fd ps sp := F.ok S len fun cdv A outer s H vs Q E hr h => by
  obtain ⟨t, h1, h2⟩ := body cdv A outer s H vs Q E hr h
  exact ⟨t, h1.nox, h2⟩
theorem ok_law {f : Addr} {fd : FuncData} (F : FunD K "law" "law" (defArgs s_law) (defBody s_law) (defScope s_law) [] [] f fd) (B : Bi K mg C) (h__law_begun : Cl P w K mg base "_law_begun" 1 ["script"] (sp__law_begun K)) (h__law_ax_world : Cl P w K mg base "_law_ax_world" 7 ["state"] (sp__law_ax_world C)) (h_House : ClM P w K mg base C 5 ["self", "rooms", "doors"] (sp_House C)) (h__law_draw : Cl P w K mg base "_law_draw" 2 ["state", "size_here"] sp__law_draw)
    (h_foot_return : Cl P w K mg base "foot_return" 6 ["house", "room", "length"] (sp_foot_return C)) (h_foot_classes_many : Cl P w K mg base "foot_classes_many" 6 ["house", "room", "length"] (sp_foot_classes_many C)) (h_feet_many : Cl P w K mg base "feet_many" 5 ["house", "room", "length"] (sp_feet_many C)) (h_still_many : Cl P w K mg base "still_many" 5 ["house", "room", "pulls", "length"] (sp_still_many C))
    (h__law_su_factors : Cl P w K mg base "_law_su_factors" 1 ["number"] (sp__law_su_factors C)) (h__law_common : Cl P w K mg base "_law_common" 1 ["one", "other"] (sp__law_common C)) : FnOk P w K mg base CX0 8 f fd ["script"] (sp_law K) := by
  refine okB F sc_law (fun vs H Q E h => ?_) (fun cdv A outer s H vs Q E hr h => ?_)
  · obtain ⟨a, ns, rfl, _⟩ := h; rfl
  · obtain ⟨a, ns, rfl, sq, hl, q⟩ := h
    refine ⟨_, (pss_cons (ps_set (i := 1) sc_law.nd rfl (by first | exact Or.inl rfl | exact Or.inr rfl) (pe_cl h__law_begun (hr.mono (by decide)) (by rfl) (pa_cons (pv 0) pa_nil)))
      (pss_cons (ps_for PassesOwn.never rfl (pi_range1 (by rfl) B.range (pa_cons (pe_op op_add pe_int (pe_callB (call_min2 rfl) (by rfl) B.min (by decide +kernel) (pa_cons (pe_callB call_lenS (by rfl) B.len (by decide +kernel) (pa_cons (pv 0) pa_nil)) (pa_cons pe_int pa_nil)))) pa_nil)) (pg_name (i := 2) sc_law.nd rfl (by first | exact Or.inl rfl | exact Or.inr rfl)) (pss_cons (ps_asg (pe_cl h__law_ax_world (hr.mono (by decide)) (by rfl) (pa_cons (pv 1) pa_nil)) (pg_tup (by rfl) (pgs_cons (pg_name (i := 3) sc_law.nd rfl (by first | exact Or.inl rfl | exact Or.inr rfl)) (pgs_cons (pg_name (i := 4) sc_law.nd rfl (by first | exact Or.inl rfl | exact Or.inr rfl)) (pgs_cons (pg_name (i := 5) sc_law.nd rfl (by first | exact Or.inl rfl | exact Or.inr rfl)) pgs_nil)))))
      (pss_cons (ps_asg (pe_tup (pa_cons (pe_mkc h_House (hr.mono (by decide)) (by rfl) B.House (pa_cons (pv 3) (pa_cons (pv 4) pa_nil))) (pa_cons (pe_cl h__law_draw (hr.mono (by decide)) (by rfl) (pa_cons (pv 1) (pa_cons pe_int pa_nil))) pa_nil))) (pg_tup (by rfl) (pgs_cons (pg_name (i := 6) sc_law.nd rfl (by first | exact Or.inl rfl | exact Or.inr rfl)) (pgs_cons (pg_name (i := 7) sc_law.nd rfl (by first | exact Or.inl rfl | exact Or.inr rfl)) pgs_nil))))
      (pss_cons (ps_asg (pe_tup (pa_cons (pe_cl h_foot_return (hr.mono (by decide)) (by rfl) (pa_cons (pv 6) (pa_cons (pv 5) (pa_cons (pv 7) pa_nil)))) (pa_cons (pe_cl h_foot_classes_many (hr.mono (by decide)) (by rfl) (pa_cons (pv 6) (pa_cons (pv 5) (pa_cons (pv 7) pa_nil)))) (pa_cons (pe_cl h_feet_many (hr.mono (by decide)) (by rfl) (pa_cons (pv 6) (pa_cons (pv 5) (pa_cons (pv 7) pa_nil)))) pa_nil)))) (pg_tup (by rfl) (pgs_cons (pg_name (i := 8) sc_law.nd rfl (by first | exact Or.inl rfl | exact Or.inr rfl)) (pgs_cons (pg_name (i := 9) sc_law.nd rfl (by first | exact Or.inl rfl | exact Or.inr rfl)) (pgs_cons (pg_name (i := 10) sc_law.nd rfl (by first | exact Or.inl rfl | exact Or.inr rfl)) pgs_nil)))))
      (pss_cons (ps_if (PW.pt (pw_or (pt_cmpR op_lt (pe_op op_mul (pv 8) (pv 9)) (pv 10) (nomark _)) (pw_or (pt_cmpR op_gt (pv 9) (pv 10) (nomark _)) (pw_or1 (pt_cmpR op_ne (pe_cmpR op_gt (pv 10) pe_int (nomark _)) (pe_cmpR op_gt (pv 9) pe_int (nomark _)) (nomark _)))))) (pss_one (ps_ret pe_bl)) pss_nil)
      (pss_cons (ps_if (pt_cmpR op_ne (pe_cl h_still_many (hr.mono (by decide)) (by rfl) (pa_cons (pv 6) (pa_cons (pv 5) (pa_cons (pv 8) (pa_cons (pv 7) pa_nil))))) (pv 10) (nomark _)) (pss_one (ps_ret pe_bl)) pss_nil)
      (pss_cons (ps_if (pt_cmpR op_lt (pv 8) pe_int (nomark _)) (pss_cons (ps_if (pt_cmpR op_ne (pe_callB (cr_sum rfl) (by rfl) B.sum (by decide +kernel) (pa_cons (pe_lc (own := [("number", 11)]) (tt := tYes)  rfl sc_law.nd (pi_range1 (by rfl) B.range (pa_cons (pv 8) pa_nil)) (blkOk_by (own := [("number", 11)]) (N := ["script", "state", "turn", "rooms_here", "doors_here", "room_here", "house", "length_here", "back_here", "many", "whole", "number", "less"]) (sc := defScope s_law) (by decide +kernel)) (fun _ _ _ _ _ => (pg_name (i := 11) sc_law.nd rfl (by first | exact Or.inl rfl | exact Or.inr rfl))) (fun _ _ _ _ _ => pts_nil) (fun _ _ _ _ _ => (pe_cl h_still_many (hr.mono (by decide)) (by rfl) (pa_cons (pv 6) (pa_cons (pv 5) (pa_cons (pv 11) (pa_cons (pv 7) pa_nil))))))) pa_nil)) (pe_op op_mul (pv 8) (pv 9)) (nomark _)) (pss_one (ps_ret pe_bl)) pss_nil)
      (pss_one (ps_if (pt_cmpR (op_neD hr.units) (pe_lc (own := [("less", 12)])   rfl sc_law.nd (pi_list (pe_cl h__law_su_factors (hr.mono (by decide)) (by rfl) (pa_cons (pv 8) pa_nil))) (blkOk_by (own := [("less", 12)]) (N := ["script", "state", "turn", "rooms_here", "doors_here", "room_here", "house", "length_here", "back_here", "many", "whole", "number", "less"]) (sc := defScope s_law) (by decide +kernel)) (fun _ _ _ _ _ => (pg_name (i := 12) sc_law.nd rfl (by first | exact Or.inl rfl | exact Or.inr rfl))) (fun _ _ _ _ _ => (pts_one (PW.pt (pw_and (pt_cmpR op_lt (pv 12) (pv 8) (nomark _)) (pw_and (pt_cmpR op_eq (pe_cl h_still_many (hr.mono (by decide)) (by rfl) (pa_cons (pv 6) (pa_cons (pv 5) (pa_cons (pv 12) (pa_cons (pv 7) pa_nil))))) (pv 10) (nomark _)) (pw_and1 (pt_cmpR op_gt (pv 10) pe_int (nomark _)))))))) (fun _ _ _ _ _ => pe_int)) (pe_lst pa_nil) (nomark _)) (pss_one (ps_ret pe_bl)) pss_nil))) pss_nil)
      (pss_cons (ps_set (i := 11) sc_law.nd rfl (by first | exact Or.inl rfl | exact Or.inr rfl) (pe_op op_sub (pe_cl h__law_draw (hr.mono (by decide)) (by rfl) (pa_cons (pv 1) (pa_cons pe_int pa_nil))) pe_int))
      (pss_one (ps_if (pt_cmpR op_ne (pe_cl h_still_many (hr.mono (by decide)) (by rfl) (pa_cons (pv 6) (pa_cons (pv 5) (pa_cons (pv 11) (pa_cons (pv 7) pa_nil))))) (pe_cl h_still_many (hr.mono (by decide)) (by rfl) (pa_cons (pv 6) (pa_cons (pv 5) (pa_cons (pe_cl h__law_common (hr.mono (by decide)) (by rfl) (pa_cons (pv 11) (pa_cons (pv 8) pa_nil))) (pa_cons (pv 7) pa_nil))))) (nomark _)) (pss_one (ps_ret pe_bl)) pss_nil))))))))))
      (pss_one (ps_ret pe_bl)))), ?_⟩
    refine ⟨_, rfl, a, ns, rfl, sq, by omega, fun p g c H1 s1 hp hg sa => ?_⟩
    have sq1 := sq_same sq s1
    dsimp only [gName]
    have min_nn : ∃ n : Nat, (n : Int) = 3 + (if (5 : Int) < (ns.length : Int) then 5 else (ns.length : Int)) ∧ n ≤ 8 := by
      by_cases h : (5 : Int) < (ns.length : Int)
      · exact ⟨8, by rw [if_pos h]; rfl, Nat.le_refl _⟩
      · exact ⟨3 + ns.length, by rw [if_neg h]; omega, by omega⟩
    obtain ⟨n, hn, hn8⟩ := min_nn
    refine st_for (C := C) (wi := _) (ei_rng1 (n := n) (C := C) ?_ (by omega)) (fun G i σ' H' => ∃ x2 x3 x4 x5 x6 x7 x8 x9 x10 x11 x12, σ' = [some (.ref a), some (.ref p), x2, x3, x4, x5, x6, x7, x8, x9, x10, x11, x12] ∧ But2 p g G H' ∧ SA H' p g c (1000000000 - 1000 * i)) ?_ ?_ ?_ ?_
    · rw [hn]
      exact ea_cons (ev_opI (g := fun i j => i + j) ev_int (ev_min (ev_lenSq (evv_var rfl) fun H' s' => sq_same sq1 s') ev_int)) ea_nil
    · intro G sG
      exact ⟨_, _, _, _, _, _, _, _, _, _, _, rfl, But2.refl _ _ _, sa.same sG⟩
    · rintro G i σ' H' sG ⟨x2, x3, x4, x5, x6, x7, x8, x9, x10, x11, x12, rfl, b, sa'⟩
      exact ⟨(sa.same sG).stay b, b.keeps sa.sp sa.sg (by simp) (by simp)⟩
    · rintro G i d x σ' H' sG hi ⟨x2, x3, x4, x5, x6, x7, x8, x9, x10, x11, x12, rfl, b, sa'⟩ tx
      obtain ⟨hi2, rfl⟩ := rng_item hi
      cases tp_num tx
      refine ⟨_, gb_name, ?_⟩
      refine ⟨_, rfl, p, g, c, 1000000000 - 1000 * i - 200, rfl, sa'.mono (by omega), fun v rooms ds r0 H2 b2 sa2 tv hw hr0 hr3 => ?_⟩
      obtain ⟨v1, v2, v3, t1, t2, t3, g3⟩ := gb_three (K := K) (i := 3) (j := 4) (k := 5) (σ := [some (.ref a), some (.ref p), some (.int (i : Int)), x3, x4, x5, x6, x7, x8, x9, x10, x11, x12]) tv
      cases tp_num t1
      cases tp_num t3
      refine g3 _ ?_
      have sH2 : SA H2 p g c (1000000000 - 1000 * i - 200) := sa2
      have bG2 : But2 p g G H2 := But2.trans b b2
      have evh : EvD C (tMake C (sp_House C) [] E0 (tCons (tVar 3) (tCons (tVar 4) tNil))) [some (.ref a), some (.ref p), some (.int (i : Int)), some (.int rooms), some v2, some (.int (r0 : Int)), x6, x7, x8, x9, x10, x11, x12] H2 (.hs rooms ds) := ev_make (pre := HOk) (ea_cons (ev_var rfl (.num _)) (ea_cons (ev_var rfl t2) ea_nil)) hw.hk
      dsimp only
      refine st_tup2 ?_
      refine evh H2 (Same.refl _) _ fun vh H3 s3 th3 => ?_
      refine ⟨_, rfl, p, g, c, 1000000000 - 1000 * i - 300, 8, rfl, (sH2.same s3).mono (by omega), ⟨by decide, by decide⟩, fun Li H4 L0 L1 b4 sa4 => ?_⟩
      have th4 := th3.stay ((sH2.same s3).stay b4)
      obtain ⟨L, rfl⟩ : ∃ L : Nat, Li = (L : Int) := ⟨Li.toNat, by omega⟩
      have hL : L ≤ 7 := by omega
      refine ⟨small_len (m := 2) (Nat.le_refl 2) (by omega), fun tt htt => ?_⟩
      have s5 : Same H4 (upd H4 tt (.tup [vh, .int (L : Int)])) := Same.new htt
      have ttp : Tp C (upd H4 tt (.tup [vh, .int (L : Int)])) (.ref tt) (.tup [.hs rooms ds, .num (L : Int)]) := .tup upd_same (.cons (th4.same s5) (.cons (.num _) .nil))
      have sa5 := sa4.same s5
      have bG5 : But2 p g G (upd H4 tt (.tup [vh, .int (L : Int)])) := But2.trans bG2 (But2.trans (Same.but2 s3) (But2.trans b4 (Same.but2 s5)))
      generalize upd H4 tt (.tup [vh, .int (L : Int)]) = H5 at ttp sa5 bG5 ⊢
      obtain ⟨vh', vL, th5, tL, g5⟩ := gb_two (K := K) (i := 6) (j := 7) (σ := [some (.ref a), some (.ref p), some (.int (i : Int)), some (.int rooms), some v2, some (.int (r0 : Int)), x6, x7, x8, x9, x10, x11, x12]) ttp
      cases tp_num tL
      refine g5 _ ?_
      have ok := hw.ok
      have hroom : 0 ≤ (r0 : Int) ∧ (r0 : Int) < rooms := ⟨by omega, hr0⟩
      -- the numbers of the law
      have l1 := MF.law_ge ok (r0 : Int) L
      have l2 := MF.law_many ok (r0 : Int) L
      have l3 := MF.law_pos ok (r0 : Int) L
      have l4 := MF.law_ret ok (r0 : Int) L
      have l5 := MF.law_burnside ok (r0 : Int) L
      have l6 := MF.law_common ok (r0 : Int) L
      have l8 := MF.ret_pos ok (r0 : Int) L
      have l9 := fun less h0 h1 e => MF.law_less ok (r0 : Int) L (less := less) h0 h1 e
      have lm := MF.many_nn ok (r0 : Int) L
      obtain ⟨lw0, lw1⟩ := MF.still_le ok hw.d4 hw.n50s (r0 : Int) 0 hL
      apply st_asg (C := C) (d := .tup [.num (MF.ret (MF.cls ds (r0 : Int) L)), .num (MF.clsMany (MF.cls ds (r0 : Int) L)), .num (MF.still ds (r0 : Int) 0 L)])
      · apply ev_tup
        · refine ea_cons ?_ (ea_cons ?_ (ea_cons ?_ ea_nil))
          · apply ev_fn (rooms, ds, (r0 : Int), L)
            · exact ea_cons (ev_var rfl th5) (ea_cons (ev_var rfl (.num _)) (ea_cons (ev_var rfl (.num _)) ea_nil))
            · rfl
            · exact ⟨hw, hroom, hL⟩
          · apply ev_fn (rooms, ds, (r0 : Int), L)
            · exact ea_cons (ev_var rfl th5) (ea_cons (ev_var rfl (.num _)) (ea_cons (ev_var rfl (.num _)) ea_nil))
            · rfl
            · exact ⟨hw, hroom, hL⟩
          · apply ev_fn (rooms, ds, r0, L)
            · exact ea_cons (ev_var rfl th5) (ea_cons (ev_var rfl (.num _)) (ea_cons (ev_var rfl (.num _)) ea_nil))
            · rfl
            · exact ⟨hw, hr0, hL⟩
        · exact small_len (m := 3) (Nat.le_refl 3) (by omega)
      intro vt H6 s6 tt6
      obtain ⟨w1, w2, w3, tw1, tw2, tw3, g6⟩ := gb_three (K := K) (i := 8) (j := 9) (k := 10) (σ := [some (.ref a), some (.ref p), some (.int (i : Int)), some (.int rooms), some v2, some (.int (r0 : Int)), some vh', some (.int (L : Int)), x8, x9, x10, x11, x12]) tt6
      cases tp_num tw1
      cases tp_num tw2
      cases tp_num tw3
      refine ⟨_, g6, ?_⟩
      have th6 := th5.same s6
      -- still_many at any pulls
      have still : ∀ {ta : TE} {σ : L2.St} {H' : Hp} {x : Int} {v0 : V}, σ[6]? = some (some v0) → σ[5]? = some (some (.int (r0 : Int))) → σ[7]? = some (some (.int (L : Int))) → Tp C H' v0 (.hs rooms ds) → EvD C ta σ H' (.num x) → EvD C (tCall (sp_still_many C) [] E0 (tCons (tVar 6) (tCons (tVar 5) (tCons ta (tCons (tVar 7) tNil))))) σ H' (.num (MF.still ds (r0 : Int) x L)) := by
        intro ta σ H' x v0 e6 e5 e7 tv ha
        apply ev_fn (rooms, ds, (r0 : Int), x, L)
        · exact ea_cons (ev_var e6 tv) (ea_cons (ev_var e5 (.num _)) (ea_cons ha (ea_cons (ev_var e7 (.num _)) ea_nil)))
        · rfl
        · exact ⟨hw, hroom, hL⟩
      generalize MF.ret (MF.cls ds (r0 : Int) L) = back at l1 l3 l4 l5 l6 l8 l9 ⊢
      generalize MF.clsMany (MF.cls ds (r0 : Int) L) = many at l1 l2 l3 l5 lm ⊢
      have bm : many.natAbs < 2 ^ 64 := by omega
      apply st_no (h := ?_)
      · intro H7 s7
        have th7 := th6.same s7
        apply st_no (h := ?_)
        · intro H8 s8
          have th8 := th7.same s8
          apply st_ifs (b := decide (back < 150))
          · apply et_test (C := C)
            apply ev_opB (g := fun i j => decide (i < j))
            · trivial
            · trivial
          · intro hb H9 s9 Ds' k
            have hb : back < 150 := of_decide_eq_true hb
            have th9 := th8.same s9
            obtain ⟨bk, rfl⟩ : ∃ bk : Nat, back = (bk : Int) := ⟨back.toNat, by omega⟩
            apply st_no (h := ?_)
            · intro H10 s10
              have th10 := th9.same s10
              apply st_no1
              · have e0 : false = !([] : List Int).isEmpty := rfl
                rw [e0]
                apply et_neNew (C := C)
                have e1 : (([] : List Int).map D.num) = (((List.range bk).filter fun k : Nat => decide ((1 + k) ∣ bk)).map fun k : Nat => D.num (1 + (k : Int))).filterMap (fun _ => (none : Option D)) := by simp
                rw [e1]
                refine evl_lc (C := C) (h := ei_lst (C := C) (evl_fn bk ?_ rfl ?_)) (keep := fun _ => none) ?_ ?_
                · exact ea_cons (ev_var rfl (.num _)) ea_nil
                · show bk ≤ 1000
                  omega
                · intro d x H' hd s' tx
                  obtain ⟨k, hk, rfl⟩ := List.mem_map.mp hd
                  cases tp_num tx
                  have th' := th10.same s'
                  refine ⟨_, gb_name, rfl, ?_, fun z hz => nomatch hz⟩
                  have e2 : (none : Option D).isSome = (decide (1 + (k : Int) < (bk : Int)) && (decide (MF.still ds (r0 : Int) (1 + (k : Int)) L = MF.still ds (r0 : Int) 0 L) && decide (0 < MF.still ds (r0 : Int) 0 L))) := by
                    show false = _
                    by_cases h1 : 1 + (k : Int) < (bk : Int)
                    · by_cases h2 : MF.still ds (r0 : Int) (1 + (k : Int)) L = MF.still ds (r0 : Int) 0 L
                      · have h3 := l9 (1 + (k : Int)) (by omega) h1 h2
                        rw [decide_eq_false (show ¬ 0 < MF.still ds (r0 : Int) 0 L from h3)]
                        simp
                      · rw [decide_eq_false h2]; simp
                    · rw [decide_eq_false h1]; simp
                  rw [e2]
                  apply et_and
                  · apply et_test (C := C)
                    apply ev_opB (g := fun i j => decide (i < j))
                    · trivial
                    · trivial
                  · intro _
                    apply et_and
                    · apply et_test (C := C)
                      apply ev_eqI
                      · exact still rfl rfl rfl th' (by trivial)
                      · trivial
                    · intro _
                      apply et_test (C := C)
                      apply ev_opB (g := fun i j => decide (j < i))
                      · trivial
                      · trivial
                · rw [List.length_map]
                  exact small_len (m := 150) (Nat.le_trans (List.length_filter_le _ _) (by rw [List.length_range]; omega)) (by omega)
              · exact fun H11 s11 => k H11 (Same.trans s10 s11)
            · apply et_test (C := C)
              have e0 : false = !decide (((List.range bk).map fun k : Nat => MF.still ds (r0 : Int) (k : Int) L).sum = (bk : Int) * many) := by
                have l5 : ((List.range bk).map fun k : Nat => MF.still ds (r0 : Int) (k : Int) L).sum = (bk : Int) * many := l5
                rw [decide_eq_true l5]; rfl
              rw [e0]
              apply ev_neI
              · apply ev_sum (C := C)
                · refine evl_lc (C := C) (h := ei_rng1 (n := bk) (C := C) ?_ (by omega)) (keep := fun d => match d with | .num x => some (.num (MF.still ds (r0 : Int) x L)) | _ => none) ?_ ?_
                  · exact ea_cons (ev_var rfl (.num _)) ea_nil
                  · intro d x H' hd s' tx
                    obtain ⟨k, hk, rfl⟩ := List.mem_map.mp hd
                    cases tp_num tx
                    have th' := th9.same s'
                    refine ⟨_, gb_name, rfl, et_yes, fun z hz => ?_⟩
                    have hz : D.num (MF.still ds (r0 : Int) (k : Int) L) = z := by simpa using hz
                    subst hz
                    exact still rfl rfl rfl th' (by trivial)
                  · rw [List.length_map, List.length_range]; exact small_len (m := 150) (by omega) (by omega)
                · rw [List.filterMap_map, List.map_map]
                  rw [← List.filterMap_eq_map']
                  rfl
              · exact ev_mulR (by trivial) (by trivial) bm
          · intro H9 s9
            have th9 := th8.same s9
            have s59 := Same.trans (Same.trans (Same.trans s6 s7) s8) s9
            refine ⟨_, rfl, p, g, c, 1000000000 - 1000 * (i + 1), 1000, rfl, (sa5.same s59).mono (by omega), ⟨by decide, by decide⟩, fun kk H10 k0 k1 b10 sa10 => ⟨_, _, rfl, rfl, ?_⟩⟩
            have th10 := th9.stay ((sa5.same s59).stay b10)
            dsimp only [gName]
            apply st_no1
            · apply et_test (C := C)
              have e0 : false = !decide (MF.still ds (r0 : Int) (kk - 500) L = MF.still ds (r0 : Int) (MF.gcdI (kk - 500) back) L) := by
                rw [decide_eq_true (l6 (kk - 500))]; rfl
              rw [e0]
              apply ev_neI
              · exact still rfl rfl rfl th10 (by trivial)
              · refine still rfl rfl rfl th10 ?_
                apply ev_fn (kk - 500, back)
                · exact ea_cons (ev_var rfl (.num _)) (ea_cons (ev_var rfl (.num _)) ea_nil)
                · rfl
                · exact True.intro
            · intro H11 s11
              exact ⟨_, _, _, _, _, _, _, _, _, _, _, rfl, But2.trans bG5 (But2.trans (Same.but2 s59) (But2.trans b10 (Same.but2 s11))), sa10.same s11⟩
        · apply et_test (C := C)
          have e : false = !decide (MF.still ds (r0 : Int) back L = MF.still ds (r0 : Int) 0 L) := by rw [decide_eq_true l4]; rfl
          rw [e]
          apply ev_neI
          · exact still rfl rfl rfl th7 (by trivial)
          · trivial
      · apply et_or (b := false) (c := false)
        · apply et_test (C := C)
          have e : false = decide (back * many < MF.still ds (r0 : Int) 0 L) := by rw [decide_eq_false (by omega)]
          rw [e]
          apply ev_opB (g := fun i j => decide (i < j))
          · exact ev_mulR (by trivial) (by trivial) bm
          · trivial
        · intro _
          apply et_or (b := false) (c := false)
          · apply et_test (C := C)
            have e : false = decide (MF.still ds (r0 : Int) 0 L < many) := by rw [decide_eq_false (by omega)]
            rw [e]
            apply ev_opB (g := fun i j => decide (j < i))
            · trivial
            · trivial
          · intro _
            apply et_test (C := C)
            have e : false = !decide (decide (0 < MF.still ds (r0 : Int) 0 L) = decide (0 < many)) := by
              have : decide (0 < MF.still ds (r0 : Int) 0 L) = decide (0 < many) := by
                by_cases h : 0 < many
                · rw [decide_eq_true h, decide_eq_true (l3.mpr h)]
                · rw [decide_eq_false h, decide_eq_false fun z => h (l3.mp z)]
              rw [decide_eq_true this]; rfl
            rw [e]
            apply ev_neB
            · apply ev_opB (g := fun i j => decide (j < i))
              · trivial
              · trivial
            · apply ev_opB (g := fun i j => decide (j < i))
              · trivial
              · trivial
    · rintro G σ' H' sG ⟨x2, x3, x4, x5, x6, x7, x8, x9, x10, x11, x12, rfl, b, sa'⟩
      exact q H'
end
end K49

set_option Elab.async false
set_option linter.all false
set_option maxRecDepth 100000
set_option maxHeartbeats 0
/-! The head: what the top leaves, by names. -/
namespace K49
open PySem PySem.Spec PyProof.Rows L2 Y
abbrev R : PySem.W.OpenRow := PySem.W.OpenLaw.row PySem.Challenge.rw_ropescounted_k49_whole_classes_are_told
def d_is_number : He.DefD := ⟨("is_number", none), "is_number", "is_number", defArgs s_is_number, defBody s_is_number, defScope s_is_number, [], []⟩
def d_is_below : He.DefD := ⟨("is_below", none), "is_below", "is_below", defArgs s_is_below, defBody s_is_below, defScope s_is_below, [], []⟩
def d_is_door : He.DefD := ⟨("is_door", none), "is_door", "is_door", defArgs s_is_door, defBody s_is_door, defScope s_is_door, [], []⟩
def d_are_doors : He.DefD := ⟨("are_doors", none), "are_doors", "are_doors", defArgs s_are_doors, defBody s_are_doors, defScope s_are_doors, [], []⟩
def d_joined_rooms : He.DefD := ⟨("joined_rooms", none), "joined_rooms", "joined_rooms", defArgs s_joined_rooms, defBody s_joined_rooms, defScope s_joined_rooms, [], []⟩
def d_need_house : He.DefD := ⟨("need_house", none), "need_house", "need_house", defArgs s_need_house, defBody s_need_house, defScope s_need_house, [], []⟩
def d_need_room : He.DefD := ⟨("need_room", none), "need_room", "need_room", defArgs s_need_room, defBody s_need_room, defScope s_need_room, [], []⟩
def d_gate_of : He.DefD := ⟨("gate_of", none), "gate_of", "gate_of", defArgs s_gate_of, defBody s_gate_of, defScope s_gate_of, [], []⟩
def d_steps_of_room : He.DefD := ⟨("steps_of_room", none), "steps_of_room", "steps_of_room", defArgs s_steps_of_room, defBody s_steps_of_room, defScope s_steps_of_room, [], []⟩
def d_turned_step : He.DefD := ⟨("turned_step", none), "turned_step", "turned_step", defArgs s_turned_step, defBody s_turned_step, defScope s_turned_step, [], []⟩
def d_steps_beyond : He.DefD := ⟨("steps_beyond", none), "steps_beyond", "steps_beyond", defArgs s_steps_beyond, defBody s_steps_beyond, defScope s_steps_beyond, [], []⟩
def d_need_short : He.DefD := ⟨("need_short", none), "need_short", "need_short", defArgs s_need_short, defBody s_need_short, defScope s_need_short, [], []⟩
def d_put_many : He.DefD := ⟨("put_many", none), "put_many", "put_many", defArgs s_put_many, defBody s_put_many, defScope s_put_many, [], []⟩
def d_still_on : He.DefD := ⟨("still_on", none), "still_on", "still_on", defArgs s_still_on, defBody s_still_on, defScope s_still_on, [], []⟩
def d_still_many : He.DefD := ⟨("still_many", none), "still_many", "still_many", defArgs s_still_many, defBody s_still_many, defScope s_still_many, [], []⟩
def d_classes_on : He.DefD := ⟨("classes_on", none), "classes_on", "classes_on", defArgs s_classes_on, defBody s_classes_on, defScope s_classes_on, [], []⟩
def d_class_states : He.DefD := ⟨("class_states", none), "class_states", "class_states", defArgs s_class_states, defBody s_class_states, defScope s_class_states, [], []⟩
def d_need_lengthy : He.DefD := ⟨("need_lengthy", none), "need_lengthy", "need_lengthy", defArgs s_need_lengthy, defBody s_need_lengthy, defScope s_need_lengthy, [], []⟩
def d_foot_classes_many : He.DefD := ⟨("foot_classes_many", none), "foot_classes_many", "foot_classes_many", defArgs s_foot_classes_many, defBody s_foot_classes_many, defScope s_foot_classes_many, [], []⟩
def d_foot_return : He.DefD := ⟨("foot_return", none), "foot_return", "foot_return", defArgs s_foot_return, defBody s_foot_return, defScope s_foot_return, [], []⟩
def d_need_length : He.DefD := ⟨("need_length", none), "need_length", "need_length", defArgs s_need_length, defBody s_need_length, defScope s_need_length, [], []⟩
def d_all_steps : He.DefD := ⟨("all_steps", none), "all_steps", "all_steps", defArgs s_all_steps, defBody s_all_steps, defScope s_all_steps, [], []⟩
def d_rooms_table : He.DefD := ⟨("rooms_table", none), "rooms_table", "rooms_table", defArgs s_rooms_table, defBody s_rooms_table, defScope s_rooms_table, [], []⟩
def d_sizes_of_rooms : He.DefD := ⟨("sizes_of_rooms", none), "sizes_of_rooms", "sizes_of_rooms", defArgs s_sizes_of_rooms, defBody s_sizes_of_rooms, defScope s_sizes_of_rooms, [], []⟩
def d_next_line : He.DefD := ⟨("next_line", none), "next_line", "next_line", defArgs s_next_line, defBody s_next_line, defScope s_next_line, [], []⟩
def d_lines_of : He.DefD := ⟨("lines_of", none), "lines_of", "lines_of", defArgs s_lines_of, defBody s_lines_of, defScope s_lines_of, [], []⟩
def d_feet_to : He.DefD := ⟨("feet_to", none), "feet_to", "feet_to", defArgs s_feet_to, defBody s_feet_to, defScope s_feet_to, [], []⟩
def d_feet_many : He.DefD := ⟨("feet_many", none), "feet_many", "feet_many", defArgs s_feet_many, defBody s_feet_many, defScope s_feet_many, [], []⟩
def d__law_begun : He.DefD := ⟨("_law_begun", none), "_law_begun", "_law_begun", defArgs s__law_begun, defBody s__law_begun, defScope s__law_begun, [], []⟩
def d__law_blended : He.DefD := ⟨("_law_blended", none), "_law_blended", "_law_blended", defArgs s__law_blended, defBody s__law_blended, defScope s__law_blended, [], []⟩
def d__law_draw : He.DefD := ⟨("_law_draw", none), "_law_draw", "_law_draw", defArgs s__law_draw, defBody s__law_draw, defScope s__law_draw, [], []⟩
def d__law_pick : He.DefD := ⟨("_law_pick", none), "_law_pick", "_law_pick", defArgs s__law_pick, defBody s__law_pick, defScope s__law_pick, [], []⟩
def d__law_mixed : He.DefD := ⟨("_law_mixed", none), "_law_mixed", "_law_mixed", defArgs s__law_mixed, defBody s__law_mixed, defScope s__law_mixed, [], []⟩
def d__law_common : He.DefD := ⟨("_law_common", none), "_law_common", "_law_common", defArgs s__law_common, defBody s__law_common, defScope s__law_common, [], []⟩
def d__law_gr_doors : He.DefD := ⟨("_law_gr_doors", none), "_law_gr_doors", "_law_gr_doors", defArgs s__law_gr_doors, defBody s__law_gr_doors, defScope s__law_gr_doors, [], []⟩
def d__law_gr_size : He.DefD := ⟨("_law_gr_size", none), "_law_gr_size", "_law_gr_size", defArgs s__law_gr_size, defBody s__law_gr_size, defScope s__law_gr_size, [], []⟩
def d__law_gr_house : He.DefD := ⟨("_law_gr_house", none), "_law_gr_house", "_law_gr_house", defArgs s__law_gr_house, defBody s__law_gr_house, defScope s__law_gr_house, [], []⟩
def d__law_gr_small : He.DefD := ⟨("_law_gr_small", none), "_law_gr_small", "_law_gr_small", defArgs s__law_gr_small, defBody s__law_gr_small, defScope s__law_gr_small, [], []⟩
def d__law_ax_world : He.DefD := ⟨("_law_ax_world", none), "_law_ax_world", "_law_ax_world", defArgs s__law_ax_world, defBody s__law_ax_world, defScope s__law_ax_world, [], []⟩
def d__law_su_factors : He.DefD := ⟨("_law_su_factors", none), "_law_su_factors", "_law_su_factors", defArgs s__law_su_factors, defBody s__law_su_factors, defScope s__law_su_factors, [], []⟩
def d_law : He.DefD := ⟨("law", none), "law", "law", defArgs s_law, defBody s_law, defScope s_law, [], []⟩
def d_House : He.DefD := ⟨("House", some "__init__"), "__init__", "House.__init__", defArgs s_House___init__, defBody s_House___init__, defScope s_House___init__, [], []⟩
def fn : List He.DefD := [d_is_number, d_is_below, d_is_door, d_are_doors, d_joined_rooms, d_need_house, d_need_room, d_gate_of, d_steps_of_room, d_turned_step, d_steps_beyond, d_need_short, d_put_many, d_still_on, d_still_many, d_classes_on, d_class_states, d_need_lengthy, d_foot_classes_many, d_foot_return, d_need_length, d_all_steps, d_rooms_table, d_sizes_of_rooms, d_next_line, d_lines_of, d_feet_to, d_feet_many, d__law_begun, d__law_blended, d__law_draw, d__law_pick, d__law_mixed, d__law_common, d__law_gr_doors, d__law_gr_size, d__law_gr_house, d__law_gr_small, d__law_ax_world, d__law_su_factors, d_law, d_House]
def fa : List He.Fa := [.glo "is_number", .glo "is_below", .glo "is_door", .glo "are_doors", .glo "joined_rooms", .glo "need_house", .glo "need_room", .glo "gate_of", .glo "steps_of_room", .glo "turned_step", .glo "steps_beyond", .glo "need_short", .glo "put_many", .glo "still_on", .glo "still_many", .glo "classes_on", .glo "class_states", .glo "need_lengthy", .glo "foot_classes_many", .glo "foot_return", .glo "need_length", .glo "all_steps", .glo "rooms_table", .glo "sizes_of_rooms", .glo "next_line", .glo "lines_of", .glo "feet_to", .glo "feet_many", .glo "_law_begun", .glo "_law_blended", .glo "_law_draw", .glo "_law_pick", .glo "_law_mixed", .glo "_law_common", .glo "_law_gr_doors", .glo "_law_gr_size", .glo "_law_gr_house", .glo "_law_gr_small", .glo "_law_ax_world", .glo "_law_su_factors", .glo "law", .free "len", .free "range", .free "isinstance", .free "int", .free "bool", .free "tuple", .free "list", .free "abs", .free "sum", .free "all", .free "min", .int "MOST_ROOMS" 12, .int "MOST_DOORS" 20, .int "GREATEST" 999, .int "MOST_LENGTH_stillness" 40, .int "MOST_LENGTH_counts" 300, .glo "House", .cls "House", .noat "House" "rooms", .noat "House" "doors", .mkr "House"]
/-- the facts that no Fa tells -/
def exB (K : PySem.W.Frag) : Bool := He.eqO (PySem.W.nsIn K mainGlobals "gcd") (some (some (.builtin "math.gcd"))) && (He.eqO (PySem.W.findIn K (.ref (He.ga K "House")) "__class__") (some (some (.builtin "object.__class__"))) && (decide (PySem.W.specialIn K (.builtin "object.__class__") "__get__" = some (some (.builtin "getset_descriptor.__get__"))) && (decide (PySem.W.takesIn K (.builtin "object.__class__") = some true) && (decide (PySem.W.mroIn K (He.ga K "House") (.type "object") = some true) && decide (PySem.W.kitOne K (.ref (He.ga K "House")) (.ref (He.ga K "House")) = some true)))))
def obsX (K : PySem.W.Frag) : He.AlD := (exB K && (He.obsD fa fn K).1, (He.obsD fa fn K).2)
def SaysX (K : PySem.W.Frag) : Prop := obsX K = He.valD fn
theorem SaysX.ex {K : PySem.W.Frag} (c : SaysX K) : exB K = true := (He.ba (show (exB K && (He.obsD fa fn K).1) = true from congrArg (fun z : He.AlD => z.1) c)).1
theorem SaysX.says {K : PySem.W.Frag} (c : SaysX K) : He.SaysD fa fn K := by
  have h1 := (He.ba (show (exB K && (He.obsD fa fn K).1) = true from congrArg (fun z : He.AlD => z.1) c)).2
  have h2 : (obsX K).2 = (He.valD fn).2 := by
    have e : obsX K = He.valD fn := c
    rw [e]
  exact Prod.ext h1 h2
def obsXG (n : Nat) (g : Addr → Option Obj) : He.AlD := obsX (He.frG g (He.asD g n))
abbrev hk : PySem.W.Hook where
  α := He.AlD
  obs := fun s => obsXG 5 s.heap.get?
  val := fun _ => He.valD fn
  says := fun _ h => ∃ K : PySem.W.Frag, K.In h ∧ SaysX K
  of := fun _ _ e => ⟨_, He.frG_in, e⟩
  keeps := fun _ _ _ ⟨K, hK, c⟩ k => ⟨K, PySem.W.Frag.In.keeps hK k, c⟩
theorem obsXG_eq {n : Nat} {g : Addr → Option Obj} {s : Shared} (h : ∀ a, g a = s.heap.get? a) : obsXG n g = obsXG n s.heap.get? := by
  have e : g = s.heap.get? := funext h
  rw [e]
def ob (s : PySem.W.SharedT) : He.AlD := obsXG 5 (HandSHeadRun.getT s)
theorem ob_eq (s : PySem.W.SharedT) : ob s = hk.obs s.abs := obsXG_eq (HandSHeadRun.getT_eq s)
def names : List PySem.Str := (["is_number", "is_below", "PullError", "Apart", "BadDoors", "BadHouse", "BadLength", "BadNumber", "BadRoom", "BadRooms", "MOST_ROOMS"] : List PySem.Str) ++ (["MOST_DOORS", "GREATEST", "is_door", "are_doors", "joined_rooms", "House", "need_house", "need_room", "gate_of", "steps_of_room", "turned_step", "steps_beyond"] : List PySem.Str) ++ (["MOST_LENGTH_stillness", "need_short", "put_many", "still_on", "still_many", "classes_on", "class_states", "need_lengthy", "foot_classes_many", "foot_return", "MOST_LENGTH_counts", "need_length"] : List PySem.Str) ++ (["all_steps", "rooms_table", "sizes_of_rooms", "next_line", "lines_of", "feet_to", "feet_many", "_law_begun", "_law_blended", "_law_draw", "_law_pick", "_law_mixed"] : List PySem.Str) ++ (["_law_common", "_law_gr_doors", "_law_gr_size", "_law_gr_house", "_law_gr_small", "_law_ax_world", "_law_su_factors"] : List PySem.Str)
theorem run (w : World) : HandSHeadRun.RunEqI R (PySem.W.view R.prog [0, 62]) hk ob 4000 names w := by
  show (HandSHeadRun.wholeF (fun p => HandSHeadRun.stepQ (HandSHeadRun.denQ HandSHeadRun.tabQ) p w) HandSHeadRun.fenceQ 4000 R.prog).map _ = _
  kernel_rfl
end K49

set_option Elab.async false
set_option linter.all false
set_option maxRecDepth 100000
set_option maxHeartbeats 0
/-! All defs keep their promises; the row holds. -/
namespace K49
open PySem PySem.Spec PyProof.Rows L2 Y
theorem facts {P : Program} {w : World} {K : PySem.W.Frag} {h : Heap} {mg : Str → Option Value} {f : Addr} (X : K.In h) (G : h.Ns mainGlobals mg) (hfa : mg ("law" : Str) = some (.ref f)) (c0 : SaysX K) :
    ∃ fd : FuncData, (∀ (s : Shared) (v : Value), BindsTo s fd ⟨[v], []⟩ [("script", v)]) ∧ ∀ base : Heap, K.In base → base.Ns mainGlobals mg → FnOk P w K mg base CX0 8 f fd ["script"] (sp_law K) := by
  have c := c0.says
  have ex := c0.ex
  unfold exB at ex
  obtain ⟨x1, ex⟩ := He.ba ex
  obtain ⟨x2, ex⟩ := He.ba ex
  obtain ⟨x3, ex⟩ := He.ba ex
  obtain ⟨x4, ex⟩ := He.ba ex
  obtain ⟨x5, x6⟩ := He.ba ex
  have cl : Cls K (He.ga K "House") := He.cls_ok (c.fact 58 (f := .cls "House") rfl)
  have B : Bi K mg (He.ga K "House") := ⟨He.free_ok X G (c.fact 41 (f := .free "len") rfl),
    He.free_ok X G (c.fact 42 (f := .free "range") rfl),
    He.free_ok X G (c.fact 43 (f := .free "isinstance") rfl),
    He.free_ok X G (c.fact 44 (f := .free "int") rfl),
    He.free_ok X G (c.fact 45 (f := .free "bool") rfl),
    He.free_ok X G (c.fact 46 (f := .free "tuple") rfl),
    He.free_ok X G (c.fact 47 (f := .free "list") rfl),
    He.free_ok X G (c.fact 48 (f := .free "abs") rfl),
    He.free_ok X G (c.fact 49 (f := .free "sum") rfl),
    He.free_ok X G (c.fact 50 (f := .free "all") rfl),
    He.free_ok X G (c.fact 51 (f := .free "min") rfl),
    PySem.W.mg_of X G (He.eqO_ok x1),
    He.int_ok X G (c.fact 52 (f := .int "MOST_ROOMS" 12) rfl),
    He.int_ok X G (c.fact 53 (f := .int "MOST_DOORS" 20) rfl),
    He.int_ok X G (c.fact 54 (f := .int "GREATEST" 999) rfl),
    He.int_ok X G (c.fact 55 (f := .int "MOST_LENGTH_stillness" 40) rfl),
    He.int_ok X G (c.fact 56 (f := .int "MOST_LENGTH_counts" 300) rfl),
    He.glo_ok X G (c.fact 57 (f := .glo "House") rfl),
    cl,
    ⟨cl, He.eqO_ok x2, of_decide_eq_true x3, of_decide_eq_true x4, of_decide_eq_true x5, of_decide_eq_true x6⟩,
    He.noat_ok (c.fact 59 (f := .noat "House" "rooms") rfl),
    He.noat_ok (c.fact 60 (f := .noat "House" "doors") rfl)⟩
  have F_is_number : Df K mg "is_number" s_is_number := by
    obtain ⟨fd, F⟩ := c.def_ 0 (d := d_is_number) rfl
    exact ⟨_, fd, He.glo_ok X G (c.fact 0 (f := .glo "is_number") rfl), F⟩
  have F_is_below : Df K mg "is_below" s_is_below := by
    obtain ⟨fd, F⟩ := c.def_ 1 (d := d_is_below) rfl
    exact ⟨_, fd, He.glo_ok X G (c.fact 1 (f := .glo "is_below") rfl), F⟩
  have F_is_door : Df K mg "is_door" s_is_door := by
    obtain ⟨fd, F⟩ := c.def_ 2 (d := d_is_door) rfl
    exact ⟨_, fd, He.glo_ok X G (c.fact 2 (f := .glo "is_door") rfl), F⟩
  have F_are_doors : Df K mg "are_doors" s_are_doors := by
    obtain ⟨fd, F⟩ := c.def_ 3 (d := d_are_doors) rfl
    exact ⟨_, fd, He.glo_ok X G (c.fact 3 (f := .glo "are_doors") rfl), F⟩
  have F_joined_rooms : Df K mg "joined_rooms" s_joined_rooms := by
    obtain ⟨fd, F⟩ := c.def_ 4 (d := d_joined_rooms) rfl
    exact ⟨_, fd, He.glo_ok X G (c.fact 4 (f := .glo "joined_rooms") rfl), F⟩
  have F_need_house : Df K mg "need_house" s_need_house := by
    obtain ⟨fd, F⟩ := c.def_ 5 (d := d_need_house) rfl
    exact ⟨_, fd, He.glo_ok X G (c.fact 5 (f := .glo "need_house") rfl), F⟩
  have F_need_room : Df K mg "need_room" s_need_room := by
    obtain ⟨fd, F⟩ := c.def_ 6 (d := d_need_room) rfl
    exact ⟨_, fd, He.glo_ok X G (c.fact 6 (f := .glo "need_room") rfl), F⟩
  have F_gate_of : Df K mg "gate_of" s_gate_of := by
    obtain ⟨fd, F⟩ := c.def_ 7 (d := d_gate_of) rfl
    exact ⟨_, fd, He.glo_ok X G (c.fact 7 (f := .glo "gate_of") rfl), F⟩
  have F_steps_of_room : Df K mg "steps_of_room" s_steps_of_room := by
    obtain ⟨fd, F⟩ := c.def_ 8 (d := d_steps_of_room) rfl
    exact ⟨_, fd, He.glo_ok X G (c.fact 8 (f := .glo "steps_of_room") rfl), F⟩
  have F_turned_step : Df K mg "turned_step" s_turned_step := by
    obtain ⟨fd, F⟩ := c.def_ 9 (d := d_turned_step) rfl
    exact ⟨_, fd, He.glo_ok X G (c.fact 9 (f := .glo "turned_step") rfl), F⟩
  have F_steps_beyond : Df K mg "steps_beyond" s_steps_beyond := by
    obtain ⟨fd, F⟩ := c.def_ 10 (d := d_steps_beyond) rfl
    exact ⟨_, fd, He.glo_ok X G (c.fact 10 (f := .glo "steps_beyond") rfl), F⟩
  have F_need_short : Df K mg "need_short" s_need_short := by
    obtain ⟨fd, F⟩ := c.def_ 11 (d := d_need_short) rfl
    exact ⟨_, fd, He.glo_ok X G (c.fact 11 (f := .glo "need_short") rfl), F⟩
  have F_put_many : Df K mg "put_many" s_put_many := by
    obtain ⟨fd, F⟩ := c.def_ 12 (d := d_put_many) rfl
    exact ⟨_, fd, He.glo_ok X G (c.fact 12 (f := .glo "put_many") rfl), F⟩
  have F_still_on : Df K mg "still_on" s_still_on := by
    obtain ⟨fd, F⟩ := c.def_ 13 (d := d_still_on) rfl
    exact ⟨_, fd, He.glo_ok X G (c.fact 13 (f := .glo "still_on") rfl), F⟩
  have F_still_many : Df K mg "still_many" s_still_many := by
    obtain ⟨fd, F⟩ := c.def_ 14 (d := d_still_many) rfl
    exact ⟨_, fd, He.glo_ok X G (c.fact 14 (f := .glo "still_many") rfl), F⟩
  have F_classes_on : Df K mg "classes_on" s_classes_on := by
    obtain ⟨fd, F⟩ := c.def_ 15 (d := d_classes_on) rfl
    exact ⟨_, fd, He.glo_ok X G (c.fact 15 (f := .glo "classes_on") rfl), F⟩
  have F_class_states : Df K mg "class_states" s_class_states := by
    obtain ⟨fd, F⟩ := c.def_ 16 (d := d_class_states) rfl
    exact ⟨_, fd, He.glo_ok X G (c.fact 16 (f := .glo "class_states") rfl), F⟩
  have F_need_lengthy : Df K mg "need_lengthy" s_need_lengthy := by
    obtain ⟨fd, F⟩ := c.def_ 17 (d := d_need_lengthy) rfl
    exact ⟨_, fd, He.glo_ok X G (c.fact 17 (f := .glo "need_lengthy") rfl), F⟩
  have F_foot_classes_many : Df K mg "foot_classes_many" s_foot_classes_many := by
    obtain ⟨fd, F⟩ := c.def_ 18 (d := d_foot_classes_many) rfl
    exact ⟨_, fd, He.glo_ok X G (c.fact 18 (f := .glo "foot_classes_many") rfl), F⟩
  have F_foot_return : Df K mg "foot_return" s_foot_return := by
    obtain ⟨fd, F⟩ := c.def_ 19 (d := d_foot_return) rfl
    exact ⟨_, fd, He.glo_ok X G (c.fact 19 (f := .glo "foot_return") rfl), F⟩
  have F_need_length : Df K mg "need_length" s_need_length := by
    obtain ⟨fd, F⟩ := c.def_ 20 (d := d_need_length) rfl
    exact ⟨_, fd, He.glo_ok X G (c.fact 20 (f := .glo "need_length") rfl), F⟩
  have F_all_steps : Df K mg "all_steps" s_all_steps := by
    obtain ⟨fd, F⟩ := c.def_ 21 (d := d_all_steps) rfl
    exact ⟨_, fd, He.glo_ok X G (c.fact 21 (f := .glo "all_steps") rfl), F⟩
  have F_rooms_table : Df K mg "rooms_table" s_rooms_table := by
    obtain ⟨fd, F⟩ := c.def_ 22 (d := d_rooms_table) rfl
    exact ⟨_, fd, He.glo_ok X G (c.fact 22 (f := .glo "rooms_table") rfl), F⟩
  have F_sizes_of_rooms : Df K mg "sizes_of_rooms" s_sizes_of_rooms := by
    obtain ⟨fd, F⟩ := c.def_ 23 (d := d_sizes_of_rooms) rfl
    exact ⟨_, fd, He.glo_ok X G (c.fact 23 (f := .glo "sizes_of_rooms") rfl), F⟩
  have F_next_line : Df K mg "next_line" s_next_line := by
    obtain ⟨fd, F⟩ := c.def_ 24 (d := d_next_line) rfl
    exact ⟨_, fd, He.glo_ok X G (c.fact 24 (f := .glo "next_line") rfl), F⟩
  have F_lines_of : Df K mg "lines_of" s_lines_of := by
    obtain ⟨fd, F⟩ := c.def_ 25 (d := d_lines_of) rfl
    exact ⟨_, fd, He.glo_ok X G (c.fact 25 (f := .glo "lines_of") rfl), F⟩
  have F_feet_to : Df K mg "feet_to" s_feet_to := by
    obtain ⟨fd, F⟩ := c.def_ 26 (d := d_feet_to) rfl
    exact ⟨_, fd, He.glo_ok X G (c.fact 26 (f := .glo "feet_to") rfl), F⟩
  have F_feet_many : Df K mg "feet_many" s_feet_many := by
    obtain ⟨fd, F⟩ := c.def_ 27 (d := d_feet_many) rfl
    exact ⟨_, fd, He.glo_ok X G (c.fact 27 (f := .glo "feet_many") rfl), F⟩
  have F__law_begun : Df K mg "_law_begun" s__law_begun := by
    obtain ⟨fd, F⟩ := c.def_ 28 (d := d__law_begun) rfl
    exact ⟨_, fd, He.glo_ok X G (c.fact 28 (f := .glo "_law_begun") rfl), F⟩
  have F__law_blended : Df K mg "_law_blended" s__law_blended := by
    obtain ⟨fd, F⟩ := c.def_ 29 (d := d__law_blended) rfl
    exact ⟨_, fd, He.glo_ok X G (c.fact 29 (f := .glo "_law_blended") rfl), F⟩
  have F__law_draw : Df K mg "_law_draw" s__law_draw := by
    obtain ⟨fd, F⟩ := c.def_ 30 (d := d__law_draw) rfl
    exact ⟨_, fd, He.glo_ok X G (c.fact 30 (f := .glo "_law_draw") rfl), F⟩
  have F__law_pick : Df K mg "_law_pick" s__law_pick := by
    obtain ⟨fd, F⟩ := c.def_ 31 (d := d__law_pick) rfl
    exact ⟨_, fd, He.glo_ok X G (c.fact 31 (f := .glo "_law_pick") rfl), F⟩
  have F__law_mixed : Df K mg "_law_mixed" s__law_mixed := by
    obtain ⟨fd, F⟩ := c.def_ 32 (d := d__law_mixed) rfl
    exact ⟨_, fd, He.glo_ok X G (c.fact 32 (f := .glo "_law_mixed") rfl), F⟩
  have F__law_common : Df K mg "_law_common" s__law_common := by
    obtain ⟨fd, F⟩ := c.def_ 33 (d := d__law_common) rfl
    exact ⟨_, fd, He.glo_ok X G (c.fact 33 (f := .glo "_law_common") rfl), F⟩
  have F__law_gr_doors : Df K mg "_law_gr_doors" s__law_gr_doors := by
    obtain ⟨fd, F⟩ := c.def_ 34 (d := d__law_gr_doors) rfl
    exact ⟨_, fd, He.glo_ok X G (c.fact 34 (f := .glo "_law_gr_doors") rfl), F⟩
  have F__law_gr_size : Df K mg "_law_gr_size" s__law_gr_size := by
    obtain ⟨fd, F⟩ := c.def_ 35 (d := d__law_gr_size) rfl
    exact ⟨_, fd, He.glo_ok X G (c.fact 35 (f := .glo "_law_gr_size") rfl), F⟩
  have F__law_gr_house : Df K mg "_law_gr_house" s__law_gr_house := by
    obtain ⟨fd, F⟩ := c.def_ 36 (d := d__law_gr_house) rfl
    exact ⟨_, fd, He.glo_ok X G (c.fact 36 (f := .glo "_law_gr_house") rfl), F⟩
  have F__law_gr_small : Df K mg "_law_gr_small" s__law_gr_small := by
    obtain ⟨fd, F⟩ := c.def_ 37 (d := d__law_gr_small) rfl
    exact ⟨_, fd, He.glo_ok X G (c.fact 37 (f := .glo "_law_gr_small") rfl), F⟩
  have F__law_ax_world : Df K mg "_law_ax_world" s__law_ax_world := by
    obtain ⟨fd, F⟩ := c.def_ 38 (d := d__law_ax_world) rfl
    exact ⟨_, fd, He.glo_ok X G (c.fact 38 (f := .glo "_law_ax_world") rfl), F⟩
  have F__law_su_factors : Df K mg "_law_su_factors" s__law_su_factors := by
    obtain ⟨fd, F⟩ := c.def_ 39 (d := d__law_su_factors) rfl
    exact ⟨_, fd, He.glo_ok X G (c.fact 39 (f := .glo "_law_su_factors") rfl), F⟩
  have F_House : DfM K (He.ga K "House") "House.__init__" s_House___init__ := by
    obtain ⟨fd, F⟩ := c.def_ 41 (d := d_House) rfl
    exact ⟨_, fd, He.mkr_ok (c.fact 61 (f := .mkr "House") rfl), F⟩
  obtain ⟨fd, F⟩ := c.def_ 40 (d := d_law) rfl
  have e := hfa.symm.trans (He.glo_ok X G (c.fact 40 (f := .glo "law") rfl))
  cases e
  have b := FunD.bindsA (ps := ["script"]) F fun _ _ _ _ _ _ us hl => match us, hl with | [_], _ => rfl
  refine ⟨fd, fun s v => b s [v] rfl, fun base _ _ => ?_⟩
  have h_is_number := ok_is_number (P := P) (w := w) (base := base) F_is_number B
  have h_is_below := ok_is_below (P := P) (w := w) (base := base) F_is_below B h_is_number
  have h_need_house := ok_need_house (P := P) (w := w) (base := base) F_need_house B
  have h_need_room := ok_need_room (P := P) (w := w) (base := base) F_need_room B h_is_below
  have h_gate_of := ok_gate_of (P := P) (w := w) (base := base) F_gate_of B
  have h_steps_of_room := ok_steps_of_room (P := P) (w := w) (base := base) F_steps_of_room B h_gate_of
  have h_turned_step := ok_turned_step (P := P) (w := w) (base := base) F_turned_step B
  have h_steps_beyond := ok_steps_beyond (P := P) (w := w) (base := base) F_steps_beyond B h_steps_of_room h_turned_step
  have h_is_door := ok_is_door (P := P) (w := w) (base := base) F_is_door B h_is_number h_is_below
  have h_are_doors := ok_are_doors (P := P) (w := w) (base := base) F_are_doors B h_is_door
  have h_joined_rooms := ok_joined_rooms (P := P) (w := w) (base := base) F_joined_rooms B
  have h_House := ok_House (P := P) (w := w) (base := base) F_House B h_is_number h_are_doors h_joined_rooms
  have h_need_short := ok_need_short (P := P) (w := w) (base := base) F_need_short B h_is_below
  have h_put_many := ok_put_many (P := P) (w := w) (base := base) F_put_many B
  have h_still_on := ok_still_on (P := P) (w := w) (base := base) F_still_on B h_steps_beyond h_gate_of h_put_many
  have h_still_many := ok_still_many (P := P) (w := w) (base := base) F_still_many B h_is_number h_need_house h_need_room h_need_short h_still_on
  have h_need_lengthy := ok_need_lengthy (P := P) (w := w) (base := base) F_need_lengthy B h_need_house h_need_room h_need_short
  have h_classes_on := ok_classes_on (P := P) (w := w) (base := base) F_classes_on B h_steps_beyond h_gate_of h_put_many
  have h_class_states := ok_class_states (P := P) (w := w) (base := base) F_class_states B h_classes_on
  have h_foot_classes_many := ok_foot_classes_many (P := P) (w := w) (base := base) F_foot_classes_many B h_need_lengthy h_class_states
  have h_foot_return := ok_foot_return (P := P) (w := w) (base := base) F_foot_return B h_need_lengthy h_class_states
  have h_need_length := ok_need_length (P := P) (w := w) (base := base) F_need_length B h_is_below
  have h_all_steps := ok_all_steps (P := P) (w := w) (base := base) F_all_steps B
  have h_rooms_table := ok_rooms_table (P := P) (w := w) (base := base) F_rooms_table B h_all_steps h_gate_of
  have h_sizes_of_rooms := ok_sizes_of_rooms (P := P) (w := w) (base := base) F_sizes_of_rooms B
  have h_next_line := ok_next_line (P := P) (w := w) (base := base) F_next_line B
  have h_lines_of := ok_lines_of (P := P) (w := w) (base := base) F_lines_of B h_rooms_table h_sizes_of_rooms h_next_line
  have h_feet_to := ok_feet_to (P := P) (w := w) (base := base) F_feet_to B h_need_house h_need_room h_need_length h_lines_of
  have h_feet_many := ok_feet_many (P := P) (w := w) (base := base) F_feet_many B h_feet_to
  have h__law_common := ok__law_common (P := P) (w := w) (base := base) F__law_common B
  have h__law_su_factors := ok__law_su_factors (P := P) (w := w) (base := base) F__law_su_factors B
  have h__law_begun := ok__law_begun (P := P) (w := w) (base := base) F__law_begun B
  have h__law_blended := ok__law_blended (P := P) (w := w) (base := base) F__law_blended B
  have h__law_draw := ok__law_draw (P := P) (w := w) (base := base) F__law_draw B h__law_blended
  have h__law_pick := ok__law_pick (P := P) (w := w) (base := base) F__law_pick B h__law_draw
  have h__law_mixed := ok__law_mixed (P := P) (w := w) (base := base) F__law_mixed B h__law_draw
  have h__law_gr_size := ok__law_gr_size (P := P) (w := w) (base := base) F__law_gr_size B h__law_pick
  have h__law_gr_doors := ok__law_gr_doors (P := P) (w := w) (base := base) F__law_gr_doors B h__law_draw h__law_gr_size h__law_mixed
  have h__law_gr_house := ok__law_gr_house (P := P) (w := w) (base := base) F__law_gr_house B h__law_draw h__law_pick h__law_gr_doors
  have h__law_gr_small := ok__law_gr_small (P := P) (w := w) (base := base) F__law_gr_small B h__law_draw h__law_pick h__law_gr_doors
  have h__law_ax_world := ok__law_ax_world (P := P) (w := w) (base := base) F__law_ax_world B h__law_draw h__law_gr_house h__law_gr_small
  exact ok_law F B h__law_begun h__law_ax_world h_House h__law_draw h_foot_return h_foot_classes_many h_feet_many h_still_many h__law_su_factors h__law_common
end K49
open PySem PySem.W PySem.Calls PyProof.Rows
theorem PySem.Challenge.cw_ropescounted_k49_whole_classes_are_told_holds : PySem.Challenge.rw_ropescounted_k49_whole_classes_are_told.Holds := by
  w_on; o_law
  refine HandSHeadRun.head_imp (r := OpenLaw.row PySem.Challenge.rw_ropescounted_k49_whole_classes_are_told) (q := view (OpenLaw.row PySem.Challenge.rw_ropescounted_k49_whole_classes_are_told).prog [0, 62]) (H := K49.hk) (ob := K49.ob) (M := 4000) (loose := K49.names) (d := HandSHeadRun.topDef (OpenLaw.row PySem.Challenge.rw_ropescounted_k49_whole_classes_are_told).prog 62) (kwd := []) K49.ob_eq
    K49.run (by kernel_rfl) (by kernel_rfl) (by kernel_rfl) (by rfl) (by first | assumption | decide +kernel) (by decide +kernel) ⟨rfl, rfl, rfl, rfl, rfl, by decide +kernel⟩ ?hw ?hc
  case hw => w_witness2
  case hc =>
    refine L2.walk_ofE (l := PySem.Challenge.rw_ropescounted_k49_whole_classes_are_told) (n := 63) (k := 8) (x := "script") (CX := L2.CX0) rfl (by decide) (by kernel_rfl) ⟨rfl, by decide, by decide⟩ ?F (fun _ _ _ _ z => z)
    intro w mg fa h Y G hmg0
    obtain ⟨K, KX, c⟩ := Y
    have hmg : mg ("law" : PySem.Str) = some (.ref fa) := by
      have e : (HandSHeadRun.topDef (OpenLaw.row PySem.Challenge.rw_ropescounted_k49_whole_classes_are_told).prog 62).name = ("law" : PySem.Str) := by kernel_rfl
      rw [← e]
      exact hmg0
    obtain ⟨fd, hb, hF⟩ := K49.facts (P := (PySem.Challenge.rw_ropescounted_k49_whole_classes_are_told).prog) (w := w) KX G hmg c
    exact ⟨K, fd, K49.sp_law K, KX, hb, fun H a ns hl _ hS => ⟨a, ns, rfl, hS, hl, fun _ => rfl⟩, hF⟩

