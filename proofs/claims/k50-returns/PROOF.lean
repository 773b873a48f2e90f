import PyProof.Rows.All
import Wide.All
import OpenK.AllK
import Wide.FinOn
import HandS.ForMost
import HandS.Defaults
import HandS.IsInst
import HandS.Codes
import HandS.Gcd
import HandS.Style
import HandS.Wide
import KE.KDictKeyed
import KE.KDictWalk
import KE.KDictDisplayH
import PyProof.SumWalkG
import HandS.DictTup
import KE.KEqSeq
import HandS.Star
import KE.KStateDown
import HandS.Head0
import HandS.Head1
import HandS.Head2
import HandS.Head3
import HandS.HeadEnd
import HandS.HeadHook1
import HandS.HeadHook2
import HandS.Words
import PySem.Challenge.RW_ropescounted_k50_whole_returns_of_feet_a
set_option Elab.async false
set_option linter.all false
set_option maxRecDepth 100000
set_option maxHeartbeats 4000000
/-! Data of tuples and houses; readings that come to data. -/
namespace Y
open PySem PySem.Spec PyProof.Rows L2

abbrev Door := Int × Int × Int × Int
/-- a datum: None, a bool, an int, a text, a tuple of data, a house -/
inductive D where
  | non | bl (b : Bool) | num (i : Int) | text (x : Str) | tup (ds : List D) | hs (r : Int) (ds : List Door)
def doorD (d : Door) : D := .tup [.num d.1, .num d.2.1, .num d.2.2.1, .num d.2.2.2]
def DoorV (H : Hp) (v : V) (d : Door) : Prop := ∃ a, v = .ref a ∧ H a = some (.tup [.int d.1, .int d.2.1, .int d.2.2.1, .int d.2.2.2])
def hflds (r : Int) (b : Addr) : List (Str × V) := [("rooms", .int r), ("doors", .ref b)]
mutual
inductive Tp (C : Addr) (H : Hp) : V → D → Prop
  | non : Tp C H .non .non
  | bl (b : Bool) : Tp C H (.bl b) (.bl b)
  | num (i : Int) : Tp C H (.int i) (.num i)
  | text (x : Str) : Tp C H (.str x) (.text x)
  | tup {a : Addr} {xs : List V} {ds : List D} : H a = some (.tup xs) → TpA C H xs ds → Tp C H (.ref a) (.tup ds)
  | hs {a dx b : Addr} {xs : List V} {r : Int} {ds : List Door} : H a = some (.ins C dx (hflds r b)) → H b = some (.tup xs) → Paired (DoorV H) xs ds → Tp C H (.ref a) (.hs r ds)
inductive TpA (C : Addr) (H : Hp) : List V → List D → Prop
  | nil : TpA C H [] []
  | cons {v : V} {vs : List V} {d : D} {ds : List D} : Tp C H v d → TpA C H vs ds → TpA C H (v :: vs) (d :: ds)
end
/-- what never changes -/
def Imm : HO → Prop
  | .tup _ => True
  | .ins _ _ _ => True
  | _ => False
def Stay (H H' : Hp) : Prop := ∀ b o, H b = some o → Imm o → H' b = some o
/-- all but p is as it was -/
def But (p : Addr) (H H' : Hp) : Prop := ∀ b o, b ≠ p → H b = some o → H' b = some o
section
variable {C : Addr} {H H' H1 H2 : Hp} {p : Addr} {o : HO}
theorem Same.stay (s : Same H H') : Stay H H' := fun b o e _ => s b o e
theorem Stay.refl (H : Hp) : Stay H H := fun _ _ h _ => h
theorem Stay.trans (a : Stay H H1) (b : Stay H1 H2) : Stay H H2 := fun c o h i => b c o (a c o h i) i
theorem But.refl (p : Addr) (H : Hp) : But p H H := fun _ _ _ h => h
theorem But.trans (a : But p H H1) (b : But p H1 H2) : But p H H2 := fun c o n h => b c o n (a c o n h)
theorem Same.but (s : Same H H') : But p H H' := fun b o _ e => s b o e
theorem but_up : But p H (upd H p o) := fun b u n e => by rw [upd_ne n]; exact e
theorem but_set (s : But p H H') : But p H (upd H' p o) := fun b u n e => by rw [upd_ne n]; exact s b u n e
/-- what is changed is not a tuple -/
theorem But.stay (s : But p H H') (n : ∀ o, H p = some o → ¬ Imm o) : Stay H H' := fun b o e i => s b o (fun z => n o (by rw [← z]; exact e) i) e
theorem But.same (s : But p H H') (n : H p = none) : Same H H' := fun b o e => s b o (ne_of_none e n) e
theorem notImm_lst {xs : List V} (h : H p = some (.lst xs)) : ∀ o, H p = some o → ¬ Imm o := fun o e i => by
  rw [h] at e; cases e; exact i
theorem Same.new (h : H p = none) : Same H (upd H p o) := fun b u e => by rw [upd_ne (ne_of_none e h)]; exact e
theorem Same.newer (s : Same H H') (h : H' p = none) : Same H (upd H' p o) := Same.trans s (Same.new h)
/-- what was not there may change -/
theorem Same.put (s : Same H H') (h : H p = none) : Same H (upd H' p o) := fun b u e => by rw [upd_ne (ne_of_none e h)]; exact s b u e
theorem DoorV.stay {v : V} {d : Door} (s : Stay H H') (h : DoorV H v d) : DoorV H' v d := let ⟨a, e, x⟩ := h; ⟨a, e, s a _ x trivial⟩
theorem pdoor_stay (s : Stay H H') : ∀ {xs : List V} {ds : List Door}, Paired (DoorV H) xs ds → Paired (DoorV H') xs ds
  | _, _, .nil => .nil
  | _, _, .cons a b => .cons (a.stay s) (pdoor_stay s b)
mutual
theorem Tp.stay (s : Stay H H') : ∀ {v : V} {d : D}, Tp C H v d → Tp C H' v d
  | _, _, .non => .non
  | _, _, .bl b => .bl b
  | _, _, .num i => .num i
  | _, _, .text x => .text x
  | _, _, .tup a r => .tup (s _ _ a trivial) (TpA.stay s r)
  | _, _, .hs a b r => .hs (s _ _ a trivial) (s _ _ b trivial) (pdoor_stay s r)
theorem TpA.stay (s : Stay H H') : ∀ {vs : List V} {ds : List D}, TpA C H vs ds → TpA C H' vs ds
  | _, _, .nil => .nil
  | _, _, .cons a r => .cons (Tp.stay s a) (TpA.stay s r)
end
theorem Tp.same {v : V} {d : D} (s : Same H H') (h : Tp C H v d) : Tp C H' v d := h.stay (Same.stay s)
theorem TpA.same {v : List V} {d : List D} (s : Same H H') (h : TpA C H v d) : TpA C H' v d := h.stay (Same.stay s)
theorem TpA.length : ∀ {vs : List V} {ds : List D}, TpA C H vs ds → vs.length = ds.length
  | _, _, .nil => rfl
  | _, _, .cons _ r => congrArg Nat.succ (TpA.length r)
theorem TpA.get : ∀ {vs : List V} {ds : List D} {i : Nat} {d : D}, TpA C H vs ds → ds[i]? = some d → ∃ v, vs[i]? = some v ∧ Tp C H v d
  | _, _, 0, _, .cons a _, e => by simp at e; subst e; exact ⟨_, rfl, a⟩
  | _, _, i + 1, d, .cons _ r, e => by
    obtain ⟨v, h1, h2⟩ := TpA.get (i := i) (d := d) r (by simpa using e)
    exact ⟨v, by simpa using h1, h2⟩
  | _, _, _, _, .nil, e => by simp at e
theorem TpA.getV : ∀ {vs : List V} {ds : List D} {i : Nat} {v : V}, TpA C H vs ds → vs[i]? = some v → ∃ d, ds[i]? = some d ∧ Tp C H v d
  | _, _, 0, _, .cons a _, e => by simp at e; subst e; exact ⟨_, rfl, a⟩
  | _, _, i + 1, d, .cons _ r, e => by
    obtain ⟨v, h1, h2⟩ := TpA.getV (i := i) r (by simpa using e)
    exact ⟨v, by simpa using h1, h2⟩
  | _, _, _, _, .nil, e => by simp at e
theorem TpA.append : ∀ {vs ws : List V} {ds es : List D}, TpA C H vs ds → TpA C H ws es → TpA C H (vs ++ ws) (ds ++ es)
  | _, _, _, _, .nil, r => r
  | _, _, _, _, .cons a b, r => .cons a (TpA.append b r)
theorem tp_num {v : V} {i : Int} (h : Tp C H v (.num i)) : v = .int i := by cases h; rfl
theorem tp_bl {v : V} {b : Bool} (h : Tp C H v (.bl b)) : v = .bl b := by cases h; rfl
theorem tp_non {v : V} (h : Tp C H v .non) : v = .non := by cases h; rfl
theorem tp_text {v : V} {b : Str} (h : Tp C H v (.text b)) : v = .str b := by cases h; rfl
theorem tp_tup {v : V} {ds : List D} (h : Tp C H v (.tup ds)) : ∃ a xs, v = .ref a ∧ H a = some (.tup xs) ∧ TpA C H xs ds := by cases h with | tup a r => exact ⟨_, _, rfl, a, r⟩
theorem tp_hs {v : V} {r : Int} {ds : List Door} (h : Tp C H v (.hs r ds)) : ∃ a dx b xs, v = .ref a ∧ H a = some (.ins C dx (hflds r b)) ∧ H b = some (.tup xs) ∧ Paired (DoorV H) xs ds := by cases h with | hs a b r => exact ⟨_, _, _, _, rfl, a, b, r⟩
theorem tpa_nil {vs : List V} (h : TpA C H vs []) : vs = [] := by cases h; rfl
theorem tpa_cons {vs : List V} {d : D} {ds : List D} (h : TpA C H vs (d :: ds)) : ∃ v r, vs = v :: r ∧ Tp C H v d ∧ TpA C H r ds := by cases h with | cons a r => exact ⟨_, _, rfl, a, r⟩
theorem tp_door {v : V} {d : Door} (h : Tp C H v (doorD d)) : DoorV H v d := by
  obtain ⟨a, xs, rfl, e, r⟩ := tp_tup h
  obtain ⟨_, _, rfl, r1, r⟩ := tpa_cons r
  obtain ⟨_, _, rfl, r2, r⟩ := tpa_cons r
  obtain ⟨_, _, rfl, r3, r⟩ := tpa_cons r
  obtain ⟨_, _, rfl, r4, r⟩ := tpa_cons r
  cases tpa_nil r
  cases tp_num r1; cases tp_num r2; cases tp_num r3; cases tp_num r4
  exact ⟨a, rfl, e⟩
theorem door_tp {v : V} {d : Door} (h : DoorV H v d) : Tp C H v (doorD d) := by
  obtain ⟨a, rfl, e⟩ := h
  exact .tup e (.cons (.num _) (.cons (.num _) (.cons (.num _) (.cons (.num _) .nil))))
theorem doors_tp : ∀ {xs : List V} {ds : List Door}, Paired (DoorV H) xs ds → TpA C H xs (ds.map doorD)
  | _, _, .nil => .nil
  | _, _, .cons a b => .cons (door_tp a) (doors_tp b)
theorem tp_doors : ∀ {xs : List V} {ds : List Door}, TpA C H xs (ds.map doorD) → Paired (DoorV H) xs ds
  | [], [], _ => .nil
  | _ :: _, _ :: _, .cons a b => .cons (tp_door a) (tp_doors b)
mutual
/-- data without houses, as the library tells data -/
def py : D → PyData
  | .non => .none
  | .bl b => .bool b
  | .num i => .int i
  | .text x => .str x
  | .tup ds => .tuple (pyA ds)
  | .hs _ _ => .none
def pyA : List D → List PyData
  | [] => []
  | d :: ds => py d :: pyA ds
end
mutual
def flat : D → Bool
  | .tup ds => flatA ds
  | .hs _ _ => false
  | _ => true
def flatA : List D → Bool
  | [] => true
  | d :: ds => flat d && flatA ds
end
mutual
theorem Tp.dp {K : PySem.W.Frag} : ∀ {v : V} {d : D}, Tp C H v d → flat d = true → Dp K H v (py d)
  | _, _, .non, _ => .non
  | _, _, .bl b, _ => .bl b
  | _, _, .num i, _ => .int i
  | _, _, .text x, _ => .str x
  | _, _, .tup a r, h => .tup (.inl (.inl a)) (TpA.dp r h)
theorem TpA.dp {K : PySem.W.Frag} : ∀ {vs : List V} {ds : List D}, TpA C H vs ds → flatA ds = true → DpAll K H vs (pyA ds)
  | _, _, .nil, _ => .nil
  | _, _, .cons a r, h => by
    rw [flatA, Bool.and_eq_true] at h
    exact .cons (Tp.dp a h.1) (TpA.dp r h.2)
end
end

/-- len of a list, a tuple -/
def rLenS (K : PySem.W.Frag) : List V → Hp → VK → Prop := fun xs H Q => ∃ p ys, xs = [.ref p] ∧ (SqL K H p ys ∨ SqT K H p ys) ∧ Q (.int ys.length) H
theorem call_lenS {X : Cx} : CallR X (.builtin "len") (rLenS X.K) := call_len_seq
/-! ### what a reading comes to -/
section
variable (C : Addr) (te : TE) (tt : TT) (ta : TA) (σ : L2.St) (H : Hp)
/-- a datum -/
def EvD (d : D) : Prop := ∀ H1, Same H H1 → ∀ Q : VK, (∀ v H2, Same H1 H2 → Tp C H2 v d → Q v H2) → te σ H1 Q
/-- a very value -/
def EvV (v : V) : Prop := ∀ H1, Same H H1 → ∀ Q : VK, (∀ H2, Same H1 H2 → Q v H2) → te σ H1 Q
/-- a new list of data -/
def EvL (ds : List D) : Prop := ∀ H1, Same H H1 → ∀ Q : VK, (∀ a vs H2, Same H1 H2 → H1 a = none → H2 a = some (.lst vs) → TpA C H2 vs ds → Q (.ref a) H2) → te σ H1 Q
def EvT (b : Bool) : Prop := ∀ H1, Same H H1 → ∀ Q : Bool → Hp → Prop, (∀ H2, Same H1 H2 → Q b H2) → tt σ H1 Q
def EvA (ds : List D) : Prop := ∀ H1, Same H H1 → ∀ Q : List V → Hp → Prop, (∀ vs H2, Same H1 H2 → TpA C H2 vs ds → Q vs H2) → ta σ H1 Q
end
section
variable {C : Addr} {K : PySem.W.Frag} {te ta tb tc : TE} {tt tu : TT} {as : TA} {σ : L2.St} {H H' : Hp} {d e f : D} {ds : List D} {i j : Int} {v : V} {b c : Bool}
theorem EvD.mono (s : Same H H') (h : EvD C te σ H d) : EvD C te σ H' d := fun H1 a Q q => h H1 (Same.trans s a) Q q
theorem EvT.mono (s : Same H H') (h : EvT tt σ H b) : EvT tt σ H' b := fun H1 a Q q => h H1 (Same.trans s a) Q q
theorem EvL.mono (s : Same H H') (h : EvL C te σ H ds) : EvL C te σ H' ds := fun H1 a Q q => h H1 (Same.trans s a) Q q
theorem EvA.mono (s : Same H H') (h : EvA C as σ H ds) : EvA C as σ H' ds := fun H1 a Q q => h H1 (Same.trans s a) Q q
theorem ev_var {n : Nat} (hv : σ[n]? = some (some v)) (h : Tp C H v d) : EvD C (tVar n) σ H d := fun H1 s _ q => ⟨v, hv, q v H1 (Same.refl _) (h.same s)⟩
theorem ev_c (h : Tp C H v d) : EvD C (tC v) σ H d := fun H1 s _ q => q v H1 (Same.refl _) (h.same s)
theorem ev_int : EvD C (tC (.int i)) σ H (.num i) := ev_c (.num i)
theorem ev_bl : EvD C (tC (.bl b)) σ H (.bl b) := ev_c (.bl b)
theorem ev_non : EvD C (tC .non) σ H .non := ev_c .non
theorem evv_var {n : Nat} (hv : σ[n]? = some (some v)) : EvV (tVar n) σ H v := fun H1 _ _ q => ⟨v, hv, q H1 (Same.refl _)⟩
theorem ea_nil : EvA C tNil σ H [] := fun H1 _ Q q => q [] H1 (Same.refl _) .nil
theorem ea_cons (h : EvD C te σ H d) (r : EvA C as σ H ds) : EvA C (tCons te as) σ H (d :: ds) := fun H1 s Q q =>
  h H1 s _ fun v H2 s2 t => r H2 (Same.trans s s2) _ fun vs H3 s3 t3 => q (v :: vs) H3 (Same.trans s2 s3) (.cons (t.same s3) t3)
theorem ev_tup (h : EvA C as σ H ds) (hl : ds.length ≤ sizeLine) : EvD C (tTup as) σ H (.tup ds) := fun H1 s Q q =>
  h H1 s _ fun vs H2 s2 t => ⟨by rw [t.length]; exact hl, fun p hp => q _ _ (Same.newer s2 hp) (.tup upd_same (t.same (Same.new hp)))⟩
theorem evl_lst (h : EvA C as σ H ds) (hl : ds.length ≤ sizeLine) : EvL C (tLst as) σ H ds := fun H1 s Q q =>
  h H1 s _ fun vs H2 s2 t => ⟨by rw [t.length]; exact hl, fun p hp => q p vs _ (Same.newer s2 hp) (s2.free hp) upd_same (t.same (Same.new hp))⟩
theorem ev_op0 {g : Int → Int → V} (ha : EvD C ta σ H (.num i)) (hb : EvD C tb σ H (.num j)) (hg : ∀ H, Tp C H (g i j) d) : EvD C (tOp (rI0 g) ta tb) σ H d := fun H1 s Q q =>
  ha H1 s _ fun v H2 s2 t2 => hb H2 (Same.trans s s2) _ fun w H3 s3 t3 => by
    cases tp_num t2; cases tp_num t3
    exact ⟨i, j, rfl, rfl, q _ H3 (Same.trans s2 s3) (hg H3)⟩
theorem ev_opC {c : Int → Int → Prop} {g : Int → Int → V} (ha : EvD C ta σ H (.num i)) (hb : EvD C tb σ H (.num j)) (hc : c i j) (hg : ∀ H, Tp C H (g i j) d) : EvD C (tOp (rI c g) ta tb) σ H d := fun H1 s Q q =>
  ha H1 s _ fun v H2 s2 t2 => hb H2 (Same.trans s s2) _ fun w H3 s3 t3 => by
    cases tp_num t2; cases tp_num t3
    exact ⟨i, j, rfl, rfl, hc, q _ H3 (Same.trans s2 s3) (hg H3)⟩
theorem ev_opI {g : Int → Int → Int} (ha : EvD C ta σ H (.num i)) (hb : EvD C tb σ H (.num j)) : EvD C (tOp (rI0 fun i j => .int (g i j)) ta tb) σ H (.num (g i j)) := ev_op0 ha hb fun _ => .num _
theorem ev_opB {g : Int → Int → Bool} (ha : EvD C ta σ H (.num i)) (hb : EvD C tb σ H (.num j)) : EvD C (tOp (rI0 fun i j => .bl (g i j)) ta tb) σ H (.bl (g i j)) := ev_op0 ha hb fun _ => .bl _
theorem ev_opIC {c : Int → Int → Prop} {g : Int → Int → Int} (ha : EvD C ta σ H (.num i)) (hb : EvD C tb σ H (.num j)) (hc : c i j) : EvD C (tOp (rI c fun i j => .int (g i j)) ta tb) σ H (.num (g i j)) := ev_opC ha hb hc fun _ => .num _
theorem ev_un {g : Int → Int} (ha : EvD C ta σ H (.num i)) : EvD C (tUn (rU fun i => .int (g i)) ta) σ H (.num (g i)) := fun H1 s Q q =>
  ha H1 s _ fun v H2 s2 t2 => by cases tp_num t2; exact ⟨i, rfl, q _ H2 s2 (.num _)⟩
theorem ev_eqI (ha : EvD C ta σ H (.num i)) (hb : EvD C tb σ H (.num j)) : EvD C (tOp rEq ta tb) σ H (.bl (decide (i = j))) := fun H1 s Q q =>
  ha H1 s _ fun v H2 s2 t2 => hb H2 (Same.trans s s2) _ fun w H3 s3 t3 => by
    cases tp_num t2; cases tp_num t3
    refine ⟨rfl, q _ H3 (Same.trans s2 s3) ?_⟩
    have : decide (V.int i = V.int j) = decide (i = j) := by simp
    rw [this]; exact .bl _
theorem ev_neI (ha : EvD C ta σ H (.num i)) (hb : EvD C tb σ H (.num j)) : EvD C (tOp rNe ta tb) σ H (.bl (!decide (i = j))) := fun H1 s Q q =>
  ha H1 s _ fun v H2 s2 t2 => hb H2 (Same.trans s s2) _ fun w H3 s3 t3 => by
    cases tp_num t2; cases tp_num t3
    refine ⟨rfl, q _ H3 (Same.trans s2 s3) ?_⟩
    have : decide (V.int i = V.int j) = decide (i = j) := by simp
    rw [this]; exact .bl _
theorem ev_neB (ha : EvD C ta σ H (.bl b)) (hb : EvD C tb σ H (.bl c)) : EvD C (tOp rNe ta tb) σ H (.bl (!decide (b = c))) := fun H1 s Q q =>
  ha H1 s _ fun v H2 s2 t2 => hb H2 (Same.trans s s2) _ fun w H3 s3 t3 => by
    cases tp_bl t2; cases tp_bl t3
    refine ⟨rfl, q _ H3 (Same.trans s2 s3) ?_⟩
    have : decide (V.bl b = V.bl c) = decide (b = c) := by simp
    rw [this]; exact .bl _
/-- == of data -/
theorem ev_eqD (ha : EvD C ta σ H d) (hb : EvD C tb σ H e) (h1 : flat d = true) (h2 : flat e = true) (h3 : SeqAt.shaped (py d) = true) (h4 : SeqAt.shaped (py e) = true) : EvD C (tOp (rEqD K) ta tb) σ H (.bl (PyData.eqv (py d) (py e))) := fun H1 s Q q =>
  ha H1 s _ fun v H2 s2 t2 => hb H2 (Same.trans s s2) _ fun w H3 s3 t3 => ⟨py d, py e, (t2.same s3).dp h1, t3.dp h2, h3, h4, q _ H3 (Same.trans s2 s3) (.bl _)⟩
theorem ev_neD (ha : EvD C ta σ H d) (hb : EvD C tb σ H e) (h1 : flat d = true) (h2 : flat e = true) (h3 : SeqAt.shaped (py d) = true) (h4 : SeqAt.shaped (py e) = true) : EvD C (tOp (rNeD K) ta tb) σ H (.bl (!PyData.eqv (py d) (py e))) := fun H1 s Q q =>
  ha H1 s _ fun v H2 s2 t2 => hb H2 (Same.trans s s2) _ fun w H3 s3 t3 => ⟨py d, py e, (t2.same s3).dp h1, t3.dp h2, h3, h4, q _ H3 (Same.trans s2 s3) (.bl _)⟩
theorem ixN_nat {n j : Nat} (h : j < n) : ixN n (j : Int) = some j := by
  unfold ixN
  rw [if_pos (by omega), if_pos (by omega)]
  simp
/-- t[i] -/
theorem ev_ixT {n : Nat} (ha : EvD C ta σ H (.tup ds)) (hb : EvD C tb σ H (.num (n : Int))) (hd : ds[n]? = some d) : EvD C (tOp (rIxT K) ta tb) σ H d := fun H1 s Q q =>
  ha H1 s _ fun v H2 s2 t2 => hb H2 (Same.trans s s2) _ fun w H3 s3 t3 => by
    cases tp_num t3
    obtain ⟨a, xs, rfl, hx, r⟩ := tp_tup (t2.same s3)
    obtain ⟨x, h1, h2⟩ := r.get hd
    exact ⟨a, xs, n, x, rfl, rfl, .inl (.inl hx), atI_nat h1, q x H3 (Same.trans s2 s3) h2⟩
/-- house.rooms -/
theorem ev_rooms {r : Int} {ds : List Door} (ha : EvD C ta σ H (.hs r ds)) (cl : Cls K C) (na : NoAttr K C "rooms") : EvD C (tFld K ta "rooms") σ H (.num r) := fun H1 s Q q =>
  ha H1 s _ fun v H2 s2 t2 => by
    obtain ⟨a, dx, b, xs, rfl, hx, hb, r⟩ := tp_hs t2
    exact ⟨a, C, dx, _, _, rfl, hx, cl, na, rfl, q _ H2 s2 (.num _)⟩
theorem lk_doors (r : Int) (b : Addr) : (hflds r b).lookup ("doors" : Str) = some (.ref b) := by
  unfold hflds
  rw [List.lookup_cons, show (("doors" : Str) == "rooms") = false by decide +kernel]
  rfl
theorem ev_doors {r : Int} {ds : List Door} (ha : EvD C ta σ H (.hs r ds)) (cl : Cls K C) (na : NoAttr K C "doors") : EvD C (tFld K ta "doors") σ H (.tup (ds.map doorD)) := fun H1 s Q q =>
  ha H1 s _ fun v H2 s2 t2 => by
    obtain ⟨a, dx, b, xs, rfl, hx, hb, r'⟩ := tp_hs t2
    exact ⟨a, C, dx, _, _, rfl, hx, cl, na, lk_doors _ _, q _ H2 s2 (.tup hb (doors_tp r'))⟩
theorem ev_if (ht : EvT tt σ H b) (h1 : b = true → EvD C ta σ H d) (h2 : b = false → EvD C tb σ H d) : EvD C (tIf tt ta tb) σ H d := fun H1 s Q q =>
  ht H1 s _ fun H2 s2 => by
    cases b with
    | true => exact iteT (h1 rfl H2 (Same.trans s s2) Q fun v H3 s3 t => q v H3 (Same.trans s2 s3) t)
    | false => exact iteF (h2 rfl H2 (Same.trans s s2) Q fun v H3 s3 t => q v H3 (Same.trans s2 s3) t)
theorem ev_if2 (ht : EvT tt σ H b) (h1 : EvD C ta σ H d) (h2 : EvD C tb σ H e) : EvD C (tIf tt ta tb) σ H (if b = true then d else e) := ev_if ht (fun h => by rw [if_pos h]; exact h1) (fun h => by rw [if_neg (by rw [h]; decide)]; exact h2)
theorem ev_isN_num {i : Int} (ha : EvD C ta σ H (.num i)) : EvD C (tIsN ta) σ H (.bl false) := fun H1 s Q q =>
  ha H1 s _ fun v H2 s2 t2 => by cases tp_num t2; exact q _ H2 s2 (.bl _)
/-- is None | is not None of a datum -/
def isNon : D → Bool
  | .non => true
  | _ => false
theorem isNon_eq {v : V} (t : Tp C H v d) : decide (v = .non) = isNon d := by cases t <;> simp [isNon]
theorem ev_isN (ha : EvD C ta σ H d) : EvD C (tIsN ta) σ H (.bl (isNon d)) := fun H1 s Q q =>
  ha H1 s _ fun v H2 s2 t2 => by
    have := isNon_eq t2
    show Q (.bl (decide (v = .non))) H2
    rw [this]; exact q _ H2 s2 (.bl _)
theorem ev_notN (ha : EvD C ta σ H d) : EvD C (tNotN ta) σ H (.bl (!isNon d)) := fun H1 s Q q =>
  ha H1 s _ fun v H2 s2 t2 => by
    have := isNon_eq t2
    show Q (.bl (!decide (v = .non))) H2
    rw [this]; exact q _ H2 s2 (.bl _)
theorem ev_andV (ha : EvD C ta σ H (.bl b)) (hb : b = true → EvD C tb σ H (.bl c)) : EvD C (tAndV ta tb) σ H (.bl (b && c)) := fun H1 s Q q =>
  ha H1 s _ fun v H2 s2 t2 => by
    cases tp_bl t2
    refine ⟨b, rfl, ?_⟩
    cases b with
    | true => exact iteT (hb rfl H2 (Same.trans s s2) Q fun v H3 s3 t => q v H3 (Same.trans s2 s3) t)
    | false => exact iteF (q _ H2 s2 (.bl _))
theorem ev_orV (ha : EvD C ta σ H (.bl b)) (hb : b = false → EvD C tb σ H (.bl c)) : EvD C (tOrV ta tb) σ H (.bl (b || c)) := fun H1 s Q q =>
  ha H1 s _ fun v H2 s2 t2 => by
    cases tp_bl t2
    refine ⟨b, rfl, ?_⟩
    cases b with
    | true => exact iteT (q _ H2 s2 (.bl _))
    | false => exact iteF (hb rfl H2 (Same.trans s s2) Q fun v H3 s3 t => q v H3 (Same.trans s2 s3) t)
theorem ev_notV (ha : EvD C ta σ H (.bl b)) : EvD C (tNotV ta) σ H (.bl (!b)) := fun H1 s Q q =>
  ha H1 s _ fun v H2 s2 t2 => by cases tp_bl t2; exact ⟨b, rfl, q _ H2 s2 (.bl _)⟩
/-- tests -/
theorem et_test (h : EvD C te σ H (.bl b)) : EvT (tTest te) σ H b := fun H1 s Q q => h H1 s _ fun v H2 s2 t => by cases tp_bl t; exact ⟨b, rfl, q H2 s2⟩
theorem et_B (h : EvD C te σ H (.bl b)) : EvT (tB te) σ H b := fun H1 s Q q => h H1 s _ fun v H2 s2 t => by cases tp_bl t; exact ⟨b, rfl, q H2 s2⟩
theorem et_and (h1 : EvT tt σ H b) (h2 : b = true → EvT tu σ H c) : EvT (tAnd tt tu) σ H (b && c) := fun H1 s Q q => h1 H1 s _ fun H2 s2 => by
  cases b with
  | true => exact iteT (h2 rfl H2 (Same.trans s s2) Q fun H3 s3 => q H3 (Same.trans s2 s3))
  | false => exact iteF (q H2 s2)
theorem et_or (h1 : EvT tt σ H b) (h2 : b = false → EvT tu σ H c) : EvT (tOr tt tu) σ H (b || c) := fun H1 s Q q => h1 H1 s _ fun H2 s2 => by
  cases b with
  | true => exact iteT (q H2 s2)
  | false => exact iteF (h2 rfl H2 (Same.trans s s2) Q fun H3 s3 => q H3 (Same.trans s2 s3))
theorem et_not (h : EvT tt σ H b) : EvT (tNot tt) σ H (!b) := fun H1 s Q q => h H1 s _ fun H2 s2 => q H2 s2
theorem et_yes : EvT tYes σ H true := fun H1 _ Q q => q H1 (Same.refl _)
theorem ev_chain {g h : Int → Int → Bool} {k : Int} (ha : EvD C ta σ H (.num i)) (hb : EvD C tb σ H (.num j)) (hc : EvD C tc σ H (.num k)) : EvD C (tChain (rI0 fun i j => .bl (g i j)) (rI0 fun i j => .bl (h i j)) ta tb tc) σ H (.bl (g i j && h j k)) := fun H1 s Q q =>
  ha H1 s _ fun v H2 s2 t2 => hb H2 (Same.trans s s2) _ fun w H3 s3 t3 => by
    cases tp_num t2; cases tp_num t3
    refine ⟨i, j, rfl, rfl, g i j, rfl, ?_⟩
    cases e : g i j with
    | true => exact iteT (hc H3 (Same.trans (Same.trans s s2) s3) _ fun u H4 s4 t4 => by
        cases tp_num t4
        refine ⟨j, k, rfl, rfl, q _ H4 (Same.trans (Same.trans s2 s3) s4) ?_⟩
        rw [e]; exact .bl _)
    | false =>
      refine iteF (q _ H3 (Same.trans s2 s3) ?_)
      rw [e]; exact .bl _
/-! ### calls of built-ins -/
theorem ev_abs (ha : EvD C ta σ H (.num i)) : EvD C (tCB (fun xs H Q => ∃ i, xs = [.int i] ∧ Q (.int (if i < 0 then -i else i)) H) (tCons ta tNil)) σ H (.num (if i < 0 then -i else i)) := fun H1 s Q q =>
  ha H1 s _ fun v H2 s2 t2 => by cases tp_num t2; exact ⟨i, rfl, q _ H2 s2 (.num _)⟩
theorem ev_intI (ha : EvD C ta σ H (.num i)) : EvD C (tCB (fun xs H Q => (∃ i, xs = [.int i] ∧ Q (.int i) H) ∨ ∃ k, xs = [.bl k] ∧ Q (.int (if k then 1 else 0)) H) (tCons ta tNil)) σ H (.num i) := fun H1 s Q q =>
  ha H1 s _ fun v H2 s2 t2 => by cases tp_num t2; exact .inl ⟨i, rfl, q _ H2 s2 (.num _)⟩
theorem ev_gcd (ha : EvD C ta σ H (.num i)) (hb : EvD C tb σ H (.num j)) : EvD C (tCB rGcd (tCons ta (tCons tb tNil))) σ H (.num ((Nat.gcd i.natAbs j.natAbs : Nat) : Int)) := fun H1 s Q q =>
  ha H1 s _ fun v H2 s2 t2 => hb H2 (Same.trans s s2) _ fun w H3 s3 t3 => by
    cases tp_num t2; cases tp_num t3
    exact ⟨i, j, rfl, q _ H3 (Same.trans s2 s3) (.num _)⟩
/-- len of a tuple -/
theorem ev_lenT (ha : EvD C ta σ H (.tup ds)) : EvD C (tCB (rLenS K) (tCons ta tNil)) σ H (.num (ds.length : Int)) := fun H1 s Q q =>
  ha H1 s _ fun v H2 s2 t2 => by
    obtain ⟨a, xs, rfl, hx, r⟩ := tp_tup t2
    refine ⟨_, xs, rfl, .inr (.inl (.inl hx)), ?_⟩
    rw [r.length]; exact q _ H2 s2 (.num _)
end
end Y

set_option Elab.async false
set_option linter.all false
set_option maxRecDepth 100000
set_option maxHeartbeats 4000000
/-! Dicts whose keys are nested tuples. -/
namespace Y
open PySem PySem.Spec PyProof.Rows L2
mutual
def nk : D → NestedKey
  | .non => .none
  | .bl b => .num (if b = true then 1 else 0)
  | .num i => .num i
  | .text x => .text x
  | .tup ds => .tup (nkA ds)
  | .hs _ _ => .none
def nkA : List D → List NestedKey
  | [] => []
  | d :: ds => nk d :: nkA ds
end
section
variable {P : Program} {w : World} {C : Addr} {H : Hp} {h : Heap}
mutual
theorem Tp.nested (ok : HOk P w H h) : ∀ {v : V} {d : D} {u : Value}, Tp C H v d → flat d = true → RelV v u → NestedIs h (nk d) u
  | _, _, _, .non, _, r => by cases (show _ = Value.none from r); exact .none
  | _, _, _, .bl b, _, r => by cases (show _ = Value.bool b from r); exact .bool rfl
  | _, _, _, .num i, _, r => by obtain ⟨t, q⟩ := (show ∃ t, _ = Value.int i t from r); cases q; exact .int _ _
  | _, _, _, .text x, _, r => by obtain ⟨t, q⟩ := (show ∃ t, _ = Value.str x t from r); cases q; exact .text _ _
  | _, _, _, .tup (a := a) (xs := xs) ha r0, hf, r => by
    cases (show _ = Value.ref a from r)
    obtain ⟨_, its, rv, o, h1, h2, n, h3⟩ := (show ObjOk P w H h a (.tup xs) from ok a _ ha)
    exact .tup h1 h2 h3 (TpA.nested ok r0 hf rv)
theorem TpA.nested (ok : HOk P w H h) : ∀ {vs : List V} {ds : List D} {us : List Value}, TpA C H vs ds → flatA ds = true → Vals vs us → NestedAll h (nkA ds) us
  | _, _, _, .nil, _, r => by cases r; exact .nil
  | _, _, _, .cons a b, hf, r => by
    rw [flatA, Bool.and_eq_true] at hf
    cases r with
    | cons r1 r2 => exact .cons (Tp.nested ok a hf.1 r1) (TpA.nested ok b hf.2 r2)
end
/-- the tuple at a is the datum k, a key -/
structure KeyAt (C : Addr) (H : Hp) (a : Addr) (k : D) : Prop where
  tp : Tp C H (.ref a) k
  fl : flat k = true
  dp : (nk k).depth ≤ 8
theorem KeyAt.is (x : KeyAt C H a k) (ok : HOk P w H h) : (nestedKind P w).is h (nk k) a := ⟨x.tp.nested ok x.fl rfl, x.dp⟩
theorem KeyAt.stay {H' : Hp} (s : Stay H H') (x : KeyAt C H a k) : KeyAt C H' a k := ⟨x.tp.stay s, x.fl, x.dp⟩
end
/-- an entry: its key as a datum, where the key's tuple stands, the value -/
abbrev En := D × Addr × V
def EnR : List En → List (NestedKey × Addr × Value) → Prop := Paired fun p q => q.1 = nk p.1 ∧ q.2.1 = p.2.1 ∧ RelV p.2.2 q.2.2
/-- the dict's own object: its entries -/
def ndO (P : Program) (w : World) (d : Addr) (xs : List En) : HO := .ext fun h => (d == sysModules) = false ∧ xs.length ≤ sizeLine ∧ ∃ ys, EnR xs ys ∧
  ∃ o es ep, h.get? d = some o ∧ o.ExactDict ∧ o.data = .dict es ep ∧ es.toList = ys.map (entryOfKey (nestedKind P w)) ∧ (ys.map (·.1)).Nodup
section
variable {P : Program} {w : World} {C : Addr} {H : Hp} {h : Heap} {d : Addr} {xs : List En}
theorem ndO_mk (h1 : (d == sysModules) = false) (h2 : xs.length ≤ sizeLine) {ys : List (NestedKey × Addr × Value)} (h3 : EnR xs ys) {o : Obj} {es : Array DictEntry} {ep : Nat} (h4 : h.get? d = some o) (h5 : o.ExactDict) (h6 : o.data = .dict es ep)
    (h7 : es.toList = ys.map (entryOfKey (nestedKind P w))) (h8 : (ys.map (·.1)).Nodup) : ObjOk P w H h d (ndO P w d xs) :=
  ⟨⟨h1, h2, ys, h3, o, es, ep, h4, h5, h6, h7, h8⟩, ⟨o, h4⟩, fun _ _ ⟨a1, a2, ys, a3, o, es, ep, a4, r⟩ k => ⟨a1, a2, ys, a3, o, es, ep, k o a4, r⟩⟩
theorem ndO_rd (x : ObjOk P w H h d (ndO P w d xs)) : (d == sysModules) = false ∧ xs.length ≤ sizeLine ∧ ∃ ys, EnR xs ys ∧
  ∃ o es ep, h.get? d = some o ∧ o.ExactDict ∧ o.data = .dict es ep ∧ es.toList = ys.map (entryOfKey (nestedKind P w)) ∧ (ys.map (·.1)).Nodup := x.1
/-- the dict at d holds these entries, its keys are data -/
structure ND (P : Program) (w : World) (C : Addr) (H : Hp) (d : Addr) (xs : List En) : Prop where
  at_ : H d = some (ndO P w d xs)
  keys : ∀ x ∈ xs, KeyAt C H x.2.1 x.1
theorem enr_keys {ys : List (NestedKey × Addr × Value)} (ok : HOk P w H h) (r : EnR xs ys) (hk : ∀ x ∈ xs, KeyAt C H x.2.1 x.1) : ∀ y ∈ ys, (nestedKind P w).is h y.1 y.2.1 := by
  unfold EnR at r
  induction r with
  | nil => intro y hy; exact nomatch hy
  | @cons p q ps qs e t ih =>
    intro y hy
    rcases List.mem_cons.mp hy with rfl | hy
    · rw [e.1, e.2.1]
      exact (hk p (by simp)).is ok
    · exact ih (fun x hx => hk x (by simp [hx])) y hy
theorem ND.dict (x : ND P w C H d xs) (ok : HOk P w H h) : (d == sysModules) = false ∧ xs.length ≤ sizeLine ∧ ∃ ys, EnR xs ys ∧ h.DictOfH (nestedKind P w) d ys := by
  obtain ⟨h1, h2, ys, h3, o, es, ep, h4, h5, h6, h7, h8⟩ := ndO_rd (ok d _ x.at_)
  exact ⟨h1, h2, ys, h3, o, es, ep, h4, h5, h6, h7, enr_keys ok h3 x.keys, h8⟩
theorem ND.stay {H' : Hp} (x : ND P w C H d xs) (s : Stay H H') (e : H' d = some (ndO P w d xs)) : ND P w C H' d xs := ⟨e, fun y hy => (x.keys y hy).stay s⟩
end
/-- what a dict holds at a key; the entries behind d[k] = v -/
def enGet (xs : List En) (k : D) : Option V := (xs.find? fun x => decide (nk x.1 = nk k)).map (·.2.2)
def enPut (xs : List En) (k : D) (a : Addr) (v : V) : List En :=
  if (enGet xs k).isSome then xs.map (fun x => if nk x.1 = nk k then (x.1, x.2.1, v) else x) else xs ++ [(k, a, v)]
theorem enGet_rel : ∀ {xs : List En} {ys : List (NestedKey × Addr × Value)} (_ : EnR xs ys) (k : D), RelO (enGet xs k) ((atKey ys (nk k)).map (·.2))
  | _, _, .nil, _ => trivial
  | p :: ps, q :: qs, .cons e t, k => by
    obtain ⟨e1, e2, e3⟩ := e
    by_cases h : nk p.1 = nk k
    · have h' : q.1 = nk k := e1.trans h
      simp only [enGet, atKey, List.find?_cons, h, h', decide_true, Option.map_some]
      exact e3
    · have h' : ¬ q.1 = nk k := fun z => h (e1.symm.trans z)
      have ih := enGet_rel t k
      simp only [enGet, atKey, List.find?_cons, h, h', decide_false] at ih ⊢
      exact ih
theorem enr_map {xs : List En} {ys : List (NestedKey × Addr × Value)} (r : EnR xs ys) (k : D) {v : V} {u : Value} (rv : RelV v u) :
    EnR (xs.map fun x => if nk x.1 = nk k then (x.1, x.2.1, v) else x) (ys.map (putAt (nk k) u)) := by
  unfold EnR at r ⊢
  induction r with
  | nil => exact .nil
  | @cons p q ps qs e t ih =>
    refine .cons ?_ ih
    obtain ⟨e1, e2, e3⟩ := e
    dsimp only
    by_cases h : nk p.1 = nk k
    · rw [if_pos h, putAt, if_pos (e1.trans h)]; exact ⟨e1, e2, rv⟩
    · rw [if_neg h, putAt, if_neg fun z => h (e1.symm.trans z)]; exact ⟨e1, e2, e3⟩
theorem enr_snoc {xs : List En} {ys : List (NestedKey × Addr × Value)} (r : EnR xs ys) {x : En} {y : NestedKey × Addr × Value} (e : y.1 = nk x.1 ∧ y.2.1 = x.2.1 ∧ RelV x.2.2 y.2.2) : EnR (xs ++ [x]) (ys ++ [y]) := by
  unfold EnR at r ⊢
  induction r with
  | nil => exact .cons e .nil
  | cons q t ih => exact .cons q ih
theorem enr_put {xs : List En} {ys : List (NestedKey × Addr × Value)} (r : EnR xs ys) (k : D) (a : Addr) {v : V} {u : Value} (rv : RelV v u) : EnR (enPut xs k a v) (storedH ys (nk k) a u) := by
  have e := (enGet_rel r k).isSome_eq
  rw [Option.isSome_map] at e
  unfold enPut storedH
  rw [e]
  by_cases h : (atKey ys (nk k)).isSome = true
  · rw [if_pos h, if_pos h]; exact enr_map r k rv
  · rw [if_neg h, if_neg h]; exact enr_snoc r ⟨rfl, rfl, rv⟩
theorem enPut_len (xs : List En) (k : D) (a : Addr) (v : V) : (enPut xs k a v).length ≤ xs.length + 1 := by
  unfold enPut; split <;> simp
theorem enPut_keys {C : Addr} {H : Hp} {xs : List En} {k : D} {a : Addr} (v : V) (hk : ∀ x ∈ xs, KeyAt C H x.2.1 x.1) (ha : KeyAt C H a k) : ∀ x ∈ enPut xs k a v, KeyAt C H x.2.1 x.1 := by
  intro x hx
  unfold enPut at hx
  split at hx
  · obtain ⟨y, hy, rfl⟩ := List.mem_map.mp hx
    split
    · exact hk y hy
    · exact hk y hy
  · rcases List.mem_append.mp hx with h | h
    · exact hk x h
    · have : x = (k, a, v) := by simpa using h
      subst this; exact ha
section
variable {X : Cx} {C : Addr} {pins : List (Addr × Obj)} {σ : L2.St} {H : Hp} {s : Shared} {d a : Addr} {xs : List En} {k : D} {v : V} {u : Value} {E : Value → Shared → Prop}
theorem nd_type (I : Inv X pins σ H s) (x : ND X.prog X.w C H d xs) : s.TypeIs (.ref d) "dict" ∧ (∀ b, Value.ref d = .ref b → ∃ ob, s.heap.get? b = some ob ∧ ob.dict = none) ∧ (d == sysModules) = false := by
  obtain ⟨h1, h2, ys, h3, hm⟩ := x.dict I.hok
  refine ⟨hm.typeIs, fun b q => ?_, h1⟩
  cases q
  obtain ⟨ob, _, _, e1, e2, _⟩ := hm
  exact ⟨ob, e1, e2.2.1⟩
theorem nd_room {A : Around} (hu : A.units + 64 < cLine) : (nestedKind X.prog X.w).room A.in1 := by
  show A.in1.units + 8 < cLine
  rw [Around.in1_units]; omega
/-- d.get(k, x) -/
theorem nd_get2 {A : Around} {y : V} {r : Value} {Q : Value → Shared → Prop} (hu : A.units + 64 < cLine) (I : Inv X pins σ H s) (x : ND X.prog X.w C H d xs) (ka : KeyAt C H a k) (rd : RelV y r)
    (h : ∀ w' s', Inv X pins σ H s' → RelV ((enGet xs k).getD y) w' → Q w' s') : wpAny (model X.prog X.w) A (call (.builtin "dict.get") [.ref d, .ref a, r]) Q E s := by
  obtain ⟨h1, h2, ys, h3, hm⟩ := x.dict I.hok
  refine call_meetsIn PySem.F.slot_dict_get hm.typeIs PySem.F.entry_dict_get (PySem.F.args_dict_get_3 _ _ _) (meetsH_dict_get_default (nestedKind X.prog X.w) d a h1 r) ⟨nd_room hu, nk k, ys, ka.is I.hok, hm, h _ _ (I.tok _) ?_⟩
  exact (enGet_rel h3 k).getD rd
/-- d[k] = v -/
theorem nd_setItem {A : Around} {r : Value} {Q : Unit → Shared → Prop} (hu : A.units + 64 < cLine) (I : Inv X pins σ H s) (x : ND X.prog X.w C H d xs) (hl : xs.length < sizeLine) (ka : KeyAt C H a k) (rv : RelV v r)
    (h : ∀ s', Inv X pins σ (upd H d (ndO X.prog X.w d (enPut xs k a v))) s' → Q () s') : wpAny (model X.prog X.w) A (setItem (.ref d) (.ref a) r) Q E s := by
  obtain ⟨h1, h2, ys, h3, hm⟩ := x.dict I.hok
  have hz : ys.length ≤ sizeLine := by rw [← Paired.length h3]; exact h2
  refine wpAny_setItem_heap (knd := nestedKind X.prog X.w) (hsz := hz) (nd_room hu) (ka.is I.hok) hm fun h' dd' hs => h _ ?_
  obtain ⟨q, es, ep, hq, e2, e3, e4, _, e5⟩ := dd'
  exact d_write I (by rw [x.at_]; exact True.intro) hs ⟨q, hq⟩ (ndO_mk h1 (by have := enPut_len xs k a v; omega) (enr_put h3 k a rv) hq e2 e3 e4 e5)
theorem nd_empty (I : Inv X pins σ H s) : ObjOk X.prog X.w H (s.heap.push { cls := .type "dict", data := .dict #[] }) s.heap.objs.size (ndO X.prog X.w s.heap.objs.size []) :=
  ndO_mk (beq_eq_false_iff_ne.mpr (Ne.symm (Nat.ne_of_lt I.big))) (Nat.zero_le _) .nil (Heap.get?_push_size _ rfl) ⟨rfl, rfl, rfl⟩ rfl rfl List.nodup_nil
end
theorem dict_pairsH {prog : Program} {w : World} {K : Type} [DecidableEq K] {knd : HeapKind prog w K} {A : Around} {E : Value → Shared → Prop} {s : Shared} {env : Env} {keys : List (Option Expr)} {values : List Expr} {pos : Pos} {pairs : List (Sem Value × Sem Value)} {Q : Value → Shared → Prop} (hu : knd.room A)
    (hshape : (evalEachOpt keys env).zip ((evalEach values env).map fun v => do let x ← v; standAt pos; pure x) = pairs.map fun p => (some p.1, p.2)) (h0 : pairs ≠ []) (hlen : pairs.length ≤ 15)
    (h : wpAny (model prog w) A (evalPairs pairs) (fun vs s₁ => ∃ ps, CarriesH knd s₁.heap vs ps ∧ s₁.heap.DictOfH knd s.heap.objs.size [] ∧
      ∀ h' tk, h'.DictOfH knd s.heap.objs.size (storedAllH [] ps) → Heap.SameBut s.heap.objs.size s₁.heap h' → Q (.ref s.heap.objs.size) { s₁ with heap := h', toks := tk }) E
      { s with heap := s.heap.push { cls := .type "dict", data := .dict #[] } }) :
    wpAny (model prog w) A (eval (.Dict keys values pos) env) Q E s := by
  rw [arm_eval_Dict, hshape, dictDisplay_pairs pairs h0 (by omega)]
  exact wpAny_bind (wpAny_standAt (wpAny_bind (wpAny_subDictH (knd := knd) (Q := fun d s' => wpAny (model prog w) A (pure (Value.ref d)) Q E s') hu hlen
    (wpAny_mono h (fun vs s₁ h₁ => by obtain ⟨ps, hc, hm, hq⟩ := h₁; exact ⟨ps, hc, hm, fun h' tk a b => wpAny_pure (hq h' tk a b)⟩) fun _ _ e => e))))
/-! ### readings -/
/-- {} to be such a dict -/
def tNdNew (P : Program) (w : World) : TE := fun _ H Q => ∀ p, H p = none → Q (.ref p) (upd H p (ndO P w p []))
/-- d.get(k, x) -/
def tNdGet2 (P : Program) (w : World) (C : Addr) (td ty tx : TE) : TE := fun σ H Q => td σ H fun x H1 => ∃ d xs, x = .ref d ∧ ND P w C H1 d xs ∧ ty σ H1 fun y H2 => tx σ H2 fun z H3 => ∃ a k, y = .ref a ∧ ND P w C H3 d xs ∧ KeyAt C H3 a k ∧ Q ((enGet xs k).getD z) H3
/-- d[k] = v -/
def sNdPut (P : Program) (w : World) (C : Addr) (td ty tv : TE) : TS := fun D σ H => tv σ H fun v H1 => td σ H1 fun x H2 => ty σ H2 fun y H3 => ∃ d xs a k, x = .ref d ∧ y = .ref a ∧ ND P w C H3 d xs ∧ xs.length < sizeLine ∧ KeyAt C H3 a k ∧
  D.nx σ (upd H3 d (ndO P w d (enPut xs k a v)))
/-- {k: v} -/
def tNdOne (P : Program) (w : World) (C : Addr) (tk tv : TE) : TE := fun σ H Q => ∀ p, H p = none → tk σ (upd H p (ndO P w p [])) fun y H1 => tv σ H1 fun v H2 => ∃ a k, y = .ref a ∧ H2 p = some (ndO P w p []) ∧ KeyAt C H2 a k ∧ Q (.ref p) (upd H2 p (ndO P w p [(k, a, v)]))
section
variable {X : Cx} {C : Addr} {o e f i value : Expr} {apos cpos pos pos' : Pos} {td ty tx tv tk : TE}
theorem pe_ndnew : PE X (.Dict [] [] pos) (tNdNew X.prog X.w) := ⟨fun pins s σ H Q I h =>
  wpAny_Dict_empty ⟨.ref s.heap.objs.size, _, I.laid (a := s.heap.objs.size) (o := ndO X.prog X.w s.heap.objs.size []) (t' := s.toks) (fun _ _ q => Heap.get?_push_of_some _ q) (Nat.le_refl _) (by
    obtain ⟨a, b, c⟩ := nd_empty I
    exact ⟨a, b, c⟩), rfl, h _ (I.hok.fresh (Nat.le_refl _))⟩⟩
theorem pe_ndget2 (hu : X.A.units + 64 < cLine) (ho : PE X o td) (he : PE X e ty) (hf : PE X f tx) (m : M2 X o "get" apos e f cpos) : PE X (.Call (.Attribute o "get" apos) [e, f] [] cpos) (tNdGet2 X.prog X.w C td ty tx) := by
  refine ⟨fun pins s σ H Q I h => ?_⟩
  refine wpAny_Call_method m.base m.few m.line PySem.F.plainAttrs_dict PySem.F.slot_dict_get PySem.F.type_dict_get (thn (ho.run pins s σ H _ I h) fun u s1 ⟨x, H1, I1, rx, a, xs, ex, nd, q1⟩ => ?_)
  subst ex
  obtain rfl : u = Value.ref a := rx
  obtain ⟨t1, t2, _⟩ := nd_type I1 nd
  refine ⟨t1, t2, ?_⟩
  rw [m.trees]
  refine Calls.callWith_builtin rfl (Calls.evalArgs_plain (Calls.spliced_cons (thn (he.run pins s1 σ H1 _ I1 q1) fun iv s2 ⟨y, H2, I2, ry, q2⟩ =>
    Calls.spliced_cons (thn (hf.run pins s2 σ H2 _ I2 q2) fun fv s3 ⟨z, H3, I3, rz, b, k, ey, nd3, ka, q3⟩ => Calls.spliced_nil ?_))))
  subst ey
  obtain rfl : iv = Value.ref b := ry
  exact nd_get2 hu I3 nd3 ka rz fun w' s4 I4 rw' => ⟨_, H3, I4, rw', q3⟩
theorem ps_ndput (hu : X.A.units + 64 < cLine) (ho : PE X o td) (hi : PE X i ty) (hv : PE X value tv) (hs : swapsWith value (some (.Subscript o i pos')) pos.line X.env = pure false) :
    PS X (.Assign [.Subscript o i pos'] value pos) (sNdPut X.prog X.w C td ty tv) := by
  refine ⟨fun pins s σ H D I h => ?_⟩
  refine wpAny_Assign_Subscript (thn (hv.run pins s σ H _ I h) fun r s1 ⟨v, H1, I1, rv, q1⟩ => thn (ho.run pins s1 σ H1 _ I1 q1) fun u s2 ⟨x, H2, I2, rx, q2⟩ => thn (hi.run pins s2 σ H2 _ I2 q2) fun iv s3 ⟨y, H3, I3, ry, d, xs, a, k, ex, ey, nd, hl, ka, q3⟩ => ?_) hs
  subst ex ey
  obtain rfl : u = Value.ref d := rx
  obtain rfl : iv = Value.ref a := ry
  exact nd_setItem hu I3 nd hl ka rv fun s4 I4 => ⟨σ, _, I4, q3⟩
theorem pe_ndone {k v : Expr} (hu : X.A.units + 64 < cLine) (hk : PE X k tk) (hv : PE X v tv) : PE X (.Dict [some k] [v] pos) (tNdOne X.prog X.w C tk tv) := by
  refine ⟨fun pins s σ H Q I q => ?_⟩
  have hn := I.hok.fresh (Nat.le_refl s.heap.objs.size)
  have I1 := I.laid (a := s.heap.objs.size) (o := ndO X.prog X.w s.heap.objs.size []) (h' := s.heap.push { cls := .type "dict", data := .dict #[] }) (t' := s.toks) (fun _ _ q => Heap.get?_push_of_some _ q) (Nat.le_refl _) (by
    obtain ⟨a, b, c⟩ := nd_empty I
    exact ⟨a, b, c⟩)
  refine dict_pairsH (knd := nestedKind X.prog X.w) (pairs := pairTrees [some k] [v] X.env pos) (by show X.A.units + 8 < cLine; omega) rfl (by intro z; cases z) (by show (1 : Nat) ≤ 15; decide) ?_
  refine pairTrees_cons_walk (thn (hk.run pins _ σ _ _ I1 (q _ hn)) fun u s1 ⟨y, H1, I1', ry, q1⟩ => thn (hv.run pins s1 σ H1 _ I1' q1) fun w2 s2 ⟨v, H2, I2, rv, a, k, ey, e, ka, q2⟩ => pairTrees_nil_walk ?_)
  subst ey
  obtain rfl : u = Value.ref a := ry
  obtain ⟨h1, h2, ys, h3, o, es, ep, h4, h5, h6, h7, h8⟩ := ndO_rd (I2.hok _ _ e)
  cases h3
  refine ⟨[(nk k, a, w2)], ⟨rfl, rfl, ka.is I2.hok, trivial⟩, ⟨o, es, ep, h4, h5, h6, h7, (by simp), h8⟩, fun h' tk dd' hs => ⟨.ref s.heap.objs.size, _, ?_, rfl, q2⟩⟩
  obtain ⟨o', es', ep', g4, g5, g6, g7, _, g8⟩ := dd'
  exact d_write I2 (by rw [e]; exact True.intro) hs ⟨o', g4⟩ (ndO_mk h1 (by show (1 : Nat) ≤ sizeLine; decide) (.cons ⟨rfl, rfl, rv⟩ .nil) g4 g5 g6 g7 g8)
end
/-! ### d.values(), its sum -/
def valO (p d : Addr) : HO := .ext fun h => h.IsValuesView p d
theorem valO_ok {P : Program} {w : World} {H : Hp} {h : Heap} {p d : Addr} (e : h.get? p = some { cls := .type "dict_values", data := .fields #[.ref d] }) : ObjOk P w H h p (valO p d) :=
  ⟨⟨_, e, rfl, rfl⟩, ⟨_, e⟩, fun _ _ ⟨o, a, b, c⟩ k => ⟨o, k o a, b, c⟩⟩
def tNdVals (P : Program) (w : World) (C : Addr) (td : TE) : TE := fun σ H Q => td σ H fun x H1 => ∃ d xs, x = .ref d ∧ ND P w C H1 d xs ∧ ∀ p, H1 p = none → Q (.ref p) (upd H1 p (valO p d))
def rSumV (P : Program) (w : World) (C : Addr) : List V → Hp → VK → Prop := fun vs H Q => ∃ (p d : Addr) (xs : List En) (ns : List Int), vs = [.ref p] ∧ H p = some (valO p d) ∧ ND P w C H d xs ∧ xs.map (·.2.2) = ns.map V.int ∧ Q (.int ns.sum) H
section
variable {X : Cx} {C : Addr} {o : Expr} {apos cpos : Pos} {td : TE}
theorem pe_ndvals (ho : PE X o td) (hbase : attributeBase o "values" X.env (eval o X.env) = eval o X.env := by rfl) (hline : (apos.endLine == cpos.line) = true := by rfl) : PE X (.Call (.Attribute o "values" apos) [] [] cpos) (tNdVals X.prog X.w C td) := by
  refine ⟨fun pins s σ H Q I h => ?_⟩
  refine wpAny_Call_method (T := "dict") (id := "dict.values") hbase rfl hline PySem.F.plainAttrs_dict PySem.F.slot_dict_values PySem.F.type_dict_values (thn (ho.run pins s σ H _ I h) fun u s1 ⟨x, H1, I1, rx, d, xs, ex, nd, q⟩ => ?_)
  subst ex
  obtain rfl : u = Value.ref d := rx
  obtain ⟨t1, t2, t3⟩ := nd_type I1 nd
  refine ⟨t1, t2, ?_⟩
  obtain ⟨h1, h2, ys, h3, hm⟩ := nd.dict I1.hok
  obtain ⟨es, ep, raw, _⟩ := hm.raw
  show wpAny _ _ (callWith cpos (.builtin "dict.values") [.ref d] [] []) _ X.xe s1
  refine method_meetsIn PySem.F.slot_dict_values PySem.F.entry_dict_values rfl (PySem.evalArgs_none ⟨rfl, t1, PySem.F.args_dict_values_1 _, _, meets_dict_values_raw d t3, ⟨es, ep, raw⟩, ?_⟩)
  refine ⟨.ref s1.heap.objs.size, _, I1.laid (a := s1.heap.objs.size) (o := valO s1.heap.objs.size d) (t' := s1.toks) (fun _ _ q => Heap.get?_push_of_some _ q) (Nat.le_refl _) ?_, rfl, q _ (I1.hok.fresh (Nat.le_refl _))⟩
  exact valO_ok (Heap.get?_push_size _ rfl)
theorem enr_int : ∀ {xs : List En} {ys : List (NestedKey × Addr × Value)} {ns : List Int} {i : Nat} {y : NestedKey × Addr × Value}, EnR xs ys → xs.map (·.2.2) = ns.map V.int → ys[i]? = some y → RelV (.int (ns.getD i 0)) y.2.2
  | _, _, _, _, _, .nil, _, h => by simp at h
  | _, _, [], _, _, .cons _ _, e, _ => by simp at e
  | _, _, n :: ns, 0, _, .cons e0 _, e1, h => by
    simp only [List.map_cons, List.cons.injEq] at e1
    simp at h; subst h; rw [e1.1] at e0; exact e0.2.2
  | _, _, n :: ns, i + 1, _, .cons _ t0, e1, h => by
    simp only [List.map_cons, List.cons.injEq] at e1
    exact enr_int (ns := ns) (i := i) t0 e1.2 (by simpa using h)
theorem preSum_enr : ∀ {xs : List En} {ys : List (NestedKey × Addr × Value)} {ns : List Int} (val : Nat → Int), EnR xs ys → xs.map (·.2.2) = ns.map V.int → (∀ (i : Nat) (y : NestedKey × Addr × Value), ys[i]? = some y → ∃ t, y.2.2 = Value.int (val i) t) → preSum val ys.length = ns.sum := by
  intro xs ys ns val r e hv
  have h1 : ∀ i, i < ns.length → val i = ns.getD i 0 := by
    intro i hi
    have hl : xs.length = ns.length := by have := congrArg List.length e; simpa using this
    have hl2 : xs.length = ys.length := Paired.length r
    obtain ⟨y, hy⟩ : ∃ y, ys[i]? = some y := ⟨ys[i]'(by omega), List.getElem?_eq_getElem (by omega)⟩
    obtain ⟨t, ht⟩ := hv i y hy
    obtain ⟨t', q⟩ := (show ∃ t', y.2.2 = Value.int (ns.getD i 0) t' from enr_int r e hy)
    rw [ht] at q
    injection q
  have hl : ys.length = ns.length := by
    have h2 : xs.length = ys.length := Paired.length r
    have h3 := congrArg List.length e
    simp at h3; omega
  rw [hl]
  have gen : ∀ (k : Nat) (l : List Int), k ≤ l.length → (∀ i, i < l.length → val i = l.getD i 0) → preSum val k = (l.take k).sum := by
    intro k
    induction k with
    | zero => intro l _ _; rfl
    | succ k ih =>
      intro l hk hv
      show preSum val k + val k = _
      rw [ih l (by omega) hv, hv k (by omega)]
      have : l[k]? = some (l.getD k 0) := by
        rw [List.getElem?_eq_getElem (by omega)]
        simp [List.getD, List.getElem?_eq_getElem (show k < l.length by omega)]
      exact (sum_take this).symm
  rw [gen ns.length ns (Nat.le_refl _) h1, List.take_length]
theorem cr_sumV (hc : X.calm = true) : CallR X (.builtin "sum") (rSumV X.prog X.w C) := by
  intro pins s σ H vs us Q I r h
  obtain ⟨p, d, xs, ns, rfl, hp, nd, e, q⟩ := h
  rw [Vals.ref1 r]
  obtain ⟨h1, h2, ys, h3, hm⟩ := nd.dict I.hok
  obtain ⟨es, ep, raw, hsz, hes⟩ := hm.raw
  obtain ⟨hview, _, _⟩ := (show ObjOk X.prog X.w H s.heap p (valO p d) from I.hok p _ hp)
  have hh : X.A.in1.handled = none := I.ok.hd hc
  have dlt : d < s.heap.objs.size := let ⟨_, ho, _⟩ := raw; Heap.lt_size ho
  refine call_sum_walkG (wpAny_pyIter_values_raw hview raw ?_)
  have W := Walks.rawValues (prog := X.prog) (w := X.w) (A := X.A.in1) hh s.heap.objs.size d (Nat.ne_of_lt dlt) es ep
  have hval : ∀ (i : Nat) (y : NestedKey × Addr × Value), ys[i]? = some y → ∃ t, y.2.2 = Value.int (ns.getD i 0) t := by
    intro i y hy
    exact enr_int h3 e hy
  refine ⟨_, _, _, _, _, _, fun i => ns.getD i 0, rfl, W, ⟨⟨_, Heap.get?_push_size _ rfl, rfl, rfl⟩, raw.at fun o e => Heap.get?_push_of_some _ e⟩, fun b hb => ?_, fun i v hv => ?_, fun h' tk t' hk => ?_⟩
  · have hs1 : (s.heap.push { cls := .type "dict_valueiterator", data := .fields #[.ref d, .int 0 0, .int es.size 0, .int ep 0] }).objs.size = s.heap.objs.size + 1 := Heap.size_push ..
    simp only [List.mem_cons, List.not_mem_nil, or_false] at hb
    show b < (s.heap.push _).objs.size
    rw [hs1]
    rcases hb with rfl | rfl
    · exact Nat.lt_succ_self _
    · exact Nat.lt_succ_of_lt dlt
  · obtain ⟨hi, rfl⟩ := hv
    obtain ⟨y, hy, _, e2, _⟩ := hes i hi
    rw [e2]
    exact hval i y hy
  · rw [hsz, preSum_enr _ h3 e hval]
    refine ⟨.int _, H, I.kept (h' := h') (t' := tk) (fun b o e => hk b o ?_ (Heap.get?_push_of_some _ e)), ⟨_, rfl⟩, q⟩
    intro hb
    have : b = s.heap.objs.size := by simpa using hb
    exact absurd (Heap.lt_size e) (by rw [this]; exact Nat.lt_irrefl _)
end
end Y

set_option Elab.async false
set_option linter.all false
set_option maxRecDepth 100000
set_option maxHeartbeats 4000000
/-! Walks over dicts whose keys are nested tuples; loops; lists of numbers in lists. -/
namespace Y
open PySem PySem.Spec PyProof.Rows L2
section
variable {X : Cx} {pins : List (Addr × Obj)} {σ : L2.St} {H : Hp} {s : Shared} {d : Addr} {o : Obj} {xs : List En}
theorem frzN (I : Inv X pins σ H s) (hd : H d = some (.frz o (ndO X.prog X.w d xs))) : (d == sysModules) = false ∧ s.heap.get? d = some o ∧ o.ExactDict ∧ ∃ (es : Array DictEntry) (ep : Nat), o.data = .dict es ep ∧ es.size = xs.length ∧
    ∀ (i : Nat) (en : En), xs[i]? = some en → ∃ e : DictEntry, es[i]? = some e ∧ e.key = .ref en.2.1 ∧ RelV en.2.2 e.val := by
  obtain ⟨h0, x⟩ := (show s.heap.get? d = some o ∧ ObjOk X.prog X.w H s.heap d (ndO X.prog X.w d xs) from I.hok d _ hd)
  obtain ⟨h1, h2, ys, h3, o', es, ep, h4, h5, h6, h7, h8⟩ := ndO_rd x
  rw [h0] at h4; cases h4
  have hl : xs.length = ys.length := Paired.length h3
  refine ⟨h1, h0, h5, es, ep, h6, by rw [size_of_entries h7, hl], fun i en he => ?_⟩
  obtain ⟨y, hy, e1, e2, e3⟩ := paired_get h3 he
  have := entry_at h7 i
  rw [hy, Option.map_some] at this
  exact ⟨_, this, by show Value.ref y.2.1 = _; rw [e2], e3⟩
end
def Itnk (P : Program) (w : World) (d : Addr) (o : Obj) (xs : List En) : It :=
  ⟨fun i H => H d = some (.frz o (ndO P w d xs)) ∧ i < xs.length, fun i H x H' => H' = H ∧ ∃ en, xs[i]? = some en ∧ x = .ref en.2.1, fun i H => H d = some (.frz o (ndO P w d xs)) ∧ xs.length ≤ i⟩
def Itni (P : Program) (w : World) (d : Addr) (o : Obj) (xs : List En) : It :=
  ⟨fun i H => H d = some (.frz o (ndO P w d xs)) ∧ i < xs.length, fun i H x H' => ∃ T en, xs[i]? = some en ∧ x = .ref T ∧ H T = none ∧ H' = upd H T (.tup [.ref en.2.1, en.2.2]), fun i H => H d = some (.frz o (ndO P w d xs)) ∧ xs.length ≤ i⟩
section
variable {P : Program} {w : World} {K : PySem.W.Frag} {tg : Expr} {d : Addr} {o : Obj} {es : Array DictEntry} {ep : Nat} {xs : List En}
theorem turn_nk (it : Addr) (hod : o.data = .dict es ep) : Turn P w K tg (Itnk P w d o xs) [it] it (fun i h => h.IsKeyIter it d i xs.length ep) where
  mem := by simp
  obj := fun i h st b hb => by
    have e : b = it := by simpa using hb
    subst e
    obtain ⟨oi, e, c, dd⟩ := st
    exact ⟨oi, e, fun v z => by rw [dd] at z; cases z⟩
  keep := fun i h h' st k => st.at fun oi e => k it (by simp) oi e
  item := by
    intro X hP hw hK hc i pins s σ H E I hf st hg
    subst hP hw hK
    obtain ⟨hd, hi⟩ := hg
    obtain ⟨f0, f1, f2, f3, f4, f5⟩ := hf it (by simp)
    obtain ⟨hs, hgd, hx, es', ep', hdt, hsz, ent⟩ := frzN I hd
    obtain ⟨rfl, rfl⟩ := dict_ep hod hdt
    obtain ⟨en, hen⟩ : ∃ p, xs[i]? = some p := ⟨xs[i], List.getElem?_eq_getElem hi⟩
    obtain ⟨e, he, hkey, hval⟩ := ent i en hen
    refine next_key_item st hgd hdt hsz he fun h' st' sb => ?_
    have I1 : Inv X pins σ H { s with heap := h' } := I.turned (t' := s.toks) (fun b ob hb e => (sb.2 b hb).trans e) f0 f1 f3 f4 f5
    obtain ⟨oi, e1, c, dd⟩ := id st'
    exact ⟨e.key, rfl, go_of (s := { s with heap := h' }) e1 c dd (by decide) ⟨.ref en.2.1, H, I1, hkey, ⟨rfl, en, hen, rfl⟩, st', fun b hb => (hf b hb).1⟩⟩
  done := by
    intro X hP hw hK hc i pins s σ H E I hf st hg
    subst hP hw hK
    obtain ⟨hd, hi⟩ := hg
    obtain ⟨f0, f1, f2, f3, f4, f5⟩ := hf it (by simp)
    obtain ⟨hs, hgd, hx, es', ep', hdt, hsz, ent⟩ := frzN I hd
    obtain ⟨rfl, rfl⟩ := dict_ep hod hdt
    exact next_key_end (I.ok.hd hc) st hgd hdt hsz hi fun h' eb => ⟨rfl, I.turned (t' := s.toks) (fun b ob hb e => eb b ob hb e) f0 f1 f3 f4 f5⟩
  self := fun A i s Q E st h => by
    refine wpAny_pyIter_slot st.typeIs F.slot_dict_keyiterator_iter (wpAny_call_entry F.slot_dict_keyiterator_iter st.typeIs F.entry_dict_keyiterator_iter ?_ (F.args_dict_keyiterator_iter_1 _))
    show wpAny _ _ (ret (.ref it)) _ _ s
    exact wpAny_pure ⟨_, rfl, "dict_keyiterator", _, st.typeIs, F.slot_dict_keyiterator_next.lookup, h⟩
theorem turn_ni {elts : List Expr} {kk : Nat} {tpos : Pos} (it : Addr) (hod : o.data = .dict es ep) :
    Turn P w K (.Tuple elts kk tpos) (Itni P w d o xs) [it] it (fun i h => ∃ ok ov, IsItemIter h it d i xs.length ep ok ov) where
  mem := by simp
  obj := fun i h st b hb => by
    have e : b = it := by simpa using hb
    subst e
    obtain ⟨ok, ov, e⟩ := st
    exact ⟨_, e, fun v z => nomatch z⟩
  keep := fun i h h' st k => let ⟨ok, ov, e⟩ := st; ⟨ok, ov, k it (by simp) _ e⟩
  item := by
    intro X hP hw hK hc i pins s σ H E I hf st hg
    subst hP hw hK
    obtain ⟨hd, hi⟩ := hg
    obtain ⟨hs, hgd, hx, es', ep', hdt, hsz, ent⟩ := frzN I hd
    obtain ⟨rfl, rfl⟩ := dict_ep hod hdt
    obtain ⟨en, hen⟩ : ∃ p, xs[i]? = some p := ⟨xs[i], List.getElem?_eq_getElem hi⟩
    obtain ⟨e, he', hkey, hval⟩ := ent i en hen
    obtain ⟨ok, ov, he⟩ := st
    rw [← hsz] at he
    have hlt : it < s.heap.objs.size := Heap.lt_size he
    obtain ⟨hi', hee⟩ := Array.getElem?_eq_some_iff.mp he'
    refine wpAny_pyNext_items_item_raw he ⟨o, hgd, hx, hdt⟩ hi' fun h' ho hT hz hk => ?_
    rw [hee] at ho hT
    refine ⟨_, rfl, wpAny_letOwnedTupleGo_items (s := { s with heap := h' }) ho fun h'' he' sb => ?_⟩
    have hT2 : h''.get? s.heap.objs.size = some { cls := .type "tuple", data := .seq #[e.key, e.val] } := (sb.2 _ (Nat.ne_of_gt hlt)).trans hT
    have new : ObjOk X.prog X.w (upd H s.heap.objs.size (.tup [.ref en.2.1, en.2.2])) h'' s.heap.objs.size (.tup [.ref en.2.1, en.2.2]) :=
      ⟨by show 2 ≤ sizeLine; decide, [e.key, e.val], .cons hkey (.cons hval .nil), ⟨_, hT2, rfl, _, rfl⟩⟩
    have I1 : Inv X pins σ (upd H s.heap.objs.size (.tup [.ref en.2.1, en.2.2])) { s with heap := h'' } :=
      I.turnedNew (t' := s.toks) (ch := [it]) (fun b ob hb e => (sb.2 b (by simpa using hb)).trans (hk b ob (by simpa using hb) e)) hf (Nat.le_refl _) new
    refine ⟨.ref s.heap.objs.size, _, I1, rfl, ⟨_, en, hen, rfl, I.hok.fresh (Nat.le_refl _), rfl⟩, ⟨e.key, e.val, ?_⟩, fun b hb => ?_⟩
    · rw [← hsz]; exact he'
    · have e : b = it := by simpa using hb
      rw [e, upd_ne (Nat.ne_of_lt hlt)]
      exact (hf it (by simp)).1
  done := by
    intro X hP hw hK hc i pins s σ H E I hf st hg
    subst hP hw hK
    obtain ⟨hd, hi⟩ := hg
    obtain ⟨f0, f1, f2, f3, f4, f5⟩ := hf it (by simp)
    obtain ⟨hs, hgd, hx, es', ep', hdt, hsz, ent⟩ := frzN I hd
    obtain ⟨rfl, rfl⟩ := dict_ep hod hdt
    obtain ⟨ok, ov, he⟩ := st
    rw [← hsz] at he
    exact wpAny_pyNext_items_end_raw (I.ok.hd hc) he ⟨o, hgd, hx, hdt⟩ (by omega) fun h' eb => ⟨rfl, I.turned (t' := s.toks) (fun b ob hb e => eb b ob hb e) f0 f1 f3 f4 f5⟩
  self := fun _ _ _ _ _ st h => let ⟨_, _, e⟩ := st; PySem.W.kcp_self e h
end
/-- over the keys | items of a locked dict -/
def iNk (P : Program) (w : World) (td : TE) : TI := fun σ H R => td σ H fun x H1 => ∃ d o xs, x = .ref d ∧ H1 d = some (.frz o (ndO P w d xs)) ∧ R (Itnk P w d o xs) H1
def iNi (P : Program) (w : World) (td : TE) : TI := fun σ H R => td σ H fun x H1 => ∃ d o xs, x = .ref d ∧ H1 d = some (.frz o (ndO P w d xs)) ∧ R (Itni P w d o xs) H1
section
variable {X : Cx} {tg e : Expr} {td : TE} {apos cpos : Pos}
theorem pi_nk (he : PE X e td) : PI X tg e (iNk X.prog X.w td) := by
  refine ⟨fun pins s σ H R I h => ?_⟩
  refine thn (he.run pins s σ H _ I h) fun u s1 ⟨x, H1, I1, rx, d, o, xs, ex, hd, q⟩ => ?_
  subst ex
  obtain rfl : u = Value.ref d := rx
  obtain ⟨hs, hgd, hx, es, ep, hdt, hsz, ent⟩ := frzN I1 hd
  refine iter_keys hs hgd hx hdt (pi_one (tk := s1.toks) I1 _ (turn_nk _ hdt) ⟨_, Heap.get?_push_size _ rfl, rfl, ?_⟩ q)
  rw [hsz] <;> rfl
theorem pi_ni {elts : List Expr} {kk : Nat} {tpos : Pos} (he : PE X e td) (hbase : attributeBase e "items" X.env (eval e X.env) = eval e X.env := by rfl) (hline : (apos.endLine == cpos.line) = true := by rfl) :
    PI X (.Tuple elts kk tpos) (.Call (.Attribute e "items" apos) [] [] cpos) (iNi X.prog X.w td) := by
  refine ⟨fun pins s σ H R I h => ?_⟩
  refine wpAny_Call_method (T := "dict") (id := "dict.items") hbase rfl hline F.plainAttrs_dict F.slot_dict_items F.type_dict_items (thn (he.run pins s σ H _ I h) fun u s1 ⟨x, H1, I1, rx, d, o, xs, ex, hd, q⟩ => ?_)
  subst ex
  obtain rfl : u = Value.ref d := rx
  obtain ⟨hs, hgd, hx, es, ep, hdt, hsz, ent⟩ := frzN I1 hd
  have raw : s1.heap.DictRaw d es ep := ⟨o, hgd, hx, hdt⟩
  refine ⟨raw.typeIs, fun b q => (by cases q; exact ⟨o, hgd, hx.2.1⟩), ?_⟩
  have I2 : Inv X pins σ H1 { s1 with heap := s1.heap.push { cls := .type "dict_items", data := .fields #[.ref d] } } := I1.kept (t' := s1.toks) fun b ob q => Heap.get?_push_of_some _ q
  have fin : wpAny (model X.prog X.w) X.A (pyIter (.ref s1.heap.objs.size)) (PIE X pins σ (.Tuple elts kk tpos) R) X.xe { s1 with heap := s1.heap.push { cls := .type "dict_items", data := .fields #[.ref d] } } := by
    refine wpAny_pyIter_items_raw (d := d) (es := es) (ep := ep) ⟨_, Heap.get?_push_size _ rfl, rfl, rfl⟩ (raw.at fun o e => Heap.get?_push_of_some _ e) (pi_one (tk := s1.toks) I2 _ (turn_ni _ hdt) ⟨.none, .none, ?_⟩ q)
    rw [← hsz]
    exact Heap.get?_push_size _ rfl
  show wpAny _ _ (callWith cpos (.builtin "dict.items") [.ref d] [] []) _ X.xe s1
  exact method_meetsIn F.slot_dict_items F.entry_dict_items rfl (PySem.evalArgs_none ⟨rfl, raw.typeIs, F.args_dict_items_1 _, _, meets_dict_items_raw d hs, ⟨es, ep, raw⟩, fin⟩)
end
/-- a loop over n turns of an iterator J whose i-th item is what (i, H) yields -/
theorem for_any {J : It} {n : Nat} {g : TG} {tb : TS} {D : Ends} {σ : L2.St} {H : Hp} (Pv : Nat → L2.St → Hp → Prop) (h0 : Pv 0 σ H) (hgo : ∀ i σ H, i < n → Pv i σ H → J.go i H) (hstop : ∀ σ H, Pv n σ H → J.stop n H)
    (hs : ∀ i x σ H H', i < n → Pv i σ H → J.yld i H x H' → g x σ H' fun σ2 H2 => tb { D with nx := Pv (i + 1), ct := Pv (i + 1), bk := D.nx } σ2 H2) (hd : ∀ σ H, Pv n σ H → D.nx σ H) :
    ∃ W : Nat → Nat → L2.St → Hp → Prop, (∃ m, W 0 m σ H) ∧ ∀ i m σ H, W i m σ H → (J.stop i H ∧ D.nx σ H) ∨ (J.go i H ∧ ∃ N : L2.St → Hp → Prop, (∀ σ' H', N σ' H' → ∃ m', m' < m ∧ W (i + 1) m' σ' H') ∧
      ∀ x H', J.yld i H x H' → g x σ H' fun σ2 H2 => tb { D with nx := N, ct := N, bk := D.nx } σ2 H2) := by
  refine ⟨fun i m σ H => m = n - i ∧ i ≤ n ∧ Pv i σ H, ⟨n, by simp, Nat.zero_le _, h0⟩, ?_⟩
  rintro i m σ H ⟨rfl, hi, p⟩
  by_cases hlt : i < n
  · exact .inr ⟨hgo i σ H hlt p, Pv (i + 1), fun σ' H' q => ⟨n - (i + 1), by omega, rfl, by omega, q⟩, fun x H' y => hs i x σ H H' hlt p y⟩
  · have : i = n := by omega
    subst this
    exact .inl ⟨hstop σ H p, hd σ H p⟩
end Y

set_option Elab.async false
set_option linter.all false
set_option maxRecDepth 100000
set_option maxHeartbeats 4000000
/-! Defs and their callers; loops and comprehensions that come to data. -/
namespace Y
open PySem PySem.Spec PyProof.Rows L2
/-! ### defs -/
/-- the def x stands at the top as the text has it -/
def Df (K : PySem.W.Frag) (mg : Str → Option Value) (x : Str) (st : Stmt) : Prop := ∃ f fd, mg x = some (.ref f) ∧ FunD K x x (defArgs st) (defBody st) (defScope st) [] [] f fd
/-- the def x keeps the promise sp -/
def Cl (P : Program) (w : World) (K : PySem.W.Frag) (mg : Str → Option Value) (base : Heap) (x : Str) (k : Nat) (ps : List Str) (sp : Sp) : Prop :=
  ∃ f fd, mg x = some (.ref f) ∧ PySem.W.keepIn K (.ref f) = true ∧ Binds K fd ps [] ∧ FnOk P w K mg base CX0 k f fd ps sp
section
variable {P : Program} {w : World} {K : PySem.W.Frag} {mg : Str → Option Value} {base : Heap} {x : Str} {st : Stmt} {N ps : List Str} {k : Nat} {sp : Sp}
theorem Df.cl (F : Df K mg x st) (S : FnScope N ps (defScope st))
    (hb : ∀ (kV doc pm : Value) (an : Option Addr) (cdv ct : Value) (us : List Value), us.length = ps.length → bindArgs (PySem.W.fnOf x x (defArgs st) (defBody st) (defScope st) .none kV doc pm an cdv ct) ⟨us, []⟩ = pure (ps.zip us))
    (len : ∀ vs H Q E, sp vs H Q E → vs.length = ps.length)
    (body : ∀ (f : Addr) (cdv : Value) (A : Around) (outer : List Env) (s : Shared) (H : Hp) (vs : List V) (Q : VK) (E : XK), Room k (A.deeper (envOfC x (defScope st) s.heap.objs.size f cdv)) → sp vs H Q E →
      ∃ t, PSs (cxOf CX0 P w K mg base N x (defScope st) f cdv A outer s H E).nox (defBody st) t ∧ t { nx := fun _ H' => Q .non H', rt := Q } (start N vs) H) : Cl P w K mg base x (k + 1) ps sp := by
  obtain ⟨f, fd, hm, F⟩ := F
  refine ⟨f, fd, hm, F.kp, F.bindsN hb, F.ok S len fun cdv A outer s H vs Q E hr h => ?_⟩
  obtain ⟨t, h1, h2⟩ := body f cdv A outer s H vs Q E hr h
  exact ⟨t, h1.nox, h2⟩
theorem Cl.imp (c : Cl P w K mg base x k ps sp) {sp' : Sp} (h : ∀ vs H Q E, sp' vs H Q E → sp vs H Q E) : Cl P w K mg base x k ps sp' := by
  obtain ⟨f, fd, a, b, d, e⟩ := c
  exact ⟨f, fd, a, b, d, e.imp h⟩
end
section
variable {X : Cx} {k : Nat} {x : Str} {ps : List Str} {sp : Sp} {p pos : Pos} {e : Expr} {es : List Expr} {t : TA}
theorem pe_cl (c : Cl X.prog X.w X.K X.mg X.base x k ps sp) (hr : Room k X.A) (hg : Gl X x) (ha : PA X (e :: es) t) (hdb : (x == ("__debug__" : Str)) = false := by decide)
    (he : starEach (e :: es) X.env = (false, eval e X.env) :: starEach es X.env := by rfl) (hpl : (backTo pos (starEach es X.env)).any (·.1) = false := by rfl) :
    PE X (.Call (.Name x p) (e :: es) [] pos) (tCall sp [] E0 t) := by
  obtain ⟨f, fd, hm, hk, hb, F⟩ := c
  exact pe_call F hr hg hm hk hb .nil pass0 ha hdb he hpl
/-- a module's whole number -/
theorem pe_gint {i : Int} (hg : Gl X x) (hm : ∃ t, X.mg x = some (.int i t)) (hd : (x == ("__debug__" : Str)) = false := by decide) : PE X (.Name x pos) (tC (.int i)) := by
  obtain ⟨t, hm⟩ := hm
  exact pe_glob hg hm ⟨t, rfl⟩ hd
/-- xs[i] of a list, to be changed by place -/
def rGetL (K : PySem.W.Frag) : V → V → Hp → VK → Prop := fun o i H Q => ∃ (p : Addr) (xs : List V) (j : Nat) (v : V), o = .ref p ∧ i = .int (j : Int) ∧ SqL K H p xs ∧ xs[j]? = some v ∧ Q v H
theorem get_list : PGet X (rGetL X.K) := by
  intro pins s σ H o i ov iv Q I ro ri h
  obtain ⟨p, xs, j, v, rfl, rfl, hq, hj, q⟩ := h
  cases ro
  obtain ⟨t, rfl⟩ := ri
  obtain ⟨its, r, pl, hz⟩ := I.list hq
  obtain ⟨u, eu, ru⟩ := r.get hj
  have hlt : j < its.length := (List.getElem?_eq_some_iff.mp eu).1
  have hl := r.length
  have hs : sizeLine = 16777216 := sizeLine_eq
  exact wpAny_getItem_list (x := u) pl.isList (by omega) (by omega) (by simpa using eu) ⟨v, H, I, ru, q⟩
end
/-! ### the promise of a def that only reads: from data to a datum -/
/-- pre: what is asked of the data; f: what it comes to -/
def pureSp (C : Addr) (pre : List D → Prop) (f : List D → D) : Sp := fun vs H Q _ => ∃ ds, TpA C H vs ds ∧ pre ds ∧ ∀ v H', Same H H' → Tp C H' v (f ds) → Q v H'
/-- .. to a new list of data -/
def pureSpL (C : Addr) (pre : List D → Prop) (f : List D → List D) : Sp := fun vs H Q _ => ∃ ds, TpA C H vs ds ∧ pre ds ∧ ∀ a vs' H', Same H H' → H a = none → H' a = some (.lst vs') → TpA C H' vs' (f ds) → Q (.ref a) H'
section
variable {C : Addr} {K : PySem.W.Frag} {as : TA} {σ : L2.St} {H : Hp} {ds : List D} {pre : List D → Prop}
theorem ev_call {f : List D → D} (ha : EvA C as σ H ds) (hp : pre ds) : EvD C (tCall (pureSp C pre f) [] E0 as) σ H (f ds) := fun H1 s Q q =>
  ha H1 s _ fun vs H2 s2 t => ⟨ds, by rw [List.append_nil]; exact t, hp, fun v H3 s3 t3 => q v H3 (Same.trans s2 s3) t3⟩
theorem evl_call {f : List D → List D} (ha : EvA C as σ H ds) (hp : pre ds) : EvL C (tCall (pureSpL C pre f) [] E0 as) σ H (f ds) := fun H1 s Q q =>
  ha H1 s _ fun vs H2 s2 t => ⟨ds, by rw [List.append_nil]; exact t, hp, fun a vs' H3 s3 hn h3 t3 => q a vs' H3 (Same.trans s2 s3) (s2.free hn) h3 t3⟩
end
/-! ### targets -/
/-- the target takes x by setting slots -/
def GB (g : TG) (σ : L2.St) (H : Hp) (x : V) (σ' : L2.St) : Prop := ∀ Q : L2.St → Hp → Prop, Q σ' H → g x σ H Q
section
variable {C : Addr} {K : PySem.W.Frag} {σ : L2.St} {H : Hp} {x : V} {i j k l : Nat}
theorem gb_name : GB (gName i) σ H x (σ.set i (some x)) := fun _ q => q
theorem gb_tup2 {a b : Int} {d : D} (h : Tp C H x (.tup [d, .num b])) : ∃ v, Tp C H v d ∧ GB (gTup K 2 (gCons (gName i) (gCons (gName j) gNil))) σ H x ((σ.set i (some v)).set j (some (.int b))) := by
  obtain ⟨p, xs, rfl, hx, r⟩ := tp_tup h
  obtain ⟨v, _, rfl, r1, r⟩ := tpa_cons r
  obtain ⟨_, _, rfl, r2, r⟩ := tpa_cons r
  cases tpa_nil r; cases tp_num r2
  exact ⟨v, r1, fun Q q => ⟨p, _, rfl, .inl (.inl hx), rfl, _, _, rfl, _, _, rfl, rfl, q⟩⟩
theorem gb_two {d e : D} (h : Tp C H x (.tup [d, e])) : ∃ v w, Tp C H v d ∧ Tp C H w e ∧ GB (gTup K 2 (gCons (gName i) (gCons (gName j) gNil))) σ H x ((σ.set i (some v)).set j (some w)) := by
  obtain ⟨p, xs, rfl, hx, r⟩ := tp_tup h
  obtain ⟨v, _, rfl, r1, r⟩ := tpa_cons r
  obtain ⟨w, _, rfl, r2, r⟩ := tpa_cons r
  cases tpa_nil r
  exact ⟨v, w, r1, r2, fun Q q => ⟨p, _, rfl, .inl (.inl hx), rfl, _, _, rfl, _, _, rfl, rfl, q⟩⟩
theorem gb_three {d e f : D} (h : Tp C H x (.tup [d, e, f])) : ∃ u v w, Tp C H u d ∧ Tp C H v e ∧ Tp C H w f ∧ GB (gTup K 3 (gCons (gName i) (gCons (gName j) (gCons (gName k) gNil)))) σ H x (((σ.set i (some u)).set j (some v)).set k (some w)) := by
  obtain ⟨p, xs, rfl, hx, r⟩ := tp_tup h
  obtain ⟨u, _, rfl, r1, r⟩ := tpa_cons r
  obtain ⟨v, _, rfl, r2, r⟩ := tpa_cons r
  obtain ⟨w, _, rfl, r3, r⟩ := tpa_cons r
  cases tpa_nil r
  exact ⟨u, v, w, r1, r2, r3, fun Q q => ⟨p, _, rfl, .inl (.inl hx), rfl, _, _, rfl, _, _, rfl, _, _, rfl, rfl, q⟩⟩
theorem gb_four {d e f g : D} (h : Tp C H x (.tup [d, e, f, g])) : ∃ t u v w, Tp C H t d ∧ Tp C H u e ∧ Tp C H v f ∧ Tp C H w g ∧
    GB (gTup K 4 (gCons (gName i) (gCons (gName j) (gCons (gName k) (gCons (gName l) gNil))))) σ H x ((((σ.set i (some t)).set j (some u)).set k (some v)).set l (some w)) := by
  obtain ⟨p, xs, rfl, hx, r⟩ := tp_tup h
  obtain ⟨t, _, rfl, r0, r⟩ := tpa_cons r
  obtain ⟨u, _, rfl, r1, r⟩ := tpa_cons r
  obtain ⟨v, _, rfl, r2, r⟩ := tpa_cons r
  obtain ⟨w, _, rfl, r3, r⟩ := tpa_cons r
  cases tpa_nil r
  exact ⟨t, u, v, w, r0, r1, r2, r3, fun Q q => ⟨p, _, rfl, .inl (.inl hx), rfl, _, _, rfl, _, _, rfl, _, _, rfl, _, _, rfl, rfl, q⟩⟩
/-- a door's four numbers -/
theorem gb_door {d : Door} (h : Tp C H x (doorD d)) : GB (gTup K 4 (gCons (gName i) (gCons (gName j) (gCons (gName k) (gCons (gName l) gNil))))) σ H x ((((σ.set i (some (.int d.1))).set j (some (.int d.2.1))).set k (some (.int d.2.2.1))).set l (some (.int d.2.2.2))) := by
  obtain ⟨p, rfl, hx⟩ := tp_door h
  exact fun Q q => ⟨p, _, rfl, .inl (.inl hx), rfl, _, _, rfl, _, _, rfl, _, _, rfl, _, _, rfl, rfl, q⟩
end
/-! ### statements -/
section
variable {C : Addr} {K : PySem.W.Frag} {te : TE} {tt : TT} {rest : TS} {Ds : Ends} {σ : L2.St} {H H0 : Hp} {d : D} {ds : List D} {i p : Nat} {g : TG} {b : Bool}
/-- x = e, then the rest -/
theorem st_set (h : EvD C te σ H d) (k : ∀ v H2, Same H H2 → Tp C H2 v d → rest Ds (σ.set i (some v)) H2) : tSeq (tAsg te (gName i)) rest Ds σ H := h H (Same.refl _) _ k
theorem st_setL (h : EvL C te σ H ds) (k : ∀ a vs H2, Same H H2 → H a = none → H2 a = some (.lst vs) → TpA C H2 vs ds → rest Ds (σ.set i (some (.ref a))) H2) : tSeq (tAsg te (gName i)) rest Ds σ H := h H (Same.refl _) _ k
theorem st_asg (h : EvD C te σ H d) (k : ∀ v H2, Same H H2 → Tp C H2 v d → ∃ σ', GB g σ H2 v σ' ∧ rest Ds σ' H2) : tSeq (tAsg te g) rest Ds σ H := h H (Same.refl _) _ fun v H2 s t => by
  obtain ⟨σ', g1, r⟩ := k v H2 s t
  exact g1 _ r
/-- return e -/
theorem st_ret (h : EvD C te σ H d) (k : ∀ v H2, Same H H2 → Tp C H2 v d → Ds.rt v H2) : tRet te Ds σ H := h H (Same.refl _) _ k
theorem st_retL (h : EvL C te σ H ds) (k : ∀ a vs H2, Same H H2 → H a = none → H2 a = some (.lst vs) → TpA C H2 vs ds → Ds.rt (.ref a) H2) : tRet te Ds σ H := h H (Same.refl _) _ k
/-- if t: A else: B -/
theorem st_if {t u : TS} (h : EvT tt σ H b) (h1 : b = true → ∀ H2, Same H H2 → t Ds σ H2) (h2 : b = false → ∀ H2, Same H H2 → u Ds σ H2) : tIfS tt t u Ds σ H := h H (Same.refl _) _ fun H2 s => by
  cases b with
  | true => exact iteT (h1 rfl H2 s)
  | false => exact iteF (h2 rfl H2 s)
/-- xs.append(e), xs in slot i, then the rest -/
theorem st_app {xs : List V} {a : Addr} (hv : σ[i]? = some (some (.ref a))) (ha : H a = some (.lst xs)) (hl : xs.length < sizeLine) (h : EvD C te σ H d)
    (k : ∀ v H2, Same H H2 → Tp C H2 v d → rest Ds σ (upd H2 a (.lst (xs ++ [v])))) : tSeq (tDrop (tBM K "list" rAppend (tVar i) (tCons te tNil))) rest Ds σ H := by
  refine ⟨_, hv, .inl ⟨rfl, xs, .inl (.inl ha)⟩, ?_⟩
  exact h H (Same.refl _) _ fun v H2 s t => ⟨a, xs, v, rfl, rfl, s _ _ ha, hl, k v H2 s t⟩
/-- the same as the last statement of a block -/
theorem st_app1 {xs : List V} {a : Addr} (hv : σ[i]? = some (some (.ref a))) (ha : H a = some (.lst xs)) (hl : xs.length < sizeLine) (h : EvD C te σ H d)
    (k : ∀ v H2, Same H H2 → Tp C H2 v d → Ds.nx σ (upd H2 a (.lst (xs ++ [v])))) : tDrop (tBM K "list" rAppend (tVar i) (tCons te tNil)) Ds σ H := by
  refine ⟨_, hv, .inl ⟨rfl, xs, .inl (.inl ha)⟩, ?_⟩
  exact h H (Same.refl _) _ fun v H2 s t => ⟨a, xs, v, rfl, rfl, s _ _ ha, hl, k v H2 s t⟩
end
/-! ### what is walked comes to data -/
/-- the walk J gives the data ds, in order, while the tuples and what stands at F stay -/
structure Src (C : Addr) (J : It) (H : Hp) (ds : List D) (F : List Addr) : Prop where
  go : ∀ i H', Stay H H' → (∀ b ∈ F, ∀ o, H b = some o → H' b = some o) → i < ds.length → J.go i H'
  stop : ∀ H', Stay H H' → (∀ b ∈ F, ∀ o, H b = some o → H' b = some o) → J.stop ds.length H'
  yld : ∀ i x H' H'', Stay H H' → (∀ b ∈ F, ∀ o, H b = some o → H' b = some o) → i < ds.length → J.yld i H' x H'' → H'' = H' ∧ ∃ d, ds[i]? = some d ∧ Tp C H' x d
def EvI (C : Addr) (wi : TI) (σ : L2.St) (H : Hp) (ds : List D) (Fk : List Addr) : Prop := ∀ H1, Same H H1 → ∀ R : It → Hp → Prop, (∀ J H2 F, Same H1 H2 → (∀ b ∈ F, H1 b = none ∨ b ∈ Fk) → Src C J H2 ds F → R J H2) → wi σ H1 R
section
variable {C : Addr} {K : PySem.W.Frag} {te : TE} {as : TA} {σ : L2.St} {H : Hp} {ds : List D}
theorem ei_tup (h : EvD C te σ H (.tup ds)) : EvI C (iTup K te) σ H ds [] := fun H1 s R q => h H1 s _ fun v H2 s2 t => by
  obtain ⟨a, xs, rfl, hx, r⟩ := tp_tup t
  refine ⟨a, rfl, ⟨xs, .inl (.inl hx)⟩, q _ H2 [] s2 (fun b hb => nomatch hb) ⟨fun i H' st _ hi => ?_, fun H' st _ => ?_, fun i x H' H'' st _ hi hy => ?_⟩⟩
  · obtain ⟨v, h1, _⟩ := r.get (List.getElem?_eq_getElem hi)
    exact ⟨xs, v, .inl (.inl (st _ _ hx trivial)), h1⟩
  · exact ⟨xs, .inl (.inl (st _ _ hx trivial)), by rw [r.length]; exact Nat.le_refl _⟩
  · obtain ⟨rfl, hy⟩ := hy
    obtain ⟨d, e1, e2⟩ := (r.stay st).getV (hy xs (.inl (.inl (st _ _ hx trivial))))
    exact ⟨rfl, d, e1, e2⟩
theorem src_list {a : Addr} {vs : List V} (ha : H a = some (.lst vs)) (r : TpA C H vs ds) : Src C (Itl K a) H ds [a] where
  go := fun i H' st fr hi => by
    obtain ⟨v, h1, _⟩ := r.get (List.getElem?_eq_getElem hi)
    exact ⟨vs, v, .inl (.inl (fr a (by simp) _ ha)), h1⟩
  stop := fun H' st fr => ⟨vs, .inl (.inl (fr a (by simp) _ ha)), by rw [r.length]; exact Nat.le_refl _⟩
  yld := fun i x H' H'' st fr hi hy => by
    obtain ⟨rfl, hy⟩ := hy
    obtain ⟨d, e1, e2⟩ := (r.stay st).getV (hy vs (.inl (.inl (fr a (by simp) _ ha))))
    exact ⟨rfl, d, e1, e2⟩
theorem ei_lst (h : EvL C te σ H ds) : EvI C (iList K te) σ H ds [] := fun H1 s R q => h H1 s _ fun a vs H2 s2 hn ha r =>
  ⟨a, rfl, ⟨vs, .inl (.inl ha)⟩, q _ H2 [a] s2 (fun b hb => .inl (by rw [List.mem_singleton.mp hb]; exact hn)) (src_list ha r)⟩
/-- a list that stands already -/
theorem ei_at {a : Addr} {vs : List V} (h : EvV te σ H (.ref a)) (ha : H a = some (.lst vs)) (r : TpA C H vs ds) : EvI C (iList K te) σ H ds [a] := fun H1 s R q => h H1 s _ fun H2 s2 =>
  ⟨a, rfl, ⟨vs, .inl (.inl (s2 _ _ (s _ _ ha)))⟩, q _ H2 [a] s2 (fun b hb => .inr hb) (src_list (s2 _ _ (s _ _ ha)) ((r.same s).same s2))⟩
theorem src_rng (lo : Int) (n : Nat) : Src C (Itr lo n) H ((List.range n).map fun k => D.num (lo + (k : Nat))) [] where
  go := fun i H' _ _ hi => show i < n by simpa using hi
  stop := fun H' _ _ => by show n ≤ _; simp
  yld := fun i x H' H'' _ _ hi hy => by
    obtain ⟨rfl, rfl⟩ := hy
    have hi : i < n := by simpa using hi
    exact ⟨rfl, .num (lo + (i : Nat)), by simp [hi], .num _⟩
theorem ei_rng1 {n : Nat} (h : EvA C as σ H [.num (n : Int)]) (hn : n < 2 ^ 62) : EvI C (iRng1 as) σ H ((List.range n).map fun k => D.num (k : Nat)) [] := fun H1 s R q => h H1 s _ fun vs H2 s2 t => by
  obtain ⟨v, _, rfl, t1, t⟩ := tpa_cons t
  cases tpa_nil t; cases tp_num t1
  refine ⟨n, rfl, by omega, by omega, q _ H2 [] s2 (fun b hb => nomatch hb) ?_⟩
  have := src_rng (C := C) (H := H2) 0 n
  simp only [Int.zero_add] at this
  rw [Int.toNat_natCast]; exact this
theorem ei_rng2 {i j : Int} (h : EvA C as σ H [.num i, .num j]) (h1 : -(2 ^ 62) ≤ i) (h2 : i < 2 ^ 62) (h3 : -(2 ^ 62) ≤ j) (h4 : j < 2 ^ 62) : EvI C (iRng2 as) σ H ((List.range (j - i).toNat).map fun k => D.num (i + (k : Nat))) [] := fun H1 s R q => h H1 s _ fun vs H2 s2 t => by
  obtain ⟨v, _, rfl, t1, t⟩ := tpa_cons t
  obtain ⟨v, _, rfl, t2, t⟩ := tpa_cons t
  cases tpa_nil t; cases tp_num t1; cases tp_num t2
  exact ⟨i, j, rfl, ⟨h1, h2, h3, h4⟩, q _ H2 [] s2 (fun b hb => nomatch hb) (src_rng i _)⟩
end
/-! ### loops -/
section
variable {C : Addr} {K : PySem.W.Frag} {wi : TI} {te : TE} {tt : TT} {g : TG} {tb : TS} {Ds : Ends} {σ : L2.St} {H : Hp} {ds : List D} {Fk : List Addr}
theorem st_for (h : EvI C wi σ H ds Fk) (J : Hp → Nat → L2.St → Hp → Prop) (h0 : ∀ H1, Same H H1 → J H1 0 σ H1)
    (hst : ∀ H1 i σ' H', Same H H1 → J H1 i σ' H' → Stay H1 H' ∧ ∀ b o, (H b = none ∨ b ∈ Fk) → H1 b = some o → H' b = some o)
    (hs : ∀ H1 i d x σ' H', Same H H1 → ds[i]? = some d → J H1 i σ' H' → Tp C H' x d → ∃ σ2, GB g σ' H' x σ2 ∧ tb { Ds with nx := J H1 (i + 1), ct := J H1 (i + 1), bk := Ds.nx } σ2 H')
    (hd : ∀ H1 σ' H', Same H H1 → J H1 ds.length σ' H' → Ds.nx σ' H') : tFor wi g tb Ds σ H := by
  refine h H (Same.refl _) _ fun It H1 F s hF S => ?_
  have fr : ∀ i σ' H', J H1 i σ' H' → ∀ b ∈ F, ∀ o, H1 b = some o → H' b = some o := fun i σ' H' j b hb o e => (hst H1 i σ' H' s j).2 b o (hF b hb) e
  refine for_any (n := ds.length) (J H1) (h0 H1 s) (fun i σ' H' hi j => S.go i H' (hst H1 i σ' H' s j).1 (fr i σ' H' j) hi) (fun σ' H' j => S.stop H' (hst H1 _ σ' H' s j).1 (fr _ σ' H' j)) ?_ (fun σ' H' j => hd H1 σ' H' s j)
  intro i x σ' H' H'' hi j y
  obtain ⟨rfl, d, e1, e2⟩ := S.yld i x H' H'' (hst H1 i σ' H' s j).1 (fr i σ' H' j) hi y
  obtain ⟨σ2, g2, b2⟩ := hs H1 i d x σ' H'' s e1 j e2
  exact g2 _ b2
/-- [e for x in .. if t], e and t only read: keep gives what an item gives, if it is kept -/
theorem evl_lc {vs : List Nat} (h : EvI C wi σ H ds Fk) (keep : D → Option D)
    (hb : ∀ d x H', d ∈ ds → Same H H' → Tp C H' x d → ∃ σ2, GB g (wipe σ vs) H' x σ2 ∧ wipe σ2 vs = wipe σ vs ∧ EvT tt σ2 H' (keep d).isSome ∧ ∀ e, keep d = some e → EvD C te σ2 H' e)
    (hl : ds.length ≤ sizeLine) : EvL C (tLc wi g tt te vs) σ H (ds.filterMap keep) := fun H1 s Q q => by
  refine h H1 s _ fun It H2 F s2 hF S => fun Dd hD => ?_
  have hmem : ∀ i d, ds[i]? = some d → d ∈ ds := fun i d e => List.mem_of_getElem? e
  refine ⟨fun i m H' => m = ds.length - i ∧ i ≤ ds.length ∧ Same H2 H' ∧ ∃ vs', H' Dd = some (.lst vs') ∧ TpA C H' vs' ((ds.take i).filterMap keep), ⟨ds.length, rfl, Nat.zero_le _, Same.new hD, [], upd_same, .nil⟩, ?_⟩
  rintro i m H' ⟨rfl, hi, sm, vs', e, t⟩
  have st : Stay H2 H' := Same.stay sm
  have fr : ∀ b ∈ F, ∀ o, H2 b = some o → H' b = some o := fun b _ o e => sm b o e
  by_cases hlt : i < ds.length
  · refine .inr ⟨S.go i H' st fr hlt, fun H3 => Same H2 H3 ∧ ∃ vs', H3 Dd = some (.lst vs') ∧ TpA C H3 vs' ((ds.take (i + 1)).filterMap keep), fun H3 q3 => ⟨_, by omega, rfl, hlt, q3⟩, ?_⟩
    intro x H3 y
    obtain ⟨rfl, d, e1, e2⟩ := S.yld i x H' H3 st fr hlt y
    obtain ⟨σ2, g2, w2, ht, he⟩ := hb d x H3 (hmem i d e1) (Same.trans s (Same.trans s2 sm)) e2
    have tk : (ds.take (i + 1)).filterMap keep = (ds.take i).filterMap keep ++ (keep d).toList := by
      rw [List.take_add_one, e1, List.filterMap_append]
      cases hk : keep d <;> simp [hk]
    refine g2 _ ⟨w2, ht H3 (Same.refl _) _ fun H4 s4 => ?_⟩
    cases hk : keep d with
    | none =>
      refine iteF ⟨Same.trans sm s4, vs', s4 _ _ e, ?_⟩
      rw [tk, hk]
      simpa using t.same s4
    | some z =>
      refine iteT (he z hk H4 s4 _ fun v H5 s5 t5 => ?_)
      have ll : vs'.length ≤ i := by
        rw [t.length]
        exact Nat.le_trans (List.length_filterMap_le _ _) (by rw [List.length_take]; omega)
      have s45 := Same.trans s4 s5
      refine ⟨vs', s45 _ _ e, by omega, Same.put (Same.trans sm s45) hD, _, upd_same, ?_⟩
      rw [tk, hk]
      have stp : Stay H5 (upd H5 Dd (.lst (vs' ++ [v]))) := But.stay (p := Dd) but_up (notImm_lst (s45 _ _ e))
      exact ((t.same s45).stay stp).append (.cons (t5.stay stp) .nil)
  · have : i = ds.length := by omega
    subst this
    refine .inl ⟨S.stop H' st fr, ?_⟩
    rw [List.take_length] at t
    exact q Dd vs' H' (Same.trans s2 sm) (s2.free hD) e t
end
end Y

set_option Elab.async false
set_option linter.all false
set_option maxRecDepth 100000
set_option maxHeartbeats 4000000
/-! Promises by an index; isinstance; sums, all; numbers that are wide. -/
namespace Y
open PySem PySem.Spec PyProof.Rows L2
/-- a def that only reads: at i the arguments are args i, and it comes to res i -/
def fnSp (C : Addr) {ι : Type} (args : ι → List D) (pre : ι → Prop) (res : ι → D) : Sp := fun vs H Q _ => ∃ i, TpA C H vs (args i) ∧ pre i ∧ ∀ v H', Same H H' → Tp C H' v (res i) → Q v H'
def fnSpL (C : Addr) {ι : Type} (args : ι → List D) (pre : ι → Prop) (res : ι → List D) : Sp := fun vs H Q _ => ∃ i, TpA C H vs (args i) ∧ pre i ∧ ∀ a vs' H', Same H H' → H a = none → H' a = some (.lst vs') → TpA C H' vs' (res i) → Q (.ref a) H'
section
variable {C : Addr} {K : PySem.W.Frag} {as : TA} {ta tb tl : TE} {σ : L2.St} {H : Hp} {ds : List D} {ι : Type} {args : ι → List D} {pre : ι → Prop} {i j : Int} {b : Bool}
theorem ev_fn {res : ι → D} (i : ι) (ha : EvA C as σ H ds) (e : ds = args i) (hp : pre i) : EvD C (tCall (fnSp C args pre res) [] E0 as) σ H (res i) := fun H1 s Q q =>
  ha H1 s _ fun vs H2 s2 t => ⟨i, by rw [List.append_nil, ← e]; exact t, hp, fun v H3 s3 t3 => q v H3 (Same.trans s2 s3) t3⟩
theorem evl_fn {res : ι → List D} (i : ι) (ha : EvA C as σ H ds) (e : ds = args i) (hp : pre i) : EvL C (tCall (fnSpL C args pre res) [] E0 as) σ H (res i) := fun H1 s Q q =>
  ha H1 s _ fun vs H2 s2 t => ⟨i, by rw [List.append_nil, ← e]; exact t, hp, fun a vs' H3 s3 hn h3 t3 => q a vs' H3 (Same.trans s2 s3) (s2.free hn) h3 t3⟩
/-- isinstance -/
theorem ev_isiI {c : String} (ha : EvD C ta σ H (.num i)) (e : kitB "int" c = some b) : EvD C (tCB (rIsi K) (tCons ta (tCons (tC (.ty c)) tNil))) σ H (.bl b) := fun H1 s Q q =>
  ha H1 s _ fun v H2 s2 t2 => by
    cases tp_num t2
    exact ⟨_, _, _, _, b, rfl, .ty c, .base (.int i), kit_ty e, q _ H2 s2 (.bl _)⟩
theorem ev_isiT {c : String} (ha : EvD C ta σ H (.tup ds)) (e : kitB "tuple" c = some b) : EvD C (tCB (rIsi K) (tCons ta (tCons (tC (.ty c)) tNil))) σ H (.bl b) := fun H1 s Q q =>
  ha H1 s _ fun v H2 s2 t2 => by
    obtain ⟨a, xs, rfl, hx, r⟩ := tp_tup t2
    exact ⟨_, _, _, _, b, rfl, .ty c, .base (.tup hx), kit_ty e, q _ H2 s2 (.bl _)⟩
theorem ev_isiII (ha : EvD C ta σ H (.num i)) : EvD C (tCB (rIsi K) (tCons ta (tCons (tC (.ty "int")) tNil))) σ H (.bl true) := ev_isiI ha (by decide +kernel)
theorem ev_isiIB (ha : EvD C ta σ H (.num i)) : EvD C (tCB (rIsi K) (tCons ta (tCons (tC (.ty "bool")) tNil))) σ H (.bl false) := ev_isiI ha (by decide +kernel)
theorem ev_isiTT (ha : EvD C ta σ H (.tup ds)) : EvD C (tCB (rIsi K) (tCons ta (tCons (tC (.ty "tuple")) tNil))) σ H (.bl true) := ev_isiT ha (by decide +kernel)
def rIsC (C : Addr) : List V → Hp → VK → Prop := fun xs H Q => ∃ a dx fs, xs = [.ref a, .ref C] ∧ H a = some (.ins C dx fs) ∧ Q (.bl true) H
theorem call_isH {X : Cx} (c : C8.InsC X.K C) : CallR X (.builtin "isinstance") (rIsC C) := C8.call_isC c
theorem ev_isH {r : Int} {ds : List Door} (ha : EvD C ta σ H (.hs r ds)) : EvD C (tCB (rIsC C) (tCons ta (tCons (tC (.ref C)) tNil))) σ H (.bl true) := fun H1 s Q q =>
  ha H1 s _ fun v H2 s2 t2 => by
    obtain ⟨a, dx, b, xs, rfl, hx, _⟩ := tp_hs t2
    exact ⟨a, dx, _, rfl, hx, q _ H2 s2 (.bl _)⟩
/-- all, any, sum of a list of data -/
theorem bools_of : ∀ {vs : List V} {bs : List Bool}, TpA C H vs (bs.map D.bl) → vs = bs.map V.bl
  | _, [], t => tpa_nil t
  | _, b :: bs, t => by
    obtain ⟨v, r, rfl, t1, t2⟩ := tpa_cons t
    cases tp_bl t1
    rw [bools_of t2]; rfl
theorem nums_of : ∀ {vs : List V} {ns : List Int}, TpA C H vs (ns.map D.num) → vs = ns.map V.int
  | _, [], t => tpa_nil t
  | _, b :: bs, t => by
    obtain ⟨v, r, rfl, t1, t2⟩ := tpa_cons t
    cases tp_num t1
    rw [nums_of t2]; rfl
theorem of_nums (C : Addr) (H : Hp) : ∀ ns : List Int, TpA C H (ns.map V.int) (ns.map D.num)
  | [] => .nil
  | n :: ns => .cons (.num n) (of_nums C H ns)
theorem ev_all {bs : List Bool} (ha : EvL C tl σ H ds) (e : ds = bs.map D.bl) : EvD C (tCB (rAll K) (tCons tl tNil)) σ H (.bl (bs.all id)) := fun H1 s Q q =>
  ha H1 s _ fun a vs H2 s2 _ h2 t => by
    rw [e] at t
    exact ⟨a, bs, rfl, by rw [← bools_of t]; exact .inl (.inl h2), q _ H2 s2 (.bl _)⟩
theorem ev_sum {ns : List Int} (ha : EvL C tl σ H ds) (e : ds = ns.map D.num) : EvD C (tCB (rSum K) (tCons tl tNil)) σ H (.num ns.sum) := fun H1 s Q q =>
  ha H1 s _ fun a vs H2 s2 _ h2 t => by
    rw [e] at t
    exact ⟨a, ns, rfl, by rw [← nums_of t]; exact .inl (.inl h2), q _ H2 s2 (.num _)⟩
/-- sum of a tuple of numbers | a list that stands: the list's value is known -/
theorem ev_sumAt {a : Addr} {ns : List Int} (ha : EvV tl σ H (.ref a)) (h : H a = some (.lst (ns.map V.int))) : EvD C (tCB (rSum K) (tCons tl tNil)) σ H (.num ns.sum) := fun H1 s Q q =>
  ha H1 s _ fun H2 s2 => ⟨a, ns, rfl, .inl (.inl (s2 _ _ (s _ _ h))), q _ H2 s2 (.num _)⟩
/-- tuple(xs) of a new list -/
def rTupOf (K : PySem.W.Frag) : List V → Hp → VK → Prop := fun xs H Q => ∃ p ys, xs = [.ref p] ∧ ((SqL K H p ys ∧ ∀ l, H l = none → Q (.ref l) (upd H l (.tup ys))) ∨ (SqT K H p ys ∧ Q (.ref p) H))
theorem ev_tupOf (ha : EvL C tl σ H ds) : EvD C (tCB (rTupOf K) (tCons tl tNil)) σ H (.tup ds) := fun H1 s Q q =>
  ha H1 s _ fun a vs H2 s2 _ h2 t => ⟨a, vs, rfl, .inl ⟨.inl (.inl h2), fun l hl => q _ _ (Same.newer s2 hl) (.tup upd_same (t.same (Same.new hl)))⟩⟩
/-- e, a datum that is a number at hand -/
theorem EvD.num_at {te : TE} {d e : D} (h : EvD C te σ H d) (x : d = e) : EvD C te σ H e := x ▸ h
end
/-- two texts of one statement: an if without an else whose body never runs -/
theorem st_no {tt : TT} {t rest : TS} {Ds : Ends} {σ : L2.St} {H : Hp} (h : EvT tt σ H false) (k : ∀ H2, Same H H2 → rest Ds σ H2) : tSeq (tIfS tt t tNext) rest Ds σ H := h H (Same.refl _) _ fun H2 s => iteF (k H2 s)
theorem st_no1 {tt : TT} {t : TS} {Ds : Ends} {σ : L2.St} {H : Hp} (h : EvT tt σ H false) (k : ∀ H2, Same H H2 → Ds.nx σ H2) : tIfS tt t tNext Ds σ H := h H (Same.refl _) _ fun H2 s => iteF (k H2 s)
theorem st_ret' {C : Addr} {te : TE} {Ds : Ends} {σ : L2.St} {H : Hp} {d d' : D} (h : EvD C te σ H d) (e : d = d') (k : ∀ v H2, Same H H2 → Tp C H2 v d' → Ds.rt v H2) : tRet te Ds σ H := st_ret h fun v H2 s t => k v H2 s (e ▸ t)
theorem st_retL' {C : Addr} {te : TE} {Ds : Ends} {σ : L2.St} {H : Hp} {d d' : List D} (h : EvL C te σ H d) (e : d = d') (k : ∀ a vs H2, Same H H2 → H a = none → H2 a = some (.lst vs) → TpA C H2 vs d' → Ds.rt (.ref a) H2) : tRet te Ds σ H := st_retL h fun a vs H2 s hn h2 t => k a vs H2 s hn h2 (e ▸ t)
end Y

set_option Elab.async false
set_option linter.all false
set_option maxRecDepth 100000
set_option maxHeartbeats 4000000
/-! A list that grows; items by written places; doors and steps as data. -/
namespace Y
open PySem PySem.Spec PyProof.Rows L2
section
variable {C : Addr} {K : PySem.W.Frag} {ta tb : TE} {σ : L2.St} {H H0 H1 H' H2 : Hp} {p : Addr} {vs : List V} {ds : List D} {d : D} {v : V} {i : Int}
/-- the list at p has grown to ds, all else stands as in H1 -/
def Gr (C p : Addr) (H1 H' : Hp) (vs : List V) (ds : List D) : Prop := But p H1 H' ∧ H' p = some (.lst vs) ∧ TpA C H' vs ds
theorem Gr.new (h : H p = none) : Gr C p (upd H p (.lst [])) (upd H p (.lst [])) [] [] := ⟨But.refl _ _, upd_same, .nil⟩
theorem Gr.start (h : H1 p = some (.lst vs)) (t : TpA C H1 vs ds) : Gr C p H1 H1 vs ds := ⟨But.refl _ _, h, t⟩
theorem Gr.app (g : Gr C p H1 H' vs ds) (s : Same H' H2) (t : Tp C H2 v d) : Gr C p H1 (upd H2 p (.lst (vs ++ [v]))) (vs ++ [v]) (ds ++ [d]) := by
  obtain ⟨b, e, r⟩ := g
  have st : Stay H2 (upd H2 p (.lst (vs ++ [v]))) := But.stay (p := p) but_up (notImm_lst (s _ _ e))
  exact ⟨but_set (But.trans b (Same.but s)), upd_same, ((r.same s).stay st).append (.cons (t.stay st) .nil)⟩
theorem Gr.stay {l : List V} (g : Gr C p H1 H' vs ds) (h1 : H1 p = some (.lst l)) : Stay H1 H' := But.stay g.1 (notImm_lst h1)
theorem Gr.same (g : Gr C p H1 H' vs ds) (s : Same H' H2) : Gr C p H1 H2 vs ds := ⟨But.trans g.1 (Same.but s), s _ _ g.2.1, g.2.2.same s⟩
theorem Gr.len (g : Gr C p H1 H' vs ds) : vs.length = ds.length := g.2.2.length
/-- seen from ahead of the list's making -/
theorem Gr.back (g : Gr C p H1 H' vs ds) (s : Same H H1) (n : H p = none) : Same H H' := fun b o e => g.1 b o (ne_of_none e n) (s b o e)
theorem Gr.re (g : Gr C p H1 H' vs ds) (b : But p H0 H1) : Gr C p H0 H' vs ds := ⟨But.trans b g.1, g.2⟩
/-- what loops ask: the tuples stay, and all but p -/
theorem Gr.keeps {l : List V} {Fk : List Addr} (g : Gr C p H1 H' vs ds) (h1 : H1 p = some (.lst l)) (hp : H p ≠ none) (hf : p ∉ Fk) : Stay H1 H' ∧ ∀ b o, (H b = none ∨ b ∈ Fk) → H1 b = some o → H' b = some o :=
  ⟨g.stay h1, fun b o hb e => g.1 b o (fun z => by subst z; rcases hb with hb | hb; exact hp hb; exact hf hb) e⟩
theorem ev_ixi {n : Nat} (ha : EvD C ta σ H (.tup ds)) (hb : EvD C tb σ H (.num i)) (e : i = (n : Int)) (hd : ds[n]? = some d) : EvD C (tOp (rIxT K) ta tb) σ H d := ev_ixT (n := n) ha (e ▸ hb) hd
theorem ev_ix0 (ha : EvD C ta σ H (.tup ds)) (hb : EvD C tb σ H (.num 0)) (hd : ds[0]? = some d) : EvD C (tOp (rIxT K) ta tb) σ H d := ev_ixi (n := 0) ha hb rfl hd
theorem ev_ix1 (ha : EvD C ta σ H (.tup ds)) (hb : EvD C tb σ H (.num 1)) (hd : ds[1]? = some d) : EvD C (tOp (rIxT K) ta tb) σ H d := ev_ixi (n := 1) ha hb rfl hd
theorem ev_ix2 (ha : EvD C ta σ H (.tup ds)) (hb : EvD C tb σ H (.num 2)) (hd : ds[2]? = some d) : EvD C (tOp (rIxT K) ta tb) σ H d := ev_ixi (n := 2) ha hb rfl hd
theorem ev_ix3 (ha : EvD C ta σ H (.tup ds)) (hb : EvD C tb σ H (.num 3)) (hd : ds[3]? = some d) : EvD C (tOp (rIxT K) ta tb) σ H d := ev_ixi (n := 3) ha hb rfl hd
end
theorem rng_item {n i : Nat} {d : D} (h : ((List.range n).map fun k => D.num ((k : Nat) : Int))[i]? = some d) : i < n ∧ d = .num (i : Int) := by
  rw [List.getElem?_map] at h
  obtain ⟨k, hk, rfl⟩ := Option.map_eq_some_iff.mp h
  obtain ⟨h1, h2⟩ := List.getElem?_eq_some_iff.mp hk
  rw [List.length_range] at h1
  rw [List.getElem_range] at h2
  subst h2; exact ⟨h1, rfl⟩
theorem rng_item2 {lo : Int} {n i : Nat} {d : D} (h : ((List.range n).map fun k => D.num (lo + ((k : Nat) : Int)))[i]? = some d) : i < n ∧ d = .num (lo + (i : Int)) := by
  rw [List.getElem?_map] at h
  obtain ⟨k, hk, rfl⟩ := Option.map_eq_some_iff.mp h
  obtain ⟨h1, h2⟩ := List.getElem?_eq_some_iff.mp hk
  rw [List.length_range] at h1
  rw [List.getElem_range] at h2
  subst h2; exact ⟨h1, rfl⟩
theorem map_item {α : Type} {f : α → D} {l : List α} {i : Nat} {d : D} (h : (l.map f)[i]? = some d) : ∃ x, l[i]? = some x ∧ d = f x := by
  rw [List.getElem?_map] at h
  obtain ⟨k, hk, rfl⟩ := Option.map_eq_some_iff.mp h
  exact ⟨k, hk, rfl⟩
/-- a pass as a datum -/
def stepD (s : Nat × Nat) : D := .tup [.num (s.1 : Int), .num (s.2 : Int)]
def lastD : Option (Nat × Nat) → D
  | none => .non
  | some s => stepD s
theorem isNon_last (l : Option (Nat × Nat)) : isNon (lastD l) = l.isNone := by cases l <;> rfl
theorem eqv_step (a b : Nat × Nat) : PyData.eqv (py (stepD a)) (py (stepD b)) = decide (a = b) := by
  obtain ⟨a1, a2⟩ := a
  obtain ⟨b1, b2⟩ := b
  simp only [stepD, py, pyA]
  have h : PyData.eqv (.tuple [.int a1, .int a2]) (.tuple [.int b1, .int b2]) = (((a1 : Int) == (b1 : Int)) && (((a2 : Int) == (b2 : Int)) && true)) := rfl
  rw [h]
  have e1 : ((a1 : Int) = (b1 : Int)) ↔ a1 = b1 := Int.ofNat_inj
  have e2 : ((a2 : Int) = (b2 : Int)) ↔ a2 = b2 := Int.ofNat_inj
  by_cases h1 : a1 = b1 <;> by_cases h2 : a2 = b2 <;> simp [h1, h2, e1, e2]
theorem small_len {n m : Nat} (h : n ≤ m) (hm : m ≤ 16777216) : n ≤ sizeLine := by rw [sizeLine_eq]; omega
theorem small_lt {n m : Nat} (h : n < m) (hm : m ≤ 16777216) : n < sizeLine := by rw [sizeLine_eq]; omega
end Y

/-! Sums over lists, assoc lists with sums: plain mathematics. -/
namespace MS
/-- the sum of f over a list -/
def ls {α : Type} (l : List α) (f : α → Int) : Int := (l.map f).sum
section
variable {α β : Type}
@[simp] theorem ls_nil (f : α → Int) : ls [] f = 0 := rfl
@[simp] theorem ls_cons (a : α) (l : List α) (f : α → Int) : ls (a :: l) f = f a + ls l f := by simp [ls]
@[simp] theorem ls_append (l r : List α) (f : α → Int) : ls (l ++ r) f = ls l f + ls r f := by simp [ls, List.sum_append]
theorem ls_congr {l : List α} {f g : α → Int} (h : ∀ a ∈ l, f a = g a) : ls l f = ls l g := by
  unfold ls; rw [List.map_congr_left h]
theorem ls_add (l : List α) (f g : α → Int) : ls l (fun a => f a + g a) = ls l f + ls l g := by
  induction l with
  | nil => rfl
  | cons a l ih => simp only [ls_cons, ih]; omega
theorem ls_sub (l : List α) (f g : α → Int) : ls l (fun a => f a - g a) = ls l f - ls l g := by
  induction l with
  | nil => rfl
  | cons a l ih => simp only [ls_cons, ih]; omega
theorem ls_mul (l : List α) (c : Int) (f : α → Int) : ls l (fun a => c * f a) = c * ls l f := by
  induction l with
  | nil => simp
  | cons a l ih => simp only [ls_cons, ih, Int.mul_add]
theorem ls_mulr (l : List α) (c : Int) (f : α → Int) : ls l (fun a => f a * c) = ls l f * c := by
  induction l with
  | nil => simp
  | cons a l ih => simp only [ls_cons, ih, Int.add_mul]
theorem ls_zero (l : List α) : ls l (fun _ => 0) = 0 := by
  induction l with
  | nil => rfl
  | cons a l ih => simp only [ls_cons, ih]; rfl
theorem ls_zero' {l : List α} {f : α → Int} (h : ∀ a ∈ l, f a = 0) : ls l f = 0 := by rw [ls_congr h, ls_zero]
theorem ls_flatMap (l : List α) (h : α → List β) (f : β → Int) : ls (l.flatMap h) f = ls l fun a => ls (h a) f := by
  induction l with
  | nil => rfl
  | cons a l ih => simp only [List.flatMap_cons, ls_append, ls_cons, ih]
theorem ls_map (l : List α) (h : α → β) (f : β → Int) : ls (l.map h) f = ls l fun a => f (h a) := by
  simp [ls, List.map_map, Function.comp_def]
theorem ls_swap (l : List α) (m : List β) (f : α → β → Int) : ls l (fun a => ls m (f a)) = ls m fun b => ls l fun a => f a b := by
  induction l with
  | nil => simp [ls_zero]
  | cons a l ih => simp only [ls_cons, ih, ls_add]
theorem ls_filter (l : List α) (p : α → Bool) (f : α → Int) : ls (l.filter p) f = ls l fun a => if p a then f a else 0 := by
  induction l with
  | nil => rfl
  | cons a l ih =>
    by_cases h : p a = true
    · simp [h, ih]
    · simp [h, ih]
theorem ls_le {l : List α} {f g : α → Int} (h : ∀ a ∈ l, f a ≤ g a) : ls l f ≤ ls l g := by
  induction l with
  | nil => simp
  | cons a l ih =>
    have := h a (by simp)
    have := ih fun b hb => h b (by simp [hb])
    simp only [ls_cons]; omega
theorem ls_nonneg {l : List α} {f : α → Int} (h : ∀ a ∈ l, 0 ≤ f a) : 0 ≤ ls l f := by
  have := ls_le (f := fun _ => 0) h
  rw [ls_zero] at this; exact this
/-- one of a list without doubles -/
theorem ls_one [DecidableEq α] {l : List α} (hn : l.Nodup) (a : α) (c : Int) : ls l (fun b => if b = a then c else 0) = if a ∈ l then c else 0 := by
  induction l with
  | nil => simp
  | cons b l ih =>
    rw [List.nodup_cons] at hn
    rw [ls_cons, ih hn.2]
    by_cases h : b = a
    · subst h
      simp [hn.1]
    · have : ¬ a = b := fun e => h e.symm
      simp [h, this]
/-- if f ≤ g everywhere and the sums are equal, then f = g everywhere -/
theorem ls_eq_of_le {l : List α} {f g : α → Int} (h : ∀ a ∈ l, f a ≤ g a) (e : ls l f = ls l g) : ∀ a ∈ l, f a = g a := by
  induction l with
  | nil => simp
  | cons b l ih =>
    have h1 := h b (by simp)
    have h2 := ls_le (l := l) (f := f) (g := g) fun c hc => h c (by simp [hc])
    simp only [ls_cons] at e
    intro a ha
    rcases List.mem_cons.mp ha with rfl | ha
    · omega
    · exact ih (fun c hc => h c (by simp [hc])) (by omega) a ha
end

/-! ### assoc lists -/
section
variable {κ : Type} [DecidableEq κ]
def look (m : List (κ × Int)) (k : κ) : Option Int := (m.find? fun p => decide (p.1 = k)).map (·.2)
def put (m : List (κ × Int)) (k : κ) (v : Int) : List (κ × Int) :=
  if m.any (fun p => decide (p.1 = k)) then m.map (fun p => if p.1 = k then (p.1, v) else p) else m ++ [(k, v)]
def add (m : List (κ × Int)) (k : κ) (n : Int) : List (κ × Int) := if 0 < n then put m k ((look m k).getD 0 + n) else m
def adds (m : List (κ × Int)) (is : List (κ × Int)) : List (κ × Int) := is.foldl (fun m p => add m p.1 p.2) m
def ws (g : κ → Int) (m : List (κ × Int)) : Int := ls m fun p => p.2 * g p.1
def Nd (m : List (κ × Int)) : Prop := (m.map (·.1)).Nodup
def Pos (m : List (κ × Int)) : Prop := ∀ p ∈ m, 0 < p.2

theorem look_none {m : List (κ × Int)} {k : κ} (h : look m k = none) : ∀ p ∈ m, p.1 ≠ k := by
  intro p hp e
  unfold look at h
  rw [Option.map_eq_none_iff, List.find?_eq_none] at h
  exact h p hp (by simp [e])
theorem look_some {m : List (κ × Int)} {k : κ} {v : Int} (h : look m k = some v) : (k, v) ∈ m := by
  unfold look at h
  obtain ⟨p, h1, h2⟩ := Option.map_eq_some_iff.mp h
  have := List.find?_some h1
  have e : p.1 = k := by simpa using this
  have hm := List.mem_of_find?_eq_some h1
  rw [← e, ← h2]; exact hm
theorem any_iff {m : List (κ × Int)} {k : κ} : m.any (fun p => decide (p.1 = k)) = true ↔ k ∈ m.map (·.1) := by
  simp
theorem keys_put (m : List (κ × Int)) (k : κ) (v : Int) : (put m k v).map (·.1) = if k ∈ m.map (·.1) then m.map (·.1) else m.map (·.1) ++ [k] := by
  unfold put
  by_cases h : k ∈ m.map (·.1)
  · rw [if_pos (any_iff.mpr h), if_pos h, List.map_map]
    apply List.map_congr_left
    intro p _
    by_cases e : p.1 = k <;> simp [e]
  · rw [if_neg (fun q => h (any_iff.mp q)), if_neg h]; simp
theorem nd_put {m : List (κ × Int)} (h : Nd m) (k : κ) (v : Int) : Nd (put m k v) := by
  unfold Nd
  rw [keys_put]
  split
  · exact h
  · rename_i hk
    rw [List.nodup_append]
    refine ⟨h, by simp, ?_⟩
    intro a ha b hb
    simp at hb
    subst hb
    intro e; subst e; exact hk ha
theorem nd_add {m : List (κ × Int)} (h : Nd m) (k : κ) (n : Int) : Nd (add m k n) := by
  unfold add; split
  · exact nd_put h _ _
  · exact h
theorem nd_adds (is : List (κ × Int)) : ∀ {m : List (κ × Int)}, Nd m → Nd (adds m is) := by
  induction is with
  | nil => intro m h; exact h
  | cons p is ih => intro m h; exact ih (nd_add h _ _)
theorem mem_put {m : List (κ × Int)} {k : κ} {v : Int} {p : κ × Int} (h : p ∈ put m k v) : p = (k, v) ∨ p ∈ m := by
  unfold put at h
  split at h
  · obtain ⟨q, hq, rfl⟩ := List.mem_map.mp h
    by_cases e : q.1 = k
    · rw [if_pos e, e]; exact .inl rfl
    · rw [if_neg e]; exact .inr hq
  · rcases List.mem_append.mp h with h | h
    · exact .inr h
    · exact .inl (by simpa using h)
theorem pos_add {m : List (κ × Int)} (h : Pos m) (k : κ) (n : Int) : Pos (add m k n) := by
  unfold add
  split
  · rename_i hn
    intro p hp
    rcases mem_put hp with rfl | hp
    · show 0 < (look m k).getD 0 + n
      cases e : look m k with
      | none => simpa using hn
      | some v =>
        have := h _ (look_some e)
        simp only [Option.getD_some]
        have : (0:Int) < v := this
        omega
    · exact h p hp
  · exact h
theorem pos_adds (is : List (κ × Int)) : ∀ {m : List (κ × Int)}, Pos m → Pos (adds m is) := by
  induction is with
  | nil => intro m h; exact h
  | cons p is ih => intro m h; exact ih (pos_add h _ _)
/-- a property of all keys -/
theorem key_put {P : κ → Prop} {m : List (κ × Int)} (h : ∀ p ∈ m, P p.1) {k : κ} (hk : P k) (v : Int) : ∀ p ∈ put m k v, P p.1 := by
  intro p hp
  rcases mem_put hp with rfl | hp
  · exact hk
  · exact h p hp
theorem key_adds {P : κ → Prop} (is : List (κ × Int)) (hi : ∀ p ∈ is, P p.1) : ∀ {m : List (κ × Int)}, (∀ p ∈ m, P p.1) → ∀ p ∈ adds m is, P p.1 := by
  induction is with
  | nil => intro m h; exact h
  | cons q is ih =>
    intro m h
    refine ih (fun p hp => hi p (by simp [hp])) ?_
    show ∀ p ∈ add m q.1 q.2, P p.1
    unfold add
    split
    · exact key_put h (hi q (by simp)) _
    · exact h
theorem ws_map_old {m : List (κ × Int)} (g : κ → Int) (k : κ) (n : Int) (hn : Nd m) {v : Int} (hk : (k, v) ∈ m) :
    ws g (m.map fun p => if p.1 = k then (p.1, v + n) else p) = ws g m + n * g k := by
  induction m with
  | nil => simp at hk
  | cons q m ih =>
    have hn' : q.1 ∉ m.map (·.1) ∧ Nd m := by
      have : (q.1 :: m.map (·.1)).Nodup := hn
      rw [List.nodup_cons] at this
      exact this
    rw [List.map_cons]
    unfold ws at ih ⊢
    rw [ls_cons, ls_cons]
    by_cases e : q.1 = k
    · have hkm : ∀ w, (k, w) ∉ m := fun w hw => hn'.1 (List.mem_map.mpr ⟨(k, w), hw, e.symm⟩)
      have hq : (k, v) = q := by
        rcases List.mem_cons.mp hk with h | h
        · exact h
        · exact absurd h (hkm v)
      have hm : (m.map fun p => if p.1 = k then (p.1, v + n) else p) = m := by
        conv => rhs; rw [← List.map_id m]
        apply List.map_congr_left
        intro p hp
        have : ¬ p.1 = k := fun z => hkm p.2 (by rw [← z]; exact hp)
        rw [if_neg this]; rfl
      rw [hm, if_pos e, ← hq]
      show (v + n) * g k + _ = v * g k + _ + n * g k
      rw [Int.add_mul]; omega
    · rcases List.mem_cons.mp hk with h | h
      · exact absurd (by rw [← h]) e
      · rw [ih hn'.2 h, if_neg e]; omega
theorem ws_add (g : κ → Int) {m : List (κ × Int)} (hn : Nd m) (k : κ) {n : Int} (h0 : 0 ≤ n) : ws g (add m k n) = ws g m + n * g k := by
  unfold add
  split
  · unfold put
    cases e : look m k with
    | none =>
      have hk : ¬ m.any (fun p => decide (p.1 = k)) = true := by
        rw [any_iff]
        intro q
        obtain ⟨p, hp, e2⟩ := List.mem_map.mp q
        exact look_none e p hp e2
      rw [if_neg hk]
      simp [ws]
    | some v =>
      have hm := look_some e
      rw [if_pos (any_iff.mpr (List.mem_map.mpr ⟨_, hm, rfl⟩))]
      simp only [Option.getD_some]
      exact ws_map_old g k n hn hm
  · have : n = 0 := by omega
    subst this; simp
theorem ws_adds (g : κ → Int) (is : List (κ × Int)) (hi : ∀ p ∈ is, 0 ≤ p.2) : ∀ {m : List (κ × Int)}, Nd m → ws g (adds m is) = ws g m + ls is fun p => p.2 * g p.1 := by
  induction is with
  | nil => intro m _; simp [adds]
  | cons q is ih =>
    intro m hn
    show ws g (adds (add m q.1 q.2) is) = _
    rw [ih (fun p hp => hi p (by simp [hp])) (nd_add hn _ _), ws_add g hn _ (hi q (by simp)), ls_cons]
    omega
theorem adds_append (m : List (κ × Int)) (a b : List (κ × Int)) : adds m (a ++ b) = adds (adds m a) b := by
  unfold adds; rw [List.foldl_append]
theorem len_put (m : List (κ × Int)) (k : κ) (v : Int) : (put m k v).length ≤ m.length + 1 := by
  unfold put; split <;> simp
theorem len_add (m : List (κ × Int)) (k : κ) (n : Int) : (add m k n).length ≤ m.length + 1 := by
  unfold add; split
  · exact len_put _ _ _
  · omega
theorem len_adds (is : List (κ × Int)) : ∀ m : List (κ × Int), (adds m is).length ≤ m.length + is.length := by
  induction is with
  | nil => intro m; simp [adds]
  | cons p is ih =>
    intro m
    have h1 := ih (add m p.1 p.2)
    have h2 := len_add m p.1 p.2
    show (adds (add m p.1 p.2) is).length ≤ _
    rw [List.length_cons]; omega
end
end MS

/-! Feet counted by still pulls and by classes: plain mathematics. -/
namespace MF
open MS
abbrev Door := Int × Int × Int × Int
abbrev Step := Nat × Nat
def gate (ds : List Door) (s : Step) : Door :=
  match ds.getD s.1 (0, 1, 0, 1) with
  | (n, f, r, g) => if s.2 = 0 then (n, f, r, g) else (r, g, n, f)
abbrev near (ds : List Door) (s : Step) : Int := (gate ds s).1
abbrev lv (ds : List Door) (s : Step) : Int := (gate ds s).2.1
abbrev far (ds : List Door) (s : Step) : Int := (gate ds s).2.2.1
abbrev ar (ds : List Door) (s : Step) : Int := (gate ds s).2.2.2
def turn (s : Step) : Step := (s.1, 1 - s.2)
def allSteps (ds : List Door) : List Step := (List.range ds.length).flatMap fun a => [(a, 0), (a, 1)]
def stepsOf (ds : List Door) (room : Int) : List Step := (allSteps ds).filter fun s => decide (near ds s = room)
def least (last : Option Step) (s : Step) : Int :=
  match last with
  | none => 0
  | some l => if s = turn l then 1 else 0
def beyond (ds : List Door) (room : Int) (last : Option Step) : List (Step × Int) := (stepsOf ds room).map fun s => (s, least last s)

structure Ok (rooms : Int) (ds : List Door) : Prop where
  pos : 1 ≤ rooms
  nn : ∀ d ∈ ds, d.2.1 ≠ 0 ∧ d.2.2.2 ≠ 0
  rm : ∀ d ∈ ds, 0 ≤ d.1 ∧ d.1 < rooms ∧ 0 ≤ d.2.2.1 ∧ d.2.2.1 < rooms

theorem mem_all {ds : List Door} {s : Step} : s ∈ allSteps ds ↔ s.1 < ds.length ∧ s.2 ≤ 1 := by
  unfold allSteps
  rw [List.mem_flatMap]
  constructor
  · rintro ⟨a, ha, hs⟩
    rw [List.mem_range] at ha
    simp at hs
    rcases hs with rfl | rfl <;> simp [ha]
  · rintro ⟨h1, h2⟩
    refine ⟨s.1, List.mem_range.mpr h1, ?_⟩
    have : s.2 = 0 ∨ s.2 = 1 := by omega
    obtain ⟨a, b⟩ := s
    rcases this with h | h <;> simp at h <;> subst h <;> simp
theorem nodup_all (ds : List Door) : (allSteps ds).Nodup := by
  unfold allSteps
  generalize ds.length = n
  induction n with
  | zero => simp
  | succ n ih =>
    rw [List.range_succ, List.flatMap_append, List.nodup_append]
    refine ⟨ih, by simp, ?_⟩
    intro a ha b hb e
    subst e
    rw [List.mem_flatMap] at ha
    obtain ⟨c, hc, h⟩ := ha
    rw [List.mem_range] at hc
    simp at h hb
    rcases h with rfl | rfl <;> simp at hb <;> omega
theorem turn_turn {s : Step} (h : s.2 ≤ 1) : turn (turn s) = s := by
  obtain ⟨a, b⟩ := s
  simp only [turn] at h ⊢
  have : 1 - (1 - b) = b := by omega
  rw [this]
theorem turn_mem {ds : List Door} {s : Step} (h : s ∈ allSteps ds) : turn s ∈ allSteps ds := by
  rw [mem_all] at h ⊢
  exact ⟨h.1, by simp [turn]⟩
theorem gate_turn {ds : List Door} {s : Step} (h : s.2 ≤ 1) : gate ds (turn s) = (far ds s, ar ds s, near ds s, lv ds s) := by
  obtain ⟨a, b⟩ := s
  have : b = 0 ∨ b = 1 := by simp at h; omega
  rcases this with rfl | rfl <;> simp [gate, turn, far, ar, near, lv]
theorem gate_door {ds : List Door} {s : Step} (h : s ∈ allSteps ds) : ∃ d ∈ ds, gate ds s = d ∨ gate ds s = (d.2.2.1, d.2.2.2, d.1, d.2.1) := by
  rw [mem_all] at h
  refine ⟨ds[s.1], List.getElem_mem _, ?_⟩
  have e : ds.getD s.1 (0, 1, 0, 1) = ds[s.1] := by simp [List.getD, h.1]
  unfold gate
  rw [e]
  by_cases h0 : s.2 = 0
  · left; simp [h0]
  · right; simp [h0]
theorem lv_ne {rooms : Int} {ds : List Door} (ok : Ok rooms ds) {s : Step} (h : s ∈ allSteps ds) : lv ds s ≠ 0 := by
  obtain ⟨d, hd, e | e⟩ := gate_door h
  · unfold lv; rw [e]; exact (ok.nn d hd).1
  · unfold lv; rw [e]; exact (ok.nn d hd).2
theorem ar_ne {rooms : Int} {ds : List Door} (ok : Ok rooms ds) {s : Step} (h : s ∈ allSteps ds) : ar ds s ≠ 0 := by
  obtain ⟨d, hd, e | e⟩ := gate_door h
  · unfold ar; rw [e]; exact (ok.nn d hd).2
  · unfold ar; rw [e]; exact (ok.nn d hd).1
theorem far_room {rooms : Int} {ds : List Door} (ok : Ok rooms ds) {s : Step} (h : s ∈ allSteps ds) : 0 ≤ far ds s ∧ far ds s < rooms := by
  obtain ⟨d, hd, e | e⟩ := gate_door h
  · unfold far; rw [e]; exact ⟨(ok.rm d hd).2.2.1, (ok.rm d hd).2.2.2⟩
  · unfold far; rw [e]; exact ⟨(ok.rm d hd).1, (ok.rm d hd).2.1⟩
theorem near_room {rooms : Int} {ds : List Door} (ok : Ok rooms ds) {s : Step} (h : s ∈ allSteps ds) : 0 ≤ near ds s ∧ near ds s < rooms := by
  obtain ⟨d, hd, e | e⟩ := gate_door h
  · unfold near; rw [e]; exact ⟨(ok.rm d hd).1, (ok.rm d hd).2.1⟩
  · unfold near; rw [e]; exact ⟨(ok.rm d hd).2.2.1, (ok.rm d hd).2.2.2⟩
theorem mem_stepsOf {ds : List Door} {room : Int} {s : Step} : s ∈ stepsOf ds room ↔ s ∈ allSteps ds ∧ near ds s = room := by
  unfold stepsOf; rw [List.mem_filter]; simp
theorem least_01 (last : Option Step) (s : Step) : least last s = 0 ∨ least last s = 1 := by
  unfold least
  cases last with
  | none => exact .inl rfl
  | some l => simp only; split <;> simp

/-! ### still feet -/
abbrev SKey := Int × Int × Option Step
def aux (b : Int) : Int := (b.natAbs : Int)
theorem aux_nn (b : Int) : 0 ≤ aux b := by unfold aux; omega
theorem aux_pos {b : Int} (h : b ≠ 0) : 1 ≤ aux b := by unfold aux; omega
def stillInc (ds : List Door) (k : SKey) (many : Int) : List (SKey × Int) :=
  (beyond ds k.1 k.2.2).flatMap fun q => if k.2.1.fmod (lv ds q.1) = 0 then [((far ds q.1, k.2.1.fdiv (lv ds q.1) * ar ds q.1, some q.1), many * (aux (lv ds q.1) - q.2))] else []
def stillOn (ds : List Door) (m : List (SKey × Int)) : List (SKey × Int) := adds [] (m.flatMap fun p => stillInc ds p.1 p.2)
def stillN (ds : List Door) : Nat → List (SKey × Int) → List (SKey × Int)
  | 0, m => m
  | n + 1, m => stillOn ds (stillN ds n m)
def still (ds : List Door) (room pulls : Int) (length : Nat) : Int := ls (stillN ds length [((room, pulls, none), 1)]) fun p => p.2
/-- what one state gives with a weight -/
def stT (ds : List Door) (g : SKey → Int) (k : SKey) : Int :=
  ls (stepsOf ds k.1) fun s => if lv ds s ∣ k.2.1 then (aux (lv ds s) - least k.2.2 s) * g (far ds s, k.2.1.fdiv (lv ds s) * ar ds s, some s) else 0
theorem fmod_zero {a b : Int} : a.fmod b = 0 ↔ b ∣ a := by
  rw [Int.dvd_iff_fmod_eq_zero]
theorem stillInc_sum (ds : List Door) (g : SKey → Int) (k : SKey) (many : Int) : (ls (stillInc ds k many) fun p => p.2 * g p.1) = many * stT ds g k := by
  unfold stillInc beyond stT
  rw [ls_flatMap, ls_map, ← ls_mul]
  apply ls_congr
  intro s _
  by_cases h : lv ds s ∣ k.2.1
  · simp only [fmod_zero, h, if_true, ls_cons, ls_nil]
    simp [Int.mul_assoc]
  · simp only [fmod_zero, h, if_false, ls_nil]
    simp
theorem stillInc_nn {rooms : Int} {ds : List Door} (ok : Ok rooms ds) (k : SKey) {many : Int} (hm : 0 ≤ many) : ∀ p ∈ stillInc ds k many, 0 ≤ p.2 := by
  intro p hp
  unfold stillInc beyond at hp
  rw [List.mem_flatMap] at hp
  obtain ⟨q, hq, hp⟩ := hp
  obtain ⟨s, hs, rfl⟩ := List.mem_map.mp hq
  split at hp
  · simp only [List.mem_singleton] at hp
    subst hp
    have := aux_pos (lv_ne ok (mem_stepsOf.mp hs).1)
    refine Int.mul_nonneg hm ?_
    rcases least_01 k.2.2 s with h | h <;> rw [h] <;> omega
  · simp at hp
theorem nd_stillOn (ds : List Door) (m : List (SKey × Int)) : Nd (stillOn ds m) := nd_adds _ (by simp [Nd])
theorem pos_stillOn (ds : List Door) (m : List (SKey × Int)) : Pos (stillOn ds m) := pos_adds _ (by intro p hp; simp at hp)
theorem ws_stillOn {rooms : Int} {ds : List Door} (ok : Ok rooms ds) (g : SKey → Int) {m : List (SKey × Int)} (hp : Pos m) : ws g (stillOn ds m) = ws (stT ds g) m := by
  unfold stillOn
  rw [ws_adds g _ ?_ (by simp [Nd])]
  · rw [ls_flatMap]
    unfold ws
    rw [ls_nil, Int.zero_add]
    apply ls_congr
    intro p _
    exact stillInc_sum ds g p.1 p.2
  · intro p h
    obtain ⟨q, hq, h⟩ := List.mem_flatMap.mp h
    exact stillInc_nn ok q.1 (by have := hp q hq; omega) p h
theorem pos_stillN {ds : List Door} {m : List (SKey × Int)} (hp : Pos m) : ∀ n, Pos (stillN ds n m)
  | 0 => hp
  | n + 1 => pos_stillOn ds _
/-- the number of still feet behind a state -/
def SF (ds : List Door) : Nat → SKey → Int
  | 0, _ => 1
  | r + 1, k => stT ds (SF ds r) k
theorem ws_stillN {rooms : Int} {ds : List Door} (ok : Ok rooms ds) {m : List (SKey × Int)} (hp : Pos m) : ∀ (n r : Nat), ws (SF ds r) (stillN ds n m) = ws (SF ds (r + n)) m
  | 0, _ => rfl
  | n + 1, r => by
    show ws (SF ds r) (stillOn ds (stillN ds n m)) = _
    rw [ws_stillOn ok _ (pos_stillN hp n)]
    have := ws_stillN ok hp n (r + 1)
    rw [show r + (n + 1) = r + 1 + n by omega, ← this]
    rfl
theorem pos_one (k : SKey) : Pos [(k, (1 : Int))] := by intro p hp; simp at hp; subst hp; exact Int.one_pos
theorem still_eq {rooms : Int} {ds : List Door} (ok : Ok rooms ds) (room pulls : Int) (n : Nat) : still ds room pulls n = SF ds n (room, pulls, none) := by
  have h := ws_stillN ok (pos_one (room, pulls, none)) n 0
  have e : ws (SF ds 0) (stillN ds n [((room, pulls, none), 1)]) = still ds room pulls n := by
    unfold ws still
    apply ls_congr
    intro p _
    show p.2 * 1 = p.2
    omega
  rw [← e, h]
  simp [ws]
/-- pulls back leave as many -/
theorem fdiv_of_dvd {a b : Int} (hb : b ≠ 0) (h : b ∣ a) : ∃ c, a = b * c ∧ a.fdiv b = c := by
  obtain ⟨c, rfl⟩ := h
  exact ⟨c, rfl, Int.mul_fdiv_cancel_left c hb⟩
theorem SF_neg {rooms : Int} {ds : List Door} (ok : Ok rooms ds) : ∀ (r : Nat) (room x : Int) (last : Option Step), SF ds r (room, -x, last) = SF ds r (room, x, last)
  | 0, _, _, _ => rfl
  | r + 1, room, x, last => by
    show stT ds (SF ds r) (room, -x, last) = stT ds (SF ds r) (room, x, last)
    unfold stT
    apply ls_congr
    intro s hs
    have hl := lv_ne ok (mem_stepsOf.mp hs).1
    simp only [Int.dvd_neg]
    by_cases h : lv ds s ∣ x
    · rw [if_pos h, if_pos h]
      obtain ⟨c, e, e1⟩ := fdiv_of_dvd hl h
      obtain ⟨c', e', e1'⟩ := fdiv_of_dvd hl ((Int.dvd_neg).mpr h)
      have hc : c' = -c := by
        have : lv ds s * c' = lv ds s * (-c) := by rw [← e', e, Int.mul_neg]
        exact Int.eq_of_mul_eq_mul_left hl this
      rw [e1, e1', hc, show -c * ar ds s = -(c * ar ds s) by rw [Int.neg_mul], SF_neg ok r]
    · rw [if_neg h, if_neg h]
theorem SF_abs {rooms : Int} {ds : List Door} (ok : Ok rooms ds) (r : Nat) (room : Int) {x y : Int} (last : Option Step) (h : x.natAbs = y.natAbs) : SF ds r (room, x, last) = SF ds r (room, y, last) := by
  have : x = y ∨ x = -y := by omega
  rcases this with rfl | rfl
  · rfl
  · exact SF_neg ok r room y last

/-! ### classes -/
abbrev CKey := Int × Int × Int × Option Step
def gcdI (a b : Int) : Int := ((Nat.gcd a.natAbs b.natAbs : Nat) : Int)
def clInc (ds : List Door) (k : CKey) (many : Int) : List (CKey × Int) :=
  (beyond ds k.1 k.2.2.2).map fun q =>
    let shared := gcdI k.2.1 (lv ds q.1)
    let whole := k.2.1.fdiv shared * aux (lv ds q.1)
    ((far ds q.1, whole.fdiv (aux (lv ds q.1)) * aux (ar ds q.1), (k.2.2.1 * whole).fdiv k.2.1, some q.1), many * (shared - q.2))
def clOn (ds : List Door) (m : List (CKey × Int)) : List (CKey × Int) := adds [] (m.flatMap fun p => clInc ds p.1 p.2)
def clN (ds : List Door) : Nat → List (CKey × Int) → List (CKey × Int)
  | 0, m => m
  | n + 1, m => clOn ds (clN ds n m)
/-- what holds of a class -/
def KOk (ds : List Door) (k : CKey) : Prop := 0 < k.2.1 ∧ 0 < k.2.2.1 ∧ ∀ l, k.2.2.2 = some l → l ∈ allSteps ds ∧ ar ds l ∣ k.2.1
/-- the next class over a step: pulls that stay p, these in the first room f -/
def nxP (ds : List Door) (p : Int) (s : Step) : Int := p / gcdI p (lv ds s) * aux (ar ds s)
def nxF (ds : List Door) (p f : Int) (s : Step) : Int := f * (aux (lv ds s) / gcdI p (lv ds s))
theorem gcdI_pos {a b : Int} (h : a ≠ 0) : 0 < gcdI a b := by
  unfold gcdI
  have : 0 < Nat.gcd a.natAbs b.natAbs := Nat.gcd_pos_of_pos_left _ (by omega)
  omega
theorem gcdI_left (a b : Int) : gcdI a b ∣ a := Int.gcd_dvd_left a b
theorem gcdI_right (a b : Int) : gcdI a b ∣ b := Int.gcd_dvd_right a b
theorem gcdI_aux (a b : Int) : gcdI a b ∣ aux b := by
  unfold aux
  rw [Int.dvd_natAbs]
  exact gcdI_right a b
theorem dvd_aux {a b : Int} : a ∣ aux b ↔ a ∣ b := by unfold aux; exact Int.dvd_natAbs
theorem aux_dvd {a b : Int} : aux a ∣ b ↔ a ∣ b := by unfold aux; exact Int.natAbs_dvd
theorem fdiv_pos_eq {a b : Int} (h : 0 ≤ b) : a.fdiv b = a / b := Int.fdiv_eq_ediv_of_nonneg a h
theorem cl_key {rooms : Int} {ds : List Door} (ok : Ok rooms ds) {k : CKey} (hk : KOk ds k) {s : Step} (hs : s ∈ allSteps ds) :
    (k.2.1.fdiv (gcdI k.2.1 (lv ds s)) * aux (lv ds s)).fdiv (aux (lv ds s)) * aux (ar ds s) = nxP ds k.2.1 s ∧
    (k.2.2.1 * (k.2.1.fdiv (gcdI k.2.1 (lv ds s)) * aux (lv ds s))).fdiv k.2.1 = nxF ds k.2.1 k.2.2.1 s := by
  obtain ⟨hp, hf, _⟩ := hk
  have hl := lv_ne ok hs
  have ha := aux_pos hl
  have hg := gcdI_pos (b := lv ds s) (show k.2.1 ≠ 0 by omega)
  obtain ⟨c, hc⟩ := gcdI_left k.2.1 (lv ds s)
  obtain ⟨d, hd⟩ := gcdI_aux k.2.1 (lv ds s)
  unfold nxP nxF
  generalize gcdI k.2.1 (lv ds s) = g at *
  generalize aux (lv ds s) = b at *
  generalize k.2.1 = p at *
  generalize k.2.2.1 = f at *
  have e1 : p.fdiv g = c := by rw [hc]; exact Int.mul_fdiv_cancel_left c (by omega)
  have e2 : p / g = c := by rw [hc]; exact Int.mul_ediv_cancel_left c (by omega)
  have e3 : b / g = d := by rw [hd]; exact Int.mul_ediv_cancel_left d (by omega)
  rw [e1, e2, e3]
  constructor
  · rw [Int.mul_fdiv_cancel _ (by omega)]
  · have : f * (c * b) = f * d * p := by
      rw [hc, hd]; grind
    rw [this, Int.mul_fdiv_cancel _ (by omega)]
theorem nx_ok {rooms : Int} {ds : List Door} (ok : Ok rooms ds) {k : CKey} (hk : KOk ds k) {s : Step} (hs : s ∈ allSteps ds) : KOk ds (far ds s, nxP ds k.2.1 s, nxF ds k.2.1 k.2.2.1 s, some s) := by
  obtain ⟨hp, hf, _⟩ := hk
  have ha := aux_pos (lv_ne ok hs)
  have ha2 := aux_pos (ar_ne ok hs)
  have hg := gcdI_pos (b := lv ds s) (show k.2.1 ≠ 0 by omega)
  refine ⟨?_, ?_, ?_⟩
  · show 0 < nxP ds k.2.1 s
    unfold nxP
    refine Int.mul_pos (Int.ediv_pos_of_pos_of_dvd hp (by omega) (gcdI_left _ _)) (by omega)
  · show 0 < nxF ds k.2.1 k.2.2.1 s
    unfold nxF
    exact Int.mul_pos hf (Int.ediv_pos_of_pos_of_dvd (by omega) (by omega) (gcdI_aux _ _))
  · intro l e
    have e : some s = some l := e
    cases e
    refine ⟨hs, ?_⟩
    show ar ds s ∣ nxP ds k.2.1 s
    unfold nxP
    exact Int.dvd_trans (dvd_aux.mpr (Int.dvd_refl _)) (Int.dvd_mul_left _ _)
/-- a class over a step with a weight -/
def clT (ds : List Door) (g : CKey → Int) (k : CKey) : Int :=
  ls (stepsOf ds k.1) fun s => (gcdI k.2.1 (lv ds s) - least k.2.2.2 s) * g (far ds s, nxP ds k.2.1 s, nxF ds k.2.1 k.2.2.1 s, some s)
theorem clInc_eq {rooms : Int} {ds : List Door} (ok : Ok rooms ds) {k : CKey} (hk : KOk ds k) (many : Int) :
    clInc ds k many = (stepsOf ds k.1).map fun s => ((far ds s, nxP ds k.2.1 s, nxF ds k.2.1 k.2.2.1 s, some s), many * (gcdI k.2.1 (lv ds s) - least k.2.2.2 s)) := by
  unfold clInc beyond
  rw [List.map_map]
  apply List.map_congr_left
  intro s hs
  obtain ⟨e1, e2⟩ := cl_key ok hk (mem_stepsOf.mp hs).1
  simp only [Function.comp_def, e1, e2]
theorem clInc_sum {rooms : Int} {ds : List Door} (ok : Ok rooms ds) (g : CKey → Int) {k : CKey} (hk : KOk ds k) (many : Int) : (ls (clInc ds k many) fun p => p.2 * g p.1) = many * clT ds g k := by
  rw [clInc_eq ok hk, ls_map]
  unfold clT
  rw [← ls_mul]
  apply ls_congr
  intro s _
  simp only [Int.mul_assoc]
theorem clInc_nn {rooms : Int} {ds : List Door} (ok : Ok rooms ds) {k : CKey} (hk : KOk ds k) {many : Int} (hm : 0 ≤ many) : ∀ p ∈ clInc ds k many, 0 ≤ p.2 := by
  rw [clInc_eq ok hk]
  intro p hp
  obtain ⟨s, hs, rfl⟩ := List.mem_map.mp hp
  have hg := gcdI_pos (b := lv ds s) (show k.2.1 ≠ 0 by have := hk.1; omega)
  refine Int.mul_nonneg hm ?_
  rcases least_01 k.2.2.2 s with h | h <;> rw [h] <;> omega
theorem clInc_ok {rooms : Int} {ds : List Door} (ok : Ok rooms ds) {k : CKey} (hk : KOk ds k) (many : Int) : ∀ p ∈ clInc ds k many, KOk ds p.1 := by
  rw [clInc_eq ok hk]
  intro p hp
  obtain ⟨s, hs, rfl⟩ := List.mem_map.mp hp
  exact nx_ok ok hk (mem_stepsOf.mp hs).1
def CD (ds : List Door) (m : List (CKey × Int)) : Prop := Pos m ∧ ∀ p ∈ m, KOk ds p.1
theorem cd_clOn {rooms : Int} {ds : List Door} (ok : Ok rooms ds) {m : List (CKey × Int)} (h : CD ds m) : CD ds (clOn ds m) := by
  refine ⟨pos_adds _ (by intro p hp; simp at hp), key_adds (P := KOk ds) _ ?_ (by intro p hp; simp at hp)⟩
  intro p hp
  obtain ⟨q, hq, hp⟩ := List.mem_flatMap.mp hp
  exact clInc_ok ok (h.2 q hq) _ p hp
theorem ws_clOn {rooms : Int} {ds : List Door} (ok : Ok rooms ds) (g : CKey → Int) {m : List (CKey × Int)} (h : CD ds m) : ws g (clOn ds m) = ws (clT ds g) m := by
  unfold clOn
  rw [ws_adds g _ ?_ (by simp [Nd])]
  · rw [ls_flatMap]
    unfold ws
    rw [ls_nil, Int.zero_add]
    apply ls_congr
    intro p hp
    exact clInc_sum ok g (h.2 p hp) p.2
  · intro p hp
    obtain ⟨q, hq, hp⟩ := List.mem_flatMap.mp hp
    exact clInc_nn ok (h.2 q hq) (by have := h.1 q hq; omega) p hp
theorem cd_clN {rooms : Int} {ds : List Door} (ok : Ok rooms ds) {m : List (CKey × Int)} (h : CD ds m) : ∀ n, CD ds (clN ds n m)
  | 0 => h
  | n + 1 => cd_clOn ok (cd_clN ok h n)
/-- a class weighs as many still feet behind it as it has members, where its pulls divide -/
def PH (ds : List Door) (n : Int) (r : Nat) (k : CKey) : Int := if k.2.2.1 ∣ n then k.2.2.1 * SF ds r (k.1, n / k.2.2.1 * k.2.1, k.2.2.2) else 0
theorem PH_step {rooms : Int} {ds : List Door} (ok : Ok rooms ds) (n : Int) (r : Nat) {k : CKey} (hk : KOk ds k) : PH ds n (r + 1) k = clT ds (PH ds n r) k := by
  obtain ⟨room, p, f, last⟩ := k
  obtain ⟨hp, hf, hlast⟩ := hk
  simp only at hp hf hlast
  unfold PH clT
  simp only
  by_cases hn : f ∣ n
  · rw [if_pos hn]
    show f * stT ds (SF ds r) (room, n / f * p, last) = _
    unfold stT
    simp only
    rw [← ls_mul]
    apply ls_congr
    intro s hs
    have hs1 := (mem_stepsOf.mp hs).1
    have hl := lv_ne ok hs1
    have hb := aux_pos hl
    have hg := gcdI_pos (b := lv ds s) (show p ≠ 0 by omega)
    -- f' divides n exactly if the leaving number divides the pulls
    obtain ⟨m, rfl⟩ := hn
    have em : f * m / f = m := Int.mul_ediv_cancel_left m (by omega)
    rw [em]
    obtain ⟨c, hc⟩ := gcdI_left p (lv ds s)
    obtain ⟨d, hd⟩ := gcdI_aux p (lv ds s)
    have ec : p / gcdI p (lv ds s) = c := by
      conv => lhs; lhs; rw [hc]
      exact Int.mul_ediv_cancel_left c (by omega)
    have ed : aux (lv ds s) / gcdI p (lv ds s) = d := by
      conv => lhs; lhs; rw [hd]
      exact Int.mul_ediv_cancel_left d (by omega)
    have hdpos : 0 < d := by
      have h1 : 0 < gcdI p (lv ds s) * d := by rw [← hd]; omega
      exact Int.pos_of_mul_pos_right h1 hg
    have hcpos : 0 < c := by
      have h1 : 0 < gcdI p (lv ds s) * c := by rw [← hc]; omega
      exact Int.pos_of_mul_pos_right h1 hg
    have iff : lv ds s ∣ m * p ↔ f * d ∣ f * m := by
      rw [Int.mul_dvd_mul_iff_left (show f ≠ 0 by omega), ← aux_dvd, hd]
      conv => lhs; rhs; rw [hc]
      rw [show m * (gcdI p (lv ds s) * c) = gcdI p (lv ds s) * (m * c) by grind, Int.mul_dvd_mul_iff_left (by omega)]
      constructor
      · intro h
        -- d and c have no common divisor
        have cop : Nat.Coprime d.natAbs c.natAbs := by
          have hg0 : 0 < Nat.gcd p.natAbs (lv ds s).natAbs := by unfold gcdI at hg; omega
          have h1 : p.natAbs = Nat.gcd p.natAbs (lv ds s).natAbs * c.natAbs := by
            have := congrArg Int.natAbs hc
            rw [Int.natAbs_mul] at this
            unfold gcdI at this
            simpa using this
          have h2 : (lv ds s).natAbs = Nat.gcd p.natAbs (lv ds s).natAbs * d.natAbs := by
            have := congrArg Int.natAbs hd
            rw [Int.natAbs_mul] at this
            unfold gcdI aux at this
            simpa using this
          have h3 : Nat.gcd p.natAbs (lv ds s).natAbs * Nat.gcd c.natAbs d.natAbs = Nat.gcd p.natAbs (lv ds s).natAbs := by
            rw [← Nat.gcd_mul_left, ← h1, ← h2]
          have h4 : Nat.gcd c.natAbs d.natAbs = 1 := Nat.eq_of_mul_eq_mul_left hg0 (by rw [h3, Nat.mul_one])
          exact (Nat.gcd_comm _ _).trans h4
        rw [← Int.natAbs_dvd_natAbs, Int.natAbs_mul] at h
        rw [← Int.natAbs_dvd_natAbs]
        exact cop.dvd_of_dvd_mul_right h
      · intro h
        exact Int.dvd_trans h (Int.dvd_mul_right _ _)
    unfold nxF nxP
    rw [ec, ed]
    by_cases hdiv : lv ds s ∣ m * p
    · rw [if_pos hdiv, if_pos (iff.mp hdiv)]
      have hdm : d ∣ m := (Int.mul_dvd_mul_iff_left (show f ≠ 0 by omega)).mp (iff.mp hdiv)
      obtain ⟨q, rfl⟩ := hdm
      have eq : f * (d * q) / (f * d) = q := by
        rw [← Int.mul_assoc]; exact Int.mul_ediv_cancel_left q (by have := Int.mul_pos hf hdpos; omega)
      rw [eq]
      obtain ⟨z, hz, hz2⟩ := fdiv_of_dvd hl hdiv
      rw [hz2]
      have same : SF ds r (far ds s, z * ar ds s, some s) = SF ds r (far ds s, q * (c * aux (ar ds s)), some s) := by
        apply SF_abs ok
        have h1 : (d * q * p).natAbs = (lv ds s * z).natAbs := by rw [hz]
        have h2 : (lv ds s).natAbs * z.natAbs = (lv ds s).natAbs * (q * c).natAbs := by
          rw [← Int.natAbs_mul, ← h1]
          have : d * q * p = aux (lv ds s) * (q * c) := by
            rw [hd]
            conv => lhs; rw [hc]
            grind
          rw [this, Int.natAbs_mul]
          unfold aux
          simp
        have h3 : z.natAbs = (q * c).natAbs := Nat.eq_of_mul_eq_mul_left (by omega) h2
        rw [Int.natAbs_mul, h3, ← Int.natAbs_mul, ← Int.mul_assoc, Int.natAbs_mul (q * c), Int.natAbs_mul (q * c)]
        unfold aux
        simp
      rw [same]
      -- the weights
      have wt : (aux (lv ds s) - least last s) * f = (gcdI p (lv ds s) - least last s) * (f * d) := by
        rcases least_01 last s with h0 | h1
        · rw [h0, hd]; grind
        · -- a pass back: its leaving number divides the pulls
          cases hlast' : last with
          | none => rw [hlast'] at h1; simp [least] at h1
          | some l =>
            rw [hlast'] at h1
            have est : s = turn l := by
              unfold least at h1
              by_cases e : s = turn l
              · exact e
              · simp [e] at h1
            obtain ⟨hl1, hl2⟩ := hlast l hlast'
            have e2 : lv ds s = ar ds l := by
              rw [est]
              unfold lv
              rw [gate_turn (mem_all.mp hl1).2]
            have hdv : lv ds s ∣ p := by rw [e2]; exact hl2
            have eg : gcdI p (lv ds s) = aux (lv ds s) := by
              unfold gcdI aux
              rw [Nat.gcd_eq_right (Int.natAbs_dvd_natAbs.mpr hdv)]
            have ed1 : d = 1 := by
              rw [← ed, eg]
              exact Int.ediv_self (by omega)
            rw [h1, eg, ed1]; grind
      generalize SF ds r (far ds s, q * (c * aux (ar ds s)), some s) = Z at *
      calc f * ((aux (lv ds s) - least last s) * Z) = ((aux (lv ds s) - least last s) * f) * Z := by grind
        _ = ((gcdI p (lv ds s) - least last s) * (f * d)) * Z := by rw [wt]
        _ = _ := by grind
    · rw [if_neg hdiv, if_neg (fun h => hdiv (iff.mpr h))]
      simp
  · rw [if_neg hn]
    symm
    apply ls_zero'
    intro s hs
    rw [if_neg, Int.mul_zero]
    intro h
    apply hn
    unfold nxF at h
    exact Int.dvd_trans (Int.dvd_mul_right _ _) h
theorem ws_clN {rooms : Int} {ds : List Door} (ok : Ok rooms ds) (n : Int) {m : List (CKey × Int)} (h : CD ds m) : ∀ (j r : Nat), ws (PH ds n r) (clN ds j m) = ws (PH ds n (r + j)) m
  | 0, _ => rfl
  | j + 1, r => by
    show ws (PH ds n r) (clOn ds (clN ds j m)) = _
    rw [ws_clOn ok _ (cd_clN ok h j)]
    rw [show r + (j + 1) = r + 1 + j by omega, ← ws_clN ok n h j (r + 1)]
    unfold ws
    apply ls_congr
    intro p hp
    rw [PH_step ok n r ((cd_clN ok h j).2 p hp)]
def cls (ds : List Door) (room : Int) (length : Nat) : List (CKey × Int) := clN ds length [((room, 1, 1, none), 1)]
theorem cd_start (ds : List Door) (room : Int) : CD ds [((room, 1, 1, none), (1 : Int))] := by
  constructor
  · intro p hp; simp at hp; subst hp; exact Int.one_pos
  · intro p hp; simp at hp; subst hp
    exact ⟨Int.one_pos, Int.one_pos, fun l e => by cases e⟩
theorem cd_cls {rooms : Int} {ds : List Door} (ok : Ok rooms ds) (room : Int) (length : Nat) : CD ds (cls ds room length) := cd_clN ok (cd_start ds room) length
/-- THE COUNT: the feet that n pulls leave are those of the classes whose pulls divide n -/
theorem still_classes {rooms : Int} {ds : List Door} (ok : Ok rooms ds) (room n : Int) (length : Nat) :
    still ds room n length = ls (cls ds room length) fun p => if p.1.2.2.1 ∣ n then p.2 * p.1.2.2.1 else 0 := by
  rw [still_eq ok]
  have h := ws_clN ok n (cd_start ds room) length 0
  have e : ws (PH ds n 0) (clN ds length [((room, 1, 1, none), 1)]) = ls (cls ds room length) fun p => if p.1.2.2.1 ∣ n then p.2 * p.1.2.2.1 else 0 := by
    unfold ws cls
    apply ls_congr
    intro p _
    unfold PH
    by_cases hd : p.1.2.2.1 ∣ n
    · rw [if_pos hd, if_pos hd]; show p.2 * (_ * 1) = _; rw [Int.mul_one]
    · rw [if_neg hd, if_neg hd, Int.mul_zero]
  rw [← e, h]
  simp [ws, PH]
end MF

/-! The rows of numbers of feet: plain mathematics. -/
namespace MF
open MS
theorem ls_turn (ds : List Door) (f : Step → Int) : (ls (allSteps ds) fun s => f (turn s)) = ls (allSteps ds) f := by
  unfold allSteps
  rw [ls_flatMap, ls_flatMap]
  apply ls_congr
  intro a _
  simp [turn]; omega
theorem ls_range_one {n : Nat} {a : Nat} (h : a < n) (f : Nat → Int) : (ls (List.range n) fun u => if a = u then f u else 0) = f a := by
  have e : (ls (List.range n) fun u => if a = u then f u else 0) = ls (List.range n) fun u => if u = a then f a else 0 := by
    apply ls_congr
    intro u _
    by_cases h : a = u
    · subst h; simp
    · have : ¬ u = a := fun e => h e.symm
      simp [h, this]
  rw [e, ls_one List.nodup_range a (f a)]
  simp [h]
/-- the numbers of the table: sizes of passes from u to t -/
def tab (ds : List Door) (u t : Nat) : Int := ls (allSteps ds) fun s => if near ds s = (u : Int) ∧ far ds s = (t : Int) then aux (lv ds s) else 0
def siz (ds : List Door) (n u : Nat) : Int := ls (List.range n) (tab ds u)
/-- the rows -/
def NN (ds : List Door) (n r0 : Nat) : Nat → Nat → Int
  | 0, t => if t = r0 then 1 else 0
  | 1, t => ls (List.range n) fun u => NN ds n r0 0 u * tab ds u t
  | l + 2, t => (ls (List.range n) fun u => NN ds n r0 (l + 1) u * tab ds u t) - NN ds n r0 l t * (siz ds n t - if l = 0 then 0 else 1)
section
variable {ds : List Door} {n r0 : Nat}
abbrev sm (ds : List Door) (r0 l : Nat) : List (SKey × Int) := stillN ds l [(((r0 : Int), 0, none), 1)]
def Aa (ds : List Door) (r0 l : Nat) (s : Step) : Int := ws (fun k => if k.2.2 = some s then 1 else 0) (sm ds r0 l)
def Nn (ds : List Door) (r0 l : Nat) (t : Nat) : Int := ws (fun k => if k.1 = (t : Int) then 1 else 0) (sm ds r0 l)
def ZK (ds : List Door) (r0 : Nat) (k : SKey) : Prop := k.2.1 = 0 ∧ (∀ s, k.2.2 = some s → s ∈ allSteps ds ∧ k.1 = far ds s) ∧ (k.2.2 = none → k.1 = (r0 : Int))
theorem zk_inc {k : SKey} (hk : k.2.1 = 0) (many : Int) : ∀ p ∈ stillInc ds k many, ZK ds r0 p.1 ∧ p.1.2.2 ≠ none := by
  intro p hp
  unfold stillInc beyond at hp
  obtain ⟨q, hq, hp⟩ := List.mem_flatMap.mp hp
  obtain ⟨s, hs, rfl⟩ := List.mem_map.mp hq
  rw [hk] at hp
  split at hp
  · simp only [List.mem_singleton] at hp
    subst hp
    refine ⟨⟨by simp, fun s' e => ?_, fun e => by cases e⟩, by simp⟩
    have e : some s = some s' := e
    cases e
    exact ⟨(mem_stepsOf.mp hs).1, rfl⟩
  · simp at hp
theorem zk_sm (r0 : Nat) : ∀ l, ∀ p ∈ sm ds r0 l, ZK ds r0 p.1
  | 0 => by
    intro p hp
    simp [sm, stillN] at hp
    subst hp
    exact ⟨rfl, fun s e => (by cases e), fun _ => rfl⟩
  | l + 1 => by
    have ih := zk_sm r0 l
    refine key_adds (P := ZK ds r0) _ ?_ (by intro p hp; simp at hp)
    intro p hp
    obtain ⟨q, hq, hp⟩ := List.mem_flatMap.mp hp
    exact (zk_inc (ih q hq).1 q.2 p hp).1
theorem some_sm (r0 l : Nat) : ∀ p ∈ sm ds r0 (l + 1), p.1.2.2 ≠ none := by
  refine key_adds (P := fun k : SKey => k.2.2 ≠ none) _ ?_ (by intro p hp; simp at hp)
  intro p hp
  obtain ⟨q, hq, hp⟩ := List.mem_flatMap.mp hp
  exact (zk_inc (r0 := r0) (zk_sm (ds := ds) r0 l q hq).1 q.2 p hp).2
theorem ws_congr {κ : Type} {m : List (κ × Int)} {g h : κ → Int} (e : ∀ p ∈ m, g p.1 = h p.1) : ws g m = ws h m := by
  unfold ws
  apply ls_congr
  intro p hp
  rw [e p hp]
theorem ws_sub {κ : Type} (m : List (κ × Int)) (g h : κ → Int) : ws (fun k => g k - h k) m = ws g m - ws h m := by
  unfold ws
  rw [← ls_sub]
  apply ls_congr
  intro p _
  rw [Int.mul_sub]
theorem ws_mul {κ : Type} (m : List (κ × Int)) (c : Int) (g : κ → Int) : ws (fun k => c * g k) m = c * ws g m := by
  unfold ws
  rw [← ls_mul]
  apply ls_congr
  intro p _
  grind
theorem ws_ls {κ α : Type} (m : List (κ × Int)) (l : List α) (g : α → κ → Int) : ws (fun k => ls l fun a => g a k) m = ls l fun a => ws (g a) m := by
  unfold ws
  rw [← ls_swap]
  apply ls_congr
  intro p _
  rw [ls_mul]
theorem stT_zero (ds : List Door) (g : SKey → Int) {k : SKey} (hk : k.2.1 = 0) : stT ds g k = ls (stepsOf ds k.1) fun s => (aux (lv ds s) - least k.2.2 s) * g (far ds s, 0, some s) := by
  unfold stT
  apply ls_congr
  intro s _
  rw [hk]
  simp
theorem A_step {rooms : Int} (ok : Ok rooms ds) {s0 : Step} (hs0 : s0 ∈ allSteps ds) (hn : ∃ u : Nat, near ds s0 = (u : Int)) (l : Nat) : ∀ u : Nat, near ds s0 = (u : Int) → Aa ds r0 (l + 1) s0 = aux (lv ds s0) * Nn ds r0 l u - Aa ds r0 l (turn s0) := by
  intro u hu
  show ws _ (stillOn ds (sm ds r0 l)) = _
  rw [ws_stillOn ok _ (pos_stillN (pos_one _) l)]
  unfold Nn Aa
  rw [← ws_mul, ← ws_sub]
  apply ws_congr
  intro p hp
  obtain ⟨z1, z2, z3⟩ := zk_sm r0 l p hp
  rw [stT_zero ds _ z1]
  have e : (ls (stepsOf ds p.1.1) fun s => (aux (lv ds s) - least p.1.2.2 s) * (if (some s : Option Step) = some s0 then 1 else 0)) = ls (stepsOf ds p.1.1) fun s => if s = s0 then aux (lv ds s0) - least p.1.2.2 s0 else 0 := by
    apply ls_congr
    intro s _
    by_cases h : s = s0
    · subst h; simp
    · simp [h]
  refine Eq.trans e ?_
  have nd : (stepsOf ds p.1.1).Nodup := (nodup_all ds).filter _
  rw [ls_one nd]
  have mem : s0 ∈ stepsOf ds p.1.1 ↔ near ds s0 = p.1.1 := by rw [mem_stepsOf]; exact ⟨fun h => h.2, fun h => ⟨hs0, h⟩⟩
  by_cases hm : near ds s0 = p.1.1
  · rw [if_pos (mem.mpr hm), if_pos (by rw [← hm, hu])]
    cases hl : p.1.2.2 with
    | none => simp [least]
    | some l' =>
      obtain ⟨y1, y2⟩ := z2 l' hl
      unfold least
      simp only
      by_cases ht : s0 = turn l'
      · have : l' = turn s0 := by rw [ht, turn_turn (mem_all.mp y1).2]
        simp [ht, turn_turn (mem_all.mp y1).2]
      · have : ¬ l' = turn s0 := fun e => ht (by rw [e, turn_turn (mem_all.mp hs0).2])
        simp [ht, this]
  · rw [if_neg (fun h => hm (mem.mp h)), if_neg (by rw [← hu]; exact fun e => hm e.symm)]
    have : ¬ p.1.2.2 = some (turn s0) := by
      intro e
      obtain ⟨y1, y2⟩ := z2 _ e
      apply hm
      rw [y2]
      unfold far
      rw [gate_turn (mem_all.mp hs0).2]
    rw [if_neg this]
    simp
theorem N_step (l t : Nat) : Nn ds r0 (l + 1) t = ls (allSteps ds) fun s => if far ds s = (t : Int) then Aa ds r0 (l + 1) s else 0 := by
  have e : (ls (allSteps ds) fun s => if far ds s = (t : Int) then Aa ds r0 (l + 1) s else 0) = ls (allSteps ds) fun s => ws (fun k => if far ds s = (t : Int) then (if k.2.2 = some s then 1 else 0) else 0) (sm ds r0 (l + 1)) := by
    apply ls_congr
    intro s _
    by_cases h : far ds s = (t : Int)
    · simp only [h, if_true]; rfl
    · simp only [h, if_false]
      unfold ws
      symm
      apply ls_zero'
      intro p _
      simp
  rw [e, ← ws_ls]
  unfold Nn
  apply ws_congr
  intro p hp
  obtain ⟨z1, z2, z3⟩ := zk_sm r0 _ p hp
  have z4 := some_sm r0 l p hp
  cases hl : p.1.2.2 with
  | none => exact absurd hl z4
  | some s0 =>
    obtain ⟨y1, y2⟩ := z2 s0 hl
    have : (ls (allSteps ds) fun s => if far ds s = (t : Int) then (if (some s0 : Option Step) = some s then 1 else 0) else 0) = ls (allSteps ds) fun s => if s = s0 then (if far ds s0 = (t : Int) then (1 : Int) else 0) else 0 := by
      apply ls_congr
      intro s _
      by_cases h : s = s0
      · subst h; simp
      · have : ¬ s0 = s := fun e => h e.symm
        simp [h, this]
    rw [this, ls_one (nodup_all ds), if_pos y1, y2]
theorem A_zero (s : Step) : Aa ds r0 0 s = 0 := by
  simp [Aa, sm, stillN, ws]
theorem siz_eq {rooms : Int} (ok : Ok rooms ds) (hn : rooms = (n : Int)) (t : Nat) : siz ds n t = ls (allSteps ds) fun s => if near ds s = (t : Int) then aux (lv ds s) else 0 := by
  unfold siz tab
  rw [ls_swap]
  apply ls_congr
  intro s hs
  obtain ⟨h1, h2⟩ := far_room ok hs
  obtain ⟨a, ha⟩ := Int.eq_ofNat_of_zero_le h1
  have e : (ls (List.range n) fun b => if near ds s = (t : Int) ∧ far ds s = (b : Int) then aux (lv ds s) else 0) = ls (List.range n) fun b => if a = b then (if near ds s = (t : Int) then aux (lv ds s) else 0) else 0 := by
    apply ls_congr
    intro b _
    rw [ha]
    have : ((a : Int) = (b : Int)) ↔ a = b := Int.ofNat_inj
    by_cases h : a = b <;> by_cases h2 : near ds s = (t : Int) <;> simp [h, h2, this]
  rw [e]
  exact ls_range_one (by omega) fun _ => if near ds s = (t : Int) then aux (lv ds s) else 0
theorem sum_tab {rooms : Int} (ok : Ok rooms ds) (hn : rooms = (n : Int)) (f : Nat → Int) (t : Nat) :
    (ls (List.range n) fun u => f u * tab ds u t) = ls (allSteps ds) fun s => if far ds s = (t : Int) then aux (lv ds s) * f (near ds s).toNat else 0 := by
  have e : (ls (List.range n) fun u => f u * tab ds u t) = ls (List.range n) fun u => ls (allSteps ds) fun s => f u * (if near ds s = (u : Int) ∧ far ds s = (t : Int) then aux (lv ds s) else 0) := by
    apply ls_congr
    intro u _
    unfold tab
    rw [ls_mul]
  rw [e, ls_swap]
  apply ls_congr
  intro s hs
  obtain ⟨h1, h2⟩ := near_room ok hs
  obtain ⟨a, ha⟩ := Int.eq_ofNat_of_zero_le h1
  have e : (ls (List.range n) fun u => f u * (if near ds s = (u : Int) ∧ far ds s = (t : Int) then aux (lv ds s) else 0)) = ls (List.range n) fun u => if a = u then (if far ds s = (t : Int) then aux (lv ds s) * f u else 0) else 0 := by
    apply ls_congr
    intro u _
    rw [ha]
    have : ((a : Int) = (u : Int)) ↔ a = u := Int.ofNat_inj
    by_cases h : a = u <;> by_cases h2 : far ds s = (t : Int) <;> simp [h, h2, this, Int.mul_comm]
  rw [e, ls_range_one (by omega) fun u => if far ds s = (t : Int) then aux (lv ds s) * f u else 0, ha]
  simp
def Bb (ds : List Door) (r0 l t : Nat) : Int := ls (allSteps ds) fun s => if near ds s = (t : Int) then Aa ds r0 l s else 0
theorem N_rec {rooms : Int} (ok : Ok rooms ds) (hn : rooms = (n : Int)) (l t : Nat) : Nn ds r0 (l + 1) t = (ls (List.range n) fun u => Nn ds r0 l u * tab ds u t) - Bb ds r0 l t := by
  rw [N_step, sum_tab ok hn]
  have e : Bb ds r0 l t = ls (allSteps ds) fun s => if far ds s = (t : Int) then Aa ds r0 l (turn s) else 0 := by
    unfold Bb
    rw [← ls_turn]
    apply ls_congr
    intro s hs
    unfold near
    rw [gate_turn (mem_all.mp hs).2]
  rw [e, ← ls_sub]
  apply ls_congr
  intro s hs
  obtain ⟨h1, h2⟩ := near_room ok hs
  have e1 : near ds s = ((near ds s).toNat : Int) := by omega
  by_cases h : far ds s = (t : Int)
  · rw [if_pos h, if_pos h, if_pos h, A_step ok hs ⟨_, e1⟩ l _ e1]
  · rw [if_neg h, if_neg h, if_neg h]; rfl
theorem B_rec {rooms : Int} (ok : Ok rooms ds) (hn : rooms = (n : Int)) (l t : Nat) : Bb ds r0 (l + 1) t = Nn ds r0 l t * (siz ds n t - if l = 0 then 0 else 1) := by
  unfold Bb
  have e : (ls (allSteps ds) fun s => if near ds s = (t : Int) then Aa ds r0 (l + 1) s else 0) = ls (allSteps ds) fun s => (if near ds s = (t : Int) then aux (lv ds s) else 0) * Nn ds r0 l t - (if near ds s = (t : Int) then Aa ds r0 l (turn s) else 0) := by
    apply ls_congr
    intro s hs
    by_cases h : near ds s = (t : Int)
    · rw [if_pos h, if_pos h, if_pos h, A_step ok hs ⟨t, h⟩ l t h]
    · rw [if_neg h, if_neg h, if_neg h]; simp
  rw [e, ls_sub, ls_mulr, ← siz_eq ok hn]
  have e2 : (ls (allSteps ds) fun s => if near ds s = (t : Int) then Aa ds r0 l (turn s) else 0) = Nn ds r0 l t * (if l = 0 then 0 else 1) := by
    rw [← ls_turn]
    cases l with
    | zero =>
      rw [if_pos rfl, Int.mul_zero]
      apply ls_zero'
      intro s _
      rw [A_zero]; simp
    | succ l =>
      rw [if_neg (by omega), Int.mul_one, N_step]
      apply ls_congr
      intro s hs
      unfold near
      rw [gate_turn (mem_all.mp hs).2, turn_turn (mem_all.mp hs).2]
  rw [e2, Int.mul_sub, Int.mul_comm (siz ds n t)]
theorem NN_eq {rooms : Int} (ok : Ok rooms ds) (hn : rooms = (n : Int)) : ∀ (l t : Nat), NN ds n r0 l t = Nn ds r0 l t
  | 0, t => by
    simp [NN, Nn, sm, stillN, ws]
    have : ((r0 : Int) = (t : Int)) ↔ t = r0 := by omega
    simp [this]
  | 1, t => by
    rw [N_rec ok hn 0 t]
    have b : Bb ds r0 0 t = 0 := by
      unfold Bb
      apply ls_zero'
      intro s _
      rw [A_zero]; simp
    rw [b, Int.sub_zero]
    show (ls (List.range n) fun u => NN ds n r0 0 u * tab ds u t) = _
    apply ls_congr
    intro u _
    rw [NN_eq ok hn 0 u]
  | l + 2, t => by
    rw [N_rec ok hn (l + 1) t, B_rec ok hn l t, ← NN_eq ok hn l t]
    show (ls (List.range n) fun u => NN ds n r0 (l + 1) u * tab ds u t) - _ = _
    congr 1
    apply ls_congr
    intro u _
    rw [NN_eq ok hn (l + 1) u]
/-- the row's sum is the number of feet, that of still feet of 0 pulls -/
theorem NN_sum {rooms : Int} (ok : Ok rooms ds) (hn : rooms = (n : Int)) (hr : r0 < n) (l : Nat) : ls (List.range n) (NN ds n r0 l) = still ds (r0 : Int) 0 l := by
  have e : ls (List.range n) (NN ds n r0 l) = ls (List.range n) fun t => ws (fun k => if k.1 = (t : Int) then 1 else 0) (sm ds r0 l) := by
    apply ls_congr
    intro t _
    rw [NN_eq ok hn]; rfl
  rw [e, ← ws_ls]
  unfold still ws
  apply ls_congr
  intro p hp
  obtain ⟨z1, z2, z3⟩ := zk_sm r0 l p hp
  have hb : 0 ≤ p.1.1 ∧ p.1.1 < rooms := by
    cases hl : p.1.2.2 with
    | none => rw [z3 hl]; omega
    | some s =>
      obtain ⟨y1, y2⟩ := z2 s hl
      rw [y2]
      exact far_room ok y1
  obtain ⟨a, ha⟩ := Int.eq_ofNat_of_zero_le hb.1
  have : (ls (List.range n) fun t => if p.1.1 = (t : Int) then (1 : Int) else 0) = 1 := by
    have e2 : (ls (List.range n) fun t => if p.1.1 = (t : Int) then (1 : Int) else 0) = ls (List.range n) fun t => if a = t then 1 else 0 := by
      apply ls_congr
      intro t _
      rw [ha]
      have : ((a : Int) = (t : Int)) ↔ a = t := Int.ofNat_inj
      simp [this]
    rw [e2]
    exact ls_range_one (by omega) fun _ => 1
  show p.2 * (ls (List.range n) fun t => if p.1.1 = (t : Int) then (1 : Int) else 0) = p.2
  rw [this, Int.mul_one]
end
end MF

/-! The law's own comparisons: plain mathematics. -/
namespace MF
open MS
def ret (m : List (CKey × Int)) : Int := m.foldl (fun found p => (found * p.1.2.2.1).fdiv (gcdI found p.1.2.2.1)) 1
def clsMany (m : List (CKey × Int)) : Int := ls m fun p => p.2
theorem lcm_step {a b : Int} (ha : 0 < a) (hb : 0 < b) : 0 < (a * b).fdiv (gcdI a b) ∧ a ∣ (a * b).fdiv (gcdI a b) ∧ b ∣ (a * b).fdiv (gcdI a b) ∧ ∀ c, a ∣ c → b ∣ c → (a * b).fdiv (gcdI a b) ∣ c := by
  have hg := gcdI_pos (b := b) (show a ≠ 0 by omega)
  obtain ⟨x, hx⟩ := gcdI_left a b
  obtain ⟨y, hy⟩ := gcdI_right a b
  have e : (a * b).fdiv (gcdI a b) = x * b := by
    rw [show a * b = gcdI a b * (x * b) by
      conv => lhs; lhs; rw [hx]
      grind]
    exact Int.mul_fdiv_cancel_left _ (by omega)
  have e2 : x * b = a * y := by
    conv => lhs; rhs; rw [hy]
    conv => rhs; lhs; rw [hx]
    grind
  have hxp : 0 < x := by
    have h1 : 0 < gcdI a b * x := by rw [← hx]; exact ha
    exact Int.pos_of_mul_pos_right h1 hg
  rw [e]
  refine ⟨Int.mul_pos hxp hb, by rw [e2]; exact Int.dvd_mul_right _ _, Int.dvd_mul_left _ _, fun c h1 h2 => ?_⟩
  have hl : x * b = (Int.lcm a b : Int) := by
    have h3 : (Int.gcd a b : Int) * (Int.lcm a b : Int) = (a * b).natAbs := by
      have := Int.gcd_mul_lcm a b
      rw [Int.natAbs_mul, ← this]; push_cast; rfl
    have h4 : ((a * b).natAbs : Int) = a * b := by
      have := Int.mul_pos ha hb
      omega
    have h5 : gcdI a b * (Int.lcm a b : Int) = gcdI a b * (x * b) := by
      show (Int.gcd a b : Int) * _ = _
      rw [h3, h4]
      conv => lhs; lhs; rw [hx]
      grind
    exact (Int.eq_of_mul_eq_mul_left (by omega) h5).symm
  rw [hl]
  have h6 : Int.lcm a b ∣ c.natAbs := Int.lcm_dvd (Int.dvd_natAbs.mpr h1) (Int.dvd_natAbs.mpr h2)
  exact Int.dvd_natAbs.mp (Int.ofNat_dvd.mpr h6)
theorem ret_fold (m : List (CKey × Int)) (hm : ∀ p ∈ m, 0 < p.1.2.2.1) : ∀ z : Int, 0 < z →
    0 < m.foldl (fun found p => (found * p.1.2.2.1).fdiv (gcdI found p.1.2.2.1)) z ∧ z ∣ m.foldl (fun found p => (found * p.1.2.2.1).fdiv (gcdI found p.1.2.2.1)) z ∧
    (∀ p ∈ m, p.1.2.2.1 ∣ m.foldl (fun found p => (found * p.1.2.2.1).fdiv (gcdI found p.1.2.2.1)) z) ∧
    ∀ c, z ∣ c → (∀ p ∈ m, p.1.2.2.1 ∣ c) → m.foldl (fun found p => (found * p.1.2.2.1).fdiv (gcdI found p.1.2.2.1)) z ∣ c := by
  induction m with
  | nil => intro z hz; exact ⟨hz, Int.dvd_refl _, by simp, fun c h _ => h⟩
  | cons q m ih =>
    intro z hz
    obtain ⟨s1, s2, s3, s4⟩ := lcm_step hz (hm q (by simp))
    obtain ⟨h1, h2, h3, h4⟩ := ih (fun p hp => hm p (by simp [hp])) _ s1
    rw [List.foldl_cons]
    refine ⟨h1, Int.dvd_trans s2 h2, ?_, fun c hc hp => h4 c (s4 c hc (hp q (by simp))) fun p hp' => hp p (by simp [hp'])⟩
    intro p hp
    rcases List.mem_cons.mp hp with rfl | hp
    · exact Int.dvd_trans s3 h2
    · exact h3 p hp
section
variable {rooms : Int} {ds : List Door} (ok : Ok rooms ds) (room : Int) (length : Nat)
include ok
theorem ret_pos : 0 < ret (cls ds room length) := (ret_fold _ (fun p hp => ((cd_cls ok room length).2 p hp).2.1) 1 Int.one_pos).1
theorem ret_dvd : ∀ p ∈ cls ds room length, p.1.2.2.1 ∣ ret (cls ds room length) := (ret_fold _ (fun p hp => ((cd_cls ok room length).2 p hp).2.1) 1 Int.one_pos).2.2.1
theorem ret_min {c : Int} (h : ∀ p ∈ cls ds room length, p.1.2.2.1 ∣ c) : ret (cls ds room length) ∣ c := (ret_fold _ (fun p hp => ((cd_cls ok room length).2 p hp).2.1) 1 Int.one_pos).2.2.2 c (Int.one_dvd c) h
/-- the whole number of feet -/
theorem whole_eq : still ds room 0 length = ls (cls ds room length) fun p => p.2 * p.1.2.2.1 := by
  rw [still_classes ok]
  apply ls_congr
  intro p _
  rw [if_pos (Int.dvd_zero _)]
theorem law_ge : still ds room 0 length ≤ ret (cls ds room length) * clsMany (cls ds room length) := by
  rw [whole_eq ok]
  unfold clsMany
  rw [← ls_mul]
  apply ls_le
  intro p hp
  have h1 := (cd_cls ok room length).1 p hp
  have h2 := Int.le_of_dvd (ret_pos ok room length) (ret_dvd ok room length p hp)
  rw [Int.mul_comm]
  exact Int.mul_le_mul_of_nonneg_right h2 (by omega)
theorem law_many : clsMany (cls ds room length) ≤ still ds room 0 length := by
  rw [whole_eq ok]
  apply ls_le
  intro p hp
  have h1 := (cd_cls ok room length).1 p hp
  have h2 := ((cd_cls ok room length).2 p hp).2.1
  have := Int.mul_le_mul_of_nonneg_left (show (1 : Int) ≤ p.1.2.2.1 by omega) (show 0 ≤ p.2 by omega)
  omega
theorem many_nn : 0 ≤ clsMany (cls ds room length) := ls_nonneg fun p hp => by have := (cd_cls ok room length).1 p hp; omega
theorem law_pos : still ds room 0 length > 0 ↔ clsMany (cls ds room length) > 0 := by
  constructor
  · intro h
    have h1 := law_ge ok room length
    have h2 := many_nn ok room length
    by_cases e : clsMany (cls ds room length) = 0
    · rw [e] at h1; simp at h1; omega
    · omega
  · intro h
    have := law_many ok room length
    omega
theorem law_ret : still ds room (ret (cls ds room length)) length = still ds room 0 length := by
  rw [still_classes ok, still_classes ok]
  apply ls_congr
  intro p hp
  rw [if_pos (ret_dvd ok room length p hp), if_pos (Int.dvd_zero _)]
theorem law_common (n : Int) : still ds room n length = still ds room (gcdI n (ret (cls ds room length))) length := by
  rw [still_classes ok, still_classes ok]
  apply ls_congr
  intro p hp
  have h1 := ret_dvd ok room length p hp
  have : p.1.2.2.1 ∣ n ↔ p.1.2.2.1 ∣ gcdI n (ret (cls ds room length)) := ⟨fun h => Int.dvd_coe_gcd h h1, fun h => Int.dvd_trans h (gcdI_left _ _)⟩
  by_cases h : p.1.2.2.1 ∣ n
  · rw [if_pos h, if_pos (this.mp h)]
  · rw [if_neg h, if_neg fun z => h (this.mpr z)]
/-- less pulls leave fewer, if there are feet -/
theorem law_less {less : Int} (h0 : 0 < less) (h1 : less < ret (cls ds room length)) (e : still ds room less length = still ds room 0 length) : ¬ still ds room 0 length > 0 := by
  intro _
  have all : ∀ p ∈ cls ds room length, p.1.2.2.1 ∣ less := by
    rw [still_classes ok, whole_eq ok] at e
    intro p hp
    have hle : ∀ p ∈ cls ds room length, (if p.1.2.2.1 ∣ less then p.2 * p.1.2.2.1 else 0) ≤ p.2 * p.1.2.2.1 := by
      intro p hp
      have h3 := (cd_cls ok room length).1 p hp
      have h4 := ((cd_cls ok room length).2 p hp).2.1
      have := Int.mul_pos h3 h4
      split <;> omega
    have := ls_eq_of_le hle e p hp
    by_cases h : p.1.2.2.1 ∣ less
    · exact h
    · rw [if_neg h] at this
      have h3 := (cd_cls ok room length).1 p hp
      have h4 := ((cd_cls ok room length).2 p hp).2.1
      have := Int.mul_pos h3 h4
      omega
  have := Int.le_of_dvd h0 (ret_min ok room length all)
  omega
omit ok in
/-- the numbers below k * f that f divides are k -/
theorem multiples (f : Nat) (hf : 0 < f) (c : Int) : ∀ k : Nat, (ls (List.range (k * f)) fun i => if (f : Int) ∣ (i : Int) then c else 0) = k * c
  | 0 => by simp
  | k + 1 => by
    rw [show (k + 1) * f = k * f + f by rw [Nat.add_mul, Nat.one_mul], List.range_add, ls_append, multiples f hf c k, ls_map]
    have e : (ls (List.range f) fun a => if (f : Int) ∣ ((k * f + a : Nat) : Int) then c else 0) = ls (List.range f) fun a => if a = 0 then c else 0 := by
      apply ls_congr
      intro a ha
      rw [List.mem_range] at ha
      have : (f : Int) ∣ ((k * f + a : Nat) : Int) ↔ a = 0 := by
        rw [Int.natCast_dvd_natCast, Nat.dvd_add_right (Nat.dvd_mul_left f k)]
        constructor
        · intro h
          by_cases z : a = 0
          · exact z
          · exact absurd (Nat.le_of_dvd (by omega) h) (by omega)
        · rintro rfl; exact Nat.dvd_zero _
      simp only [this]
    rw [e, ls_one List.nodup_range]
    have : 0 ∈ List.range f := List.mem_range.mpr hf
    rw [if_pos this]
    push_cast
    grind
theorem law_burnside : (ls (List.range (ret (cls ds room length)).toNat) fun i => still ds room (i : Int) length) = ret (cls ds room length) * clsMany (cls ds room length) := by
  have hr := ret_pos ok room length
  have e : (ls (List.range (ret (cls ds room length)).toNat) fun i => still ds room (i : Int) length) = ls (List.range (ret (cls ds room length)).toNat) fun i => ls (cls ds room length) fun p => if p.1.2.2.1 ∣ (i : Int) then p.2 * p.1.2.2.1 else 0 := by
    apply ls_congr
    intro i _
    rw [still_classes ok]
  rw [e, ls_swap]
  unfold clsMany
  rw [← ls_mul]
  apply ls_congr
  intro p hp
  obtain ⟨k, hk⟩ := ret_dvd ok room length p hp
  have hf := ((cd_cls ok room length).2 p hp).2.1
  generalize ret (cls ds room length) = R at *
  obtain ⟨f, hf'⟩ := Int.eq_ofNat_of_zero_le (show 0 ≤ p.1.2.2.1 by omega)
  rw [hf'] at hk hf ⊢
  have hk0 : 0 < k := by
    rw [hk] at hr
    exact Int.pos_of_mul_pos_right hr hf
  obtain ⟨k', rfl⟩ := Int.eq_ofNat_of_zero_le (show 0 ≤ k by omega)
  have : R.toNat = k' * f := by
    rw [hk]
    have : ((f : Int) * (k' : Int)) = ((k' * f : Nat) : Int) := by push_cast; exact Int.mul_comm _ _
    rw [this]; exact Int.toNat_natCast _
  rw [this, multiples f (by omega)]
  rw [hk]
  grind
end
end MF

set_option Elab.async false
set_option linter.all false
set_option maxRecDepth 100000
set_option maxHeartbeats 4000000
/-! The text by places; what the top holds. -/
namespace Kw
open PySem PySem.Spec PyProof.Rows L2 Y
def top (i : Nat) : Stmt := PySem.Challenge.pw_ropescounted_k50_whole_returns_of_feet_a.main.body.getD i (.Pass ⟨0, 0, 0, 0⟩)
abbrev s_is_number : Stmt := top 2
abbrev s_is_below : Stmt := top 3
abbrev s_least_common : Stmt := top 4
abbrev s_is_door : Stmt := top 18
abbrev s_are_doors : Stmt := top 19
abbrev s_joined_rooms : Stmt := top 20
abbrev s_need_house : Stmt := top 22
abbrev s_need_room : Stmt := top 23
abbrev s_gate_of : Stmt := top 24
abbrev s_steps_of_room : Stmt := top 25
abbrev s_turned_step : Stmt := top 27
abbrev s_steps_beyond : Stmt := top 28
abbrev s_need_short : Stmt := top 31
abbrev s_put_many : Stmt := top 32
abbrev s_still_on : Stmt := top 33
abbrev s_still_many : Stmt := top 34
abbrev s_classes_on : Stmt := top 35
abbrev s_class_states : Stmt := top 36
abbrev s_need_lengthy : Stmt := top 37
abbrev s_foot_classes_many : Stmt := top 38
abbrev s_foot_return : Stmt := top 39
abbrev s_lowest : Stmt := top 41
abbrev s_ratio_over : Stmt := top 42
abbrev s_ways_out : Stmt := top 43
abbrev s_lengths_right : Stmt := top 44
abbrev s_told_lengths : Stmt := top 45
abbrev s_lengths_of : Stmt := top 46
abbrev s_kept_pulls : Stmt := top 47
abbrev s_need_length : Stmt := top 50
abbrev s_all_steps : Stmt := top 51
abbrev s_rooms_table : Stmt := top 52
abbrev s_sizes_of_rooms : Stmt := top 53
abbrev s_next_line : Stmt := top 54
abbrev s_lines_of : Stmt := top 55
abbrev s_feet_to : Stmt := top 56
abbrev s_feet_many : Stmt := top 57
abbrev s__law_begun : Stmt := top 59
abbrev s__law_blended : Stmt := top 60
abbrev s__law_draw : Stmt := top 61
abbrev s__law_pick : Stmt := top 62
abbrev s__law_mixed : Stmt := top 63
abbrev s__law_common : Stmt := top 64
abbrev s__law_multiple : Stmt := top 65
abbrev s__law_gr_doors : Stmt := top 66
abbrev s__law_gr_size : Stmt := top 67
abbrev s__law_fitting_doors : Stmt := top 68
abbrev s_law : Stmt := top 69
abbrev s_House___init__ : Stmt := inClass (top 21) 0
/-- what the module's names stand for -/
structure Bi (K : PySem.W.Frag) (mg : Str → Option Value) (C : Addr) : Prop where
  len : mg "len" = none
  range : mg "range" = none
  isinstance : mg "isinstance" = none
  int : mg "int" = none
  bool : mg "bool" = none
  tuple : mg "tuple" = none
  list : mg "list" = none
  abs : mg "abs" = none
  sum : mg "sum" = none
  all : mg "all" = none
  min : mg "min" = none
  max : mg "max" = none
  gcd : mg "gcd" = some (.builtin "math.gcd")
  MOST_ROOMS : ∃ t, mg "MOST_ROOMS" = some (.int 12 t)
  MOST_DOORS : ∃ t, mg "MOST_DOORS" = some (.int 20 t)
  GREATEST : ∃ t, mg "GREATEST" = some (.int 999 t)
  MOST_LENGTH_stillness : ∃ t, mg "MOST_LENGTH_stillness" = some (.int 40 t)
  MOST_LENGTH_counts : ∃ t, mg "MOST_LENGTH_counts" = some (.int 300 t)
  House : mg "House" = some (.ref C)
  cl : Cls K C
  ic : C8.InsC K C
  nr : NoAttr K C "rooms"
  nd : NoAttr K C "doors"
local macro_rules | `(tactic| trivial) => `(tactic| first
  | with_reducible exact ev_int
  | with_reducible exact ev_bl
  | with_reducible exact ev_non
  | with_reducible exact ea_nil
  | with_reducible exact et_yes
  | ((with_reducible apply ev_var); exact rfl; first | exact .num _ | exact .bl _ | exact .non | assumption)
  | ((with_reducible apply ea_cons); trivial; trivial)
  | ((with_reducible apply ev_tup); trivial; first | decide | (show _ ≤ sizeLine; simp; decide))
  | ((with_reducible apply ev_ix0); trivial; trivial; exact rfl)
  | ((with_reducible apply ev_ix1); trivial; trivial; exact rfl)
  | ((with_reducible apply ev_ix2); trivial; trivial; exact rfl)
  | ((with_reducible apply ev_ix3); trivial; trivial; exact rfl)
  | ((with_reducible apply ev_opI); trivial; trivial)
  | ((with_reducible apply ev_opB); trivial; trivial)
  | ((with_reducible apply ev_eqI); trivial; trivial)
  | ((with_reducible apply ev_neI); trivial; trivial)
  | ((with_reducible apply ev_un); trivial)
  | ((with_reducible apply ev_chain); trivial; trivial; trivial)
  | ((with_reducible apply ev_abs); trivial)
  | ((with_reducible apply ev_intI); trivial)
  | ((with_reducible apply ev_gcd); trivial; trivial)
  | ((with_reducible apply ev_lenT); trivial)
  | ((with_reducible apply et_test); trivial)
  | ((with_reducible apply et_B); trivial)
  | ((with_reducible apply et_not); trivial)
  | ((with_reducible apply et_and); trivial; (intro _; trivial))
  | ((with_reducible apply et_or); trivial; (intro _; trivial))
  | ((with_reducible apply ev_andV); trivial; (intro _; trivial))
  | ((with_reducible apply ev_orV); trivial; (intro _; trivial))
  | ((with_reducible apply ev_notV); trivial)
  | ((with_reducible apply ev_isN); trivial)
  | ((with_reducible apply ev_notN); trivial)
  | ((with_reducible apply ev_isiII); trivial)
  | ((with_reducible apply ev_isiIB); trivial)
  | ((with_reducible apply ev_isiTT); trivial)
  | ((with_reducible apply ev_isH); trivial))
section
variable {P : Program} {w : World} {K : PySem.W.Frag} {mg : Str → Option Value} {base : Heap} {C : Addr}
/-! ### is_number, is_below -/
theorem sc_is_number : FnScope ["value"] ["value"] (defScope s_is_number) := ⟨rfl, rfl, rfl, by decide +kernel, rfl, by decide +kernel, by decide +kernel⟩
abbrev sp_is_number (C : Addr) : Sp := fnSp C (fun i : Int => [.num i]) (fun _ => True) (fun _ => .bl true)
theorem ok_is_number (F : Df K mg "is_number" s_is_number) (B : Bi K mg C) : Cl P w K mg base "is_number" 1 ["value"] (sp_is_number C) := by
  refine F.cl sc_is_number (fun _ _ _ _ _ _ us hl => match us, hl with | [_], _ => rfl) (fun vs H Q E h => ?_) (fun f cdv A outer s H vs Q E hr h => ?_)
  · obtain ⟨i, t, _⟩ := h; exact t.length
  · obtain ⟨i, t, _, q⟩ := h
    obtain ⟨v, _, rfl, t1, t⟩ := tpa_cons t
    cases tpa_nil t
    refine ⟨_, (pss_one (ps_ret (pe_and (pe_callB call_isi (by rfl) B.isinstance (by decide +kernel) (pa_cons (pv 0) (pa_cons (pe_bltn (v := .ty "int") (by rfl) B.int (by decide +kernel) rfl) pa_nil))) (pe_one (pe_not (pe_callB call_isi (by rfl) B.isinstance (by decide +kernel) (pa_cons (pv 0) (pa_cons (pe_bltn (v := .ty "bool") (by rfl) B.bool (by decide +kernel) rfl) pa_nil)))))))), ?_⟩
    apply st_ret' (k := q)
    · trivial
    · rfl
theorem sc_is_below : FnScope ["value", "size"] ["value", "size"] (defScope s_is_below) := ⟨rfl, rfl, rfl, by decide +kernel, rfl, by decide +kernel, by decide +kernel⟩
abbrev sp_is_below (C : Addr) : Sp := fnSp C (fun i : Int × Int => [.num i.1, .num i.2]) (fun _ => True) (fun i => .bl (decide (0 ≤ i.1) && decide (i.1 < i.2)))
theorem ok_is_below (F : Df K mg "is_below" s_is_below) (B : Bi K mg C) (h_is_number : Cl P w K mg base "is_number" 1 ["value"] (sp_is_number C)) : Cl P w K mg base "is_below" 2 ["value", "size"] (sp_is_below C) := by
  refine F.cl sc_is_below (fun _ _ _ _ _ _ us hl => match us, hl with | [_, _], _ => rfl) (fun vs H Q E h => ?_) (fun f cdv A outer s H vs Q E hr h => ?_)
  · obtain ⟨i, t, _⟩ := h; exact t.length
  · obtain ⟨i, t, _, q⟩ := h
    obtain ⟨v, _, rfl, t1, t⟩ := tpa_cons t
    obtain ⟨v', _, rfl, t2, t⟩ := tpa_cons t
    cases tpa_nil t
    refine ⟨_, (pss_one (ps_ret (pe_and (pe_cl h_is_number (hr.mono (by decide)) (by rfl) (pa_cons (pv 0) pa_nil)) (pe_one (pe_chain op_le op_lt pe_int (pv 0) (pv 1)))))), ?_⟩
    apply st_ret' (k := q)
    · apply ev_andV
      · apply ev_fn i.1
        · trivial
        · rfl
        · exact True.intro
      · intro _; trivial
    · rfl
end
end Kw

set_option Elab.async false
set_option linter.all false
set_option maxRecDepth 100000
set_option maxHeartbeats 4000000
/-! Houses: doors, gates, steps. -/
namespace Kw
open PySem PySem.Spec PyProof.Rows L2 Y
local macro_rules | `(tactic| trivial) => `(tactic| first
  | with_reducible exact ev_int
  | with_reducible exact ev_bl
  | with_reducible exact ev_non
  | with_reducible exact ea_nil
  | with_reducible exact et_yes
  | ((with_reducible apply ev_var); exact rfl; first | exact .num _ | exact .bl _ | exact .non | assumption)
  | ((with_reducible apply ea_cons); trivial; trivial)
  | ((with_reducible apply ev_tup); trivial; first | decide | (show _ ≤ sizeLine; simp; decide))
  | ((with_reducible apply ev_ix0); trivial; trivial; exact rfl)
  | ((with_reducible apply ev_ix1); trivial; trivial; exact rfl)
  | ((with_reducible apply ev_ix2); trivial; trivial; exact rfl)
  | ((with_reducible apply ev_ix3); trivial; trivial; exact rfl)
  | ((with_reducible apply ev_opI); trivial; trivial)
  | ((with_reducible apply ev_opB); trivial; trivial)
  | ((with_reducible apply ev_eqI); trivial; trivial)
  | ((with_reducible apply ev_neI); trivial; trivial)
  | ((with_reducible apply ev_un); trivial)
  | ((with_reducible apply ev_chain); trivial; trivial; trivial)
  | ((with_reducible apply ev_abs); trivial)
  | ((with_reducible apply ev_intI); trivial)
  | ((with_reducible apply ev_gcd); trivial; trivial)
  | ((with_reducible apply ev_lenT); trivial)
  | ((with_reducible apply et_test); trivial)
  | ((with_reducible apply et_B); trivial)
  | ((with_reducible apply et_not); trivial)
  | ((with_reducible apply et_and); trivial; (intro _; trivial))
  | ((with_reducible apply et_or); trivial; (intro _; trivial))
  | ((with_reducible apply ev_andV); trivial; (intro _; trivial))
  | ((with_reducible apply ev_orV); trivial; (intro _; trivial))
  | ((with_reducible apply ev_notV); trivial)
  | ((with_reducible apply ev_isN); trivial)
  | ((with_reducible apply ev_notN); trivial)
  | ((with_reducible apply ev_isiII); trivial)
  | ((with_reducible apply ev_isiIB); trivial)
  | ((with_reducible apply ev_isiTT); trivial)
  | ((with_reducible apply ev_isH); trivial))
section
variable {P : Program} {w : World} {K : PySem.W.Frag} {mg : Str → Option Value} {base : Heap} {C : Addr}
/-! ### need_house, need_room, gate_of -/
theorem sc_need_house : FnScope ["house"] ["house"] (defScope s_need_house) := ⟨rfl, rfl, rfl, by decide +kernel, rfl, by decide +kernel, by decide +kernel⟩
abbrev sp_need_house (C : Addr) : Sp := fnSp C (fun i : Int × List Door => [.hs i.1 i.2]) (fun _ => True) (fun _ => .non)
theorem ok_need_house (F : Df K mg "need_house" s_need_house) (B : Bi K mg C) : Cl P w K mg base "need_house" 1 ["house"] (sp_need_house C) := by
  refine F.cl sc_need_house (fun _ _ _ _ _ _ us hl => match us, hl with | [_], _ => rfl) (fun vs H Q E h => ?_) (fun f cdv A outer s H vs Q E hr h => ?_)
  · obtain ⟨i, t, _⟩ := h; exact t.length
  · obtain ⟨i, t, _, q⟩ := h
    obtain ⟨v, _, rfl, t1, t⟩ := tpa_cons t
    cases tpa_nil t
    refine ⟨_, (pss_one (ps_if (pt_not (pt_val (pe_callB (call_isH B.ic) (by rfl) B.isinstance (by decide +kernel) (pa_cons (pv 0) (pa_cons (pe_glob (v := .ref C) (by rfl) B.House rfl) pa_nil))))) (pss_one ps_never) pss_nil)), ?_⟩
    apply st_no1
    · exact et_not (b := true) (by trivial)
    · exact fun H2 s2 => q _ _ s2 .non
theorem sc_need_room : FnScope ["house", "room"] ["house", "room"] (defScope s_need_room) := ⟨rfl, rfl, rfl, by decide +kernel, rfl, by decide +kernel, by decide +kernel⟩
abbrev sp_need_room (C : Addr) : Sp := fnSp C (fun i : Int × List Door × Int => [.hs i.1 i.2.1, .num i.2.2]) (fun i => 0 ≤ i.2.2 ∧ i.2.2 < i.1) (fun _ => .non)
theorem ok_need_room (F : Df K mg "need_room" s_need_room) (B : Bi K mg C) (h_is_below : Cl P w K mg base "is_below" 2 ["value", "size"] (sp_is_below C)) : Cl P w K mg base "need_room" 3 ["house", "room"] (sp_need_room C) := by
  refine F.cl sc_need_room (fun _ _ _ _ _ _ us hl => match us, hl with | [_, _], _ => rfl) (fun vs H Q E h => ?_) (fun f cdv A outer s H vs Q E hr h => ?_)
  · obtain ⟨i, t, _⟩ := h; exact t.length
  · obtain ⟨⟨r, ds, room⟩, t, hp, q⟩ := h
    obtain ⟨v, _, rfl, t1, t⟩ := tpa_cons t
    obtain ⟨v', _, rfl, t2, t⟩ := tpa_cons t
    cases tpa_nil t
    refine ⟨_, (pss_one (ps_if (pt_not (pt_val (pe_cl h_is_below (hr.mono (by decide)) (by rfl) (pa_cons (pv 1) (pa_cons (pe_fld (pv 0) rfl) pa_nil))))) (pss_one ps_never) pss_nil)), ?_⟩
    apply st_no1
    · refine et_not (b := true) (et_B (C := C) ?_)
      have h1 : 0 ≤ room ∧ room < r := hp
      have e : D.bl true = D.bl (decide (0 ≤ room) && decide (room < r)) := by simp [h1.1, h1.2]
      rw [e]
      apply ev_fn (room, r)
      · apply ea_cons
        · trivial
        · apply ea_cons
          · exact ev_rooms (by trivial) B.cl B.nr
          · trivial
      · rfl
      · exact True.intro
    · exact fun H2 s2 => q _ _ s2 .non
theorem sc_gate_of : FnScope ["house", "step", "near", "first", "far", "second"] ["house", "step"] (defScope s_gate_of) := ⟨rfl, rfl, rfl, by decide +kernel, rfl, by decide +kernel, by decide +kernel⟩
abbrev sp_gate_of (C : Addr) : Sp := fnSp C (fun i : Int × List Door × MF.Step => [.hs i.1 i.2.1, stepD i.2.2]) (fun i => i.2.2 ∈ MF.allSteps i.2.1) (fun i => doorD (MF.gate i.2.1 i.2.2))
theorem ok_gate_of (F : Df K mg "gate_of" s_gate_of) (B : Bi K mg C) : Cl P w K mg base "gate_of" 1 ["house", "step"] (sp_gate_of C) := by
  refine F.cl sc_gate_of (fun _ _ _ _ _ _ us hl => match us, hl with | [_, _], _ => rfl) (fun vs H Q E h => ?_) (fun f cdv A outer s H vs Q E hr h => ?_)
  · obtain ⟨i, t, _⟩ := h; exact t.length
  · obtain ⟨⟨r, ds, st⟩, t, hp, q⟩ := h
    obtain ⟨v, _, rfl, t1, t⟩ := tpa_cons t
    obtain ⟨v', _, rfl, t2, t⟩ := tpa_cons t
    cases tpa_nil t
    have hm : st.1 < ds.length ∧ st.2 ≤ 1 := MF.mem_all.mp hp
    refine ⟨_, (pss_cons (ps_asg (pe_ix ix_tup (pe_fld (pv 0) rfl) (pe_ix ix_tup (pv 1) pe_int (fun _ _ => rfl)) (fun _ _ => rfl)) (pg_tup (by rfl) (pgs_cons (pg_name (i := 2) sc_gate_of.nd rfl (by first | exact Or.inl rfl | exact Or.inr rfl)) (pgs_cons (pg_name (i := 3) sc_gate_of.nd rfl (by first | exact Or.inl rfl | exact Or.inr rfl)) (pgs_cons (pg_name (i := 4) sc_gate_of.nd rfl (by first | exact Or.inl rfl | exact Or.inr rfl)) (pgs_cons (pg_name (i := 5) sc_gate_of.nd rfl (by first | exact Or.inl rfl | exact Or.inr rfl)) pgs_nil))))))
      (pss_one (ps_ret (pe_ifExp (pt_cmpR op_eq (pe_ix ix_tup (pv 1) pe_int (fun _ _ => rfl)) pe_int (nomark _)) (pe_tup (pa_cons (pv 2) (pa_cons (pv 3) (pa_cons (pv 4) (pa_cons (pv 5) pa_nil))))) (pe_tup (pa_cons (pv 4) (pa_cons (pv 5) (pa_cons (pv 2) (pa_cons (pv 3) pa_nil))))))))), ?_⟩
    have hd : (ds.map doorD)[st.1]? = some (doorD (ds.getD st.1 (0, 1, 0, 1))) := by
      rw [List.getElem?_map, List.getElem?_eq_getElem hm.1]
      simp [List.getD, hm.1]
    apply st_asg
    · apply ev_ixT
      · exact ev_doors (by trivial) B.cl B.nd
      · apply ev_ix0
        · trivial
        · trivial
        · rfl
      · exact hd
    · intro x H2 s2 tx
      refine ⟨_, gb_door tx, ?_⟩
      have t2' := t2.same s2
      apply st_ret' (k := fun v H3 s3 t3 => q v H3 (Same.trans s2 s3) t3)
      · apply ev_if2
        · apply et_test
          apply ev_eqI
          · apply ev_ix1
            · trivial
            · trivial
            · rfl
          · trivial
        · trivial
        · trivial
      · show (if decide ((st.2 : Int) = 0) = true then _ else _) = doorD (MF.gate ds st)
        unfold MF.gate doorD
        by_cases h0 : st.2 = 0
        · simp [h0]
        · have : ¬ (st.2 : Int) = 0 := by omega
          simp [h0, this]
/-! ### steps_of_room, turned_step, steps_beyond -/
def prefixSteps (n : Nat) : List MF.Step := (List.range n).flatMap fun a => [(a, 0), (a, 1)]
theorem prefix_succ (n : Nat) : prefixSteps (n + 1) = prefixSteps n ++ [(n, 0), (n, 1)] := by simp [prefixSteps, List.range_succ]
theorem sc_steps_of_room : FnScope ["house", "room", "found", "at", "side"] ["house", "room"] (defScope s_steps_of_room) := ⟨rfl, rfl, rfl, by decide +kernel, rfl, by decide +kernel, by decide +kernel⟩
abbrev sp_steps_of_room (C : Addr) : Sp := fnSpL C (fun i : Int × List Door × Int => [.hs i.1 i.2.1, .num i.2.2]) (fun i => i.2.1.length ≤ 20) (fun i => (MF.stepsOf i.2.1 i.2.2).map stepD)
theorem ok_steps_of_room (F : Df K mg "steps_of_room" s_steps_of_room) (B : Bi K mg C) (h_gate_of : Cl P w K mg base "gate_of" 1 ["house", "step"] (sp_gate_of C)) : Cl P w K mg base "steps_of_room" 2 ["house", "room"] (sp_steps_of_room C) := by
  refine F.cl sc_steps_of_room (fun _ _ _ _ _ _ us hl => match us, hl with | [_, _], _ => rfl) (fun vs H Q E h => ?_) (fun f cdv A outer s H vs Q E hr h => ?_)
  · obtain ⟨i, t, _⟩ := h; exact t.length
  · obtain ⟨⟨r, ds, room⟩, t, hp, q⟩ := h
    obtain ⟨v, _, rfl, t1, t⟩ := tpa_cons t
    obtain ⟨v', _, rfl, t2, t⟩ := tpa_cons t
    cases tpa_nil t
    cases tp_num t2
    have hp : ds.length ≤ 20 := hp
    refine ⟨_, (pss_cons (ps_set (i := 2) sc_steps_of_room.nd rfl (by first | exact Or.inl rfl | exact Or.inr rfl) (pe_lst pa_nil))
      (pss_cons (ps_for PassesOwn.never rfl (pi_range1 (by rfl) B.range (pa_cons (pe_callB call_lenS (by rfl) B.len (by decide +kernel) (pa_cons (pe_fld (pv 0) rfl) pa_nil)) pa_nil)) (pg_name (i := 3) sc_steps_of_room.nd rfl (by first | exact Or.inl rfl | exact Or.inr rfl)) (pss_one (ps_for PassesOwn.never rfl (pi_tup (pe_tup (pa_cons pe_int (pa_cons pe_int pa_nil)))) (pg_name (i := 4) sc_steps_of_room.nd rfl (by first | exact Or.inl rfl | exact Or.inr rfl)) (pss_one (ps_if (pt_cmpR op_eq (pe_ix ix_tup (pe_cl h_gate_of (hr.mono (by decide)) (by rfl) (pa_cons (pv 0) (pa_cons (pe_tup (pa_cons (pv 3) (pa_cons (pv 4) pa_nil))) pa_nil))) pe_int (fun _ _ => rfl)) (pv 1) (nomark _)) (pss_one (ps_expr (pe_bm PySem.F.plainAttrs_list PySem.F.slot_list_append PySem.F.type_list_append mt_append (pv 2) (pa_cons (pe_tup (pa_cons (pv 3) (pa_cons (pv 4) pa_nil))) pa_nil)))) pss_nil)))))
      (pss_one (ps_ret (pv 2))))), ?_⟩
    apply st_setL (C := C) (ds := [])
    · apply evl_lst
      · trivial
      · exact Nat.zero_le _
    intro a vs0 H1 s1 hn ha r0
    cases tpa_nil r0
    have t1' := t1.same s1
    let flt (l : List MF.Step) : List D := (l.filter fun s => decide (MF.near ds s = room)).map stepD
    have fl_app : ∀ l x, flt (l ++ [x]) = if MF.near ds x = room then flt l ++ [stepD x] else flt l := by
      intro l x
      by_cases hx : MF.near ds x = room <;> simp [flt, List.filter_append, hx]
    have fl_len : ∀ l : List MF.Step, (flt l).length ≤ l.length := fun l => by simp only [flt, List.length_map]; exact List.length_filter_le _ _
    have pl : ∀ n, (prefixSteps n).length = 2 * n := by
      intro n
      induction n with
      | zero => rfl
      | succ n ih => rw [prefix_succ, List.length_append, ih]; simp; omega
    refine st_for (C := C) (wi := _) (ei_rng1 (n := ds.length) (C := C) ?_ (by omega)) (fun G i σ' H' => ∃ vs x y, σ' = [some v, some (.int room), some (.ref a), x, y] ∧ Gr C a G H' vs (flt (prefixSteps i))) ?_ ?_ ?_ ?_
    · apply ea_cons
      · have e : (D.num (ds.length : Int)) = D.num (((ds.map doorD).length : Nat) : Int) := by rw [List.length_map]
        rw [e]
        apply ev_lenT
        exact ev_doors (by trivial) B.cl B.nd
      · trivial
    · intro G sG
      exact ⟨[], none, none, rfl, Gr.start (sG _ _ ha) .nil⟩
    · rintro G i σ' H' sG ⟨vs, x, y, rfl, g⟩
      exact g.keeps (H := H1) (Fk := []) (sG _ _ ha) (by rw [ha]; simp) (by simp)
    · rintro G i d x σ' H' sG hi ⟨vs, y, z, rfl, g⟩ tx
      obtain ⟨hi2, rfl⟩ := rng_item hi
      cases tp_num tx
      refine ⟨_, gb_name, ?_⟩
      have stG : Stay H1 H' := Stay.trans (Same.stay sG) (g.stay (sG _ _ ha))
      have t1g := t1'.stay stG
      have two : ∀ j : Nat, j < 2 → (i, j) ∈ MF.allSteps ds := fun j hj => MF.mem_all.mpr ⟨hi2, by show j ≤ 1; omega⟩
      refine st_for (C := C) (wi := _) (ei_tup (ds := [.num 0, .num 1]) ?_) (fun G2 j σ' H2 => ∃ vs z, σ' = [some v, some (.int room), some (.ref a), some (.int i), z] ∧ Gr C a G H2 vs (flt (prefixSteps i ++ [(i, 0), (i, 1)].take j)) ∧ But a G2 H2 ∧ G2 a ≠ none) ?_ ?_ ?_ ?_
      · trivial
      · intro G2 s2
        refine ⟨vs, z, rfl, ?_, But.refl _ _, ?_⟩
        · rw [List.take_zero, List.append_nil]; exact g.same s2
        · rw [s2 _ _ g.2.1]; simp
      · rintro G2 j σ' H2 s2 ⟨vs, z, rfl, g2, b2, _⟩
        have e2 : G2 a = some (.lst _) := s2 _ _ g.2.1
        refine ⟨b2.stay (notImm_lst e2), fun b o hb e => b2 b o (fun z => ?_) e⟩
        subst z
        rcases hb with hb | hb
        · rw [g.2.1] at hb; cases hb
        · cases hb
      · rintro G2 j d x σ' H2 s2 hj ⟨vs2, z2, rfl, g2, b2, ne2⟩ tx
        have hj2 : j < 2 ∧ d = .num (j : Int) := by
          match j, hj with
          | 0, hj => exact ⟨by omega, by simpa using hj.symm⟩
          | 1, hj => exact ⟨by omega, by simpa using hj.symm⟩
          | j + 2, hj => simp at hj
        obtain ⟨hj2, rfl⟩ := hj2
        cases tp_num tx
        refine ⟨_, gb_name, ?_⟩
        have t1h := t1'.stay (Stay.trans (Same.stay sG) (g2.stay (sG _ _ ha)))
        have tk : [(i, 0), (i, 1)].take (j + 1) = [(i, 0), (i, 1)].take j ++ [(i, j)] := by
          match j, hj2 with
          | 0, _ => rfl
          | 1, _ => rfl
        have ll : (flt (prefixSteps i ++ [(i, 0), (i, 1)].take j)).length < 100 := by
          have h1 := fl_len (prefixSteps i ++ [(i, 0), (i, 1)].take j)
          rw [List.length_append, pl] at h1
          have h2 : ([(i, 0), (i, 1)].take j).length ≤ 2 := by rw [List.length_take]; simp; omega
          omega
        apply st_if
        · apply et_test (C := C)
          apply ev_eqI
          · apply ev_ix0
            · apply ev_fn (r, ds, (i, j))
              · trivial
              · rfl
              · exact two j hj2
            · trivial
            · rfl
          · trivial
        · intro hb H3 s3
          have hb : MF.near ds (i, j) = room := of_decide_eq_true hb
          apply st_app1 (C := C) (d := stepD (i, j)) (hv := rfl) (ha := s3 _ _ g2.2.1)
          · rw [g2.len]; exact small_lt ll (by omega)
          · show EvD C _ _ _ (.tup [.num (i : Int), .num (j : Int)])
            trivial
          · intro v4 H4 s4 t4
            refine ⟨vs2 ++ [v4], _, rfl, ?_, ?_, ne2⟩
            · rw [tk, ← List.append_assoc, fl_app, if_pos hb]
              exact (g2.same s3).app s4 t4
            · exact but_set (But.trans b2 (Same.but (Same.trans s3 s4)))
        · intro hb H3 s3
          have hb : ¬ MF.near ds (i, j) = room := of_decide_eq_false hb
          refine ⟨vs2, _, rfl, ?_, But.trans b2 (Same.but s3), ne2⟩
          rw [tk, ← List.append_assoc, fl_app, if_neg hb]
          exact g2.same s3
      · rintro G2 σ' H2 s2 ⟨vs2, z2, rfl, g2, b2, ne2⟩
        refine ⟨vs2, _, _, rfl, ?_⟩
        rw [prefix_succ]
        exact g2
    · rintro G σ' H' sG ⟨vs, x, y, rfl, g⟩
      have e : ((List.range ds.length).map fun k => D.num ((k : Nat) : Int)).length = ds.length := by simp
      rw [e] at g
      exact ⟨_, rfl, q a vs H' ((g.re (Same.but sG)).back s1 hn) hn g.2.1 g.2.2⟩
theorem sc_turned_step : FnScope ["step"] ["step"] (defScope s_turned_step) := ⟨rfl, rfl, rfl, by decide +kernel, rfl, by decide +kernel, by decide +kernel⟩
abbrev sp_turned_step (C : Addr) : Sp := fnSp C (fun s : MF.Step => [stepD s]) (fun s => s.2 ≤ 1) (fun s => stepD (MF.turn s))
theorem ok_turned_step (F : Df K mg "turned_step" s_turned_step) (B : Bi K mg C) : Cl P w K mg base "turned_step" 1 ["step"] (sp_turned_step C) := by
  refine F.cl sc_turned_step (fun _ _ _ _ _ _ us hl => match us, hl with | [_], _ => rfl) (fun vs H Q E h => ?_) (fun f cdv A outer s H vs Q E hr h => ?_)
  · obtain ⟨i, t, _⟩ := h; exact t.length
  · obtain ⟨st, t, hp, q⟩ := h
    obtain ⟨v, _, rfl, t1, t⟩ := tpa_cons t
    cases tpa_nil t
    have hp : st.2 ≤ 1 := hp
    refine ⟨_, (pss_one (ps_ret (pe_tup (pa_cons (pe_ix ix_tup (pv 0) pe_int (fun _ _ => rfl)) (pa_cons (pe_op op_sub pe_int (pe_ix ix_tup (pv 0) pe_int (fun _ _ => rfl))) pa_nil))))), ?_⟩
    apply st_ret' (k := q)
    · apply ev_tup
      · apply ea_cons
        · apply ev_ix0
          · trivial
          · trivial
          · rfl
        · apply ea_cons
          · apply ev_opI
            · trivial
            · apply ev_ix1
              · trivial
              · trivial
              · rfl
          · trivial
      · show 2 ≤ sizeLine; decide
    · show D.tup [.num (st.1 : Int), .num (1 - (st.2 : Int))] = stepD (MF.turn st)
      unfold stepD MF.turn
      have : (1 - (st.2 : Int)) = ((1 - st.2 : Nat) : Int) := by omega
      rw [this]
/-- a pass beyond as a datum -/
def beyD (q : MF.Step × Int) : D := .tup [stepD q.1, .num q.2]
theorem sc_steps_beyond : FnScope ["house", "room", "last", "found", "step"] ["house", "room", "last"] (defScope s_steps_beyond) := ⟨rfl, rfl, rfl, by decide +kernel, rfl, by decide +kernel, by decide +kernel⟩
abbrev sp_steps_beyond (C : Addr) : Sp := fnSpL C (fun i : Int × List Door × Int × Option MF.Step => [.hs i.1 i.2.1, .num i.2.2.1, lastD i.2.2.2]) (fun i => i.2.1.length ≤ 20 ∧ ∀ l, i.2.2.2 = some l → l.2 ≤ 1) (fun i => (MF.beyond i.2.1 i.2.2.1 i.2.2.2).map beyD)
theorem ok_steps_beyond (F : Df K mg "steps_beyond" s_steps_beyond) (B : Bi K mg C) (h_steps_of_room : Cl P w K mg base "steps_of_room" 2 ["house", "room"] (sp_steps_of_room C)) (h_turned_step : Cl P w K mg base "turned_step" 1 ["step"] (sp_turned_step C)) : Cl P w K mg base "steps_beyond" 3 ["house", "room", "last"] (sp_steps_beyond C) := by
  refine F.cl sc_steps_beyond (fun _ _ _ _ _ _ us hl => match us, hl with | [_, _, _], _ => rfl) (fun vs H Q E h => ?_) (fun f cdv A outer s H vs Q E hr h => ?_)
  · obtain ⟨i, t, _⟩ := h; exact t.length
  · obtain ⟨⟨r, ds, room, last⟩, t, hp, q⟩ := h
    obtain ⟨v, _, rfl, t1, t⟩ := tpa_cons t
    obtain ⟨v', _, rfl, t2, t⟩ := tpa_cons t
    obtain ⟨vl, _, rfl, t3, t⟩ := tpa_cons t
    cases tpa_nil t
    cases tp_num t2
    have hp : ds.length ≤ 20 ∧ ∀ l, last = some l → l.2 ≤ 1 := hp
    refine ⟨_, (pss_cons (ps_set (i := 3) sc_steps_beyond.nd rfl (by first | exact Or.inl rfl | exact Or.inr rfl) (pe_lst pa_nil))
      (pss_cons (ps_for PassesOwn.never rfl (pi_list (pe_cl h_steps_of_room (hr.mono (by decide)) (by rfl) (pa_cons (pv 0) (pa_cons (pv 1) pa_nil)))) (pg_name (i := 4) sc_steps_beyond.nd rfl (by first | exact Or.inl rfl | exact Or.inr rfl)) (pss_one (ps_expr (pe_bm PySem.F.plainAttrs_list PySem.F.slot_list_append PySem.F.type_list_append mt_append (pv 3) (pa_cons (pe_tup (pa_cons (pv 4) (pa_cons (pe_ifExp (PW.pt (pw_and (pt_cmp (pc_notN (pv 2)) rfl) (pw_and1 (pt_cmpR (op_eqD hr.units) (pv 4) (pe_cl h_turned_step (hr.mono (by decide)) (by rfl) (pa_cons (pv 2) pa_nil)) (nomark _))))) pe_int pe_int) pa_nil))) pa_nil)))))
      (pss_one (ps_ret (pv 3))))), ?_⟩
    apply st_setL (C := C) (ds := [])
    · apply evl_lst
      · trivial
      · exact Nat.zero_le _
    intro a vs0 H1 s1 hn ha r0
    cases tpa_nil r0
    have t1' := t1.same s1
    have t3' := t3.same s1
    have sl : (MF.stepsOf ds room).length ≤ 40 := by
      unfold MF.stepsOf MF.allSteps
      refine Nat.le_trans (List.length_filter_le _ _) ?_
      have : ∀ n, ((List.range n).flatMap fun a => [(a, 0), (a, 1)] : List MF.Step).length = 2 * n := by
        intro n
        induction n with
        | zero => rfl
        | succ n ih => rw [List.range_succ, List.flatMap_append, List.length_append, ih]; simp; omega
      rw [this]; omega
    refine st_for (C := C) (wi := _) (ei_lst (C := C) (ds := (MF.stepsOf ds room).map stepD) ?_) (fun G i σ' H' => ∃ vs x, σ' = [some v, some (.int room), some vl, some (.ref a), x] ∧ Gr C a G H' vs (((MF.beyond ds room last).map beyD).take i)) ?_ ?_ ?_ ?_
    · apply evl_fn (r, ds, room)
      · trivial
      · rfl
      · exact hp.1
    · intro G sG
      exact ⟨[], none, rfl, Gr.start (sG _ _ ha) .nil⟩
    · rintro G i σ' H' sG ⟨vs, x, rfl, g⟩
      exact g.keeps (H := H1) (Fk := []) (sG _ _ ha) (by rw [ha]; simp) (by simp)
    · rintro G i d x σ' H' sG hi ⟨vs, y, rfl, g⟩ tx
      obtain ⟨st, hst, rfl⟩ := map_item hi
      refine ⟨_, gb_name, ?_⟩
      have stG : Stay H1 H' := Stay.trans (Same.stay sG) (g.stay (sG _ _ ha))
      have t3g := t3'.stay stG
      have hin : st ∈ MF.stepsOf ds room := List.mem_of_getElem? hst
      have hlt : i < (MF.stepsOf ds room).length := (List.getElem?_eq_some_iff.mp hst).1
      have tk : ((MF.beyond ds room last).map beyD).take (i + 1) = ((MF.beyond ds room last).map beyD).take i ++ [beyD (st, MF.least last st)] := by
        rw [List.take_add_one]
        congr 1
        unfold MF.beyond
        rw [List.map_map, List.getElem?_map, hst]
        rfl
      apply st_app1 (C := C) (d := beyD (st, MF.least last st)) (hv := rfl) (ha := g.2.1)
      · rw [g.len, List.length_take]; exact small_lt (m := 100) (by omega) (by omega)
      · show EvD C _ _ _ (.tup [stepD st, .num (MF.least last st)])
        apply ev_tup
        · apply ea_cons
          · trivial
          · apply ea_cons
            · have e : D.num (MF.least last st) = if (!isNon (lastD last) && PyData.eqv (py (stepD st)) (py (stepD (MF.turn (last.getD (0, 0)))))) = true then D.num 1 else D.num 0 := by
                rw [eqv_step, isNon_last]
                cases last with
                | none => rfl
                | some l =>
                  show D.num (if st = MF.turn l then 1 else 0) = _
                  by_cases h : st = MF.turn l <;> simp [h]
              rw [e]
              apply ev_if2
              · apply et_and
                · trivial
                · intro hnn
                  apply et_test (C := C)
                  obtain ⟨l, rfl⟩ : ∃ l, last = some l := by
                    cases last with
                    | none => simp [isNon_last] at hnn
                    | some l => exact ⟨l, rfl⟩
                  apply ev_eqD
                  · trivial
                  · apply ev_fn l
                    · apply ea_cons
                      · exact ev_var rfl t3g
                      · trivial
                    · rfl
                    · exact hp.2 l rfl
                  · rfl
                  · rfl
                  · rfl
                  · rfl
              · trivial
              · trivial
            · trivial
        · show 2 ≤ sizeLine; decide
      · intro v4 H4 s4 t4
        refine ⟨vs ++ [v4], _, rfl, ?_⟩
        rw [tk]
        exact g.app s4 t4
    · rintro G σ' H' sG ⟨vs, x, rfl, g⟩
      have e : ((MF.beyond ds room last).map beyD).take ((MF.stepsOf ds room).map stepD).length = (MF.beyond ds room last).map beyD := by
        apply List.take_of_length_le
        unfold MF.beyond
        simp
      rw [e] at g
      exact ⟨_, rfl, q a vs H' ((g.re (Same.but sG)).back s1 hn) hn g.2.1 g.2.2⟩
end
end Kw

set_option Elab.async false
set_option linter.all false
set_option maxRecDepth 100000
set_option maxHeartbeats 4000000
/-! Houses made. -/
namespace Kw
open PySem PySem.Spec PyProof.Rows L2 Y
local macro_rules | `(tactic| trivial) => `(tactic| first
  | with_reducible exact ev_int
  | with_reducible exact ev_bl
  | with_reducible exact ev_non
  | with_reducible exact ea_nil
  | with_reducible exact et_yes
  | ((with_reducible apply ev_var); exact rfl; first | exact .num _ | exact .bl _ | exact .non | assumption)
  | ((with_reducible apply ea_cons); trivial; trivial)
  | ((with_reducible apply ev_tup); trivial; first | decide | (show _ ≤ sizeLine; simp; decide))
  | ((with_reducible apply ev_ix0); trivial; trivial; exact rfl)
  | ((with_reducible apply ev_ix1); trivial; trivial; exact rfl)
  | ((with_reducible apply ev_ix2); trivial; trivial; exact rfl)
  | ((with_reducible apply ev_ix3); trivial; trivial; exact rfl)
  | ((with_reducible apply ev_opI); trivial; trivial)
  | ((with_reducible apply ev_opB); trivial; trivial)
  | ((with_reducible apply ev_eqI); trivial; trivial)
  | ((with_reducible apply ev_neI); trivial; trivial)
  | ((with_reducible apply ev_un); trivial)
  | ((with_reducible apply ev_chain); trivial; trivial; trivial)
  | ((with_reducible apply ev_abs); trivial)
  | ((with_reducible apply ev_intI); trivial)
  | ((with_reducible apply ev_gcd); trivial; trivial)
  | ((with_reducible apply ev_lenT); trivial)
  | ((with_reducible apply et_test); trivial)
  | ((with_reducible apply et_B); trivial)
  | ((with_reducible apply et_not); trivial)
  | ((with_reducible apply et_and); trivial; (intro _; trivial))
  | ((with_reducible apply et_or); trivial; (intro _; trivial))
  | ((with_reducible apply ev_andV); trivial; (intro _; trivial))
  | ((with_reducible apply ev_orV); trivial; (intro _; trivial))
  | ((with_reducible apply ev_notV); trivial)
  | ((with_reducible apply ev_isN); trivial)
  | ((with_reducible apply ev_notN); trivial)
  | ((with_reducible apply ev_isiII); trivial)
  | ((with_reducible apply ev_isiIB); trivial)
  | ((with_reducible apply ev_isiTT); trivial)
  | ((with_reducible apply ev_isH); trivial))
/-- a right door -/
def DOk (rooms : Int) (d : Door) : Prop := (0 ≤ d.1 ∧ d.1 < rooms) ∧ (0 ≤ d.2.2.1 ∧ d.2.2.1 < rooms) ∧ (d.2.1 ≠ 0 ∧ -999 ≤ d.2.1 ∧ d.2.1 ≤ 999) ∧ (d.2.2.2 ≠ 0 ∧ -999 ≤ d.2.2.2 ∧ d.2.2.2 ≤ 999)
section
variable {P : Program} {w : World} {K : PySem.W.Frag} {mg : Str → Option Value} {base : Heap} {C : Addr}
theorem sc_is_door : FnScope ["value", "rooms", "near", "first", "far", "second", "item"] ["value", "rooms"] (defScope s_is_door) := ⟨rfl, rfl, rfl, by decide +kernel, rfl, by decide +kernel, by decide +kernel⟩
abbrev sp_is_door (C : Addr) : Sp := fnSp C (fun i : Door × Int => [doorD i.1, .num i.2]) (fun i => DOk i.2 i.1) (fun _ => .bl true)
theorem ok_is_door (F : Df K mg "is_door" s_is_door) (B : Bi K mg C) (h_is_number : Cl P w K mg base "is_number" 1 ["value"] (sp_is_number C)) (h_is_below : Cl P w K mg base "is_below" 2 ["value", "size"] (sp_is_below C)) : Cl P w K mg base "is_door" 3 ["value", "rooms"] (sp_is_door C) := by
  refine F.cl sc_is_door (fun _ _ _ _ _ _ us hl => match us, hl with | [_, _], _ => rfl) (fun vs H Q E h => ?_) (fun f cdv A outer s H vs Q E hr h => ?_)
  · obtain ⟨i, t, _⟩ := h; exact t.length
  · obtain ⟨⟨d, rooms⟩, t, hp, q⟩ := h
    obtain ⟨v, _, rfl, t1, t⟩ := tpa_cons t
    obtain ⟨v', _, rfl, t2, t⟩ := tpa_cons t
    cases tpa_nil t
    cases tp_num t2
    obtain ⟨⟨n1, n2⟩, ⟨f1, f2⟩, ⟨a1, a2, a3⟩, ⟨b1, b2, b3⟩⟩ := hp
    dsimp only at n1 n2 f1 f2 a1 a2 a3 b1 b2 b3 t1
    refine ⟨_, (pss_cons (ps_if (PW.pt (pw_or (pt_not (pt_val (pe_callB call_isi (by rfl) B.isinstance (by decide +kernel) (pa_cons (pv 0) (pa_cons (pe_bltn (v := .ty "tuple") (by rfl) B.tuple (by decide +kernel) rfl) pa_nil))))) (pw_or1 (pt_cmpR op_ne (pe_callB call_lenS (by rfl) B.len (by decide +kernel) (pa_cons (pv 0) pa_nil)) pe_int (nomark _))))) (pss_one (ps_ret pe_bl)) pss_nil)
      (pss_cons (ps_asg (pv 0) (pg_tup (by rfl) (pgs_cons (pg_name (i := 2) sc_is_door.nd rfl (by first | exact Or.inl rfl | exact Or.inr rfl)) (pgs_cons (pg_name (i := 3) sc_is_door.nd rfl (by first | exact Or.inl rfl | exact Or.inr rfl)) (pgs_cons (pg_name (i := 4) sc_is_door.nd rfl (by first | exact Or.inl rfl | exact Or.inr rfl)) (pgs_cons (pg_name (i := 5) sc_is_door.nd rfl (by first | exact Or.inl rfl | exact Or.inr rfl)) pgs_nil))))))
      (pss_cons (ps_if (PW.pt (pw_or (pt_not (pt_val (pe_cl h_is_below (hr.mono (by decide)) (by rfl) (pa_cons (pv 2) (pa_cons (pv 1) pa_nil))))) (pw_or1 (pt_not (pt_val (pe_cl h_is_below (hr.mono (by decide)) (by rfl) (pa_cons (pv 4) (pa_cons (pv 1) pa_nil)))))))) (pss_one (ps_ret pe_bl)) pss_nil)
      (pss_one (ps_ret (pe_callB (cr_all rfl) (by rfl) B.all (by decide +kernel) (pa_cons (pe_lc (own := [("item", 6)]) (tt := tYes)  rfl sc_is_door.nd (pi_tup (pe_tup (pa_cons (pv 3) (pa_cons (pv 5) pa_nil)))) (blkOk_by (own := [("item", 6)]) (N := ["value", "rooms", "near", "first", "far", "second", "item"]) (sc := defScope s_is_door) (by decide +kernel)) (fun _ _ _ _ _ => (pg_name (i := 6) sc_is_door.nd rfl (by first | exact Or.inl rfl | exact Or.inr rfl))) (fun _ _ _ _ _ => pts_nil) (fun _ _ _ _ _ => (pe_and (pe_cl h_is_number (hr.mono (by decide)) (by rfl) (pa_cons (pv 6) pa_nil)) (pe_and (pe_cmpR op_ne (pv 6) pe_int (nomark _)) (pe_one (pe_chain op_le op_le (pe_un un_neg (pe_gint (by rfl) B.GREATEST)) (pv 6) (pe_gint (by rfl) B.GREATEST))))))) pa_nil))))))), ?_⟩
    have t1' : Tp C H v (.tup [.num d.1, .num d.2.1, .num d.2.2.1, .num d.2.2.2]) := t1
    have below : ∀ (n : Int), 0 ≤ n → n < rooms → D.bl true = D.bl (decide (0 ≤ n) && decide (n < rooms)) := by
      intro n h1 h2; simp [h1, h2]
    apply st_no (h := ?_)
    · intro H2 s2
      have t1b := t1.same s2
      apply st_asg (C := C) (d := doorD d)
      · exact ev_var rfl t1b
      · intro x H3 s3 tx
        refine ⟨_, gb_door tx, ?_⟩
        apply st_no (h := ?_)
        · intro H4 s4
          apply st_ret' (k := fun v H5 s5 t5 => q v H5 (Same.trans s2 (Same.trans s3 (Same.trans s4 s5))) t5)
          · apply ev_all (C := C) (bs := [true, true])
            · apply evl_lc (keep := fun _ => some (.bl true)) (h := ei_tup (ds := [.num d.2.1, .num d.2.2.2]) ?_) (hl := ?_)
              · intro e x H6 he s6 t6
                have hn : ∃ n : Int, e = .num n ∧ n ≠ 0 ∧ -999 ≤ n ∧ n ≤ 999 := by
                  simp only [List.mem_cons, List.not_mem_nil, or_false] at he
                  rcases he with rfl | rfl
                  · exact ⟨_, rfl, a1, a2, a3⟩
                  · exact ⟨_, rfl, b1, b2, b3⟩
                obtain ⟨n, rfl, c1, c2, c3⟩ := hn
                cases tp_num t6
                refine ⟨_, gb_name, rfl, et_yes, fun z hz => ?_⟩
                cases hz
                have e1 : D.bl true = D.bl (true && (!decide (n = 0) && (decide (-999 ≤ n) && decide (n ≤ 999)))) := by simp [c1, c2, c3]
                rw [e1]
                apply ev_andV
                · apply ev_fn n
                  · trivial
                  · rfl
                  · exact True.intro
                · intro _
                  trivial
              · trivial
              · show 2 ≤ sizeLine; decide
            · rfl
          · rfl
        · apply et_or (b := false) (c := false)
          · apply et_not (b := true)
            apply et_B (C := C)
            rw [below d.1 n1 n2]
            apply ev_fn (d.1, rooms)
            · trivial
            · rfl
            · exact True.intro
          · intro _
            apply et_not (b := true)
            apply et_B (C := C)
            rw [below d.2.2.1 f1 f2]
            apply ev_fn (d.2.2.1, rooms)
            · trivial
            · rfl
            · exact True.intro
    · apply et_or (b := false) (c := false)
      · apply et_not (b := true)
        apply et_B (C := C)
        trivial
      · intro _
        apply et_test (C := C)
        have e : D.bl false = D.bl (!decide (((4 : Nat) : Int) = 4)) := rfl
        rw [e]
        apply ev_neI
        · exact ev_lenT (ev_var rfl t1')
        · trivial
theorem sc_are_doors : FnScope ["value", "rooms", "door"] ["value", "rooms"] (defScope s_are_doors) := ⟨rfl, rfl, rfl, by decide +kernel, rfl, by decide +kernel, by decide +kernel⟩
abbrev sp_are_doors (C : Addr) : Sp := fnSp C (fun i : List Door × Int => [.tup (i.1.map doorD), .num i.2]) (fun i => i.1.length ≤ 20 ∧ ∀ d ∈ i.1, DOk i.2 d) (fun _ => .bl true)
theorem ok_are_doors (F : Df K mg "are_doors" s_are_doors) (B : Bi K mg C) (h_is_door : Cl P w K mg base "is_door" 3 ["value", "rooms"] (sp_is_door C)) : Cl P w K mg base "are_doors" 4 ["value", "rooms"] (sp_are_doors C) := by
  refine F.cl sc_are_doors (fun _ _ _ _ _ _ us hl => match us, hl with | [_, _], _ => rfl) (fun vs H Q E h => ?_) (fun f cdv A outer s H vs Q E hr h => ?_)
  · obtain ⟨i, t, _⟩ := h; exact t.length
  · obtain ⟨⟨ds, rooms⟩, t, hp, q⟩ := h
    obtain ⟨v, _, rfl, t1, t⟩ := tpa_cons t
    obtain ⟨v', _, rfl, t2, t⟩ := tpa_cons t
    cases tpa_nil t
    cases tp_num t2
    have hp : ds.length ≤ 20 ∧ ∀ d ∈ ds, DOk rooms d := hp
    dsimp only at t1
    refine ⟨_, (pss_cons (ps_if (PW.pt (pw_or (pt_not (pt_val (pe_callB call_isi (by rfl) B.isinstance (by decide +kernel) (pa_cons (pv 0) (pa_cons (pe_bltn (v := .ty "tuple") (by rfl) B.tuple (by decide +kernel) rfl) pa_nil))))) (pw_or1 (pt_cmpR op_gt (pe_callB call_lenS (by rfl) B.len (by decide +kernel) (pa_cons (pv 0) pa_nil)) (pe_gint (by rfl) B.MOST_DOORS) (nomark _))))) (pss_one (ps_ret pe_bl)) pss_nil)
      (pss_one (ps_ret (pe_callB (cr_all rfl) (by rfl) B.all (by decide +kernel) (pa_cons (pe_lc (own := [("door", 2)]) (tt := tYes)  rfl sc_are_doors.nd (pi_tup (pv 0)) (blkOk_by (own := [("door", 2)]) (N := ["value", "rooms", "door"]) (sc := defScope s_are_doors) (by decide +kernel)) (fun _ _ _ _ _ => (pg_name (i := 2) sc_are_doors.nd rfl (by first | exact Or.inl rfl | exact Or.inr rfl))) (fun _ _ _ _ _ => pts_nil) (fun _ _ _ _ _ => (pe_cl h_is_door (hr.mono (by decide)) (by rfl) (pa_cons (pv 2) (pa_cons (pv 1) pa_nil))))) pa_nil))))), ?_⟩
    apply st_no (h := ?_)
    · intro H2 s2
      have t1b := t1.same s2
      apply st_ret' (k := fun v H5 s5 t5 => q v H5 (Same.trans s2 s5) t5)
      · apply ev_all (C := C) (bs := ds.map fun _ => true)
        · apply evl_lc (keep := fun _ => some (.bl true)) (h := ei_tup (ds := ds.map doorD) ?_) (hl := ?_)
          · intro e x H6 he s6 t6
            obtain ⟨d, hd, rfl⟩ := List.mem_map.mp he
            refine ⟨_, gb_name, rfl, et_yes, fun z hz => ?_⟩
            cases hz
            apply ev_fn (d, rooms)
            · trivial
            · rfl
            · exact hp.2 d hd
          · exact ev_var rfl t1b
          · rw [List.length_map]; exact small_len hp.1 (by omega)
        · simp [List.filterMap_map, Function.comp_def]
      · simp
    · apply et_or (b := false) (c := false)
      · apply et_not (b := true)
        apply et_B (C := C)
        trivial
      · intro _
        apply et_test (C := C)
        have e : D.bl false = D.bl (decide (20 < (((ds.map doorD).length : Nat) : Int))) := by
          rw [List.length_map, decide_eq_false (by omega)]
        rw [e]
        apply ev_opB (g := fun i j => decide (j < i))
        · trivial
        · trivial
end
end Kw

set_option Elab.async false
set_option linter.all false
set_option maxRecDepth 100000
set_option maxHeartbeats 4000000
/-! Two objects that change; lists against []; objects made; dicts of whole numbers. -/
namespace Y
open PySem PySem.Spec PyProof.Rows L2
/-- all but p and q is as it was -/
def But2 (p q : Addr) (H H' : Hp) : Prop := ∀ b o, b ≠ p → b ≠ q → H b = some o → H' b = some o
section
variable {C : Addr} {K : PySem.W.Frag} {te ta tb : TE} {as : TA} {σ : L2.St} {H H0 H1 H' H2 : Hp} {p q : Addr} {vs : List V} {ds : List D} {d : D} {v : V} {i : Int} {o : HO}
theorem But2.refl (p q : Addr) (H : Hp) : But2 p q H H := fun _ _ _ _ h => h
theorem But2.trans (a : But2 p q H H1) (b : But2 p q H1 H2) : But2 p q H H2 := fun c o n m h => b c o n m (a c o n m h)
theorem Same.but2 (s : Same H H') : But2 p q H H' := fun b o _ _ e => s b o e
theorem but2_set (s : But2 p q H H') : But2 p q H (upd H' p o) := fun b u n m e => by rw [upd_ne n]; exact s b u n m e
theorem but2_set' (s : But2 p q H H') : But2 p q H (upd H' q o) := fun b u n m e => by rw [upd_ne m]; exact s b u n m e
theorem But2.stay (s : But2 p q H H') (n : ∀ o, H p = some o → ¬ Imm o) (m : ∀ o, H q = some o → ¬ Imm o) : Stay H H' := fun b o e i =>
  s b o (fun z => n o (by rw [← z]; exact e) i) (fun z => m o (by rw [← z]; exact e) i) e
theorem But2.back (s : But2 p q H H') (s0 : Same H0 H) (n : H0 p = none) (m : H0 q = none) : Same H0 H' := fun b o e => s b o (ne_of_none e n) (ne_of_none e m) (s0 b o e)
theorem But2.keeps (s : But2 p q H1 H') {H : Hp} {Fk : List Addr} (hp : H p ≠ none) (hq : H q ≠ none) (fp : p ∉ Fk) (fq : q ∉ Fk) : ∀ b o, (H b = none ∨ b ∈ Fk) → H1 b = some o → H' b = some o := fun b o hb e =>
  s b o (fun z => by subst z; rcases hb with hb | hb; exact hp hb; exact fp hb) (fun z => by subst z; rcases hb with hb | hb; exact hq hb; exact fq hb) e
theorem notImm_dK {xs : List (Key × V)} (h : H p = some (.dK xs)) : ∀ o, H p = some o → ¬ Imm o := fun o e i => by
  rw [h] at e; cases e; exact i
/-- xs != [] -/
theorem et_neNil {a : Addr} (ha : EvV te σ H (.ref a)) (h : H a = some (.lst vs)) (t : TpA C H vs ds) (fl : flatA ds = true) (sh : SeqAt.shaped (.list (pyA ds)) = true) : EvT (tTest (tOp (rNeD K) te (tLst tNil))) σ H (!ds.isEmpty) := fun H1 s Q k =>
  ha H1 s _ fun H2 s2 => ⟨Nat.zero_le _, fun x hx => by
    have sx : Same H2 (upd H2 x (.lst [])) := Same.new hx
    have hs : SeqAt.shaped (.list []) = true := rfl
    have e : PyData.eqv (.list (pyA ds)) (.list []) = ds.isEmpty := by cases ds <;> rfl
    refine ⟨.list (pyA ds), .list [], .lst (.inl (.inl (sx _ _ (s2 _ _ (s _ _ h))))) (TpA.dp (((t.same s).same s2).same sx) fl), .lst (.inl (.inl upd_same)) .nil, sh, hs, _, rfl, ?_⟩
    rw [e]
    exact k _ (Same.newer s2 hx)⟩
theorem pyA_nums (ns : List Int) : pyA (ns.map D.num) = ns.map PyData.int := by
  induction ns with
  | nil => rfl
  | cons n ns ih => simp [pyA, py, ih]
theorem flatA_nums (ns : List Int) : flatA (ns.map D.num) = true := by
  induction ns with
  | nil => rfl
  | cons n ns ih => simp [flatA, flat, ih]
theorem et_neNums {a : Addr} {ns : List Int} (ha : EvV te σ H (.ref a)) (h : H a = some (.lst (ns.map V.int))) : EvT (tTest (tOp (rNeD K) te (tLst tNil))) σ H (!ns.isEmpty) := by
  have := et_neNil (K := K) (C := 0) ha h (of_nums 0 H ns) (flatA_nums ns) (by rw [pyA_nums]; exact PySem.W.ke_shaped_ints ns)
  rwa [List.isEmpty_map] at this
/-! dicts whose keys are whole numbers, whose values are True -/
def knd (kn : List Int) : List (Key × V) := kn.map fun r => (Sum.inl r, V.bl true)
theorem knd_get (kn : List Int) (r : Int) : (valV (knd kn) (.inl r : Key)).isSome = decide (r ∈ kn) := by
  unfold valV knd
  rw [Option.isSome_map]
  induction kn with
  | nil => rfl
  | cons k kn ih =>
    rw [List.map_cons, List.find?_cons]
    by_cases h : k = r
    · subst h; simp
    · have h1 : ¬ (Sum.inl k : Key) = Sum.inl r := fun z => h (Sum.inl.inj z)
      have h2 : ¬ r = k := fun z => h z.symm
      simp only [h1, decide_false, List.mem_cons, h2, false_or]
      exact ih
theorem knd_put (kn : List Int) (r : Int) (h : r ∉ kn) : putK (knd kn) (.inl r : Key) (.bl true) = knd (kn ++ [r]) := by
  have hg := knd_get kn r
  have e : (valV (knd kn) (.inl r : Key)).isSome = false := by rw [hg]; exact decide_eq_false h
  unfold putK
  unfold valV at e
  simp only [Option.isSome_map] at e
  simp [e, knd, valV]
  exact fun z => absurd z h
/-- k not in d -/
theorem et_notIn {a : Addr} {kn : List Int} {r : Int} (hr : EvD C ta σ H (.num r)) (hd : EvV te σ H (.ref a)) (h : H a = some (.dK (knd kn))) : EvT (tTest (tDNotIn ta te)) σ H (!decide (r ∈ kn)) := fun H1 s Q q =>
  hr H1 s _ fun v H2 s2 t2 => by
    cases tp_num t2
    refine hd H2 (Same.trans s s2) _ fun H3 s3 => ⟨a, _, rfl, DGet.k (k := .inl r) (s3 _ _ (s2 _ _ (s _ _ h))), _, rfl, ?_⟩
    rw [knd_get]
    exact q H3 (Same.trans s2 s3)
/-! ### objects made -/
/-- C's __init__ is this def -/
def DfM (K : PySem.W.Frag) (C : Addr) (qual : Str) (st : Stmt) : Prop := ∃ f fd, Mk K C f ∧ FunD K "__init__" qual (defArgs st) (defBody st) (defScope st) [] [] f fd
def ClM (P : Program) (w : World) (K : PySem.W.Frag) (mg : Str → Option Value) (base : Heap) (C : Addr) (k : Nat) (ps : List Str) (sp : Sp) : Prop :=
  ∃ f fd, Mk K C f ∧ Binds K fd ps [] ∧ FnOk P w K mg base CX0 k f fd ps sp
end
section
variable {P : Program} {w : World} {K : PySem.W.Frag} {mg : Str → Option Value} {base : Heap} {C : Addr} {x : Str} {st : Stmt} {N ps : List Str} {k : Nat} {sp : Sp}
theorem DfM.cl (F : DfM K C x st) (S : FnScope N ps (defScope st))
    (hb : ∀ (kV doc pm : Value) (an : Option Addr) (cdv ct : Value) (us : List Value), us.length = ps.length → bindArgs (PySem.W.fnOf "__init__" x (defArgs st) (defBody st) (defScope st) .none kV doc pm an cdv ct) ⟨us, []⟩ = pure (ps.zip us))
    (len : ∀ vs H Q E, sp vs H Q E → vs.length = ps.length)
    (body : ∀ (f : Addr) (cdv : Value) (A : Around) (outer : List Env) (s : Shared) (H : Hp) (vs : List V) (Q : VK) (E : XK), Room k (A.deeper (envOfC x (defScope st) s.heap.objs.size f cdv)) → sp vs H Q E →
      ∃ t, PSs (cxOf CX0 P w K mg base N x (defScope st) f cdv A outer s H E).nox (defBody st) t ∧ t { nx := fun _ H' => Q .non H', rt := Q } (start N vs) H) : ClM P w K mg base C (k + 1) ps sp := by
  obtain ⟨f, fd, M, F⟩ := F
  refine ⟨f, fd, M, F.bindsN hb, F.ok S len fun cdv A outer s H vs Q E hr h => ?_⟩
  obtain ⟨t, h1, h2⟩ := body f cdv A outer s H vs Q E hr h
  exact ⟨t, h1.nox, h2⟩
end
section
variable {X : Cx} {k : Nat} {C : Addr} {x : Str} {ps : List Str} {sp : Sp} {p pos : Pos} {e : Expr} {es : List Expr} {t : TA}
theorem pe_mkc (c : ClM X.prog X.w X.K X.mg X.base C k ps sp) (hr : Room (k + 1) X.A) (hg : Gl X x) (hm : X.mg x = some (.ref C)) (ha : PA X (e :: es) t) (hdb : (x == ("__debug__" : Str)) = false := by decide)
    (he : starEach (e :: es) X.env = (false, eval e X.env) :: starEach es X.env := by rfl) (hpl : (backTo pos (starEach es X.env)).any (·.1) = false := by rfl) :
    PE X (.Call (.Name x p) (e :: es) [] pos) (tMake C sp [] E0 t) := by
  obtain ⟨f, fd, M, hb, F⟩ := c
  exact pe_make M F hr hg hm hb .nil pass0 ha hdb he hpl
end
/-- the promise of House.__init__ -/
def spInit (C : Addr) (pre : Int → List Door → Prop) : Sp := fun vs H Q _ => ∃ x dx r b ds, vs = [.ref x, .int r, .ref b] ∧ H x = some (.ins C dx []) ∧ Tp C H (.ref b) (.tup (ds.map doorD)) ∧ pre r ds ∧ ∀ H', Same H H' → Q .non (upd H' x (.ins C dx (hflds r b)))
theorem ev_make {C : Addr} {pre : Int → List Door → Prop} {as : TA} {σ : L2.St} {H : Hp} {r : Int} {ds : List Door} (ha : EvA C as σ H [.num r, .tup (ds.map doorD)]) (hp : pre r ds) : EvD C (tMake C (spInit C pre) [] E0 as) σ H (.hs r ds) := fun H1 s Q q =>
  ha H1 s _ fun vs H2 s2 t x dx hx hdx ne => by
    obtain ⟨v, _, rfl, t1, t⟩ := tpa_cons t
    obtain ⟨v', _, rfl, t2, t⟩ := tpa_cons t
    cases tpa_nil t
    cases tp_num t1
    obtain ⟨b, xs, rfl, hb, tr⟩ := tp_tup t2
    have sa : Same H2 (upd (upd H2 dx (.own x)) x (.ins C dx [])) := Same.newer (Same.new hdx) (by rw [upd_ne (Ne.symm ne)]; exact hx)
    have hd : Tp C (upd (upd H2 dx (.own x)) x (.ins C dx [])) (.ref b) (.tup (ds.map doorD)) := t2.same sa
    refine ⟨x, dx, r, b, ds, rfl, upd_same, hd, hp, fun H' s' => ⟨rfl, ?_⟩⟩
    have sb : Same H2 H' := Same.trans sa s'
    have sc : Same H2 (upd H' x (.ins C dx (hflds r b))) := Same.put sb hx
    refine q _ _ (Same.trans s2 sc) (.hs upd_same (sc _ _ hb) ?_)
    exact tp_doors (tr.same sc)
/-- self.f = e -/
theorem st_fld {C a dx : Addr} {K : PySem.W.Frag} {tv : TE} {f : Str} {rest : TS} {Ds : Ends} {σ : L2.St} {H : Hp} {d : D} {i : Nat} {fs : List (Str × V)} (hv : σ[i]? = some (some (.ref a))) (h : H a = some (.ins C dx fs)) (cl : Cls K C) (na : NoAttr K C f) (hl : fs.length < 1000)
    (he : EvD C tv σ H d) (k : ∀ v H2, Same H H2 → Tp C H2 v d → rest Ds σ (upd H2 a (.ins C dx (putF f v fs)))) : tSeq (sFld K (tVar i) tv f) rest Ds σ H :=
  he H (Same.refl _) _ fun v H2 s t => ⟨_, hv, a, C, dx, fs, rfl, s _ _ h, cl, na, hl, k v H2 s t⟩
theorem st_fld1 {C a dx : Addr} {K : PySem.W.Frag} {tv : TE} {f : Str} {Ds : Ends} {σ : L2.St} {H : Hp} {d : D} {i : Nat} {fs : List (Str × V)} (hv : σ[i]? = some (some (.ref a))) (h : H a = some (.ins C dx fs)) (cl : Cls K C) (na : NoAttr K C f) (hl : fs.length < 1000)
    (he : EvD C tv σ H d) (k : ∀ v H2, Same H H2 → Tp C H2 v d → Ds.nx σ (upd H2 a (.ins C dx (putF f v fs)))) : sFld K (tVar i) tv f Ds σ H :=
  he H (Same.refl _) _ fun v H2 s t => ⟨_, hv, a, C, dx, fs, rfl, s _ _ h, cl, na, hl, k v H2 s t⟩
end Y

set_option linter.all false
/-! Rooms that doors join. -/
namespace MJ
abbrev Door := Int × Int × Int × Int
abbrev Eg := Int × Int
def edges (ds : List Door) : List Eg := ds.flatMap fun d => [(d.1, d.2.2.1), (d.2.2.1, d.1)]
def stepJ (here : Int) (s : List Int × List Int) (e : Eg) : List Int × List Int := if e.1 = here ∧ e.2 ∉ s.1 then (s.1 ++ [e.2], s.2 ++ [e.2]) else s
def visit (here : Int) (es : List Eg) (s : List Int × List Int) : List Int × List Int := es.foldl (stepJ here) s
theorem visit_app (here : Int) (a b : List Eg) (s : List Int × List Int) : visit here (a ++ b) s = visit here b (visit here a s) := List.foldl_append
theorem edges_app (a b : List Door) : edges (a ++ b) = edges a ++ edges b := List.flatMap_append
structure St (rooms : Int) (s : List Int × List Int) : Prop where
  nd : s.1.Nodup
  rg : ∀ x ∈ s.1, 0 ≤ x ∧ x < rooms
  z : (0 : Int) ∈ s.1
  sub : ∀ x ∈ s.2, x ∈ s.1
  le : s.2.length ≤ s.1.length
structure Vis (here : Int) (es : List Eg) (s s' : List Int × List Int) : Prop where
  up : ∀ x ∈ s.1, x ∈ s'.1
  upl : ∀ x ∈ s.2, x ∈ s'.2
  old : ∀ x ∈ s'.1, x ∉ s'.2 → x ∈ s.1
  nb : ∀ e ∈ es, e.1 = here → e.2 ∈ s'.1
  len : s'.2.length + s.1.length = s'.1.length + s.2.length
  grow : s.1.length ≤ s'.1.length
theorem visit_ok {rooms here : Int} : ∀ {es : List Eg} {s : List Int × List Int}, (∀ e ∈ es, 0 ≤ e.2 ∧ e.2 < rooms) → St rooms s → St rooms (visit here es s) ∧ Vis here es s (visit here es s)
  | [], s, _, h => ⟨h, fun x h => h, fun x h => h, fun x h _ => h, fun e he => (nomatch he), by show s.2.length + s.1.length = s.1.length + s.2.length; omega, Nat.le_refl _⟩
  | e :: es, s, hr, h => by
    have h1 : St rooms (stepJ here s e) ∧ Vis here [e] s (stepJ here s e) := by
      unfold stepJ
      by_cases c : e.1 = here ∧ e.2 ∉ s.1
      · rw [if_pos c]
        refine ⟨⟨?_, ?_, ?_, ?_, ?_⟩, ?_, ?_, ?_, ?_, ?_, ?_⟩
        · refine List.nodup_append.mpr ⟨h.nd, by simp, ?_⟩
          intro a ha b hb
          have : b = e.2 := by simpa using hb
          rintro rfl
          exact c.2 (this ▸ ha)
        · intro x hx
          rcases List.mem_append.mp hx with hx | hx
          · exact h.rg x hx
          · have : x = e.2 := by simpa using hx
            subst this; exact hr e (by simp)
        · exact List.mem_append_left _ h.z
        · intro x hx
          rcases List.mem_append.mp hx with hx | hx
          · exact List.mem_append_left _ (h.sub x hx)
          · exact List.mem_append_right _ hx
        · have := h.le; simp; omega
        · exact fun x hx => List.mem_append_left _ hx
        · exact fun x hx => List.mem_append_left _ hx
        · intro x hx hn
          rcases List.mem_append.mp hx with hx | hx
          · exact hx
          · exact absurd (List.mem_append_right _ hx) hn
        · intro e' he' _
          have : e' = e := by simpa using he'
          subst this; simp
        · simp; omega
        · simp
      · rw [if_neg c]
        refine ⟨h, fun x hx => hx, fun x hx => hx, fun x hx _ => hx, ?_, by omega, Nat.le_refl _⟩
        intro e' he' hh
        have : e' = e := by simpa using he'
        subst this
        exact Classical.byContradiction fun z => c ⟨hh, z⟩
    obtain ⟨h1, v1⟩ := h1
    obtain ⟨h2, v2⟩ := visit_ok (here := here) (es := es) (fun e he => hr e (by simp [he])) h1
    have ev : visit here (e :: es) s = visit here es (stepJ here s e) := rfl
    rw [ev]
    refine ⟨h2, fun x hx => v2.up x (v1.up x hx), fun x hx => v2.upl x (v1.upl x hx), fun x hx hn => ?_, ?_, ?_, Nat.le_trans v1.grow v2.grow⟩
    · have h3 := v2.old x hx hn
      exact v1.old x h3 fun z => hn (v2.upl x z)
    · intro e' he' hh
      rcases List.mem_cons.mp he' with rfl | he'
      · exact v2.up _ (v1.nb e' (by simp) hh)
      · exact v2.nb e' he' hh
    · have := v1.len; have := v2.len; omega
/-- all rooms but those in line are done -/
def Done (ds : List Door) (s : List Int × List Int) : Prop := ∀ x ∈ s.1, x ∉ s.2 → ∀ e ∈ edges ds, e.1 = x → e.2 ∈ s.1
theorem pop_ok {rooms : Int} {ds : List Door} {kn ln : List Int} {here : Int} (hr : ∀ e ∈ edges ds, 0 ≤ e.2 ∧ e.2 < rooms) (h : St rooms (kn, ln ++ [here])) (d : Done ds (kn, ln ++ [here])) :
    St rooms (visit here (edges ds) (kn, ln)) ∧ Done ds (visit here (edges ds) (kn, ln)) ∧ (visit here (edges ds) (kn, ln)).2.length + kn.length = (visit here (edges ds) (kn, ln)).1.length + ln.length ∧ kn.length ≤ (visit here (edges ds) (kn, ln)).1.length := by
  have h0 : St rooms (kn, ln) := ⟨h.nd, h.rg, h.z, fun x hx => h.sub x (List.mem_append_left _ hx), by have := h.le; simp at this ⊢; omega⟩
  obtain ⟨h1, v⟩ := visit_ok (here := here) hr h0
  refine ⟨h1, ?_, v.len, v.grow⟩
  intro x hx hn e he hh
  by_cases c : x = here
  · subst c; exact v.nb e he hh
  · have h3 := v.old x hx hn
    refine v.up _ (d x h3 ?_ e he hh)
    intro z
    rcases List.mem_append.mp z with z | z
    · exact hn (v.upl x z)
    · exact c (by simpa using z)
theorem len_le {rooms : Int} {l : List Int} (h : l.Nodup) (hr : ∀ x ∈ l, 0 ≤ x ∧ x < rooms) : l.length ≤ rooms.toNat := by
  have := List.Nodup.length_le_of_subset (l₂ := (List.range rooms.toNat).map fun (n : Nat) => (n : Int)) h (fun x hx => by
    have := hr x hx
    exact List.mem_map.mpr ⟨x.toNat, List.mem_range.mpr (by omega), by omega⟩)
  simpa using this
/-- each room but 0 has a door to a room below -/
def Conn (rooms : Int) (ds : List Door) : Prop := ∀ r : Int, 1 ≤ r → r < rooms → ∃ e ∈ edges ds, e.2 = r ∧ 0 ≤ e.1 ∧ e.1 < r
theorem all_in {rooms : Int} {ds : List Door} {kn : List Int} (c : Conn rooms ds) (h : St rooms (kn, [])) (d : Done ds (kn, [])) : ∀ n : Nat, ∀ r : Int, 0 ≤ r → r < rooms → r.toNat < n → r ∈ kn
  | 0, r, _, _, h => by omega
  | n + 1, r, h0, h1, h2 => by
    by_cases hz : r = 0
    · subst hz; exact h.z
    · obtain ⟨e, he, e1, e2, e3⟩ := c r (by omega) h1
      have := all_in c h d n e.1 e2 (by omega) (by omega)
      rw [← e1]
      exact d e.1 this (by simp) e he rfl
end MJ

set_option Elab.async false
set_option linter.all false
set_option maxRecDepth 100000
set_option maxHeartbeats 4000000
/-! Rooms joined; houses made. -/
namespace Kw
open PySem PySem.Spec PyProof.Rows L2 Y
local macro_rules | `(tactic| trivial) => `(tactic| first
  | with_reducible exact ev_int
  | with_reducible exact ev_bl
  | with_reducible exact ev_non
  | with_reducible exact ea_nil
  | with_reducible exact et_yes
  | ((with_reducible apply ev_var); exact rfl; first | exact .num _ | exact .bl _ | exact .non | assumption)
  | ((with_reducible apply ea_cons); trivial; trivial)
  | ((with_reducible apply ev_tup); trivial; first | decide | (show _ ≤ sizeLine; simp; decide))
  | ((with_reducible apply ev_ix0); trivial; trivial; exact rfl)
  | ((with_reducible apply ev_ix1); trivial; trivial; exact rfl)
  | ((with_reducible apply ev_ix2); trivial; trivial; exact rfl)
  | ((with_reducible apply ev_ix3); trivial; trivial; exact rfl)
  | ((with_reducible apply ev_opI); trivial; trivial)
  | ((with_reducible apply ev_opB); trivial; trivial)
  | ((with_reducible apply ev_eqI); trivial; trivial)
  | ((with_reducible apply ev_neI); trivial; trivial)
  | ((with_reducible apply ev_un); trivial)
  | ((with_reducible apply ev_chain); trivial; trivial; trivial)
  | ((with_reducible apply ev_abs); trivial)
  | ((with_reducible apply ev_intI); trivial)
  | ((with_reducible apply ev_gcd); trivial; trivial)
  | ((with_reducible apply ev_lenT); trivial)
  | ((with_reducible apply et_test); trivial)
  | ((with_reducible apply et_B); trivial)
  | ((with_reducible apply et_not); trivial)
  | ((with_reducible apply et_and); trivial; (intro _; trivial))
  | ((with_reducible apply et_or); trivial; (intro _; trivial))
  | ((with_reducible apply ev_andV); trivial; (intro _; trivial))
  | ((with_reducible apply ev_orV); trivial; (intro _; trivial))
  | ((with_reducible apply ev_notV); trivial)
  | ((with_reducible apply ev_isN); trivial)
  | ((with_reducible apply ev_notN); trivial)
  | ((with_reducible apply ev_isiII); trivial)
  | ((with_reducible apply ev_isiIB); trivial)
  | ((with_reducible apply ev_isiTT); trivial)
  | ((with_reducible apply ev_isH); trivial))
section
variable {P : Program} {w : World} {K : PySem.W.Frag} {mg : Str → Option Value} {base : Heap} {C : Addr}
/-- what is asked of a house's parts -/
structure HOk (rooms : Int) (ds : List Door) : Prop where
  r0 : 1 ≤ rooms
  r1 : rooms ≤ 12
  dl : ds.length ≤ 20
  dok : ∀ d ∈ ds, DOk rooms d
  con : MJ.Conn rooms ds
theorem HOk.eg {rooms : Int} {ds : List Door} (h : HOk rooms ds) : ∀ e ∈ MJ.edges ds, 0 ≤ e.2 ∧ e.2 < rooms := by
  intro e he
  obtain ⟨d, hd, he⟩ := List.mem_flatMap.mp he
  obtain ⟨⟨n1, n2⟩, ⟨f1, f2⟩, _⟩ := h.dok d hd
  simp only [List.mem_cons, List.not_mem_nil, or_false] at he
  rcases he with rfl | rfl
  · exact ⟨f1, f2⟩
  · exact ⟨n1, n2⟩
theorem sc_joined_rooms : FnScope ["doors", "known", "line", "here", "near", "first", "far", "second", "one", "other"] ["doors"] (defScope s_joined_rooms) := ⟨rfl, rfl, rfl, by decide +kernel, rfl, by decide +kernel, by decide +kernel⟩
abbrev sp_joined_rooms (C : Addr) : Sp := fun vs H Q _ => ∃ (rooms : Int) (ds : List Door), TpA C H vs [.tup (ds.map doorD)] ∧ HOk rooms ds ∧
  ∀ a kn H', Same H H' → H' a = some (.dK (knd kn)) → (∀ r : Int, 0 ≤ r → r < rooms → r ∈ kn) → Q (.ref a) H'
theorem ok_joined_rooms (F : Df K mg "joined_rooms" s_joined_rooms) (B : Bi K mg C) : Cl P w K mg base "joined_rooms" 1 ["doors"] (sp_joined_rooms C) := by
  refine F.cl sc_joined_rooms (fun _ _ _ _ _ _ us hl => match us, hl with | [_], _ => rfl) (fun vs H Q E h => ?_) (fun f cdv A outer s H vs Q E hr h => ?_)
  · obtain ⟨r, i, t, _⟩ := h; exact t.length
  · obtain ⟨rooms, ds, t, hk, q⟩ := h
    obtain ⟨v, _, rfl, t1, t⟩ := tpa_cons t
    cases tpa_nil t
    refine ⟨_, (pss_cons (ps_par (i := 1) (j := 2) (by rfl) sc_joined_rooms.nd rfl rfl (by decide) rfl rfl (pa_cons (pe_disp (pps_cons pe_int pe_bl pps_nil) (by rfl) (by rfl) (fun z => by cases z) (by decide)) (pa_cons (pe_lst (pa_cons pe_int pa_nil)) pa_nil)) (by rfl))
      (pss_cons (ps_while PassesOwn.never (pt_cmpR (op_neD hr.units) (pv 2) (pe_lst pa_nil) (nomark _)) (pss_cons (ps_set (i := 3) sc_joined_rooms.nd rfl (by first | exact Or.inl rfl | exact Or.inr rfl) (pe_bm0 PySem.F.plainAttrs_list PySem.F.slot_list_pop PySem.F.type_list_pop mt_pop (pv 2)))
      (pss_one (ps_for PassesOwn.never rfl (pi_tup (pv 0)) (pg_tup (by rfl) (pgs_cons (pg_name (i := 4) sc_joined_rooms.nd rfl (by first | exact Or.inl rfl | exact Or.inr rfl)) (pgs_cons (pg_name (i := 5) sc_joined_rooms.nd rfl (by first | exact Or.inl rfl | exact Or.inr rfl)) (pgs_cons (pg_name (i := 6) sc_joined_rooms.nd rfl (by first | exact Or.inl rfl | exact Or.inr rfl)) (pgs_cons (pg_name (i := 7) sc_joined_rooms.nd rfl (by first | exact Or.inl rfl | exact Or.inr rfl)) pgs_nil))))) (pss_one (ps_for PassesOwn.never rfl (pi_tup (pe_tup (pa_cons (pe_tup (pa_cons (pv 4) (pa_cons (pv 6) pa_nil))) (pa_cons (pe_tup (pa_cons (pv 6) (pa_cons (pv 4) pa_nil))) pa_nil)))) (pg_tup (by rfl) (pgs_cons (pg_name (i := 8) sc_joined_rooms.nd rfl (by first | exact Or.inl rfl | exact Or.inr rfl)) (pgs_cons (pg_name (i := 9) sc_joined_rooms.nd rfl (by first | exact Or.inl rfl | exact Or.inr rfl)) pgs_nil))) (pss_one (ps_if (PW.pt (pw_and (pt_cmpR op_eq (pv 8) (pv 3) (nomark _)) (pw_and1 (pt_cmp (pc_dnotin (hu_of hr) (pv 9) (pv 1)))))) (pss_cons (ps_dput (hu_of hr) (pv 1) (pv 9) pe_bl rfl)
      (pss_one (ps_expr (pe_bm PySem.F.plainAttrs_list PySem.F.slot_list_append PySem.F.type_list_append mt_append (pv 2) (pa_cons (pv 9) pa_nil))))) pss_nil))))))))
      (pss_one (ps_ret (pv 1))))), ?_⟩
    intro p hp
    refine ⟨upd_same, [(.inl 0, .bl true)], rfl, by decide, Nat.succ_le_of_lt (by rw [sizeLine_eq]; decide), fun l hl => ⟨_, _, rfl, ?_⟩⟩
    have e0 : mergeK [] [((.inl 0 : Key), V.bl true)] = knd [0] := rfl
    rw [e0] at hl ⊢
    have hpl : p ≠ l := fun z => by rw [← z, upd_same] at hl; cases hl
    have nl : H l = none := by
      have := hl
      rw [upd_ne (Ne.symm hpl), upd_ne (Ne.symm hpl)] at this
      exact this
    let G0 : Hp := upd (upd (upd H p (.dK [])) p (.dK (knd [0]))) l (.lst ([0].map V.int))
    have sG0 : Same H G0 := Same.put (Same.put (Same.new hp) hp) nl
    refine ⟨fun m σ' H' => ∃ kn ln x3 x4 x5 x6 x7 x8 x9, σ' = [some v, some (.ref p), some (.ref l), x3, x4, x5, x6, x7, x8, x9] ∧ Same H H' ∧ H' p = some (.dK (knd kn)) ∧ H' l = some (.lst (ln.map V.int)) ∧ MJ.St rooms (kn, ln) ∧ MJ.Done ds (kn, ln) ∧ m = 2 * (rooms.toNat - kn.length) + ln.length, ⟨_, [0], [0], none, none, none, none, none, none, none, rfl, sG0, ?_, ?_, ?_, ?_, rfl⟩, ?_⟩
    · show upd _ l _ p = _
      rw [upd_ne hpl]; exact upd_same
    · exact upd_same
    · refine ⟨by simp, ?_, by simp, fun x hx => hx, Nat.le_refl _⟩
      intro x hx
      have : x = 0 := by simpa using hx
      subst this
      exact ⟨Int.le_refl _, Int.lt_of_lt_of_le Int.one_pos hk.r0⟩
    · intro x hx hn; exact absurd hx hn
    rintro m σ' H1 ⟨kn, ln, x3, x4, x5, x6, x7, x8, x9, rfl, s1, hp1, hl1, S1, D1, rfl⟩
    refine et_neNums (a := l) (ns := ln) (evv_var rfl) hl1 H1 (Same.refl _) _ fun H2 s2 => ?_
    cases hln : ln.isEmpty with
    | true =>
      have : ln = [] := by simpa using hln
      subst this
      refine iteF ⟨_, rfl, q p kn H2 (Same.trans s1 s2) (s2 _ _ hp1) fun r h0 h1 => MJ.all_in hk.con S1 D1 _ r h0 h1 (Nat.lt_succ_self _)⟩
    | false =>
      refine iteT ?_
      obtain ⟨l0, here, rfl⟩ : ∃ l0 here, ln = l0 ++ [here] := by
        refine ⟨ln.dropLast, ln.getLast (by intro z; rw [z] at hln; cases hln), (List.dropLast_concat_getLast _).symm⟩
      refine ⟨fun σ' H' => ∃ kn' ln' x3 x4 x5 x6 x7 x8 x9, σ' = [some v, some (.ref p), some (.ref l), x3, x4, x5, x6, x7, x8, x9] ∧ Same H H' ∧ H' p = some (.dK (knd kn')) ∧ H' l = some (.lst (ln'.map V.int)) ∧ (kn', ln') = MJ.visit here (MJ.edges ds) (kn, l0), ?_, ?_⟩
      · rintro σ' H' ⟨kn', ln', x3, x4, x5, x6, x7, x8, x9, rfl, s3, hp3, hl3, e3⟩
        obtain ⟨S2, D2, L2, L3⟩ := MJ.pop_ok hk.eg S1 D1
        rw [← e3] at S2 D2 L2 L3
        have b1 := MJ.len_le S2.nd S2.rg
        have b2 := MJ.len_le S1.nd S1.rg
        dsimp only at L2 L3 b1 b2
        refine ⟨_, ?_, kn', ln', _, _, _, _, _, _, _, rfl, s3, hp3, hl3, S2, D2, rfl⟩
        rw [List.length_append, List.length_singleton]
        omega
      · have hp2 := s2 _ _ hp1
        have hl2 := s2 _ _ hl1
        refine ⟨_, rfl, .inl ⟨rfl, _, .inl (.inl hl2)⟩, l, _, .int here, rfl, rfl, hl2, by simp, ?_⟩
        rw [List.map_append, List.map_singleton, List.dropLast_concat]
        have s3 : Same H (upd H2 l (.lst (l0.map V.int))) := Same.put (Same.trans s1 s2) nl
        have hp3 : upd H2 l (.lst (l0.map V.int)) p = some (.dK (knd kn)) := by rw [upd_ne hpl]; exact hp2
        have hl3 : upd H2 l (.lst (l0.map V.int)) l = some (.lst (l0.map V.int)) := upd_same
        have S3 : MJ.St rooms (kn, l0) := ⟨S1.nd, S1.rg, S1.z, fun x hx => S1.sub x (List.mem_append_left _ hx), by have := S1.le; simp at this ⊢; omega⟩
        generalize upd H2 l (.lst (l0.map V.int)) = H3 at s3 hp3 hl3 ⊢
        refine st_for (C := C) (wi := _) (ei_tup (ds := ds.map doorD) (ev_var rfl (t1.same s3))) (fun G i σ' H' => ∃ kn' ln' x4 x5 x6 x7 x8 x9, σ' = [some v, some (.ref p), some (.ref l), some (.int here), x4, x5, x6, x7, x8, x9] ∧ But2 p l G H' ∧ H' p = some (.dK (knd kn')) ∧ H' l = some (.lst (ln'.map V.int)) ∧ (kn', ln') = MJ.visit here (MJ.edges (ds.take i)) (kn, l0) ∧ MJ.St rooms (kn', ln')) ?_ ?_ ?_ ?_
        · intro G sG
          exact ⟨kn, l0, x4, x5, x6, x7, x8, x9, rfl, But2.refl _ _ _, sG _ _ hp3, sG _ _ hl3, rfl, S3⟩
        · rintro G i σ' H' sG ⟨kn', ln', y4, y5, y6, y7, y8, y9, rfl, b, hp', hl', e', S'⟩
          exact ⟨b.stay (notImm_dK (sG _ _ hp3)) (notImm_lst (sG _ _ hl3)), b.keeps (by rw [hp3]; simp) (by rw [hl3]; simp) (by simp) (by simp)⟩
        · rintro G i d x σ' H' sG hi ⟨kn', ln', y4, y5, y6, y7, y8, y9, rfl, b, hp', hl', e', S'⟩ tx
          obtain ⟨dr, hdr, rfl⟩ := map_item hi
          refine ⟨_, gb_door tx, ?_⟩
          have hmem : dr ∈ ds := List.mem_of_getElem? hdr
          obtain ⟨⟨n1, n2⟩, ⟨f1, f2⟩, _⟩ := hk.dok dr hmem
          refine st_for (C := C) (wi := _) (ei_tup (ds := [.tup [.num dr.1, .num dr.2.2.1], .tup [.num dr.2.2.1, .num dr.1]]) ?_) (fun G2 j σ' H'' => ∃ kn2 ln2 x8 x9, σ' = [some v, some (.ref p), some (.ref l), some (.int here), some (.int dr.1), some (.int dr.2.1), some (.int dr.2.2.1), some (.int dr.2.2.2), x8, x9] ∧ But2 p l G H'' ∧ But2 p l G2 H'' ∧ H'' p = some (.dK (knd kn2)) ∧ H'' l = some (.lst (ln2.map V.int)) ∧ (kn2, ln2) = MJ.visit here ([(dr.1, dr.2.2.1), (dr.2.2.1, dr.1)].take j) (kn', ln') ∧ MJ.St rooms (kn2, ln2)) ?_ ?_ ?_ ?_
          · trivial
          · intro G2 s2
            exact ⟨kn', ln', y8, y9, rfl, But2.trans b (Same.but2 s2), But2.refl _ _ _, s2 _ _ hp', s2 _ _ hl', rfl, S'⟩
          · rintro G2 j σ' H'' s2 ⟨kn2, ln2, z8, z9, rfl, b1, b2, hp2, hl2, e2, S2⟩
            exact ⟨b2.stay (notImm_dK (s2 _ _ hp')) (notImm_lst (s2 _ _ hl')), b2.keeps (by rw [hp']; simp) (by rw [hl']; simp) (by simp) (by simp)⟩
          · rintro G2 j d x σ' H'' s2 hj ⟨kn2, ln2, z8, z9, rfl, b1, b2, hp2, hl2, e2, S2⟩ tx
            obtain ⟨eg, heg, rfl, hrg⟩ : ∃ eg : MJ.Eg, [(dr.1, dr.2.2.1), (dr.2.2.1, dr.1)][j]? = some eg ∧ d = .tup [.num eg.1, .num eg.2] ∧ 0 ≤ eg.2 ∧ eg.2 < rooms := by
              match j, hj with
              | 0, hj => exact ⟨_, rfl, by simpa using hj.symm, f1, f2⟩
              | 1, hj => exact ⟨_, rfl, by simpa using hj.symm, n1, n2⟩
              | j + 2, hj => simp at hj
            obtain ⟨u1, u2, w1, w2, g2⟩ := gb_two (K := K) (i := 8) (j := 9) (σ := [some v, some (.ref p), some (.ref l), some (.int here), some (.int dr.1), some (.int dr.2.1), some (.int dr.2.2.1), some (.int dr.2.2.2), z8, z9]) tx
            cases tp_num w1
            cases tp_num w2
            refine ⟨_, g2, ?_⟩
            have ev : ([(dr.1, dr.2.2.1), (dr.2.2.1, dr.1)] : List MJ.Eg).take (j + 1) = ([(dr.1, dr.2.2.1), (dr.2.2.1, dr.1)] : List MJ.Eg).take j ++ [eg] := by
              rw [List.take_add_one, heg]; rfl
            have vs1 : MJ.visit here (([(dr.1, dr.2.2.1), (dr.2.2.1, dr.1)] : List MJ.Eg).take (j + 1)) (kn', ln') = MJ.stepJ here (kn2, ln2) eg := by
              rw [ev, MJ.visit_app, ← e2]; rfl
            have S3' : MJ.St rooms (MJ.stepJ here (kn2, ln2) eg) := (MJ.visit_ok (here := here) (es := [eg]) (fun e he => by
              have : e = eg := by simpa using he
              rw [this]; exact hrg) S2).1
            have k12 : kn2.length ≤ 12 := by
              have := MJ.len_le S2.nd S2.rg
              have := hk.r1
              dsimp only at *
              omega
            have kl : kn2.length < sizeLine := small_lt (m := 100) (by omega) (by omega)
            have ll : ln2.length < sizeLine := small_lt (m := 100) (by have := S2.le; dsimp only at this; omega) (by omega)
            apply st_if
            · apply et_and
              · apply et_test (C := C)
                trivial
              · intro _
                exact et_notIn (C := C) (ev_var rfl (.num _)) (evv_var rfl) hp2
            · intro hb H4 s4
              have hb : eg.1 = here ∧ eg.2 ∉ kn2 := by simpa using hb
              have sj : MJ.stepJ here (kn2, ln2) eg = (kn2 ++ [eg.2], ln2 ++ [eg.2]) := if_pos hb
              have hp4 := s4 _ _ hp2
              refine ⟨_, rfl, _, rfl, p, _, rfl, DPut.k (k := .inl eg.2) hp4 (by rw [knd, List.length_map]; exact kl), ?_⟩
              rw [knd_put kn2 eg.2 hb.2]
              have hl4 : upd H4 p (.dK (knd (kn2 ++ [eg.2]))) l = some (.lst (ln2.map V.int)) := by
                rw [upd_ne (Ne.symm hpl)]; exact s4 _ _ hl2
              have b14 : But2 p l G (upd H4 p (.dK (knd (kn2 ++ [eg.2])))) := but2_set (But2.trans b1 (Same.but2 s4))
              have b24 : But2 p l G2 (upd H4 p (.dK (knd (kn2 ++ [eg.2])))) := but2_set (But2.trans b2 (Same.but2 s4))
              have hp5 : upd H4 p (.dK (knd (kn2 ++ [eg.2]))) p = some (.dK (knd (kn2 ++ [eg.2]))) := upd_same
              generalize upd H4 p (.dK (knd (kn2 ++ [eg.2]))) = H5 at hl4 b14 b24 hp5 ⊢
              apply st_app1 (C := C) (d := .num eg.2) (hv := rfl) (ha := hl4)
              · rw [List.length_map]; exact ll
              · trivial
              · intro v6 H6 s6 t6
                cases tp_num t6
                refine ⟨kn2 ++ [eg.2], ln2 ++ [eg.2], _, _, rfl, but2_set' (But2.trans b14 (Same.but2 s6)), but2_set' (But2.trans b24 (Same.but2 s6)), ?_, ?_, ?_, ?_⟩
                · rw [upd_ne hpl]; exact s6 _ _ hp5
                · rw [upd_same, List.map_append]; rfl
                · rw [vs1, sj]
                · rw [← sj]; exact S3'
            · intro hb H4 s4
              have hb : ¬ (eg.1 = here ∧ eg.2 ∉ kn2) := by
                intro z
                rw [decide_eq_true z.1, decide_eq_false z.2] at hb
                cases hb
              have sj : MJ.stepJ here (kn2, ln2) eg = (kn2, ln2) := if_neg hb
              refine ⟨kn2, ln2, _, _, rfl, But2.trans b1 (Same.but2 s4), But2.trans b2 (Same.but2 s4), s4 _ _ hp2, s4 _ _ hl2, ?_, S2⟩
              rw [vs1, sj]
          · rintro G2 σ' H'' s2 ⟨kn2, ln2, z8, z9, rfl, b1, b2, hp2, hl2, e2, S2⟩
            refine ⟨kn2, ln2, _, _, _, _, _, _, rfl, b1, hp2, hl2, ?_, S2⟩
            rw [e2, List.take_add_one, hdr, MJ.edges_app, MJ.visit_app, ← e']
            rfl
        · rintro G σ' H' sG ⟨kn', ln', y4, y5, y6, y7, y8, y9, rfl, b, hp', hl', e', S'⟩
          refine ⟨kn', ln', _, _, _, _, _, _, _, rfl, ?_, hp', hl', ?_⟩
          · exact b.back (Same.trans s3 sG) hp nl
          · rw [e', List.length_map, List.take_length]
theorem sc_House___init__ : FnScope ["self", "rooms", "doors", "known", "room"] ["self", "rooms", "doors"] (defScope s_House___init__) := ⟨rfl, rfl, rfl, by decide +kernel, rfl, by decide +kernel, by decide +kernel⟩
abbrev sp_House (C : Addr) : Sp := spInit C HOk
theorem ok_House (F : DfM K C "House.__init__" s_House___init__) (B : Bi K mg C) (h_is_number : Cl P w K mg base "is_number" 1 ["value"] (sp_is_number C)) (h_are_doors : Cl P w K mg base "are_doors" 4 ["value", "rooms"] (sp_are_doors C)) (h_joined_rooms : Cl P w K mg base "joined_rooms" 1 ["doors"] (sp_joined_rooms C)) : ClM P w K mg base C 5 ["self", "rooms", "doors"] (sp_House C) := by
  refine F.cl sc_House___init__ (fun _ _ _ _ _ _ us hl => match us, hl with | [_, _, _], _ => rfl) (fun vs H Q E h => ?_) (fun f cdv A outer s H vs Q E hr h => ?_)
  · obtain ⟨x, dx, r, b, ds, rfl, _⟩ := h; rfl
  · obtain ⟨x, dx, rooms, b, ds, rfl, hx, t1, hk, q⟩ := h
    refine ⟨_, (pss_cons (ps_if (PW.pt (pw_or (pt_not (pt_val (pe_cl h_is_number (hr.mono (by decide)) (by rfl) (pa_cons (pv 1) pa_nil)))) (pw_or1 (pt_not (pt_chain op_le op_le pe_int (pv 1) (pe_gint (by rfl) B.MOST_ROOMS)))))) (pss_one ps_never) pss_nil)
      (pss_cons (ps_if (pt_not (pt_val (pe_cl h_are_doors (hr.mono (by decide)) (by rfl) (pa_cons (pv 2) (pa_cons (pv 1) pa_nil))))) (pss_one ps_never) pss_nil)
      (pss_cons (ps_set (i := 3) sc_House___init__.nd rfl (by first | exact Or.inl rfl | exact Or.inr rfl) (pe_cl h_joined_rooms (hr.mono (by decide)) (by rfl) (pa_cons (pv 2) pa_nil)))
      (pss_cons (ps_for PassesOwn.never rfl (pi_range1 (by rfl) B.range (pa_cons (pv 1) pa_nil)) (pg_name (i := 4) sc_House___init__.nd rfl (by first | exact Or.inl rfl | exact Or.inr rfl)) (pss_one (ps_if (pt_cmp (pc_dnotin (hu_of hr) (pv 4) (pv 3))) (pss_one ps_never) pss_nil)))
      (pss_cons (ps_fld (pv 0) (pv 1) rfl)
      (pss_one (ps_fld (pv 0) (pv 2) rfl))))))), ?_⟩
    have := hk.r0
    have := hk.r1
    apply st_no (h := ?_)
    · intro H2 s2
      apply st_no (h := ?_)
      · intro H3 s3
        have s03 := Same.trans s2 s3
        refine ⟨_, rfl, rooms, ds, .cons (t1.same s03) .nil, hk, fun a kn H4 s4 ha hall => ?_⟩
        have s04 := Same.trans s03 s4
        change tFor (iRng1 (tCons (tVar 1) tNil)) (gName 4) _ _ [some (.ref x), some (.int rooms), some (.ref b), some (.ref a), none] H4
        refine st_for (C := C) (wi := _) (ei_rng1 (n := rooms.toNat) (C := C) ?_ (by omega)) (fun G i σ' H' => ∃ y, σ' = [some (.ref x), some (.int rooms), some (.ref b), some (.ref a), y] ∧ Same G H') ?_ ?_ ?_ ?_
        · have e : (rooms.toNat : Int) = rooms := by omega
          rw [e]
          trivial
        · intro G sG
          exact ⟨none, rfl, Same.refl _⟩
        · rintro G i σ' H' sG ⟨y, rfl, s⟩
          exact ⟨Same.stay s, fun b o _ e => s b o e⟩
        · rintro G i d z σ' H' sG hi ⟨y, rfl, s⟩ tz
          obtain ⟨hi2, rfl⟩ := rng_item hi
          cases tp_num tz
          refine ⟨_, gb_name, ?_⟩
          apply st_no1
          · have e : false = !decide ((i : Int) ∈ kn) := by
              rw [decide_eq_true (hall i (by omega) (by omega))]; rfl
            rw [e]
            exact et_notIn (C := C) (ev_var rfl (.num _)) (evv_var rfl) (s _ _ (sG _ _ ha))
          · exact fun H5 s5 => ⟨_, rfl, Same.trans s s5⟩
        · rintro G σ' H' sG ⟨y, rfl, s⟩
          have s5 := Same.trans s04 (Same.trans sG s)
          refine ⟨_, rfl, _, rfl, x, C, dx, [], rfl, s5 _ _ hx, B.cl, B.nr, by decide, ?_⟩
          refine ⟨_, rfl, _, rfl, x, C, dx, _, rfl, upd_same, B.cl, B.nd, (show 1 < 1000 by decide), ?_⟩
          have e : upd (upd H' x (.ins C dx (putF "rooms" (.int rooms) []))) x (.ins C dx (putF "doors" (.ref b) (putF "rooms" (.int rooms) []))) = upd H' x (.ins C dx (hflds rooms b)) := by
            have e1 : putF "doors" (.ref b) (putF "rooms" (.int rooms) []) = hflds rooms b := by
              show (if ("rooms" : Str) = "doors" then _ else _) = _
              rw [if_neg (by decide +kernel)]
              rfl
            rw [e1]
            funext z
            unfold upd
            split <;> rfl
          rw [e]
          exact q H' s5
      · apply et_not (b := true)
        apply et_B (C := C)
        apply ev_fn (ds, rooms)
        · apply ea_cons
          · exact ev_var rfl (t1.same s2)
          · trivial
        · rfl
        · exact ⟨hk.dl, hk.dok⟩
    · apply et_or (b := false) (c := false)
      · apply et_not (b := true)
        apply et_B (C := C)
        apply ev_fn rooms
        · trivial
        · rfl
        · exact True.intro
      · intro _
        apply et_not (b := true)
        apply et_test (C := C)
        have e : D.bl true = D.bl (decide (1 ≤ rooms) && decide (rooms ≤ 12)) := by
          rw [decide_eq_true hk.r0, decide_eq_true hk.r1]; rfl
        rw [e]
        trivial
end
end Kw

set_option Elab.async false
set_option linter.all false
set_option maxRecDepth 100000
set_option maxHeartbeats 4000000
/-! Dicts with nested tuple keys, mirrored by lists of keys and whole numbers. -/
namespace Y
open PySem PySem.Spec PyProof.Rows L2
/-- the keys as data -/
structure KD {κ : Type} (kD : κ → D) : Prop where
  inj : ∀ a b, nk (kD a) = nk (kD b) → a = b
  fl : ∀ k, flat (kD k) = true
  dp : ∀ k, (nk (kD k)).depth ≤ 8
  tup : ∀ k, ∃ ds, kD k = .tup ds
def MR {κ : Type} (kD : κ → D) (m : List (κ × Int)) (xs : List En) : Prop := Paired (fun p (x : En) => x.1 = kD p.1 ∧ x.2.2 = V.int p.2) m xs
section
variable {κ : Type} [DecidableEq κ] {kD : κ → D} {m : List (κ × Int)} {xs : List En}
theorem mr_len (h : MR kD m xs) : m.length = xs.length := Paired.length h
theorem mr_get (K : KD kD) (h : MR kD m xs) (k : κ) : enGet xs (kD k) = (MS.look m k).map V.int := by
  unfold MR at h
  induction h with
  | nil => rfl
  | @cons p x ps xs e t ih =>
    obtain ⟨e1, e2⟩ := e
    by_cases hk : p.1 = k
    · have h' : nk x.1 = nk (kD k) := by rw [e1, hk]
      simp only [enGet, MS.look, List.find?_cons, hk, h', decide_true, Option.map_some, e2]
    · have h' : ¬ nk x.1 = nk (kD k) := fun z => hk (K.inj _ _ (by rw [← e1]; exact z))
      simp only [enGet, MS.look, List.find?_cons, hk, h', decide_false] at ih ⊢
      exact ih
theorem mr_any (K : KD kD) (h : MR kD m xs) (k : κ) : (enGet xs (kD k)).isSome = m.any fun p => decide (p.1 = k) := by
  rw [mr_get K h, Option.isSome_map]
  unfold MS.look
  rw [Option.isSome_map]
  clear h
  induction m with
  | nil => rfl
  | cons p m ih =>
    rw [List.find?_cons, List.any_cons]
    cases decide (p.1 = k) <;> simp_all
theorem mr_put (K : KD kD) (h : MR kD m xs) (k : κ) (a : Addr) (v : Int) : MR kD (MS.put m k v) (enPut xs (kD k) a (.int v)) := by
  have e := mr_any K h k
  unfold enPut MS.put
  rw [e]
  by_cases c : (m.any fun p => decide (p.1 = k)) = true
  · rw [if_pos c, if_pos c]
    clear c e
    unfold MR at h ⊢
    induction h with
    | nil => exact .nil
    | @cons p x ps xs e t ih =>
      refine .cons ?_ ih
      obtain ⟨e1, e2⟩ := e
      by_cases hk : p.1 = k
      · have h' : nk x.1 = nk (kD k) := by rw [e1, hk]
        dsimp only
        rw [if_pos h', if_pos hk]; exact ⟨e1, rfl⟩
      · have h' : ¬ nk x.1 = nk (kD k) := fun z => hk (K.inj _ _ (by rw [← e1]; exact z))
        dsimp only
        rw [if_neg h', if_neg hk]; exact ⟨e1, e2⟩
  · rw [if_neg c, if_neg c]
    clear c e
    unfold MR at h ⊢
    induction h with
    | nil => exact .cons ⟨rfl, rfl⟩ .nil
    | cons e t ih => exact .cons e ih
theorem mr_vals (h : MR kD m xs) : xs.map (·.2.2) = (m.map (·.2)).map V.int := by
  unfold MR at h
  induction h with
  | nil => rfl
  | cons e t ih => simp only [List.map_cons, ih, e.2]
theorem mr_at {i : Nat} {p : κ × Int} (h : MR kD m xs) (hp : m[i]? = some p) : ∃ x, xs[i]? = some x ∧ x.1 = kD p.1 ∧ x.2.2 = V.int p.2 := by
  unfold MR at h
  induction h generalizing i with
  | nil => simp at hp
  | cons e t ih =>
    cases i with
    | zero => simp at hp; subst hp; exact ⟨_, rfl, e⟩
    | succ i => exact ih (by simpa using hp)
theorem mr_at' {i : Nat} {x : En} (h : MR kD m xs) (hx : xs[i]? = some x) : ∃ p, m[i]? = some p ∧ x.1 = kD p.1 ∧ x.2.2 = V.int p.2 := by
  unfold MR at h
  induction h generalizing i with
  | nil => simp at hx
  | cons e t ih =>
    cases i with
    | zero => simp at hx; subst hx; exact ⟨_, rfl, e⟩
    | succ i => exact ih (by simpa using hx)
end
/-- the dict at d holds m -/
def MD (P : Program) (w : World) (C : Addr) {κ : Type} (kD : κ → D) (H : Hp) (d : Addr) (m : List (κ × Int)) : Prop := ∃ xs, ND P w C H d xs ∧ MR kD m xs
section
variable {P : Program} {w : World} {K : PySem.W.Frag} {C d p a : Addr} {κ : Type} [DecidableEq κ] {kD : κ → D} {H H' H1 : Hp} {m : List (κ × Int)} {k : κ} {n : Int} {σ : L2.St} {Ds : Ends} {i j l : Nat}
theorem notImm_nd {xs : List En} (h : H d = some (ndO P w d xs)) : ∀ o, H d = some o → ¬ Imm o := fun o e z => by
  rw [h] at e; cases e; exact z
theorem MD.same (h : MD P w C kD H d m) (s : Same H H') : MD P w C kD H' d m := by
  obtain ⟨xs, nd, r⟩ := h
  exact ⟨xs, nd.stay (Same.stay s) (s _ _ nd.at_), r⟩
theorem MD.but (h : MD P w C kD H d m) (ne : p ≠ d) (s : But p H H') (st : Stay H H') : MD P w C kD H' d m := by
  obtain ⟨xs, nd, r⟩ := h
  exact ⟨xs, nd.stay st (s _ _ (Ne.symm ne) nd.at_), r⟩
theorem MD.notImm (h : MD P w C kD H d m) : ∀ o, H d = some o → ¬ Imm o := let ⟨_, nd, _⟩ := h; notImm_nd nd.at_
theorem MD.some (h : MD P w C kD H d m) : H d ≠ none := let ⟨_, nd, _⟩ := h; by rw [nd.at_]; simp
theorem md_new (h : H p = none) : MD P w C kD (upd H p (ndO P w p [])) p ([] : List (κ × Int)) := ⟨[], ⟨upd_same, fun x hx => nomatch hx⟩, .nil⟩
theorem MD.put (KK : KD kD) (h : MD P w C kD H d m) (ta : Tp C H (.ref a) (kD k)) (v : Int) : ∃ o, (∃ xs, H d = .some (ndO P w d xs) ∧ ND P w C H d xs ∧ MR kD m xs ∧ o = ndO P w d (enPut xs (kD k) a (.int v))) ∧ MD P w C kD (upd H d o) d (MS.put m k v) := by
  obtain ⟨xs, nd, r⟩ := h
  refine ⟨_, ⟨xs, nd.at_, nd, r, rfl⟩, _, ⟨upd_same, fun x hx => ?_⟩, mr_put KK r k a v⟩
  have st : Stay H (upd H d (ndO P w d (enPut xs (kD k) a (.int v)))) := But.stay (p := d) but_up (notImm_nd nd.at_)
  exact (enPut_keys _ nd.keys ⟨ta, KK.fl k, KK.dp k⟩ x hx).stay st
/-- found[key] = found.get(key, 0) + many -/
theorem st_ndadd (KK : KD kD) (hd : σ[i]? = .some (.some (.ref d))) (hk : σ[j]? = .some (.some (.ref a))) (hn : σ[l]? = .some (.some (.int n))) (M : MD P w C kD H d m) (ta : Tp C H (.ref a) (kD k)) (hl : m.length < sizeLine)
    (q : ∀ H', But d H H' → MD P w C kD H' d (MS.put m k ((MS.look m k).getD 0 + n)) → Ds.nx σ H') : sNdPut P w C (tVar i) (tVar j) (tOp rAdd (tNdGet2 P w C (tVar i) (tVar j) (tC (.int 0))) (tVar l)) Ds σ H := by
  obtain ⟨o, ⟨xs, e, nd, r, rfl⟩, M2⟩ := M.put KK ta ((MS.look m k).getD 0 + n)
  have ka : KeyAt C H a (kD k) := ⟨ta, KK.fl k, KK.dp k⟩
  have g : (enGet xs (kD k)).getD (.int 0) = .int ((MS.look m k).getD 0) := by
    rw [mr_get KK r]
    cases MS.look m k <;> rfl
  refine ⟨_, hd, d, xs, rfl, nd, _, hk, a, kD k, rfl, nd, ka, _, hn, ?_⟩
  rw [g]
  refine ⟨_, _, rfl, rfl, _, hd, _, hk, d, xs, a, kD k, rfl, rfl, nd, by rw [← mr_len r]; exact hl, ka, q _ but_up M2⟩
end
/-- the promise of put_many -/
def spPut (P : Program) (w : World) (C : Addr) : Sp := fun vs H Q _ => ∃ (κ : Type) (_ : DecidableEq κ) (kD : κ → D) (d a : Addr) (m : List (κ × Int)) (k : κ) (n : Int), KD kD ∧ vs = [.ref d, .ref a, .int n] ∧ MD P w C kD H d m ∧ Tp C H (.ref a) (kD k) ∧ m.length < sizeLine ∧
  ∀ H', But d H H' → MD P w C kD H' d (MS.add m k n) → Q .non H'
section
variable {P : Program} {w : World} {K : PySem.W.Frag} {C d p a : Addr} {κ : Type} [DecidableEq κ] {kD : κ → D} {H H' H1 : Hp} {m : List (κ × Int)} {k : κ} {n : Int} {σ : L2.St} {Ds : Ends} {i j l : Nat} {tk tn : TE}
theorem st_put (KK : KD kD) (hd : σ[i]? = .some (.some (.ref d))) (M : MD P w C kD H d m) (hl : m.length < sizeLine) (hk : EvD C tk σ H (kD k)) (hn : EvD C tn σ H (.num n)) (q : ∀ H', But d H H' → MD P w C kD H' d (MS.add m k n) → Ds.nx σ H') :
    tDrop (tCall (spPut P w C) [] E0 (tCons (tVar i) (tCons tk (tCons tn tNil)))) Ds σ H := by
  refine ⟨_, hd, hk H (Same.refl _) _ fun v1 H2 s2 t2 => hn H2 s2 _ fun v3 H3 s3 t3 => ?_⟩
  obtain ⟨ds, e⟩ := KK.tup k
  cases tp_num t3
  have t2' := t2
  rw [e] at t2'
  obtain ⟨a, xs, rfl, _⟩ := tp_tup t2'
  have s23 := Same.trans s2 s3
  exact ⟨κ, inferInstance, kD, d, a, m, k, n, KK, rfl, M.same s23, t2.same s3, hl, fun H' b M' => q H' (But.trans (Same.but s23) b) M'⟩
/-- G is H with d locked -/
def Fz (d : Addr) (H G : Hp) : Prop := ∃ od u, H d = .some u ∧ ¬ Imm u ∧ G = upd H d (.frz od u)
theorem Fz.stay {G : Hp} (f : Fz d H G) : Stay H G := by
  obtain ⟨od, u, e, n, rfl⟩ := f
  intro b o eb i
  rw [upd_ne (fun z => by subst z; rw [e] at eb; cases eb; exact n i)]
  exact eb
theorem Fz.ne {G : Hp} (f : Fz d H G) {b : Addr} (h : b ≠ d) : G b = H b := by
  obtain ⟨od, u, e, n, rfl⟩ := f
  exact upd_ne h
theorem Fz.notImm {G : Hp} (f : Fz d H G) : ∀ o, G d = .some o → ¬ Imm o := by
  obtain ⟨od, u, e, n, rfl⟩ := f
  intro o eo i
  rw [upd_same] at eo
  cases eo
  exact i
theorem Fz.at_ {G : Hp} (f : Fz d H G) : ∃ o, G d = .some o := by
  obtain ⟨od, u, e, n, rfl⟩ := f
  exact ⟨_, upd_same⟩
theorem MD.fz {G : Hp} (f : Fz d H G) (ne : p ≠ d) (M : MD P w C kD H p m) : MD P w C kD G p m := by
  obtain ⟨xs, nd, r⟩ := M
  exact ⟨xs, nd.stay f.stay (by rw [f.ne ne]; exact nd.at_), r⟩
/-- what holds of the new dict p when the lock is off -/
theorem MD.off {κ2 : Type} {kD2 : κ2 → D} {m2 : List (κ2 × Int)} {u : HO} (ne : p ≠ d) (n : ∀ o, H' d = .some o → ¬ Imm o) (M : MD P w C kD2 H' p m2) : MD P w C kD2 (upd H' d u) p m2 := by
  obtain ⟨xs, nd, r⟩ := M
  exact ⟨xs, nd.stay (But.stay but_up n) (by rw [upd_ne ne]; exact nd.at_), r⟩
/-- the lock is off; all but p (new) is as it was -/
theorem Fz.off {G : Hp} {u : HO} (f : Fz d H G) (hu : H d = .some u) (hp : H p = none) (b : But p G H') : Same H (upd H' d u) := by
  intro c o e
  by_cases h : c = d
  · subst h
    rw [upd_same, ← hu, e]
  · rw [upd_ne h]
    exact b c o (ne_of_none e hp) (by rw [f.ne h]; exact e)
/-- for (key, many) in d.items(): under the lock -/
theorem st_ni {g : TG} {tb : TS} (hv : σ[i]? = .some (.some (.ref d))) (M : MD P w C kD H d m) (J : Hp → Nat → L2.St → Hp → Prop)
    (h0 : ∀ G, Fz d H G → J G 0 σ G)
    (hst : ∀ G i σ' H', Fz d H G → J G i σ' H' → Stay G H' ∧ H' d = G d)
    (hs : ∀ G i k n x σ' H' H'', Fz d H G → m[i]? = .some (k, n) → J G i σ' H' → Same H' H'' → Tp C H'' x (.tup [kD k, .num n]) → ∃ σ2, GB g σ' H'' x σ2 ∧ ∀ R1 R2, tb { nx := J G (i + 1), rt := R1, bk := R2, ct := J G (i + 1) } σ2 H'')
    (hd : ∀ G σ' H' u, Fz d H G → J G m.length σ' H' → H d = .some u → Ds.nx σ' (upd H' d u)) : tLock (tFor (iNi P w (tVar i)) g tb) Ds σ H := by
  obtain ⟨xs, nd, r⟩ := M
  refine ⟨d, _, nd.at_, True.intro, fun od => ?_⟩
  have f : Fz d H (upd H d (.frz od (ndO P w d xs))) := ⟨od, _, nd.at_, fun z => z, rfl⟩
  have gd : upd H d (.frz od (ndO P w d xs)) d = .some (.frz od (ndO P w d xs)) := upd_same
  have hl := mr_len r
  refine ⟨_, hv, d, od, xs, rfl, gd, for_any (n := xs.length) (J (upd H d (.frz od (ndO P w d xs)))) (h0 _ f) (fun i σ' H' hi j => ⟨(hst _ _ _ _ f j).2.trans gd, hi⟩) (fun σ' H' j => ⟨(hst _ _ _ _ f j).2.trans gd, Nat.le_refl _⟩) ?_ (fun σ' H' j => ?_)⟩
  · rintro i x σ' H' H'' hi j ⟨T, en, he, rfl, hT, rfl⟩
    obtain ⟨⟨k, n⟩, hp, e1, e2⟩ := mr_at' r he
    have ka := nd.keys en (List.mem_of_getElem? he)
    have s2 : Same H' (upd H' T (.tup [.ref en.2.1, en.2.2])) := Same.new hT
    have tk : Tp C (upd H' T (.tup [.ref en.2.1, en.2.2])) (.ref en.2.1) (kD k) := by
      rw [← e1]
      exact ((ka.tp.stay f.stay).stay (hst _ _ _ _ f j).1).same s2
    have tx : Tp C (upd H' T (.tup [.ref en.2.1, en.2.2])) (.ref T) (.tup [kD k, .num n]) := by
      refine .tup upd_same (.cons tk (.cons ?_ .nil))
      rw [e2]; exact .num n
    obtain ⟨σ2, g2, b2⟩ := hs _ i k n _ σ' H' _ f hp j s2 tx
    exact g2 _ (b2 _ _)
  · rw [← hl] at j
    exact ⟨(hst _ _ _ _ f j).2.trans gd, hd _ _ _ _ f j nd.at_⟩
/-- a new dict that holds m -/
def EvN (P : Program) (w : World) (C : Addr) {κ : Type} (kD : κ → D) (te : TE) (σ : L2.St) (H : Hp) (m : List (κ × Int)) : Prop := ∀ H1, Same H H1 → ∀ Q : VK, (∀ d H2, Same H1 H2 → H1 d = none → MD P w C kD H2 d m → Q (.ref d) H2) → te σ H1 Q
/-- over the keys of a new dict that nobody else sees: it stays locked -/
def iNkL (P : Program) (w : World) (td : TE) : TI := fun σ H R => td σ H fun x H1 => ∃ d xs, x = .ref d ∧ H1 d = .some (ndO P w d xs) ∧ ∀ od, R (Itnk P w d od xs) (upd H1 d (.frz od (ndO P w d xs)))
theorem pi_nkL {X : Cx} {tg e : Expr} {td : TE} (he : PE X e td) : PI X tg e (iNkL X.prog X.w td) := by
  refine ⟨fun pins s σ H R I h => ?_⟩
  refine thn (he.run pins s σ H _ I h) fun u s1 ⟨x, H1, I1, rx, d, xs, ex, hd, q⟩ => ?_
  subst ex
  obtain rfl : u = Value.ref d := rx
  obtain ⟨od, I2⟩ := I1.lock hd True.intro
  have q := q od
  obtain ⟨hs, hgd, hx, es, ep, hdt, hsz, ent⟩ := frzN I2 (o := od) (xs := xs) upd_same
  refine iter_keys hs hgd hx hdt (pi_one (tk := s1.toks) I2 _ (turn_nk _ hdt) ⟨_, Heap.get?_push_size _ rfl, rfl, ?_⟩ q)
  rw [hsz] <;> rfl
theorem st_nkL {g : TG} {tb : TS} {td : TE} (h : EvN P w C kD td σ H m) (J : Hp → Nat → L2.St → Hp → Prop)
    (h0 : ∀ G, Same H G → J G 0 σ G)
    (hst : ∀ G i σ' H', Same H G → J G i σ' H' → Same G H')
    (hs : ∀ G i k n x σ' H', Same H G → m[i]? = .some (k, n) → J G i σ' H' → Tp C H' x (kD k) → ∃ σ2, GB g σ' H' x σ2 ∧ tb { nx := J G (i + 1), rt := Ds.rt, bk := Ds.nx, ct := J G (i + 1) } σ2 H')
    (hd : ∀ G σ' H', Same H G → J G m.length σ' H' → Ds.nx σ' H') : tFor (iNkL P w td) g tb Ds σ H := by
  refine h H (Same.refl _) _ fun d H2 s2 hn M => ?_
  obtain ⟨xs, nd, r⟩ := M
  refine ⟨d, xs, rfl, nd.at_, fun od => ?_⟩
  have f : Fz d H2 (upd H2 d (.frz od (ndO P w d xs))) := ⟨od, _, nd.at_, fun z => z, rfl⟩
  have sG : Same H (upd H2 d (.frz od (ndO P w d xs))) := Same.put s2 hn
  have gd : upd H2 d (.frz od (ndO P w d xs)) d = .some (.frz od (ndO P w d xs)) := upd_same
  have hl := mr_len r
  refine for_any (n := xs.length) (J (upd H2 d (.frz od (ndO P w d xs)))) (h0 _ sG) (fun i σ' H' hi j => ⟨hst _ _ _ _ sG j _ _ gd, hi⟩) (fun σ' H' j => ⟨hst _ _ _ _ sG j _ _ gd, Nat.le_refl _⟩) ?_ (fun σ' H' j => hd _ _ _ sG (by rw [hl]; exact j))
  rintro i x σ' H' H'' hi j ⟨rfl, en, he, rfl⟩
  obtain ⟨⟨k, n⟩, hp, e1, e2⟩ := mr_at' r he
  have ka := nd.keys en (List.mem_of_getElem? he)
  have tk : Tp C H'' (.ref en.2.1) (kD k) := by
    rw [← e1]
    exact (ka.tp.stay f.stay).same (hst _ _ _ _ sG j)
  obtain ⟨σ2, g2, b2⟩ := hs _ i k n _ σ' H'' sG hp j tk
  exact g2 _ b2
/-- the sum of a dict's values -/
theorem ev_sumV {ta : TE} (ha : ∀ H1, Same H H1 → ∀ Q : VK, (∀ d H2, Same H1 H2 → MD P w C kD H2 d m → Q (.ref d) H2) → ta σ H1 Q) : EvD C (tCB (rSumV P w C) (tCons (tNdVals P w C ta) tNil)) σ H (.num (MS.ls m fun p => p.2)) := fun H1 s Q q =>
  ha H1 s _ fun d H2 s2 ⟨xs, nd, r⟩ => ⟨d, xs, rfl, nd, fun p hp => by
    have sn : Same H2 (upd H2 p (valO p d)) := Same.new hp
    refine ⟨p, d, xs, m.map (·.2), rfl, upd_same, nd.stay (Same.stay sn) (sn _ _ nd.at_), mr_vals r, ?_⟩
    exact q _ _ (Same.trans s2 sn) (.num _)⟩
end
section
variable {C : Addr} {K : PySem.W.Frag} {H : Hp} {σ : L2.St} {x : V} {g1 : TG} {j : Nat} {d : D} {n : Int} {ta tb : TE} {i : Int}
/-- a pair whose first part has a target of its own -/
theorem gb_nest (h : Tp C H x (.tup [d, .num n])) : ∃ v, Tp C H v d ∧ ∀ σ1, GB g1 σ H v σ1 → GB (gTup K 2 (gCons g1 (gCons (gName j) gNil))) σ H x (σ1.set j (.some (.int n))) := by
  obtain ⟨p, xs, rfl, hx, r⟩ := tp_tup h
  obtain ⟨v, _, rfl, r1, r⟩ := tpa_cons r
  obtain ⟨_, _, rfl, r2, r⟩ := tpa_cons r
  cases tpa_nil r; cases tp_num r2
  exact ⟨v, r1, fun σ1 hg Q q => ⟨p, _, rfl, .inl (.inl hx), rfl, _, _, rfl, hg _ ⟨_, _, rfl, rfl, q⟩⟩⟩
theorem ev_mulR {m : Int} (ha : EvD C ta σ H (.num i)) (hb : EvD C tb σ H (.num m)) (hm : m.natAbs < 2 ^ 64) : EvD C (tOp (rI CMul fun i j => .int (i * j)) ta tb) σ H (.num (i * m)) :=
  ev_opIC (g := fun i j => i * j) ha hb (.inr ⟨by omega, by omega⟩)
theorem ev_mulL {m : Int} (ha : EvD C ta σ H (.num i)) (hb : EvD C tb σ H (.num m)) (hm : i.natAbs < 2 ^ 64) : EvD C (tOp (rI CMul fun i j => .int (i * j)) ta tb) σ H (.num (i * m)) :=
  ev_opIC (g := fun i j => i * j) ha hb (.inl ⟨by omega, by omega⟩)
theorem ev_fdiv {m : Int} (ha : EvD C ta σ H (.num i)) (hb : EvD C tb σ H (.num m)) (h0 : m ≠ 0) (hm : m.natAbs < 1073741824) : EvD C (tOp (rI CDivN fun i j => .int (Int.fdiv i j)) ta tb) σ H (.num (Int.fdiv i m)) :=
  ev_opIC (g := Int.fdiv) ha hb ⟨h0, hm⟩
theorem ev_fmod {m : Int} (ha : EvD C ta σ H (.num i)) (hb : EvD C tb σ H (.num m)) (h0 : m ≠ 0) : EvD C (tOp (rI (fun _ j => j ≠ 0) fun i j => .int (Int.fmod i j)) ta tb) σ H (.num (Int.fmod i m)) :=
  ev_opIC (g := Int.fmod) ha hb h0
end
section
variable {P : Program} {w : World} {K : PySem.W.Frag} {C d p a : Addr} {κ : Type} [DecidableEq κ] {kD : κ → D} {H H' H1 : Hp} {m : List (κ × Int)} {k : κ} {n : Int} {σ : L2.St} {Ds : Ends} {i j l : Nat} {tk tv te : TE} {rest : TS} {e : D}
/-- {key: n} -/
theorem evn_one (KK : KD kD) (hk : EvD C tk σ H (kD k)) (hv : EvD C tv σ H (.num n)) : EvN P w C kD (tNdOne P w C tk tv) σ H [(k, n)] := fun H1 s Q q p hp => by
  have sn : Same H1 (upd H1 p (ndO P w p [])) := Same.new hp
  refine hk _ (Same.trans s sn) _ fun y H2 s2 t2 => hv H2 (Same.trans (Same.trans s sn) s2) _ fun v H3 s3 t3 => ?_
  cases tp_num t3
  obtain ⟨ds, ek⟩ := KK.tup k
  have t2' := t2
  rw [ek] at t2'
  obtain ⟨a, xs, rfl, _⟩ := tp_tup t2'
  have s23 := Same.trans s2 s3
  have e3 : H3 p = .some (ndO P w p []) := s23 _ _ upd_same
  have ta := t2.same s3
  refine ⟨a, kD k, rfl, e3, ⟨ta, KK.fl k, KK.dp k⟩, q p _ (Same.put (Same.trans sn s23) hp) hp ?_⟩
  have st : Stay H3 (upd H3 p (ndO P w p [(kD k, a, .int n)])) := But.stay (p := p) but_up (notImm_nd e3)
  refine ⟨_, ⟨upd_same, fun x hx => ?_⟩, .cons ⟨rfl, rfl⟩ .nil⟩
  have : x = (kD k, a, .int n) := by simpa using hx
  subst this
  exact ⟨ta.stay st, KK.fl k, KK.dp k⟩
theorem st_setN (h : EvN P w C kD te σ H m) (q : ∀ d H2, Same H H2 → H d = none → MD P w C kD H2 d m → rest Ds (σ.set i (.some (.ref d))) H2) : tSeq (tAsg te (gName i)) rest Ds σ H := h H (Same.refl _) _ q
theorem st_retN (h : EvN P w C kD te σ H m) (q : ∀ d H2, Same H H2 → H d = none → MD P w C kD H2 d m → Ds.rt (.ref d) H2) : tRet te Ds σ H := h H (Same.refl _) _ q
/-- f(..) as a statement -/
theorem st_drop (h : EvD C te σ H e) (q : ∀ H2, Same H H2 → rest Ds σ H2) : tSeq (tDrop te) rest Ds σ H := h H (Same.refl _) _ fun _ H2 s _ => q H2 s
theorem st_drop1 (h : EvD C te σ H e) (q : ∀ H2, Same H H2 → Ds.nx σ H2) : tDrop te Ds σ H := h H (Same.refl _) _ fun _ H2 s _ => q H2 s
end
end Y

set_option Elab.async false
set_option linter.all false
set_option maxRecDepth 100000
set_option maxHeartbeats 4000000
/-! Stillness: states as dicts. -/
namespace Kw
open PySem PySem.Spec PyProof.Rows L2 Y
local macro_rules | `(tactic| trivial) => `(tactic| first
  | with_reducible exact ev_int
  | with_reducible exact ev_bl
  | with_reducible exact ev_non
  | with_reducible exact ea_nil
  | with_reducible exact et_yes
  | ((with_reducible apply ev_var); exact rfl; first | exact .num _ | exact .bl _ | exact .non | assumption)
  | ((with_reducible apply ea_cons); trivial; trivial)
  | ((with_reducible apply ev_tup); trivial; first | decide | (show _ ≤ sizeLine; simp; decide))
  | ((with_reducible apply ev_ix0); trivial; trivial; exact rfl)
  | ((with_reducible apply ev_ix1); trivial; trivial; exact rfl)
  | ((with_reducible apply ev_ix2); trivial; trivial; exact rfl)
  | ((with_reducible apply ev_ix3); trivial; trivial; exact rfl)
  | ((with_reducible apply ev_opI); trivial; trivial)
  | ((with_reducible apply ev_opB); trivial; trivial)
  | ((with_reducible apply ev_eqI); trivial; trivial)
  | ((with_reducible apply ev_neI); trivial; trivial)
  | ((with_reducible apply ev_un); trivial)
  | ((with_reducible apply ev_chain); trivial; trivial; trivial)
  | ((with_reducible apply ev_abs); trivial)
  | ((with_reducible apply ev_intI); trivial)
  | ((with_reducible apply ev_gcd); trivial; trivial)
  | ((with_reducible apply ev_lenT); trivial)
  | ((with_reducible apply et_test); trivial)
  | ((with_reducible apply et_B); trivial)
  | ((with_reducible apply et_not); trivial)
  | ((with_reducible apply et_and); trivial; (intro _; trivial))
  | ((with_reducible apply et_or); trivial; (intro _; trivial))
  | ((with_reducible apply ev_andV); trivial; (intro _; trivial))
  | ((with_reducible apply ev_orV); trivial; (intro _; trivial))
  | ((with_reducible apply ev_notV); trivial)
  | ((with_reducible apply ev_isN); trivial)
  | ((with_reducible apply ev_notN); trivial)
  | ((with_reducible apply ev_isiII); trivial)
  | ((with_reducible apply ev_isiIB); trivial)
  | ((with_reducible apply ev_isiTT); trivial)
  | ((with_reducible apply ev_isH); trivial))
/-- a state's key; a class's -/
def sKD (k : MF.SKey) : D := .tup [.num k.1, .num k.2.1, lastD k.2.2]
def cKD (k : MF.CKey) : D := .tup [.num k.1, .num k.2.1, .num k.2.2.1, lastD k.2.2.2]
theorem nk_last {a b : Option MF.Step} (h : nk (lastD a) = nk (lastD b)) : a = b := by
  cases a with
  | none => cases b with
    | none => rfl
    | some b => simp [lastD, stepD, nk] at h
  | some a => cases b with
    | none => simp [lastD, stepD, nk] at h
    | some b =>
      simp only [lastD, stepD, nk, nkA, NestedKey.tup.injEq, List.cons.injEq, NestedKey.num.injEq, and_true] at h
      obtain ⟨h1, h2⟩ := h
      have e1 : a.1 = b.1 := by omega
      have e2 : a.2 = b.2 := by omega
      rw [show a = b from Prod.ext e1 e2]
theorem kd_s : KD sKD where
  inj := fun a b h => by
    simp only [sKD, nk, nkA, NestedKey.tup.injEq, List.cons.injEq, NestedKey.num.injEq, and_true] at h
    obtain ⟨h1, h2, h3⟩ := h
    exact Prod.ext h1 (Prod.ext h2 (nk_last h3))
  fl := fun k => by obtain ⟨a, b, c⟩ := k; cases c <;> rfl
  dp := fun k => by obtain ⟨a, b, c⟩ := k; cases c <;> exact Nat.le_of_ble_eq_true rfl
  tup := fun k => ⟨_, rfl⟩
theorem kd_c : KD cKD where
  inj := fun a b h => by
    simp only [cKD, nk, nkA, NestedKey.tup.injEq, List.cons.injEq, NestedKey.num.injEq, and_true] at h
    obtain ⟨h1, h2, h3, h4⟩ := h
    exact Prod.ext h1 (Prod.ext h2 (Prod.ext h3 (nk_last h4)))
  fl := fun k => by obtain ⟨a, b, c, d⟩ := k; cases d <;> rfl
  dp := fun k => by obtain ⟨a, b, c, d⟩ := k; cases d <;> exact Nat.le_of_ble_eq_true rfl
  tup := fun k => ⟨_, rfl⟩
/-- the houses of the law -/
structure HW (rooms : Int) (ds : List Door) : Prop where
  hk : HOk rooms ds
  d4 : ds.length ≤ 4
  n50 : ∀ d ∈ ds, d.2.1.natAbs ≤ 60 ∧ d.2.2.2.natAbs ≤ 60
theorem HW.ok {rooms : Int} {ds : List Door} (h : HW rooms ds) : MF.Ok rooms ds where
  pos := h.hk.r0
  nn := fun d hd => ⟨(h.hk.dok d hd).2.2.1.1, (h.hk.dok d hd).2.2.2.1⟩
  rm := fun d hd => ⟨(h.hk.dok d hd).1.1, (h.hk.dok d hd).1.2, (h.hk.dok d hd).2.1.1, (h.hk.dok d hd).2.1.2⟩
theorem HW.lv {rooms : Int} {ds : List Door} (h : HW rooms ds) {s : MF.Step} (hs : s ∈ MF.allSteps ds) : MF.lv ds s ≠ 0 ∧ (MF.lv ds s).natAbs ≤ 60 ∧ MF.ar ds s ≠ 0 ∧ (MF.ar ds s).natAbs ≤ 60 := by
  refine ⟨MF.lv_ne h.ok hs, ?_, MF.ar_ne h.ok hs, ?_⟩
  · obtain ⟨d, hd, e | e⟩ := MF.gate_door hs
    · show (MF.gate ds s).2.1.natAbs ≤ 60
      rw [e]; exact (h.n50 d hd).1
    · show (MF.gate ds s).2.1.natAbs ≤ 60
      rw [e]; exact (h.n50 d hd).2
  · obtain ⟨d, hd, e | e⟩ := MF.gate_door hs
    · show (MF.gate ds s).2.2.2.natAbs ≤ 60
      rw [e]; exact (h.n50 d hd).2
    · show (MF.gate ds s).2.2.2.natAbs ≤ 60
      rw [e]; exact (h.n50 d hd).1
theorem len_beyond {ds : List Door} {room : Int} {last : Option MF.Step} (h : ds.length ≤ 4) : (MF.beyond ds room last).length ≤ 8 := by
  unfold MF.beyond MF.stepsOf MF.allSteps
  rw [List.length_map]
  refine Nat.le_trans (List.length_filter_le _ _) ?_
  have : ∀ n, ((List.range n).flatMap fun a => [(a, 0), (a, 1)] : List MF.Step).length = 2 * n := by
    intro n
    induction n with
    | zero => rfl
    | succ n ih => rw [List.range_succ, List.flatMap_append, List.length_append, ih]; simp; omega
  rw [this]; omega
theorem len_flat {α β : Type} {c : Nat} {f : α → List β} (h : ∀ a, (f a).length ≤ c) : ∀ l : List α, (l.flatMap f).length ≤ c * l.length
  | [] => by simp
  | a :: l => by
    rw [List.flatMap_cons, List.length_append, List.length_cons]
    have := h a
    have := len_flat h l
    rw [Nat.mul_add]; omega
section
variable {P : Program} {w : World} {K : PySem.W.Frag} {mg : Str → Option Value} {base : Heap} {C : Addr}
theorem sc_need_short : FnScope ["length"] ["length"] (defScope s_need_short) := ⟨rfl, rfl, rfl, by decide +kernel, rfl, by decide +kernel, by decide +kernel⟩
abbrev sp_need_short (C : Addr) : Sp := fnSp C (fun i : Int => [.num i]) (fun i => 0 ≤ i ∧ i ≤ 40) (fun _ => .non)
theorem ok_need_short (F : Df K mg "need_short" s_need_short) (B : Bi K mg C) (h_is_below : Cl P w K mg base "is_below" 2 ["value", "size"] (sp_is_below C)) : Cl P w K mg base "need_short" 3 ["length"] (sp_need_short C) := by
  refine F.cl sc_need_short (fun _ _ _ _ _ _ us hl => match us, hl with | [_], _ => rfl) (fun vs H Q E h => ?_) (fun f cdv A outer s H vs Q E hr h => ?_)
  · obtain ⟨i, t, _⟩ := h; exact t.length
  · obtain ⟨i, t, hp, q⟩ := h
    obtain ⟨v, _, rfl, t1, t⟩ := tpa_cons t
    cases tpa_nil t
    have hp : 0 ≤ i ∧ i ≤ 40 := hp
    refine ⟨_, (pss_one (ps_if (pt_not (pt_val (pe_cl h_is_below (hr.mono (by decide)) (by rfl) (pa_cons (pv 0) (pa_cons (pe_op op_add (pe_gint (by rfl) B.MOST_LENGTH_stillness) pe_int) pa_nil))))) (pss_one ps_never) pss_nil)), ?_⟩
    apply st_no1
    · refine et_not (b := true) (et_B (C := C) ?_)
      have e : D.bl true = D.bl (decide (0 ≤ i) && decide (i < 40 + 1)) := by
        rw [decide_eq_true hp.1, decide_eq_true (by omega)]; rfl
      rw [e]
      apply ev_fn (i, (40 : Int) + 1)
      · trivial
      · rfl
      · exact True.intro
    · exact fun H2 s2 => q _ _ s2 .non
theorem sc_put_many : FnScope ["found", "key", "many"] ["found", "key", "many"] (defScope s_put_many) := ⟨rfl, rfl, rfl, by decide +kernel, rfl, by decide +kernel, by decide +kernel⟩
theorem ok_put_many (F : Df K mg "put_many" s_put_many) (B : Bi K mg C) : Cl P w K mg base "put_many" 1 ["found", "key", "many"] (spPut P w C) := by
  refine F.cl sc_put_many (fun _ _ _ _ _ _ us hl => match us, hl with | [_, _, _], _ => rfl) (fun vs H Q E h => ?_) (fun f cdv A outer s H vs Q E hr h => ?_)
  · obtain ⟨κ, i2, kD, d, a, m, k, n, KK, rfl, _⟩ := h; rfl
  · obtain ⟨κ, i2, kD, d, a, m, k, n, KK, rfl, M, tk, hl, q⟩ := h
    refine ⟨_, (pss_one (ps_if (pt_cmpR op_gt (pv 2) pe_int (nomark _)) (pss_one (ps_ndput (C := C) hr.units (pv 0) (pv 1) (pe_op op_add (pe_ndget2 (C := C) hr.units (pv 0) (pv 1) pe_int ⟨rfl, rfl, rfl, rfl⟩) (pv 2)) rfl)) pss_nil)), ?_⟩
    apply st_if
    · apply et_test (C := C)
      apply ev_opB (g := fun i j => decide (j < i))
      · trivial
      · trivial
    · intro hb H2 s2
      have hb : 0 < n := of_decide_eq_true hb
      apply st_ndadd (m := m) (k := k) (n := n) KK rfl rfl rfl (M.same s2) (tk.same s2) hl
      intro H3 b3 M3
      refine q H3 (But.trans (Same.but s2) b3) ?_
      unfold MS.add
      rw [if_pos hb]
      exact M3
    · intro hb H2 s2
      have hb : ¬ 0 < n := of_decide_eq_false hb
      refine q H2 (Same.but s2) ?_
      unfold MS.add
      rw [if_neg hb]
      exact M.same s2
end
/-- what one step of one state gives -/
def sInc (ds : List Door) (k : MF.SKey) (many : Int) (q : MF.Step × Int) : List (MF.SKey × Int) := if k.2.1.fmod (MF.lv ds q.1) = 0 then [((MF.far ds q.1, k.2.1.fdiv (MF.lv ds q.1) * MF.ar ds q.1, some q.1), many * (MF.aux (MF.lv ds q.1) - q.2))] else []
theorem sInc_len (ds : List Door) (k : MF.SKey) (many : Int) (q : MF.Step × Int) : (sInc ds k many q).length ≤ 1 := by unfold sInc; split <;> simp
theorem stillInc_len {ds : List Door} (h : ds.length ≤ 4) (k : MF.SKey) (many : Int) : (MF.stillInc ds k many).length ≤ 8 := by
  have h1 := len_flat (c := 1) (sInc_len ds k many) (MF.beyond ds k.1 k.2.2)
  have h2 := len_beyond (room := k.1) (last := k.2.2) h
  show ((MF.beyond ds k.1 k.2.2).flatMap (sInc ds k many)).length ≤ 8
  omega
theorem aux_if (x : Int) : (if x < 0 then -x else x) = MF.aux x := by unfold MF.aux; split <;> omega
theorem stillInc_last {ds : List Door} {k : MF.SKey} {many : Int} : ∀ p ∈ MF.stillInc ds k many, ∀ l, p.1.2.2 = some l → l.2 ≤ 1 := by
  intro p hp l hl
  unfold MF.stillInc MF.beyond at hp
  obtain ⟨q, hq, hp⟩ := List.mem_flatMap.mp hp
  obtain ⟨s, hs, rfl⟩ := List.mem_map.mp hq
  split at hp
  · simp only [List.mem_cons, List.not_mem_nil, or_false] at hp
    subst hp
    cases hl
    exact (MF.mem_all.mp (MF.mem_stepsOf.mp hs).1).2
  · exact absurd hp (by simp)
/-- every last step has a side -/
def LS (m : List (MF.SKey × Int)) : Prop := ∀ p ∈ m, ∀ l, p.1.2.2 = some l → l.2 ≤ 1
theorem LS.on {ds : List Door} {m : List (MF.SKey × Int)} : LS (MF.stillOn ds m) := by
  refine MS.key_adds (P := fun k : MF.SKey => ∀ l, k.2.2 = some l → l.2 ≤ 1) _ ?_ (by intro p hp; simp at hp)
  intro p hp
  obtain ⟨q, hq, hp⟩ := List.mem_flatMap.mp hp
  exact stillInc_last p hp
theorem stillOn_len {ds : List Door} (h : ds.length ≤ 4) (m : List (MF.SKey × Int)) : (MF.stillOn ds m).length ≤ 8 * m.length := by
  unfold MF.stillOn
  have h1 := MS.len_adds (m.flatMap fun p => MF.stillInc ds p.1 p.2) []
  have h2 := len_flat (c := 8) (f := fun p : MF.SKey × Int => MF.stillInc ds p.1 p.2) (fun p => stillInc_len h p.1 p.2) m
  rw [List.length_nil] at h1
  omega
section
variable {P : Program} {w : World} {K : PySem.W.Frag} {mg : Str → Option Value} {base : Heap} {C : Addr}
/-- dicts stay small while they grow -/
def SmS (ds : List Door) (m : List (MF.SKey × Int)) : Prop := ∀ is, is <+: (m.flatMap fun z => MF.stillInc ds z.1 z.2) → (MS.adds [] is).length < sizeLine
theorem sc_still_on : FnScope ["house", "states", "found", "room", "pulls", "last", "many", "step", "least", "here", "leaving", "there", "arriving"] ["house", "states"] (defScope s_still_on) := ⟨rfl, rfl, rfl, by decide +kernel, rfl, by decide +kernel, by decide +kernel⟩
abbrev sp_still_on (P : Program) (w : World) (C : Addr) : Sp := fun vs H Q _ => ∃ rooms ds d m, TpA C H (vs.take 1) [.hs rooms ds] ∧ vs.drop 1 = [.ref d] ∧ HW rooms ds ∧ MD P w C sKD H d m ∧ LS m ∧ SmS ds m ∧
  ∀ p H', Same H H' → H p = none → MD P w C sKD H' p (MF.stillOn ds m) → Q (.ref p) H'
theorem ok_still_on (F : Df K mg "still_on" s_still_on) (B : Bi K mg C) (h_steps_beyond : Cl P w K mg base "steps_beyond" 3 ["house", "room", "last"] (sp_steps_beyond C)) (h_gate_of : Cl P w K mg base "gate_of" 1 ["house", "step"] (sp_gate_of C)) (h_put_many : Cl P w K mg base "put_many" 1 ["found", "key", "many"] (spPut P w C)) : Cl P w K mg base "still_on" 4 ["house", "states"] (sp_still_on P w C) := by
  refine F.cl sc_still_on (fun _ _ _ _ _ _ us hl => match us, hl with | [_, _], _ => rfl) (fun vs H Q E h => ?_) (fun f cdv A outer s H vs Q E hr h => ?_)
  · obtain ⟨rooms, ds, d, m, t, e, _⟩ := h
    match vs, t, e with
    | [_, _], _, _ => rfl
    | [_], _, e => simp at e
    | _ :: _ :: _ :: _, _, e => simp at e
  · obtain ⟨rooms, ds, d, m, t, e, hw, M, ls, hl, q⟩ := h
    obtain ⟨v, rfl⟩ : ∃ v, vs = [v, .ref d] := by
      match vs, t, e with
      | [v, _], _, e => exact ⟨v, by simpa using e⟩
      | [_], _, e => simp at e
      | _ :: _ :: _ :: _, _, e => simp at e
    obtain ⟨_, _, ev, t1, t⟩ := tpa_cons t
    cases ev
    refine ⟨_, (pss_cons (ps_set (i := 2) sc_still_on.nd rfl (by first | exact Or.inl rfl | exact Or.inr rfl) (pe_ndnew))
      (pss_cons (ps_lock (ps_for PassesOwn.never rfl (pi_ni (pv 1)) (pg_tup (by rfl) (pgs_cons (pg_tup (by rfl) (pgs_cons (pg_name (i := 3) sc_still_on.nd rfl (by first | exact Or.inl rfl | exact Or.inr rfl)) (pgs_cons (pg_name (i := 4) sc_still_on.nd rfl (by first | exact Or.inl rfl | exact Or.inr rfl)) (pgs_cons (pg_name (i := 5) sc_still_on.nd rfl (by first | exact Or.inl rfl | exact Or.inr rfl)) pgs_nil)))) (pgs_cons (pg_name (i := 6) sc_still_on.nd rfl (by first | exact Or.inl rfl | exact Or.inr rfl)) pgs_nil))) (pss_one (ps_for PassesOwn.never rfl (pi_list (pe_cl h_steps_beyond (hr.mono (by decide)) (by rfl) (pa_cons (pv 0) (pa_cons (pv 3) (pa_cons (pv 5) pa_nil))))) (pg_tup (by rfl) (pgs_cons (pg_name (i := 7) sc_still_on.nd rfl (by first | exact Or.inl rfl | exact Or.inr rfl)) (pgs_cons (pg_name (i := 8) sc_still_on.nd rfl (by first | exact Or.inl rfl | exact Or.inr rfl)) pgs_nil))) (pss_cons (ps_asg (pe_cl h_gate_of (hr.mono (by decide)) (by rfl) (pa_cons (pv 0) (pa_cons (pv 7) pa_nil))) (pg_tup (by rfl) (pgs_cons (pg_name (i := 9) sc_still_on.nd rfl (by first | exact Or.inl rfl | exact Or.inr rfl)) (pgs_cons (pg_name (i := 10) sc_still_on.nd rfl (by first | exact Or.inl rfl | exact Or.inr rfl)) (pgs_cons (pg_name (i := 11) sc_still_on.nd rfl (by first | exact Or.inl rfl | exact Or.inr rfl)) (pgs_cons (pg_name (i := 12) sc_still_on.nd rfl (by first | exact Or.inl rfl | exact Or.inr rfl)) pgs_nil))))))
      (pss_one (ps_if (pt_cmpR op_eq (pe_op op_modN (pv 4) (pv 10)) pe_int (nomark _)) (pss_one (ps_expr (pe_cl h_put_many (hr.mono (by decide)) (by rfl) (pa_cons (pv 2) (pa_cons (pe_tup (pa_cons (pv 11) (pa_cons (pe_op op_mul (pe_op op_fdivN (pv 4) (pv 10)) (pv 12)) (pa_cons (pv 7) pa_nil)))) (pa_cons (pe_op op_mul (pv 6) (pe_op op_sub (pe_callB call_abs (by rfl) B.abs (by decide +kernel) (pa_cons (pv 10) pa_nil)) (pv 8))) pa_nil)))))) pss_nil)))))))
      (pss_one (ps_ret (pv 2))))), ?_⟩
    intro p hp
    have sp : Same H (upd H p (ndO P w p [])) := Same.new hp
    have M1 : MD P w C sKD (upd H p (ndO P w p [])) p ([] : List (MF.SKey × Int)) := md_new hp
    have Md := M.same sp
    have npd : p ≠ d := fun z => M.some (by rw [← z]; exact hp)
    have t1' := t1.same sp
    change tLock _ _ [some v, some (.ref d), some (.ref p), none, none, none, none, none, none, none, none, none, none] (upd H p (ndO P w p []))
    generalize upd H p (ndO P w p []) = H1 at sp M1 Md t1' ⊢
    refine st_ni (P := P) (w := w) (C := C) (kD := sKD) (d := d) (i := 1) (m := m) rfl Md (fun G i σ' H' => ∃ x3 x4 x5 x6 x7 x8 x9 x10 x11 x12, σ' = [some v, some (.ref d), some (.ref p), x3, x4, x5, x6, x7, x8, x9, x10, x11, x12] ∧ But p G H' ∧ MD P w C sKD H' p (MS.adds [] ((m.take i).flatMap fun z => MF.stillInc ds z.1 z.2))) ?_ ?_ ?_ ?_
    · intro G fz
      exact ⟨none, none, none, none, none, none, none, none, none, none, rfl, But.refl _ _, M1.fz fz npd⟩
    · rintro G i σ' H' fz ⟨x3, x4, x5, x6, x7, x8, x9, x10, x11, x12, rfl, b, M'⟩
      refine ⟨b.stay (M1.fz fz npd).notImm, ?_⟩
      obtain ⟨o, ho⟩ := fz.at_
      rw [ho]
      exact b d o (Ne.symm npd) ho
    · rintro G i ⟨room, pulls, last⟩ n x σ' H' H'' fz hi ⟨x3, x4, x5, x6, x7, x8, x9, x10, x11, x12, rfl, b, M'⟩ s2 tx
      obtain ⟨vk, tk, gk⟩ := gb_nest (K := K) (g1 := gTup K 3 (gCons (gName 3) (gCons (gName 4) (gCons (gName 5) gNil)))) (j := 6) (σ := [some v, some (.ref d), some (.ref p), x3, x4, x5, x6, x7, x8, x9, x10, x11, x12]) tx
      obtain ⟨u1, u2, u3, w1, w2, w3, g3⟩ := gb_three (K := K) (i := 3) (j := 4) (k := 5) (σ := [some v, some (.ref d), some (.ref p), x3, x4, x5, x6, x7, x8, x9, x10, x11, x12]) tk
      cases tp_num w1
      cases tp_num w2
      refine ⟨_, gk _ g3, fun R1 R2 => ?_⟩
      have hm := List.mem_of_getElem? hi
      have il : i < m.length := (List.getElem?_eq_some_iff.mp hi).1
      have b2 : But p G H'' := But.trans b (Same.but s2)
      have MG := M1.fz fz npd
      have t1k := t1'.stay (Stay.trans fz.stay (b2.stay MG.notImm))
      have M2 := M'.same s2
      have tki : (m.take (i + 1)).flatMap (fun z => MF.stillInc ds z.1 z.2) = (m.take i).flatMap (fun z => MF.stillInc ds z.1 z.2) ++ MF.stillInc ds (room, pulls, last) n := by
        rw [List.take_add_one, hi, List.flatMap_append]
        simp
      have pre : (m.take (i + 1)).flatMap (fun z => MF.stillInc ds z.1 z.2) <+: m.flatMap fun z => MF.stillInc ds z.1 z.2 := by
        conv => rhs; rw [← List.take_append_drop (i + 1) m, List.flatMap_append]
        exact List.prefix_append _ _
      have sml : ∀ j, (MS.adds (MS.adds [] ((m.take i).flatMap fun z => MF.stillInc ds z.1 z.2)) (((MF.beyond ds room last).take j).flatMap (sInc ds (room, pulls, last) n))).length < sizeLine := by
        intro j
        rw [← MS.adds_append]
        refine hl _ (List.IsPrefix.trans ?_ pre)
        rw [tki, List.prefix_append_right_inj]
        show _ <+: (MF.beyond ds room last).flatMap (sInc ds (room, pulls, last) n)
        conv => rhs; rw [← List.take_append_drop j (MF.beyond ds room last), List.flatMap_append]
        exact List.prefix_append _ _
      rw [tki, MS.adds_append]
      clear pre
      generalize MS.adds [] ((m.take i).flatMap fun z => MF.stillInc ds z.1 z.2) = acc at M2 sml ⊢
      refine st_for (C := C) (wi := _) (ei_lst (C := C) (ds := (MF.beyond ds room last).map beyD) ?_) (fun G2 j σ' Hj => ∃ x7 x8 x9 x10 x11 x12, σ' = [some v, some (.ref d), some (.ref p), some (.int room), some (.int pulls), some u3, some (.int n), x7, x8, x9, x10, x11, x12] ∧ But p G Hj ∧ But p G2 Hj ∧ MD P w C sKD Hj p (MS.adds acc (((MF.beyond ds room last).take j).flatMap (sInc ds (room, pulls, last) n)))) ?_ ?_ ?_ ?_
      · apply evl_fn (rooms, ds, room, last)
        · exact ea_cons (ev_var rfl t1k) (ea_cons (ev_var rfl (.num _)) (ea_cons (ev_var rfl w3) ea_nil))
        · rfl
        · exact ⟨by have := hw.d4; dsimp only; omega, fun l hl => ls _ hm l hl⟩
      · intro G2 sG
        exact ⟨x7, x8, x9, x10, x11, x12, rfl, But.trans b2 (Same.but sG), But.refl _ _, M2.same sG⟩
      · rintro G2 j σ' Hj sG ⟨y7, y8, y9, y10, y11, y12, rfl, bj, b2j, Mj⟩
        refine ⟨b2j.stay (M2.same sG).notImm, fun c o hc e => b2j c o (fun z => ?_) e⟩
        subst z
        rcases hc with hc | hc
        · exact M2.some hc
        · simp at hc
      · rintro G2 j dd x σ' Hj sG hj ⟨y7, y8, y9, y10, y11, y12, rfl, bj, b2j, Mj⟩ tx
        obtain ⟨q2, hq, rfl⟩ := map_item hj
        obtain ⟨us, ul, ts, tl, g2⟩ := gb_two (K := K) (i := 7) (j := 8) (σ := [some v, some (.ref d), some (.ref p), some (.int room), some (.int pulls), some u3, some (.int n), y7, y8, y9, y10, y11, y12]) tx
        cases tp_num tl
        refine ⟨_, g2, ?_⟩
        have hmq := List.mem_of_getElem? hq
        obtain ⟨hs, hle⟩ : q2.1 ∈ MF.allSteps ds ∧ (q2.2 = 0 ∨ q2.2 = 1) := by
          unfold MF.beyond at hmq
          obtain ⟨z, hz, rfl⟩ := List.mem_map.mp hmq
          exact ⟨(MF.mem_stepsOf.mp hz).1, MF.least_01 _ _⟩
        obtain ⟨lv0, lv1, ar0, ar1⟩ := hw.lv hs
        have t1j := t1'.stay (Stay.trans fz.stay (bj.stay MG.notImm))
        have tkj : ((MF.beyond ds room last).take (j + 1)).flatMap (sInc ds (room, pulls, last) n) = ((MF.beyond ds room last).take j).flatMap (sInc ds (room, pulls, last) n) ++ sInc ds (room, pulls, last) n q2 := by
          rw [List.take_add_one, hq, List.flatMap_append]
          simp
        have jl : j < (MF.beyond ds room last).length := (List.getElem?_eq_some_iff.mp hq).1
        have bl := len_beyond (room := room) (last := last) hw.d4
        have alj := sml j
        rw [tkj, MS.adds_append]
        apply st_asg (C := C) (d := doorD (MF.gate ds q2.1))
        · apply ev_fn (rooms, ds, q2.1)
          · exact ea_cons (ev_var rfl t1j) (ea_cons (ev_var rfl ts) ea_nil)
          · rfl
          · exact hs
        · intro xg H3 s3 tg
          refine ⟨_, gb_door tg, ?_⟩
          apply st_if (b := decide (pulls.fmod (MF.lv ds q2.1) = 0))
          · apply et_test (C := C)
            apply ev_eqI
            · exact ev_fmod (by trivial) (by trivial) lv0
            · trivial
          · intro hb H4 s4
            have hb : pulls.fmod (MF.lv ds q2.1) = 0 := of_decide_eq_true hb
            have e1 : sInc ds (room, pulls, last) n q2 = [((MF.far ds q2.1, pulls.fdiv (MF.lv ds q2.1) * MF.ar ds q2.1, some q2.1), n * (MF.aux (MF.lv ds q2.1) - q2.2))] := if_pos hb
            rw [e1]
            have s34 := Same.trans s3 s4
            refine st_put (k := (MF.far ds q2.1, pulls.fdiv (MF.lv ds q2.1) * MF.ar ds q2.1, some q2.1)) (n := n * (MF.aux (MF.lv ds q2.1) - q2.2)) kd_s rfl (Mj.same s34) alj ?_ ?_ ?_
            · show EvD C _ _ _ (.tup [.num _, .num _, stepD q2.1])
              apply ev_tup
              · apply ea_cons
                · trivial
                · apply ea_cons
                  · apply ev_mulR
                    · exact ev_fdiv (by trivial) (by trivial) lv0 (by omega)
                    · trivial
                    · omega
                  · exact ea_cons (ev_var rfl (ts.same s34)) ea_nil
              · show 3 ≤ sizeLine; decide
            · rw [← aux_if]
              apply ev_mulR
              · trivial
              · trivial
              · split <;> omega
            · intro H5 b5 M5
              exact ⟨_, _, _, _, _, _, rfl, But.trans bj (But.trans (Same.but s34) b5), But.trans b2j (But.trans (Same.but s34) b5), M5⟩
          · intro hb H4 s4
            have hb : ¬ pulls.fmod (MF.lv ds q2.1) = 0 := of_decide_eq_false hb
            have e1 : sInc ds (room, pulls, last) n q2 = [] := if_neg hb
            rw [e1]
            have s34 := Same.trans s3 s4
            exact ⟨_, _, _, _, _, _, rfl, But.trans bj (Same.but s34), But.trans b2j (Same.but s34), Mj.same s34⟩
      · rintro G2 σ' Hj sG ⟨y7, y8, y9, y10, y11, y12, rfl, bj, b2j, Mj⟩
        refine ⟨_, _, _, _, _, _, _, _, _, _, rfl, bj, ?_⟩
        rw [List.length_map, List.take_length] at Mj
        exact Mj
    · rintro G σ' H' u fz ⟨x3, x4, x5, x6, x7, x8, x9, x10, x11, x12, rfl, b, M'⟩ hu
      rw [List.take_length] at M'
      have nd : ∀ o, H' d = some o → ¬ Imm o := by
        intro o ho
        obtain ⟨o2, h2⟩ := fz.at_
        rw [b d o2 (Ne.symm npd) h2] at ho
        cases ho
        exact fz.notImm _ h2
      refine ⟨_, rfl, q p _ ?_ hp ?_⟩
      · intro c o ec
        by_cases h : c = d
        · rw [h, upd_same, ← hu, ← h]
          exact sp _ _ ec
        · rw [upd_ne h]
          exact b c o (ne_of_none ec hp) (by rw [fz.ne h]; exact sp _ _ ec)
      · exact MD.off npd nd M'
end
end Kw

set_option Elab.async false
set_option linter.all false
set_option maxRecDepth 100000
set_option maxHeartbeats 4000000
/-! Stillness counted. -/
namespace Kw
open PySem PySem.Spec PyProof.Rows L2 Y
local macro_rules | `(tactic| trivial) => `(tactic| first
  | with_reducible exact ev_int
  | with_reducible exact ev_bl
  | with_reducible exact ev_non
  | with_reducible exact ea_nil
  | with_reducible exact et_yes
  | ((with_reducible apply ev_var); exact rfl; first | exact .num _ | exact .bl _ | exact .non | assumption)
  | ((with_reducible apply ea_cons); trivial; trivial)
  | ((with_reducible apply ev_tup); trivial; first | decide | (show _ ≤ sizeLine; simp; decide))
  | ((with_reducible apply ev_ix0); trivial; trivial; exact rfl)
  | ((with_reducible apply ev_ix1); trivial; trivial; exact rfl)
  | ((with_reducible apply ev_ix2); trivial; trivial; exact rfl)
  | ((with_reducible apply ev_ix3); trivial; trivial; exact rfl)
  | ((with_reducible apply ev_opI); trivial; trivial)
  | ((with_reducible apply ev_opB); trivial; trivial)
  | ((with_reducible apply ev_eqI); trivial; trivial)
  | ((with_reducible apply ev_neI); trivial; trivial)
  | ((with_reducible apply ev_un); trivial)
  | ((with_reducible apply ev_chain); trivial; trivial; trivial)
  | ((with_reducible apply ev_abs); trivial)
  | ((with_reducible apply ev_intI); trivial)
  | ((with_reducible apply ev_gcd); trivial; trivial)
  | ((with_reducible apply ev_lenT); trivial)
  | ((with_reducible apply et_test); trivial)
  | ((with_reducible apply et_B); trivial)
  | ((with_reducible apply et_not); trivial)
  | ((with_reducible apply et_and); trivial; (intro _; trivial))
  | ((with_reducible apply et_or); trivial; (intro _; trivial))
  | ((with_reducible apply ev_andV); trivial; (intro _; trivial))
  | ((with_reducible apply ev_orV); trivial; (intro _; trivial))
  | ((with_reducible apply ev_notV); trivial)
  | ((with_reducible apply ev_isN); trivial)
  | ((with_reducible apply ev_notN); trivial)
  | ((with_reducible apply ev_isiII); trivial)
  | ((with_reducible apply ev_isiIB); trivial)
  | ((with_reducible apply ev_isiTT); trivial)
  | ((with_reducible apply ev_isH); trivial))
/-- the dicts of still_many stay small -/
def SmN (ds : List Door) (room pulls : Int) (L : Nat) : Prop := L ≤ 40 ∧ ∀ i, i < L → SmS ds (MF.stillN ds i [((room, pulls, none), 1)])
theorem stillN_ls {ds : List Door} {room pulls : Int} : ∀ n, LS (MF.stillN ds n [((room, pulls, none), 1)])
  | 0 => by
    intro p hp l hl
    have hp : p ∈ [((room, pulls, none), (1 : Int))] := hp
    have : p = ((room, pulls, none), 1) := by simpa using hp
    subst this; cases hl
  | n + 1 => LS.on
section
variable {P : Program} {w : World} {K : PySem.W.Frag} {mg : Str → Option Value} {base : Heap} {C : Addr}
theorem sc_still_many : FnScope ["house", "room", "pulls", "length", "states", "turn"] ["house", "room", "pulls", "length"] (defScope s_still_many) := ⟨rfl, rfl, rfl, by decide +kernel, rfl, by decide +kernel, by decide +kernel⟩
abbrev sp_still_many (C : Addr) : Sp := fnSp C (fun i : Int × List Door × Int × Int × Nat => [.hs i.1 i.2.1, .num i.2.2.1, .num i.2.2.2.1, .num (i.2.2.2.2 : Int)]) (fun i => HW i.1 i.2.1 ∧ (0 ≤ i.2.2.1 ∧ i.2.2.1 < i.1) ∧ SmN i.2.1 i.2.2.1 i.2.2.2.1 i.2.2.2.2) (fun i => .num (MF.still i.2.1 i.2.2.1 i.2.2.2.1 i.2.2.2.2))
theorem ok_still_many (F : Df K mg "still_many" s_still_many) (B : Bi K mg C) (h_is_number : Cl P w K mg base "is_number" 1 ["value"] (sp_is_number C)) (h_need_house : Cl P w K mg base "need_house" 1 ["house"] (sp_need_house C)) (h_need_room : Cl P w K mg base "need_room" 3 ["house", "room"] (sp_need_room C))
    (h_need_short : Cl P w K mg base "need_short" 3 ["length"] (sp_need_short C)) (h_still_on : Cl P w K mg base "still_on" 4 ["house", "states"] (sp_still_on P w C)) : Cl P w K mg base "still_many" 5 ["house", "room", "pulls", "length"] (sp_still_many C) := by
  refine F.cl sc_still_many (fun _ _ _ _ _ _ us hl => match us, hl with | [_, _, _, _], _ => rfl) (fun vs H Q E h => ?_) (fun f cdv A outer s H vs Q E hr h => ?_)
  · obtain ⟨i, t, _⟩ := h; exact t.length
  · obtain ⟨⟨rooms, ds, room, pulls, L⟩, t, hp, q⟩ := h
    obtain ⟨v, _, rfl, t1, t⟩ := tpa_cons t
    obtain ⟨_, _, rfl, t2, t⟩ := tpa_cons t
    obtain ⟨_, _, rfl, t3, t⟩ := tpa_cons t
    obtain ⟨_, _, rfl, t4, t⟩ := tpa_cons t
    cases tpa_nil t; cases tp_num t2; cases tp_num t3; cases tp_num t4
    obtain ⟨hw, hroom, hL, hsm⟩ := hp
    dsimp only at hw hroom hL hsm t1 q ⊢
    refine ⟨_, (pss_cons (ps_expr (pe_cl h_need_house (hr.mono (by decide)) (by rfl) (pa_cons (pv 0) pa_nil)))
      (pss_cons (ps_expr (pe_cl h_need_room (hr.mono (by decide)) (by rfl) (pa_cons (pv 0) (pa_cons (pv 1) pa_nil))))
      (pss_cons (ps_if (pt_not (pt_val (pe_cl h_is_number (hr.mono (by decide)) (by rfl) (pa_cons (pv 2) pa_nil)))) (pss_one ps_never) pss_nil)
      (pss_cons (ps_expr (pe_cl h_need_short (hr.mono (by decide)) (by rfl) (pa_cons (pv 3) pa_nil)))
      (pss_cons (ps_set (i := 4) sc_still_many.nd rfl (by first | exact Or.inl rfl | exact Or.inr rfl) (pe_ndone (C := C) hr.units (pe_tup (pa_cons (pv 1) (pa_cons (pv 2) (pa_cons pe_non pa_nil)))) pe_int))
      (pss_cons (ps_for PassesOwn.never rfl (pi_range1 (by rfl) B.range (pa_cons (pv 3) pa_nil)) (pg_name (i := 5) sc_still_many.nd rfl (by first | exact Or.inl rfl | exact Or.inr rfl)) (pss_one (ps_set (i := 4) sc_still_many.nd rfl (by first | exact Or.inl rfl | exact Or.inr rfl) (pe_cl h_still_on (hr.mono (by decide)) (by rfl) (pa_cons (pv 0) (pa_cons (pv 4) pa_nil))))))
      (pss_one (ps_ret (pe_callB (cr_sumV (C := C) rfl) (by rfl) B.sum (by decide +kernel) (pa_cons (pe_ndvals (C := C) (pv 4)) pa_nil)))))))))), ?_⟩
    apply st_drop (C := C) (e := .non)
    · apply ev_fn (rooms, ds)
      · exact ea_cons (ev_var rfl t1) ea_nil
      · rfl
      · exact True.intro
    intro H1 s1
    have t1a := t1.same s1
    apply st_drop (C := C) (e := .non)
    · apply ev_fn (rooms, ds, room)
      · exact ea_cons (ev_var rfl t1a) (by trivial)
      · rfl
      · exact hroom
    intro H2 s2
    have t1b := t1a.same s2
    apply st_no (h := ?_)
    · intro H3 s3
      have t1c := t1b.same s3
      apply st_drop (C := C) (e := .non)
      · apply ev_fn (L : Int)
        · trivial
        · rfl
        · show 0 ≤ (L : Int) ∧ (L : Int) ≤ 40
          omega
      intro H4 s4
      have t1d := t1c.same s4
      refine st_setN (P := P) (w := w) (C := C) (kD := sKD) (m := [((room, pulls, none), 1)]) (evn_one kd_s ?_ ?_) ?_
      · show EvD C _ _ _ (.tup [.num room, .num pulls, .non])
        trivial
      · trivial
      intro d H5 s5 hn M
      have t1e := t1d.same s5
      have s05 := Same.trans (Same.trans (Same.trans (Same.trans s1 s2) s3) s4) s5
      refine st_for (C := C) (wi := _) (ei_rng1 (n := L) (C := C) ?_ (by omega)) (fun G i σ' H' => ∃ d' y, σ' = [some v, some (.int room), some (.int pulls), some (.int (L : Int)), some (.ref d'), y] ∧ Same G H' ∧ MD P w C sKD H' d' (MF.stillN ds i [((room, pulls, none), 1)])) ?_ ?_ ?_ ?_
      · trivial
      · intro G sG
        exact ⟨d, none, rfl, Same.refl _, M.same sG⟩
      · rintro G i σ' H' sG ⟨d', y, rfl, s, M'⟩
        exact ⟨Same.stay s, fun b o _ e => s b o e⟩
      · rintro G i dd x σ' H' sG hi ⟨d', y, rfl, s, M'⟩ tx
        obtain ⟨hi2, rfl⟩ := rng_item hi
        cases tp_num tx
        refine ⟨_, gb_name, ?_⟩
        refine ⟨_, rfl, _, rfl, rooms, ds, d', _, .cons ((t1e.same sG).same s) .nil, rfl, hw, M', stillN_ls i, hsm i hi2, fun p H6 s6 hp6 M6 => ?_⟩
        exact ⟨p, _, rfl, Same.trans s s6, M6⟩
      · rintro G σ' H' sG ⟨d', y, rfl, s, M'⟩
        have e : ((List.range L).map fun k => D.num ((k : Nat) : Int)).length = L := by simp
        rw [e] at M'
        refine ev_sumV (P := P) (w := w) (C := C) (kD := sKD) (σ := [some v, some (.int room), some (.int pulls), some (.int (L : Int)), some (.ref d'), y]) (H := H') (ta := tVar 4) (m := MF.stillN ds L [((room, pulls, none), 1)]) (fun H7 s7 Q' q' => ⟨_, rfl, q' d' H7 (Same.refl _) (M'.same s7)⟩) H' (Same.refl _) _ fun v H6 s6 t6 => q v H6 (Same.trans s05 (Same.trans (Same.trans sG s) s6)) t6
    · apply et_not (b := true)
      apply et_B (C := C)
      apply ev_fn pulls
      · trivial
      · rfl
      · exact True.intro
theorem sc_need_lengthy : FnScope ["house", "room", "length"] ["house", "room", "length"] (defScope s_need_lengthy) := ⟨rfl, rfl, rfl, by decide +kernel, rfl, by decide +kernel, by decide +kernel⟩
abbrev sp_need_lengthy (C : Addr) : Sp := fnSp C (fun i : Int × List Door × Int × Int => [.hs i.1 i.2.1, .num i.2.2.1, .num i.2.2.2]) (fun i => (0 ≤ i.2.2.1 ∧ i.2.2.1 < i.1) ∧ 0 ≤ i.2.2.2 ∧ i.2.2.2 ≤ 40) (fun _ => .non)
theorem ok_need_lengthy (F : Df K mg "need_lengthy" s_need_lengthy) (B : Bi K mg C) (h_need_house : Cl P w K mg base "need_house" 1 ["house"] (sp_need_house C)) (h_need_room : Cl P w K mg base "need_room" 3 ["house", "room"] (sp_need_room C))
    (h_need_short : Cl P w K mg base "need_short" 3 ["length"] (sp_need_short C)) : Cl P w K mg base "need_lengthy" 4 ["house", "room", "length"] (sp_need_lengthy C) := by
  refine F.cl sc_need_lengthy (fun _ _ _ _ _ _ us hl => match us, hl with | [_, _, _], _ => rfl) (fun vs H Q E h => ?_) (fun f cdv A outer s H vs Q E hr h => ?_)
  · obtain ⟨i, t, _⟩ := h; exact t.length
  · obtain ⟨⟨rooms, ds, room, L⟩, t, hp, q⟩ := h
    obtain ⟨v, _, rfl, t1, t⟩ := tpa_cons t
    obtain ⟨_, _, rfl, t2, t⟩ := tpa_cons t
    obtain ⟨_, _, rfl, t3, t⟩ := tpa_cons t
    cases tpa_nil t; cases tp_num t2; cases tp_num t3
    obtain ⟨hroom, hL⟩ := hp
    dsimp only at hroom hL t1 q ⊢
    refine ⟨_, (pss_cons (ps_expr (pe_cl h_need_house (hr.mono (by decide)) (by rfl) (pa_cons (pv 0) pa_nil)))
      (pss_cons (ps_expr (pe_cl h_need_room (hr.mono (by decide)) (by rfl) (pa_cons (pv 0) (pa_cons (pv 1) pa_nil))))
      (pss_one (ps_expr (pe_cl h_need_short (hr.mono (by decide)) (by rfl) (pa_cons (pv 2) pa_nil)))))), ?_⟩
    apply st_drop (C := C) (e := .non)
    · apply ev_fn (rooms, ds)
      · exact ea_cons (ev_var rfl t1) ea_nil
      · rfl
      · exact True.intro
    intro H1 s1
    have t1a := t1.same s1
    apply st_drop (C := C) (e := .non)
    · apply ev_fn (rooms, ds, room)
      · exact ea_cons (ev_var rfl t1a) (by trivial)
      · rfl
      · exact hroom
    intro H2 s2
    apply st_drop1 (C := C) (e := .non)
    · apply ev_fn L
      · trivial
      · rfl
      · exact hL
    intro H3 s3
    exact q _ _ (Same.trans (Same.trans s1 s2) s3) .non
end
end Kw

set_option Elab.async false
set_option linter.all false
set_option maxRecDepth 100000
set_option maxHeartbeats 4000000
/-! Classes. -/
namespace Kw
open PySem PySem.Spec PyProof.Rows L2 Y
local macro_rules | `(tactic| trivial) => `(tactic| first
  | with_reducible exact ev_int
  | with_reducible exact ev_bl
  | with_reducible exact ev_non
  | with_reducible exact ea_nil
  | with_reducible exact et_yes
  | ((with_reducible apply ev_var); exact rfl; first | exact .num _ | exact .bl _ | exact .non | assumption)
  | ((with_reducible apply ea_cons); trivial; trivial)
  | ((with_reducible apply ev_tup); trivial; first | decide | (show _ ≤ sizeLine; simp; decide))
  | ((with_reducible apply ev_ix0); trivial; trivial; exact rfl)
  | ((with_reducible apply ev_ix1); trivial; trivial; exact rfl)
  | ((with_reducible apply ev_ix2); trivial; trivial; exact rfl)
  | ((with_reducible apply ev_ix3); trivial; trivial; exact rfl)
  | ((with_reducible apply ev_opI); trivial; trivial)
  | ((with_reducible apply ev_opB); trivial; trivial)
  | ((with_reducible apply ev_eqI); trivial; trivial)
  | ((with_reducible apply ev_neI); trivial; trivial)
  | ((with_reducible apply ev_un); trivial)
  | ((with_reducible apply ev_chain); trivial; trivial; trivial)
  | ((with_reducible apply ev_abs); trivial)
  | ((with_reducible apply ev_intI); trivial)
  | ((with_reducible apply ev_gcd); trivial; trivial)
  | ((with_reducible apply ev_lenT); trivial)
  | ((with_reducible apply et_test); trivial)
  | ((with_reducible apply et_B); trivial)
  | ((with_reducible apply et_not); trivial)
  | ((with_reducible apply et_and); trivial; (intro _; trivial))
  | ((with_reducible apply et_or); trivial; (intro _; trivial))
  | ((with_reducible apply ev_andV); trivial; (intro _; trivial))
  | ((with_reducible apply ev_orV); trivial; (intro _; trivial))
  | ((with_reducible apply ev_notV); trivial)
  | ((with_reducible apply ev_isN); trivial)
  | ((with_reducible apply ev_notN); trivial)
  | ((with_reducible apply ev_isiII); trivial)
  | ((with_reducible apply ev_isiIB); trivial)
  | ((with_reducible apply ev_isiTT); trivial)
  | ((with_reducible apply ev_isH); trivial))
/-- what one step of one class gives -/
def cInc (ds : List Door) (k : MF.CKey) (many : Int) (q : MF.Step × Int) : MF.CKey × Int :=
  let shared := MF.gcdI k.2.1 (MF.lv ds q.1)
  let whole := k.2.1.fdiv shared * MF.aux (MF.lv ds q.1)
  ((MF.far ds q.1, whole.fdiv (MF.aux (MF.lv ds q.1)) * MF.aux (MF.ar ds q.1), (k.2.2.1 * whole).fdiv k.2.1, some q.1), many * (shared - q.2))
theorem clInc_def (ds : List Door) (k : MF.CKey) (many : Int) : MF.clInc ds k many = (MF.beyond ds k.1 k.2.2.2).map (cInc ds k many) := rfl
theorem clInc_len {ds : List Door} (h : ds.length ≤ 4) (k : MF.CKey) (many : Int) : (MF.clInc ds k many).length ≤ 8 := by
  rw [clInc_def, List.length_map]; exact len_beyond h
/-- bounds of classes -/
def BK (b : Int) (m : List (MF.CKey × Int)) : Prop := ∀ p ∈ m, p.1.2.1 ≤ b ∧ p.1.2.2.1 ≤ b
theorem gcdI_le {a b : Int} (h : b ≠ 0) : MF.gcdI a b ≤ MF.aux b := by
  unfold MF.gcdI MF.aux
  have := Nat.le_of_dvd (show 0 < b.natAbs by omega) (Nat.gcd_dvd_right a.natAbs b.natAbs)
  omega
theorem log2_lt {n b : Nat} (h : n < 2 ^ b) (hb : 0 < b) : n.log2 < b := PySem.Flt.log2_lt_of hb h
section
variable {P : Program} {w : World} {K : PySem.W.Frag} {mg : Str → Option Value} {base : Heap} {C : Addr}
/-- dicts stay small while they grow -/
def SmC (ds : List Door) (m : List (MF.CKey × Int)) : Prop := ∀ is, is <+: (m.flatMap fun z => MF.clInc ds z.1 z.2) → (MS.adds [] is).length < sizeLine
theorem sc_classes_on : FnScope ["house", "states", "found", "room", "pulls", "first", "last", "many", "step", "least", "here", "leaving", "there", "arriving", "shared", "whole", "key"] ["house", "states"] (defScope s_classes_on) := ⟨rfl, rfl, rfl, by decide +kernel, rfl, by decide +kernel, by decide +kernel⟩
abbrev sp_classes_on (P : Program) (w : World) (C : Addr) : Sp := fun vs H Q _ => ∃ rooms ds d m, TpA C H (vs.take 1) [.hs rooms ds] ∧ vs.drop 1 = [.ref d] ∧ HW rooms ds ∧ MD P w C cKD H d m ∧ MF.CD ds m ∧ BK 1152921504606846976 m ∧ SmC ds m ∧
  ∀ p H', Same H H' → H p = none → MD P w C cKD H' p (MF.clOn ds m) → Q (.ref p) H'
theorem ok_classes_on (F : Df K mg "classes_on" s_classes_on) (B : Bi K mg C) (h_steps_beyond : Cl P w K mg base "steps_beyond" 3 ["house", "room", "last"] (sp_steps_beyond C)) (h_gate_of : Cl P w K mg base "gate_of" 1 ["house", "step"] (sp_gate_of C)) (h_put_many : Cl P w K mg base "put_many" 1 ["found", "key", "many"] (spPut P w C)) : Cl P w K mg base "classes_on" 4 ["house", "states"] (sp_classes_on P w C) := by
  refine F.cl sc_classes_on (fun _ _ _ _ _ _ us hl => match us, hl with | [_, _], _ => rfl) (fun vs H Q E h => ?_) (fun f cdv A outer s H vs Q E hr h => ?_)
  · obtain ⟨rooms, ds, d, m, t, e, _⟩ := h
    match vs, t, e with
    | [_, _], _, _ => rfl
    | [_], _, e => simp at e
    | _ :: _ :: _ :: _, _, e => simp at e
  · obtain ⟨rooms, ds, d, m, t, e, hw, M, cd, bk, hl, q⟩ := h
    obtain ⟨v, rfl⟩ : ∃ v, vs = [v, .ref d] := by
      match vs, t, e with
      | [v, _], _, e => exact ⟨v, by simpa using e⟩
      | [_], _, e => simp at e
      | _ :: _ :: _ :: _, _, e => simp at e
    obtain ⟨_, _, ev, t1, t⟩ := tpa_cons t
    cases ev
    refine ⟨_, (pss_cons (ps_set (i := 2) sc_classes_on.nd rfl (by first | exact Or.inl rfl | exact Or.inr rfl) (pe_ndnew))
      (pss_cons (ps_lock (ps_for PassesOwn.never rfl (pi_ni (pv 1)) (pg_tup (by rfl) (pgs_cons (pg_tup (by rfl) (pgs_cons (pg_name (i := 3) sc_classes_on.nd rfl (by first | exact Or.inl rfl | exact Or.inr rfl)) (pgs_cons (pg_name (i := 4) sc_classes_on.nd rfl (by first | exact Or.inl rfl | exact Or.inr rfl)) (pgs_cons (pg_name (i := 5) sc_classes_on.nd rfl (by first | exact Or.inl rfl | exact Or.inr rfl)) (pgs_cons (pg_name (i := 6) sc_classes_on.nd rfl (by first | exact Or.inl rfl | exact Or.inr rfl)) pgs_nil))))) (pgs_cons (pg_name (i := 7) sc_classes_on.nd rfl (by first | exact Or.inl rfl | exact Or.inr rfl)) pgs_nil))) (pss_one (ps_for PassesOwn.never rfl (pi_list (pe_cl h_steps_beyond (hr.mono (by decide)) (by rfl) (pa_cons (pv 0) (pa_cons (pv 3) (pa_cons (pv 6) pa_nil))))) (pg_tup (by rfl) (pgs_cons (pg_name (i := 8) sc_classes_on.nd rfl (by first | exact Or.inl rfl | exact Or.inr rfl)) (pgs_cons (pg_name (i := 9) sc_classes_on.nd rfl (by first | exact Or.inl rfl | exact Or.inr rfl)) pgs_nil))) (pss_cons (ps_asg (pe_cl h_gate_of (hr.mono (by decide)) (by rfl) (pa_cons (pv 0) (pa_cons (pv 8) pa_nil))) (pg_tup (by rfl) (pgs_cons (pg_name (i := 10) sc_classes_on.nd rfl (by first | exact Or.inl rfl | exact Or.inr rfl)) (pgs_cons (pg_name (i := 11) sc_classes_on.nd rfl (by first | exact Or.inl rfl | exact Or.inr rfl)) (pgs_cons (pg_name (i := 12) sc_classes_on.nd rfl (by first | exact Or.inl rfl | exact Or.inr rfl)) (pgs_cons (pg_name (i := 13) sc_classes_on.nd rfl (by first | exact Or.inl rfl | exact Or.inr rfl)) pgs_nil))))))
      (pss_cons (ps_set (i := 14) sc_classes_on.nd rfl (by first | exact Or.inl rfl | exact Or.inr rfl) (pe_callBfun cr_gcd (by rfl) B.gcd (pa_cons (pv 4) (pa_cons (pv 11) pa_nil))))
      (pss_cons (ps_set (i := 15) sc_classes_on.nd rfl (by first | exact Or.inl rfl | exact Or.inr rfl) (pe_op op_mul (pe_op op_fdivN (pv 4) (pv 14)) (pe_callB call_abs (by rfl) B.abs (by decide +kernel) (pa_cons (pv 11) pa_nil))))
      (pss_cons (ps_set (i := 16) sc_classes_on.nd rfl (by first | exact Or.inl rfl | exact Or.inr rfl) (pe_tup (pa_cons (pv 12) (pa_cons (pe_op op_mul (pe_op op_fdivN (pv 15) (pe_callB call_abs (by rfl) B.abs (by decide +kernel) (pa_cons (pv 11) pa_nil))) (pe_callB call_abs (by rfl) B.abs (by decide +kernel) (pa_cons (pv 13) pa_nil))) (pa_cons (pe_op op_fdivW (pe_op op_mul (pv 5) (pv 15)) (pv 4)) (pa_cons (pv 8) pa_nil))))))
      (pss_one (ps_expr (pe_cl h_put_many (hr.mono (by decide)) (by rfl) (pa_cons (pv 2) (pa_cons (pv 16) (pa_cons (pe_op op_mul (pv 7) (pe_op op_sub (pv 14) (pv 9))) pa_nil))))))))))))))
      (pss_one (ps_ret (pv 2))))), ?_⟩
    intro p hp
    have sp : Same H (upd H p (ndO P w p [])) := Same.new hp
    have M1 : MD P w C cKD (upd H p (ndO P w p [])) p ([] : List (MF.CKey × Int)) := md_new hp
    have Md := M.same sp
    have npd : p ≠ d := fun z => M.some (by rw [← z]; exact hp)
    have t1' := t1.same sp
    change tLock _ _ [some v, some (.ref d), some (.ref p), none, none, none, none, none, none, none, none, none, none, none, none, none, none] (upd H p (ndO P w p []))
    generalize upd H p (ndO P w p []) = H1 at sp M1 Md t1' ⊢
    refine st_ni (P := P) (w := w) (C := C) (kD := cKD) (d := d) (i := 1) (m := m) rfl Md (fun G i σ' H' => ∃ x3 x4 x5 x6 x7 x8 x9 x10 x11 x12 x13 x14 x15 x16, σ' = [some v, some (.ref d), some (.ref p), x3, x4, x5, x6, x7, x8, x9, x10, x11, x12, x13, x14, x15, x16] ∧ But p G H' ∧ MD P w C cKD H' p (MS.adds [] ((m.take i).flatMap fun z => MF.clInc ds z.1 z.2))) ?_ ?_ ?_ ?_
    · intro G fz
      exact ⟨none, none, none, none, none, none, none, none, none, none, none, none, none, none, rfl, But.refl _ _, M1.fz fz npd⟩
    · rintro G i σ' H' fz ⟨x3, x4, x5, x6, x7, x8, x9, x10, x11, x12, x13, x14, x15, x16, rfl, b, M'⟩
      refine ⟨b.stay (M1.fz fz npd).notImm, ?_⟩
      obtain ⟨o, ho⟩ := fz.at_
      rw [ho]
      exact b d o (Ne.symm npd) ho
    · rintro G i ⟨room, pulls, first, last⟩ n x σ' H' H'' fz hi ⟨x3, x4, x5, x6, x7, x8, x9, x10, x11, x12, x13, x14, x15, x16, rfl, b, M'⟩ s2 tx
      obtain ⟨vk, tk, gk⟩ := gb_nest (K := K) (g1 := gTup K 4 (gCons (gName 3) (gCons (gName 4) (gCons (gName 5) (gCons (gName 6) gNil))))) (j := 7) (σ := [some v, some (.ref d), some (.ref p), x3, x4, x5, x6, x7, x8, x9, x10, x11, x12, x13, x14, x15, x16]) tx
      obtain ⟨u1, u2, u3, u4, w1, w2, w3, w4, g3⟩ := gb_four (K := K) (i := 3) (j := 4) (k := 5) (l := 6) (σ := [some v, some (.ref d), some (.ref p), x3, x4, x5, x6, x7, x8, x9, x10, x11, x12, x13, x14, x15, x16]) tk
      cases tp_num w1
      cases tp_num w2
      cases tp_num w3
      refine ⟨_, gk _ g3, fun R1 R2 => ?_⟩
      have hm := List.mem_of_getElem? hi
      have il : i < m.length := (List.getElem?_eq_some_iff.mp hi).1
      have b2 : But p G H'' := But.trans b (Same.but s2)
      have MG := M1.fz fz npd
      have t1k := t1'.stay (Stay.trans fz.stay (b2.stay MG.notImm))
      have M2 := M'.same s2
      obtain ⟨pu0, fi0, hlast⟩ := cd.2 _ hm
      obtain ⟨pu1, fi1⟩ := bk _ hm
      dsimp only at pu0 fi0 hlast pu1 fi1
      have tki : (m.take (i + 1)).flatMap (fun z => MF.clInc ds z.1 z.2) = (m.take i).flatMap (fun z => MF.clInc ds z.1 z.2) ++ MF.clInc ds (room, pulls, first, last) n := by
        rw [List.take_add_one, hi, List.flatMap_append]
        simp
      have pre : (m.take (i + 1)).flatMap (fun z => MF.clInc ds z.1 z.2) <+: m.flatMap fun z => MF.clInc ds z.1 z.2 := by
        conv => rhs; rw [← List.take_append_drop (i + 1) m, List.flatMap_append]
        exact List.prefix_append _ _
      have sml : ∀ j, (MS.adds (MS.adds [] ((m.take i).flatMap fun z => MF.clInc ds z.1 z.2)) (((MF.beyond ds room last).take j).map (cInc ds (room, pulls, first, last) n))).length < sizeLine := by
        intro j
        rw [← MS.adds_append]
        refine hl _ (List.IsPrefix.trans ?_ pre)
        rw [tki, List.prefix_append_right_inj, clInc_def]
        show _ <+: (MF.beyond ds room last).map (cInc ds (room, pulls, first, last) n)
        conv => rhs; rw [← List.take_append_drop j (MF.beyond ds room last), List.map_append]
        exact List.prefix_append _ _
      rw [tki, MS.adds_append]
      clear pre
      generalize MS.adds [] ((m.take i).flatMap fun z => MF.clInc ds z.1 z.2) = acc at M2 sml ⊢
      refine st_for (C := C) (wi := _) (ei_lst (C := C) (ds := (MF.beyond ds room last).map beyD) ?_) (fun G2 j σ' Hj => ∃ x8 x9 x10 x11 x12 x13 x14 x15 x16, σ' = [some v, some (.ref d), some (.ref p), some (.int room), some (.int pulls), some (.int first), some u4, some (.int n), x8, x9, x10, x11, x12, x13, x14, x15, x16] ∧ But p G Hj ∧ But p G2 Hj ∧ MD P w C cKD Hj p (MS.adds acc (((MF.beyond ds room last).take j).map (cInc ds (room, pulls, first, last) n)))) ?_ ?_ ?_ ?_
      · apply evl_fn (rooms, ds, room, last)
        · exact ea_cons (ev_var rfl t1k) (ea_cons (ev_var rfl (.num _)) (ea_cons (ev_var rfl w4) ea_nil))
        · rfl
        · exact ⟨by have := hw.d4; dsimp only; omega, fun l hl => (MF.mem_all.mp (hlast l hl).1).2⟩
      · intro G2 sG
        exact ⟨x8, x9, x10, x11, x12, x13, x14, x15, x16, rfl, But.trans b2 (Same.but sG), But.refl _ _, M2.same sG⟩
      · rintro G2 j σ' Hj sG ⟨y8, y9, y10, y11, y12, y13, y14, y15, y16, rfl, bj, b2j, Mj⟩
        refine ⟨b2j.stay (M2.same sG).notImm, fun c o hc e => b2j c o (fun z => ?_) e⟩
        subst z
        rcases hc with hc | hc
        · exact M2.some hc
        · simp at hc
      · rintro G2 j dd x σ' Hj sG hj ⟨y8, y9, y10, y11, y12, y13, y14, y15, y16, rfl, bj, b2j, Mj⟩ tx
        obtain ⟨q2, hq, rfl⟩ := map_item hj
        obtain ⟨us, ul, ts, tl, g2⟩ := gb_two (K := K) (i := 8) (j := 9) (σ := [some v, some (.ref d), some (.ref p), some (.int room), some (.int pulls), some (.int first), some u4, some (.int n), y8, y9, y10, y11, y12, y13, y14, y15, y16]) tx
        cases tp_num tl
        refine ⟨_, g2, ?_⟩
        have hmq := List.mem_of_getElem? hq
        obtain ⟨hs, hle⟩ : q2.1 ∈ MF.allSteps ds ∧ (q2.2 = 0 ∨ q2.2 = 1) := by
          unfold MF.beyond at hmq
          obtain ⟨z, hz, rfl⟩ := List.mem_map.mp hmq
          exact ⟨(MF.mem_stepsOf.mp hz).1, MF.least_01 _ _⟩
        obtain ⟨lv0, lv1, ar0, ar1⟩ := hw.lv hs
        have t1j := t1'.stay (Stay.trans fz.stay (bj.stay MG.notImm))
        have tkj : ((MF.beyond ds room last).take (j + 1)).map (cInc ds (room, pulls, first, last) n) = ((MF.beyond ds room last).take j).map (cInc ds (room, pulls, first, last) n) ++ [cInc ds (room, pulls, first, last) n q2] := by
          rw [List.take_add_one, hq, List.map_append]
          simp
        have jl : j < (MF.beyond ds room last).length := (List.getElem?_eq_some_iff.mp hq).1
        have bl := len_beyond (room := room) (last := last) hw.d4
        have alj := sml j
        rw [tkj, MS.adds_append]
        have g0 := MF.gcdI_pos (b := MF.lv ds q2.1) (show pulls ≠ 0 by omega)
        have g1 := gcdI_le (a := pulls) lv0
        have a1 : MF.aux (MF.lv ds q2.1) ≤ 60 := by unfold MF.aux; omega
        have a0 := MF.aux_pos lv0
        have a2 : MF.aux (MF.ar ds q2.1) ≤ 60 := by unfold MF.aux; omega
        have a3 := MF.aux_nn (MF.ar ds q2.1)
        apply st_asg (C := C) (d := doorD (MF.gate ds q2.1))
        · apply ev_fn (rooms, ds, q2.1)
          · exact ea_cons (ev_var rfl t1j) (ea_cons (ev_var rfl ts) ea_nil)
          · rfl
          · exact hs
        · intro xg H3 s3 tg
          refine ⟨_, gb_door tg, ?_⟩
          have ts3 := ts.same s3
          apply st_set (C := C) (d := .num (MF.gcdI pulls (MF.lv ds q2.1)))
          · exact ev_gcd (by trivial) (by trivial)
          intro vs' H4 s4 t4
          cases tp_num t4
          have ts4 := ts3.same s4
          apply st_set (C := C) (d := .num (pulls.fdiv (MF.gcdI pulls (MF.lv ds q2.1)) * MF.aux (MF.lv ds q2.1)))
          · rw [← aux_if (MF.lv ds q2.1)]
            apply ev_mulR
            · exact ev_fdiv (by trivial) (by trivial) (by omega) (by omega)
            · trivial
            · split <;> omega
          intro vw H5 s5 t5
          cases tp_num t5
          have ts5 := ts4.same s5
          apply st_set (C := C) (d := cKD (cInc ds (room, pulls, first, last) n q2).1)
          · show EvD C _ _ _ (.tup [.num _, .num _, .num _, stepD q2.1])
            apply ev_tup
            · apply ea_cons
              · trivial
              · apply ea_cons
                · show EvD C _ _ _ (.num ((pulls.fdiv (MF.gcdI pulls (MF.lv ds q2.1)) * MF.aux (MF.lv ds q2.1)).fdiv (MF.aux (MF.lv ds q2.1)) * MF.aux (MF.ar ds q2.1)))
                  rw [← aux_if (MF.ar ds q2.1)]
                  apply ev_mulR
                  · refine EvD.num_at (d := .num ((pulls.fdiv (MF.gcdI pulls (MF.lv ds q2.1)) * MF.aux (MF.lv ds q2.1)).fdiv (if MF.lv ds q2.1 < 0 then -MF.lv ds q2.1 else MF.lv ds q2.1))) ?_ (by rw [aux_if])
                    apply ev_fdiv
                    · trivial
                    · trivial
                    · split <;> omega
                    · split <;> omega
                  · trivial
                  · split <;> omega
                · apply ea_cons
                  · show EvD C _ _ _ (.num ((first * (pulls.fdiv (MF.gcdI pulls (MF.lv ds q2.1)) * MF.aux (MF.lv ds q2.1))).fdiv pulls))
                    rw [Int.fdiv_eq_ediv_of_nonneg (first * (pulls.fdiv (MF.gcdI pulls (MF.lv ds q2.1)) * MF.aux (MF.lv ds q2.1))) (show 0 ≤ pulls by omega)]
                    apply ev_opIC (g := fun i j => i / j)
                    · apply ev_mulL
                      · trivial
                      · trivial
                      · omega
                    · trivial
                    · exact ⟨pu0, Nat.lt_trans (log2_lt (b := 64) (by omega) (by omega)) (by omega)⟩
                  · exact ea_cons (ev_var rfl ts5) ea_nil
            · show 4 ≤ sizeLine; decide
          intro vk2 H6 s6 t6
          have s36 := Same.trans (Same.trans (Same.trans s3 s4) s5) s6
          refine st_put (k := (cInc ds (room, pulls, first, last) n q2).1) (n := (cInc ds (room, pulls, first, last) n q2).2) kd_c rfl (Mj.same s36) alj ?_ ?_ ?_
          · exact ev_var rfl t6
          · show EvD C _ _ _ (.num (n * (MF.gcdI pulls (MF.lv ds q2.1) - q2.2)))
            apply ev_mulR
            · trivial
            · trivial
            · omega
          · intro H7 b7 M7
            exact ⟨_, _, _, _, _, _, _, _, _, rfl, But.trans bj (But.trans (Same.but s36) b7), But.trans b2j (But.trans (Same.but s36) b7), M7⟩
      · rintro G2 σ' Hj sG ⟨y8, y9, y10, y11, y12, y13, y14, y15, y16, rfl, bj, b2j, Mj⟩
        refine ⟨_, _, _, _, _, _, _, _, _, _, _, _, _, _, rfl, bj, ?_⟩
        rw [List.length_map, List.take_length] at Mj
        exact Mj
    · rintro G σ' H' u fz ⟨x3, x4, x5, x6, x7, x8, x9, x10, x11, x12, x13, x14, x15, x16, rfl, b, M'⟩ hu
      rw [List.take_length] at M'
      have nd : ∀ o, H' d = some o → ¬ Imm o := by
        intro o ho
        obtain ⟨o2, h2⟩ := fz.at_
        rw [b d o2 (Ne.symm npd) h2] at ho
        cases ho
        exact fz.notImm _ h2
      refine ⟨_, rfl, q p _ ?_ hp ?_⟩
      · intro c o ec
        by_cases h : c = d
        · rw [h, upd_same, ← hu, ← h]
          exact sp _ _ ec
        · rw [upd_ne h]
          exact b c o (ne_of_none ec hp) (by rw [fz.ne h]; exact sp _ _ ec)
      · exact MD.off npd nd M'
end
end Kw

set_option Elab.async false
set_option linter.all false
set_option maxRecDepth 100000
set_option maxHeartbeats 4000000
/-! Classes counted. -/
namespace Kw
open PySem PySem.Spec PyProof.Rows L2 Y
local macro_rules | `(tactic| trivial) => `(tactic| first
  | with_reducible exact ev_int
  | with_reducible exact ev_bl
  | with_reducible exact ev_non
  | with_reducible exact ea_nil
  | with_reducible exact et_yes
  | ((with_reducible apply ev_var); exact rfl; first | exact .num _ | exact .bl _ | exact .non | assumption)
  | ((with_reducible apply ea_cons); trivial; trivial)
  | ((with_reducible apply ev_tup); trivial; first | decide | (show _ ≤ sizeLine; simp; decide))
  | ((with_reducible apply ev_ix0); trivial; trivial; exact rfl)
  | ((with_reducible apply ev_ix1); trivial; trivial; exact rfl)
  | ((with_reducible apply ev_ix2); trivial; trivial; exact rfl)
  | ((with_reducible apply ev_ix3); trivial; trivial; exact rfl)
  | ((with_reducible apply ev_opI); trivial; trivial)
  | ((with_reducible apply ev_opB); trivial; trivial)
  | ((with_reducible apply ev_eqI); trivial; trivial)
  | ((with_reducible apply ev_neI); trivial; trivial)
  | ((with_reducible apply ev_un); trivial)
  | ((with_reducible apply ev_chain); trivial; trivial; trivial)
  | ((with_reducible apply ev_abs); trivial)
  | ((with_reducible apply ev_intI); trivial)
  | ((with_reducible apply ev_gcd); trivial; trivial)
  | ((with_reducible apply ev_lenT); trivial)
  | ((with_reducible apply et_test); trivial)
  | ((with_reducible apply et_B); trivial)
  | ((with_reducible apply et_not); trivial)
  | ((with_reducible apply et_and); trivial; (intro _; trivial))
  | ((with_reducible apply et_or); trivial; (intro _; trivial))
  | ((with_reducible apply ev_andV); trivial; (intro _; trivial))
  | ((with_reducible apply ev_orV); trivial; (intro _; trivial))
  | ((with_reducible apply ev_notV); trivial)
  | ((with_reducible apply ev_isN); trivial)
  | ((with_reducible apply ev_notN); trivial)
  | ((with_reducible apply ev_isiII); trivial)
  | ((with_reducible apply ev_isiIB); trivial)
  | ((with_reducible apply ev_isiTT); trivial)
  | ((with_reducible apply ev_isH); trivial))
theorem HW.n50s {rooms : Int} {ds : List Door} (h : HW rooms ds) : ∀ s ∈ MF.allSteps ds, (MF.lv ds s).natAbs ≤ 60 := fun s hs => (h.lv hs).2.1
/-- the numbers of classes stay small -/
structure CP (ds : List Door) (room : Int) (L : Nat) : Prop where
  l40 : L ≤ 40
  sm : ∀ i, i < L → SmC ds (MF.clN ds i [((room, 1, 1, none), 1)])
  bk : ∀ i, i ≤ L → BK 1152921504606846976 (MF.clN ds i [((room, 1, 1, none), 1)])
  rt : ∀ i, MF.ret ((MF.cls ds room L).take i) < 2 ^ 320
section
variable {P : Program} {w : World} {K : PySem.W.Frag} {mg : Str → Option Value} {base : Heap} {C : Addr}
theorem sc_class_states : FnScope ["house", "room", "length", "states", "turn"] ["house", "room", "length"] (defScope s_class_states) := ⟨rfl, rfl, rfl, by decide +kernel, rfl, by decide +kernel, by decide +kernel⟩
abbrev sp_class_states (P : Program) (w : World) (C : Addr) : Sp := fun vs H Q _ => ∃ rooms ds room L, TpA C H vs [.hs rooms ds, .num room, .num ((L : Nat) : Int)] ∧ HW rooms ds ∧ CP ds room L ∧
  ∀ p H', Same H H' → H p = none → MD P w C cKD H' p (MF.cls ds room L) → Q (.ref p) H'
theorem ok_class_states (F : Df K mg "class_states" s_class_states) (B : Bi K mg C) (h_classes_on : Cl P w K mg base "classes_on" 4 ["house", "states"] (sp_classes_on P w C)) : Cl P w K mg base "class_states" 5 ["house", "room", "length"] (sp_class_states P w C) := by
  refine F.cl sc_class_states (fun _ _ _ _ _ _ us hl => match us, hl with | [_, _, _], _ => rfl) (fun vs H Q E h => ?_) (fun f cdv A outer s H vs Q E hr h => ?_)
  · obtain ⟨rooms, ds, room, L, t, _⟩ := h; exact t.length
  · obtain ⟨rooms, ds, room, L, t, hw, hL, q⟩ := h
    have l40 := hL.l40
    obtain ⟨v, _, rfl, t1, t⟩ := tpa_cons t
    obtain ⟨_, _, rfl, t2, t⟩ := tpa_cons t
    obtain ⟨_, _, rfl, t3, t⟩ := tpa_cons t
    cases tpa_nil t; cases tp_num t2; cases tp_num t3
    refine ⟨_, (pss_cons (ps_set (i := 3) sc_class_states.nd rfl (by first | exact Or.inl rfl | exact Or.inr rfl) (pe_ndone (C := C) hr.units (pe_tup (pa_cons (pv 1) (pa_cons pe_int (pa_cons pe_int (pa_cons pe_non pa_nil))))) pe_int))
      (pss_cons (ps_for PassesOwn.never rfl (pi_range1 (by rfl) B.range (pa_cons (pv 2) pa_nil)) (pg_name (i := 4) sc_class_states.nd rfl (by first | exact Or.inl rfl | exact Or.inr rfl)) (pss_one (ps_set (i := 3) sc_class_states.nd rfl (by first | exact Or.inl rfl | exact Or.inr rfl) (pe_cl h_classes_on (hr.mono (by decide)) (by rfl) (pa_cons (pv 0) (pa_cons (pv 3) pa_nil))))))
      (pss_one (ps_ret (pv 3))))), ?_⟩
    refine st_setN (P := P) (w := w) (C := C) (kD := cKD) (m := [((room, 1, 1, none), 1)]) (evn_one kd_c ?_ ?_) ?_
    · show EvD C _ _ _ (.tup [.num room, .num 1, .num 1, .non])
      trivial
    · trivial
    intro d H5 s5 hn M
    have t1e := t1.same s5
    refine st_for (C := C) (wi := _) (ei_rng1 (n := L) (C := C) ?_ (by omega)) (fun G i σ' H' => ∃ d' y, σ' = [some v, some (.int room), some (.int (L : Int)), some (.ref d'), y] ∧ Same G H' ∧ H d' = none ∧ MD P w C cKD H' d' (MF.clN ds i [((room, 1, 1, none), 1)])) ?_ ?_ ?_ ?_
    · trivial
    · intro G sG
      exact ⟨d, none, rfl, Same.refl _, hn, M.same sG⟩
    · rintro G i σ' H' sG ⟨d', y, rfl, s, hn', M'⟩
      exact ⟨Same.stay s, fun b o _ e => s b o e⟩
    · rintro G i dd x σ' H' sG hi ⟨d', y, rfl, s, hn', M'⟩ tx
      obtain ⟨hi2, rfl⟩ := rng_item hi
      cases tp_num tx
      refine ⟨_, gb_name, ?_⟩
      refine ⟨_, rfl, _, rfl, rooms, ds, d', _, .cons ((t1e.same sG).same s) .nil, rfl, hw, M', MF.cd_clN hw.ok (MF.cd_start ds room) i, hL.bk i (by omega), hL.sm i hi2, fun p H6 s6 hp6 M6 => ?_⟩
      exact ⟨p, _, rfl, Same.trans s s6, (Same.trans (Same.trans s5 sG) s).free hp6, M6⟩
    · rintro G σ' H' sG ⟨d', y, rfl, s, hn', M'⟩
      have e : ((List.range L).map fun k => D.num ((k : Nat) : Int)).length = L := by simp
      rw [e] at M'
      exact ⟨_, rfl, q d' H' (Same.trans s5 (Same.trans sG s)) hn' M'⟩
theorem sc_foot_classes_many : FnScope ["house", "room", "length"] ["house", "room", "length"] (defScope s_foot_classes_many) := ⟨rfl, rfl, rfl, by decide +kernel, rfl, by decide +kernel, by decide +kernel⟩
abbrev sp_foot_classes_many (C : Addr) : Sp := fnSp C (fun i : Int × List Door × Int × Nat => [.hs i.1 i.2.1, .num i.2.2.1, .num (i.2.2.2 : Int)]) (fun i => HW i.1 i.2.1 ∧ (0 ≤ i.2.2.1 ∧ i.2.2.1 < i.1) ∧ CP i.2.1 i.2.2.1 i.2.2.2) (fun i => .num (MF.clsMany (MF.cls i.2.1 i.2.2.1 i.2.2.2)))
theorem ok_foot_classes_many (F : Df K mg "foot_classes_many" s_foot_classes_many) (B : Bi K mg C) (h_need_lengthy : Cl P w K mg base "need_lengthy" 4 ["house", "room", "length"] (sp_need_lengthy C)) (h_class_states : Cl P w K mg base "class_states" 5 ["house", "room", "length"] (sp_class_states P w C)) : Cl P w K mg base "foot_classes_many" 6 ["house", "room", "length"] (sp_foot_classes_many C) := by
  refine F.cl sc_foot_classes_many (fun _ _ _ _ _ _ us hl => match us, hl with | [_, _, _], _ => rfl) (fun vs H Q E h => ?_) (fun f cdv A outer s H vs Q E hr h => ?_)
  · obtain ⟨i, t, _⟩ := h; exact t.length
  · obtain ⟨⟨rooms, ds, room, L⟩, t, hp, q⟩ := h
    obtain ⟨v, _, rfl, t1, t⟩ := tpa_cons t
    obtain ⟨_, _, rfl, t2, t⟩ := tpa_cons t
    obtain ⟨_, _, rfl, t3, t⟩ := tpa_cons t
    cases tpa_nil t; cases tp_num t2; cases tp_num t3
    obtain ⟨hw, hroom, hL⟩ := hp
    dsimp only at hw hroom hL t1 q ⊢
    have l40 := hL.l40
    refine ⟨_, (pss_cons (ps_expr (pe_cl h_need_lengthy (hr.mono (by decide)) (by rfl) (pa_cons (pv 0) (pa_cons (pv 1) (pa_cons (pv 2) pa_nil)))))
      (pss_one (ps_ret (pe_callB (cr_sumV (C := C) rfl) (by rfl) B.sum (by decide +kernel) (pa_cons (pe_ndvals (C := C) (pe_cl h_class_states (hr.mono (by decide)) (by rfl) (pa_cons (pv 0) (pa_cons (pv 1) (pa_cons (pv 2) pa_nil))))) pa_nil))))), ?_⟩
    apply st_drop (C := C) (e := .non)
    · apply ev_fn (rooms, ds, room, (L : Int))
      · exact ea_cons (ev_var rfl t1) (by trivial)
      · rfl
      · exact ⟨hroom, by show 0 ≤ (L : Int); omega, by show (L : Int) ≤ 40; omega⟩
    intro H1 s1
    have t1a := t1.same s1
    refine st_ret' (C := C) (d := .num (MS.ls (MF.cls ds room L) fun p => p.2)) ?_ rfl fun v H6 s6 t6 => q v H6 (Same.trans s1 s6) t6
    refine ev_sumV (P := P) (w := w) (C := C) (kD := cKD) (m := MF.cls ds room L) (fun H7 s7 Q' q' => ?_)
    exact ⟨_, rfl, _, rfl, _, rfl, rooms, ds, room, L, .cons (t1a.same s7) (.cons (.num _) (.cons (.num _) .nil)), hw, hL, fun p H8 s8 hn M => q' p H8 s8 M⟩
theorem sc_foot_return : FnScope ["house", "room", "length", "found", "there", "pulls", "first", "last"] ["house", "room", "length"] (defScope s_foot_return) := ⟨rfl, rfl, rfl, by decide +kernel, rfl, by decide +kernel, by decide +kernel⟩
abbrev sp_foot_return (C : Addr) : Sp := fnSp C (fun i : Int × List Door × Int × Nat => [.hs i.1 i.2.1, .num i.2.2.1, .num (i.2.2.2 : Int)]) (fun i => HW i.1 i.2.1 ∧ (0 ≤ i.2.2.1 ∧ i.2.2.1 < i.1) ∧ CP i.2.1 i.2.2.1 i.2.2.2) (fun i => .num (MF.ret (MF.cls i.2.1 i.2.2.1 i.2.2.2)))
theorem ok_foot_return (F : Df K mg "foot_return" s_foot_return) (B : Bi K mg C) (h_need_lengthy : Cl P w K mg base "need_lengthy" 4 ["house", "room", "length"] (sp_need_lengthy C)) (h_class_states : Cl P w K mg base "class_states" 5 ["house", "room", "length"] (sp_class_states P w C)) : Cl P w K mg base "foot_return" 6 ["house", "room", "length"] (sp_foot_return C) := by
  refine F.cl sc_foot_return (fun _ _ _ _ _ _ us hl => match us, hl with | [_, _, _], _ => rfl) (fun vs H Q E h => ?_) (fun f cdv A outer s H vs Q E hr h => ?_)
  · obtain ⟨i, t, _⟩ := h; exact t.length
  · obtain ⟨⟨rooms, ds, room, L⟩, t, hp, q⟩ := h
    obtain ⟨v, _, rfl, t1, t⟩ := tpa_cons t
    obtain ⟨_, _, rfl, t2, t⟩ := tpa_cons t
    obtain ⟨_, _, rfl, t3, t⟩ := tpa_cons t
    cases tpa_nil t; cases tp_num t2; cases tp_num t3
    obtain ⟨hw, hroom, hL⟩ := hp
    dsimp only at hw hroom hL t1 q ⊢
    have l40 := hL.l40
    refine ⟨_, (pss_cons (ps_expr (pe_cl h_need_lengthy (hr.mono (by decide)) (by rfl) (pa_cons (pv 0) (pa_cons (pv 1) (pa_cons (pv 2) pa_nil)))))
      (pss_cons (ps_set (i := 3) sc_foot_return.nd rfl (by first | exact Or.inl rfl | exact Or.inr rfl) pe_int)
      (pss_cons (ps_for PassesOwn.never rfl (pi_nkL (pe_cl h_class_states (hr.mono (by decide)) (by rfl) (pa_cons (pv 0) (pa_cons (pv 1) (pa_cons (pv 2) pa_nil))))) (pg_tup (by rfl) (pgs_cons (pg_name (i := 4) sc_foot_return.nd rfl (by first | exact Or.inl rfl | exact Or.inr rfl)) (pgs_cons (pg_name (i := 5) sc_foot_return.nd rfl (by first | exact Or.inl rfl | exact Or.inr rfl)) (pgs_cons (pg_name (i := 6) sc_foot_return.nd rfl (by first | exact Or.inl rfl | exact Or.inr rfl)) (pgs_cons (pg_name (i := 7) sc_foot_return.nd rfl (by first | exact Or.inl rfl | exact Or.inr rfl)) pgs_nil))))) (pss_one (ps_set (i := 3) sc_foot_return.nd rfl (by first | exact Or.inl rfl | exact Or.inr rfl) (pe_op op_fdivW (pe_op op_mulW (pv 3) (pv 6)) (pe_callBfun cr_gcd (by rfl) B.gcd (pa_cons (pv 3) (pa_cons (pv 6) pa_nil)))))))
      (pss_one (ps_ret (pv 3)))))), ?_⟩
    apply st_drop (C := C) (e := .non)
    · apply ev_fn (rooms, ds, room, (L : Int))
      · exact ea_cons (ev_var rfl t1) (by trivial)
      · rfl
      · exact ⟨hroom, by show 0 ≤ (L : Int); omega, by show (L : Int) ≤ 40; omega⟩
    intro H1 s1
    have t1a := t1.same s1
    apply st_set (C := C) (d := .num 1)
    · trivial
    intro vf H2 s2 tf
    cases tp_num tf
    have t1b := t1a.same s2
    refine st_nkL (P := P) (w := w) (C := C) (kD := cKD) (m := MF.cls ds room L) (fun H7 s7 Q' q' => ?_) (fun G i σ' H' => ∃ x4 x5 x6 x7, σ' = [some v, some (.int room), some (.int (L : Int)), some (.int (MF.ret ((MF.cls ds room L).take i))), x4, x5, x6, x7] ∧ Same G H') ?_ ?_ ?_ ?_
    · exact ⟨_, rfl, _, rfl, _, rfl, rooms, ds, room, L, .cons (t1b.same s7) (.cons (.num _) (.cons (.num _) .nil)), hw, hL, fun p H8 s8 hn M => q' p H8 s8 hn M⟩
    · intro G sG
      exact ⟨none, none, none, none, rfl, Same.refl _⟩
    · rintro G i σ' H' sG ⟨x4, x5, x6, x7, rfl, s⟩
      exact s
    · rintro G i ⟨there, pulls, first, last⟩ n x σ' H' sG hi ⟨x4, x5, x6, x7, rfl, s⟩ tx
      obtain ⟨u1, u2, u3, u4, w1, w2, w3, w4, g3⟩ := gb_four (K := K) (i := 4) (j := 5) (k := 6) (l := 7) (σ := [some v, some (.int room), some (.int (L : Int)), some (.int (MF.ret ((MF.cls ds room L).take i))), x4, x5, x6, x7]) tx
      cases tp_num w1
      cases tp_num w2
      cases tp_num w3
      refine ⟨_, g3, ?_⟩
      have hm := List.mem_of_getElem? hi
      have cd := (MF.cd_cls hw.ok room L).2 _ hm
      have r1 := hL.rt i
      have r0 : 0 < MF.ret ((MF.cls ds room L).take i) := (MF.ret_fold ((MF.cls ds room L).take i) (fun p hp => ((MF.cd_cls hw.ok room L).2 p (List.mem_of_mem_take hp)).2.1) 1 Int.one_pos).1
      have f0 : 0 < first := cd.2.1
      have f1 : first ≤ 1152921504606846976 := (hL.bk L (Nat.le_refl L) _ hm).2
      have e : MF.ret ((MF.cls ds room L).take (i + 1)) = (MF.ret ((MF.cls ds room L).take i) * first).fdiv (MF.gcdI (MF.ret ((MF.cls ds room L).take i)) first) := by
        unfold MF.ret
        rw [List.take_add_one, hi, List.foldl_append]
        rfl
      generalize MF.ret ((MF.cls ds room L).take i) = fo at r0 r1 e ⊢
      rw [e]
      have g0 := MF.gcdI_pos (b := first) (show fo ≠ 0 by omega)
      have g1 := gcdI_le (a := fo) (show first ≠ 0 by omega)
      have g2 : MF.aux first = first := by unfold MF.aux; omega
      have ev : EvD C (tOp (rI CDivW fun i j => .int (i / j)) (tOp (rI CMulW fun i j => .int (i * j)) (tVar 3) (tVar 6)) (tCB rGcd (tCons (tVar 3) (tCons (tVar 6) tNil)))) (((([some v, some (.int room), some (.int (L : Int)), some (.int fo), x4, x5, x6, x7].set 4 (some (.int there))).set 5 (some (.int pulls))).set 6 (some (.int first))).set 7 (some u4)) H' (.num ((fo * first).fdiv (MF.gcdI fo first))) := by
        rw [Int.fdiv_eq_ediv_of_nonneg _ (show 0 ≤ MF.gcdI fo first by omega)]
        apply ev_opIC (g := fun i j => i / j)
        · apply ev_opIC (g := fun i j => i * j)
          · trivial
          · trivial
          · exact wide_mul (a := 320) (b := 64) (by omega) (by omega) (by decide) (by decide) (by decide)
        · exact ev_gcd (by trivial) (by trivial)
        · exact ⟨g0, Nat.lt_trans (log2_lt (b := 64) (by omega) (by omega)) (by omega)⟩
      refine ev H' (Same.refl _) _ fun v3 H3 s3 t3 => ?_
      cases tp_num t3
      exact ⟨_, _, _, _, rfl, Same.trans s s3⟩
    · rintro G σ' H' sG ⟨x4, x5, x6, x7, rfl, s⟩
      rw [List.take_length]
      exact ⟨_, rfl, q _ H' (Same.trans (Same.trans s1 s2) (Same.trans sG s)) (.num _)⟩
end
end Kw

set_option Elab.async false
set_option linter.all false
set_option maxRecDepth 100000
set_option maxHeartbeats 4000000
/-! Lists of whole numbers, lists of such lists; comprehensions that make them. -/
namespace Y
open PySem PySem.Spec PyProof.Rows L2
def IL (ns : List Int) (H : Hp) (v : V) : Prop := ∃ a, v = .ref a ∧ H a = some (.lst (ns.map V.int))
def LL (rows : List (List Int)) (H : Hp) (v : V) : Prop := ∃ a vs, v = .ref a ∧ H a = some (.lst vs) ∧ Paired (fun v r => IL r H v) vs rows
/-- a reading that comes to a value that has Pr -/
def EvP (te : TE) (σ : L2.St) (H : Hp) (Pr : Hp → V → Prop) : Prop := ∀ H1, Same H H1 → ∀ Q : VK, (∀ v H2, Same H1 H2 → Pr H2 v → Q v H2) → te σ H1 Q
section
variable {C : Addr} {K : PySem.W.Frag} {te ta tb : TE} {as : TA} {σ : L2.St} {H H' : Hp} {v : V} {ns row : List Int} {rows : List (List Int)} {n : Int} {i : Nat} {d : D} {ds : List D}
theorem IL.same (h : IL ns H v) (s : Same H H') : IL ns H' v := let ⟨a, e, x⟩ := h; ⟨a, e, s _ _ x⟩
theorem pil_same (s : Same H H') : ∀ {vs : List V} {rows : List (List Int)}, Paired (fun v r => IL r H v) vs rows → Paired (fun v r => IL r H' v) vs rows
  | _, _, .nil => .nil
  | _, _, .cons a b => .cons (a.same s) (pil_same s b)
theorem LL.same (h : LL rows H v) (s : Same H H') : LL rows H' v := let ⟨a, vs, e, x, p⟩ := h; ⟨a, vs, e, s _ _ x, pil_same s p⟩
theorem evp_il (hv : σ[i]? = some (some v)) (h : IL ns H v) : EvP (tVar i) σ H (IL ns) := fun H1 s _ q => ⟨v, hv, q v H1 (Same.refl _) (h.same s)⟩
theorem evp_ll (hv : σ[i]? = some (some v)) (h : LL rows H v) : EvP (tVar i) σ H (LL rows) := fun H1 s _ q => ⟨v, hv, q v H1 (Same.refl _) (h.same s)⟩
theorem pil_get : ∀ {vs : List V} {rows : List (List Int)} {i : Nat} {row : List Int}, Paired (fun v r => IL r H v) vs rows → rows[i]? = some row → ∃ v, vs[i]? = some v ∧ IL row H v
  | _, _, 0, _, .cons a _, e => by simp at e; subst e; exact ⟨_, rfl, a⟩
  | _, _, i + 1, _, .cons _ b, e => by
    obtain ⟨v, h1, h2⟩ := pil_get (i := i) b (by simpa using e)
    exact ⟨v, by simpa using h1, h2⟩
  | _, _, _, _, .nil, e => by simp at e
/-- ns[i] -/
theorem ev_ixL (ha : EvP ta σ H (IL ns)) (hb : EvD C tb σ H (.num (i : Int))) (hn : ns[i]? = some n) : EvD C (tOp (rIxL K) ta tb) σ H (.num n) := fun H1 s Q q =>
  ha H1 s _ fun v H2 s2 p => hb H2 (Same.trans s s2) _ fun w H3 s3 t3 => by
    obtain ⟨a, rfl, e⟩ := p
    cases tp_num t3
    refine ⟨a, _, (i : Int), _, rfl, rfl, .inl (.inl (s3 _ _ e)), atI_nat (v := .int n) (by rw [List.getElem?_map, hn]; rfl), q _ H3 (Same.trans s2 s3) (.num _)⟩
/-- rows[i] -/
theorem evp_ixLL (ha : EvP ta σ H (LL rows)) (hb : EvD C tb σ H (.num (i : Int))) (hn : rows[i]? = some row) : EvP (tOp (rIxL K) ta tb) σ H (IL row) := fun H1 s Q q =>
  ha H1 s _ fun v H2 s2 p => hb H2 (Same.trans s s2) _ fun w H3 s3 t3 => by
    obtain ⟨a, vs, rfl, e, pr⟩ := p
    cases tp_num t3
    obtain ⟨x, h1, h2⟩ := pil_get pr hn
    exact ⟨a, _, (i : Int), x, rfl, rfl, .inl (.inl (s3 _ _ e)), atI_nat h1, q x H3 (Same.trans s2 s3) (h2.same s3)⟩
theorem ixN_neg {n k : Nat} (h : k < n) : ixN n (-((k : Int) + 1)) = some (n - 1 - k) := by
  unfold ixN
  rw [if_neg (by omega), if_pos (by omega)]
  congr 1
  omega
/-- rows[-1], rows[-2] -/
theorem evp_ixNeg {j : Int} {k : Nat} (ha : EvP ta σ H (LL rows)) (hb : EvD C tb σ H (.num j)) (hj : j = -((k : Int) + 1)) (hk : k < rows.length) (hn : rows[rows.length - 1 - k]? = some row) : EvP (tOp (rIxL K) ta tb) σ H (IL row) := fun H1 s Q q =>
  ha H1 s _ fun v H2 s2 p => hb H2 (Same.trans s s2) _ fun w H3 s3 t3 => by
    obtain ⟨a, vs, rfl, e, pr⟩ := p
    cases tp_num t3
    obtain ⟨x, h1, h2⟩ := pil_get pr hn
    have hl : vs.length = rows.length := Paired.length pr
    refine ⟨a, _, j, x, rfl, rfl, .inl (.inl (s3 _ _ e)), ?_, q x H3 (Same.trans s2 s3) (h2.same s3)⟩
    unfold atI
    rw [hj, hl, ixN_neg hk]
    exact h1
theorem ev_lenLL (ha : EvP ta σ H (LL rows)) : EvD C (tCB (rLenS K) (tCons ta tNil)) σ H (.num (rows.length : Int)) := fun H1 s Q q =>
  ha H1 s _ fun v H2 s2 p => by
    obtain ⟨a, vs, rfl, e, pr⟩ := p
    refine ⟨a, vs, rfl, .inl (.inl (.inl e)), ?_⟩
    rw [show vs.length = rows.length from Paired.length pr]
    exact q _ H2 s2 (.num _)
theorem ev_lenIL (ha : EvP ta σ H (IL ns)) : EvD C (tCB (rLenS K) (tCons ta tNil)) σ H (.num (ns.length : Int)) := fun H1 s Q q =>
  ha H1 s _ fun v H2 s2 p => by
    obtain ⟨a, rfl, e⟩ := p
    refine ⟨a, _, rfl, .inl (.inl (.inl e)), ?_⟩
    rw [List.length_map]
    exact q _ H2 s2 (.num _)
theorem ev_sumIL (ha : EvP ta σ H (IL ns)) : EvD C (tCB (rSum K) (tCons ta tNil)) σ H (.num ns.sum) := fun H1 s Q q =>
  ha H1 s _ fun v H2 s2 p => by
    obtain ⟨a, rfl, e⟩ := p
    exact ⟨a, ns, rfl, .inl (.inl e), q _ H2 s2 (.num _)⟩
/-- a new list of numbers as such -/
theorem evp_new (h : EvL C te σ H ds) (e : ds = ns.map D.num) : EvP te σ H (IL ns) := fun H1 s Q q => h H1 s _ fun a vs H2 s2 hn h2 t => q _ H2 s2 ⟨a, rfl, by subst e; rw [h2, nums_of t]⟩
theorem evp_if {tt : TT} {b : Bool} {Pr : Hp → V → Prop} (ht : EvT tt σ H b) (h1 : b = true → EvP ta σ H Pr) (h2 : b = false → EvP tb σ H Pr) : EvP (tIf tt ta tb) σ H Pr := fun H1 s Q q =>
  ht H1 s _ fun H2 s2 => by
    cases b with
    | true => exact iteT (h1 rfl H2 (Same.trans s s2) Q fun v H3 s3 t => q v H3 (Same.trans s2 s3) t)
    | false => exact iteF (h2 rfl H2 (Same.trans s s2) Q fun v H3 s3 t => q v H3 (Same.trans s2 s3) t)
/-- tuple(ns) -/
theorem ev_tupIL (ha : EvP ta σ H (IL ns)) : EvD C (tCB (rTupOf K) (tCons ta tNil)) σ H (.tup (ns.map D.num)) := fun H1 s Q q =>
  ha H1 s _ fun v H2 s2 p => by
    obtain ⟨a, rfl, e⟩ := p
    exact ⟨a, _, rfl, .inl ⟨.inl (.inl e), fun l hl => q _ _ (Same.newer s2 hl) (.tup upd_same (of_nums C _ ns))⟩⟩
/-- sum of a tuple of numbers -/
def rSumT (K : PySem.W.Frag) : List V → Hp → VK → Prop := fun vs H Q => ∃ (a : Addr) (ns : List Int), vs = [V.ref a] ∧ SqT K H a (ns.map V.int) ∧ Q (.int ns.sum) H
theorem ev_sumT (ha : EvD C ta σ H (.tup (ns.map D.num))) : EvD C (tCB (rSumT K) (tCons ta tNil)) σ H (.num ns.sum) := fun H1 s Q q =>
  ha H1 s _ fun v H2 s2 t => by
    obtain ⟨a, xs, rfl, hx, r⟩ := tp_tup t
    exact ⟨a, ns, rfl, .inl (.inl (by rw [hx, nums_of r])), q _ H2 s2 (.num _)⟩
end
theorem cr_sumT {X : Cx} (hc : X.calm = true) : CallR X (.builtin "sum") (rSumT X.K) := by
  intro pins s σ H vs us Q I r h
  obtain ⟨a, ns, rfl, hs, q⟩ := h
  obtain ⟨its, rv, hl, _⟩ := I.tuple hs
  rw [Vals.ref1 r]
  obtain ⟨xs, e⟩ := rv.ints.allInts.items
  have hn : numsOf (intItems xs).toList = ns := by rw [← e]; exact rv.ints.numsOf
  rw [nums_intItems] at hn
  have hh : X.A.in1.handled = none := I.ok.hd hc
  have hl : s.heap.IsTuple a (intItems xs) := by
    rw [← e]; obtain ⟨o, h1, h2⟩ := hl; exact ⟨o, h1, h2⟩
  have alt : a < s.heap.objs.size := let ⟨_, ho, _⟩ := hl; Heap.lt_size ho
  refine call_sum_walkG (wpAny_pyIter_tuple hl ?_)
  have hs1 : (s.heap.push { cls := .type "tuple_iterator", data := .fields #[.ref a, .int 0 0] }).objs.size = s.heap.objs.size + 1 := Heap.size_push ..
  refine ⟨_, [s.heap.objs.size, a], [s.heap.objs.size], _, _, _, numAt xs, rfl, Walks.tuple (A := X.A.in1) hh s.heap.objs.size a (Nat.ne_of_lt alt) (intItems xs), ⟨⟨_, Heap.get?_push_size _ rfl, rfl, rfl⟩, hl.at fun o e => Heap.get?_push_of_some _ e⟩, fun b hb => ?_, fun i v => intItems_at, fun h' tk t' hk => ?_⟩
  · simp only [List.mem_cons, List.not_mem_nil, or_false] at hb
    show b < (s.heap.push _).objs.size
    rw [hs1]
    rcases hb with rfl | rfl
    · exact Nat.lt_succ_self _
    · exact Nat.lt_succ_of_lt alt
  · have en : preSum (numAt xs) (intItems xs).size = ns.sum := by
      rw [preSum_eq, List.take_of_length_le (by simp [intItems]), hn]
    rw [en]
    refine ⟨.int _, H, I.kept (h' := h') (t' := tk) (fun b o e => hk b o ?_ (Heap.get?_push_of_some _ e)), ⟨_, rfl⟩, q⟩
    intro hb
    have : b = s.heap.objs.size := by simpa using hb
    exact absurd (Heap.lt_size e) (by rw [this]; exact Nat.lt_irrefl _)
section
variable {C : Addr} {K : PySem.W.Frag} {wi wi1 : TI} {g g1 : TG} {te ta : TE} {σ : L2.St} {H : Hp} {ds : List D} {Fk : List Addr} {vs vs1 : List Nat} {Q : VK}
/-- [e for x in .. ] with any record of what is made -/
theorem lc_gen (h : EvI C wi σ H ds Fk) (J : Hp → Addr → Nat → List V → Hp → Prop)
    (h0 : ∀ G D, Same H G → G D = none → J G D 0 [] (upd G D (.lst [])))
    (hst : ∀ G D i xs H', Same H G → G D = none → J G D i xs H' → Same G H' ∧ H' D = some (.lst xs) ∧ xs.length = i)
    (hb : ∀ G D i xs d x H', Same H G → G D = none → ds[i]? = some d → J G D i xs H' → Tp C H' x d → ∃ σ2, GB g (wipe σ vs) H' x σ2 ∧ wipe σ2 vs = wipe σ vs ∧ ∀ R : VK, (∀ y H4, H4 D = some (.lst xs) → J G D (i + 1) (xs ++ [y]) (upd H4 D (.lst (xs ++ [y]))) → R y H4) → te σ2 H' R)
    (hl : ds.length ≤ sizeLine)
    (q : ∀ G D xs H', Same H G → G D = none → J G D ds.length xs H' → Q (.ref D) H') : tLc wi g tYes te vs σ H Q := by
  refine h H (Same.refl _) _ fun It H2 F s2 hF S => fun Dd hD => ?_
  refine ⟨fun i m H' => m = ds.length - i ∧ i ≤ ds.length ∧ ∃ xs, J H2 Dd i xs H', ⟨ds.length, rfl, Nat.zero_le _, [], h0 H2 Dd s2 hD⟩, ?_⟩
  rintro i m H' ⟨rfl, hi, xs, j⟩
  obtain ⟨sm, e, xl⟩ := hst H2 Dd i xs H' s2 hD j
  have st : Stay H2 H' := Same.stay sm
  have fr : ∀ b ∈ F, ∀ o, H2 b = some o → H' b = some o := fun b _ o e => sm b o e
  by_cases hlt : i < ds.length
  · refine .inr ⟨S.go i H' st fr hlt, fun H3 => ∃ xs, J H2 Dd (i + 1) xs H3, fun H3 q3 => ⟨_, by omega, rfl, hlt, q3⟩, ?_⟩
    intro x H3 y
    obtain ⟨rfl, d, e1, e2⟩ := S.yld i x H' H3 st fr hlt y
    obtain ⟨σ2, g2, w2, he⟩ := hb H2 Dd i xs d x H3 s2 hD e1 j e2
    refine g2 _ ⟨w2, ?_⟩
    unfold tYes
    refine iteT ?_
    exact he _ fun y H4 e4 j4 => ⟨xs, e4, by omega, _, j4⟩
  · have : i = ds.length := by omega
    subst this
    exact .inl ⟨S.stop H' st fr, q H2 Dd xs H' s2 hD j⟩
/-- [e for x in .. for y in ..]: data -/
theorem evl_lc2 (h : EvI C wi σ H ds Fk) (f : D → List D) (ff : D → D → D)
    (hb : ∀ d x H', d ∈ ds → Same H H' → Tp C H' x d → ∃ σ2, GB g (wipe σ vs) H' x σ2 ∧ wipe σ2 vs = wipe σ vs ∧ EvI C wi1 σ2 H' (f d) [] ∧
      ∀ e y H'', e ∈ f d → Same H H'' → Tp C H'' x d → Tp C H'' y e → ∃ σ3, GB g1 (wipe σ2 vs1) H'' y σ3 ∧ wipe σ3 vs1 = wipe σ2 vs1 ∧ EvD C te σ3 H'' (ff d e))
    (hl : (ds.flatMap fun d => (f d).map (ff d)).length ≤ sizeLine) : EvL C (tLc2 wi g tYes wi1 g1 tYes te vs vs1) σ H (ds.flatMap fun d => (f d).map (ff d)) := fun H1 s Q q => by
  refine h H1 s _ fun It H2 F s2 hF S => fun Dd hD => ?_
  have hmem : ∀ i d, ds[i]? = some d → d ∈ ds := fun i d e => List.mem_of_getElem? e
  refine ⟨fun i m H' => m = ds.length - i ∧ i ≤ ds.length ∧ Same H2 H' ∧ ∃ vs', H' Dd = some (.lst vs') ∧ TpA C H' vs' ((ds.take i).flatMap fun d => (f d).map (ff d)), ⟨ds.length, rfl, Nat.zero_le _, Same.new hD, [], upd_same, .nil⟩, ?_⟩
  rintro i m H' ⟨rfl, hi, sm, vs', e, t⟩
  have st : Stay H2 H' := Same.stay sm
  have fr : ∀ b ∈ F, ∀ o, H2 b = some o → H' b = some o := fun b _ o e => sm b o e
  by_cases hlt : i < ds.length
  · refine .inr ⟨S.go i H' st fr hlt, fun H3 => Same H2 H3 ∧ ∃ vs', H3 Dd = some (.lst vs') ∧ TpA C H3 vs' ((ds.take (i + 1)).flatMap fun d => (f d).map (ff d)), fun H3 q3 => ⟨_, by omega, rfl, hlt, q3⟩, ?_⟩
    intro x H3 y
    obtain ⟨rfl, d, e1, e2⟩ := S.yld i x H' H3 st fr hlt y
    obtain ⟨σ2, g2, w2, hi1, he⟩ := hb d x H3 (hmem i d e1) (Same.trans s (Same.trans s2 sm)) e2
    have tk : (ds.take (i + 1)).flatMap (fun d => (f d).map (ff d)) = (ds.take i).flatMap (fun d => (f d).map (ff d)) ++ (f d).map (ff d) := by
      rw [List.take_add_one, e1, List.flatMap_append]
      simp
    have tl : ((ds.take (i + 1)).flatMap fun d => (f d).map (ff d)).length ≤ sizeLine := by
      refine Nat.le_trans ?_ hl
      have : ds = ds.take (i + 1) ++ ds.drop (i + 1) := (List.take_append_drop _ _).symm
      conv => rhs; rw [this, List.flatMap_append, List.length_append]
      omega
    rw [tk, List.length_append, List.length_map] at tl
    refine g2 _ ⟨w2, ?_⟩
    unfold tYes
    refine iteT ?_
    refine hi1 H3 (Same.refl _) _ fun It1 H4 F1 s4 hF1 S1 => ?_
    refine ⟨fun j k H' => k = (f d).length - j ∧ j ≤ (f d).length ∧ Same H2 H' ∧ But Dd H4 H' ∧ ∃ vs', H' Dd = some (.lst vs') ∧ TpA C H' vs' ((ds.take i).flatMap (fun d => (f d).map (ff d)) ++ ((f d).take j).map (ff d)), ⟨_, rfl, Nat.zero_le _, Same.trans sm s4, But.refl _ _, vs', s4 _ _ e, by simpa using t.same s4⟩, ?_⟩
    rintro j k H5 ⟨rfl, hj, sm5, b5, vs5, e5, t5⟩
    have st5 : Stay H4 H5 := But.stay b5 (notImm_lst (s4 _ _ e))
    have fr5 : ∀ b ∈ F1, ∀ o, H4 b = some o → H5 b = some o := fun b hb o eo => b5 b o (fun z => by
      rcases hF1 b hb with hn | hn
      · rw [z, e] at hn; cases hn
      · exact nomatch hn) eo
    by_cases hjl : j < (f d).length
    · refine .inr ⟨S1.go j H5 st5 fr5 hjl, fun H6 => Same H2 H6 ∧ But Dd H4 H6 ∧ ∃ vs', H6 Dd = some (.lst vs') ∧ TpA C H6 vs' ((ds.take i).flatMap (fun d => (f d).map (ff d)) ++ ((f d).take (j + 1)).map (ff d)), fun H6 q6 => ⟨_, by omega, rfl, hjl, q6⟩, ?_⟩
      intro x1 H6 y1
      obtain ⟨rfl, d1, e11, e12⟩ := S1.yld j x1 H5 H6 st5 fr5 hjl y1
      obtain ⟨σ3, g3, w3, ev⟩ := he d1 x1 H6 (List.mem_of_getElem? e11) (Same.trans s (Same.trans s2 sm5)) ((e2.same s4).stay st5) e12
      refine g3 _ ⟨w3, ?_⟩
      dsimp only
      refine iteT ?_
      refine ev H6 (Same.refl _) _ fun v H7 s7 t7 => ?_
      have ll : vs5.length < sizeLine := by
        rw [t5.length, List.length_append, List.length_map, List.length_take]
        omega
      refine ⟨vs5, s7 _ _ e5, ll, Same.put (Same.trans sm5 s7) hD, but_set (But.trans b5 (Same.but s7)), _, upd_same, ?_⟩
      have stp : Stay H7 (upd H7 Dd (.lst (vs5 ++ [v]))) := But.stay (p := Dd) but_up (notImm_lst (s7 _ _ e5))
      have tk1 : ((f d).take (j + 1)).map (ff d) = ((f d).take j).map (ff d) ++ [ff d d1] := by
        rw [List.take_add_one, e11, List.map_append]
        simp
      rw [tk1, ← List.append_assoc]
      exact ((t5.same s7).stay stp).append (.cons (t7.stay stp) .nil)
    · have : j = (f d).length := by omega
      subst this
      refine .inl ⟨S1.stop H5 st5 fr5, sm5, vs5, e5, ?_⟩
      rw [tk]
      rw [List.take_length] at t5
      exact t5
  · have : i = ds.length := by omega
    subst this
    refine .inl ⟨S.stop H' st fr, ?_⟩
    rw [List.take_length] at t
    exact q Dd vs' H' (Same.trans s2 sm) (s2.free hD) e t
end
end Y

set_option Elab.async false
set_option linter.all false
set_option maxRecDepth 100000
set_option maxHeartbeats 4000000
/-! Rooms in a table. -/
namespace Kw
open PySem PySem.Spec PyProof.Rows L2 Y
local macro_rules | `(tactic| trivial) => `(tactic| first
  | with_reducible exact ev_int
  | with_reducible exact ev_bl
  | with_reducible exact ev_non
  | with_reducible exact ea_nil
  | with_reducible exact et_yes
  | ((with_reducible apply ev_var); exact rfl; first | exact .num _ | exact .bl _ | exact .non | assumption)
  | ((with_reducible apply ea_cons); trivial; trivial)
  | ((with_reducible apply ev_tup); trivial; first | decide | (show _ ≤ sizeLine; simp; decide))
  | ((with_reducible apply ev_ix0); trivial; trivial; exact rfl)
  | ((with_reducible apply ev_ix1); trivial; trivial; exact rfl)
  | ((with_reducible apply ev_ix2); trivial; trivial; exact rfl)
  | ((with_reducible apply ev_ix3); trivial; trivial; exact rfl)
  | ((with_reducible apply ev_opI); trivial; trivial)
  | ((with_reducible apply ev_opB); trivial; trivial)
  | ((with_reducible apply ev_eqI); trivial; trivial)
  | ((with_reducible apply ev_neI); trivial; trivial)
  | ((with_reducible apply ev_un); trivial)
  | ((with_reducible apply ev_chain); trivial; trivial; trivial)
  | ((with_reducible apply ev_abs); trivial)
  | ((with_reducible apply ev_intI); trivial)
  | ((with_reducible apply ev_gcd); trivial; trivial)
  | ((with_reducible apply ev_lenT); trivial)
  | ((with_reducible apply et_test); trivial)
  | ((with_reducible apply et_B); trivial)
  | ((with_reducible apply et_not); trivial)
  | ((with_reducible apply et_and); trivial; (intro _; trivial))
  | ((with_reducible apply et_or); trivial; (intro _; trivial))
  | ((with_reducible apply ev_andV); trivial; (intro _; trivial))
  | ((with_reducible apply ev_orV); trivial; (intro _; trivial))
  | ((with_reducible apply ev_notV); trivial)
  | ((with_reducible apply ev_isN); trivial)
  | ((with_reducible apply ev_notN); trivial)
  | ((with_reducible apply ev_isiII); trivial)
  | ((with_reducible apply ev_isiIB); trivial)
  | ((with_reducible apply ev_isiTT); trivial)
  | ((with_reducible apply ev_isH); trivial))
/-- a def that only reads and comes to a value with a property -/
def pSp {ι : Type} (pre : ι → List V → Hp → Prop) (post : ι → Hp → V → Prop) : Sp := fun vs H Q _ => ∃ i, pre i vs H ∧ ∀ v H', Same H H' → post i H' v → Q v H'
/-- arguments with a property -/
def EvAP (as : TA) (σ : L2.St) (H : Hp) (Pr : List V → Hp → Prop) : Prop := ∀ H1, Same H H1 → ∀ Q : List V → Hp → Prop, (∀ vs H2, Same H1 H2 → Pr vs H2 → Q vs H2) → as σ H1 Q
theorem evp_call {ι : Type} {pre : ι → List V → Hp → Prop} {post : ι → Hp → V → Prop} {as : TA} {σ : L2.St} {H : Hp} (i : ι) (ha : EvAP as σ H (pre i)) : EvP (tCall (pSp pre post) [] E0 as) σ H (post i) := fun H1 s Q q =>
  ha H1 s _ fun vs H2 s2 t => ⟨i, by rw [List.append_nil]; exact t, fun v H3 s3 t3 => q v H3 (Same.trans s2 s3) t3⟩
theorem eap_nil {σ : L2.St} {H : Hp} : EvAP tNil σ H (fun vs _ => vs = []) := fun H1 _ Q q => q [] H1 (Same.refl _) rfl
theorem eap_cons {te : TE} {as : TA} {σ : L2.St} {H : Hp} {Pr : Hp → V → Prop} {Ps : List V → Hp → Prop} (h : EvP te σ H Pr) (r : EvAP as σ H Ps) (st : ∀ H H' v, Same H H' → Pr H v → Pr H' v) : EvAP (tCons te as) σ H (fun vs H => ∃ v r, vs = v :: r ∧ Pr H v ∧ Ps r H) := fun H1 s Q q =>
  h H1 s _ fun v H2 s2 p => r H2 (Same.trans s s2) _ fun vs H3 s3 ps => q (v :: vs) H3 (Same.trans s2 s3) ⟨v, vs, rfl, st _ _ _ s3 p, ps⟩
theorem evp_d {C : Addr} {te : TE} {σ : L2.St} {H : Hp} {d : D} (h : EvD C te σ H d) : EvP te σ H (fun H v => Tp C H v d) := h
theorem eap_mono {as : TA} {σ : L2.St} {H : Hp} {Pr Ps : List V → Hp → Prop} (h : EvAP as σ H Pr) (i : ∀ vs H, Pr vs H → Ps vs H) : EvAP as σ H Ps := fun H1 s Q q => h H1 s Q fun vs H2 s2 p => q vs H2 s2 (i _ _ p)
theorem st_lcg {te : TE} {rest : TS} {Ds : Ends} {σ : L2.St} {H : Hp} {i : Nat} (h : te σ H fun x H1 => rest Ds (σ.set i (some x)) H1) : tSeq (tAsg te (gName i)) rest Ds σ H := h
/-- the steps so far, counted from room u to t -/
def tabP (ds : List Door) (l : List MF.Step) (u t : Nat) : Int := MS.ls l fun s => if MF.near ds s = (u : Int) ∧ MF.far ds s = (t : Int) then MF.aux (MF.lv ds s) else 0
theorem tabP_all (ds : List Door) (u t : Nat) : tabP ds (MF.allSteps ds) u t = MF.tab ds u t := rfl
theorem set_row {n t0 : Nat} {T : Nat → Int} {c : Int} (h : t0 < n) : ((List.range n).map fun t => V.int (T t)).set t0 (V.int (T t0 + c)) = (List.range n).map fun t => V.int (T t + if t = t0 then c else 0) := by
  apply List.ext_getElem
  · simp
  · intro i h1 h2
    rw [List.getElem_set]
    simp only [List.getElem_map, List.getElem_range]
    by_cases e : t0 = i
    · subst e; simp
    · have : ¬ i = t0 := fun z => e z.symm
      simp [e, this]
section
variable {P : Program} {w : World} {K : PySem.W.Frag} {mg : Str → Option Value} {base : Heap} {C : Addr}
theorem sc_need_length : FnScope ["length"] ["length"] (defScope s_need_length) := ⟨rfl, rfl, rfl, by decide +kernel, rfl, by decide +kernel, by decide +kernel⟩
abbrev sp_need_length (C : Addr) : Sp := fnSp C (fun i : Int => [.num i]) (fun i => 0 ≤ i ∧ i ≤ 300) (fun _ => .non)
theorem ok_need_length (F : Df K mg "need_length" s_need_length) (B : Bi K mg C) (h_is_below : Cl P w K mg base "is_below" 2 ["value", "size"] (sp_is_below C)) : Cl P w K mg base "need_length" 3 ["length"] (sp_need_length C) := by
  refine F.cl sc_need_length (fun _ _ _ _ _ _ us hl => match us, hl with | [_], _ => rfl) (fun vs H Q E h => ?_) (fun f cdv A outer s H vs Q E hr h => ?_)
  · obtain ⟨i, t, _⟩ := h; exact t.length
  · obtain ⟨i, t, hp, q⟩ := h
    obtain ⟨v, _, rfl, t1, t⟩ := tpa_cons t
    cases tpa_nil t
    have hp : 0 ≤ i ∧ i ≤ 300 := hp
    refine ⟨_, (pss_one (ps_if (pt_not (pt_val (pe_cl h_is_below (hr.mono (by decide)) (by rfl) (pa_cons (pv 0) (pa_cons (pe_op op_add (pe_gint (by rfl) B.MOST_LENGTH_counts) pe_int) pa_nil))))) (pss_one ps_never) pss_nil)), ?_⟩
    apply st_no1
    · refine et_not (b := true) (et_B (C := C) ?_)
      have e : D.bl true = D.bl (decide (0 ≤ i) && decide (i < 300 + 1)) := by
        rw [decide_eq_true hp.1, decide_eq_true (by omega)]; rfl
      rw [e]
      apply ev_fn (i, (300 : Int) + 1)
      · trivial
      · rfl
      · exact True.intro
    · exact fun H2 s2 => q _ _ s2 .non
theorem sc_all_steps : FnScope ["house", "at", "side"] ["house"] (defScope s_all_steps) := ⟨rfl, rfl, rfl, by decide +kernel, rfl, by decide +kernel, by decide +kernel⟩
abbrev sp_all_steps (C : Addr) : Sp := fnSpL C (fun i : Int × List Door => [.hs i.1 i.2]) (fun i => i.2.length ≤ 20) (fun i => (MF.allSteps i.2).map stepD)
theorem ok_all_steps (F : Df K mg "all_steps" s_all_steps) (B : Bi K mg C) : Cl P w K mg base "all_steps" 1 ["house"] (sp_all_steps C) := by
  refine F.cl sc_all_steps (fun _ _ _ _ _ _ us hl => match us, hl with | [_], _ => rfl) (fun vs H Q E h => ?_) (fun f cdv A outer s H vs Q E hr h => ?_)
  · obtain ⟨i, t, _⟩ := h; exact t.length
  · obtain ⟨⟨rooms, ds⟩, t, hp, q⟩ := h
    obtain ⟨v, _, rfl, t1, t⟩ := tpa_cons t
    cases tpa_nil t
    have hp : ds.length ≤ 20 := hp
    refine ⟨_, (pss_one (ps_ret (pe_lc2 (own := [("at", 1), ("side", 2)]) (vs1 := [2]) (tt := tYes) (wi1 := iTup K _) (tt1 := tYes) rfl sc_all_steps.nd (pi_range1 (by rfl) B.range (pa_cons (pe_callB call_lenS (by rfl) B.len (by decide +kernel) (pa_cons (pe_fld (pv 0) rfl) pa_nil)) pa_nil)) (blkOk_by (own := [("at", 1), ("side", 2)]) (N := ["house", "at", "side"]) (sc := defScope s_all_steps) (by decide +kernel)) (by decide) (fun _ _ _ _ _ => (pg_name (i := 1) sc_all_steps.nd rfl (by first | exact Or.inl rfl | exact Or.inr rfl))) (fun _ _ _ _ _ => pts_nil) (fun _ _ _ _ _ => (pi_tup (pe_tup (pa_cons pe_int (pa_cons pe_int pa_nil))))) (fun _ _ _ _ _ => (pg_name (i := 2) sc_all_steps.nd rfl (by first | exact Or.inl rfl | exact Or.inr rfl))) (fun _ _ _ _ _ => pts_nil) (fun _ _ _ _ _ => (pe_tup (pa_cons (pv 1) (pa_cons (pv 2) pa_nil))))))), ?_⟩
    have e : ((((List.range ds.length).map fun k => D.num ((k : Nat) : Int)).flatMap fun d => [D.num 0, D.num 1].map fun e => D.tup [d, e])) = (MF.allSteps ds).map stepD := by
      unfold MF.allSteps
      rw [List.flatMap_map, List.map_flatMap]
      rfl
    refine st_retL' (C := C) (d := ((List.range ds.length).map fun k => D.num ((k : Nat) : Int)).flatMap fun d => [D.num 0, D.num 1].map fun e => D.tup [d, e]) ?_ e fun a vs H2 s2 hn h2 t2 => q a vs H2 s2 hn h2 t2
    refine evl_lc2 (C := C) (ei_rng1 (n := ds.length) (C := C) ?_ (by omega)) (fun _ => [.num 0, .num 1]) (fun d e => .tup [d, e]) ?_ ?_
    · apply ea_cons
      · have e2 : (D.num (ds.length : Int)) = D.num (((ds.map doorD).length : Nat) : Int) := by rw [List.length_map]
        rw [e2]
        exact ev_lenT (ev_doors (ev_var rfl t1) B.cl B.nd)
      · trivial
    · intro d x H1 hd s1 tx
      obtain ⟨k, hk, rfl⟩ := List.mem_map.mp hd
      cases tp_num tx
      refine ⟨_, gb_name, rfl, ei_tup (by trivial), fun e y H2 he s2 tx2 ty => ?_⟩
      have hy : ∃ z : Int, e = .num z := by
        simp only [List.mem_cons, List.not_mem_nil, or_false] at he
        rcases he with rfl | rfl
        · exact ⟨_, rfl⟩
        · exact ⟨_, rfl⟩
      obtain ⟨z, rfl⟩ := hy
      cases tp_num ty
      refine ⟨_, gb_name, rfl, ?_⟩
      trivial
    · rw [e, List.length_map]
      have : ∀ n, ((List.range n).flatMap fun a => [(a, 0), (a, 1)] : List MF.Step).length = 2 * n := by
        intro n
        induction n with
        | zero => rfl
        | succ n ih => rw [List.range_succ, List.flatMap_append, List.length_append, ih]; simp; omega
      show (MF.allSteps ds).length ≤ sizeLine
      unfold MF.allSteps
      rw [this]
      exact small_len (m := 40) (by omega) (by omega)
/-- the rows stand at rs -/
def TB (T : Nat → Nat → Int) (n : Nat) (rs : List Addr) (H : Hp) : Prop := ∀ u r, rs[u]? = some r → H r = some (.lst ((List.range n).map fun t => V.int (T u t)))
theorem TB.ll {T : Nat → Nat → Int} {n : Nat} : ∀ {rs : List Addr} {H : Hp} (k : Nat), (∀ u r, rs[u]? = some r → H r = some (.lst ((List.range n).map fun t => V.int (T (k + u) t)))) → Paired (fun v r => IL r H v) (rs.map V.ref) ((List.range rs.length).map fun u => (List.range n).map fun t => T (k + u) t)
  | [], H, k, _ => .nil
  | r :: rs, H, k, h => by
    rw [List.length_cons, List.range_succ_eq_map, List.map_cons, List.map_cons, List.map_map]
    refine .cons ⟨r, rfl, ?_⟩ ?_
    · have := h 0 r rfl
      rw [this]
      simp [Function.comp_def]
    · have := TB.ll (T := T) (n := n) (rs := rs) (H := H) (k + 1) (fun u r' hr => by
        have := h (u + 1) r' (by simpa using hr)
        rw [show k + 1 + u = k + (u + 1) by omega]
        exact this)
      refine (cast ?_ this)
      congr 1
      apply List.map_congr_left
      intro u hu
      show _ = (fun t => T (k + (u + 1)) t) <$> _
      rw [show k + 1 + u = k + (u + 1) by omega]
      rfl
def tabL (ds : List Door) (n : Nat) : List (List Int) := (List.range n).map fun u => (List.range n).map fun t => MF.tab ds u t
theorem sc_rooms_table : FnScope ["house", "found", "room", "step", "near", "leaving", "far", "arriving"] ["house"] (defScope s_rooms_table) := ⟨rfl, rfl, rfl, by decide +kernel, rfl, by decide +kernel, by decide +kernel⟩
abbrev sp_rooms_table (C : Addr) : Sp := pSp (fun (i : Int × List Door × Nat) vs H => TpA C H vs [.hs i.1 i.2.1] ∧ HW i.1 i.2.1 ∧ i.1 = (i.2.2 : Int)) (fun i H v => LL (tabL i.2.1 i.2.2) H v)
theorem ok_rooms_table (F : Df K mg "rooms_table" s_rooms_table) (B : Bi K mg C) (h_all_steps : Cl P w K mg base "all_steps" 1 ["house"] (sp_all_steps C)) (h_gate_of : Cl P w K mg base "gate_of" 1 ["house", "step"] (sp_gate_of C)) : Cl P w K mg base "rooms_table" 2 ["house"] (sp_rooms_table C) := by
  refine F.cl sc_rooms_table (fun _ _ _ _ _ _ us hl => match us, hl with | [_], _ => rfl) (fun vs H Q E h => ?_) (fun f cdv A outer s H vs Q E hr h => ?_)
  · obtain ⟨i, ⟨t, _⟩, _⟩ := h; exact t.length
  · obtain ⟨⟨rooms, ds, n⟩, ⟨t, hw, hn⟩, q⟩ := h
    obtain ⟨v, _, rfl, t1, t⟩ := tpa_cons t
    cases tpa_nil t
    have hn : rooms = (n : Int) := hn
    have hw : HW rooms ds := hw
    have t1 : Tp C H v (.hs rooms ds) := t1
    subst hn
    have hn12 : n ≤ 12 := by have := hw.hk.r1; omega
    have hn1 : 1 ≤ n := by have := hw.hk.r0; omega
    refine ⟨_, (pss_cons (ps_setLc (i := 1) (own := [("room", 2)]) (tt := tYes) (te := tOp rRep _ (tFld K _ _)) rfl sc_rooms_table.nd rfl rfl (sw_true rfl rfl rfl (by decide +kernel)) (pi_range1 (by rfl) B.range (pa_cons (pe_fld (pv 0) rfl) pa_nil)) (blkOk_by (own := [("room", 2)]) (N := ["house", "found", "room", "step", "near", "leaving", "far", "arriving"]) (sc := defScope s_rooms_table) (by decide +kernel)) (fun _ _ _ _ _ => (pg_name (i := 2) sc_rooms_table.nd rfl (by first | exact Or.inl rfl | exact Or.inr rfl))) (fun _ _ _ _ _ => pts_nil) (fun _ _ _ _ _ => (pe_op op_rep (pe_lst (pa_cons pe_int pa_nil)) (pe_fld (pv 0) rfl))))
      (pss_cons (ps_for PassesOwn.never rfl (pi_list (pe_cl h_all_steps (hr.mono (by decide)) (by rfl) (pa_cons (pv 0) pa_nil))) (pg_name (i := 3) sc_rooms_table.nd rfl (by first | exact Or.inl rfl | exact Or.inr rfl)) (pss_cons (ps_asg (pe_cl h_gate_of (hr.mono (by decide)) (by rfl) (pa_cons (pv 0) (pa_cons (pv 3) pa_nil))) (pg_tup (by rfl) (pgs_cons (pg_name (i := 4) sc_rooms_table.nd rfl (by first | exact Or.inl rfl | exact Or.inr rfl)) (pgs_cons (pg_name (i := 5) sc_rooms_table.nd rfl (by first | exact Or.inl rfl | exact Or.inr rfl)) (pgs_cons (pg_name (i := 6) sc_rooms_table.nd rfl (by first | exact Or.inl rfl | exact Or.inr rfl)) (pgs_cons (pg_name (i := 7) sc_rooms_table.nd rfl (by first | exact Or.inl rfl | exact Or.inr rfl)) pgs_nil))))))
      (pss_one (ps_augS (pe_ix ix_list (pv 1) (pv 4) (fun _ _ => rfl)) (pv 6) get_list (pe_callB call_abs (by rfl) B.abs (by decide +kernel) (pa_cons (pv 5) pa_nil)) ip_add set_list (fun _ _ _ => rfl)))))
      (pss_one (ps_ret (pv 1))))), ?_⟩
    refine st_lcg ?_
    refine lc_gen (C := C) (ei_rng1 (n := n) (C := C) ?_ (by omega)) (fun G D i xs H' => Same G H' ∧ H' D = some (.lst xs) ∧ xs.length = i ∧ ∃ rs : List Addr, xs = rs.map V.ref ∧ rs.Nodup ∧ ∀ r ∈ rs, G r = none ∧ r ≠ D ∧ H' r = some (.lst ((List.range n).map fun _ => V.int 0))) ?_ ?_ ?_ ?_ ?_
    · exact ea_cons (ev_rooms (ev_var rfl t1) B.cl B.nr) ea_nil
    · intro G D sG hD
      exact ⟨Same.new hD, upd_same, rfl, [], rfl, List.nodup_nil, fun r hr => nomatch hr⟩
    · rintro G D i xs H' sG hD ⟨s, e, l, _⟩
      exact ⟨s, e, l⟩
    · rintro G D i xs d x H' sG hD hi ⟨s, e, l, rs, rfl, nd, hrs⟩ tx
      obtain ⟨hi2, rfl⟩ := rng_item hi
      cases tp_num tx
      refine ⟨_, gb_name, rfl, fun R hR => ?_⟩
      refine ⟨Nat.succ_le_of_lt (by rw [sizeLine_eq]; decide), fun p hp => ?_⟩
      have s2 : Same H' (upd H' p (.lst [V.int 0])) := Same.new hp
      refine ev_rooms (ev_var rfl (((t1.same sG).same s).same s2)) B.cl B.nr _ (Same.refl _) _ fun y H3 s3 ty => ?_
      cases tp_num ty
      have e3 : H3 p = some (.lst [V.int 0]) := s3 _ _ upd_same
      refine ⟨p, (n : Int), [V.int 0], rfl, rfl, e3, by omega, by omega, ?_, fun r hr => ?_⟩
      · exact small_len (m := 12) (by simp; omega) (by omega)
      have zz : ([V.int 0] : List V) = [V.int 0] := rfl
      have er : (List.replicate ((n : Int).toNat) [V.int 0]).flatten = (List.range n).map fun _ => V.int 0 := by
        rw [Int.toNat_natCast]
        clear hn12 hn1 hi hi2 hw t1 q hr
        apply List.ext_getElem
        · simp
        · intro i h1 h2
          simp at h1 h2
          simp
      rw [er]
      have s23 : Same H' (upd H3 r (.lst ((List.range n).map fun _ => V.int 0))) := Same.newer (Same.trans s2 s3) hr
      have rD : r ≠ D := fun z => by
        rw [z] at hr
        rw [Same.trans s2 s3 _ _ e] at hr
        cases hr
      refine hR _ _ (s23 _ _ e) ⟨?_, upd_same, by simp [l], rs ++ [r], by simp, ?_, ?_⟩
      · intro b o eb
        rw [upd_ne (fun z => by subst z; rw [hD] at eb; cases eb)]
        exact s23 _ _ (s _ _ eb)
      · refine List.nodup_append.mpr ⟨nd, by simp, ?_⟩
        intro a ha b hb
        have : b = r := by simpa using hb
        rintro rfl
        subst this
        have := (hrs a ha).2.2
        rw [Same.trans s2 s3 _ _ this] at hr
        cases hr
      · intro r' hr'
        rcases List.mem_append.mp hr' with h | h
        · obtain ⟨a1, a2, a3⟩ := hrs r' h
          refine ⟨a1, a2, ?_⟩
          rw [upd_ne a2]
          exact s23 _ _ a3
        · have : r' = r := by simpa using h
          subst this
          refine ⟨(Same.trans s (Same.trans s2 s3)).free hr, rD, ?_⟩
          rw [upd_ne rD]
          exact upd_same
    · rw [List.length_map, List.length_range]; exact small_len (m := 12) hn12 (by omega)
    rintro G D xs H1 sG hD ⟨sm, e, l, rs, rfl, nd, hrs⟩
    rw [List.length_map, List.length_map, List.length_range] at l
    have s1 : Same H H1 := Same.trans sG sm
    have t1' := t1.same s1
    have nH : ∀ r ∈ rs, H r = none := fun r hr => sG.free (hrs r hr).1
    have nD : H D = none := sG.free hD
    have tb0 : TB (tabP ds []) n rs H1 := fun u r hr => (hrs r (List.mem_of_getElem? hr)).2.2
    have rD : ∀ r ∈ rs, r ≠ D := fun r hr => (hrs r hr).2.1
    have imm : ∀ r ∈ rs, ∀ o, H1 r = some o → ¬ Imm o := fun r hr => notImm_lst (hrs r hr).2.2
    have some1 : ∀ r ∈ rs, H1 r ≠ none := fun r hr => by rw [(hrs r hr).2.2]; simp
    clear hrs
    have al : (MF.allSteps ds).length ≤ 8 := by
      have : ∀ n, ((List.range n).flatMap fun a => [(a, 0), (a, 1)] : List MF.Step).length = 2 * n := by
        intro n
        induction n with
        | zero => rfl
        | succ n ih => rw [List.range_succ, List.flatMap_append, List.length_append, ih]; simp; omega
      unfold MF.allSteps
      rw [this]; have := hw.d4; omega
    refine st_for (C := C) (wi := _) (ei_lst (C := C) (ds := (MF.allSteps ds).map stepD) ?_) (fun G i σ' H' => ∃ x2 x3 x4 x5 x6 x7, σ' = [some v, some (.ref D), x2, x3, x4, x5, x6, x7] ∧ (∀ b o, b ∉ rs → G b = some o → H' b = some o) ∧ TB (tabP ds ((MF.allSteps ds).take i)) n rs H') ?_ ?_ ?_ ?_
    · apply evl_fn ((n : Int), ds)
      · exact ea_cons (ev_var rfl t1') ea_nil
      · rfl
      · have := hw.d4; dsimp only; omega
    · intro G2 s2
      exact ⟨none, none, none, none, none, none, rfl, fun _ _ _ h => h, fun u r hr => s2 _ _ (tb0 u r hr)⟩
    · rintro G2 i σ' H' s2 ⟨x2, x3, x4, x5, x6, x7, rfl, b, tb⟩
      refine ⟨fun c o ec ic => b c o (fun hc => ?_) ec, fun c o hc ec => b c o (fun z => ?_) ec⟩
      · obtain ⟨o2, h2⟩ : ∃ o2, H1 c = some o2 := Option.ne_none_iff_exists'.mp (some1 c hc)
        have := s2 _ _ h2
        rw [ec] at this
        cases this
        exact imm c hc o h2 ic
      · rcases hc with hc | hc
        · exact some1 c z hc
        · exact nomatch hc
    · rintro G2 i d x σ' H' s2 hi ⟨x2, x3, x4, x5, x6, x7, rfl, b, tb⟩ tx
      obtain ⟨st, hst, rfl⟩ := map_item hi
      refine ⟨_, gb_name, ?_⟩
      have hs := List.mem_of_getElem? hst
      have sH : Same H H' := fun c o ec => b c o (fun hc => by rw [nH c hc] at ec; cases ec) (s2 _ _ (s1 _ _ ec))
      have tx' := tx
      apply st_asg (C := C) (d := doorD (MF.gate ds st))
      · apply ev_fn ((n : Int), ds, st)
        · exact ea_cons (ev_var rfl (t1.same sH)) (ea_cons (ev_var rfl tx) ea_nil)
        · rfl
        · exact hs
      · intro xg H3 s3 tg
        refine ⟨_, gb_door tg, ?_⟩
        obtain ⟨nr0, nr1⟩ := MF.near_room hw.ok hs
        obtain ⟨fr0, fr1⟩ := MF.far_room hw.ok hs
        obtain ⟨u0, hu⟩ : ∃ u0 : Nat, MF.near ds st = (u0 : Int) := ⟨_, (Int.toNat_of_nonneg nr0).symm⟩
        obtain ⟨t0, ht⟩ : ∃ t0 : Nat, MF.far ds st = (t0 : Int) := ⟨_, (Int.toNat_of_nonneg fr0).symm⟩
        have u0n : u0 < n := by omega
        have t0n : t0 < n := by omega
        obtain ⟨r0, hr0⟩ : ∃ r0, rs[u0]? = some r0 := ⟨_, List.getElem?_eq_getElem (by omega)⟩
        have hr0m := List.mem_of_getElem? hr0
        have eD : H3 D = some (.lst (rs.map V.ref)) := s3 _ _ (b D _ (fun z => rD D z rfl) (s2 _ _ e))
        have er0 := s3 _ _ (tb u0 r0 hr0)
        have eg1 : (MF.gate ds st).1 = (u0 : Int) := hu
        have eg2 : (MF.gate ds st).2.2.1 = (t0 : Int) := ht
        refine ⟨_, rfl, _, rfl, D, rs.map V.ref, (MF.gate ds st).1, V.ref r0, rfl, rfl, .inl (.inl eD), ?_, _, rfl, r0, _, t0, V.int (tabP ds ((MF.allSteps ds).take i) u0 t0), rfl, ?_, .inl (.inl er0), ?_, _, rfl, _, rfl, _, _, rfl, rfl, r0, _, (MF.gate ds st).2.2.1, t0, rfl, rfl, er0, ?_, ?_⟩
        · rw [eg1]
          exact atI_nat (by rw [List.getElem?_map, hr0]; rfl)
        · show V.int _ = V.int _
          rw [eg2]
        · rw [List.getElem?_map, List.getElem?_range t0n]; rfl
        · rw [eg2]
          exact ixN_nat (by simpa using t0n)
        · have tk : (MF.allSteps ds).take (i + 1) = (MF.allSteps ds).take i ++ [st] := by
            rw [List.take_add_one, hst]; rfl
          refine ⟨_, _, _, _, _, _, rfl, fun c o hc ec => ?_, fun u r hr => ?_⟩
          · rw [upd_ne (fun z : c = r0 => hc (by rw [z]; exact hr0m))]
            exact s3 _ _ (b c o hc ec)
          · have step : ∀ u t, tabP ds ((MF.allSteps ds).take (i + 1)) u t = tabP ds ((MF.allSteps ds).take i) u t + if u0 = u ∧ t0 = t then MF.aux (MF.lv ds st) else 0 := by
              intro u t
              unfold tabP
              rw [tk, MS.ls_append, MS.ls_cons, MS.ls_nil, Int.add_zero, hu, ht]
              congr 1
              simp only [Int.natCast_inj]
            by_cases hru : r = r0
            · subst hru
              have : u0 = u := by
                have h1 := hr0.trans hr.symm
                exact (List.getElem?_inj (by omega) nd).mp h1
              subst this
              rw [upd_same]
              have e9 : (if (MF.gate ds st).2.1 < 0 then -(MF.gate ds st).2.1 else (MF.gate ds st).2.1) = MF.aux (MF.lv ds st) := aux_if _
              rw [e9, set_row t0n]
              congr 2
              apply List.map_congr_left
              intro t _
              rw [step]
              congr 2
              by_cases z : t = t0
              · subst z; simp
              · have : ¬ t0 = t := fun y => z y.symm
                simp [z, this]
            · rw [upd_ne hru]
              have : ¬ u0 = u := by
                intro z
                subst z
                rw [hr0] at hr
                cases hr
                exact hru rfl
              have h9 := s3 _ _ (tb u r hr)
              rw [h9]
              congr 2
              apply List.map_congr_left
              intro t _
              rw [step]
              simp [this]
    · rintro G2 σ' H' s2 ⟨x2, x3, x4, x5, x6, x7, rfl, b, tb⟩
      rw [List.length_map, List.take_length] at tb
      have sH : Same H H' := fun c o ec => b c o (fun hc => by rw [nH c hc] at ec; cases ec) (s2 _ _ (s1 _ _ ec))
      refine ⟨_, rfl, q _ H' sH ⟨D, rs.map V.ref, rfl, b D _ (fun z => rD D z rfl) (s2 _ _ e), ?_⟩⟩
      have := TB.ll (T := MF.tab ds) (n := n) (rs := rs) (H := H') 0 (fun u r hr => by rw [Nat.zero_add]; exact tb u r hr)
      rw [l] at this
      simpa [tabL] using this
end
end Kw

set_option Elab.async false
set_option linter.all false
set_option maxRecDepth 100000
set_option maxHeartbeats 4000000
/-! Lines of feet. -/
namespace Kw
open PySem PySem.Spec PyProof.Rows L2 Y
local macro_rules | `(tactic| trivial) => `(tactic| first
  | with_reducible exact ev_int
  | with_reducible exact ev_bl
  | with_reducible exact ev_non
  | with_reducible exact ea_nil
  | with_reducible exact et_yes
  | ((with_reducible apply ev_var); exact rfl; first | exact .num _ | exact .bl _ | exact .non | assumption)
  | ((with_reducible apply ea_cons); trivial; trivial)
  | ((with_reducible apply ev_tup); trivial; first | decide | (show _ ≤ sizeLine; simp; decide))
  | ((with_reducible apply ev_ix0); trivial; trivial; exact rfl)
  | ((with_reducible apply ev_ix1); trivial; trivial; exact rfl)
  | ((with_reducible apply ev_ix2); trivial; trivial; exact rfl)
  | ((with_reducible apply ev_ix3); trivial; trivial; exact rfl)
  | ((with_reducible apply ev_opI); trivial; trivial)
  | ((with_reducible apply ev_opB); trivial; trivial)
  | ((with_reducible apply ev_eqI); trivial; trivial)
  | ((with_reducible apply ev_neI); trivial; trivial)
  | ((with_reducible apply ev_un); trivial)
  | ((with_reducible apply ev_chain); trivial; trivial; trivial)
  | ((with_reducible apply ev_abs); trivial)
  | ((with_reducible apply ev_intI); trivial)
  | ((with_reducible apply ev_gcd); trivial; trivial)
  | ((with_reducible apply ev_lenT); trivial)
  | ((with_reducible apply et_test); trivial)
  | ((with_reducible apply et_B); trivial)
  | ((with_reducible apply et_not); trivial)
  | ((with_reducible apply et_and); trivial; (intro _; trivial))
  | ((with_reducible apply et_or); trivial; (intro _; trivial))
  | ((with_reducible apply ev_andV); trivial; (intro _; trivial))
  | ((with_reducible apply ev_orV); trivial; (intro _; trivial))
  | ((with_reducible apply ev_notV); trivial)
  | ((with_reducible apply ev_isN); trivial)
  | ((with_reducible apply ev_notN); trivial)
  | ((with_reducible apply ev_isiII); trivial)
  | ((with_reducible apply ev_isiIB); trivial)
  | ((with_reducible apply ev_isiTT); trivial)
  | ((with_reducible apply ev_isH); trivial))
def rowL (n : Nat) (S : Nat → Int) : List Int := (List.range n).map S
def tblL (n : Nat) (T : Nat → Nat → Int) : List (List Int) := (List.range n).map fun u => rowL n (T u)
theorem rowL_get {n u : Nat} {S : Nat → Int} (h : u < n) : (rowL n S)[u]? = some (S u) := by unfold rowL; rw [List.getElem?_map, List.getElem?_range h]; rfl
theorem tblL_get {n u : Nat} {T : Nat → Nat → Int} (h : u < n) : (tblL n T)[u]? = some (rowL n (T u)) := by unfold tblL; rw [List.getElem?_map, List.getElem?_range h]; rfl
theorem rowL_len (n : Nat) (S : Nat → Int) : (rowL n S).length = n := by simp [rowL]
theorem tblL_len (n : Nat) (T : Nat → Nat → Int) : (tblL n T).length = n := by simp [tblL]
def nextF (n : Nat) (T : Nat → Nat → Int) (S Lf Af : Nat → Int) (len : Nat) (t : Nat) : Int := (MS.ls (List.range n) fun u => Lf u * T u t) - (if 0 < len then Af t * (S t - if 1 < len then 1 else 0) else 0)
theorem ls_bd {α : Type} (c : Int) (f : α → Int) : ∀ {l : List α}, (∀ a ∈ l, 0 ≤ f a ∧ f a ≤ c) → 0 ≤ MS.ls l f ∧ MS.ls l f ≤ l.length * c
  | [], _ => by simp
  | a :: l, h => by
    have h1 := h a (by simp)
    have h2 := ls_bd c f (l := l) fun b hb => h b (by simp [hb])
    rw [MS.ls_cons, List.length_cons, Int.natCast_succ, Int.add_mul, Int.one_mul]
    omega
theorem tab_bd {rooms : Int} {ds : List Door} (hw : HW rooms ds) (u t : Nat) : 0 ≤ MF.tab ds u t ∧ MF.tab ds u t ≤ 480 := by
  have h := ls_bd 60 (fun s => if MF.near ds s = (u : Int) ∧ MF.far ds s = (t : Int) then MF.aux (MF.lv ds s) else 0) (l := MF.allSteps ds) (fun s hs => by
    have a1 := MF.aux_nn (MF.lv ds s)
    have a2 : MF.aux (MF.lv ds s) ≤ 60 := by have := (hw.lv hs).2.1; unfold MF.aux; omega
    split
    · exact ⟨a1, a2⟩
    · exact ⟨Int.le_refl _, by decide⟩)
  have al : (MF.allSteps ds).length ≤ 8 := by
    have : ∀ n, ((List.range n).flatMap fun a => [(a, 0), (a, 1)] : List MF.Step).length = 2 * n := by
      intro n
      induction n with
      | zero => rfl
      | succ n ih => rw [List.range_succ, List.flatMap_append, List.length_append, ih]; simp; omega
    unfold MF.allSteps
    rw [this]; have := hw.d4; omega
  refine ⟨h.1, Int.le_trans h.2 ?_⟩
  omega
theorem siz_bd {rooms : Int} {ds : List Door} (hw : HW rooms ds) {n : Nat} (hn : n ≤ 12) (u : Nat) : 0 ≤ MF.siz ds n u ∧ MF.siz ds n u ≤ 5760 := by
  have h := ls_bd 480 (MF.tab ds u) (l := List.range n) (fun t _ => tab_bd hw u t)
  rw [List.length_range] at h
  refine ⟨h.1, Int.le_trans h.2 ?_⟩
  omega
section
variable {P : Program} {w : World} {K : PySem.W.Frag} {mg : Str → Option Value} {base : Heap} {C : Addr}
theorem sc_sizes_of_rooms : FnScope ["table", "row"] ["table"] (defScope s_sizes_of_rooms) := ⟨rfl, rfl, rfl, by decide +kernel, rfl, by decide +kernel, by decide +kernel⟩
abbrev sp_sizes_of_rooms : Sp := pSp (fun (rows : List (List Int)) vs H => (∃ v, vs = [v] ∧ LL rows H v) ∧ rows.length ≤ 1000) (fun rows H v => IL (rows.map List.sum) H v)
theorem ok_sizes_of_rooms (F : Df K mg "sizes_of_rooms" s_sizes_of_rooms) (B : Bi K mg C) : Cl P w K mg base "sizes_of_rooms" 1 ["table"] sp_sizes_of_rooms := by
  refine F.cl sc_sizes_of_rooms (fun _ _ _ _ _ _ us hl => match us, hl with | [_], _ => rfl) (fun vs H Q E h => ?_) (fun f cdv A outer s H vs Q E hr h => ?_)
  · obtain ⟨i, ⟨⟨v, rfl, _⟩, _⟩, _⟩ := h; rfl
  · obtain ⟨rows, ⟨⟨v, rfl, ll⟩, hl⟩, q⟩ := h
    obtain ⟨a, vs, rfl, ha, pr⟩ := ll
    have vl : vs.length = rows.length := Paired.length pr
    refine ⟨_, (pss_one (ps_ret (pe_lc (own := [("row", 1)]) (tt := tYes) (te := tCB (rSum K) _) rfl sc_sizes_of_rooms.nd (pi_list (pv 0)) (blkOk_by (own := [("row", 1)]) (N := ["table", "row"]) (sc := defScope s_sizes_of_rooms) (by decide +kernel)) (fun _ _ _ _ _ => (pg_name (i := 1) sc_sizes_of_rooms.nd rfl (by first | exact Or.inl rfl | exact Or.inr rfl))) (fun _ _ _ _ _ => pts_nil) (fun _ _ _ _ _ => (pe_callB (cr_sum rfl) (by rfl) B.sum (by decide +kernel) (pa_cons (pv 1) pa_nil)))))), ?_⟩
    refine ⟨_, rfl, a, rfl, ⟨vs, .inl (.inl ha)⟩, fun D hD => ?_⟩
    refine ⟨fun i m H' => m = rows.length - i ∧ i ≤ rows.length ∧ Same H H' ∧ H' D = some (.lst (((rows.take i).map List.sum).map V.int)), ⟨_, rfl, Nat.zero_le _, Same.new hD, upd_same⟩, ?_⟩
    rintro i m H' ⟨rfl, hi, s, e⟩
    have ha' := s _ _ ha
    by_cases hlt : i < rows.length
    · obtain ⟨row, hrow⟩ : ∃ row, rows[i]? = some row := ⟨_, List.getElem?_eq_getElem hlt⟩
      obtain ⟨x, hx, ra, rfl, hra⟩ := pil_get pr hrow
      refine .inr ⟨⟨vs, _, .inl (.inl ha'), hx⟩, fun H' => Same H H' ∧ H' D = some (.lst (((rows.take (i + 1)).map List.sum).map V.int)), fun H3 q3 => ⟨_, by omega, rfl, hlt, q3⟩, ?_⟩
      rintro y H3 ⟨rfl, hy⟩
      have := hy vs (.inl (.inl ha'))
      rw [hx] at this
      cases this
      refine ⟨rfl, ?_⟩
      unfold tYes
      refine iteT ⟨_, rfl, ra, row, rfl, .inl (.inl (s _ _ hra)), _, e, ?_, Same.put s hD, ?_⟩
      · exact small_lt (m := 2000) (by simp; omega) (by omega)
      · rw [upd_same, List.take_add_one, hrow]
        simp
    · have : i = rows.length := by omega
      subst this
      refine .inl ⟨⟨vs, .inl (.inl ha'), by rw [vl]; exact Nat.le_refl _⟩, ?_⟩
      rw [List.take_length] at e
      exact q _ H' s ⟨D, rfl, e⟩
theorem sc_next_line : FnScope ["table", "sizes", "line", "ahead", "length", "found", "room", "come", "there", "lost"] ["table", "sizes", "line", "ahead", "length"] (defScope s_next_line) := ⟨rfl, rfl, rfl, by decide +kernel, rfl, by decide +kernel, by decide +kernel⟩
structure NL where
  n : Nat
  T : Nat → Nat → Int
  S : Nat → Int
  Lf : Nat → Int
  Af : Nat → Int
  len : Nat
structure NL.Pre (x : NL) (vs : List V) (H : Hp) : Prop where
  ex : ∃ v0 v1 v2 v3, vs = [v0, v1, v2, v3, .int x.len] ∧ LL (tblL x.n x.T) H v0 ∧ IL (rowL x.n x.S) H v1 ∧ IL (rowL x.n x.Lf) H v2 ∧ IL (rowL x.n x.Af) H v3
  n12 : x.n ≤ 12
  bT : ∀ u t, 0 ≤ x.T u t ∧ x.T u t ≤ 480
  bS : ∀ u, 0 ≤ x.S u ∧ x.S u ≤ 5760
abbrev sp_next_line : Sp := pSp NL.Pre (fun x H v => IL (rowL x.n (nextF x.n x.T x.S x.Lf x.Af x.len)) H v)
theorem ok_next_line (F : Df K mg "next_line" s_next_line) (B : Bi K mg C) : Cl P w K mg base "next_line" 1 ["table", "sizes", "line", "ahead", "length"] sp_next_line := by
  refine F.cl sc_next_line (fun _ _ _ _ _ _ us hl => match us, hl with | [_, _, _, _, _], _ => rfl) (fun vs H Q E h => ?_) (fun f cdv A outer s H vs Q E hr h => ?_)
  · obtain ⟨i, ⟨⟨v0, v1, v2, v3, rfl, _⟩, _⟩, _⟩ := h; rfl
  · obtain ⟨⟨n, T, S, Lf, Af, len⟩, ⟨⟨v0, v1, v2, v3, rfl, l0, l1, l2, l3⟩, n12, bT, bS⟩, q⟩ := h
    dsimp only at l0 l1 l2 l3 n12 bT bS q
    refine ⟨_, (pss_cons (ps_set (i := 5) sc_next_line.nd rfl (by first | exact Or.inl rfl | exact Or.inr rfl) (pe_lst pa_nil))
      (pss_cons (ps_for PassesOwn.never rfl (pi_range1 (by rfl) B.range (pa_cons (pe_callB call_lenS (by rfl) B.len (by decide +kernel) (pa_cons (pv 0) pa_nil)) pa_nil)) (pg_name (i := 6) sc_next_line.nd rfl (by first | exact Or.inl rfl | exact Or.inr rfl)) (pss_cons (ps_set (i := 7) sc_next_line.nd rfl (by first | exact Or.inl rfl | exact Or.inr rfl) (pe_callB (cr_sum rfl) (by rfl) B.sum (by decide +kernel) (pa_cons (pe_lc (own := [("there", 8)]) (tt := tYes) (te := tOp _ (tOp (rIxL K) _ _) (tOp (rIxL K) (tOp (rIxL K) _ _) _)) rfl sc_next_line.nd (pi_range1 (by rfl) B.range (pa_cons (pe_callB call_lenS (by rfl) B.len (by decide +kernel) (pa_cons (pv 0) pa_nil)) pa_nil)) (blkOk_by (own := [("there", 8)]) (N := ["table", "sizes", "line", "ahead", "length", "found", "room", "come", "there", "lost"]) (sc := defScope s_next_line) (by decide +kernel)) (fun _ _ _ _ _ => (pg_name (i := 8) sc_next_line.nd rfl (by first | exact Or.inl rfl | exact Or.inr rfl))) (fun _ _ _ _ _ => pts_nil) (fun _ _ _ _ _ => (pe_op op_mul (pe_ix ix_list (pv 2) (pv 8) (fun _ _ => rfl)) (pe_ix ix_list (pe_ix ix_list (pv 0) (pv 8) (fun _ _ => rfl)) (pv 6) (fun _ _ => rfl))))) pa_nil)))
      (pss_cons (ps_set (i := 9) sc_next_line.nd rfl (by first | exact Or.inl rfl | exact Or.inr rfl) (pe_ifExp (pt_cmpR op_gt (pv 4) pe_int (nomark _)) (pe_op op_mul (pe_ix ix_list (pv 3) (pv 6) (fun _ _ => rfl)) (pe_op op_sub (pe_ix ix_list (pv 1) (pv 6) (fun _ _ => rfl)) (pe_ifExp (pt_cmpR op_gt (pv 4) pe_int (nomark _)) pe_int pe_int))) pe_int))
      (pss_one (ps_expr (pe_bm PySem.F.plainAttrs_list PySem.F.slot_list_append PySem.F.type_list_append mt_append (pv 5) (pa_cons (pe_op op_sub (pv 7) (pv 9)) pa_nil)))))))
      (pss_one (ps_ret (pv 5))))), ?_⟩
    apply st_setL (C := C) (ds := [])
    · apply evl_lst
      · trivial
      · exact Nat.zero_le _
    intro a vs0 H1 s1 hn ha r0
    cases tpa_nil r0
    refine st_for (C := C) (wi := _) (ei_rng1 (n := n) (C := C) ?_ (by omega)) (fun G i σ' H' => ∃ vs x6 x7 x8 x9, σ' = [some v0, some v1, some v2, some v3, some (.int (len : Int)), some (.ref a), x6, x7, x8, x9] ∧ Gr C a G H' vs (((List.range i).map (nextF n T S Lf Af len)).map D.num)) ?_ ?_ ?_ ?_
    · apply ea_cons
      · have := ev_lenLL (C := C) (K := K) (evp_ll (i := 0) (σ := [some v0, some v1, some v2, some v3, some (.int (len : Int)), some (.ref a), none, none, none, none]) rfl (l0.same s1))
        rw [tblL_len] at this
        exact this
      · trivial
    · intro G sG
      exact ⟨[], none, none, none, none, rfl, Gr.start (sG _ _ ha) .nil⟩
    · rintro G i σ' H' sG ⟨vs, x6, x7, x8, x9, rfl, g⟩
      exact g.keeps (H := H1) (Fk := []) (sG _ _ ha) (by rw [ha]; simp) (by simp)
    · rintro G i d x σ' H' sG hi ⟨vs, x6, x7, x8, x9, rfl, g⟩ tx
      obtain ⟨hi2, rfl⟩ := rng_item hi
      cases tp_num tx
      refine ⟨_, gb_name, ?_⟩
      have sH : Same H H' := (g.re (Same.but sG)).back s1 hn
      have l0' := l0.same sH
      have l1' := l1.same sH
      have l2' := l2.same sH
      have l3' := l3.same sH
      apply st_set (C := C) (d := .num (MS.ls (List.range n) fun u => Lf u * T u i))
      · apply ev_sum (C := C) (ns := (List.range n).map fun u => Lf u * T u i)
        · refine evl_lc (C := C) (keep := fun d => match d with | .num u => some (.num (Lf u.toNat * T u.toNat i)) | _ => none) (h := ei_rng1 (n := n) (C := C) ?_ (by omega)) ?_ ?_
          · apply ea_cons
            · have := ev_lenLL (C := C) (K := K) (evp_ll (i := 0) (σ := [some v0, some v1, some v2, some v3, some (.int (len : Int)), some (.ref a), some (.int (i : Int)), x7, x8, x9]) rfl l0')
              rw [tblL_len] at this
              exact this
            · trivial
          · intro d x H2 hd s2 tx
            obtain ⟨u, hu, rfl⟩ := List.mem_map.mp hd
            have hun : u < n := List.mem_range.mp hu
            cases tp_num tx
            refine ⟨_, gb_name, rfl, et_yes, fun z hz => ?_⟩
            have hz : D.num (Lf u * T u i) = z := by simpa using hz
            subst hz
            apply ev_mulR
            · exact ev_ixL (i := u) (evp_il rfl (l2'.same s2)) (ev_var rfl (.num _)) (rowL_get hun)
            · exact ev_ixL (i := i) (evp_ixLL (C := C) (i := u) (evp_ll rfl (l0'.same s2)) (ev_var rfl (.num _)) (tblL_get hun)) (ev_var rfl (.num _)) (rowL_get hi2)
            · have := bT u i; omega
          · rw [List.length_map, List.length_range]; exact small_len (m := 12) n12 (by omega)
        · rw [List.filterMap_map, List.map_map]
          rw [show ((fun d => match d with | D.num u => some (D.num (Lf u.toNat * T u.toNat i)) | _ => none) ∘ fun k : Nat => D.num (k : Int)) = fun k : Nat => some (D.num (Lf k * T k i)) from by funext k; simp]
          rw [List.filterMap_eq_map']
          rfl
      · intro vc H2 s2 tc
        cases tp_num tc
        apply st_set (C := C) (d := .num (if 0 < len then Af i * (S i - if 1 < len then 1 else 0) else 0))
        · apply ev_if (C := C) (b := decide (0 < (len : Int)))
          · apply et_test (C := C)
            apply ev_opB (g := fun i j => decide (j < i))
            · trivial
            · trivial
          · intro hb
            have hb : 0 < (len : Int) := of_decide_eq_true hb
            rw [if_pos (by omega)]
            apply ev_mulR
            · exact ev_ixL (i := i) (evp_il rfl (l3'.same s2)) (ev_var rfl (.num _)) (rowL_get hi2)
            · apply ev_opI (g := fun i j => i - j)
              · exact ev_ixL (i := i) (evp_il rfl (l1'.same s2)) (ev_var rfl (.num _)) (rowL_get hi2)
              · have e : (D.num (if 1 < len then 1 else 0)) = if decide (1 < (len : Int)) = true then D.num 1 else D.num 0 := by
                  by_cases h : 1 < len
                  · rw [if_pos h, if_pos (decide_eq_true (by omega))]
                  · rw [if_neg h, if_neg (by rw [decide_eq_false (by omega)]; decide)]
                rw [e]
                apply ev_if2
                · apply et_test (C := C)
                  apply ev_opB (g := fun i j => decide (j < i))
                  · trivial
                  · trivial
                · trivial
                · trivial
            · have := bS i
              split <;> omega
          · intro hb
            have hb : ¬ 0 < (len : Int) := of_decide_eq_false hb
            rw [if_neg (by omega)]
            trivial
        · intro vl H3 s3 tl
          cases tp_num tl
          have s23 := Same.trans s2 s3
          apply st_app1 (C := C) (d := .num (nextF n T S Lf Af len i)) (hv := rfl) (ha := s23 _ _ g.2.1)
          · rw [g.len]; exact small_lt (m := 100) (by simp; omega) (by omega)
          · exact ev_opI (g := fun i j => i - j) (by trivial) (by trivial)
          · intro v4 H4 s4 t4
            refine ⟨vs ++ [v4], _, _, _, _, rfl, ?_⟩
            rw [List.range_succ, List.map_append, List.map_append]
            exact (g.same s23).app s4 t4
    · rintro G σ' H' sG ⟨vs, x6, x7, x8, x9, rfl, g⟩
      rw [List.length_map, List.length_range] at g
      refine ⟨_, rfl, q _ H' ((g.re (Same.but sG)).back s1 hn) ⟨a, rfl, ?_⟩⟩
      rw [g.2.1, nums_of g.2.2]
      rfl
end
end Kw

set_option Elab.async false
set_option linter.all false
set_option maxRecDepth 100000
set_option maxHeartbeats 4000000
/-! Feet counted by lines. -/
namespace Kw
open PySem PySem.Spec PyProof.Rows L2 Y
local macro_rules | `(tactic| trivial) => `(tactic| first
  | with_reducible exact ev_int
  | with_reducible exact ev_bl
  | with_reducible exact ev_non
  | with_reducible exact ea_nil
  | with_reducible exact et_yes
  | ((with_reducible apply ev_var); exact rfl; first | exact .num _ | exact .bl _ | exact .non | assumption)
  | ((with_reducible apply ea_cons); trivial; trivial)
  | ((with_reducible apply ev_tup); trivial; first | decide | (show _ ≤ sizeLine; simp; decide))
  | ((with_reducible apply ev_ix0); trivial; trivial; exact rfl)
  | ((with_reducible apply ev_ix1); trivial; trivial; exact rfl)
  | ((with_reducible apply ev_ix2); trivial; trivial; exact rfl)
  | ((with_reducible apply ev_ix3); trivial; trivial; exact rfl)
  | ((with_reducible apply ev_opI); trivial; trivial)
  | ((with_reducible apply ev_opB); trivial; trivial)
  | ((with_reducible apply ev_eqI); trivial; trivial)
  | ((with_reducible apply ev_neI); trivial; trivial)
  | ((with_reducible apply ev_un); trivial)
  | ((with_reducible apply ev_chain); trivial; trivial; trivial)
  | ((with_reducible apply ev_abs); trivial)
  | ((with_reducible apply ev_intI); trivial)
  | ((with_reducible apply ev_gcd); trivial; trivial)
  | ((with_reducible apply ev_lenT); trivial)
  | ((with_reducible apply et_test); trivial)
  | ((with_reducible apply et_B); trivial)
  | ((with_reducible apply et_not); trivial)
  | ((with_reducible apply et_and); trivial; (intro _; trivial))
  | ((with_reducible apply et_or); trivial; (intro _; trivial))
  | ((with_reducible apply ev_andV); trivial; (intro _; trivial))
  | ((with_reducible apply ev_orV); trivial; (intro _; trivial))
  | ((with_reducible apply ev_notV); trivial)
  | ((with_reducible apply ev_isN); trivial)
  | ((with_reducible apply ev_notN); trivial)
  | ((with_reducible apply ev_isiII); trivial)
  | ((with_reducible apply ev_isiIB); trivial)
  | ((with_reducible apply ev_isiTT); trivial)
  | ((with_reducible apply ev_isH); trivial))
theorem st_par2 {ta tb : TE} {rest : TS} {Ds : Ends} {σ : L2.St} {H : Hp} {i j : Nat} (h : ta σ H fun v H1 => tb σ H1 fun w H2 => ∃ v' w', [v, w] = [v', w'] ∧ rest Ds ((σ.set i (some v')).set j (some w')) H2) : tSeq (tPar i j (tCons ta (tCons tb tNil))) rest Ds σ H := h
theorem st_setP {te : TE} {rest : TS} {Ds : Ends} {σ : L2.St} {H : Hp} {i : Nat} {Pr : Hp → V → Prop} (h : EvP te σ H Pr) (k : ∀ v H2, Same H H2 → Pr H2 v → rest Ds (σ.set i (some v)) H2) : tSeq (tAsg te (gName i)) rest Ds σ H := h H (Same.refl _) _ k
theorem st_setP1 {te : TE} {Ds : Ends} {σ : L2.St} {H : Hp} {i : Nat} {Pr : Hp → V → Prop} (h : EvP te σ H Pr) (k : ∀ v H2, Same H H2 → Pr H2 v → Ds.nx (σ.set i (some v)) H2) : tAsg te (gName i) Ds σ H := h H (Same.refl _) _ k
theorem evl_lst1 {C : Addr} {te : TE} {σ : L2.St} {H : Hp} {ds : List D} (h : EvL C te σ H ds) (Q : VK) (q : ∀ l vs0 H3, Same H H3 → H l = none → H3 l = some (.lst vs0) → TpA C H3 vs0 ds → ∀ a, H3 a = none → Q (.ref a) (upd H3 a (.lst [.ref l]))) : tLst (tCons te tNil) σ H Q := h H (Same.refl _) _ fun l vs0 H3 s3 hn h3 r3 => ⟨Nat.succ_le_of_lt (by rw [sizeLine_eq]; decide), fun a ha => q l vs0 H3 s3 hn h3 r3 a ha⟩
def rowsN (ds : List Door) (n r0 k : Nat) : List (List Int) := (List.range k).map fun l => rowL n (MF.NN ds n r0 l)
theorem rowsN_get {ds : List Door} {n r0 k l : Nat} (h : l < k) : (rowsN ds n r0 k)[l]? = some (rowL n (MF.NN ds n r0 l)) := by unfold rowsN; rw [List.getElem?_map, List.getElem?_range h]; rfl
theorem rowsN_len (ds : List Door) (n r0 k : Nat) : (rowsN ds n r0 k).length = k := by simp [rowsN]
theorem NN_next (ds : List Door) (n r0 k t : Nat) : MF.NN ds n r0 (k + 1) t = nextF n (MF.tab ds) (MF.siz ds n) (MF.NN ds n r0 k) (MF.NN ds n r0 (k - 1)) k t := by
  cases k with
  | zero => simp [MF.NN, nextF]
  | succ l =>
    show _ = (MS.ls (List.range n) fun u => MF.NN ds n r0 (l + 1) u * MF.tab ds u t) - (if 0 < l + 1 then MF.NN ds n r0 l t * (MF.siz ds n t - if 1 < l + 1 then 1 else 0) else 0)
    rw [if_pos (Nat.succ_pos l)]
    show (MS.ls (List.range n) fun u => MF.NN ds n r0 (l + 1) u * MF.tab ds u t) - MF.NN ds n r0 l t * (MF.siz ds n t - if l = 0 then 0 else 1) = _
    congr 3
    by_cases h : l = 0
    · subst h; rfl
    · rw [if_neg h, if_pos (by omega)]
/-- lists of rows, none of them the list itself -/
def PL (H : Hp) (a : Addr) (vs : List V) (rows : List (List Int)) : Prop := Paired (fun v r => IL r H v ∧ v ≠ .ref a) vs rows
theorem PL.pil {H : Hp} {a : Addr} : ∀ {vs : List V} {rows : List (List Int)}, PL H a vs rows → Paired (fun v r => IL r H v) vs rows
  | _, _, .nil => .nil
  | _, _, .cons x y => .cons x.1 (PL.pil y)
theorem PL.but {H H' : Hp} {a : Addr} (b : But a H H') : ∀ {vs : List V} {rows : List (List Int)}, PL H a vs rows → PL H' a vs rows
  | _, _, .nil => .nil
  | _, _, .cons x y => .cons ⟨let ⟨⟨r, e, h⟩, ne⟩ := x; ⟨r, e, b _ _ (fun z => ne (by rw [e, z])) h⟩, x.2⟩ (PL.but b y)
theorem PL.snoc {H : Hp} {a : Addr} {v : V} {r : List Int} (h : IL r H v ∧ v ≠ .ref a) : ∀ {vs : List V} {rows : List (List Int)}, PL H a vs rows → PL H a (vs ++ [v]) (rows ++ [r])
  | _, _, .nil => .cons h .nil
  | _, _, .cons x y => .cons x (PL.snoc h y)
section
variable {P : Program} {w : World} {K : PySem.W.Frag} {mg : Str → Option Value} {base : Heap} {C : Addr}
theorem sc_lines_of : FnScope ["house", "room", "length", "table", "sizes", "lines", "there", "so_far", "ahead"] ["house", "room", "length"] (defScope s_lines_of) := ⟨rfl, rfl, rfl, by decide +kernel, rfl, by decide +kernel, by decide +kernel⟩
structure LO where
  rooms : Int
  ds : List Door
  n : Nat
  r0 : Nat
  L : Nat
structure LO.Pre (C : Addr) (x : LO) (vs : List V) (H : Hp) : Prop where
  ar : TpA C H vs [.hs x.rooms x.ds, .num (x.r0 : Int), .num (x.L : Int)]
  hw : HW x.rooms x.ds
  hn : x.rooms = (x.n : Int)
  hr : x.r0 < x.n
  hL : x.L ≤ 300
abbrev sp_lines_of (C : Addr) : Sp := pSp (LO.Pre C) (fun x H v => LL (rowsN x.ds x.n x.r0 (x.L + 1)) H v)
theorem ok_lines_of (F : Df K mg "lines_of" s_lines_of) (B : Bi K mg C) (h_rooms_table : Cl P w K mg base "rooms_table" 2 ["house"] (sp_rooms_table C)) (h_sizes_of_rooms : Cl P w K mg base "sizes_of_rooms" 1 ["table"] sp_sizes_of_rooms) (h_next_line : Cl P w K mg base "next_line" 1 ["table", "sizes", "line", "ahead", "length"] sp_next_line) : Cl P w K mg base "lines_of" 3 ["house", "room", "length"] (sp_lines_of C) := by
  refine F.cl sc_lines_of (fun _ _ _ _ _ _ us hl => match us, hl with | [_, _, _], _ => rfl) (fun vs H Q E h => ?_) (fun f cdv A outer s H vs Q E hr h => ?_)
  · obtain ⟨x, ⟨t, _⟩, _⟩ := h; exact t.length
  · obtain ⟨⟨rooms, ds, n, r0, L⟩, ⟨t, hw, hn, hr0, hL⟩, q⟩ := h
    dsimp only at t hw hn hr0 hL q
    obtain ⟨v, _, rfl, t1, t⟩ := tpa_cons t
    obtain ⟨_, _, rfl, t2, t⟩ := tpa_cons t
    obtain ⟨_, _, rfl, t3, t⟩ := tpa_cons t
    cases tpa_nil t; cases tp_num t2; cases tp_num t3
    have hn12 : n ≤ 12 := by have := hw.hk.r1; omega
    refine ⟨_, (pss_cons (ps_set (i := 3) sc_lines_of.nd rfl (by first | exact Or.inl rfl | exact Or.inr rfl) (pe_cl h_rooms_table (hr.mono (by decide)) (by rfl) (pa_cons (pv 0) pa_nil)))
      (pss_cons (ps_par (i := 4) (j := 5) (by rfl) sc_lines_of.nd rfl rfl (by decide) rfl rfl (pa_cons (pe_cl h_sizes_of_rooms (hr.mono (by decide)) (by rfl) (pa_cons (pv 3) pa_nil)) (pa_cons (pe_lst (pa_cons (pe_lc (own := [("there", 6)]) (tt := tYes)  rfl sc_lines_of.nd (pi_range1 (by rfl) B.range (pa_cons (pe_fld (pv 0) rfl) pa_nil)) (blkOk_by (own := [("there", 6)]) (N := ["house", "room", "length", "table", "sizes", "lines", "there", "so_far", "ahead"]) (sc := defScope s_lines_of) (by decide +kernel)) (fun _ _ _ _ _ => (pg_name (i := 6) sc_lines_of.nd rfl (by first | exact Or.inl rfl | exact Or.inr rfl))) (fun _ _ _ _ _ => pts_nil) (fun _ _ _ _ _ => (pe_ifExp (pt_cmpR op_eq (pv 6) (pv 1) (nomark _)) pe_int pe_int))) pa_nil)) pa_nil)) (by rfl))
      (pss_cons (ps_for PassesOwn.never rfl (pi_range1 (by rfl) B.range (pa_cons (pv 2) pa_nil)) (pg_name (i := 7) sc_lines_of.nd rfl (by first | exact Or.inl rfl | exact Or.inr rfl)) (pss_cons (ps_set (i := 8) sc_lines_of.nd rfl (by first | exact Or.inl rfl | exact Or.inr rfl) (pe_ifExp (pt_cmpR op_gt (pv 7) pe_int (nomark _)) (pe_ix ix_list (pv 5) (pe_un un_neg pe_int) (fun _ _ => rfl)) (pe_ix ix_list (pv 5) (pe_un un_neg pe_int) (fun _ _ => rfl))))
      (pss_one (ps_expr (pe_bm PySem.F.plainAttrs_list PySem.F.slot_list_append PySem.F.type_list_append mt_append (pv 5) (pa_cons (pe_cl h_next_line (hr.mono (by decide)) (by rfl) (pa_cons (pv 3) (pa_cons (pv 4) (pa_cons (pe_ix ix_list (pv 5) (pe_un un_neg pe_int) (fun _ _ => rfl)) (pa_cons (pv 8) (pa_cons (pv 7) pa_nil)))))) pa_nil))))))
      (pss_one (ps_ret (pv 5)))))), ?_⟩
    refine st_setP (evp_call (pre := fun (i : Int × List Door × Nat) vs H => TpA C H vs [.hs i.1 i.2.1] ∧ HW i.1 i.2.1 ∧ i.1 = (i.2.2 : Int)) (post := fun i H v => LL (tabL i.2.1 i.2.2) H v) (rooms, ds, n) ?_) ?_
    · exact fun H1 s1 Q' q' => ⟨_, rfl, q' _ H1 (Same.refl _) ⟨.cons (t1.same s1) .nil, hw, hn⟩⟩
    intro vt H1 s1 lt
    have lt : LL (tblL n (MF.tab ds)) H1 vt := lt
    have t1a := t1.same s1
    refine st_par2 ?_
    refine evp_call (pre := fun (rows : List (List Int)) vs H => (∃ v, vs = [v] ∧ LL rows H v) ∧ rows.length ≤ 1000) (post := fun rows H v => IL (rows.map List.sum) H v) (tblL n (MF.tab ds)) ?_ H1 (Same.refl _) _ fun vz H2 s2 lz => ?_
    · exact fun H2 s2 Q' q' => ⟨_, rfl, q' _ H2 (Same.refl _) ⟨⟨_, rfl, lt.same s2⟩, by rw [tblL_len]; omega⟩⟩
    have lz : IL (rowL n (MF.siz ds n)) H2 vz := by
      have e : (tblL n (MF.tab ds)).map List.sum = rowL n (MF.siz ds n) := by
        unfold tblL rowL
        rw [List.map_map]
        rfl
      rw [← e]; exact lz
    have lt2 := lt.same s2
    have t1b := t1a.same s2
    have ev0 : EvL C (tLc (iRng1 (tCons (tFld K (tVar 0) "rooms") tNil)) (gName 6) tYes (tIf (tTest (tOp rEq (tVar 6) (tVar 1))) (tC (.int 1)) (tC (.int 0))) [6]) [some v, some (.int (r0 : Int)), some (.int (L : Int)), some vt, none, none, none, none, none] H2 ((rowL n (MF.NN ds n r0 0)).map D.num) := by
      have e : (rowL n (MF.NN ds n r0 0)).map D.num = ((List.range n).map fun k => D.num ((k : Nat) : Int)).filterMap fun d => match d with | .num u => some (.num (if u = (r0 : Int) then 1 else 0)) | _ => none := by
        rw [List.filterMap_map]
        unfold rowL
        rw [List.map_map]
        rw [show ((fun d => match d with | D.num u => some (D.num (if u = (r0 : Int) then 1 else 0)) | _ => none) ∘ fun k : Nat => D.num (k : Int)) = fun k : Nat => some ((D.num ∘ MF.NN ds n r0 0) k) from by
          funext k
          show some (D.num (if (k : Int) = (r0 : Int) then 1 else 0)) = some (D.num (if k = r0 then 1 else 0))
          simp only [Int.natCast_inj]]
        rw [List.filterMap_eq_map']
      rw [e]
      refine evl_lc (C := C) (wi := iRng1 (tCons (tFld K (tVar 0) "rooms") tNil)) (g := gName 6) (tt := tYes) (te := tIf (tTest (tOp rEq (tVar 6) (tVar 1))) (tC (.int 1)) (tC (.int 0))) (vs := [6]) (σ := [some v, some (.int (r0 : Int)), some (.int (L : Int)), some vt, none, none, none, none, none]) (ei_rng1 (n := n) (C := C) ?_ (by omega)) _ ?_ ?_
      · rw [← hn]
        exact ea_cons (ev_rooms (ev_var rfl t1b) B.cl B.nr) ea_nil
      · intro d x H3 hd s3 tx
        obtain ⟨u, hu, rfl⟩ := List.mem_map.mp hd
        cases tp_num tx
        refine ⟨_, gb_name, rfl, et_yes, fun z hz => ?_⟩
        have hz : D.num (if (u : Int) = (r0 : Int) then 1 else 0) = z := by simpa using hz
        subst hz
        have e : D.num (if (u : Int) = (r0 : Int) then 1 else 0) = if decide ((u : Int) = (r0 : Int)) = true then D.num 1 else D.num 0 := by
          by_cases h : (u : Int) = (r0 : Int) <;> simp [h]
        rw [e]
        apply ev_if2
        · apply et_test (C := C)
          trivial
        · trivial
        · trivial
      · rw [List.length_map, List.length_range]; exact small_len (m := 12) hn12 (by omega)
    refine evl_lst1 ev0 _ fun l0 vs0 H3 s3 hn3 h3 r3 a ha => ⟨_, _, rfl, ?_⟩
    have s03 := Same.trans (Same.trans s1 s2) s3
    have il0 : IL (rowL n (MF.NN ds n r0 0)) H3 (.ref l0) := ⟨l0, rfl, by rw [h3, nums_of r3]⟩
    have lt3 := lt2.same s3
    have lz3 := lz.same s3
    have t1c := t1b.same s3
    have l0a : (V.ref l0) ≠ .ref a := fun z => by cases z; rw [h3] at ha; cases ha
    have pl0 : PL (upd H3 a (.lst [.ref l0])) a [.ref l0] (rowsN ds n r0 1) := .cons ⟨il0.same (Same.new ha), l0a⟩ .nil
    have s4 : Same H3 (upd H3 a (.lst [.ref l0])) := Same.new ha
    have ha4 : upd H3 a (.lst [.ref l0]) a = some (.lst [.ref l0]) := upd_same
    change tSeq (tFor _ _ _) _ _ [some v, some (.int (r0 : Int)), some (.int (L : Int)), some vt, some vz, some (.ref a), none, none, none] (upd H3 a (.lst [.ref l0]))
    generalize upd H3 a (.lst [.ref l0]) = H4 at pl0 s4 ha4 ⊢
    refine st_for (C := C) (wi := _) (ei_rng1 (n := L) (C := C) ?_ (by omega)) (fun G i σ' H' => ∃ vs y6 y7 y8, σ' = [some v, some (.int (r0 : Int)), some (.int (L : Int)), some vt, some vz, some (.ref a), y6, y7, y8] ∧ But a G H' ∧ H' a = some (.lst vs) ∧ PL H' a vs (rowsN ds n r0 (i + 1))) ?_ ?_ ?_ ?_
    · trivial
    · intro G sG
      exact ⟨_, none, none, none, rfl, But.refl _ _, sG _ _ ha4, PL.but (Same.but sG) pl0⟩
    · rintro G i σ' H' sG ⟨vs, y6, y7, y8, rfl, b, e, pl⟩
      refine ⟨b.stay (notImm_lst (sG _ _ ha4)), fun c o hc ec => b c o (fun z => ?_) ec⟩
      subst z
      rcases hc with hc | hc
      · rw [ha4] at hc; cases hc
      · exact nomatch hc
    · rintro G i d x σ' H' sG hi ⟨vs, y6, y7, y8, rfl, b, e, pl⟩ tx
      obtain ⟨hi2, rfl⟩ := rng_item hi
      cases tp_num tx
      refine ⟨_, gb_name, ?_⟩
      have s34 : Same H3 H' := fun c o ec => b c o (fun z => by rw [z, ha] at ec; cases ec) (sG _ _ (s4 _ _ ec))
      have lt4 := lt3.same s34
      have lz4 := lz3.same s34
      have llH : LL (rowsN ds n r0 (i + 1)) H' (.ref a) := ⟨a, vs, rfl, e, pl.pil⟩
      have last : ∀ {σ : L2.St} {H'' : Hp}, σ[5]? = some (some (.ref a)) → Same H' H'' → EvP (tOp (rIxL K) (tVar 5) (tUn (rU fun i => .int (-i)) (tC (.int 1)))) σ H'' (IL (rowL n (MF.NN ds n r0 i))) := by
        intro σ H'' hσ sx
        refine evp_ixNeg (C := C) (j := -1) (k := 0) (evp_ll hσ (llH.same sx)) (ev_un (g := fun i => -i) ev_int) rfl (by rw [rowsN_len]; omega) ?_
        rw [rowsN_len]
        exact rowsN_get (by omega)
      apply st_setP (Pr := IL (rowL n (MF.NN ds n r0 (i - 1))))
      · apply evp_if (b := decide (0 < (i : Int)))
        · apply et_test (C := C)
          apply ev_opB (g := fun i j => decide (j < i))
          · trivial
          · trivial
        · intro hb
          have hb : 0 < (i : Int) := of_decide_eq_true hb
          refine evp_ixNeg (C := C) (j := -2) (k := 1) (evp_ll rfl llH) (ev_un (g := fun i => -i) ev_int) rfl (by rw [rowsN_len]; omega) ?_
          rw [rowsN_len]
          rw [show i + 1 - 1 - 1 = i - 1 by omega]
          exact rowsN_get (by omega)
        · intro hb
          have hb : ¬ 0 < (i : Int) := of_decide_eq_false hb
          have : i = 0 := by omega
          subst this
          exact last rfl (Same.refl _)
      · intro va H5 s5 la
        have e5 := s5 _ _ e
        have n0 : vs.length = i + 1 := by have : vs.length = (rowsN ds n r0 (i + 1)).length := Paired.length pl; rw [this, rowsN_len]
        have evn : EvP (tCall sp_next_line [] E0 (tCons (tVar 3) (tCons (tVar 4) (tCons (tOp (rIxL K) (tVar 5) (tUn (rU fun i => .int (-i)) (tC (.int 1)))) (tCons (tVar 8) (tCons (tVar 7) tNil)))))) [some v, some (.int (r0 : Int)), some (.int (L : Int)), some vt, some vz, some (.ref a), y6, some (.int (i : Int)), some va] H5 (IL (rowL n (MF.NN ds n r0 (i + 1)))) := by
          have key := evp_call (pre := NL.Pre) (post := fun x H v => IL (rowL x.n (nextF x.n x.T x.S x.Lf x.Af x.len)) H v) (σ := [some v, some (.int (r0 : Int)), some (.int (L : Int)), some vt, some vz, some (.ref a), y6, some (.int (i : Int)), some va]) (H := H5) (as := tCons (tVar 3) (tCons (tVar 4) (tCons (tOp (rIxL K) (tVar 5) (tUn (rU fun i => .int (-i)) (tC (.int 1)))) (tCons (tVar 8) (tCons (tVar 7) tNil))))) ⟨n, MF.tab ds, MF.siz ds n, MF.NN ds n r0 i, MF.NN ds n r0 (i - 1), i⟩ (fun H6 s6 Q' q' => ⟨_, rfl, _, rfl, last rfl (Same.trans s5 s6) H6 (Same.refl _) _ fun vl H7 s7 ll => ⟨_, rfl, _, rfl, q' _ H7 s7 ⟨⟨vt, vz, vl, va, rfl, ((lt4.same s5).same s6).same s7, ((lz4.same s5).same s6).same s7, ll, (la.same s6).same s7⟩, hn12, fun u t => tab_bd hw u t, fun u => siz_bd hw hn12 u⟩⟩⟩)
          have er : rowL n (nextF n (MF.tab ds) (MF.siz ds n) (MF.NN ds n r0 i) (MF.NN ds n r0 (i - 1)) i) = rowL n (MF.NN ds n r0 (i + 1)) := by
            unfold rowL
            apply List.map_congr_left
            intro t _
            exact (NN_next ds n r0 i t).symm
          rw [← er]
          exact key
        refine ⟨_, rfl, .inl ⟨rfl, vs, .inl (.inl e5)⟩, ?_⟩
        refine evn H5 (Same.refl _) _ fun vn H6 s6 ln => ?_
        have e6 := s6 _ _ e5
        refine ⟨a, vs, vn, rfl, rfl, e6, small_lt (m := 1000) (by omega) (by omega), ?_⟩
        have vna : vn ≠ .ref a := by
          intro z
          obtain ⟨r, er, hr⟩ := ln
          rw [z] at er
          cases er
          rw [e6] at hr
          have hv : vs = (rowL n (MF.NN ds n r0 (i + 1))).map V.int := by
            injection hr with hr
            injection hr
          have h0 : ∃ r', vs[0]? = some (V.ref r') := by
            obtain ⟨x, hx, rr, ex, _⟩ := pil_get pl.pil (rowsN_get (ds := ds) (n := n) (r0 := r0) (show 0 < i + 1 by omega))
            exact ⟨rr, by rw [hx, ex]⟩
          obtain ⟨r', h0⟩ := h0
          rw [hv, List.getElem?_map] at h0
          cases h9 : (rowL n (MF.NN ds n r0 (i + 1)))[0]? with
          | none => rw [h9] at h0; cases h0
          | some z => rw [h9] at h0; cases h0
        refine ⟨vs ++ [vn], _, _, _, rfl, but_set (But.trans b (Same.but (Same.trans s5 s6))), upd_same, ?_⟩
        have r1 : rowsN ds n r0 (i + 1 + 1) = rowsN ds n r0 (i + 1) ++ [rowL n (MF.NN ds n r0 (i + 1))] := by
          unfold rowsN
          rw [List.range_succ, List.map_append]
          rfl
        rw [r1]
        exact PL.but but_up (PL.snoc ⟨ln, vna⟩ (PL.but (Same.but (Same.trans s5 s6)) pl))
    · rintro G σ' H' sG ⟨vs, y6, y7, y8, rfl, b, e, pl⟩
      rw [List.length_map, List.length_range] at pl
      have sH : Same H H' := fun c o ec => b c o (fun z => by have := s03 _ _ ec; rw [z, ha] at this; cases this) (sG _ _ (s4 _ _ (s03 _ _ ec)))
      exact ⟨_, rfl, q _ H' sH ⟨a, vs, rfl, e, pl.pil⟩⟩
end
end Kw

set_option Elab.async false
set_option linter.all false
set_option maxRecDepth 100000
set_option maxHeartbeats 4000000
/-! Feet to rooms; common divisors; factors. -/
namespace Kw
open PySem PySem.Spec PyProof.Rows L2 Y
local macro_rules | `(tactic| trivial) => `(tactic| first
  | with_reducible exact ev_int
  | with_reducible exact ev_bl
  | with_reducible exact ev_non
  | with_reducible exact ea_nil
  | with_reducible exact et_yes
  | ((with_reducible apply ev_var); exact rfl; first | exact .num _ | exact .bl _ | exact .non | assumption)
  | ((with_reducible apply ea_cons); trivial; trivial)
  | ((with_reducible apply ev_tup); trivial; first | decide | (show _ ≤ sizeLine; simp; decide))
  | ((with_reducible apply ev_ix0); trivial; trivial; exact rfl)
  | ((with_reducible apply ev_ix1); trivial; trivial; exact rfl)
  | ((with_reducible apply ev_ix2); trivial; trivial; exact rfl)
  | ((with_reducible apply ev_ix3); trivial; trivial; exact rfl)
  | ((with_reducible apply ev_opI); trivial; trivial)
  | ((with_reducible apply ev_opB); trivial; trivial)
  | ((with_reducible apply ev_eqI); trivial; trivial)
  | ((with_reducible apply ev_neI); trivial; trivial)
  | ((with_reducible apply ev_un); trivial)
  | ((with_reducible apply ev_chain); trivial; trivial; trivial)
  | ((with_reducible apply ev_abs); trivial)
  | ((with_reducible apply ev_intI); trivial)
  | ((with_reducible apply ev_gcd); trivial; trivial)
  | ((with_reducible apply ev_lenT); trivial)
  | ((with_reducible apply et_test); trivial)
  | ((with_reducible apply et_B); trivial)
  | ((with_reducible apply et_not); trivial)
  | ((with_reducible apply et_and); trivial; (intro _; trivial))
  | ((with_reducible apply et_or); trivial; (intro _; trivial))
  | ((with_reducible apply ev_andV); trivial; (intro _; trivial))
  | ((with_reducible apply ev_orV); trivial; (intro _; trivial))
  | ((with_reducible apply ev_notV); trivial)
  | ((with_reducible apply ev_isN); trivial)
  | ((with_reducible apply ev_notN); trivial)
  | ((with_reducible apply ev_isiII); trivial)
  | ((with_reducible apply ev_isiIB); trivial)
  | ((with_reducible apply ev_isiTT); trivial)
  | ((with_reducible apply ev_isH); trivial))
section
variable {P : Program} {w : World} {K : PySem.W.Frag} {mg : Str → Option Value} {base : Heap} {C : Addr}
theorem sc_feet_to : FnScope ["house", "room", "length"] ["house", "room", "length"] (defScope s_feet_to) := ⟨rfl, rfl, rfl, by decide +kernel, rfl, by decide +kernel, by decide +kernel⟩
abbrev sp_feet_to (C : Addr) : Sp := fnSp C (fun i : Int × List Door × Nat × Nat => [.hs i.1 i.2.1, .num (i.2.2.1 : Int), .num (i.2.2.2 : Int)]) (fun i => HW i.1 i.2.1 ∧ (i.2.2.1 : Int) < i.1 ∧ i.2.2.2 ≤ 300) (fun i => .tup ((rowL i.1.toNat (MF.NN i.2.1 i.1.toNat i.2.2.1 i.2.2.2)).map D.num))
theorem ok_feet_to (F : Df K mg "feet_to" s_feet_to) (B : Bi K mg C) (h_need_house : Cl P w K mg base "need_house" 1 ["house"] (sp_need_house C)) (h_need_room : Cl P w K mg base "need_room" 3 ["house", "room"] (sp_need_room C)) (h_need_length : Cl P w K mg base "need_length" 3 ["length"] (sp_need_length C))
    (h_lines_of : Cl P w K mg base "lines_of" 3 ["house", "room", "length"] (sp_lines_of C)) : Cl P w K mg base "feet_to" 4 ["house", "room", "length"] (sp_feet_to C) := by
  refine F.cl sc_feet_to (fun _ _ _ _ _ _ us hl => match us, hl with | [_, _, _], _ => rfl) (fun vs H Q E h => ?_) (fun f cdv A outer s H vs Q E hr h => ?_)
  · obtain ⟨i, t, _⟩ := h; exact t.length
  · obtain ⟨⟨rooms, ds, r0, L⟩, t, hp, q⟩ := h
    obtain ⟨v, _, rfl, t1, t⟩ := tpa_cons t
    obtain ⟨_, _, rfl, t2, t⟩ := tpa_cons t
    obtain ⟨_, _, rfl, t3, t⟩ := tpa_cons t
    cases tpa_nil t; cases tp_num t2; cases tp_num t3
    obtain ⟨hw, hr0, hL⟩ := hp
    dsimp only at hw hr0 hL t1 q ⊢
    have r0' := hw.hk.r0
    refine ⟨_, (pss_cons (ps_expr (pe_cl h_need_house (hr.mono (by decide)) (by rfl) (pa_cons (pv 0) pa_nil)))
      (pss_cons (ps_expr (pe_cl h_need_room (hr.mono (by decide)) (by rfl) (pa_cons (pv 0) (pa_cons (pv 1) pa_nil))))
      (pss_cons (ps_expr (pe_cl h_need_length (hr.mono (by decide)) (by rfl) (pa_cons (pv 2) pa_nil)))
      (pss_one (ps_ret (pe_callTy call_tuple_of (by rfl) B.tuple (by decide +kernel) (pa_cons (pe_ix ix_list (pe_cl h_lines_of (hr.mono (by decide)) (by rfl) (pa_cons (pv 0) (pa_cons (pv 1) (pa_cons (pv 2) pa_nil)))) (pv 2) (fun _ _ => rfl)) pa_nil))))))), ?_⟩
    apply st_drop (C := C) (e := .non)
    · apply ev_fn (rooms, ds)
      · exact ea_cons (ev_var rfl t1) ea_nil
      · rfl
      · exact True.intro
    intro H1 s1
    have t1a := t1.same s1
    apply st_drop (C := C) (e := .non)
    · apply ev_fn (rooms, ds, (r0 : Int))
      · exact ea_cons (ev_var rfl t1a) (by trivial)
      · rfl
      · exact ⟨by show 0 ≤ (r0 : Int); omega, hr0⟩
    intro H2 s2
    have t1b := t1a.same s2
    apply st_drop (C := C) (e := .non)
    · apply ev_fn (L : Int)
      · trivial
      · rfl
      · show 0 ≤ (L : Int) ∧ (L : Int) ≤ 300
        omega
    intro H3 s3
    have t1c := t1b.same s3
    have s03 := Same.trans (Same.trans s1 s2) s3
    refine st_ret' (C := C) (d := .tup ((rowL rooms.toNat (MF.NN ds rooms.toNat r0 L)).map D.num)) ?_ rfl fun v H6 s6 t6 => q v H6 (Same.trans s03 s6) t6
    apply ev_tupIL
    refine evp_ixLL (C := C) (i := L) (rows := rowsN ds rooms.toNat r0 (L + 1)) ?_ (ev_var rfl (.num _)) (rowsN_get (by omega))
    exact evp_call (pre := LO.Pre C) (post := fun x H v => LL (rowsN x.ds x.n x.r0 (x.L + 1)) H v) ⟨rooms, ds, rooms.toNat, r0, L⟩ (fun H6 s6 Q' q' => ⟨_, rfl, _, rfl, _, rfl, q' _ H6 (Same.refl _) ⟨.cons (t1c.same s6) (.cons (.num _) (.cons (.num _) .nil)), hw, by show rooms = (rooms.toNat : Int); omega, by show r0 < rooms.toNat; omega, hL⟩⟩)
theorem sc_feet_many : FnScope ["house", "room", "length"] ["house", "room", "length"] (defScope s_feet_many) := ⟨rfl, rfl, rfl, by decide +kernel, rfl, by decide +kernel, by decide +kernel⟩
abbrev sp_feet_many (C : Addr) : Sp := fnSp C (fun i : Int × List Door × Nat × Nat => [.hs i.1 i.2.1, .num (i.2.2.1 : Int), .num (i.2.2.2 : Int)]) (fun i => HW i.1 i.2.1 ∧ (i.2.2.1 : Int) < i.1 ∧ i.2.2.2 ≤ 300) (fun i => .num (MF.still i.2.1 (i.2.2.1 : Int) 0 i.2.2.2))
theorem ok_feet_many (F : Df K mg "feet_many" s_feet_many) (B : Bi K mg C) (h_feet_to : Cl P w K mg base "feet_to" 4 ["house", "room", "length"] (sp_feet_to C)) : Cl P w K mg base "feet_many" 5 ["house", "room", "length"] (sp_feet_many C) := by
  refine F.cl sc_feet_many (fun _ _ _ _ _ _ us hl => match us, hl with | [_, _, _], _ => rfl) (fun vs H Q E h => ?_) (fun f cdv A outer s H vs Q E hr h => ?_)
  · obtain ⟨i, t, _⟩ := h; exact t.length
  · obtain ⟨⟨rooms, ds, r0, L⟩, t, hp, q⟩ := h
    obtain ⟨v, _, rfl, t1, t⟩ := tpa_cons t
    obtain ⟨_, _, rfl, t2, t⟩ := tpa_cons t
    obtain ⟨_, _, rfl, t3, t⟩ := tpa_cons t
    cases tpa_nil t; cases tp_num t2; cases tp_num t3
    obtain ⟨hw, hr0, hL⟩ := hp
    dsimp only at hw hr0 hL t1 q ⊢
    have r0' := hw.hk.r0
    refine ⟨_, (pss_one (ps_ret (pe_callB (cr_sumT rfl) (by rfl) B.sum (by decide +kernel) (pa_cons (pe_cl h_feet_to (hr.mono (by decide)) (by rfl) (pa_cons (pv 0) (pa_cons (pv 1) (pa_cons (pv 2) pa_nil)))) pa_nil)))), ?_⟩
    have e : (rowL rooms.toNat (MF.NN ds rooms.toNat r0 L)).sum = MF.still ds (r0 : Int) 0 L := MF.NN_sum hw.ok (by omega) (by omega) L
    refine st_ret' (C := C) (d := .num (rowL rooms.toNat (MF.NN ds rooms.toNat r0 L)).sum) ?_ (by rw [e]) q
    apply ev_sumT
    apply ev_fn (rooms, ds, r0, L)
    · exact ea_cons (ev_var rfl t1) (by trivial)
    · rfl
    · exact ⟨hw, hr0, hL⟩
theorem sc__law_common : FnScope ["one", "other", "first", "second"] ["one", "other"] (defScope s__law_common) := ⟨rfl, rfl, rfl, by decide +kernel, rfl, by decide +kernel, by decide +kernel⟩
abbrev sp__law_common (C : Addr) : Sp := fnSp C (fun i : Int × Int => [.num i.1, .num i.2]) (fun _ => True) (fun i => .num (MF.gcdI i.1 i.2))
theorem ok__law_common (F : Df K mg "_law_common" s__law_common) (B : Bi K mg C) : Cl P w K mg base "_law_common" 1 ["one", "other"] (sp__law_common C) := by
  refine F.cl sc__law_common (fun _ _ _ _ _ _ us hl => match us, hl with | [_, _], _ => rfl) (fun vs H Q E h => ?_) (fun f cdv A outer s H vs Q E hr h => ?_)
  · obtain ⟨i, t, _⟩ := h; exact t.length
  · obtain ⟨⟨x, y⟩, t, _, q⟩ := h
    obtain ⟨_, _, rfl, t1, t⟩ := tpa_cons t
    obtain ⟨_, _, rfl, t2, t⟩ := tpa_cons t
    cases tpa_nil t; cases tp_num t1; cases tp_num t2
    refine ⟨_, (pss_cons (ps_par (i := 2) (j := 3) (by rfl) sc__law_common.nd rfl rfl (by decide) rfl rfl (pa_cons (pe_callB call_abs (by rfl) B.abs (by decide +kernel) (pa_cons (pv 0) pa_nil)) (pa_cons (pe_callB call_abs (by rfl) B.abs (by decide +kernel) (pa_cons (pv 1) pa_nil)) pa_nil)) (by rfl))
      (pss_cons (ps_while PassesOwn.never (pt_cmpR op_ne (pv 3) pe_int (nomark _)) (pss_one (ps_par (i := 2) (j := 3) (by rfl) sc__law_common.nd rfl rfl (by decide) rfl rfl (pa_cons (pv 3) (pa_cons (pe_op op_modN (pe_callTy call_int1 (by rfl) B.int (by decide +kernel) (pa_cons (pv 2) pa_nil)) (pv 3)) pa_nil)) (by rfl))))
      (pss_one (ps_ret (pv 2))))), ?_⟩
    refine ⟨_, rfl, x, rfl, _, rfl, y, rfl, _, _, rfl, ?_⟩
    refine ⟨fun m σ' H' => ∃ a b : Nat, σ' = [some (.int x), some (.int y), some (.int (a : Int)), some (.int (b : Int))] ∧ Same H H' ∧ Nat.gcd a b = Nat.gcd x.natAbs y.natAbs ∧ m = b, ⟨_, x.natAbs, y.natAbs, ?_, Same.refl _, rfl, rfl⟩, ?_⟩
    · rw [aux_if, aux_if]; rfl
    · rintro m σ' H' ⟨a, b, rfl, s, hg, hm⟩
      have tst : EvT (tTest (tOp rNe (tVar 3) (tC (.int 0)))) [some (.int x), some (.int y), some (.int (a : Int)), some (.int (b : Int))] H' (!decide ((b : Int) = 0)) := by
        apply et_test (C := C)
        trivial
      refine tst H' (Same.refl _) _ fun H2 s2 => ?_
      by_cases hb : (b : Int) = 0
      · rw [decide_eq_true hb]
        have : b = 0 := by omega
        subst this
        rw [Nat.gcd_zero_right] at hg
        refine iteF ⟨_, rfl, q _ H2 (Same.trans s s2) ?_⟩
        rw [hg]
        exact .num _
      · rw [decide_eq_false hb]
        refine iteT ⟨fun σ' H' => σ' = [some (.int x), some (.int y), some (.int (b : Int)), some (.int ((a % b : Nat) : Int))] ∧ Same H H', ?_, ?_⟩
        · rintro σ' H' ⟨rfl, s'⟩
          refine ⟨a % b, by rw [hm]; exact Nat.mod_lt _ (by omega), b, a % b, rfl, s', ?_, rfl⟩
          rw [← hg, Nat.gcd_comm a b, Nat.gcd_rec b a, Nat.gcd_comm]
        · have ev : EvD C (tOp (rI (fun _ j => j ≠ 0) fun i j => .int (Int.fmod i j)) (tCB (fun xs H Q => (∃ i, xs = [.int i] ∧ Q (.int i) H) ∨ ∃ k, xs = [.bl k] ∧ Q (.int (if k then 1 else 0)) H) (tCons (tVar 2) tNil)) (tVar 3)) [some (.int x), some (.int y), some (.int (a : Int)), some (.int (b : Int))] H2 (.num ((a : Int).fmod b)) := ev_fmod (ev_intI (by trivial)) (by trivial) hb
          refine ⟨_, rfl, ev H2 (Same.refl _) _ fun v3 H3 s3 t3 => ?_⟩
          cases tp_num t3
          refine ⟨_, _, rfl, ?_, Same.trans (Same.trans s s2) s3⟩
          rw [Int.fmod_eq_emod_of_nonneg _ (by omega)]
          rfl
end
end Kw

set_option Elab.async false
set_option linter.all false
set_option maxRecDepth 100000
set_option maxHeartbeats 4000000
/-! The state of the draws. -/
namespace Kw
open PySem PySem.Spec PyProof.Rows L2 Y
local macro_rules | `(tactic| trivial) => `(tactic| first
  | with_reducible exact ev_int
  | with_reducible exact ev_bl
  | with_reducible exact ev_non
  | with_reducible exact ea_nil
  | with_reducible exact et_yes
  | ((with_reducible apply ev_var); exact rfl; first | exact .num _ | exact .bl _ | exact .non | assumption)
  | ((with_reducible apply ea_cons); trivial; trivial)
  | ((with_reducible apply ev_tup); trivial; first | decide | (show _ ≤ sizeLine; simp; decide))
  | ((with_reducible apply ev_ix0); trivial; trivial; exact rfl)
  | ((with_reducible apply ev_ix1); trivial; trivial; exact rfl)
  | ((with_reducible apply ev_ix2); trivial; trivial; exact rfl)
  | ((with_reducible apply ev_ix3); trivial; trivial; exact rfl)
  | ((with_reducible apply ev_opI); trivial; trivial)
  | ((with_reducible apply ev_opB); trivial; trivial)
  | ((with_reducible apply ev_eqI); trivial; trivial)
  | ((with_reducible apply ev_neI); trivial; trivial)
  | ((with_reducible apply ev_un); trivial)
  | ((with_reducible apply ev_chain); trivial; trivial; trivial)
  | ((with_reducible apply ev_abs); trivial)
  | ((with_reducible apply ev_intI); trivial)
  | ((with_reducible apply ev_gcd); trivial; trivial)
  | ((with_reducible apply ev_lenT); trivial)
  | ((with_reducible apply et_test); trivial)
  | ((with_reducible apply et_B); trivial)
  | ((with_reducible apply et_not); trivial)
  | ((with_reducible apply et_and); trivial; (intro _; trivial))
  | ((with_reducible apply et_or); trivial; (intro _; trivial))
  | ((with_reducible apply ev_andV); trivial; (intro _; trivial))
  | ((with_reducible apply ev_orV); trivial; (intro _; trivial))
  | ((with_reducible apply ev_notV); trivial)
  | ((with_reducible apply ev_isN); trivial)
  | ((with_reducible apply ev_notN); trivial)
  | ((with_reducible apply ev_isiII); trivial)
  | ((with_reducible apply ev_isiIB); trivial)
  | ((with_reducible apply ev_isiTT); trivial)
  | ((with_reducible apply ev_isH); trivial))
def stK (g c : Addr) (l t : Int) : List (Key × V) := [(.inr "great", .ref g), (.inr "cells", .ref c), (.inr "left", .int l), (.inr "turn", .int t)]
theorem sne1 : ¬ (("great" : Str) = "cells") := by decide +kernel
theorem sne2 : ¬ (("great" : Str) = "left") := by decide +kernel
theorem sne3 : ¬ (("great" : Str) = "turn") := by decide +kernel
theorem sne4 : ¬ (("cells" : Str) = "left") := by decide +kernel
theorem sne5 : ¬ (("cells" : Str) = "turn") := by decide +kernel
theorem sne6 : ¬ (("left" : Str) = "turn") := by decide +kernel
theorem sne7 : ¬ (("turn" : Str) = "left") := by decide +kernel
section
variable {g c : Addr} {l t l' t' : Int}
theorem stk_great : valV (stK g c l t) (.inr "great" : Key) = some (.ref g) := by simp [valV, stK]
theorem stk_cells : valV (stK g c l t) (.inr "cells" : Key) = some (.ref c) := by simp [valV, stK, sne1]
theorem stk_left : valV (stK g c l t) (.inr "left" : Key) = some (.int l) := by simp [valV, stK, sne2, sne4]
theorem stk_turn : valV (stK g c l t) (.inr "turn" : Key) = some (.int t) := by simp [valV, stK, sne3, sne5, sne6]
theorem stk_pleft : putK (stK g c l t) (.inr "left" : Key) (.int l') = stK g c l' t := by simp [putK, stK, sne2, sne4, sne7]
theorem stk_pturn : putK (stK g c l t) (.inr "turn" : Key) (.int t') = stK g c l t' := by simp [putK, stK, sne3, sne5, sne6]
end
/-- the state stands at p, its lists at g and c; n draws more may be made -/
def SA (H : Hp) (p g c : Addr) (n : Nat) : Prop := ∃ (gs cs : List Int) (l t : Int), H p = some (.dK (stK g c l t)) ∧ H g = some (.lst (gs.map V.int)) ∧ H c = some (.lst (cs.map V.int)) ∧ p ≠ g ∧ p ≠ c ∧ g ≠ c ∧ 0 ≤ t ∧ t + n ≤ 1000000000
theorem SA.mono {H : Hp} {p g c : Addr} {n m : Nat} (h : SA H p g c n) (e : m ≤ n) : SA H p g c m := by
  obtain ⟨gs, cs, l, t, a, b, d, x, y, z, t0, t1⟩ := h
  exact ⟨gs, cs, l, t, a, b, d, x, y, z, t0, by omega⟩
theorem SA.same {H H' : Hp} {p g c : Addr} {n : Nat} (h : SA H p g c n) (s : Same H H') : SA H' p g c n := by
  obtain ⟨gs, cs, l, t, a, b, d, r⟩ := h
  exact ⟨gs, cs, l, t, s _ _ a, s _ _ b, s _ _ d, r⟩
theorem SA.np {H : Hp} {p g c : Addr} {n : Nat} (h : SA H p g c n) : ∀ o, H p = some o → ¬ Imm o := let ⟨_, _, _, _, a, _⟩ := h; notImm_dK a
theorem SA.ng {H : Hp} {p g c : Addr} {n : Nat} (h : SA H p g c n) : ∀ o, H g = some o → ¬ Imm o := let ⟨_, _, _, _, _, b, _⟩ := h; notImm_lst b
theorem SA.sp {H : Hp} {p g c : Addr} {n : Nat} (h : SA H p g c n) : H p ≠ none := let ⟨_, _, _, _, a, _⟩ := h; by rw [a]; simp
theorem SA.sg {H : Hp} {p g c : Addr} {n : Nat} (h : SA H p g c n) : H g ≠ none := let ⟨_, _, _, _, _, b, _⟩ := h; by rw [b]; simp
theorem SA.sc {H : Hp} {p g c : Addr} {n : Nat} (h : SA H p g c n) : H c ≠ none := let ⟨_, _, _, _, _, _, b, _⟩ := h; by rw [b]; simp
theorem SA.stay {H H' : Hp} {p g c : Addr} {n : Nat} (h : SA H p g c n) (b : But2 p g H H') : Stay H H' := b.stay h.np h.ng
section
variable {C : Addr} {K : PySem.W.Frag} {te : TE} {σ : L2.St} {H H' : Hp} {p : Addr} {i : Nat} {kvs : List (Key × V)} {key : Str} {v : V}
theorem evv_dget (hp : σ[i]? = some (some (.ref p))) (h : H p = some (.dK kvs)) (e : valV kvs (.inr key : Key) = some v) : EvV (tDGet (tVar i) (tC (.str key))) σ H v := fun H1 s Q q =>
  ⟨_, hp, p, v, rfl, .inl ⟨kvs, .inr key, .inl (s _ _ h), rfl, e.symm⟩, q H1 (Same.refl _)⟩
theorem ev_dget {n : Int} (hp : σ[i]? = some (some (.ref p))) (h : H p = some (.dK kvs)) (e : valV kvs (.inr key : Key) = some (.int n)) : EvD C (tDGet (tVar i) (tC (.str key))) σ H (.num n) := fun H1 s Q q =>
  evv_dget hp h e H1 s Q fun H2 s2 => q _ H2 s2 (.num n)
/-- a list of numbers that the head may have frozen -/
theorem ei_sq {a : Addr} {ns : List Int} (h : EvV te σ H (.ref a)) (sq : SqL K H a (ns.map V.int)) : EvI C (iList K te) σ H (ns.map D.num) [a] := fun H1 s R q => h H1 s _ fun H2 s2 => by
  have keep : ∀ {G : Hp}, (∀ b ∈ [a], ∀ o, H2 b = some o → G b = some o) → SqL K G a (ns.map V.int) := by
    intro G fr
    rcases sq with (sq | ⟨o, sq⟩) | sq
    · exact .inl (.inl (fr a (by simp) _ (s2 _ _ (s _ _ sq))))
    · exact .inl (.inr ⟨o, fr a (by simp) _ (s2 _ _ (s _ _ sq))⟩)
    · exact .inr sq
  refine ⟨a, rfl, ⟨_, keep (G := H2) fun _ _ _ e => e⟩, q _ H2 [a] s2 (fun b hb => .inr hb) ⟨fun i G st fr hi => ?_, fun G st fr => ?_, fun i x G G' st fr hi hy => ?_⟩⟩
  · rw [List.length_map] at hi
    exact ⟨_, .int (ns[i]), keep fr, by rw [List.getElem?_map, List.getElem?_eq_getElem hi]; rfl⟩
  · exact ⟨_, keep fr, by simp⟩
  · obtain ⟨rfl, hy⟩ := hy
    rw [List.length_map] at hi
    have := hy _ (keep fr)
    rw [List.getElem?_map, List.getElem?_eq_getElem hi] at this
    cases this
    exact ⟨rfl, .num ns[i], by rw [List.getElem?_map, List.getElem?_eq_getElem hi]; rfl, .num _⟩
end
section
variable {P : Program} {w : World} {K : PySem.W.Frag} {mg : Str → Option Value} {base : Heap} {C : Addr}
theorem sc__law_begun : FnScope ["script", "great", "cell"] ["script"] (defScope s__law_begun) := ⟨rfl, rfl, rfl, by decide +kernel, rfl, by decide +kernel, by decide +kernel⟩
abbrev sp__law_begun (K : PySem.W.Frag) : Sp := fun vs H Q _ => ∃ (a : Addr) (ns : List Int), vs = [.ref a] ∧ SqL K H a (ns.map V.int) ∧ ns.length ≤ 1000 ∧ ∀ p g c H', Same H H' → H p = none → H g = none → SA H' p g c 1000000000 → Q (.ref p) H'
theorem ok__law_begun (F : Df K mg "_law_begun" s__law_begun) (B : Bi K mg C) : Cl P w K mg base "_law_begun" 1 ["script"] (sp__law_begun K) := by
  refine F.cl sc__law_begun (fun _ _ _ _ _ _ us hl => match us, hl with | [_], _ => rfl) (fun vs H Q E h => ?_) (fun f cdv A outer s H vs Q E hr h => ?_)
  · obtain ⟨a, ns, rfl, _⟩ := h; rfl
  · obtain ⟨a, ns, rfl, sq, hl, q⟩ := h
    refine ⟨_, (pss_cons (ps_setLc (i := 1) (own := [("cell", 2)])   rfl sc__law_begun.nd rfl rfl (sw_true rfl rfl rfl (by decide +kernel)) (pi_list (pv 0)) (blkOk_by (own := [("cell", 2)]) (N := ["script", "great", "cell"]) (sc := defScope s__law_begun) (by decide +kernel)) (fun _ _ _ _ _ => (pg_name (i := 2) sc__law_begun.nd rfl (by first | exact Or.inl rfl | exact Or.inr rfl))) (fun _ _ _ _ _ => (pts_one (pt_cmpR op_ge (pe_callB call_abs (by rfl) B.abs (by decide +kernel) (pa_cons (pv 2) pa_nil)) (pe_op op_pow pe_int pe_int) (nomark _)))) (fun _ _ _ _ _ => (pe_op op_sub (pe_callB call_abs (by rfl) B.abs (by decide +kernel) (pa_cons (pv 2) pa_nil)) (pe_op op_pow pe_int pe_int))))
      (pss_one (ps_ret (pe_disp (pps_cons pe_str (pv 1) (pps_cons pe_str (pe_lc (own := [("cell", 2)]) (tt := tYes)  rfl sc__law_begun.nd (pi_list (pv 0)) (blkOk_by (own := [("cell", 2)]) (N := ["script", "great", "cell"]) (sc := defScope s__law_begun) (by decide +kernel)) (fun _ _ _ _ _ => (pg_name (i := 2) sc__law_begun.nd rfl (by first | exact Or.inl rfl | exact Or.inr rfl))) (fun _ _ _ _ _ => pts_nil) (fun _ _ _ _ _ => (pe_callB call_abs (by rfl) B.abs (by decide +kernel) (pa_cons (pv 2) pa_nil)))) (pps_cons pe_str pe_int (pps_cons pe_str pe_int pps_nil)))) (by rfl) (by rfl) (fun z => by cases z) (by decide))))), ?_⟩
    have e1 : (ns.map D.num).filterMap (fun d => match d with | .num i => if (10 ^ 18 : Int) ≤ MF.aux i then some (.num (MF.aux i - 10 ^ 18)) else none | _ => none) = ((ns.filter fun i => decide ((10 ^ 18 : Int) ≤ MF.aux i)).map fun i => MF.aux i - 10 ^ 18).map D.num := by
      clear hl sq q
      induction ns with
      | nil => rfl
      | cons k l ih =>
        rw [List.map_cons, List.filterMap_cons, List.filter_cons, ih]
        by_cases h : (10 ^ 18 : Int) ≤ MF.aux k
        · simp only [if_pos h, decide_eq_true h, if_true, List.map_cons]
        · simp only [if_neg h, decide_eq_false h]
          rfl
    have e2 : (ns.map D.num).filterMap (fun d => match d with | .num i => some (.num (MF.aux i)) | _ => none) = (ns.map MF.aux).map D.num := by
      clear hl sq q e1
      induction ns with
      | nil => rfl
      | cons k l ih => rw [List.map_cons, List.filterMap_cons, ih]; rfl
    have sqs : ∀ {H' : Hp}, Same H H' → SqL K H' a (ns.map V.int) := by
      intro H' s
      rcases sq with (sq | ⟨o, sq⟩) | sq
      · exact .inl (.inl (s _ _ sq))
      · exact .inl (.inr ⟨o, s _ _ sq⟩)
      · exact .inr sq
    refine st_setL (C := C) (ds := (ns.map D.num).filterMap (fun d => match d with | .num i => if (10 ^ 18 : Int) ≤ MF.aux i then some (.num (MF.aux i - 10 ^ 18)) else none | _ => none)) ?_ ?_
    · refine evl_lc (C := C) (h := ei_sq (C := C) (evv_var rfl) sq) (keep := _) ?_ ?_
      · intro d x H2 hd s2 tx
        obtain ⟨k, hk, rfl⟩ := List.mem_map.mp hd
        cases tp_num tx
        refine ⟨_, gb_name, rfl, ?_, fun z hz => ?_⟩
        · have e9 : ((match D.num k with | .num i => if (10 ^ 18 : Int) ≤ MF.aux i then some (D.num (MF.aux i - 10 ^ 18)) else none | _ => none)).isSome = decide ((10 ^ 18 : Int) ≤ MF.aux k) := by
            dsimp only
            by_cases h : (10 ^ 18 : Int) ≤ MF.aux k
            · rw [if_pos h, decide_eq_true h]; rfl
            · rw [if_neg h, decide_eq_false h]; rfl
          rw [e9, ← aux_if]
          apply et_test (C := C)
          apply ev_opB (g := fun i j => decide (j ≤ i))
          · trivial
          · exact ev_opIC (g := fun i j => i ^ j.toNat) (i := 10) (j := 18) (by trivial) (by trivial) ⟨by decide, by decide, by decide⟩
        · dsimp only at hz
          split at hz
          · cases hz
            rw [← aux_if]
            apply ev_opI (g := fun i j => i - j)
            · trivial
            · exact ev_opIC (g := fun i j => i ^ j.toNat) (i := 10) (j := 18) (by trivial) (by trivial) ⟨by decide, by decide, by decide⟩
          · cases hz
      · rw [List.length_map]; exact small_len hl (by omega)
    intro g xs H1 s1 hg h1 r1
    rw [e1] at r1
    intro p hp
    have s2 : Same H1 (upd H1 p (.dK [])) := Same.new hp
    refine ⟨_, rfl, ?_⟩
    have ev2 := evl_lc (C := C) (σ := [some (.ref a), some (.ref g), none]) (H := upd H1 p (.dK [])) (g := gName 2) (tt := tYes) (te := tCB (fun xs H Q => ∃ i, xs = [.int i] ∧ Q (.int (if i < 0 then -i else i)) H) (tCons (tVar 2) tNil)) (vs := [2]) (h := ei_sq (C := C) (K := K) (te := tVar 0) (ns := ns) (evv_var rfl) (sqs (Same.trans s1 s2))) (keep := fun d => match d with | .num i => some (.num (MF.aux i)) | _ => none) (fun d x H2 hd s2 tx => by
        obtain ⟨k, hk, rfl⟩ := List.mem_map.mp hd
        cases tp_num tx
        refine ⟨_, gb_name, rfl, et_yes, fun z hz => ?_⟩
        have hz : D.num (MF.aux k) = z := by simpa using hz
        subst hz
        rw [← aux_if]
        trivial) (by rw [List.length_map]; exact small_len hl (by omega))
    rw [e2] at ev2
    dsimp only [tPairs, tC]
    refine ev2 _ (Same.refl _) _ fun c cs H3 s3 hc h3 r3 => ?_
    have e3 : H3 p = some (.dK []) := s3 _ _ upd_same
    refine ⟨e3, stK g c 0 0, rfl, (show 4 ≤ 15 by decide), ?_⟩
    have em : mergeK [] (stK g c 0 0) = stK g c 0 0 := by
      simp [mergeK, stK, putK, sne1, sne2, sne3, sne4, sne5, sne6]
    rw [em]
    have h13 : Same H1 H3 := Same.trans s2 s3
    have pg : p ≠ g := fun z => by rw [z, h1] at hp; cases hp
    have pc : p ≠ c := fun z => by rw [← z, upd_same] at hc; cases hc
    have gc : g ≠ c := fun z => by rw [← z, upd_ne (Ne.symm pg), h1] at hc; cases hc
    refine q p g c _ (Same.put (Same.trans s1 h13) (s1.free hp)) (s1.free hp) hg ⟨(ns.filter fun i => decide ((10 ^ 18 : Int) ≤ MF.aux i)).map fun i => MF.aux i - 10 ^ 18, ns.map MF.aux, 0, 0, upd_same, ?_, ?_, pg, pc, gc, Int.le_refl _, by decide⟩
    · rw [upd_ne (Ne.symm pg), h13 _ _ h1, nums_of r1]
    · rw [upd_ne (Ne.symm pc), h3, nums_of r3]
theorem sc__law_blended : FnScope ["state", "turn", "found", "prime", "blend", "cell"] ["state"] (defScope s__law_blended) := ⟨rfl, rfl, rfl, by decide +kernel, rfl, by decide +kernel, by decide +kernel⟩
abbrev sp__law_blended : Sp := fun vs H Q _ => ∃ p g c n, vs = [.ref p] ∧ SA H p g c (n + 1) ∧ ∀ i H', But2 p g H H' → SA H' p g c n → Q (.int i) H'
theorem ok__law_blended (F : Df K mg "_law_blended" s__law_blended) (B : Bi K mg C) : Cl P w K mg base "_law_blended" 1 ["state"] sp__law_blended := by
  refine F.cl sc__law_blended (fun _ _ _ _ _ _ us hl => match us, hl with | [_], _ => rfl) (fun vs H Q E h => ?_) (fun f cdv A outer s H vs Q E hr h => ?_)
  · obtain ⟨p, g, c, n, rfl, _⟩ := h; rfl
  · obtain ⟨p, g, c, n, rfl, sa, q⟩ := h
    refine ⟨_, (pss_cons (ps_par (i := 1) (j := 2) (by rfl) sc__law_blended.nd rfl rfl (by decide) rfl rfl (pa_cons (pe_op op_add (pe_dget (hu_of hr) (pv 0) pe_str (fun _ _ => rfl)) pe_int) (pa_cons pe_int pa_nil)) (by rfl))
      (pss_cons (ps_dput (hu_of hr) (pv 0) pe_str (pv 1) rfl)
      (pss_cons (ps_for PassesOwn.never rfl (pi_list (pe_lst (pa_cons pe_int (pa_cons pe_int (pa_cons pe_int pa_nil))))) (pg_name (i := 3) sc__law_blended.nd rfl (by first | exact Or.inl rfl | exact Or.inr rfl)) (pss_cons (ps_set (i := 4) sc__law_blended.nd rfl (by first | exact Or.inl rfl | exact Or.inr rfl) (pe_op op_add (pe_op op_mul pe_int (pv 1)) (pe_op op_fdivN (pv 3) pe_int)))
      (pss_cons (ps_for PassesOwn.never rfl (pi_list (pe_dget (hu_of hr) (pv 0) pe_str (fun _ _ => rfl))) (pg_name (i := 5) sc__law_blended.nd rfl (by first | exact Or.inl rfl | exact Or.inr rfl)) (pss_one (ps_set (i := 4) sc__law_blended.nd rfl (by first | exact Or.inl rfl | exact Or.inr rfl) (pe_op op_modN (pe_callTy call_int1 (by rfl) B.int (by decide +kernel) (pa_cons (pe_op op_add (pe_op op_add (pe_op op_mul (pv 4) pe_int) (pv 5)) (pv 1)) pa_nil)) (pv 3)))))
      (pss_one (ps_set (i := 2) sc__law_blended.nd rfl (by first | exact Or.inl rfl | exact Or.inr rfl) (pe_op op_add (pe_op op_mul (pv 2) pe_int) (pe_op op_modN (pe_callTy call_int1 (by rfl) B.int (by decide +kernel) (pa_cons (pe_op op_pow (pv 4) pe_int) pa_nil)) (pv 3))))))))
      (pss_one (ps_ret (pv 2)))))), ?_⟩
    obtain ⟨gs, cs, l, t, hp, hg, hc, pg, pc, gc, t0, t1⟩ := sa
    refine st_par2 ?_
    have ev : EvD C (tOp (rI0 fun i j => .int (i + j)) (tDGet (tVar 0) (tC (.str "turn"))) (tC (.int 1))) [some (.ref p), none, none, none, none, none] H (.num (t + 1)) := ev_opI (g := fun i j => i + j) (ev_dget rfl hp stk_turn) ev_int
    refine ev H (Same.refl _) _ fun v1 H1 s1 t1' => ?_
    cases tp_num t1'
    refine ⟨_, _, rfl, ?_⟩
    refine ⟨_, rfl, _, rfl, p, _, rfl, DPut.k (k := .inr "turn") (s1 _ _ hp) (small_lt (m := 100) (show 4 < 100 by decide) (by omega)), ?_⟩
    rw [stk_pturn]
    have b2 : But2 p g H (upd H1 p (.dK (stK g c l (t + 1)))) := but2_set (Same.but2 s1)
    have sa2 : SA (upd H1 p (.dK (stK g c l (t + 1)))) p g c n := ⟨gs, cs, l, t + 1, upd_same, by rw [upd_ne (Ne.symm pg)]; exact s1 _ _ hg, by rw [upd_ne (Ne.symm pc)]; exact s1 _ _ hc, pg, pc, gc, by omega, by omega⟩
    have hp2 : upd H1 p (.dK (stK g c l (t + 1))) p = some (.dK (stK g c l (t + 1))) := upd_same
    have hc2 : upd H1 p (.dK (stK g c l (t + 1))) c = some (.lst (cs.map V.int)) := by rw [upd_ne (Ne.symm pc)]; exact s1 _ _ hc
    generalize upd H1 p (.dK (stK g c l (t + 1))) = H2 at b2 sa2 hp2 hc2 ⊢
    dsimp only [L2.start, List.set, List.map, List.length, List.replicate, List.append]
    refine st_for (C := C) (wi := _) (ei_lst (C := C) (ds := [.num 2147483587, .num 2147483563, .num 2147483549]) ?_) (fun G i σ' H' => ∃ f x3 x4 x5, σ' = [some (.ref p), some (.int (t + 1)), some (.int f), x3, x4, x5] ∧ Same G H') ?_ ?_ ?_ ?_
    · apply evl_lst
      · trivial
      · show 3 ≤ sizeLine; decide
    · intro G sG
      exact ⟨0, none, none, none, rfl, Same.refl _⟩
    · rintro G i σ' H' sG ⟨f, x3, x4, x5, rfl, s⟩
      exact ⟨Same.stay s, fun b o _ e => s b o e⟩
    · rintro G i d x σ' H' sG hi ⟨f, x3, x4, x5, rfl, s⟩ tx
      obtain ⟨pr, rfl, pr0, pr1⟩ : ∃ pr : Int, d = .num pr ∧ 2000000000 ≤ pr ∧ pr ≤ 2147483587 := by
        match i, hi with
        | 0, hi => exact ⟨_, by simpa using hi.symm, by decide, by decide⟩
        | 1, hi => exact ⟨_, by simpa using hi.symm, by decide, by decide⟩
        | 2, hi => exact ⟨_, by simpa using hi.symm, by decide, by decide⟩
        | i + 3, hi => simp at hi
      cases tp_num tx
      refine ⟨_, gb_name, ?_⟩
      have f61 := Int.fdiv_eq_ediv_of_nonneg pr (show (0 : Int) ≤ 61 by decide)
      apply st_set (C := C) (d := .num (40692 * (t + 1) + pr.fdiv 61))
      · apply ev_opI (g := fun i j => i + j)
        · exact ev_mulL (by trivial) (by trivial) (by decide)
        · exact ev_fdiv (by trivial) (by trivial) (by decide) (by decide)
      intro vb H3 s3 tb
      cases tp_num tb
      have sH3 := Same.trans s s3
      refine st_for (C := C) (wi := _) (ei_at (C := C) (ds := cs.map D.num) (a := c) (vs := cs.map V.int) (evv_dget rfl (sH3 _ _ (sG _ _ hp2)) stk_cells) (sH3 _ _ (sG _ _ hc2)) (of_nums C _ cs)) (fun G2 i σ' H' => ∃ b x5, σ' = [some (.ref p), some (.int (t + 1)), some (.int f), some (.int pr), some (.int b), x5] ∧ b.natAbs < 2 ^ 62 ∧ Same G2 H') ?_ ?_ ?_ ?_
      · intro G2 s2
        exact ⟨_, x5, rfl, by omega, Same.refl _⟩
      · rintro G2 i σ' H' s2 ⟨b, y5, rfl, bb, s'⟩
        exact ⟨Same.stay s', fun b o _ e => s' b o e⟩
      · rintro G2 i d x σ' H' s2 hi ⟨b, y5, rfl, bb, s'⟩ tx
        obtain ⟨ce, hce, rfl⟩ := map_item hi
        cases tp_num tx
        refine ⟨_, gb_name, ?_⟩
        have ev2 : EvD C (tOp (rI (fun _ j => j ≠ 0) fun i j => .int (Int.fmod i j)) (tCB (fun xs H Q => (∃ i, xs = [.int i] ∧ Q (.int i) H) ∨ ∃ k, xs = [.bl k] ∧ Q (.int (if k then 1 else 0)) H) (tCons (tOp (rI0 fun i j => .int (i + j)) (tOp (rI0 fun i j => .int (i + j)) (tOp (rI CMul fun i j => .int (i * j)) (tVar 4) (tC (.int 69621))) (tVar 5)) (tVar 1)) tNil)) (tVar 3)) ([some (.ref p), some (.int (t + 1)), some (.int f), some (.int pr), some (.int b), y5].set 5 (some (.int ce))) H' (.num ((b * 69621 + ce + (t + 1)).fmod pr)) := by
          apply ev_fmod
          · apply ev_intI
            apply ev_opI (g := fun i j => i + j)
            · apply ev_opI (g := fun i j => i + j)
              · exact ev_mulR (by trivial) (by trivial) (by decide)
              · trivial
            · trivial
          · trivial
          · omega
        refine ev2 H' (Same.refl _) _ fun v4 H4 s4 t4 => ?_
        cases tp_num t4
        refine ⟨_, _, rfl, ?_, Same.trans s' s4⟩
        have h1 := Int.fmod_nonneg_of_pos (b * 69621 + ce + (t + 1)) (show 0 < pr by omega)
        have h2 := Int.fmod_lt_of_pos (b * 69621 + ce + (t + 1)) (show 0 < pr by omega)
        omega
      · rintro G2 σ' H' s2 ⟨b, y5, rfl, bb, s'⟩
        have ev3 : EvD C (tOp (rI0 fun i j => .int (i + j)) (tOp (rI CMul fun i j => .int (i * j)) (tVar 2) (tC (.int 2147483647))) (tOp (rI (fun _ j => j ≠ 0) fun i j => .int (Int.fmod i j)) (tCB (fun xs H Q => (∃ i, xs = [.int i] ∧ Q (.int i) H) ∨ ∃ k, xs = [.bl k] ∧ Q (.int (if k then 1 else 0)) H) (tCons (tOp (rI CPow fun i j => .int (i ^ j.toNat)) (tVar 4) (tC (.int 5))) tNil)) (tVar 3))) [some (.ref p), some (.int (t + 1)), some (.int f), some (.int pr), some (.int b), y5] H' (.num (f * 2147483647 + (b ^ (5 : Int).toNat).fmod pr)) := by
          apply ev_opI (g := fun i j => i + j)
          · exact ev_mulR (by trivial) (by trivial) (by decide)
          · apply ev_fmod
            · apply ev_intI
              exact ev_opIC (g := fun i j => i ^ j.toNat) (by trivial) (by trivial) ⟨by decide, by decide, by omega⟩
            · trivial
            · omega
        refine ev3 H' (Same.refl _) _ fun v5 H5 s5 t5 => ?_
        cases tp_num t5
        exact ⟨_, _, _, _, rfl, Same.trans sH3 (Same.trans s2 (Same.trans s' s5))⟩
    · rintro G σ' H' sG ⟨f, x3, x4, x5, rfl, s⟩
      have s2 := Same.trans sG s
      exact ⟨_, rfl, q f H' (But2.trans b2 (Same.but2 s2)) (sa2.same s2)⟩
theorem sc__law_draw : FnScope ["state", "size_here", "found"] ["state", "size_here"] (defScope s__law_draw) := ⟨rfl, rfl, rfl, by decide +kernel, rfl, by decide +kernel, by decide +kernel⟩
abbrev sp__law_draw : Sp := fun vs H Q _ => ∃ p g c n size, vs = [.ref p, .int size] ∧ SA H p g c (n + 1) ∧ (0 < size ∧ size < 1000000000) ∧ ∀ i H', 0 ≤ i → i < size → But2 p g H H' → SA H' p g c n → Q (.int i) H'
theorem ok__law_draw (F : Df K mg "_law_draw" s__law_draw) (B : Bi K mg C) (h__law_blended : Cl P w K mg base "_law_blended" 1 ["state"] sp__law_blended) : Cl P w K mg base "_law_draw" 2 ["state", "size_here"] sp__law_draw := by
  refine F.cl sc__law_draw (fun _ _ _ _ _ _ us hl => match us, hl with | [_, _], _ => rfl) (fun vs H Q E h => ?_) (fun f cdv A outer s H vs Q E hr h => ?_)
  · obtain ⟨p, g, c, n, size, rfl, _⟩ := h; rfl
  · obtain ⟨p, g, c, n, size, rfl, sa, ⟨z0, z1⟩, q⟩ := h
    refine ⟨_, (pss_cons (ps_if (pt_cmpR op_eq (pe_dget (hu_of hr) (pv 0) pe_str (fun _ _ => rfl)) pe_int (nomark _)) (pss_one (ps_dput (hu_of hr) (pv 0) pe_str (pe_ifExp (pt_cmpR (op_neD hr.units) (pe_dget (hu_of hr) (pv 0) pe_str (fun _ _ => rfl)) (pe_lst pa_nil) (nomark _)) (pe_bm PySem.F.plainAttrs_list PySem.F.slot_list_pop PySem.F.type_list_pop mt_popAt (pe_dget (hu_of hr) (pv 0) pe_str (fun _ _ => rfl)) (pa_cons pe_int pa_nil)) (pe_cl h__law_blended (hr.mono (by decide)) (by rfl) (pa_cons (pv 0) pa_nil))) rfl)) pss_nil)
      (pss_cons (ps_set (i := 2) sc__law_draw.nd rfl (by first | exact Or.inl rfl | exact Or.inr rfl) (pe_op op_modN (pe_callTy call_int1 (by rfl) B.int (by decide +kernel) (pa_cons (pe_dget (hu_of hr) (pv 0) pe_str (fun _ _ => rfl)) pa_nil)) (pv 1)))
      (pss_cons (ps_dput (hu_of hr) (pv 0) pe_str (pe_op op_fdivN (pe_dget (hu_of hr) (pv 0) pe_str (fun _ _ => rfl)) (pv 1)) rfl)
      (pss_one (ps_ret (pv 2)))))), ?_⟩
    have rest : ∀ H2, But2 p g H H2 → SA H2 p g c n → tSeq (tAsg (tOp (rI (fun _ j => j ≠ 0) fun i j => .int (Int.fmod i j)) (tCB (fun xs H Q => (∃ i, xs = [.int i] ∧ Q (.int i) H) ∨ ∃ k, xs = [.bl k] ∧ Q (.int (if k then 1 else 0)) H) (tCons (tDGet (tVar 0) (tC (.str "left"))) tNil)) (tVar 1)) (gName 2)) (tSeq (sDPut (tVar 0) (tC (.str "left")) (tOp (rI CDivN fun i j => .int (Int.fdiv i j)) (tDGet (tVar 0) (tC (.str "left"))) (tVar 1))) (tRet (tVar 2))) { nx := fun _ H' => Q .non H', rt := Q } [some (.ref p), some (.int size), none] H2 := by
      intro H2 b2 sa2
      obtain ⟨gs, cs, l, t, hp, hg, hc, pg, pc, gc, t0, t1⟩ := sa2
      apply st_set (C := C) (d := .num (l.fmod size))
      · apply ev_fmod
        · apply ev_intI
          exact ev_dget rfl hp stk_left
        · trivial
        · omega
      intro v3 H3 s3 t3
      cases tp_num t3
      have hp3 := s3 _ _ hp
      have ev : EvD C (tOp (rI CDivN fun i j => .int (Int.fdiv i j)) (tDGet (tVar 0) (tC (.str "left"))) (tVar 1)) ([some (.ref p), some (.int size), none].set 2 (some (.int (l.fmod size)))) H3 (.num (l.fdiv size)) := ev_fdiv (ev_dget rfl hp3 stk_left) (by trivial) (by omega) (by omega)
      refine ev H3 (Same.refl _) _ fun v4 H4 s4 t4 => ?_
      cases tp_num t4
      refine ⟨_, rfl, p, _, rfl, DPut.k (k := .inr "left") (s4 _ _ hp3) (small_lt (m := 100) (show 4 < 100 by decide) (by omega)), ?_⟩
      rw [stk_pleft]
      have s24 := Same.trans s3 s4
      refine ⟨_, rfl, q _ _ (Int.fmod_nonneg_of_pos _ z0) (Int.fmod_lt_of_pos _ z0) (But2.trans b2 (but2_set (Same.but2 s24))) ⟨gs, cs, l.fdiv size, t, upd_same, ?_, ?_, pg, pc, gc, t0, t1⟩⟩
      · rw [upd_ne (Ne.symm pg)]; exact s24 _ _ hg
      · rw [upd_ne (Ne.symm pc)]; exact s24 _ _ hc
    have put : ∀ (H2 : Hp) (i : Int), But2 p g H H2 → SA H2 p g c n → ∃ kvs, H2 p = some (.dK kvs) ∧ kvs.length < sizeLine ∧ But2 p g H (upd H2 p (.dK (putK kvs (.inr "left" : Key) (.int i)))) ∧ SA (upd H2 p (.dK (putK kvs (.inr "left" : Key) (.int i)))) p g c n := by
      intro H2 i b2 sa2
      obtain ⟨gs, cs, l, t, hp, hg, hc, pg, pc, gc, t0, t1⟩ := sa2
      refine ⟨_, hp, small_lt (m := 100) (show 4 < 100 by decide) (by omega), but2_set b2, gs, cs, i, t, ?_, ?_, ?_, pg, pc, gc, t0, t1⟩
      · rw [stk_pleft]; exact upd_same
      · rw [upd_ne (Ne.symm pg)]; exact hg
      · rw [upd_ne (Ne.symm pc)]; exact hc
    have san := sa.mono (Nat.le_succ n)
    obtain ⟨gs, cs, l, t, hp, hg, hc, pg, pc, gc, t0, t1⟩ := id sa
    apply st_if (b := decide (l = 0))
    · apply et_test (C := C)
      apply ev_eqI
      · exact ev_dget rfl hp stk_left
      · trivial
    · intro _ H2 s2
      have hp2 := s2 _ _ hp
      have hg2 := s2 _ _ hg
      have sa2 := san.same s2
      have tst : EvT (tTest (tOp (rNeD K) (tDGet (tVar 0) (tC (.str "great"))) (tLst tNil))) [some (.ref p), some (.int size), none] H2 (!gs.isEmpty) := et_neNums (evv_dget rfl hp2 stk_great) hg2
      refine tst H2 (Same.refl _) _ fun H3 s3 => ?_
      have hp3 := s3 _ _ hp2
      have hg3 := s3 _ _ hg2
      have s23 := Same.trans s2 s3
      cases gs with
      | nil =>
        refine iteF ⟨_, rfl, p, g, c, n, rfl, sa.same s23, fun i H4 b4 sa4 => ?_⟩
        obtain ⟨kvs, e1, e2, e3, e4⟩ := put H4 i (But2.trans (Same.but2 s23) b4) sa4
        exact ⟨_, rfl, p, _, rfl, DPut.k (k := .inr "left") e1 e2, rest _ e3 e4⟩
      | cons g0 gs =>
        refine iteT ?_
        refine evv_dget rfl hp3 stk_great H3 (Same.refl _) _ fun H4 s4 => ?_
        have hg4 := s4 _ _ hg3
        refine ⟨.inl ⟨rfl, _, .inl (.inl hg4)⟩, g, _, 0, 0, .int g0, rfl, rfl, hg4, by decide, by decide, by simp [seqIndex?], rfl, ?_⟩
        have sa5 : SA (upd H4 g (.lst (((g0 :: gs).map V.int).eraseIdx 0))) p g c n := by
          refine ⟨gs, cs, l, t, ?_, ?_, ?_, pg, pc, gc, t0, by omega⟩
          · rw [upd_ne pg]; exact s4 _ _ hp3
          · rw [upd_same]; rfl
          · rw [upd_ne (Ne.symm gc)]; exact s4 _ _ (s23 _ _ hc)
        obtain ⟨kvs, e1, e2, e3, e4⟩ := put (upd H4 g (.lst (((g0 :: gs).map V.int).eraseIdx 0))) g0 (but2_set' (Same.but2 (Same.trans s23 s4))) sa5
        exact ⟨_, rfl, p, _, rfl, DPut.k (k := .inr "left") e1 e2, rest _ e3 e4⟩
    · intro _ H2 s2
      exact rest H2 (Same.but2 s2) (san.same s2)
end
end Kw

set_option Elab.async false
set_option linter.all false
set_option maxRecDepth 100000
set_option maxHeartbeats 4000000
/-! Picks and mixed lists. -/
namespace Kw
open PySem PySem.Spec PyProof.Rows L2 Y
local macro_rules | `(tactic| trivial) => `(tactic| first
  | with_reducible exact ev_int
  | with_reducible exact ev_bl
  | with_reducible exact ev_non
  | with_reducible exact ea_nil
  | with_reducible exact et_yes
  | ((with_reducible apply ev_var); exact rfl; first | exact .num _ | exact .bl _ | exact .non | assumption)
  | ((with_reducible apply ea_cons); trivial; trivial)
  | ((with_reducible apply ev_tup); trivial; first | decide | (show _ ≤ sizeLine; simp; decide))
  | ((with_reducible apply ev_ix0); trivial; trivial; exact rfl)
  | ((with_reducible apply ev_ix1); trivial; trivial; exact rfl)
  | ((with_reducible apply ev_ix2); trivial; trivial; exact rfl)
  | ((with_reducible apply ev_ix3); trivial; trivial; exact rfl)
  | ((with_reducible apply ev_opI); trivial; trivial)
  | ((with_reducible apply ev_opB); trivial; trivial)
  | ((with_reducible apply ev_eqI); trivial; trivial)
  | ((with_reducible apply ev_neI); trivial; trivial)
  | ((with_reducible apply ev_un); trivial)
  | ((with_reducible apply ev_chain); trivial; trivial; trivial)
  | ((with_reducible apply ev_abs); trivial)
  | ((with_reducible apply ev_intI); trivial)
  | ((with_reducible apply ev_gcd); trivial; trivial)
  | ((with_reducible apply ev_lenT); trivial)
  | ((with_reducible apply et_test); trivial)
  | ((with_reducible apply et_B); trivial)
  | ((with_reducible apply et_not); trivial)
  | ((with_reducible apply et_and); trivial; (intro _; trivial))
  | ((with_reducible apply et_or); trivial; (intro _; trivial))
  | ((with_reducible apply ev_andV); trivial; (intro _; trivial))
  | ((with_reducible apply ev_orV); trivial; (intro _; trivial))
  | ((with_reducible apply ev_notV); trivial)
  | ((with_reducible apply ev_isN); trivial)
  | ((with_reducible apply ev_notN); trivial)
  | ((with_reducible apply ev_isiII); trivial)
  | ((with_reducible apply ev_isiIB); trivial)
  | ((with_reducible apply ev_isiTT); trivial)
  | ((with_reducible apply ev_isH); trivial))
theorem seqIx {i : Int} {n : Nat} (h0 : 0 ≤ i) (h1 : i < n) : seqIndex? i n = some i.toNat := by
  unfold seqIndex?
  simp only [h0, if_true]
  split
  · omega
  · rename_i h
    first | rfl | (simp; omega)
theorem TpA.erase {C : Addr} {H : Hp} : ∀ {vs : List V} {ds : List D} (k : Nat), TpA C H vs ds → TpA C H (vs.eraseIdx k) (ds.eraseIdx k)
  | _, _, _, .nil => .nil
  | _, _, 0, .cons a b => b
  | _, _, k + 1, .cons a b => .cons a (TpA.erase k b)
theorem erase_map {α β : Type} (f : α → β) : ∀ (l : List α) (k : Nat), (l.map f).eraseIdx k = (l.eraseIdx k).map f
  | [], _ => by simp
  | _ :: _, 0 => rfl
  | a :: l, k + 1 => by simp [erase_map f l k]
theorem erase_perm {α : Type} : ∀ {l : List α} {k : Nat} {a : α}, l[k]? = some a → (a :: l.eraseIdx k).Perm l
  | [], _, _, h => by simp at h
  | x :: l, 0, a, h => by
    have : x = a := by simpa using h
    subst this
    exact List.Perm.refl _
  | x :: l, k + 1, a, h => by
    have ih := erase_perm (l := l) (k := k) (a := a) (by simpa using h)
    show (a :: x :: l.eraseIdx k).Perm (x :: l)
    exact List.Perm.trans (List.Perm.swap x a _) (List.Perm.cons x ih)
theorem doors_lay : ∀ ds : List Door, PyData.canLayAll0 (pyA (ds.map doorD)) = true ∧ PyData.depthAll (pyA (ds.map doorD)) ≤ 1
  | [] => by simp [pyA, PyData.canLayAll0, PyData.depthAll]
  | d :: ds => by
    have ih := doors_lay ds
    simp [pyA, py, doorD, PyData.canLayAll0, PyData.canLay0, PyData.depthAll, PyData.depth, ih.1]
    have := ih.2
    omega
theorem doors_shaped (ds : List Door) : SeqAt.shaped (.list (pyA (ds.map doorD))) = true := by
  obtain ⟨h1, h2⟩ := doors_lay ds
  simp [SeqAt.shaped, PyData.canLay0, PyData.depth, h1]
  omega
theorem doors_flat : ∀ ds : List Door, flatA (ds.map doorD) = true
  | [] => rfl
  | d :: ds => by simp [flatA, flat, doorD, doors_flat ds]
section
variable {P : Program} {w : World} {K : PySem.W.Frag} {mg : Str → Option Value} {base : Heap} {C : Addr}
theorem sc__law_pick : FnScope ["state", "several"] ["state", "several"] (defScope s__law_pick) := ⟨rfl, rfl, rfl, by decide +kernel, rfl, by decide +kernel, by decide +kernel⟩
abbrev sp__law_pick : Sp := fun vs H Q _ => ∃ (p g c : Addr) (n : Nat) (b : Addr) (xs : List V), vs = [.ref p, .ref b] ∧ SA H p g c (n + 1) ∧ H b = some (.lst xs) ∧ b ≠ p ∧ b ≠ g ∧ (0 < xs.length ∧ xs.length < 1000) ∧ ∀ (i : Nat) (x : V) (H' : Hp), xs[i]? = some x → But2 p g H H' → SA H' p g c n → Q x H'
theorem ok__law_pick (F : Df K mg "_law_pick" s__law_pick) (B : Bi K mg C) (h__law_draw : Cl P w K mg base "_law_draw" 2 ["state", "size_here"] sp__law_draw) : Cl P w K mg base "_law_pick" 3 ["state", "several"] sp__law_pick := by
  refine F.cl sc__law_pick (fun _ _ _ _ _ _ us hl => match us, hl with | [_, _], _ => rfl) (fun vs H Q E h => ?_) (fun f cdv A outer s H vs Q E hr h => ?_)
  · obtain ⟨p, g, c, n, b, xs, rfl, _⟩ := h; rfl
  · obtain ⟨p, g, c, n, b, xs, rfl, sa, hb, bp, bg, ⟨x0, x1⟩, q⟩ := h
    refine ⟨_, (pss_one (ps_ret (pe_ix ix_list (pv 1) (pe_cl h__law_draw (hr.mono (by decide)) (by rfl) (pa_cons (pv 0) (pa_cons (pe_callB call_lenS (by rfl) B.len (by decide +kernel) (pa_cons (pv 1) pa_nil)) pa_nil))) (fun _ _ => rfl)))), ?_⟩
    refine ⟨_, rfl, _, rfl, _, rfl, b, xs, rfl, .inl (.inl (.inl hb)), p, g, c, n, _, rfl, sa, ⟨by omega, by omega⟩, fun i H2 i0 i1 b2 sa2 => ?_⟩
    obtain ⟨x, hx⟩ : ∃ x, xs[i.toNat]? = some x := ⟨_, List.getElem?_eq_getElem (by omega)⟩
    refine ⟨b, xs, i, x, rfl, rfl, .inl (.inl (b2 b _ bp bg hb)), ?_, q i.toNat x H2 hx b2 sa2⟩
    have : i = ((i.toNat : Nat) : Int) := by omega
    rw [this]
    exact atI_nat hx
theorem sc__law_mixed : FnScope ["state", "several", "left", "found"] ["state", "several"] (defScope s__law_mixed) := ⟨rfl, rfl, rfl, by decide +kernel, rfl, by decide +kernel, by decide +kernel⟩
abbrev sp__law_mixed (C : Addr) : Sp := fun vs H Q _ => ∃ (p g c : Addr) (n : Nat) (b : Addr) (xs : List V) (ds : List D), vs = [.ref p, .ref b] ∧ SA H p g c (n + ds.length) ∧ H b = some (.lst xs) ∧ TpA C H xs ds ∧ (∀ l : List D, (∀ d ∈ l, d ∈ ds) → flatA l = true ∧ SeqAt.shaped (.list (pyA l)) = true) ∧ ds.length ≤ 100 ∧ ∀ (a : Addr) (xs' : List V) (ds' : List D) (H' : Hp), But2 p g H H' → SA H' p g c n → H a = none → H' a = some (.lst xs') → TpA C H' xs' ds' → ds'.Perm ds → Q (.ref a) H'
theorem ok__law_mixed (F : Df K mg "_law_mixed" s__law_mixed) (B : Bi K mg C) (h__law_draw : Cl P w K mg base "_law_draw" 2 ["state", "size_here"] sp__law_draw) : Cl P w K mg base "_law_mixed" 3 ["state", "several"] (sp__law_mixed C) := by
  refine F.cl sc__law_mixed (fun _ _ _ _ _ _ us hl => match us, hl with | [_, _], _ => rfl) (fun vs H Q E h => ?_) (fun f cdv A outer s H vs Q E hr h => ?_)
  · obtain ⟨p, g, c, n, b, xs, ds, rfl, _⟩ := h; rfl
  · obtain ⟨p, g, c, n, b, xs, ds, rfl, sa, hb, tb, sh, dl, q⟩ := h
    refine ⟨_, (pss_cons (ps_par (i := 2) (j := 3) (by rfl) sc__law_mixed.nd rfl rfl (by decide) rfl rfl (pa_cons (pe_callTy call_list_of (by rfl) B.list (by decide +kernel) (pa_cons (pv 1) pa_nil)) (pa_cons (pe_lst pa_nil) pa_nil)) (by rfl))
      (pss_cons (ps_while PassesOwn.never (pt_cmpR (op_neD hr.units) (pv 2) (pe_lst pa_nil) (nomark _)) (pss_one (ps_expr (pe_bm PySem.F.plainAttrs_list PySem.F.slot_list_append PySem.F.type_list_append mt_append (pv 3) (pa_cons (pe_bm PySem.F.plainAttrs_list PySem.F.slot_list_pop PySem.F.type_list_pop mt_popAt (pv 2) (pa_cons (pe_cl h__law_draw (hr.mono (by decide)) (by rfl) (pa_cons (pv 0) (pa_cons (pe_callB call_lenS (by rfl) B.len (by decide +kernel) (pa_cons (pv 2) pa_nil)) pa_nil))) pa_nil)) pa_nil)))))
      (pss_one (ps_ret (pv 3))))), ?_⟩
    refine ⟨_, rfl, b, xs, rfl, .inl (.inl (.inl hb)), fun a1 h1 => ⟨Nat.zero_le _, fun a2 h2 => ⟨_, _, rfl, ?_⟩⟩⟩
    have h12 : a1 ≠ a2 := fun z => by rw [← z, upd_same] at h2; cases h2
    have n2 : H a2 = none := by rw [upd_ne (Ne.symm h12)] at h2; exact h2
    have sG : Same H (upd (upd H a1 (.lst xs)) a2 (.lst [])) := Same.put (Same.new h1) n2
    have ap : a1 ≠ p := fun z => sa.sp (by rw [← z]; exact h1)
    have ag : a1 ≠ g := fun z => sa.sg (by rw [← z]; exact h1)
    have ac : a1 ≠ c := fun z => sa.sc (by rw [← z]; exact h1)
    have ap2 : a2 ≠ p := fun z => sa.sp (by rw [← z]; exact n2)
    have ag2 : a2 ≠ g := fun z => sa.sg (by rw [← z]; exact n2)
    have ac2 : a2 ≠ c := fun z => sa.sc (by rw [← z]; exact n2)
    have updSA : ∀ {H' : Hp} {m : Nat} {a : Addr} {o : HO}, SA H' p g c m → a ≠ p → a ≠ g → a ≠ c → SA (upd H' a o) p g c m := by
      intro H' m a o sa x y z
      obtain ⟨gs, cs, l, t, e1, e2, e3, r⟩ := sa
      exact ⟨gs, cs, l, t, by rw [upd_ne (Ne.symm x)]; exact e1, by rw [upd_ne (Ne.symm y)]; exact e2, by rw [upd_ne (Ne.symm z)]; exact e3, r⟩
    refine ⟨fun m σ' H' => ∃ (lv fv : List V) (l1 l2 : List D), σ' = [some (.ref p), some (.ref b), some (.ref a1), some (.ref a2)] ∧ But2 p g H H' ∧ H' a1 = some (.lst lv) ∧ H' a2 = some (.lst fv) ∧ TpA C H' lv l1 ∧ TpA C H' fv l2 ∧ (l2 ++ l1).Perm ds ∧ SA H' p g c (n + l1.length) ∧ m = l1.length, ⟨_, xs, [], ds, [], rfl, Same.but2 sG, by rw [upd_ne h12]; exact upd_same, upd_same, tb.same sG, .nil, by simp, sa.same sG, rfl⟩, ?_⟩
    rintro m σ' H' ⟨lv, fv, l1, l2, rfl, b2, e1, e2, t1, t2, pm, sa', rfl⟩
    have tst : EvT (tTest (tOp (rNeD K) (tVar 2) (tLst tNil))) [some (.ref p), some (.ref b), some (.ref a1), some (.ref a2)] H' (!l1.isEmpty) := et_neNil (C := C) (evv_var rfl) e1 t1 (sh l1 fun d hd => pm.mem_iff.mp (List.mem_append_right _ hd)).1 (sh l1 fun d hd => pm.mem_iff.mp (List.mem_append_right _ hd)).2
    refine tst H' (Same.refl _) _ fun H2 s2 => ?_
    have lens : l1.length + l2.length = ds.length := by have := pm.length_eq; rw [List.length_append] at this; omega
    cases l1 with
    | nil =>
      refine iteF ⟨_, rfl, q a2 fv l2 H2 (But2.trans b2 (Same.but2 s2)) (sa'.same s2) n2 (s2 _ _ e2) (t2.same s2) (by simpa using pm)⟩
    | cons d0 l1 =>
      refine iteT ⟨fun σ' H' => ∃ (lv fv : List V) (l1' l2 : List D), σ' = [some (.ref p), some (.ref b), some (.ref a1), some (.ref a2)] ∧ But2 p g H H' ∧ H' a1 = some (.lst lv) ∧ H' a2 = some (.lst fv) ∧ TpA C H' lv l1' ∧ TpA C H' fv l2 ∧ (l2 ++ l1').Perm ds ∧ SA H' p g c (n + l1'.length) ∧ l1'.length < (d0 :: l1).length, ?_, ?_⟩
      · rintro σ' H' ⟨lv, fv, l1', l2, r1, r2, r3, r4, r5, r6, r7, r8, r9⟩
        exact ⟨_, r9, lv, fv, l1', l2, r1, r2, r3, r4, r5, r6, r7, r8, rfl⟩
      · have e1' := s2 _ _ e1
        have e2' := s2 _ _ e2
        have ll : lv.length = (d0 :: l1).length := t1.length
        have lf : fv.length = l2.length := t2.length
        have lc : (d0 :: l1).length = l1.length + 1 := List.length_cons
        refine ⟨_, rfl, .inl ⟨rfl, fv, .inl (.inl e2')⟩, _, rfl, .inl ⟨rfl, lv, .inl (.inl e1')⟩, _, rfl, _, rfl, a1, lv, rfl, .inl (.inl (.inl e1')), p, g, c, n + l1.length, _, rfl, sa'.same s2, ⟨by omega, by omega⟩, fun i H3 i0 i1 b3 sa3 => ?_⟩
        have st3 : Stay H2 H3 := (sa'.same s2).stay b3
        have e13 := b3 a1 _ ap ag e1'
        have e23 := b3 a2 _ ap2 ag2 e2'
        obtain ⟨y, hy⟩ : ∃ y, lv[i.toNat]? = some y := ⟨_, List.getElem?_eq_getElem (by omega)⟩
        refine ⟨a1, lv, i, i.toNat, y, rfl, rfl, e13, by omega, by omega, seqIx i0 i1, hy, ?_⟩
        have t13 := (t1.same s2).stay st3
        have t23 := (t2.same s2).stay st3
        obtain ⟨dd, hdy, ty⟩ := t13.getV hy
        have hdd := hdy
        have st4 : Stay H3 (upd H3 a1 (.lst (lv.eraseIdx i.toNat))) := But.stay (p := a1) but_up (notImm_lst e13)
        have e24 : upd H3 a1 (.lst (lv.eraseIdx i.toNat)) a2 = some (.lst fv) := by rw [upd_ne (Ne.symm h12)]; exact e23
        have e14 : upd H3 a1 (.lst (lv.eraseIdx i.toNat)) a1 = some (.lst (lv.eraseIdx i.toNat)) := upd_same
        have b4 : But2 p g H (upd H3 a1 (.lst (lv.eraseIdx i.toNat))) := fun z o zp zg ez => by
          rw [upd_ne (fun y => by rw [y, h1] at ez; cases ez)]
          exact b3 z o zp zg (s2 _ _ (b2 z o zp zg ez))
        have sa4 := updSA (o := .lst (lv.eraseIdx i.toNat)) sa3 ap ag ac
        generalize upd H3 a1 (.lst (lv.eraseIdx i.toNat)) = H4 at st4 e24 e14 b4 sa4 ⊢
        refine ⟨a2, fv, y, rfl, rfl, e24, small_lt (m := 1000) (by omega) (by omega), ?_⟩
        have st5 : Stay H4 (upd H4 a2 (.lst (fv ++ [y]))) := But.stay (p := a2) but_up (notImm_lst e24)
        refine ⟨lv.eraseIdx i.toNat, fv ++ [y], (d0 :: l1).eraseIdx i.toNat, l2 ++ [dd], rfl, ?_, ?_, upd_same, ?_, ?_, ?_, ?_, ?_⟩
        · intro z o zp zg ez
          rw [upd_ne (fun y => by rw [y, n2] at ez; cases ez)]
          exact b4 z o zp zg ez
        · rw [upd_ne h12]; exact e14
        · exact ((TpA.erase i.toNat t13).stay st4).stay st5
        · exact ((t23.stay st4).stay st5).append (.cons ((ty.stay st4).stay st5) .nil)
        · have := erase_perm hdd
          refine List.Perm.trans ?_ pm
          rw [List.append_assoc]
          exact List.Perm.append_left l2 this
        · have : ((d0 :: l1).eraseIdx i.toNat).length = l1.length := by rw [List.length_eraseIdx_of_lt (by omega)]; omega
          rw [this]
          exact updSA sa4 ap2 ag2 ac2
        · rw [List.length_eraseIdx_of_lt (by omega)]; omega
end
end Kw

set_option Elab.async false
set_option linter.all false
set_option maxRecDepth 100000
set_option maxHeartbeats 4000000
/-! Doors drawn. -/
namespace Kw
open PySem PySem.Spec PyProof.Rows L2 Y
local macro_rules | `(tactic| trivial) => `(tactic| first
  | with_reducible exact ev_int
  | with_reducible exact ev_bl
  | with_reducible exact ev_non
  | with_reducible exact ea_nil
  | with_reducible exact et_yes
  | ((with_reducible apply ev_var); exact rfl; first | exact .num _ | exact .bl _ | exact .non | assumption)
  | ((with_reducible apply ea_cons); trivial; trivial)
  | ((with_reducible apply ev_tup); trivial; first | decide | (show _ ≤ sizeLine; simp; decide))
  | ((with_reducible apply ev_ix0); trivial; trivial; exact rfl)
  | ((with_reducible apply ev_ix1); trivial; trivial; exact rfl)
  | ((with_reducible apply ev_ix2); trivial; trivial; exact rfl)
  | ((with_reducible apply ev_ix3); trivial; trivial; exact rfl)
  | ((with_reducible apply ev_opI); trivial; trivial)
  | ((with_reducible apply ev_opB); trivial; trivial)
  | ((with_reducible apply ev_eqI); trivial; trivial)
  | ((with_reducible apply ev_neI); trivial; trivial)
  | ((with_reducible apply ev_un); trivial)
  | ((with_reducible apply ev_chain); trivial; trivial; trivial)
  | ((with_reducible apply ev_abs); trivial)
  | ((with_reducible apply ev_intI); trivial)
  | ((with_reducible apply ev_gcd); trivial; trivial)
  | ((with_reducible apply ev_lenT); trivial)
  | ((with_reducible apply et_test); trivial)
  | ((with_reducible apply et_B); trivial)
  | ((with_reducible apply et_not); trivial)
  | ((with_reducible apply et_and); trivial; (intro _; trivial))
  | ((with_reducible apply et_or); trivial; (intro _; trivial))
  | ((with_reducible apply ev_andV); trivial; (intro _; trivial))
  | ((with_reducible apply ev_orV); trivial; (intro _; trivial))
  | ((with_reducible apply ev_notV); trivial)
  | ((with_reducible apply ev_isN); trivial)
  | ((with_reducible apply ev_notN); trivial)
  | ((with_reducible apply ev_isiII); trivial)
  | ((with_reducible apply ev_isiIB); trivial)
  | ((with_reducible apply ev_isiTT); trivial)
  | ((with_reducible apply ev_isH); trivial))
/-- doors drawn so far: right ones, that join the rooms below k -/
structure GD (B : Nat) (rooms k : Int) (ds : List Door) : Prop where
  b9 : B ≤ 999
  ok : ∀ d ∈ ds, DOk rooms d ∧ d.2.1.natAbs ≤ B ∧ d.2.2.2.natAbs ≤ B
  con : ∀ r : Int, 1 ≤ r → r < k → ∃ e ∈ MJ.edges ds, e.2 = r ∧ 0 ≤ e.1 ∧ e.1 < r
theorem GD.nil {B : Nat} (hB : B ≤ 999) (rooms : Int) : GD B rooms 1 [] := ⟨hB, (fun d h => nomatch h), fun r h1 h2 => by omega⟩
def Sz (B : Nat) (x : Int) : Prop := x ≠ 0 ∧ x.natAbs ≤ B
theorem GD.snoc {B : Nat} {rooms k : Int} {ds : List Door} (h : GD B rooms k ds) {a x b y : Int} (ha : 0 ≤ a ∧ a < rooms) (hx : Sz B x) (hb : 0 ≤ b ∧ b < rooms) (hy : Sz B y) : GD B rooms k (ds ++ [(a, x, b, y)]) := by
  have b9 := h.b9
  refine ⟨h.b9, fun d hd => ?_, fun r h1 h2 => ?_⟩
  · rcases List.mem_append.mp hd with hd | hd
    · exact h.ok d hd
    · have : d = (a, x, b, y) := by simpa using hd
      subst this
      refine ⟨⟨ha, hb, ⟨hx.1, ?_, ?_⟩, ⟨hy.1, ?_, ?_⟩⟩, hx.2, hy.2⟩
      · have := hx.2; show -999 ≤ x; omega
      · have := hx.2; show x ≤ 999; omega
      · have := hy.2; show -999 ≤ y; omega
      · have := hy.2; show y ≤ 999; omega
  · obtain ⟨e, he, r⟩ := h.con r h1 h2
    exact ⟨e, by rw [MJ.edges_app]; exact List.mem_append_left _ he, r⟩
theorem GD.snoc2 {B : Nat} {rooms k : Int} {ds : List Door} (h : GD B rooms k ds) {a x y : Int} (ha : 0 ≤ a ∧ a < k) (hx : Sz B x) (hk : k < rooms) (hy : Sz B y) : GD B rooms (k + 1) (ds ++ [(a, x, k, y)]) := by
  refine ⟨h.b9, (h.snoc (a := a) (b := k) ⟨ha.1, by omega⟩ hx ⟨by omega, hk⟩ hy).ok, fun r h1 h2 => ?_⟩
  by_cases hr : r = k
  · subst hr
    exact ⟨(a, r), by rw [MJ.edges_app]; exact List.mem_append_right _ (by simp [MJ.edges]), rfl, ha.1, ha.2⟩
  · obtain ⟨e, he, r⟩ := h.con r h1 (by omega)
    exact ⟨e, by rw [MJ.edges_app]; exact List.mem_append_left _ he, r⟩
theorem paired_mem {α β : Type} {R : α → β → Prop} : ∀ {l : List α} {m : List β}, Paired R l m → (∀ a ∈ l, ∃ b ∈ m, R a b) ∧ ∀ b ∈ m, ∃ a ∈ l, R a b
  | _, _, .nil => ⟨(fun a h => nomatch h), fun b h => nomatch h⟩
  | _, _, .cons x y => by
    obtain ⟨h1, h2⟩ := paired_mem y
    refine ⟨fun a ha => ?_, fun b hb => ?_⟩
    · rcases List.mem_cons.mp ha with rfl | ha
      · exact ⟨_, List.mem_cons_self, x⟩
      · obtain ⟨b, hb, r⟩ := h1 a ha
        exact ⟨b, List.mem_cons_of_mem _ hb, r⟩
    · rcases List.mem_cons.mp hb with rfl | hb
      · exact ⟨_, List.mem_cons_self, x⟩
      · obtain ⟨a, ha, r⟩ := h2 b hb
        exact ⟨a, List.mem_cons_of_mem _ ha, r⟩
theorem paired_snoc {α β : Type} {R : α → β → Prop} {a : α} {b : β} (r : R a b) : ∀ {l : List α} {m : List β}, Paired R l m → Paired R (l ++ [a]) (m ++ [b])
  | _, _, .nil => .cons r .nil
  | _, _, .cons x y => .cons x (paired_snoc r y)
def flp (d : Door) : Door := (d.2.2.1, d.2.2.2, d.1, d.2.1)
theorem GD.mem {B : Nat} {rooms k : Int} {ds ds' : List Door} (h : Kw.GD B rooms k ds) (h1 : ∀ d ∈ ds', d ∈ ds ∨ flp d ∈ ds) (h2 : ∀ d ∈ ds, d ∈ ds' ∨ flp d ∈ ds') : GD B rooms k ds' := by
  refine ⟨h.b9, fun d hd => ?_, fun r r1 r2 => ?_⟩
  · rcases h1 d hd with hd | hd
    · exact h.ok d hd
    · obtain ⟨⟨a, b, c, e⟩, x, y⟩ := h.ok _ hd
      exact ⟨⟨b, a, e, c⟩, y, x⟩
  · obtain ⟨e, he, r⟩ := h.con r r1 r2
    refine ⟨e, ?_, r⟩
    obtain ⟨d, hd, he⟩ := List.mem_flatMap.mp he
    rcases h2 d hd with hd | hd
    · exact List.mem_flatMap.mpr ⟨d, hd, he⟩
    · refine List.mem_flatMap.mpr ⟨flp d, hd, ?_⟩
      simp only [List.mem_cons, List.not_mem_nil, or_false] at he ⊢
      rcases he with rfl | rfl
      · exact .inr rfl
      · exact .inl rfl
theorem flp_flp (d : Door) : flp (flp d) = d := rfl
theorem GD.flips {B : Nat} {rooms k : Int} {ds ds' : List Door} (h : Kw.GD B rooms k ds) (r : Paired (fun d d' => d' = d ∨ d' = flp d) ds ds') : Kw.GD B rooms k ds' := by
  obtain ⟨h1, h2⟩ := paired_mem r
  refine h.mem (fun d hd => ?_) (fun d hd => ?_)
  · obtain ⟨e, he, x | x⟩ := h2 d hd
    · exact .inl (x ▸ he)
    · refine .inr ?_
      rw [x, flp_flp]; exact he
  · obtain ⟨e, he, x | x⟩ := h1 d hd
    · exact .inl (x ▸ he)
    · exact .inr (x ▸ he)
theorem GD.perm {B : Nat} {rooms k : Int} {ds ds' : List Door} (h : Kw.GD B rooms k ds) (r : ds'.Perm ds) : Kw.GD B rooms k ds' := h.mem (fun d hd => .inl (r.mem_iff.mp hd)) (fun d hd => .inl (r.mem_iff.mpr hd))
theorem perm_map {α β : Type} {f : α → β} : ∀ {l : List α} {m : List β}, m.Perm (l.map f) → ∃ l' : List α, m = l'.map f ∧ l'.Perm l := by
  intro l m h
  have key : ∀ (m m' : List β), m.Perm m' → ∀ l, m' = l.map f → ∃ l' : List α, m = l'.map f ∧ l'.Perm l := by
    intro m m' h
    induction h with
    | nil => intro l e; exact ⟨[], rfl, by have : l = [] := by simpa using e.symm
                                           subst this; exact List.Perm.refl _⟩
    | cons x h ih =>
      intro l e
      cases l with
      | nil => simp at e
      | cons y l =>
        rw [List.map_cons] at e
        injection e with e1 e2
        obtain ⟨l', h1, h2⟩ := ih l e2
        exact ⟨y :: l', by rw [List.map_cons, h1, e1], h2.cons y⟩
    | swap x y l0 =>
      intro l e
      match l, e with
      | a :: b :: l, e =>
        rw [List.map_cons, List.map_cons] at e
        injection e with e1 e2
        injection e2 with e2 e3
        exact ⟨b :: a :: l, by rw [List.map_cons, List.map_cons, e1, e2, e3], List.Perm.swap a b l⟩
      | [_], e => simp at e
      | [], e => simp at e
    | trans h1 h2 ih1 ih2 =>
      intro l e
      obtain ⟨l2, a, b⟩ := ih2 l e
      obtain ⟨l1, c, d⟩ := ih1 l2 a
      exact ⟨l1, c, d.trans b⟩
  exact key _ _ h l rfl
theorem doors_sh (ds : List Door) : ∀ l : List D, (∀ d ∈ l, d ∈ ds.map doorD) → flatA l = true ∧ SeqAt.shaped (.list (pyA l)) = true := by
  intro l hl
  obtain ⟨ds', rfl⟩ : ∃ ds' : List Door, l = ds'.map doorD := by
    induction l with
    | nil => exact ⟨[], rfl⟩
    | cons x l ih =>
      obtain ⟨ds', e⟩ := ih fun d hd => hl d (by simp [hd])
      obtain ⟨d, _, e2⟩ := List.mem_map.mp (hl x (by simp))
      exact ⟨d :: ds', by rw [List.map_cons, e, e2]⟩
  exact ⟨doors_flat ds', doors_shaped ds'⟩
/-- all but p, q and r is as it was -/
def But3 (p q r : Addr) (H H' : Hp) : Prop := ∀ b o, b ≠ p → b ≠ q → b ≠ r → H b = some o → H' b = some o
section
variable {C : Addr} {K : PySem.W.Frag} {wi : TI} {g : TG} {te : TE} {σ : L2.St} {H : Hp} {ds : List D} {Fk : List Addr} {vs : List Nat} {Q : VK}
/-- a loop over what a source gives -/
theorem for_src {It : L2.It} {F : List Addr} {tb : TS} {Ds : Ends} {H1 : Hp} (S : Src C It H1 ds F) (J : Nat → L2.St → Hp → Prop) (h0 : J 0 σ H1) (hst : ∀ i σ' H', J i σ' H' → Stay H1 H' ∧ ∀ b ∈ F, ∀ o, H1 b = some o → H' b = some o)
    (hs : ∀ i d x σ' H', ds[i]? = some d → J i σ' H' → Tp C H' x d → ∃ σ2, GB g σ' H' x σ2 ∧ tb { nx := J (i + 1), rt := Ds.rt, bk := Ds.nx, ct := J (i + 1) } σ2 H') (hd : ∀ σ' H', J ds.length σ' H' → Ds.nx σ' H') :
    ∃ W : Nat → Nat → L2.St → Hp → Prop, (∃ m, W 0 m σ H1) ∧ ∀ i m σ H, W i m σ H → (It.stop i H ∧ Ds.nx σ H) ∨ (It.go i H ∧ ∃ N : L2.St → Hp → Prop, (∀ σ' H', N σ' H' → ∃ m', m' < m ∧ W (i + 1) m' σ' H') ∧
      ∀ x H', It.yld i H x H' → g x σ H' fun σ2 H2 => tb { Ds with nx := N, ct := N, bk := Ds.nx } σ2 H2) := by
  refine for_any (n := ds.length) J h0 (fun i σ' H' hi j => S.go i H' (hst i σ' H' j).1 (hst i σ' H' j).2 hi) (fun σ' H' j => S.stop H' (hst _ σ' H' j).1 (hst _ σ' H' j).2) ?_ (fun σ' H' j => hd σ' H' j)
  intro i x σ' H' H'' hi j y
  obtain ⟨rfl, d, e1, e2⟩ := S.yld i x H' H'' (hst i σ' H' j).1 (hst i σ' H' j).2 hi y
  obtain ⟨σ2, g2, b2⟩ := hs i d x σ' H'' e1 j e2
  exact g2 _ b2
/-- [e for x in ..] whose e may change what is not walked -/
theorem lc_gen2 (h : EvI C wi σ H ds Fk) (J : Hp → Addr → Nat → List V → Hp → Prop)
    (h0 : ∀ G D, Same H G → G D = none → J G D 0 [] (upd G D (.lst [])))
    (hst : ∀ G D i xs H', Same H G → G D = none → J G D i xs H' → Stay G H' ∧ (∀ b o, (H b = none ∨ b ∈ Fk) → G b = some o → H' b = some o) ∧ H' D = some (.lst xs) ∧ xs.length = i)
    (hb : ∀ G D i xs d x H', Same H G → G D = none → ds[i]? = some d → J G D i xs H' → Tp C H' x d → ∃ σ2, GB g (wipe σ vs) H' x σ2 ∧ wipe σ2 vs = wipe σ vs ∧ ∀ R : VK, (∀ y H4, H4 D = some (.lst xs) → J G D (i + 1) (xs ++ [y]) (upd H4 D (.lst (xs ++ [y]))) → R y H4) → te σ2 H' R)
    (hl : ds.length ≤ sizeLine)
    (q : ∀ G D xs H', Same H G → G D = none → J G D ds.length xs H' → Q (.ref D) H') : tLc wi g tYes te vs σ H Q := by
  refine h H (Same.refl _) _ fun It H2 F s2 hF S => fun Dd hD => ?_
  refine ⟨fun i m H' => m = ds.length - i ∧ i ≤ ds.length ∧ ∃ xs, J H2 Dd i xs H', ⟨ds.length, rfl, Nat.zero_le _, [], h0 H2 Dd s2 hD⟩, ?_⟩
  rintro i m H' ⟨rfl, hi, xs, j⟩
  obtain ⟨st, fr0, e, xl⟩ := hst H2 Dd i xs H' s2 hD j
  have fr : ∀ b ∈ F, ∀ o, H2 b = some o → H' b = some o := fun b hb o e => fr0 b o (hF b hb) e
  by_cases hlt : i < ds.length
  · refine .inr ⟨S.go i H' st fr hlt, fun H3 => ∃ xs, J H2 Dd (i + 1) xs H3, fun H3 q3 => ⟨_, by omega, rfl, hlt, q3⟩, ?_⟩
    intro x H3 y
    obtain ⟨rfl, d, e1, e2⟩ := S.yld i x H' H3 st fr hlt y
    obtain ⟨σ2, g2, w2, he⟩ := hb H2 Dd i xs d x H3 s2 hD e1 j e2
    refine g2 _ ⟨w2, ?_⟩
    unfold tYes
    refine iteT ?_
    exact he _ fun y H4 e4 j4 => ⟨xs, e4, by omega, _, j4⟩
  · have : i = ds.length := by omega
    subst this
    exact .inl ⟨S.stop H' st fr, q H2 Dd xs H' s2 hD j⟩
end
section
variable {P : Program} {w : World} {K : PySem.W.Frag} {mg : Str → Option Value} {base : Heap} {C : Addr}
theorem sc__law_gr_size : FnScope ["state", "sizes_here"] ["state", "sizes_here"] (defScope s__law_gr_size) := ⟨rfl, rfl, rfl, by decide +kernel, rfl, by decide +kernel, by decide +kernel⟩
/-- a list of sizes at b -/
def SzL (B : Nat) (H : Hp) (b p g : Addr) : Prop := b ≠ p ∧ b ≠ g ∧ ∃ ns : List Int, H b = some (.lst (ns.map V.int)) ∧ (0 < ns.length ∧ ns.length < 1000) ∧ ∀ x ∈ ns, 1 ≤ x ∧ x ≤ (B : Int)
abbrev sp__law_gr_size : Sp := fun vs H Q _ => ∃ (p g c : Addr) (n : Nat) (b : Addr) (B : Nat), vs = [.ref p, .ref b] ∧ SA H p g c (n + 2) ∧ B ≤ 999 ∧ SzL B H b p g ∧ ∀ i H', Sz B i → But2 p g H H' → SA H' p g c n → Q (.int i) H'
theorem ok__law_gr_size (F : Df K mg "_law_gr_size" s__law_gr_size) (B : Bi K mg C) (h__law_pick : Cl P w K mg base "_law_pick" 3 ["state", "several"] sp__law_pick) : Cl P w K mg base "_law_gr_size" 4 ["state", "sizes_here"] sp__law_gr_size := by
  refine F.cl sc__law_gr_size (fun _ _ _ _ _ _ us hl => match us, hl with | [_, _], _ => rfl) (fun vs H Q E h => ?_) (fun f cdv A outer s H vs Q E hr h => ?_)
  · obtain ⟨p, g, c, n, b, B, rfl, _⟩ := h; rfl
  · obtain ⟨p, g, c, n, b, B', rfl, sa, hB9, ⟨bp, bg, ns, hb, ⟨n0, n1⟩, hns⟩, q⟩ := h
    refine ⟨_, (pss_one (ps_ret (pe_op op_mul (pe_cl h__law_pick (hr.mono (by decide)) (by rfl) (pa_cons (pv 0) (pa_cons (pv 1) pa_nil))) (pe_cl h__law_pick (hr.mono (by decide)) (by rfl) (pa_cons (pv 0) (pa_cons (pe_lst (pa_cons pe_int (pa_cons pe_int (pa_cons (pe_un un_neg pe_int) pa_nil)))) pa_nil)))))), ?_⟩
    refine ⟨_, rfl, _, rfl, p, g, c, n + 1, b, ns.map V.int, rfl, sa, hb, bp, bg, ⟨by rw [List.length_map]; exact n0, by rw [List.length_map]; exact n1⟩, fun i x H2 hx b2 sa2 => ?_⟩
    obtain ⟨k, hk, rfl⟩ : ∃ k : Int, ns[i]? = some k ∧ x = .int k := by
      rw [List.getElem?_map] at hx
      obtain ⟨k, h1, h2⟩ := Option.map_eq_some_iff.mp hx
      exact ⟨k, h1, h2.symm⟩
    have hk2 := hns k (List.mem_of_getElem? hk)
    refine ⟨_, rfl, 1, rfl, by rw [show ([V.int 1, V.int 1, V.int (-1)] : List V).length = 3 from rfl]; exact small_len (m := 3) (by omega) (by omega), fun a ha => ?_⟩
    have sn : Same H2 (upd H2 a (.lst [V.int 1, V.int 1, V.int (-1)])) := Same.new ha
    refine ⟨p, g, c, n, a, [V.int 1, V.int 1, V.int (-1)], rfl, sa2.same sn, upd_same, fun z => sa2.sp (by rw [← z]; exact ha), fun z => sa2.sg (by rw [← z]; exact ha), ⟨by show 0 < 3; omega, by show 3 < 1000; omega⟩, fun j y H3 hy b3 sa3 => ?_⟩
    obtain ⟨m, rfl, hm⟩ : ∃ m : Int, y = .int m ∧ (m = 1 ∨ m = -1) := by
      match j, hy with
      | 0, hy => exact ⟨1, by simpa using hy.symm, .inl rfl⟩
      | 1, hy => exact ⟨1, by simpa using hy.symm, .inl rfl⟩
      | 2, hy => exact ⟨-1, by simpa using hy.symm, .inr rfl⟩
      | j + 3, hy => simp at hy
    refine ⟨k, m, rfl, rfl, .inl ⟨by omega, by omega⟩, q (k * m) H3 ?_ (But2.trans b2 (But2.trans (Same.but2 sn) b3)) sa3⟩
    rcases hm with rfl | rfl
    · rw [Int.mul_one]; exact ⟨by omega, by omega⟩
    · rw [Int.mul_neg, Int.mul_one]; exact ⟨by omega, by omega⟩
theorem sc__law_gr_doors : FnScope ["state", "rooms_here", "more", "sizes_here", "found", "room_here", "turn", "one", "other", "item"] ["state", "rooms_here", "more", "sizes_here"] (defScope s__law_gr_doors) := ⟨rfl, rfl, rfl, by decide +kernel, rfl, by decide +kernel, by decide +kernel⟩
abbrev sp__law_gr_doors (C : Addr) : Sp := fun vs H Q _ => ∃ (p g c : Addr) (n : Nat) (rooms more : Int) (b : Addr) (B : Nat), vs = [.ref p, .int rooms, .int more, .ref b] ∧ SA H p g c (n + 200) ∧ (1 ≤ rooms ∧ rooms ≤ 7) ∧ (0 ≤ more ∧ more ≤ 4) ∧ B ≤ 999 ∧ SzL B H b p g ∧ ∀ v ds H', But2 p g H H' → SA H' p g c n → Tp C H' v (.tup (ds.map doorD)) → HOk rooms ds → (rooms - 1 ≤ ds.length ∧ ds.length ≤ rooms - 1 + more) → (∀ d ∈ ds, d.2.1.natAbs ≤ B ∧ d.2.2.2.natAbs ≤ B) → Q v H'
theorem ok__law_gr_doors (F : Df K mg "_law_gr_doors" s__law_gr_doors) (B : Bi K mg C) (h__law_draw : Cl P w K mg base "_law_draw" 2 ["state", "size_here"] sp__law_draw) (h__law_gr_size : Cl P w K mg base "_law_gr_size" 4 ["state", "sizes_here"] sp__law_gr_size) (h__law_mixed : Cl P w K mg base "_law_mixed" 3 ["state", "several"] (sp__law_mixed C)) : Cl P w K mg base "_law_gr_doors" 5 ["state", "rooms_here", "more", "sizes_here"] (sp__law_gr_doors C) := by
  refine F.cl sc__law_gr_doors (fun _ _ _ _ _ _ us hl => match us, hl with | [_, _, _, _], _ => rfl) (fun vs H Q E h => ?_) (fun f cdv A outer s H vs Q E hr h => ?_)
  · obtain ⟨p, g, c, n, rooms, more, b, B, rfl, _⟩ := h; rfl
  · obtain ⟨p, g, c, n, rooms, more, b, BB, rfl, sa, ⟨r1, r3⟩, ⟨m0, m2⟩, hB, sz, q⟩ := h
    refine ⟨_, (pss_cons (ps_set (i := 4) sc__law_gr_doors.nd rfl (by first | exact Or.inl rfl | exact Or.inr rfl) (pe_lst pa_nil))
      (pss_cons (ps_for PassesOwn.never rfl (pi_range2 (by rfl) B.range (pa_cons pe_int (pa_cons (pv 1) pa_nil))) (pg_name (i := 5) sc__law_gr_doors.nd rfl (by first | exact Or.inl rfl | exact Or.inr rfl)) (pss_one (ps_expr (pe_bm PySem.F.plainAttrs_list PySem.F.slot_list_append PySem.F.type_list_append mt_append (pv 4) (pa_cons (pe_tup (pa_cons (pe_cl h__law_draw (hr.mono (by decide)) (by rfl) (pa_cons (pv 0) (pa_cons (pv 5) pa_nil))) (pa_cons (pe_cl h__law_gr_size (hr.mono (by decide)) (by rfl) (pa_cons (pv 0) (pa_cons (pv 3) pa_nil))) (pa_cons (pv 5) (pa_cons (pe_cl h__law_gr_size (hr.mono (by decide)) (by rfl) (pa_cons (pv 0) (pa_cons (pv 3) pa_nil))) pa_nil))))) pa_nil)))))
      (pss_cons (ps_for PassesOwn.never rfl (pi_range1 (by rfl) B.range (pa_cons (pe_cl h__law_draw (hr.mono (by decide)) (by rfl) (pa_cons (pv 0) (pa_cons (pe_op op_add (pv 2) pe_int) pa_nil))) pa_nil)) (pg_name (i := 6) sc__law_gr_doors.nd rfl (by first | exact Or.inl rfl | exact Or.inr rfl)) (pss_cons (ps_par (i := 7) (j := 8) (by rfl) sc__law_gr_doors.nd rfl rfl (by decide) rfl rfl (pa_cons (pe_cl h__law_draw (hr.mono (by decide)) (by rfl) (pa_cons (pv 0) (pa_cons (pv 1) pa_nil))) (pa_cons (pe_cl h__law_draw (hr.mono (by decide)) (by rfl) (pa_cons (pv 0) (pa_cons (pv 1) pa_nil))) pa_nil)) (by rfl))
      (pss_one (ps_expr (pe_bm PySem.F.plainAttrs_list PySem.F.slot_list_append PySem.F.type_list_append mt_append (pv 4) (pa_cons (pe_tup (pa_cons (pv 7) (pa_cons (pe_cl h__law_gr_size (hr.mono (by decide)) (by rfl) (pa_cons (pv 0) (pa_cons (pv 3) pa_nil))) (pa_cons (pv 8) (pa_cons (pe_cl h__law_gr_size (hr.mono (by decide)) (by rfl) (pa_cons (pv 0) (pa_cons (pv 3) pa_nil))) pa_nil))))) pa_nil))))))
      (pss_cons (ps_setLc (i := 4) (own := [("item", 9)]) (tt := tYes) (te := tIf _ _ (tTup (tCons (tOp (rIxT K) _ _) (tCons (tOp (rIxT K) _ _) (tCons (tOp (rIxT K) _ _) (tCons (tOp (rIxT K) _ _) tNil)))))) rfl sc__law_gr_doors.nd rfl rfl (sw_true rfl rfl rfl (by decide +kernel)) (pi_list (pv 4)) (blkOk_by (own := [("item", 9)]) (N := ["state", "rooms_here", "more", "sizes_here", "found", "room_here", "turn", "one", "other", "item"]) (sc := defScope s__law_gr_doors) (by decide +kernel)) (fun _ _ _ _ _ => (pg_name (i := 9) sc__law_gr_doors.nd rfl (by first | exact Or.inl rfl | exact Or.inr rfl))) (fun _ _ _ _ _ => pts_nil) (fun _ _ _ _ _ => (pe_ifExp (pt_cmpR op_eq (pe_cl h__law_draw (hr.mono (by decide)) (by rfl) (pa_cons (pv 0) (pa_cons pe_int pa_nil))) pe_int (nomark _)) (pv 9) (pe_tup (pa_cons (pe_ix ix_tup (pv 9) pe_int (fun _ _ => rfl)) (pa_cons (pe_ix ix_tup (pv 9) pe_int (fun _ _ => rfl)) (pa_cons (pe_ix ix_tup (pv 9) pe_int (fun _ _ => rfl)) (pa_cons (pe_ix ix_tup (pv 9) pe_int (fun _ _ => rfl)) pa_nil))))))))
      (pss_one (ps_ret (pe_callTy call_tuple_of (by rfl) B.tuple (by decide +kernel) (pa_cons (pe_cl h__law_mixed (hr.mono (by decide)) (by rfl) (pa_cons (pv 0) (pa_cons (pv 4) pa_nil))) pa_nil)))))))), ?_⟩
    obtain ⟨bp, bg, ns, hb, nl, hns⟩ := id sz
    apply st_setL (C := C) (ds := [])
    · apply evl_lst
      · trivial
      · exact Nat.zero_le _
    intro a vs0 H1 s1 hn ha r0
    cases tpa_nil r0
    have ap : a ≠ p := fun z => sa.sp (by rw [← z]; exact hn)
    have ag : a ≠ g := fun z => sa.sg (by rw [← z]; exact hn)
    have ac : a ≠ c := fun z => sa.sc (by rw [← z]; exact hn)
    have ba : b ≠ a := fun z => by rw [z, hn] at hb; cases hb
    have updSA : ∀ {H' : Hp} {m : Nat} {o : HO}, SA H' p g c m → SA (upd H' a o) p g c m := by
      intro H' m o sa
      obtain ⟨gs, cs, l, t, e1, e2, e3, r⟩ := sa
      exact ⟨gs, cs, l, t, by rw [upd_ne (Ne.symm ap)]; exact e1, by rw [upd_ne (Ne.symm ag)]; exact e2, by rw [upd_ne (Ne.symm ac)]; exact e3, r⟩
    have szAt : ∀ {H' : Hp}, But2 p g H H' → SzL BB H' b p g := fun b2 => ⟨bp, bg, ns, b2 b _ bp bg hb, nl, hns⟩
    -- what stands through the loops
    let J : List Door → Nat → Hp → Prop := fun ds m H' => But2 p g H H' ∧ SA H' p g c m ∧ ∃ vs, H' a = some (.lst vs) ∧ TpA C H' vs (ds.map doorD)
    have jstay : ∀ {ds m H'}, J ds m H' → ∀ {H''}, But2 p g H' H'' → ∀ {m'}, SA H'' p g c m' → J ds m' H'' := by
      rintro ds m H' ⟨b2, sa', vs, e, t⟩ H'' b3 m' sa''
      exact ⟨But2.trans b2 b3, sa'', vs, b3 a _ ap ag e, t.stay (sa'.stay b3)⟩
    have jsame : ∀ {ds m H'}, J ds m H' → ∀ {H''}, Same H' H'' → J ds m H'' := fun j _ s => jstay j (Same.but2 s) (j.2.1.same s)
    have jmono : ∀ {ds m H'}, J ds m H' → ∀ {m'}, m' ≤ m → J ds m' H' := fun j _ h => ⟨j.1, j.2.1.mono h, j.2.2⟩
    have fr : ∀ {ds0 ds m0 m G H'}, J ds0 m0 G → But3 p g a G H' → J ds m H' → (Stay G H' ∧ ∀ {Hs : Hp} b o, J ds0 m0 Hs → (Hs b = none ∨ b ∈ ([] : List Addr)) → G b = some o → H' b = some o) := by
      rintro ds0 ds m0 m G H' ⟨g1, g2, vsg, g3, g4⟩ b3 j
      refine ⟨fun z o ez iz => b3 z o (fun y => g2.np o (by rw [← y]; exact ez) iz) (fun y => g2.ng o (by rw [← y]; exact ez) iz) (fun y => notImm_lst g3 o (by rw [← y]; exact ez) iz) ez, ?_⟩
      rintro Hs z o ⟨h1, h2, vsh, h3, h4⟩ hz ez
      refine b3 z o (fun y => ?_) (fun y => ?_) (fun y => ?_) ez
      · subst y; rcases hz with hz | hz
        · exact h2.sp hz
        · exact nomatch hz
      · subst y; rcases hz with hz | hz
        · exact h2.sg hz
        · exact nomatch hz
      · subst y; rcases hz with hz | hz
        · rw [h3] at hz; cases hz
        · exact nomatch hz
    have j0 : J [] (n + 200) H1 := ⟨Same.but2 s1, sa.same s1, [], ha, .nil⟩
    have japp : ∀ {ds m H3}, J ds m H3 → ∀ {vs}, H3 a = some (.lst vs) → ∀ {qq} (d : Door), H3 qq = none → J (ds ++ [d]) m (upd (upd H3 qq (.tup [.int d.1, .int d.2.1, .int d.2.2.1, .int d.2.2.2])) a (.lst (vs ++ [.ref qq]))) := by
      rintro ds m H3 ⟨b2, sa', vs', e', t'⟩ vs e qq d hq
      have e2 : vs' = vs := by
        rw [e] at e'
        injection e' with h
        injection h with h
        exact h.symm
      rw [e2] at t'
      have sn : Same H3 (upd H3 qq (.tup [.int d.1, .int d.2.1, .int d.2.2.1, .int d.2.2.2])) := Same.new hq
      have st : Stay (upd H3 qq (.tup [.int d.1, .int d.2.1, .int d.2.2.1, .int d.2.2.2])) (upd (upd H3 qq (.tup [.int d.1, .int d.2.1, .int d.2.2.1, .int d.2.2.2])) a (.lst (vs ++ [.ref qq]))) := But.stay (p := a) but_up (notImm_lst (sn _ _ e))
      refine ⟨fun z o zp zg ez => ?_, updSA (sa'.same sn), _, upd_same, ?_⟩
      · rw [upd_ne (fun y => by rw [y, hn] at ez; cases ez)]
        exact sn _ _ (b2 z o zp zg ez)
      · rw [List.map_append]
        refine ((t'.same sn).stay st).append (.cons (Tp.stay st ?_) .nil)
        exact door_tp ⟨qq, rfl, upd_same⟩
    have bapp : ∀ {G H3 : Hp} {qq : Addr} {o : HO} {l : List V}, But3 p g a G H3 → H3 qq = none → But3 p g a G (upd (upd H3 qq o) a (.lst l)) := by
      intro G H3 qq o l b3 hq z o' zp zg za ez
      rw [upd_ne za]
      have := b3 z o' zp zg za ez
      rw [upd_ne (fun y => by rw [y, hq] at this; cases this)]
      exact this
    have b23 : ∀ {G H2 H3 : Hp}, But3 p g a G H2 → But2 p g H2 H3 → But3 p g a G H3 := fun b3 b2 z o zp zg za ez => b2 z o zp zg (b3 z o zp zg za ez)
    refine st_for (C := C) (wi := _) (ei_rng2 (C := C) (i := 1) (j := rooms) ?_ (by omega) (by omega) (by omega) (by omega)) (fun G i σ' H' => ∃ x5 ds, σ' = [some (.ref p), some (.int rooms), some (.int more), some (.ref b), some (.ref a), x5, none, none, none, none] ∧ But3 p g a G H' ∧ J ds (n + 200 - 5 * i) H' ∧ ds.length = i ∧ GD BB rooms (1 + i) ds) ?_ ?_ ?_ ?_
    · trivial
    · intro G sG
      exact ⟨none, [], rfl, fun _ _ _ _ _ h => h, jsame j0 sG, rfl, GD.nil hB rooms⟩
    · rintro G i σ' H' sG ⟨x5, ds, rfl, b3, j, _⟩
      obtain ⟨h1, h2⟩ := fr (jsame j0 sG) b3 j
      exact ⟨h1, fun z o hz ez => h2 z o j0 hz ez⟩
    · rintro G i d x σ' H' sG hi ⟨x5, ds, rfl, b3, j, dl, gd⟩ tx
      obtain ⟨hi2, rfl⟩ := rng_item2 hi
      cases tp_num tx
      refine ⟨_, gb_name, ?_⟩
      obtain ⟨b2, sa', vs, e, t⟩ := id j
      have vl : vs.length = i := by rw [t.length, List.length_map, dl]
      refine ⟨_, rfl, .inl ⟨rfl, vs, .inl (.inl e)⟩, _, rfl, _, rfl, p, g, c, n + 200 - 5 * i - 1, _, rfl, sa'.mono (by omega), ⟨by omega, by omega⟩, fun d1 H2 d10 d11 bb2 sa2 => ?_⟩
      have j2 := jstay j bb2 sa2
      refine ⟨_, rfl, _, rfl, p, g, c, n + 200 - 5 * i - 3, b, BB, rfl, sa2.mono (by omega), hB, szAt j2.1, fun s1 H3 z1 bb3 sa3 => ?_⟩
      have j3 := jstay j2 bb3 sa3
      refine ⟨_, rfl, _, rfl, _, rfl, p, g, c, n + 200 - 5 * (i + 1), b, BB, rfl, sa3.mono (by omega), hB, szAt j3.1, fun s2 H4 z2 bb4 sa4 => ?_⟩
      have j4 := jstay j3 bb4 sa4
      have e4 := bb4 a _ ap ag (bb3 a _ ap ag (bb2 a _ ap ag e))
      refine ⟨small_len (m := 4) (Nat.le_refl 4) (by omega), fun qq hq => ?_⟩
      refine ⟨a, vs, .ref qq, rfl, rfl, Same.new hq _ _ e4, small_lt (m := 100) (by omega) (by omega), ?_⟩
      refine ⟨_, ds ++ [(d1, s1, 1 + (i : Int), s2)], rfl, bapp (b23 (b23 (b23 b3 bb2) bb3) bb4) hq, japp j4 e4 (d1, s1, 1 + (i : Int), s2) hq, by simp [dl], ?_⟩
      have := gd.snoc2 (a := d1) (x := s1) (y := s2) ⟨d10, d11⟩ z1 (by omega) z2
      rw [show ((i + 1 : Nat) : Int) = (i : Int) + 1 by omega, ← Int.add_assoc]
      exact this
    rintro G σ' H2 sG ⟨x5, ds1, rfl, b3, j1, dl1, gd1⟩
    rw [List.length_map, List.length_range] at j1 dl1 gd1
    have gd1 : GD BB rooms rooms ds1 := by
      have : (1 : Int) + ((rooms - 1).toNat : Int) = rooms := by omega
      rw [this] at gd1
      exact gd1
    have j1 : J ds1 (n + 160) H2 := jmono j1 (by omega)
    have dl1 : ((ds1.length : Nat) : Int) = rooms - 1 := by omega
    clear b3 sG
    -- the second loop
    refine ⟨_, rfl, _, rfl, more, 1, rfl, rfl, p, g, c, n + 159, more + 1, rfl, j1.2.1.mono (by omega), ⟨by omega, by omega⟩, fun tn H3 tn0 tn1 bb3 sa3 => ?_⟩
    have j3 := jstay j1 bb3 sa3
    clear sa3
    refine ⟨tn, rfl, by omega, by omega, for_src (C := C) (src_rng 0 tn.toNat) (fun i σ' H' => ∃ x6 x7 x8 ds, σ' = [some (.ref p), some (.int rooms), some (.int more), some (.ref b), some (.ref a), x5, x6, x7, x8, none] ∧ But3 p g a H3 H' ∧ J ds (n + 159 - 6 * i) H' ∧ (rooms - 1 ≤ ((ds.length : Nat) : Int) ∧ ((ds.length : Nat) : Int) ≤ rooms - 1 + i) ∧ GD BB rooms rooms ds) ?_ ?_ ?_ ?_⟩
    · exact ⟨none, none, none, ds1, rfl, fun _ _ _ _ _ h => h, j3, ⟨by omega, by omega⟩, gd1⟩
    · rintro i σ' H' ⟨x6, x7, x8, ds, rfl, b3, j, _⟩
      obtain ⟨h1, h2⟩ := fr j3 b3 j
      exact ⟨h1, fun z hz => nomatch hz⟩
    · rintro i d x σ' H' hi ⟨x6, x7, x8, ds, rfl, b3, j, dl, gd⟩ tx
      obtain ⟨hi2, rfl⟩ := rng_item2 hi
      cases tp_num tx
      refine ⟨_, gb_name, ?_⟩
      obtain ⟨b2, sa', vs, e, t⟩ := id j
      have vl : vs.length ≤ 10 + i := by rw [t.length, List.length_map]; omega
      refine ⟨_, rfl, _, rfl, p, g, c, n + 159 - 6 * i - 1, _, rfl, sa'.mono (by omega), ⟨by omega, by omega⟩, fun o1 Ha o10 o11 ba2 saa => ?_⟩
      have ja := jstay j ba2 saa
      refine ⟨_, rfl, _, rfl, p, g, c, n + 159 - 6 * i - 2, _, rfl, saa.mono (by omega), ⟨by omega, by omega⟩, fun o2 Hb o20 o21 bb2 sab => ?_⟩
      have jb := jstay ja bb2 sab
      refine ⟨_, _, rfl, ?_⟩
      have eb := bb2 a _ ap ag (ba2 a _ ap ag e)
      refine ⟨_, rfl, .inl ⟨rfl, vs, .inl (.inl eb)⟩, _, rfl, _, rfl, _, rfl, p, g, c, n + 159 - 6 * i - 4, b, BB, rfl, sab.mono (by omega), hB, szAt jb.1, fun s1 Hc z1 bc2 sac => ?_⟩
      have jc := jstay jb bc2 sac
      refine ⟨_, rfl, _, rfl, _, rfl, p, g, c, n + 159 - 6 * (i + 1), b, BB, rfl, sac.mono (by omega), hB, szAt jc.1, fun s2 Hd z2 bd2 sad => ?_⟩
      have jd := jstay jc bd2 sad
      have ed := bd2 a _ ap ag (bc2 a _ ap ag eb)
      refine ⟨small_len (m := 4) (Nat.le_refl 4) (by omega), fun qq hq => ?_⟩
      refine ⟨a, vs, .ref qq, rfl, rfl, Same.new hq _ _ ed, small_lt (m := 100) (by omega) (by omega), ?_⟩
      refine ⟨_, _, _, ds ++ [(o1, s1, o2, s2)], rfl, bapp (b23 (b23 (b23 (b23 b3 ba2) bb2) bc2) bd2) hq, japp jd ed (o1, s1, o2, s2) hq, by rw [List.length_append, List.length_singleton]; omega, gd.snoc ⟨o10, o11⟩ z1 ⟨o20, o21⟩ z2⟩
    rintro σ' H4 ⟨x6, x7, x8, ds2, rfl, b3, j4, dl2, gd2⟩
    rw [List.length_map, List.length_range] at j4 dl2
    have j4 : J ds2 (n + 120) H4 := jmono j4 (by omega)
    have dl3 : ds2.length ≤ 10 := by omega
    clear b3
    obtain ⟨b4, sa4, vs4, e4, t4⟩ := j4
    have vl4 : vs4.length ≤ 10 := by rw [t4.length, List.length_map]; exact dl3
    dsimp only
    refine st_lcg ?_
    refine lc_gen2 (C := C) (H := H4) (ds := ds2.map doorD) (Fk := [a]) (ei_at (C := C) (a := a) (vs := vs4) (evv_var rfl) e4 t4) (fun G D i xs H' => But2 p g H H' ∧ SA H' p g c (n + 120 - i) ∧ But3 p g D G H' ∧ Same H4 G ∧ H' D = some (.lst xs) ∧ xs.length = i ∧ ∃ ds', TpA C H' xs (ds'.map doorD) ∧ Paired (fun d d' => d' = d ∨ d' = flp d) (ds2.take i) ds') ?_ ?_ ?_ ?_ ?_
    · intro G D sG hD
      have sD : Same H4 (upd G D (.lst [])) := Same.newer sG hD
      exact ⟨But2.trans b4 (Same.but2 sD), sa4.same sD, fun z o _ _ zD ez => by rw [upd_ne zD]; exact ez, sG, upd_same, rfl, [], .nil, .nil⟩
    · rintro G D i xs H' sG hD ⟨j1, j2, j3, j4, j5, j6, _⟩
      have sG4 := sa4.same sG
      refine ⟨fun z o ez iz => j3 z o (fun y => sG4.np o (by rw [← y]; exact ez) iz) (fun y => sG4.ng o (by rw [← y]; exact ez) iz) (fun y => by rw [y, hD] at ez; cases ez) ez, fun z o hz ez => j3 z o (fun y => ?_) (fun y => ?_) (fun y => by rw [y, hD] at ez; cases ez) ez, j5, j6⟩
      · rcases hz with hz | hz
        · exact sa4.sp (y ▸ hz)
        · exact ap (by rw [← List.mem_singleton.mp hz]; exact y)
      · rcases hz with hz | hz
        · exact sa4.sg (y ▸ hz)
        · exact ag (by rw [← List.mem_singleton.mp hz]; exact y)
    · rintro G D i xs d x H' sG hD hi ⟨j1, j2, j3, j4, j5, j6, ds', j7, j8⟩ tx
      obtain ⟨dr, hdr, rfl⟩ := map_item hi
      have hi4 : i < ds2.length := (List.getElem?_eq_some_iff.mp hdr).1
      refine ⟨_, gb_name, rfl, fun R hR => ?_⟩
      have Dp : D ≠ p := fun z => (sa4.same sG).sp (by rw [← z]; exact hD)
      have Dg : D ≠ g := fun z => (sa4.same sG).sg (by rw [← z]; exact hD)
      have Dc : D ≠ c := fun z => (sa4.same sG).sc (by rw [← z]; exact hD)
      have hDH : H D = none := by
        cases hh : H D with
        | none => rfl
        | some o => rw [sG _ _ (b4 D o Dp Dg hh)] at hD; cases hD
      refine ⟨_, rfl, p, g, c, n + 120 - (i + 1), 2, rfl, j2.mono (by omega), ⟨by decide, by decide⟩, fun k H5 k0 k1 b5 sa5 => ⟨rfl, _, rfl, ?_⟩⟩
      have st5 : Stay H' H5 := j2.stay b5
      have e5 := b5 D _ Dp Dg j5
      have tk : ds2.take (i + 1) = ds2.take i ++ [dr] := by rw [List.take_add_one, hdr]; rfl
      have fin : ∀ (y : V) (H6 : Hp) (d' : Door), Same H5 H6 → Tp C H6 y (doorD d') → (d' = dr ∨ d' = flp dr) → R y H6 := by
        intro y H6 d' s6 ty hd'
        have e6 := s6 _ _ e5
        have st6 : Stay H6 (upd H6 D (.lst (xs ++ [y]))) := But.stay (p := D) but_up (notImm_lst e6)
        refine hR y H6 e6 ⟨fun z o zp zg ez => ?_, ?_, fun z o zp zg zD ez => ?_, sG, upd_same, by simp [j6], ds' ++ [d'], ?_, ?_⟩
        · rw [upd_ne (fun y => by rw [y, hDH] at ez; cases ez)]
          exact s6 _ _ (b5 z o zp zg (j1 z o zp zg ez))
        · obtain ⟨gs, cs, l, t, e1, e2, e3, r⟩ := sa5.same s6
          exact ⟨gs, cs, l, t, by rw [upd_ne (Ne.symm Dp)]; exact e1, by rw [upd_ne (Ne.symm Dg)]; exact e2, by rw [upd_ne (Ne.symm Dc)]; exact e3, r⟩
        · rw [upd_ne zD]
          exact s6 _ _ (b5 z o zp zg (j3 z o zp zg zD ez))
        · rw [List.map_append]
          exact (((j7.stay st5).same s6).stay st6).append (.cons (ty.stay st6) .nil)
        · rw [tk]
          exact paired_snoc (R := fun d d' => d' = d ∨ d' = flp d) hd' j8
      by_cases hk : V.int k = V.int 0
      · rw [decide_eq_true hk]
        refine iteT ⟨_, rfl, fin x H5 dr (Same.refl _) (tx.stay st5) (.inl rfl)⟩
      · rw [decide_eq_false hk]
        refine iteF ?_
        have tx5 : Tp C H5 x (.tup [.num dr.1, .num dr.2.1, .num dr.2.2.1, .num dr.2.2.2]) := tx.stay st5
        have ev : EvD C (tTup (tCons (tOp (rIxT K) (tVar 9) (tC (.int 2))) (tCons (tOp (rIxT K) (tVar 9) (tC (.int 3))) (tCons (tOp (rIxT K) (tVar 9) (tC (.int 0))) (tCons (tOp (rIxT K) (tVar 9) (tC (.int 1))) tNil))))) [some (.ref p), some (.int rooms), some (.int more), some (.ref b), some (.ref a), x5, x6, x7, x8, some x] H5 (doorD (flp dr)) := by
          show EvD C _ _ _ (.tup [.num _, .num _, .num _, .num _])
          apply ev_tup
          · refine ea_cons (ev_ixi (n := 2) (ev_var rfl tx5) ev_int rfl rfl) (ea_cons (ev_ixi (n := 3) (ev_var rfl tx5) ev_int rfl rfl) (ea_cons (ev_ixi (n := 0) (ev_var rfl tx5) ev_int rfl rfl) (ea_cons (ev_ixi (n := 1) (ev_var rfl tx5) ev_int rfl rfl) ea_nil)))
          · exact small_len (m := 4) (Nat.le_refl 4) (by omega)
        refine ev H5 (Same.refl _) _ fun y H6 s6 t6 => fin y H6 (flp dr) s6 t6 (.inr rfl)
    · rw [List.length_map]; exact small_len (m := 10) dl3 (by omega)
    rintro G D xs H5 sG hD ⟨j1, j2, j3, j4, j5, j6, ds', j7, j8⟩
    rw [List.length_map] at j2 j6 j8
    rw [List.take_length] at j8
    have gd3 := gd2.flips j8
    have dl5 : ds'.length = ds2.length := (Paired.length j8).symm
    refine ⟨_, rfl, _, rfl, p, g, c, n, D, xs, ds'.map doorD, rfl, j2.mono (by rw [List.length_map]; omega), j5, j7, doors_sh ds', by rw [List.length_map]; omega, fun a' xs' dd H6 b6 sa6 hn6 e6 t6 pm0 => ?_⟩
    obtain ⟨ds'', rfl, pm⟩ := perm_map pm0
    refine ⟨a', xs', rfl, .inl ⟨.inl (.inl e6), fun l hl => ?_⟩⟩
    have sl : Same H6 (upd H6 l (.tup xs')) := Same.new hl
    have gd4 := gd3.perm pm
    have dl4 := pm.length_eq
    refine q (.ref l) ds'' _ (But2.trans j1 (But2.trans b6 (Same.but2 sl))) (sa6.same sl) (.tup upd_same (t6.same sl)) ⟨r1, by omega, by omega, fun d hd => (gd4.ok d hd).1, gd4.con⟩ ⟨by omega, by omega⟩ fun d hd => (gd4.ok d hd).2
end
end Kw

set_option linter.all false
/-! Bounds. -/
namespace MF
open MS
/-- the product of all that leave -/
def prodL (ds : List Door) : List Step → Int
  | [] => 1
  | s :: l => aux (lv ds s) * prodL ds l
theorem prodL_dvd {ds : List Door} {s : Step} : ∀ {l : List Step}, s ∈ l → aux (lv ds s) ∣ prodL ds l
  | a :: l, h => by
    rcases List.mem_cons.mp h with rfl | h
    · exact ⟨prodL ds l, rfl⟩
    · obtain ⟨c, hc⟩ := prodL_dvd h
      exact ⟨aux (lv ds a) * c, by show aux (lv ds a) * prodL ds l = _; rw [hc, Int.mul_left_comm]⟩
theorem prodL_pos {ds : List Door} : ∀ {l : List Step}, (∀ s ∈ l, lv ds s ≠ 0) → 1 ≤ prodL ds l
  | [], _ => Int.le_refl _
  | a :: l, h => by
    have h1 := aux_pos (h a (by simp))
    have h2 := prodL_pos (ds := ds) (l := l) fun s hs => h s (by simp [hs])
    have := Int.mul_le_mul h1 h2 (by omega) (by omega)
    show 1 ≤ aux (lv ds a) * prodL ds l
    omega
theorem prodL_le {ds : List Door} : ∀ {l : List Step}, (∀ s ∈ l, lv ds s ≠ 0 ∧ (lv ds s).natAbs ≤ 50) → prodL ds l ≤ 50 ^ l.length
  | [], _ => Int.le_refl _
  | a :: l, h => by
    have h1 : aux (lv ds a) ≤ 50 := by have := (h a (by simp)).2; unfold aux; omega
    have h2 := prodL_le (ds := ds) (l := l) fun s hs => h s (by simp [hs])
    have h3 := prodL_pos (ds := ds) (l := l) fun s hs => (h s (by simp [hs])).1
    have := Int.mul_le_mul h1 h2 (by omega) (by omega)
    show aux (lv ds a) * prodL ds l ≤ 50 ^ (l.length + 1)
    rw [Int.pow_succ, Int.mul_comm (50 ^ l.length)]
    exact this
theorem clN_dvd {rooms : Int} {ds : List Door} (ok : Ok rooms ds) (room : Int) : ∀ n : Nat, ∀ p ∈ clN ds n [(((room, 1, 1, none) : CKey), (1 : Int))], p.1.2.2.1 ∣ prodL ds (allSteps ds) ^ n
  | 0, p, hp => by
    have hp : p ∈ [(((room, 1, 1, none) : CKey), (1 : Int))] := hp
    have : p = ((room, 1, 1, none), 1) := by simpa using hp
    subst this
    exact Int.one_dvd _
  | n + 1, p, hp => by
    have cd := cd_clN ok (cd_start ds room) n
    have ih := clN_dvd ok room n
    have := key_adds (P := fun k : CKey => k.2.2.1 ∣ prodL ds (allSteps ds) ^ (n + 1)) ((clN ds n [((room, 1, 1, none), 1)]).flatMap fun p => clInc ds p.1 p.2) (by
      intro p hp
      obtain ⟨q, hq, hp⟩ := List.mem_flatMap.mp hp
      rw [clInc_eq ok (cd.2 q hq)] at hp
      obtain ⟨s, hs, rfl⟩ := List.mem_map.mp hp
      show q.1.2.2.1 * (aux (lv ds s) / gcdI q.1.2.1 (lv ds s)) ∣ _
      rw [Int.pow_succ]
      refine Int.mul_dvd_mul (ih q hq) (Int.dvd_trans ?_ (prodL_dvd (mem_stepsOf.mp hs).1))
      exact Int.ediv_dvd_of_dvd (gcdI_aux _ _)) (m := []) (by intro p hp; simp at hp)
    exact this p hp
/-- what is found so far stays small -/
theorem ret_small {rooms : Int} {ds : List Door} (ok : Ok rooms ds) (d4 : ds.length ≤ 4) (n50 : ∀ s ∈ allSteps ds, (lv ds s).natAbs ≤ 50) (room : Int) {L : Nat} (hL : L ≤ 7) (i : Nat) : 0 < ret ((cls ds room L).take i) ∧ ret ((cls ds room L).take i) < 2 ^ 320 := by
  have cd := cd_cls ok room L
  have f := ret_fold ((cls ds room L).take i) (fun p hp => (cd.2 p (List.mem_of_mem_take hp)).2.1) 1 Int.one_pos
  have hp := prodL_pos (ds := ds) (l := allSteps ds) fun s hs => lv_ne ok hs
  have hd : ret ((cls ds room L).take i) ∣ prodL ds (allSteps ds) ^ L := f.2.2.2 _ (Int.one_dvd _) fun p hp => clN_dvd ok room L p (List.mem_of_mem_take hp)
  have h1 : 0 < prodL ds (allSteps ds) ^ L := Int.pow_pos (by omega)
  have h2 := Int.le_of_dvd h1 hd
  have al : (allSteps ds).length ≤ 8 := by
    unfold allSteps
    have : ∀ n, ((List.range n).flatMap fun a => [(a, 0), (a, 1)] : List Step).length = 2 * n := by
      intro n
      induction n with
      | zero => rfl
      | succ n ih => rw [List.range_succ, List.flatMap_append, List.length_append, ih]; simp; omega
    rw [this]; omega
  have h3 := prodL_le (ds := ds) (l := allSteps ds) fun s hs => ⟨lv_ne ok hs, n50 s hs⟩
  have mono : ∀ (b : Int) (m n : Nat), 1 ≤ b → m ≤ n → b ^ m ≤ b ^ n := by
    intro b m n hb hmn
    induction n with
    | zero => have : m = 0 := by omega
              subst this; exact Int.le_refl _
    | succ n ih =>
      by_cases h : m = n + 1
      · subst h; exact Int.le_refl _
      · have h1 := ih (by omega)
        have h2 : 0 < b ^ n := Int.pow_pos (by omega)
        rw [Int.pow_succ]
        have := Int.mul_le_mul_of_nonneg_left hb (show 0 ≤ b ^ n by omega)
        omega
  have h4 : prodL ds (allSteps ds) ≤ 50 ^ 8 := Int.le_trans h3 (mono 50 _ _ (by decide) al)
  have h5 : ∀ n : Nat, prodL ds (allSteps ds) ^ n ≤ (50 ^ 8) ^ n := by
    intro n
    induction n with
    | zero => rw [Int.pow_zero, Int.pow_zero]; exact Int.le_refl _
    | succ n ih =>
      rw [Int.pow_succ, Int.pow_succ]
      exact Int.mul_le_mul ih h4 (by omega) (Int.le_of_lt (Int.pow_pos (by decide)))
  have h6 := Int.le_trans (h5 L) (mono (50 ^ 8) L 7 (by decide) hL)
  have h7 : ((50 : Int) ^ 8) ^ 7 < 2 ^ 320 := by decide +kernel
  exact ⟨f.1, by omega⟩
/-- how many feet at most -/
theorem SF_le {rooms : Int} {ds : List Door} (ok : Ok rooms ds) (d4 : ds.length ≤ 4) (n50 : ∀ s ∈ allSteps ds, (lv ds s).natAbs ≤ 50) : ∀ (n : Nat) (k : SKey), 0 ≤ SF ds n k ∧ SF ds n k ≤ 400 ^ n
  | 0, k => ⟨by show (0 : Int) ≤ 1; decide, Int.le_refl _⟩
  | n + 1, k => by
    have ih := SF_le ok d4 n50 n
    have al : (stepsOf ds k.1).length ≤ 8 := by
      unfold stepsOf
      refine Nat.le_trans (List.length_filter_le _ _) ?_
      unfold allSteps
      have : ∀ n, ((List.range n).flatMap fun a => [(a, 0), (a, 1)] : List Step).length = 2 * n := by
        intro n
        induction n with
        | zero => rfl
        | succ n ih => rw [List.range_succ, List.flatMap_append, List.length_append, ih]; simp; omega
      rw [this]; omega
    have one : ∀ s ∈ stepsOf ds k.1, 0 ≤ (if lv ds s ∣ k.2.1 then (aux (lv ds s) - least k.2.2 s) * SF ds n (far ds s, k.2.1.fdiv (lv ds s) * ar ds s, some s) else 0) ∧ (if lv ds s ∣ k.2.1 then (aux (lv ds s) - least k.2.2 s) * SF ds n (far ds s, k.2.1.fdiv (lv ds s) * ar ds s, some s) else 0) ≤ 50 * 400 ^ n := by
      intro s hs
      have hs := (mem_stepsOf.mp hs).1
      have a1 := aux_pos (lv_ne ok hs)
      have a2 : aux (lv ds s) ≤ 50 := by have := n50 s hs; unfold aux; omega
      have l := least_01 k.2.2 s
      obtain ⟨i1, i2⟩ := ih (far ds s, k.2.1.fdiv (lv ds s) * ar ds s, some s)
      have p0 : (0 : Int) ≤ 400 ^ n := Int.le_of_lt (Int.pow_pos (by decide))
      split
      · refine ⟨Int.mul_nonneg (by omega) i1, ?_⟩
        exact Int.mul_le_mul (by omega) i2 i1 (by decide)
      · exact ⟨Int.le_refl _, Int.mul_nonneg (by decide) p0⟩
    refine ⟨ls_nonneg fun s hs => (one s hs).1, ?_⟩
    have h1 : SF ds (n + 1) k ≤ ls (stepsOf ds k.1) fun _ => 50 * 400 ^ n := ls_le fun s hs => (one s hs).2
    have h2 : ∀ (l : List Step) (c : Int), (ls l fun _ => c) = l.length * c := by
      intro l c
      induction l with
      | nil => simp
      | cons a l ih => rw [ls_cons, ih, List.length_cons, Int.natCast_succ, Int.add_mul, Int.one_mul, Int.add_comm]
    rw [h2] at h1
    have p0 : (0 : Int) ≤ 50 * 400 ^ n := Int.mul_nonneg (by decide) (Int.le_of_lt (Int.pow_pos (by decide)))
    have h3 := Int.mul_le_mul_of_nonneg_right (show ((stepsOf ds k.1).length : Int) ≤ 8 by omega) p0
    rw [Int.pow_succ]
    omega
theorem still_le {rooms : Int} {ds : List Door} (ok : Ok rooms ds) (d4 : ds.length ≤ 4) (n50 : ∀ s ∈ allSteps ds, (lv ds s).natAbs ≤ 50) (room pulls : Int) {L : Nat} (hL : L ≤ 7) : 0 ≤ still ds room pulls L ∧ still ds room pulls L < 2 ^ 62 := by
  rw [still_eq ok]
  obtain ⟨h1, h2⟩ := SF_le ok d4 n50 L (room, pulls, none)
  refine ⟨h1, Int.lt_of_le_of_lt h2 ?_⟩
  have : L = 0 ∨ L = 1 ∨ L = 2 ∨ L = 3 ∨ L = 4 ∨ L = 5 ∨ L = 6 ∨ L = 7 := by omega
  rcases this with rfl | rfl | rfl | rfl | rfl | rfl | rfl | rfl <;> decide
end MF

set_option linter.all false
/-! Houses with lengths: what the returns divide. -/
namespace MF
open MS
/-- lengths that fit at all doors -/
structure Fit (rooms : Int) (ds : List Door) (ln : Int → Int) : Prop where
  pos : ∀ r, 0 ≤ r → r < rooms → 0 < ln r
  fit : ∀ s ∈ allSteps ds, aux (lv ds s) * ln (near ds s) = aux (ar ds s) * ln (far ds s)
theorem fit_step {rooms : Int} {ds : List Door} {ln : Int → Int} (F : Fit rooms ds ln) {s : Step} (hs : s ∈ allSteps ds) (hl : lv ds s ≠ 0) {p f l0 : Int} (hp : 0 < p) (h : f * l0 = p * ln (near ds s)) (hn : 0 < ln (near ds s)) :
    nxF ds p f s * l0 = nxP ds p s * ln (far ds s) ∧ f * l0 ∣ nxF ds p f s * l0 ∧ aux (lv ds s) * ln (near ds s) ∣ nxF ds p f s * l0 ∧
      ∀ W, f * l0 ∣ W → aux (lv ds s) * ln (near ds s) ∣ W → nxF ds p f s * l0 ∣ W := by
  have g0 := gcdI_pos (b := lv ds s) (show p ≠ 0 by omega)
  obtain ⟨a, ha⟩ := gcdI_left p (lv ds s)
  obtain ⟨b, hb⟩ := gcdI_aux p (lv ds s)
  have eb : aux (lv ds s) / gcdI p (lv ds s) = b := by
    rw [hb]; exact Int.mul_ediv_cancel_left b (by omega)
  have ea : p / gcdI p (lv ds s) = a := by
    have : (gcdI p (lv ds s) * a) / gcdI p (lv ds s) = a := Int.mul_ediv_cancel_left a (by omega)
    rw [← ha] at this; exact this
  have e1 : nxF ds p f s * l0 = p * ln (near ds s) * b := by
    unfold nxF
    rw [eb, Int.mul_right_comm, h]
  have e2 : p * ln (near ds s) * b = a * (aux (lv ds s) * ln (near ds s)) := by
    rw [hb]
    conv => lhs; rw [ha]
    ac_rfl
  refine ⟨?_, ⟨b, by rw [e1, h]⟩, ⟨a, by rw [e1, e2, Int.mul_comm]⟩, ?_⟩
  · unfold nxP
    rw [ea, e1, e2, F.fit s hs, Int.mul_assoc]
  · rintro W ⟨x, hx⟩ ⟨y, hy⟩
    rw [h] at hx
    -- b divides a * x, hence x
    have co : Int.gcd a b = 1 := by
      have h1 : Int.gcd p (aux (lv ds s)) = (gcdI p (lv ds s)).toNat := by
        unfold gcdI aux
        show Nat.gcd p.natAbs ((lv ds s).natAbs : Int).natAbs = _
        simp
      have h2 : Int.gcd (gcdI p (lv ds s) * a) (gcdI p (lv ds s) * b) = (gcdI p (lv ds s)).natAbs * Int.gcd a b := Int.gcd_mul_left ..
      rw [← ha, ← hb, h1] at h2
      have h3 : (gcdI p (lv ds s)).toNat = (gcdI p (lv ds s)).natAbs := by omega
      rw [h3] at h2
      have h4 : 0 < (gcdI p (lv ds s)).natAbs := by omega
      exact (Nat.eq_of_mul_eq_mul_left h4 (by rw [Nat.mul_one]; exact h2)).symm
    have h5 : a * x = b * y := by
      have h6 : gcdI p (lv ds s) * ln (near ds s) * (a * x) = gcdI p (lv ds s) * ln (near ds s) * (b * y) := by
        have h7 : p * ln (near ds s) * x = aux (lv ds s) * ln (near ds s) * y := by rw [← hx, ← hy]
        rw [hb] at h7
        conv at h7 => lhs; rw [ha]
        calc _ = gcdI p (lv ds s) * a * ln (near ds s) * x := by ac_rfl
          _ = _ := h7
          _ = _ := by ac_rfl
      exact Int.eq_of_mul_eq_mul_left (Int.ne_of_gt (Int.mul_pos g0 hn)) h6
    obtain ⟨z, hz⟩ : b ∣ x := by
      have : b ∣ a * x := ⟨y, h5⟩
      have h8 : b.natAbs ∣ a.natAbs * x.natAbs := by
        rw [← Int.natAbs_mul]
        exact Int.natAbs_dvd_natAbs.mpr this
      exact Int.natAbs_dvd_natAbs.mp (Nat.Coprime.dvd_of_dvd_mul_left (show Nat.gcd b.natAbs a.natAbs = 1 by rw [Nat.gcd_comm]; exact co) h8)
    exact ⟨z, by rw [e1, hx, hz]; ac_rfl⟩
end MF

set_option linter.all false
/-! Houses with lengths: all classes. -/
namespace MF
open MS
theorem clN_fit {rooms : Int} {ds : List Door} (ok : Ok rooms ds) {ln : Int → Int} (F : Fit rooms ds ln) {room : Int} (hr : 0 ≤ room ∧ room < rooms) {W : Int} (hW : ln room ∣ W) (hD : ∀ s ∈ allSteps ds, aux (lv ds s) * ln (near ds s) ∣ W) :
    ∀ n : Nat, ∀ p ∈ clN ds n [(((room, 1, 1, none) : CKey), (1 : Int))], (0 ≤ p.1.1 ∧ p.1.1 < rooms) ∧ p.1.2.2.1 * ln room = p.1.2.1 * ln p.1.1 ∧ p.1.2.2.1 * ln room ∣ W ∧ ∀ z, p.1.2.2.2 = some z → aux (lv ds z) * ln (near ds z) ∣ p.1.2.2.1 * ln room
  | 0, p, hp => by
    have hp : p ∈ [(((room, 1, 1, none) : CKey), (1 : Int))] := hp
    have : p = ((room, 1, 1, none), 1) := by simpa using hp
    subst this
    exact ⟨hr, rfl, by show 1 * ln room ∣ W; rw [Int.one_mul]; exact hW, fun z hz => by cases hz⟩
  | n + 1, p, hp => by
    have cd := cd_clN ok (cd_start ds room) n
    have ih := clN_fit ok F hr hW hD n
    have := key_adds (P := fun k : CKey => (0 ≤ k.1 ∧ k.1 < rooms) ∧ k.2.2.1 * ln room = k.2.1 * ln k.1 ∧ k.2.2.1 * ln room ∣ W ∧ ∀ z, k.2.2.2 = some z → aux (lv ds z) * ln (near ds z) ∣ k.2.2.1 * ln room) ((clN ds n [((room, 1, 1, none), 1)]).flatMap fun p => clInc ds p.1 p.2) (by
      intro p hp
      obtain ⟨q, hq, hp⟩ := List.mem_flatMap.mp hp
      rw [clInc_eq ok (cd.2 q hq)] at hp
      obtain ⟨s, hs, rfl⟩ := List.mem_map.mp hp
      obtain ⟨ha, hnear⟩ := mem_stepsOf.mp hs
      obtain ⟨h1, h2, h3, _⟩ := ih q hq
      have hk := cd.2 q hq
      obtain ⟨e1, e2, e3, e4⟩ := fit_step F ha (lv_ne ok ha) (p := q.1.2.1) (f := q.1.2.2.1) (l0 := ln room) hk.1 (by rw [hnear]; exact h2) (by rw [hnear]; exact F.pos _ h1.1 h1.2)
      exact ⟨far_room ok ha, e1, e4 W h3 (hD s ha), fun z hz => by cases hz; exact e3⟩) (m := []) (by intro p hp; simp at hp)
    exact this p hp
/-- so does the return -/
theorem ret_fit {rooms : Int} {ds : List Door} (ok : Ok rooms ds) {ln : Int → Int} (F : Fit rooms ds ln) {room : Int} (hr : 0 ≤ room ∧ room < rooms) {W : Int} (hW : ln room ∣ W) (hD : ∀ s ∈ allSteps ds, aux (lv ds s) * ln (near ds s) ∣ W) (L : Nat) :
    ret (cls ds room L) ∣ W / ln room := by
  have l0 := F.pos room hr.1 hr.2
  obtain ⟨k, hk⟩ := hW
  have e : W / ln room = k := by rw [hk]; exact Int.mul_ediv_cancel_left k (by omega)
  rw [e]
  refine ret_min ok room L fun p hp => ?_
  obtain ⟨_, _, ⟨z, hz⟩, _⟩ := clN_fit ok F hr ⟨k, hk⟩ hD L p hp
  refine ⟨z, Int.eq_of_mul_eq_mul_left (show ln room ≠ 0 by omega) ?_⟩
  rw [← hk, hz, Int.mul_comm (p.1.2.2.1) (ln room), Int.mul_assoc]
/-- a class that is reached: the next over a step that is not the last one turned -/
theorem mem_put_self {κ : Type} [DecidableEq κ] (m : List (κ × Int)) (k : κ) (v : Int) : k ∈ (put m k v).map (·.1) := by
  rw [keys_put]
  split
  · assumption
  · simp
theorem mem_adds_keep {κ : Type} [DecidableEq κ] : ∀ (is m : List (κ × Int)) (k : κ), k ∈ m.map (·.1) → k ∈ (adds m is).map (·.1)
  | [], m, k, h => h
  | p :: is, m, k, h => by
    refine mem_adds_keep is (add m p.1 p.2) k ?_
    unfold add
    split
    · rw [keys_put]
      split
      · exact h
      · exact List.mem_append_left _ h
    · exact h
theorem mem_adds_new {κ : Type} [DecidableEq κ] : ∀ (is m : List (κ × Int)) (p : κ × Int), p ∈ is → 0 < p.2 → p.1 ∈ (adds m is).map (·.1)
  | q :: is, m, p, h, h0 => by
    rcases List.mem_cons.mp h with rfl | h
    · refine mem_adds_keep is (add m p.1 p.2) p.1 ?_
      unfold add
      rw [if_pos h0]
      exact mem_put_self _ _ _
    · exact mem_adds_new is (add m q.1 q.2) p h h0
end MF

set_option linter.all false
/-! Houses with lengths: doors that are reached. -/
namespace MF
open MS
abbrev cn (ds : List Door) (room : Int) (n : Nat) : List (CKey × Int) := clN ds n [(((room, 1, 1, none) : CKey), (1 : Int))]
theorem cls_step {rooms : Int} {ds : List Door} (ok : Ok rooms ds) {room : Int} {n : Nat} {k : CKey} (h : k ∈ (cn ds room n).map (·.1)) {s : Step} (hs : s ∈ allSteps ds) (hn : near ds s = k.1) (hl : ∀ l, k.2.2.2 = some l → s ≠ turn l) :
    ((far ds s, nxP ds k.2.1 s, nxF ds k.2.1 k.2.2.1 s, some s) : CKey) ∈ (cn ds room (n + 1)).map (·.1) := by
  obtain ⟨p, hp, rfl⟩ := List.mem_map.mp h
  have cd := cd_clN ok (cd_start ds room) n
  have hk := cd.2 p hp
  have hpos := cd.1 p hp
  have g0 := gcdI_pos (b := lv ds s) (show p.1.2.1 ≠ 0 by have := hk.1; omega)
  have l0 : least p.1.2.2.2 s = 0 := by
    unfold least
    cases e : p.1.2.2.2 with
    | none => rfl
    | some l => exact if_neg (hl l e)
  refine mem_adds_new ((cn ds room n).flatMap fun p => clInc ds p.1 p.2) [] ((far ds s, nxP ds p.1.2.1 s, nxF ds p.1.2.1 p.1.2.2.1 s, some s), p.2 * (gcdI p.1.2.1 (lv ds s) - least p.1.2.2.2 s)) ?_ ?_
  · refine List.mem_flatMap.mpr ⟨p, hp, ?_⟩
    rw [clInc_eq ok hk]
    exact List.mem_map.mpr ⟨s, mem_stepsOf.mpr ⟨hs, hn⟩, rfl⟩
  · show 0 < p.2 * (gcdI p.1.2.1 (lv ds s) - least p.1.2.2.2 s)
    rw [l0, Int.sub_zero]
    exact Int.mul_pos hpos g0
/-- passes one behind another, none back at once -/
def Pth (ds : List Door) : Int → Option Step → List Step → Prop
  | _, _, [] => True
  | r, last, s :: l => s ∈ allSteps ds ∧ near ds s = r ∧ (∀ z, last = some z → s ≠ turn z) ∧ Pth ds (far ds s) (some s) l
def endR (ds : List Door) : Int → List Step → Int
  | r, [] => r
  | _, s :: l => endR ds (far ds s) l
/-- along such passes classes are there -/
theorem cls_path {rooms : Int} {ds : List Door} (ok : Ok rooms ds) {room : Int} : ∀ (l : List Step) (n : Nat) (k : CKey), k ∈ (cn ds room n).map (·.1) → Pth ds k.1 k.2.2.2 l →
    ∃ k', k' ∈ (cn ds room (n + l.length)).map (·.1) ∧ k'.2.2.2 = (l.getLast?).or k.2.2.2 ∧ k'.1 = endR ds k.1 l
  | [], n, k, h, _ => ⟨k, h, by cases k.2.2.2 <;> rfl, rfl⟩
  | s :: l, n, k, h, ⟨h1, h2, h3, h4⟩ => by
    obtain ⟨k', hk, e, e2⟩ := cls_path ok l (n + 1) _ (cls_step ok h h1 h2 h3) h4
    refine ⟨k', ?_, ?_, e2⟩
    · rw [List.length_cons, show n + (l.length + 1) = n + 1 + l.length by omega]; exact hk
    · rw [e]
      cases l with
      | nil => rfl
      | cons a l =>
        rw [List.getLast?_cons_cons]
        cases h9 : (a :: l).getLast? with
        | none => simp at h9
        | some z => rfl
end MF

set_option linter.all false
/-! Ways without turning back. -/
namespace MF
open MS
theorem Pth.weak {ds : List Door} {r : Int} {z : Option Step} : ∀ {l : List Step}, Pth ds r z l → Pth ds r none l
  | [], _ => trivial
  | _ :: _, ⟨a, b, _, d⟩ => ⟨a, b, (fun z h => by cases h), d⟩
abbrev endOf := @endR
/-- a pass put ahead of a way, and taken off where it turns back -/
theorem red_cons {ds : List Door} {r e : Int} {s : Step} {l : List Step} (hs : s ∈ allSteps ds) (hn : near ds s = r) (h : Pth ds (far ds s) none l) (he : endOf ds (far ds s) l = e) : ∃ l', Pth ds r none l' ∧ endOf ds r l' = e ∧ l'.length ≤ l.length + 1 := by
  cases l with
  | nil => exact ⟨[s], ⟨hs, hn, (fun z h => by cases h), trivial⟩, he, by simp⟩
  | cons a l =>
    obtain ⟨h1, h2, h3, h4⟩ := h
    by_cases c : a = turn s
    · subst c
      have s2 : s.2 ≤ 1 := (mem_all.mp hs).2
      have ef : far ds (turn s) = r := by
        rw [← hn]
        show (gate ds (turn s)).2.2.1 = _
        rw [gate_turn s2]
      refine ⟨l, ?_, ?_, by simp; omega⟩
      · rw [← ef]; exact h4.weak
      · rw [← he]
        show endOf ds r l = endOf ds (far ds (turn s)) l
        rw [ef]
    · exact ⟨s :: a :: l, ⟨hs, hn, (fun z h => by cases h), h1, h2, (fun z hz => by cases hz; exact c), h4⟩, he, Nat.le_refl _⟩
end MF

set_option linter.all false
/-! Ways between rooms. -/
namespace MF
open MS
def Wlk (ds : List Door) : Int → List Step → Prop
  | _, [] => True
  | r, s :: l => s ∈ allSteps ds ∧ near ds s = r ∧ Wlk ds (far ds s) l
theorem reduce {ds : List Door} : ∀ {l : List Step} {r : Int}, Wlk ds r l → ∃ l', Pth ds r none l' ∧ endOf ds r l' = endOf ds r l ∧ l'.length ≤ l.length
  | [], r, _ => ⟨[], trivial, rfl, Nat.le_refl _⟩
  | s :: l, r, ⟨h1, h2, h3⟩ => by
    obtain ⟨l1, p1, e1, n1⟩ := reduce h3
    obtain ⟨l2, p2, e2, n2⟩ := red_cons h1 h2 p1 e1
    exact ⟨l2, p2, e2, by rw [List.length_cons]; omega⟩
theorem wlk_app {ds : List Door} : ∀ {l m : List Step} {r : Int}, Wlk ds r l → Wlk ds (endOf ds r l) m → Wlk ds r (l ++ m) ∧ endOf ds r (l ++ m) = endOf ds (endOf ds r l) m
  | [], m, r, _, h => ⟨h, rfl⟩
  | s :: l, m, r, ⟨h1, h2, h3⟩, h => by
    obtain ⟨a, b⟩ := wlk_app h3 h
    exact ⟨⟨h1, h2, a⟩, b⟩
/-- from r down to room 0 -/
theorem down {ds : List Door} {rooms : Int} (hc : ∀ r : Int, 1 ≤ r → r < rooms → ∃ s ∈ allSteps ds, near ds s = r ∧ 0 ≤ far ds s ∧ far ds s < r) : ∀ n : Nat, ∀ r : Int, 0 ≤ r → r < rooms → r.toNat ≤ n → ∃ l, Wlk ds r l ∧ endOf ds r l = 0 ∧ l.length ≤ n
  | 0, r, h0, h1, h2 => ⟨[], trivial, by show r = 0; omega, Nat.le_refl _⟩
  | n + 1, r, h0, h1, h2 => by
    by_cases hz : r = 0
    · exact ⟨[], trivial, hz, by simp⟩
    · obtain ⟨s, hs, hn, f0, f1⟩ := hc r (by omega) h1
      obtain ⟨l, a, b, c⟩ := down hc n (far ds s) f0 (by omega) (by omega)
      exact ⟨s :: l, ⟨hs, hn, a⟩, b, by rw [List.length_cons]; omega⟩
/-- and up again -/
theorem up {ds : List Door} {rooms : Int} (hc : ∀ r : Int, 1 ≤ r → r < rooms → ∃ s ∈ allSteps ds, near ds s = r ∧ 0 ≤ far ds s ∧ far ds s < r) : ∀ n : Nat, ∀ r : Int, 0 ≤ r → r < rooms → r.toNat ≤ n → ∃ l, Wlk ds 0 l ∧ endOf ds 0 l = r ∧ l.length ≤ n
  | 0, r, h0, h1, h2 => ⟨[], trivial, by show (0 : Int) = r; omega, Nat.le_refl _⟩
  | n + 1, r, h0, h1, h2 => by
    by_cases hz : r = 0
    · exact ⟨[], trivial, hz.symm, by simp⟩
    · obtain ⟨s, hs, hn, f0, f1⟩ := hc r (by omega) h1
      obtain ⟨l, a, b, c⟩ := up hc n (far ds s) f0 (by omega) (by omega)
      have s2 := (mem_all.mp hs).2
      have en : near ds (turn s) = far ds s := by show (gate ds (turn s)).1 = _; rw [gate_turn s2]
      have ef : far ds (turn s) = r := by rw [← hn]; show (gate ds (turn s)).2.2.1 = _; rw [gate_turn s2]
      obtain ⟨x, y⟩ := wlk_app (m := [turn s]) a (by rw [b]; exact ⟨turn_mem hs, en, trivial⟩)
      refine ⟨l ++ [turn s], x, ?_, by rw [List.length_append, List.length_singleton]; omega⟩
      rw [y]
      exact ef
end MF

set_option linter.all false
/-! Each door is reached in time. -/
namespace MF
open MS
theorem reach {rooms : Int} {ds : List Door} (ok : Ok rooms ds) (hc : ∀ r : Int, 1 ≤ r → r < rooms → ∃ s ∈ allSteps ds, near ds s = r ∧ 0 ≤ far ds s ∧ far ds s < r) {room : Int} (hr : 0 ≤ room ∧ room < rooms) {s : Step} (hs : s ∈ allSteps ds) :
    ∃ L, L ≤ 2 * (rooms - 1).toNat + 1 ∧ ∃ k, k ∈ (cn ds room L).map (·.1) ∧ ∃ z, k.2.2.2 = some z ∧ (z = s ∨ z = turn s) := by
  obtain ⟨n0, n1⟩ := near_room ok hs
  obtain ⟨l1, a1, b1, c1⟩ := down hc (rooms - 1).toNat room hr.1 hr.2 (by omega)
  obtain ⟨l2, a2, b2, c2⟩ := up hc (rooms - 1).toNat (near ds s) n0 n1 (by omega)
  obtain ⟨a3, b3⟩ := wlk_app a1 (show Wlk ds (endOf ds room l1) l2 by rw [b1]; exact a2)
  obtain ⟨l, p, e, len⟩ := reduce a3
  rw [List.length_append] at len
  have e : endOf ds room l = near ds s := by rw [e, b3, b1, b2]
  have h0 : ((room, 1, 1, none) : CKey) ∈ (cn ds room 0).map (·.1) := by
    show _ ∈ ([(((room, 1, 1, none) : CKey), (1 : Int))].map (·.1))
    simp
  obtain ⟨k, hk, hl, he⟩ := cls_path ok l 0 _ h0 p
  rw [Nat.zero_add] at hk
  have he : k.1 = near ds s := he.trans e
  by_cases c : k.2.2.2 = some (turn s)
  · exact ⟨l.length, by omega, k, hk, turn s, c, .inr rfl⟩
  · refine ⟨l.length + 1, by omega, _, cls_step ok hk hs he.symm (fun z hz hst => c ?_), s, rfl, .inl rfl⟩
    rw [hz]
    have : turn s = z := by
      rw [hst]
      have hm : k.2.2.2 = l.getLast? := by rw [hl]; cases l.getLast? <;> rfl
      have hz2 : z.2 ≤ 1 := by
        obtain ⟨q, hq, eq⟩ := List.mem_map.mp hk
        have ko := (cd_clN ok (cd_start ds room) l.length).2 q hq
        rw [eq] at ko
        exact (mem_all.mp (ko.2.2 z hz).1).2
      exact turn_turn hz2
    rw [this]
/-- each door's weight divides a return in time -/
theorem reach_ret {rooms : Int} {ds : List Door} (ok : Ok rooms ds) {ln : Int → Int} (F : Fit rooms ds ln) (hc : ∀ r : Int, 1 ≤ r → r < rooms → ∃ s ∈ allSteps ds, near ds s = r ∧ 0 ≤ far ds s ∧ far ds s < r) {room : Int} (hr : 0 ≤ room ∧ room < rooms) {W : Int} (hW : ln room ∣ W) (hD : ∀ s ∈ allSteps ds, aux (lv ds s) * ln (near ds s) ∣ W) {s : Step} (hs : s ∈ allSteps ds) :
    ∃ L, L ≤ 2 * (rooms - 1).toNat + 1 ∧ aux (lv ds s) * ln (near ds s) ∣ ret (cls ds room L) * ln room := by
  obtain ⟨L, hL, k, hk, z, hz, hzs⟩ := reach ok hc hr hs
  obtain ⟨p, hp, rfl⟩ := List.mem_map.mp hk
  refine ⟨L, hL, ?_⟩
  have h1 := (clN_fit ok F hr hW hD L p hp).2.2.2 z hz
  have h2 := ret_dvd ok room L p hp
  have h3 : p.1.2.2.1 * ln room ∣ ret (cls ds room L) * ln room := Int.mul_dvd_mul h2 (Int.dvd_refl _)
  rcases hzs with rfl | rfl
  · exact Int.dvd_trans h1 h3
  · have s2 := (mem_all.mp hs).2
    have e : aux (lv ds (turn s)) * ln (near ds (turn s)) = aux (lv ds s) * ln (near ds s) := by
      have e1 : lv ds (turn s) = ar ds s := by show (gate ds (turn s)).2.1 = _; rw [gate_turn s2]
      have e2 : near ds (turn s) = far ds s := by show (gate ds (turn s)).1 = _; rw [gate_turn s2]
      rw [e1, e2, ← F.fit s hs]
    rw [e] at h1
    exact Int.dvd_trans h1 h3
end MF

set_option linter.all false
/-! The least common multiple of all returns in time. -/
namespace MF
open MS
/-- as the law joins them -/
def lcmI (a b : Int) : Int := (a * b).fdiv (gcdI a b)
def risen (ds : List Door) (room : Int) : Nat → Int
  | 0 => 1
  | n + 1 => lcmI (risen ds room n) (ret (cls ds room n))
theorem risen_ok {rooms : Int} {ds : List Door} (ok : Ok rooms ds) (room : Int) : ∀ n : Nat, 0 < risen ds room n ∧ (∀ L, L < n → ret (cls ds room L) ∣ risen ds room n) ∧ ∀ c, (∀ L, L < n → ret (cls ds room L) ∣ c) → risen ds room n ∣ c
  | 0 => ⟨Int.one_pos, (fun L h => by omega), fun c _ => Int.one_dvd c⟩
  | n + 1 => by
    obtain ⟨h1, h2, h3⟩ := risen_ok ok room n
    obtain ⟨a, b, c, d⟩ := lcm_step h1 (ret_pos ok room n)
    refine ⟨a, fun L hL => ?_, fun z hz => d z (h3 z fun L hL => hz L (by omega)) (hz n (by omega))⟩
    by_cases e : L = n
    · subst e; exact c
    · exact Int.dvd_trans (h2 L (by omega)) b
/-- W is the least that all weights divide -/
theorem risen_fit {rooms : Int} {ds : List Door} (ok : Ok rooms ds) {ln : Int → Int} (F : Fit rooms ds ln) (hc : ∀ r : Int, 1 ≤ r → r < rooms → ∃ s ∈ allSteps ds, near ds s = r ∧ 0 ≤ far ds s ∧ far ds s < r) {room : Int} (hr : 0 ≤ room ∧ room < rooms) {W : Int} (h0 : 0 < W) (hW : ln room ∣ W) (hD : ∀ s ∈ allSteps ds, aux (lv ds s) * ln (near ds s) ∣ W)
    (hm : ∀ T, ln room ∣ T → (∀ s ∈ allSteps ds, aux (lv ds s) * ln (near ds s) ∣ T) → W ∣ T) {N : Nat} (hN : 2 * (rooms - 1).toNat + 1 < N) : risen ds room N = W / ln room := by
  have l0 := F.pos room hr.1 hr.2
  obtain ⟨r1, r2, r3⟩ := risen_ok ok room N
  have a := r3 (W / ln room) fun L _ => ret_fit ok F hr hW hD L
  have b : W ∣ risen ds room N * ln room := hm _ ⟨risen ds room N, Int.mul_comm _ _⟩ fun s hs => by
    obtain ⟨L, hL, hd⟩ := reach_ret ok F hc hr hW hD hs
    exact Int.dvd_trans hd (Int.mul_dvd_mul (r2 L (by omega)) (Int.dvd_refl _))
  obtain ⟨k, hk⟩ := hW
  have e : W / ln room = k := by rw [hk]; exact Int.mul_ediv_cancel_left k (by omega)
  rw [e] at a ⊢
  have b2 : k ∣ risen ds room N := by
    rw [hk, Int.mul_comm (risen ds room N)] at b
    exact Int.dvd_of_mul_dvd_mul_left (by omega) b
  have kp : 0 < k := Int.pos_of_mul_pos_left (by rw [Int.mul_comm, ← hk]; exact h0) l0
  exact Int.dvd_antisymm (by omega) (by omega) a b2
end MF

set_option linter.all false
/-! What passes a step: f' | x exactly if f | x and the step's number divides the pulls there. -/
namespace MF
open MS
theorem nx_pass {ds : List Door} {p f x : Int} {s : Step} (hp : 0 < p) (hf : 0 < f) (hl : lv ds s ≠ 0) : nxF ds p f s ∣ x ↔ f ∣ x ∧ aux (lv ds s) ∣ p * (x / f) := by
  have g0 := gcdI_pos (b := lv ds s) (show p ≠ 0 by omega)
  obtain ⟨a, ha⟩ := gcdI_left p (lv ds s)
  obtain ⟨b, hb⟩ := gcdI_aux p (lv ds s)
  have eb : aux (lv ds s) / gcdI p (lv ds s) = b := by
    rw [hb]; exact Int.mul_ediv_cancel_left b (by omega)
  have e1 : nxF ds p f s = f * b := by unfold nxF; rw [eb]
  rw [e1]
  constructor
  · rintro ⟨z, hz⟩
    have ef : x / f = b * z := by rw [hz, Int.mul_assoc]; exact Int.mul_ediv_cancel_left _ (by omega)
    refine ⟨⟨b * z, by rw [hz, Int.mul_assoc]⟩, ⟨a * z, ?_⟩⟩
    rw [ef, hb]
    conv => lhs; rw [ha]
    ac_rfl
  · rintro ⟨⟨y, hy⟩, w, hw⟩
    have ef : x / f = y := by rw [hy]; exact Int.mul_ediv_cancel_left _ (by omega)
    rw [ef] at hw
    have h5 : a * y = b * w := by
      have h6 : gcdI p (lv ds s) * (a * y) = gcdI p (lv ds s) * (b * w) := by
        rw [hb] at hw
        conv at hw => lhs; rw [ha]
        calc _ = gcdI p (lv ds s) * a * y := by ac_rfl
          _ = _ := hw
          _ = _ := by ac_rfl
      exact Int.eq_of_mul_eq_mul_left (by omega) h6
    have co : Int.gcd a b = 1 := by
      have h1 : Int.gcd p (aux (lv ds s)) = (gcdI p (lv ds s)).toNat := by
        unfold gcdI aux
        show Nat.gcd p.natAbs ((lv ds s).natAbs : Int).natAbs = _
        simp
      have h2 : Int.gcd (gcdI p (lv ds s) * a) (gcdI p (lv ds s) * b) = (gcdI p (lv ds s)).natAbs * Int.gcd a b := Int.gcd_mul_left ..
      rw [← ha, ← hb, h1] at h2
      have h3 : (gcdI p (lv ds s)).toNat = (gcdI p (lv ds s)).natAbs := by omega
      rw [h3] at h2
      exact (Nat.eq_of_mul_eq_mul_left (show 0 < (gcdI p (lv ds s)).natAbs by omega) (by rw [Nat.mul_one]; exact h2)).symm
    have h8 : b.natAbs ∣ a.natAbs * y.natAbs := by
      rw [← Int.natAbs_mul]
      exact Int.natAbs_dvd_natAbs.mpr ⟨w, h5⟩
    obtain ⟨z, hz⟩ := Int.natAbs_dvd_natAbs.mp (Nat.Coprime.dvd_of_dvd_mul_left (show Nat.gcd b.natAbs a.natAbs = 1 by rw [Nat.gcd_comm]; exact co) h8)
    exact ⟨z, by rw [hy, hz, Int.mul_assoc]⟩
end MF

set_option linter.all false
/-! Walks that stretch: what pulls pass a walk, and the least common multiple of the returns. -/
namespace MF
open MS
/-- x pulls pass all of l, and arrive as y -/
def Ps (ds : List Door) : Int → List Step → Int → Prop
  | x, [], y => x = y
  | x, s :: l, y => ∃ z, x = aux (lv ds s) * z ∧ Ps ds (aux (ar ds s) * z) l y
def pA (ds : List Door) : List Step → Int
  | [] => 1
  | s :: l => aux (ar ds s) * pA ds l
def pL (ds : List Door) : List Step → Int
  | [] => 1
  | s :: l => aux (lv ds s) * pL ds l
theorem pA_app (ds : List Door) : ∀ l m : List Step, pA ds (l ++ m) = pA ds l * pA ds m
  | [], m => by simp [pA]
  | s :: l, m => by show aux (ar ds s) * pA ds (l ++ m) = aux (ar ds s) * pA ds l * pA ds m; rw [pA_app ds l m, Int.mul_assoc]
theorem pL_app (ds : List Door) : ∀ l m : List Step, pL ds (l ++ m) = pL ds l * pL ds m
  | [], m => by simp [pL]
  | s :: l, m => by show aux (lv ds s) * pL ds (l ++ m) = aux (lv ds s) * pL ds l * pL ds m; rw [pL_app ds l m, Int.mul_assoc]
theorem wlk_mem {ds : List Door} : ∀ {l : List Step} {r : Int}, Wlk ds r l → ∀ s ∈ l, s ∈ allSteps ds
  | _ :: _, _, ⟨h1, _, h3⟩, s, hs => by
    rcases List.mem_cons.mp hs with rfl | hs
    · exact h1
    · exact wlk_mem h3 s hs
theorem pth_wlk {ds : List Door} : ∀ {l : List Step} {r : Int} {z : Option Step}, Pth ds r z l → Wlk ds r l
  | [], _, _, _ => trivial
  | _ :: _, _, _, ⟨a, b, _, d⟩ => ⟨a, b, pth_wlk d⟩
theorem pL_pos {rooms : Int} {ds : List Door} (ok : Ok rooms ds) : ∀ {l : List Step}, (∀ s ∈ l, s ∈ allSteps ds) → 0 < pL ds l
  | [], _ => Int.one_pos
  | s :: l, h => Int.mul_pos (by have := aux_pos (lv_ne ok (h s (by simp))); omega) (pL_pos ok fun s hs => h s (by simp [hs]))
theorem pA_pos {rooms : Int} {ds : List Door} (ok : Ok rooms ds) : ∀ {l : List Step}, (∀ s ∈ l, s ∈ allSteps ds) → 0 < pA ds l
  | [], _ => Int.one_pos
  | s :: l, h => Int.mul_pos (by have := aux_pos (ar_ne ok (h s (by simp))); omega) (pA_pos ok fun s hs => h s (by simp [hs]))
theorem ps_snoc {ds : List Door} {s : Step} : ∀ {l : List Step} {x y : Int}, Ps ds x (l ++ [s]) y ↔ ∃ w z, Ps ds x l w ∧ w = aux (lv ds s) * z ∧ y = aux (ar ds s) * z
  | [], x, y => by
    constructor
    · rintro ⟨z, h1, h2⟩
      exact ⟨x, z, rfl, h1, h2.symm⟩
    · rintro ⟨w, z, h0, h1, h2⟩
      have h0 : x = w := h0
      exact ⟨z, h0.trans h1, h2.symm⟩
  | a :: l, x, y => by
    constructor
    · rintro ⟨t, h1, h2⟩
      obtain ⟨w, z, h3, h4, h5⟩ := ps_snoc.mp h2
      exact ⟨w, z, ⟨t, h1, h3⟩, h4, h5⟩
    · rintro ⟨w, z, ⟨t, h1, h3⟩, h4, h5⟩
      exact ⟨t, h1, ps_snoc.mpr ⟨w, z, h3, h4, h5⟩⟩
theorem ps_prod {ds : List Door} : ∀ {l : List Step} {x y : Int}, Ps ds x l y → x * pA ds l = y * pL ds l
  | [], x, y, h => by have h : x = y := h; rw [h]; rfl
  | s :: l, x, y, ⟨z, h1, h2⟩ => by
    have ih := ps_prod h2
    show x * (aux (ar ds s) * pA ds l) = y * (aux (lv ds s) * pL ds l)
    calc x * (aux (ar ds s) * pA ds l) = aux (lv ds s) * (aux (ar ds s) * z * pA ds l) := by rw [h1]; ac_rfl
      _ = aux (lv ds s) * (y * pL ds l) := by rw [ih]
      _ = _ := by ac_rfl
/-- the walk l has the class (f, p) -/
def EQ (ds : List Door) (l : List Step) (p f : Int) : Prop := ∀ x y, Ps ds x l y ↔ f ∣ x ∧ y = x / f * p
theorem eq_nil (ds : List Door) : EQ ds [] 1 1 := fun x y => by
  show x = y ↔ _
  rw [Int.ediv_one, Int.mul_one]
  exact ⟨fun h => ⟨Int.one_dvd _, h.symm⟩, fun h => h.2.symm⟩
theorem eq_step {ds : List Door} {l : List Step} {p f : Int} {s : Step} (hp : 0 < p) (hf : 0 < f) (hl : lv ds s ≠ 0) (h : EQ ds l p f) : EQ ds (l ++ [s]) (nxP ds p s) (nxF ds p f s) := fun x y => by
  have g0 := gcdI_pos (b := lv ds s) (show p ≠ 0 by omega)
  obtain ⟨a, ha⟩ := gcdI_left p (lv ds s)
  obtain ⟨b, hb⟩ := gcdI_aux p (lv ds s)
  have eb : aux (lv ds s) / gcdI p (lv ds s) = b := by
    rw [hb]; exact Int.mul_ediv_cancel_left b (by omega)
  have ea : p / gcdI p (lv ds s) = a := by
    have : (gcdI p (lv ds s) * a) / gcdI p (lv ds s) = a := Int.mul_ediv_cancel_left a (by omega)
    rw [← ha] at this; exact this
  have a0 := aux_pos hl
  have b0 : 0 < b := Int.pos_of_mul_pos_right (by rw [← hb]; omega) g0
  have ef : nxF ds p f s = f * b := by unfold nxF; rw [eb]
  have ep : nxP ds p s = a * aux (ar ds s) := by unfold nxP; rw [ea]
  have fb : f * b ≠ 0 := Int.ne_of_gt (Int.mul_pos hf b0)
  have pass := nx_pass (ds := ds) (p := p) (f := f) (x := x) (s := s) hp hf hl
  rw [ps_snoc]
  have val : ∀ t, x = f * b * t → x / f * p = aux (lv ds s) * (a * t) ∧ x / nxF ds p f s * nxP ds p s = aux (ar ds s) * (a * t) := by
    intro t ht
    constructor
    · rw [ht, Int.mul_assoc f b t, Int.mul_ediv_cancel_left _ (by omega), hb]
      conv => lhs; rw [ha]
      ac_rfl
    · rw [ef, ep, ht, Int.mul_ediv_cancel_left _ fb]
      ac_rfl
  constructor
  · rintro ⟨w, z, h1, h2, h3⟩
    obtain ⟨h4, h5⟩ := (h x w).mp h1
    have hd : nxF ds p f s ∣ x := pass.mpr ⟨h4, ⟨z, by rw [← h2, h5, Int.mul_comm]⟩⟩
    refine ⟨hd, ?_⟩
    obtain ⟨t, ht⟩ := hd
    rw [ef] at ht
    obtain ⟨v1, v2⟩ := val t ht
    rw [v2, h3]
    congr 1
    rw [h5, v1] at h2
    exact (Int.eq_of_mul_eq_mul_left (by omega) h2).symm
  · rintro ⟨hd, hy⟩
    have h4 := (pass.mp hd).1
    obtain ⟨t, ht⟩ := hd
    rw [ef] at ht
    obtain ⟨v1, v2⟩ := val t ht
    exact ⟨x / f * p, a * t, (h x _).mpr ⟨h4, rfl⟩, v1, by rw [hy, v2]⟩
/-- keys of what is added -/
theorem key_adds_pos {κ : Type} [DecidableEq κ] {P : κ → Prop} : ∀ (is : List (κ × Int)), (∀ p ∈ is, 0 < p.2 → P p.1) → ∀ {m : List (κ × Int)}, (∀ p ∈ m, P p.1) → ∀ p ∈ adds m is, P p.1
  | [], _, m, h => h
  | q :: is, hi, m, h => by
    refine key_adds_pos is (fun p hp => hi p (by simp [hp])) ?_
    show ∀ p ∈ add m q.1 q.2, P p.1
    unfold add
    split
    · exact key_put h (hi q (by simp) (by assumption)) _
    · exact h
theorem wlk_snoc {ds : List Door} {l : List Step} {r : Int} {s : Step} (h : Wlk ds r l) (hs : s ∈ allSteps ds) (hn : near ds s = endR ds r l) : Wlk ds r (l ++ [s]) ∧ endR ds r (l ++ [s]) = far ds s := by
  obtain ⟨a, b⟩ := wlk_app (m := [s]) h ⟨hs, hn, trivial⟩
  exact ⟨a, b⟩
/-- each class has a walk -/
theorem cn_walk {rooms : Int} {ds : List Door} (ok : Ok rooms ds) (room : Int) : ∀ n : Nat, ∀ q ∈ cn ds room n, ∃ l, Wlk ds room l ∧ l.length = n ∧ endR ds room l = q.1.1 ∧ EQ ds l q.1.2.1 q.1.2.2.1
  | 0, q, hq => by
    have hq : q ∈ [(((room, 1, 1, none) : CKey), (1 : Int))] := hq
    have : q = ((room, 1, 1, none), 1) := by simpa using hq
    subst this
    exact ⟨[], trivial, rfl, rfl, eq_nil ds⟩
  | n + 1, q, hq => by
    have cd := cd_clN ok (cd_start ds room) n
    have ih := cn_walk ok room n
    have key := key_adds_pos (P := fun k : CKey => ∃ l, Wlk ds room l ∧ l.length = n + 1 ∧ endR ds room l = k.1 ∧ EQ ds l k.2.1 k.2.2.1) ((clN ds n [((room, 1, 1, none), 1)]).flatMap fun p => clInc ds p.1 p.2) ?_ (m := []) (by intro p hp; simp at hp)
    · exact key q hq
    intro p hp _
    obtain ⟨q, hq, hp⟩ := List.mem_flatMap.mp hp
    have hk := cd.2 q hq
    rw [clInc_eq ok hk] at hp
    obtain ⟨s, hs, rfl⟩ := List.mem_map.mp hp
    obtain ⟨h1, h2⟩ := mem_stepsOf.mp hs
    obtain ⟨l, w, len, e, E⟩ := ih q hq
    obtain ⟨w2, e2⟩ := wlk_snoc w h1 (by rw [e, h2])
    exact ⟨l ++ [s], w2, by rw [List.length_append, len]; rfl, e2, eq_step hk.1 hk.2.1 (lv_ne ok h1) E⟩
/-- each way that never turns back has a class -/
theorem pth_class {rooms : Int} {ds : List Door} (ok : Ok rooms ds) {room : Int} : ∀ (l pre : List Step) (q : CKey × Int), q ∈ cn ds room pre.length → EQ ds pre q.1.2.1 q.1.2.2.1 → Pth ds q.1.1 q.1.2.2.2 l →
    ∃ q' ∈ cn ds room (pre.length + l.length), EQ ds (pre ++ l) q'.1.2.1 q'.1.2.2.1
  | [], pre, q, h, E, _ => ⟨q, h, by rw [List.append_nil]; exact E⟩
  | s :: l, pre, q, h, E, ⟨h1, h2, h3, h4⟩ => by
    have hk := (cd_clN ok (cd_start ds room) pre.length).2 q h
    obtain ⟨q', hq', e⟩ := List.mem_map.mp (cls_step ok (List.mem_map.mpr ⟨q, h, rfl⟩) h1 h2 h3)
    have E' : EQ ds (pre ++ [s]) q'.1.2.1 q'.1.2.2.1 := by rw [e]; exact eq_step hk.1 hk.2.1 (lv_ne ok h1) E
    obtain ⟨q2, hq2, E2⟩ := pth_class ok l (pre ++ [s]) q' (by rw [List.length_append]; exact hq') E' (by rw [e]; exact h4)
    refine ⟨q2, ?_, ?_⟩
    · rw [List.length_append, List.length_singleton] at hq2
      rw [List.length_cons, show pre.length + (l.length + 1) = pre.length + 1 + l.length by omega]; exact hq2
    · rw [List.append_assoc] at E2; exact E2
theorem pth_class0 {rooms : Int} {ds : List Door} (ok : Ok rooms ds) {room : Int} {l : List Step} (h : Pth ds room none l) : ∃ q ∈ cn ds room l.length, EQ ds l q.1.2.1 q.1.2.2.1 := by
  have := pth_class ok l [] (((room, 1, 1, none) : CKey), (1 : Int)) (by show _ ∈ [(((room, 1, 1, none) : CKey), (1 : Int))]; simp) (eq_nil ds) h
  simpa using this
end MF

set_option linter.all false
/-! Walks that stretch: returns have no bound in so few passes. -/
namespace MF
open MS
theorem red_cons2 {rooms : Int} {ds : List Door} (ok : Ok rooms ds) {r e : Int} {s : Step} {l : List Step} (hs : s ∈ allSteps ds) (hn : near ds s = r) (h : Pth ds (far ds s) none l) (he : endR ds (far ds s) l = e) :
    ∃ l', Pth ds r none l' ∧ endR ds r l' = e ∧ l'.length ≤ l.length + 1 ∧ pA ds l' * pL ds (s :: l) = pA ds (s :: l) * pL ds l' := by
  cases l with
  | nil => exact ⟨[s], ⟨hs, hn, (fun z h => by cases h), trivial⟩, he, by simp, rfl⟩
  | cons a l =>
    obtain ⟨h1, h2, h3, h4⟩ := h
    by_cases c : a = turn s
    · subst c
      have s2 : s.2 ≤ 1 := (mem_all.mp hs).2
      have ef : far ds (turn s) = r := by
        rw [← hn]
        show (gate ds (turn s)).2.2.1 = _
        rw [gate_turn s2]
      have el : lv ds (turn s) = ar ds s := by show (gate ds (turn s)).2.1 = _; rw [gate_turn s2]
      have ea : ar ds (turn s) = lv ds s := by show (gate ds (turn s)).2.2.2 = _; rw [gate_turn s2]
      refine ⟨l, ?_, ?_, by simp; omega, ?_⟩
      · rw [← ef]; exact h4.weak
      · rw [← he]
        show endR ds r l = endR ds (far ds (turn s)) l
        rw [ef]
      · show pA ds l * (aux (lv ds s) * (aux (lv ds (turn s)) * pL ds l)) = aux (ar ds s) * (aux (ar ds (turn s)) * pA ds l) * pL ds l
        rw [el, ea]; ac_rfl
    · exact ⟨s :: a :: l, ⟨hs, hn, (fun z h => by cases h), h1, h2, (fun z hz => by cases hz; exact c), h4⟩, he, Nat.le_refl _, Int.mul_comm _ _ ▸ rfl⟩
theorem reduce2 {rooms : Int} {ds : List Door} (ok : Ok rooms ds) : ∀ {l : List Step} {r : Int}, Wlk ds r l → ∃ l', Pth ds r none l' ∧ endR ds r l' = endR ds r l ∧ l'.length ≤ l.length ∧ pA ds l' * pL ds l = pA ds l * pL ds l'
  | [], r, _ => ⟨[], trivial, rfl, Nat.le_refl _, rfl⟩
  | s :: l, r, ⟨h1, h2, h3⟩ => by
    obtain ⟨l1, p1, e1, n1, q1⟩ := reduce2 ok h3
    obtain ⟨l2, p2, e2, n2, q2⟩ := red_cons2 ok h1 h2 p1 e1
    refine ⟨l2, p2, e2, by rw [List.length_cons]; omega, ?_⟩
    have c0 : pL ds (s :: l1) ≠ 0 := Int.ne_of_gt (pL_pos ok (wlk_mem (r := r) ⟨h1, h2, pth_wlk p1⟩))
    refine Int.eq_of_mul_eq_mul_right c0 ?_
    have q2 : pA ds l2 * (aux (lv ds s) * pL ds l1) = aux (ar ds s) * pA ds l1 * pL ds l2 := q2
    show pA ds l2 * (aux (lv ds s) * pL ds l) * (aux (lv ds s) * pL ds l1) = aux (ar ds s) * pA ds l * pL ds l2 * (aux (lv ds s) * pL ds l1)
    calc pA ds l2 * (aux (lv ds s) * pL ds l) * (aux (lv ds s) * pL ds l1) = (pA ds l2 * (aux (lv ds s) * pL ds l1)) * (aux (lv ds s) * pL ds l) := by ac_rfl
      _ = aux (ar ds s) * pA ds l1 * pL ds l2 * (aux (lv ds s) * pL ds l) := by rw [q2]
      _ = (pA ds l1 * pL ds l) * (aux (ar ds s) * pL ds l2 * aux (lv ds s)) := by ac_rfl
      _ = (pA ds l * pL ds l1) * (aux (ar ds s) * pL ds l2 * aux (lv ds s)) := by rw [q1]
      _ = _ := by ac_rfl
theorem pth_snoc {ds : List Door} {s : Step} (hs : s ∈ allSteps ds) : ∀ {l : List Step} {r : Int} {z : Option Step}, Pth ds r z l → near ds s = endR ds r l → (∀ t, (l.getLast?).or z = some t → s ≠ turn t) → Pth ds r z (l ++ [s])
  | [], r, z, _, hn, ht => ⟨hs, hn, fun t h => ht t (by simpa using h), trivial⟩
  | a :: l, r, z, ⟨h1, h2, h3, h4⟩, hn, ht => by
    refine ⟨h1, h2, h3, pth_snoc hs h4 hn fun t h => ht t ?_⟩
    cases l with
    | nil => simpa using h
    | cons b l =>
      rw [List.getLast?_cons_cons]
      cases h9 : (b :: l).getLast? with
      | none => simp at h9
      | some y => rw [h9] at h; simpa using h
section
variable {rooms : Int} {ds : List Door} (ok : Ok rooms ds) {room : Int} {M : Nat} {R : Int} (hR : ∀ L, L ≤ M → ret (cls ds room L) ∣ R)
include ok hR
theorem all_pass {q : List Step} (h : Pth ds room none q) (hl : q.length ≤ M) : ∃ y, Ps ds R q y := by
  obtain ⟨k, hk, E⟩ := pth_class0 ok h
  exact ⟨_, (E R _).mpr ⟨Int.dvd_trans (ret_dvd ok room q.length k hk) (hR _ hl), rfl⟩⟩
theorem walk_val {pre : List Step} (h : Wlk ds room pre) (hl : pre.length ≤ M) : ∃ y, R * pA ds pre = y * pL ds pre := by
  obtain ⟨q, p, e, n, c⟩ := reduce2 ok h
  obtain ⟨y, hy⟩ := all_pass ok hR p (by omega)
  refine ⟨y, ?_⟩
  have c0 : pL ds q ≠ 0 := Int.ne_of_gt (pL_pos ok (wlk_mem (pth_wlk p)))
  refine Int.eq_of_mul_eq_mul_right c0 ?_
  have := ps_prod hy
  calc R * pA ds pre * pL ds q = R * (pA ds pre * pL ds q) := by ac_rfl
    _ = R * (pA ds q * pL ds pre) := by rw [c]
    _ = (R * pA ds q) * pL ds pre := by ac_rfl
    _ = y * pL ds q * pL ds pre := by rw [this]
    _ = _ := by ac_rfl
theorem walk_step {pre : List Step} {s : Step} (h : Wlk ds room pre) (hs : s ∈ allSteps ds) (hn : near ds s = endR ds room pre) (hl : pre.length + 1 ≤ M) {y : Int} (hy : R * pA ds pre = y * pL ds pre) : aux (lv ds s) ∣ y := by
  obtain ⟨q, p, e, n, c⟩ := reduce2 ok h
  have c0 : pL ds q ≠ 0 := Int.ne_of_gt (pL_pos ok (wlk_mem (pth_wlk p)))
  have c1 : pL ds pre ≠ 0 := Int.ne_of_gt (pL_pos ok (wlk_mem h))
  have same : ∀ w, Ps ds R q w → w = y := by
    intro w hw
    have h1 := ps_prod hw
    have : (w * pL ds q) * pL ds pre = (y * pL ds pre) * pL ds q := by
      rw [← h1, ← hy]
      calc R * pA ds q * pL ds pre = R * (pA ds q * pL ds pre) := by ac_rfl
        _ = R * (pA ds pre * pL ds q) := by rw [c]
        _ = _ := by ac_rfl
    have h2 : w * (pL ds q * pL ds pre) = y * (pL ds q * pL ds pre) := by
      calc w * (pL ds q * pL ds pre) = (w * pL ds q) * pL ds pre := by ac_rfl
        _ = _ := this
        _ = _ := by ac_rfl
    exact Int.eq_of_mul_eq_mul_right (Int.mul_ne_zero c0 c1) h2
  by_cases ht : q.getLast? = some (turn s)
  · obtain ⟨q0, rfl⟩ : ∃ q0, q = q0 ++ [turn s] := by
      obtain ⟨hne, hl⟩ := List.getLast?_eq_some_iff.mp ht
      exact ⟨_, hl⟩
    obtain ⟨w, hw⟩ := all_pass ok hR p (by omega)
    obtain ⟨w0, z, h1, h2, h3⟩ := ps_snoc.mp hw
    have s2 := (mem_all.mp hs).2
    have ea : ar ds (turn s) = lv ds s := by show (gate ds (turn s)).2.2.2 = _; rw [gate_turn s2]
    rw [← same w hw, h3, ea]
    exact Int.dvd_mul_right _ _
  · have p2 : Pth ds room none (q ++ [s]) := pth_snoc hs p (by rw [e]; exact hn) fun t h1 h2 => ht (by
      have h3 : q.getLast? = some t := by
        cases h9 : q.getLast? with
        | none => rw [h9] at h1; cases h1
        | some y => rw [h9] at h1; exact h1
      rw [h3, h2]
      have ht2 : t.2 ≤ 1 := (mem_all.mp (wlk_mem (pth_wlk p) t (List.mem_of_getLast? h3))).2
      rw [turn_turn ht2])
    obtain ⟨w, hw⟩ := all_pass ok hR p2 (by rw [List.length_append, List.length_singleton]; omega)
    obtain ⟨w0, z, h1, h2, h3⟩ := ps_snoc.mp hw
    rw [← same w0 h1, h2]
    exact Int.dvd_mul_right _ _
theorem walk_pass : ∀ {l pre : List Step} {y0 : Int}, Wlk ds room pre → Wlk ds (endR ds room pre) l → pre.length + l.length ≤ M → R * pA ds pre = y0 * pL ds pre → ∃ y, Ps ds y0 l y
  | [], pre, y0, _, _, _, _ => ⟨y0, rfl⟩
  | s :: l, pre, y0, h, ⟨h1, h2, h3⟩, hl, hy => by
    rw [List.length_cons] at hl
    obtain ⟨z, rfl⟩ := walk_step ok hR h h1 h2 (by omega) hy
    obtain ⟨w, e⟩ := wlk_snoc h h1 h2
    have hy2 : R * pA ds (pre ++ [s]) = aux (ar ds s) * z * pL ds (pre ++ [s]) := by
      rw [pA_app, pL_app]
      show R * (pA ds pre * (aux (ar ds s) * 1)) = aux (ar ds s) * z * (pL ds pre * (aux (lv ds s) * 1))
      calc R * (pA ds pre * (aux (ar ds s) * 1)) = (R * pA ds pre) * aux (ar ds s) := by rw [Int.mul_one]; ac_rfl
        _ = aux (lv ds s) * z * pL ds pre * aux (ar ds s) := by rw [hy]
        _ = _ := by rw [Int.mul_one]; ac_rfl
    obtain ⟨y, py⟩ := walk_pass (l := l) w (by rw [e]; exact h3) (by rw [List.length_append, List.length_singleton]; omega) hy2
    exact ⟨y, z, rfl, py⟩
theorem no_rise {N : Nat} (hm : ∀ T, (∀ L, L ≤ N → ret (cls ds room L) ∣ T) → R ∣ T) (h0 : 0 < R) {W : List Step} (hW : Wlk ds room W) (he : endR ds room W = room) (hl : W.length + N ≤ M) : pL ds W ∣ pA ds W := by
  obtain ⟨y0, hy⟩ := walk_val ok hR hW (by omega)
  have : R ∣ y0 := hm y0 fun L hL => ret_min ok room L fun q hq => by
    obtain ⟨l, w, len, e, E⟩ := cn_walk ok room L q hq
    obtain ⟨y, py⟩ := walk_pass ok hR (l := l) hW (by rw [he]; exact w) (by omega) hy
    exact ((E _ _).mp py).1
  obtain ⟨m, rfl⟩ := this
  refine ⟨m, ?_⟩
  refine Int.eq_of_mul_eq_mul_left (show R ≠ 0 by omega) ?_
  rw [hy]; ac_rfl
end
end MF

set_option linter.all false
/-! Returns without a rise: then lengths fit. -/
namespace MF
open MS
def rv : List Step → List Step
  | [] => []
  | s :: l => rv l ++ [turn s]
theorem rv_len : ∀ l : List Step, (rv l).length = l.length
  | [] => rfl
  | s :: l => by show (rv l ++ [turn s]).length = _; rw [List.length_append, rv_len l]; rfl
theorem turn_near {ds : List Door} {s : Step} (hs : s ∈ allSteps ds) : near ds (turn s) = far ds s ∧ far ds (turn s) = near ds s ∧ lv ds (turn s) = ar ds s ∧ ar ds (turn s) = lv ds s := by
  have s2 := (mem_all.mp hs).2
  refine ⟨?_, ?_, ?_, ?_⟩
  · show (gate ds (turn s)).1 = _; rw [gate_turn s2]
  · show (gate ds (turn s)).2.2.1 = _; rw [gate_turn s2]
  · show (gate ds (turn s)).2.1 = _; rw [gate_turn s2]
  · show (gate ds (turn s)).2.2.2 = _; rw [gate_turn s2]
theorem rv_wlk {ds : List Door} : ∀ {l : List Step} {r : Int}, Wlk ds r l → Wlk ds (endR ds r l) (rv l) ∧ endR ds (endR ds r l) (rv l) = r
  | [], r, _ => ⟨trivial, rfl⟩
  | s :: l, r, ⟨h1, h2, h3⟩ => by
    obtain ⟨a, b⟩ := rv_wlk h3
    obtain ⟨t1, t2, _, _⟩ := turn_near h1
    obtain ⟨c, d⟩ := wlk_snoc a (turn_mem h1) (by rw [b]; exact t1)
    exact ⟨c, d.trans (t2.trans h2)⟩
theorem rv_prod {ds : List Door} : ∀ {l : List Step}, (∀ s ∈ l, s ∈ allSteps ds) → pA ds (rv l) = pL ds l ∧ pL ds (rv l) = pA ds l
  | [], _ => ⟨rfl, rfl⟩
  | s :: l, h => by
    obtain ⟨a, b⟩ := rv_prod (l := l) fun s hs => h s (by simp [hs])
    obtain ⟨_, _, t3, t4⟩ := turn_near (h s (by simp))
    constructor
    · show pA ds (rv l ++ [turn s]) = aux (lv ds s) * pL ds l
      rw [pA_app, a]
      show pL ds l * (aux (ar ds (turn s)) * 1) = _
      rw [t4, Int.mul_one, Int.mul_comm]
    · show pL ds (rv l ++ [turn s]) = aux (ar ds s) * pA ds l
      rw [pL_app, b]
      show pA ds l * (aux (lv ds (turn s)) * 1) = _
      rw [t3, Int.mul_one, Int.mul_comm]
/-- no rise: closed ways do not stretch -/
theorem no_stretch {rooms : Int} {ds : List Door} (ok : Ok rooms ds) {room : Int} {N M : Nat} (hle : risen ds room (M + 1) ≤ risen ds room (N + 1)) (hNM : N ≤ M) {W : List Step} (hW : Wlk ds room W) (he : endR ds room W = room) (hl : W.length + N ≤ M) : pL ds W = pA ds W := by
  obtain ⟨a0, a1, a2⟩ := risen_ok ok room (N + 1)
  obtain ⟨b0, b1, b2⟩ := risen_ok ok room (M + 1)
  have d1 : risen ds room (N + 1) ∣ risen ds room (M + 1) := a2 _ fun L hL => b1 L (by omega)
  have e : risen ds room (M + 1) = risen ds room (N + 1) := Int.le_antisymm hle (Int.le_of_dvd b0 d1)
  have hR : ∀ L, L ≤ M → ret (cls ds room L) ∣ risen ds room (N + 1) := fun L hL => by rw [← e]; exact b1 L (by omega)
  have hm : ∀ T, (∀ L, L ≤ N → ret (cls ds room L) ∣ T) → risen ds room (N + 1) ∣ T := fun T hT => a2 T fun L hL => hT L (by omega)
  have h1 := no_rise ok hR hm a0 hW he hl
  obtain ⟨w2, e2⟩ := rv_wlk hW
  rw [he] at w2 e2
  have h2 := no_rise ok hR hm a0 w2 e2 (by rw [rv_len]; exact hl)
  obtain ⟨p1, p2⟩ := rv_prod (wlk_mem hW)
  rw [p1, p2] at h2
  have q1 := pL_pos ok (wlk_mem hW)
  have q2 := pA_pos ok (wlk_mem hW)
  exact Int.dvd_antisymm (by omega) (by omega) h1 h2
/-- between rooms of so few -/
theorem short {rooms : Int} {ds : List Door} (r3 : rooms ≤ 3) (hc : ∀ r : Int, 1 ≤ r → r < rooms → ∃ s ∈ allSteps ds, near ds s = r ∧ 0 ≤ far ds s ∧ far ds s < r) {a b : Int} (ha : 0 ≤ a ∧ a < rooms) (hb : 0 ≤ b ∧ b < rooms) : ∃ l, Wlk ds a l ∧ endR ds a l = b ∧ l.length ≤ 2 := by
  -- one pass between two rooms, either way
  have one : ∀ {x y : Int}, (∃ s ∈ allSteps ds, near ds s = x ∧ far ds s = y) → (∃ l, Wlk ds x l ∧ endR ds x l = y ∧ l.length = 1) ∧ ∃ l, Wlk ds y l ∧ endR ds y l = x ∧ l.length = 1 := by
    rintro x y ⟨s, hs, h1, h2⟩
    obtain ⟨t1, t2, _, _⟩ := turn_near hs
    exact ⟨⟨[s], ⟨hs, h1, trivial⟩, h2, rfl⟩, ⟨[turn s], ⟨turn_mem hs, t1.trans h2, trivial⟩, t2.trans h1, rfl⟩⟩
  have two : ∀ {x y z : Int}, (∃ l, Wlk ds x l ∧ endR ds x l = y ∧ l.length = 1) → (∃ l, Wlk ds y l ∧ endR ds y l = z ∧ l.length = 1) → ∃ l, Wlk ds x l ∧ endR ds x l = z ∧ l.length ≤ 2 := by
    rintro x y z ⟨l, a1, a2, a3⟩ ⟨m, b1, b2, b3⟩
    obtain ⟨c1, c2⟩ := wlk_app (m := m) a1 (by rw [show endOf ds x l = y from a2]; exact b1)
    exact ⟨l ++ m, c1, c2.trans (by rw [show endOf ds x l = y from a2]; exact b2), by rw [List.length_append]; omega⟩
  have up1 : ∀ {x y : Int}, (∃ l, Wlk ds x l ∧ endR ds x l = y ∧ l.length = 1) → ∃ l, Wlk ds x l ∧ endR ds x l = y ∧ l.length ≤ 2 := fun ⟨l, a, b, c⟩ => ⟨l, a, b, by omega⟩
  by_cases e : a = b
  · exact ⟨[], trivial, e, by simp⟩
  have r1 : 1 < rooms := by omega
  have h10 : 1 < rooms → ∃ s ∈ allSteps ds, near ds s = 1 ∧ far ds s = 0 := fun h => by
    obtain ⟨s, hs, h1, h2, h3⟩ := hc 1 (by omega) h
    exact ⟨s, hs, h1, by omega⟩
  have h2x : 2 < rooms → (∃ s ∈ allSteps ds, near ds s = 2 ∧ far ds s = 0) ∨ ∃ s ∈ allSteps ds, near ds s = 2 ∧ far ds s = 1 := fun h => by
    obtain ⟨s, hs, h1, h2, h3⟩ := hc 2 (by omega) h
    by_cases z : far ds s = 0
    · exact .inl ⟨s, hs, h1, z⟩
    · exact .inr ⟨s, hs, h1, by omega⟩
  have o1 := one (h10 r1)
  have cases3 : (a = 0 ∨ a = 1 ∨ a = 2) ∧ (b = 0 ∨ b = 1 ∨ b = 2) := by omega
  obtain ⟨ca, cb⟩ := cases3
  rcases ca with rfl | rfl | rfl <;> rcases cb with rfl | rfl | rfl
  · exact absurd rfl e
  · exact up1 o1.2
  · rcases h2x (by omega) with h | h
    · exact up1 (one h).2
    · exact two o1.2 (one h).2
  · exact up1 o1.1
  · exact absurd rfl e
  · rcases h2x (by omega) with h | h
    · exact two o1.1 (one h).2
    · exact up1 (one h).2
  · rcases h2x (by omega) with h | h
    · exact up1 (one h).1
    · exact two (one h).1 o1.1
  · rcases h2x (by omega) with h | h
    · exact two (one h).1 o1.2
    · exact up1 (one h).1
  · exact absurd rfl e
/-- if nothing rises, lengths fit -/
theorem rise_fit {rooms : Int} {ds : List Door} (ok : Ok rooms ds) (r3 : rooms ≤ 3) (hc : ∀ r : Int, 1 ≤ r → r < rooms → ∃ s ∈ allSteps ds, near ds s = r ∧ 0 ≤ far ds s ∧ far ds s < r) {room : Int} (hr : 0 ≤ room ∧ room < rooms) {N M : Nat} (hNM : N + 5 ≤ M) (hle : risen ds room (M + 1) ≤ risen ds room (N + 1)) : ∃ ln, Fit rooms ds ln := by
  have sh : ∀ b : Int, ∃ l, (0 ≤ b ∧ b < rooms) → Wlk ds room l ∧ endR ds room l = b ∧ l.length ≤ 2 := fun b => by
    by_cases h : 0 ≤ b ∧ b < rooms
    · obtain ⟨l, hl⟩ := short r3 hc hr h
      exact ⟨l, fun _ => hl⟩
    · exact ⟨[], fun z => absurd z h⟩
  obtain ⟨T, hT⟩ : ∃ T : Int → List Step, ∀ b, (0 ≤ b ∧ b < rooms) → Wlk ds room (T b) ∧ endR ds room (T b) = b ∧ (T b).length ≤ 2 := ⟨fun b => (sh b).choose, fun b => (sh b).choose_spec⟩
  have cyc : ∀ s ∈ allSteps ds, pL ds (T (near ds s)) * aux (lv ds s) * pA ds (T (far ds s)) = pA ds (T (near ds s)) * aux (ar ds s) * pL ds (T (far ds s)) := by
    intro s hs
    obtain ⟨a1, a2, a3⟩ := hT _ (near_room ok hs)
    obtain ⟨b1, b2, b3⟩ := hT _ (far_room ok hs)
    obtain ⟨c1, c2⟩ := wlk_snoc a1 hs a2.symm
    obtain ⟨d1, d2⟩ := rv_wlk b1
    rw [b2] at d1 d2
    obtain ⟨e1, e2⟩ := wlk_app (m := rv (T (far ds s))) c1 (by rw [show endOf ds room (T (near ds s) ++ [s]) = far ds s from c2]; exact d1)
    have e3 : endR ds room (T (near ds s) ++ [s] ++ rv (T (far ds s))) = room := e2.trans (by rw [show endOf ds room (T (near ds s) ++ [s]) = far ds s from c2]; exact d2)
    have key := no_stretch ok hle (by omega) e1 e3 (by rw [List.length_append, List.length_append, rv_len, List.length_singleton]; omega)
    obtain ⟨p1, p2⟩ := rv_prod (wlk_mem b1)
    rw [pL_app, pL_app, pA_app, pA_app, p1, p2] at key
    have key : pL ds (T (near ds s)) * (aux (lv ds s) * 1) * pA ds (T (far ds s)) = pA ds (T (near ds s)) * (aux (ar ds s) * 1) * pL ds (T (far ds s)) := key
    rw [Int.mul_one, Int.mul_one] at key
    exact key
  have posA : ∀ b, (0 ≤ b ∧ b < rooms) → 0 < pA ds (T b) := fun b hb => pA_pos ok (wlk_mem (hT b hb).1)
  have posL : ∀ b, (0 ≤ b ∧ b < rooms) → 0 < pL ds (T b) := fun b hb => pL_pos ok (wlk_mem (hT b hb).1)
  -- a common multiple
  obtain ⟨Z, hZ0, hZ⟩ : ∃ Z : Int, 0 < Z ∧ ∀ b, (0 ≤ b ∧ b < rooms) → pA ds (T b) ∣ Z := by
    have : ∀ n : Nat, (n : Int) ≤ rooms → ∃ Z : Int, 0 < Z ∧ ∀ b : Int, (0 ≤ b ∧ b < (n : Int)) → pA ds (T b) ∣ Z := by
      intro n
      induction n with
      | zero => exact fun _ => ⟨1, Int.one_pos, fun b hb => by omega⟩
      | succ n ih =>
        intro hn
        obtain ⟨Z, z0, hz⟩ := ih (by omega)
        refine ⟨Z * pA ds (T n), Int.mul_pos z0 (posA n (by omega)), fun b hb => ?_⟩
        by_cases e : b = (n : Int)
        · rw [e]; exact Int.dvd_mul_left _ _
        · exact Int.dvd_trans (hz b (by omega)) (Int.dvd_mul_right _ _)
    obtain ⟨Z, z0, hz⟩ := this rooms.toNat (by omega)
    exact ⟨Z, z0, fun b hb => hz b (by omega)⟩
  refine ⟨fun b => pL ds (T b) * (Z / pA ds (T b)), fun b h0 h1 => ?_, fun s hs => ?_⟩
  · exact Int.mul_pos (posL b ⟨h0, h1⟩) (Int.ediv_pos_of_pos_of_dvd hZ0 (by have := posA b ⟨h0, h1⟩; omega) (hZ b ⟨h0, h1⟩))
  · have hn := near_room ok hs
    have hf := far_room ok hs
    obtain ⟨x, hx⟩ := hZ _ hn
    obtain ⟨y, hy⟩ := hZ _ hf
    have a0 := posA _ hn
    have b0 := posA _ hf
    have ex : Z / pA ds (T (near ds s)) = x := by rw [hx]; exact Int.mul_ediv_cancel_left _ (by omega)
    have ey : Z / pA ds (T (far ds s)) = y := by rw [hy]; exact Int.mul_ediv_cancel_left _ (by omega)
    show aux (lv ds s) * (pL ds (T (near ds s)) * (Z / pA ds (T (near ds s)))) = aux (ar ds s) * (pL ds (T (far ds s)) * (Z / pA ds (T (far ds s))))
    rw [ex, ey]
    refine Int.eq_of_mul_eq_mul_left (Int.ne_of_gt (Int.mul_pos a0 b0)) ?_
    have key := cyc s hs
    generalize pA ds (T (near ds s)) = A1 at *
    generalize pA ds (T (far ds s)) = A2 at *
    generalize pL ds (T (near ds s)) = L1 at *
    generalize pL ds (T (far ds s)) = L2 at *
    calc A1 * A2 * (aux (lv ds s) * (L1 * x)) = (L1 * aux (lv ds s) * A2) * (A1 * x) := by ac_rfl
      _ = (A1 * aux (ar ds s) * L2) * Z := by rw [key, hx]
      _ = (A1 * aux (ar ds s) * L2) * (A2 * y) := by rw [← hy]
      _ = _ := by ac_rfl
end MF

set_option linter.all false
/-! Ratios of ways, least common multiples, lengths told: plain. -/
namespace MF
open MS
theorem snoc_ind {α : Type} {P : List α → Prop} (h0 : P []) (hs : ∀ l a, P l → P (l ++ [a])) (l : List α) : P l := by
  have : ∀ m : List α, P m.reverse := by
    intro m
    induction m with
    | nil => exact h0
    | cons a m ih => rw [List.reverse_cons]; exact hs _ _ ih
  have h := this l.reverse
  rwa [List.reverse_reverse] at h
def lowI (t b : Int) : Int × Int := (t.fdiv (if 0 < b then gcdI t b else 0 - gcdI t b), b.fdiv (if 0 < b then gcdI t b else 0 - gcdI t b))
theorem lowI_ok {t b : Int} (ht : t ≠ 0) (hb : b ≠ 0) : 0 < (lowI t b).2 ∧ (lowI t b).1 ≠ 0 ∧ aux (lowI t b).1 * aux b = (lowI t b).2 * aux t ∧ aux (lowI t b).1 ≤ aux t ∧ (lowI t b).2 ≤ aux b := by
  have g0 := gcdI_pos (b := b) ht
  obtain ⟨x, hx⟩ := gcdI_left t b
  obtain ⟨y, hy⟩ := gcdI_right t b
  unfold lowI
  generalize gcdI t b = g at *
  have hx0 : x ≠ 0 := fun z => ht (by rw [hx, z, Int.mul_zero])
  have hy0 : y ≠ 0 := fun z => hb (by rw [hy, z, Int.mul_zero])
  have at_ : aux t = g * aux x := by unfold aux; rw [hx, Int.natAbs_mul]; push_cast; congr 1; omega
  have ab_ : aux b = g * aux y := by unfold aux; rw [hy, Int.natAbs_mul]; push_cast; congr 1; omega
  have le1 : aux x ≤ aux t := by
    have := Int.mul_le_mul_of_nonneg_right (show 1 ≤ g by omega) (aux_nn x)
    rw [at_]; omega
  have le2 : aux y ≤ aux b := by
    have := Int.mul_le_mul_of_nonneg_right (show 1 ≤ g by omega) (aux_nn y)
    rw [ab_]; omega
  by_cases h : 0 < b
  · rw [if_pos h]
    have e1 : t.fdiv g = x := by rw [hx]; exact Int.mul_fdiv_cancel_left _ (by omega)
    have e2 : b.fdiv g = y := by rw [hy]; exact Int.mul_fdiv_cancel_left _ (by omega)
    have y0 : 0 < y := Int.pos_of_mul_pos_right (by rw [← hy]; exact h) g0
    dsimp only
    rw [e1, e2]
    refine ⟨y0, hx0, ?_, le1, by have : aux y = y := by unfold aux; omega
                                 omega⟩
    have : aux y = y := by unfold aux; omega
    rw [at_, ab_, this]; ac_rfl
  · rw [if_neg h]
    have e1 : t.fdiv (0 - g) = -x := by rw [hx, show g * x = (0 - g) * (-x) by rw [Int.zero_sub, Int.neg_mul_neg]]; exact Int.mul_fdiv_cancel_left _ (by omega)
    have e2 : b.fdiv (0 - g) = -y := by rw [hy, show g * y = (0 - g) * (-y) by rw [Int.zero_sub, Int.neg_mul_neg]]; exact Int.mul_fdiv_cancel_left _ (by omega)
    have y0 : y < 0 := by
      have h1 : ¬ 0 < y := fun z => h (by rw [hy]; exact Int.mul_pos g0 z)
      omega
    have ax : aux (-x) = aux x := by unfold aux; omega
    have ay : aux y = -y := by unfold aux; omega
    dsimp only
    rw [e1, e2, ax]
    refine ⟨by omega, by omega, ?_, le1, by omega⟩
    rw [at_, ab_, ay]; ac_rfl
def ratI (ds : List Door) (l : List Step) : Int × Int := l.foldl (fun r s => lowI (r.1 * ar ds s) (r.2 * lv ds s)) (1, 1)
theorem aux_mul (a b : Int) : aux (a * b) = aux a * aux b := by unfold aux; rw [Int.natAbs_mul]; push_cast; rfl
theorem ratI_snoc (ds : List Door) (l : List Step) (s : Step) : ratI ds (l ++ [s]) = lowI ((ratI ds l).1 * ar ds s) ((ratI ds l).2 * lv ds s) := by unfold ratI; rw [List.foldl_append]; rfl
theorem ratI_ok {rooms : Int} {ds : List Door} (ok : Ok rooms ds) (l : List Step) : (∀ s ∈ l, s ∈ allSteps ds) → 0 < (ratI ds l).2 ∧ (ratI ds l).1 ≠ 0 ∧ aux (ratI ds l).1 * pL ds l = (ratI ds l).2 * pA ds l ∧ aux (ratI ds l).1 ≤ pA ds l ∧ (ratI ds l).2 ≤ pL ds l := by
  induction l using snoc_ind with
  | h0 => intro _; exact ⟨Int.one_pos, (show (1 : Int) ≠ 0 by decide), rfl, Int.le_refl _, Int.le_refl _⟩
  | hs l s ih =>
    intro h
    obtain ⟨b0, t0, e, l1, l2⟩ := ih fun s hs => h s (by simp [hs])
    have hs := h s (by simp)
    have lv0 := lv_ne ok hs
    have ar0 := ar_ne ok hs
    rw [ratI_snoc, pA_app, pL_app]
    generalize ratI ds l = r at *
    obtain ⟨c0, c1, c2, c3, c4⟩ := lowI_ok (t := r.1 * ar ds s) (b := r.2 * lv ds s) (Int.mul_ne_zero t0 ar0) (Int.mul_ne_zero (by omega) lv0)
    generalize lowI (r.1 * ar ds s) (r.2 * lv ds s) = r' at *
    have ra : aux r.2 = r.2 := by unfold aux; omega
    have pa1 : pA ds [s] = aux (ar ds s) := by show aux (ar ds s) * 1 = _; rw [Int.mul_one]
    have pl1 : pL ds [s] = aux (lv ds s) := by show aux (lv ds s) * 1 = _; rw [Int.mul_one]
    rw [aux_mul, aux_mul, ra] at c2
    rw [aux_mul] at c3 c4
    rw [ra] at c4
    refine ⟨c0, c1, ?_, ?_, ?_⟩
    · rw [pa1, pl1]
      have a0 : aux r.1 ≠ 0 := by unfold aux; omega
      refine Int.eq_of_mul_eq_mul_left (show r.2 ≠ 0 by omega) ?_
      calc r.2 * (aux r'.1 * (pL ds l * aux (lv ds s))) = (aux r'.1 * (r.2 * aux (lv ds s))) * pL ds l := by ac_rfl
        _ = (r'.2 * (aux r.1 * aux (ar ds s))) * pL ds l := by rw [c2]
        _ = (aux r.1 * pL ds l) * (r'.2 * aux (ar ds s)) := by ac_rfl
        _ = (r.2 * pA ds l) * (r'.2 * aux (ar ds s)) := by rw [e]
        _ = _ := by ac_rfl
    · rw [pa1]
      exact Int.le_trans c3 (Int.mul_le_mul_of_nonneg_right l1 (aux_nn _))
    · rw [pl1]
      exact Int.le_trans c4 (Int.mul_le_mul_of_nonneg_right l2 (aux_nn _))
/-- least common multiple, as joined one by one -/
def lcmL (ns : List Int) : Int := ns.foldl (fun f n => (f * aux n).fdiv (gcdI f n)) 1
theorem lcmL_snoc (ns : List Int) (n : Int) : lcmL (ns ++ [n]) = (lcmL ns * aux n).fdiv (gcdI (lcmL ns) n) := by unfold lcmL; rw [List.foldl_append]; rfl
theorem gcdI_aux_r (a b : Int) : gcdI a (aux b) = gcdI a b := by
  unfold gcdI aux
  congr 2
theorem lcmL_ok (ns : List Int) : (∀ n ∈ ns, n ≠ 0) → 0 < lcmL ns ∧ (∀ n ∈ ns, n ∣ lcmL ns) ∧ (∀ c, (∀ n ∈ ns, n ∣ c) → lcmL ns ∣ c) ∧ ∀ b : Nat, (∀ n ∈ ns, n.natAbs < 2 ^ b) → lcmL ns ≤ 2 ^ (b * ns.length) := by
  induction ns using snoc_ind with
  | h0 => intro _; exact ⟨Int.one_pos, (fun n h => by cases h), (fun c _ => Int.one_dvd c), fun b _ => by rw [List.length_nil, Nat.mul_zero]; exact Int.le_refl 1⟩
  | hs ns n ih =>
    intro h
    obtain ⟨h1, h2, h3, h4⟩ := ih fun n hn => h n (by simp [hn])
    have hn := h n (by simp)
    have an : 0 < aux n := by unfold aux; omega
    have st := lcm_step h1 an
    rw [gcdI_aux_r] at st
    rw [lcmL_snoc]
    obtain ⟨a, b, c, d⟩ := st
    refine ⟨a, fun m hm => ?_, fun z hz => ?_, fun bb hb => ?_⟩
    · rcases List.mem_append.mp hm with hm | hm
      · exact Int.dvd_trans (h2 m hm) b
      · have : m = n := by simpa using hm
        subst this
        exact Int.dvd_trans (dvd_aux.mpr (Int.dvd_refl _)) c
    · exact d z (h3 z fun m hm => hz m (by simp [hm])) (aux_dvd.mpr (hz n (by simp)))
    · have i1 := h4 bb fun m hm => hb m (by simp [hm])
      have i2 := hb n (by simp)
      have g0 := gcdI_pos (b := n) (show lcmL ns ≠ 0 by omega)
      rw [Int.fdiv_eq_ediv_of_nonneg _ (by omega)]
      have i3 : (lcmL ns * aux n) / gcdI (lcmL ns) n ≤ lcmL ns * aux n := Int.ediv_le_self _ (Int.mul_nonneg (by omega) (aux_nn n))
      have i4 : aux n ≤ 2 ^ bb := by unfold aux; have : ((n.natAbs : Nat) : Int) < ((2 ^ bb : Nat) : Int) := Int.ofNat_lt.mpr i2; push_cast at this; omega
      have i5 := Int.mul_le_mul i1 i4 (aux_nn n) (Int.le_of_lt (Int.pow_pos (by decide)))
      rw [List.length_append, List.length_singleton, Nat.mul_add, Int.pow_add, Nat.mul_one]
      omega
def gcdL (ns : List Int) : Int := ns.foldl gcdI 0
theorem gcdL_snoc (ns : List Int) (n : Int) : gcdL (ns ++ [n]) = gcdI (gcdL ns) n := by unfold gcdL; rw [List.foldl_append]; rfl
theorem gcdI_nn (a b : Int) : 0 ≤ gcdI a b := by unfold gcdI; omega
theorem gcdL_ok (ns : List Int) : 0 ≤ gcdL ns ∧ ∀ n ∈ ns, gcdL ns ∣ n := by
  induction ns using snoc_ind with
  | h0 => exact ⟨Int.le_refl _, fun n h => by cases h⟩
  | hs ns n ih =>
    rw [gcdL_snoc]
    refine ⟨gcdI_nn _ _, fun m hm => ?_⟩
    rcases List.mem_append.mp hm with hm | hm
    · exact Int.dvd_trans (gcdI_left _ _) (ih.2 m hm)
    · have : m = n := by simpa using hm
      subst this
      exact gcdI_right _ _
/-- lengths told from ratios -/
def wholeR (rs : List (Int × Int)) : Int := lcmL (rs.map fun r => aux r.1)
def lensR (rs : List (Int × Int)) : List Int := rs.map fun r => (r.2 * wholeR rs).fdiv (aux r.1)
def toldR (rs : List (Int × Int)) : List Int := (lensR rs).map fun x => x.fdiv (gcdL (lensR rs))
structure ROk (r : Int × Int) : Prop where
  b0 : 0 < r.2
  t0 : r.1 ≠ 0
  b1 : r.2 < 2 ^ 30
  t1 : aux r.1 < 2 ^ 30
theorem wholeR_ok {rs : List (Int × Int)} (h : ∀ r ∈ rs, ROk r) : 0 < wholeR rs ∧ (∀ r ∈ rs, aux r.1 ∣ wholeR rs) ∧ wholeR rs ≤ 2 ^ (30 * rs.length) := by
  obtain ⟨a, b, _, d⟩ := lcmL_ok (rs.map fun r => aux r.1) (fun n hn => by
    obtain ⟨r, hr, rfl⟩ := List.mem_map.mp hn
    have := (h r hr).t0
    unfold aux; omega)
  refine ⟨a, fun r hr => b _ (List.mem_map.mpr ⟨r, hr, rfl⟩), ?_⟩
  have := d 30 (fun n hn => by
    obtain ⟨r, hr, rfl⟩ := List.mem_map.mp hn
    have := (h r hr).t1
    unfold aux at *; omega)
  rwa [List.length_map] at this
theorem lensR_ok {rs : List (Int × Int)} (h : ∀ r ∈ rs, ROk r) {i : Nat} {r : Int × Int} (hr : rs[i]? = some r) : ∃ x, (lensR rs)[i]? = some x ∧ 0 < x ∧ x * aux r.1 = r.2 * wholeR rs ∧ x ≤ 2 ^ (30 * rs.length + 30) := by
  obtain ⟨w0, w1, w2⟩ := wholeR_ok h
  have hm := List.mem_of_getElem? hr
  have ho := h r hm
  have a0 : 0 < aux r.1 := by have := ho.t0; unfold aux; omega
  have hd : aux r.1 ∣ r.2 * wholeR rs := Int.dvd_trans (w1 r hm) (Int.dvd_mul_left _ _)
  refine ⟨(r.2 * wholeR rs).fdiv (aux r.1), by unfold lensR; rw [List.getElem?_map, hr]; rfl, ?_, ?_, ?_⟩
  · rw [Int.fdiv_eq_ediv_of_nonneg _ (by omega)]
    exact Int.ediv_pos_of_pos_of_dvd (Int.mul_pos ho.b0 w0) (by omega) hd
  · rw [Int.fdiv_eq_ediv_of_nonneg _ (by omega)]
    exact Int.ediv_mul_cancel hd
  · rw [Int.fdiv_eq_ediv_of_nonneg _ (by omega)]
    refine Int.le_trans (Int.ediv_le_self _ (Int.mul_nonneg (by have := ho.b0; omega) (by omega))) ?_
    rw [Int.pow_add, Int.mul_comm]
    exact Int.mul_le_mul w2 (by have := ho.b1; omega) (by have := ho.b0; omega) (Int.le_of_lt (Int.pow_pos (by decide)))
theorem toldR_ok {rs : List (Int × Int)} (h : ∀ r ∈ rs, ROk r) (hne : 0 < rs.length) : 0 < gcdL (lensR rs) ∧ (toldR rs).length = rs.length ∧ ∀ (i : Nat) (r : Int × Int), rs[i]? = some r → ∃ y, (toldR rs)[i]? = some y ∧ 0 < y ∧ y * gcdL (lensR rs) * aux r.1 = r.2 * wholeR rs ∧ y ≤ 2 ^ (30 * rs.length + 30) := by
  obtain ⟨g0, g1⟩ := gcdL_ok (lensR rs)
  have gp : 0 < gcdL (lensR rs) := by
    obtain ⟨x, hx, x0, _⟩ := lensR_ok h (i := 0) (r := rs[0]) (List.getElem?_eq_getElem hne)
    obtain ⟨k, hk⟩ := g1 x (List.mem_of_getElem? hx)
    have : gcdL (lensR rs) ≠ 0 := fun z => by rw [z, Int.zero_mul] at hk; omega
    omega
  refine ⟨gp, by unfold toldR lensR; rw [List.length_map, List.length_map], fun i r hr => ?_⟩
  obtain ⟨x, hx, x0, e, b⟩ := lensR_ok h hr
  have hd := g1 x (List.mem_of_getElem? hx)
  refine ⟨x.fdiv (gcdL (lensR rs)), by unfold toldR; rw [List.getElem?_map, hx]; rfl, ?_, ?_, ?_⟩
  · rw [Int.fdiv_eq_ediv_of_nonneg _ (by omega)]
    exact Int.ediv_pos_of_pos_of_dvd x0 (by omega) hd
  · rw [Int.fdiv_eq_ediv_of_nonneg _ (by omega), Int.ediv_mul_cancel hd]
    exact e
  · rw [Int.fdiv_eq_ediv_of_nonneg _ (by omega)]
    exact Int.le_trans (Int.ediv_le_self _ (by omega)) b
/-- along a way lengths go by the ratio -/
theorem fit_walk {rooms : Int} {ds : List Door} (ok : Ok rooms ds) {ln : Int → Int} (F : Fit rooms ds ln) : ∀ {l : List Step} {r : Int}, Wlk ds r l → ln r * pL ds l = ln (endR ds r l) * pA ds l
  | [], r, _ => rfl
  | s :: l, r, ⟨h1, h2, h3⟩ => by
    have ih := fit_walk ok F h3
    have f := F.fit s h1
    rw [h2] at f
    show ln r * (aux (lv ds s) * pL ds l) = ln (endR ds (far ds s) l) * (aux (ar ds s) * pA ds l)
    calc ln r * (aux (lv ds s) * pL ds l) = (aux (lv ds s) * ln r) * pL ds l := by ac_rfl
      _ = (aux (ar ds s) * ln (far ds s)) * pL ds l := by rw [f]
      _ = aux (ar ds s) * (ln (far ds s) * pL ds l) := by ac_rfl
      _ = aux (ar ds s) * (ln (endR ds (far ds s) l) * pA ds l) := by rw [ih]
      _ = _ := by ac_rfl
def lnOf (ns : List Int) (r : Int) : Int := ns.getD r.toNat 0
def FitsD (ds : List Door) (ns : List Int) : Prop := ∀ d ∈ ds, aux d.2.1 * lnOf ns d.1 = aux d.2.2.2 * lnOf ns d.2.2.1
theorem fitsD_fit {rooms : Int} {ds : List Door} {ns : List Int} (hl : (ns.length : Int) = rooms) (h0 : ∀ n ∈ ns, 0 < n) (h : FitsD ds ns) : Fit rooms ds (lnOf ns) := by
  refine ⟨fun r r0 r1 => ?_, fun s hs => ?_⟩
  · unfold lnOf
    have hlt : r.toNat < ns.length := by omega
    rw [List.getD_eq_getElem?_getD, List.getElem?_eq_getElem hlt]
    exact h0 _ (List.getElem_mem _)
  · obtain ⟨d, hd, e | e⟩ := gate_door hs
    · unfold lv near ar far; rw [e]; exact h d hd
    · unfold lv near ar far; rw [e]; exact (h d hd).symm
theorem fit_doors {rooms : Int} {ds : List Door} {ln : Int → Int} (F : Fit rooms ds ln) : ∀ d ∈ ds, aux d.2.1 * ln d.1 = aux d.2.2.2 * ln d.2.2.1 := by
  intro d hd
  obtain ⟨i, hi⟩ := List.getElem?_of_mem hd
  have hlt := (List.getElem?_eq_some_iff.mp hi).1
  have hs : ((i, 0) : Step) ∈ allSteps ds := mem_all.mpr ⟨hlt, by simp⟩
  have g : gate ds (i, 0) = d := by unfold gate; rw [List.getD_eq_getElem?_getD, hi]; simp
  have := F.fit _ hs
  unfold lv near ar far at this
  rw [g] at this
  exact this
/-- what is told fits if anything does -/
theorem told_fits {rooms : Int} {ds : List Door} (ok : Ok rooms ds) {rs : List (Int × Int)} (hl : (rs.length : Int) = rooms) (h : ∀ r ∈ rs, ROk r) (hw : ∀ (i : Nat) (r : Int × Int), rs[i]? = some r → ∃ w, Wlk ds 0 w ∧ endR ds 0 w = (i : Int) ∧ r = ratI ds w) {ln : Int → Int} (F : Fit rooms ds ln) : FitsD ds (toldR rs) := by
  have r1 := ok.pos
  obtain ⟨g0, tl, tk⟩ := toldR_ok h (by omega)
  obtain ⟨w0, w1, w2⟩ := wholeR_ok h
  have l0 := F.pos 0 (by omega) (by omega)
  -- what is told goes as the lengths
  have prop : ∀ r : Int, 0 ≤ r → r < rooms → lnOf (toldR rs) r * (gcdL (lensR rs) * ln 0) = ln r * wholeR rs := by
    intro r r0 r1
    obtain ⟨i, rfl⟩ := Int.eq_ofNat_of_zero_le r0
    have hi : i < rs.length := by omega
    obtain ⟨y, hy, y0, e, _⟩ := tk i rs[i] (List.getElem?_eq_getElem hi)
    obtain ⟨w, a1, a2, a3⟩ := hw i rs[i] (List.getElem?_eq_getElem hi)
    have ey : lnOf (toldR rs) (i : Int) = y := by
      unfold lnOf
      rw [List.getD_eq_getElem?_getD, Int.toNat_natCast, hy]; rfl
    rw [ey]
    have fw := fit_walk ok F a1
    rw [a2] at fw
    obtain ⟨b0, t0, rt, _, _⟩ := ratI_ok ok w (wlk_mem a1)
    rw [a3] at e
    have pa := pA_pos ok (wlk_mem a1)
    generalize ratI ds w = q at *
    have k1 : aux q.1 * ln (i : Int) = q.2 * ln 0 := by
      refine Int.eq_of_mul_eq_mul_right (show pA ds w ≠ 0 by omega) ?_
      calc aux q.1 * ln (i : Int) * pA ds w = aux q.1 * (ln (i : Int) * pA ds w) := by ac_rfl
        _ = aux q.1 * (ln 0 * pL ds w) := by rw [fw]
        _ = (aux q.1 * pL ds w) * ln 0 := by ac_rfl
        _ = (q.2 * pA ds w) * ln 0 := by rw [rt]
        _ = _ := by ac_rfl
    have aq : aux q.1 ≠ 0 := by unfold aux; omega
    refine Int.eq_of_mul_eq_mul_right aq ?_
    calc y * (gcdL (lensR rs) * ln 0) * aux q.1 = (y * gcdL (lensR rs) * aux q.1) * ln 0 := by ac_rfl
      _ = (q.2 * wholeR rs) * ln 0 := by rw [e]
      _ = (q.2 * ln 0) * wholeR rs := by ac_rfl
      _ = (aux q.1 * ln (i : Int)) * wholeR rs := by rw [k1]
      _ = _ := by ac_rfl
  intro d hd
  obtain ⟨n0, n1, f0, f1⟩ := ok.rm d hd
  have fd := fit_doors F d hd
  have c0 : gcdL (lensR rs) * ln 0 ≠ 0 := Int.ne_of_gt (Int.mul_pos g0 l0)
  refine Int.eq_of_mul_eq_mul_right c0 ?_
  calc aux d.2.1 * lnOf (toldR rs) d.1 * (gcdL (lensR rs) * ln 0) = aux d.2.1 * (lnOf (toldR rs) d.1 * (gcdL (lensR rs) * ln 0)) := by ac_rfl
    _ = aux d.2.1 * (ln d.1 * wholeR rs) := by rw [prop _ n0 n1]
    _ = (aux d.2.1 * ln d.1) * wholeR rs := by ac_rfl
    _ = (aux d.2.2.2 * ln d.2.2.1) * wholeR rs := by rw [fd]
    _ = aux d.2.2.2 * (ln d.2.2.1 * wholeR rs) := by ac_rfl
    _ = aux d.2.2.2 * (lnOf (toldR rs) d.2.2.1 * (gcdL (lensR rs) * ln 0)) := by rw [prop _ f0 f1]
    _ = _ := by ac_rfl
end MF

set_option Elab.async false
set_option linter.all false
set_option maxRecDepth 100000
set_option maxHeartbeats 4000000
/-! Least common multiples, ratios. -/
namespace Kw
open PySem PySem.Spec PyProof.Rows L2 Y
local macro_rules | `(tactic| trivial) => `(tactic| first
  | with_reducible exact ev_int
  | with_reducible exact ev_bl
  | with_reducible exact ev_non
  | with_reducible exact ea_nil
  | with_reducible exact et_yes
  | ((with_reducible apply ev_var); exact rfl; first | exact .num _ | exact .bl _ | exact .non | assumption)
  | ((with_reducible apply ea_cons); trivial; trivial)
  | ((with_reducible apply ev_tup); trivial; first | decide | (show _ ≤ sizeLine; simp; decide))
  | ((with_reducible apply ev_ix0); trivial; trivial; exact rfl)
  | ((with_reducible apply ev_ix1); trivial; trivial; exact rfl)
  | ((with_reducible apply ev_ix2); trivial; trivial; exact rfl)
  | ((with_reducible apply ev_ix3); trivial; trivial; exact rfl)
  | ((with_reducible apply ev_opI); trivial; trivial)
  | ((with_reducible apply ev_opB); trivial; trivial)
  | ((with_reducible apply ev_eqI); trivial; trivial)
  | ((with_reducible apply ev_neI); trivial; trivial)
  | ((with_reducible apply ev_un); trivial)
  | ((with_reducible apply ev_chain); trivial; trivial; trivial)
  | ((with_reducible apply ev_abs); trivial)
  | ((with_reducible apply ev_intI); trivial)
  | ((with_reducible apply ev_gcd); trivial; trivial)
  | ((with_reducible apply ev_lenT); trivial)
  | ((with_reducible apply et_test); trivial)
  | ((with_reducible apply et_B); trivial)
  | ((with_reducible apply et_not); trivial)
  | ((with_reducible apply et_and); trivial; (intro _; trivial))
  | ((with_reducible apply et_or); trivial; (intro _; trivial))
  | ((with_reducible apply ev_andV); trivial; (intro _; trivial))
  | ((with_reducible apply ev_orV); trivial; (intro _; trivial))
  | ((with_reducible apply ev_notV); trivial)
  | ((with_reducible apply ev_isN); trivial)
  | ((with_reducible apply ev_notN); trivial)
  | ((with_reducible apply ev_isiII); trivial)
  | ((with_reducible apply ev_isiIB); trivial)
  | ((with_reducible apply ev_isiTT); trivial)
  | ((with_reducible apply ev_isH); trivial))
section
variable {P : Program} {w : World} {K : PySem.W.Frag} {mg : Str → Option Value} {base : Heap} {C : Addr}
theorem sc_least_common : FnScope ["numbers", "found", "number"] ["numbers"] (defScope s_least_common) := ⟨rfl, rfl, rfl, by decide +kernel, rfl, by decide +kernel, by decide +kernel⟩
/-- a list of numbers that are not 0, not too wide -/
structure LC (b : Nat) (ns : List Int) : Prop where
  n0 : ∀ n ∈ ns, n ≠ 0
  nb : ∀ n ∈ ns, n.natAbs < 2 ^ b
  le : b * ns.length ≤ 8900
abbrev sp_least_common : Sp := pSp (fun (ns : List Int) vs H => (∃ v, vs = [v] ∧ IL ns H v) ∧ ∃ b, 0 < b ∧ LC b ns) (fun ns H v => v = .int (MF.lcmL ns))
theorem ok_least_common (F : Df K mg "least_common" s_least_common) (B : Bi K mg C) : Cl P w K mg base "least_common" 1 ["numbers"] sp_least_common := by
  refine F.cl sc_least_common (fun _ _ _ _ _ _ us hl => match us, hl with | [_], _ => rfl) (fun vs H Q E h => ?_) (fun f cdv A outer s H vs Q E hr h => ?_)
  · obtain ⟨i, ⟨⟨v, rfl, _⟩, _⟩, _⟩ := h; rfl
  · obtain ⟨ns, ⟨⟨v, rfl, a, rfl, ha⟩, b, b0, lc⟩, q⟩ := h
    refine ⟨_, (pss_cons (ps_set (i := 1) sc_least_common.nd rfl (by first | exact Or.inl rfl | exact Or.inr rfl) pe_int)
      (pss_cons (ps_for PassesOwn.never rfl (pi_list (pv 0)) (pg_name (i := 2) sc_least_common.nd rfl (by first | exact Or.inl rfl | exact Or.inr rfl)) (pss_one (ps_set (i := 1) sc_least_common.nd rfl (by first | exact Or.inl rfl | exact Or.inr rfl) (pe_op op_fdivW (pe_op op_mulW (pv 1) (pe_callB call_abs (by rfl) B.abs (by decide +kernel) (pa_cons (pv 2) pa_nil))) (pe_callBfun cr_gcd (by rfl) B.gcd (pa_cons (pv 1) (pa_cons (pv 2) pa_nil)))))))
      (pss_one (ps_ret (pv 1))))), ?_⟩
    apply st_set (C := C) (d := .num 1)
    · trivial
    intro vf H1 s1 tf
    cases tp_num tf
    have ha1 := s1 _ _ ha
    refine st_for (C := C) (wi := _) (ei_at (C := C) (ds := ns.map D.num) (evv_var rfl) ha1 (of_nums C _ ns)) (fun G i σ' H' => ∃ x, σ' = [some (.ref a), some (.int (MF.lcmL (ns.take i))), x] ∧ Same G H') ?_ ?_ ?_ ?_
    · intro G sG
      exact ⟨none, rfl, Same.refl _⟩
    · rintro G i σ' H' sG ⟨x, rfl, s⟩
      exact ⟨Same.stay s, fun b o _ e => s b o e⟩
    · rintro G i d x σ' H' sG hi ⟨y, rfl, s⟩ tx
      obtain ⟨n, hn, rfl⟩ := map_item hi
      cases tp_num tx
      refine ⟨_, gb_name, ?_⟩
      have hm := List.mem_of_getElem? hn
      have il : i < ns.length := (List.getElem?_eq_some_iff.mp hn).1
      have tk : ns.take (i + 1) = ns.take i ++ [n] := by rw [List.take_add_one, hn]; rfl
      obtain ⟨l0, _, _, l3⟩ := MF.lcmL_ok (ns.take i) (fun m hm => lc.n0 m (List.mem_of_mem_take hm))
      have l4 := l3 b fun m hm => lc.nb m (List.mem_of_mem_take hm)
      have n0 := lc.n0 n hm
      have nb := lc.nb n hm
      rw [tk, MF.lcmL_snoc]
      have lb : (MF.lcmL (ns.take i)).natAbs < 2 ^ 8901 := by
        have h1 : b * (ns.take i).length ≤ 8900 := Nat.le_trans (Nat.mul_le_mul_left b (by rw [List.length_take]; omega)) lc.le
        have h2 : (2 : Nat) ^ (b * (ns.take i).length) ≤ 2 ^ 8900 := Nat.pow_le_pow_right (by decide) h1
        have h3 : ((MF.lcmL (ns.take i)).natAbs : Int) ≤ ((2 ^ (b * (ns.take i).length) : Nat) : Int) := by push_cast; omega
        have h4 : (MF.lcmL (ns.take i)).natAbs ≤ 2 ^ (b * (ns.take i).length) := Int.ofNat_le.mp h3
        have h5 : (2 : Nat) ^ 8900 < 2 ^ 8901 := Nat.pow_lt_pow_right (by decide) (by decide)
        omega
      generalize MF.lcmL (ns.take i) = fo at l0 lb ⊢
      have g0 := MF.gcdI_pos (b := n) (show fo ≠ 0 by omega)
      have g1 := gcdI_le (a := fo) n0
      have b89 : b ≤ 8900 := Nat.le_trans (Nat.le_mul_of_pos_right b (by omega)) lc.le
      have ev : EvD C (tOp (rI CDivW fun i j => .int (i / j)) (tOp (rI CMulW fun i j => .int (i * j)) (tVar 1) (tCB (fun xs H Q => ∃ i, xs = [.int i] ∧ Q (.int (if i < 0 then -i else i)) H) (tCons (tVar 2) tNil))) (tCB rGcd (tCons (tVar 1) (tCons (tVar 2) tNil)))) ([some (.ref a), some (.int fo), y].set 2 (some (.int n))) H' (.num ((fo * MF.aux n).fdiv (MF.gcdI fo n))) := by
        rw [Int.fdiv_eq_ediv_of_nonneg _ (show 0 ≤ MF.gcdI fo n by omega)]
        apply ev_opIC (g := fun i j => i / j)
        · rw [← aux_if]
          apply ev_opIC (g := fun i j => i * j)
          · trivial
          · trivial
          · exact wide_mul (a := 8901) (b := b) lb (by rw [aux_if]; unfold MF.aux; omega) (by decide) b0 (by omega)
        · exact ev_gcd (by trivial) (by trivial)
        · exact wide_div (b := b) g0 (by unfold MF.aux at g1; omega) b0 (by omega)
      refine ev H' (Same.refl _) _ fun v3 H3 s3 t3 => ?_
      cases tp_num t3
      exact ⟨_, rfl, Same.trans s s3⟩
    · rintro G σ' H' sG ⟨x, rfl, s⟩
      rw [List.length_map, List.take_length]
      exact ⟨_, rfl, q _ H' (Same.trans s1 (Same.trans sG s)) rfl⟩
theorem sc_lowest : FnScope ["top", "bottom", "common"] ["top", "bottom"] (defScope s_lowest) := ⟨rfl, rfl, rfl, by decide +kernel, rfl, by decide +kernel, by decide +kernel⟩
abbrev sp_lowest (C : Addr) : Sp := fnSp C (fun i : Int × Int => [.num i.1, .num i.2]) (fun i => i.1 ≠ 0 ∧ i.2 ≠ 0 ∧ i.1.natAbs < 1073741824) (fun i => .tup [.num (MF.lowI i.1 i.2).1, .num (MF.lowI i.1 i.2).2])
theorem ok_lowest (F : Df K mg "lowest" s_lowest) (B : Bi K mg C) : Cl P w K mg base "lowest" 1 ["top", "bottom"] (sp_lowest C) := by
  refine F.cl sc_lowest (fun _ _ _ _ _ _ us hl => match us, hl with | [_, _], _ => rfl) (fun vs H Q E h => ?_) (fun f cdv A outer s H vs Q E hr h => ?_)
  · obtain ⟨i, t, _⟩ := h; exact t.length
  · obtain ⟨⟨x, y⟩, t, hp, q⟩ := h
    obtain ⟨_, _, rfl, t1, t⟩ := tpa_cons t
    obtain ⟨_, _, rfl, t2, t⟩ := tpa_cons t
    cases tpa_nil t; cases tp_num t1; cases tp_num t2
    obtain ⟨x0, y0, xb⟩ := hp
    dsimp only at x0 y0 xb q
    refine ⟨_, (pss_cons (ps_set (i := 2) sc_lowest.nd rfl (by first | exact Or.inl rfl | exact Or.inr rfl) (pe_ifExp (pt_cmpR op_gt (pv 1) pe_int (nomark _)) (pe_callBfun cr_gcd (by rfl) B.gcd (pa_cons (pv 0) (pa_cons (pv 1) pa_nil))) (pe_op op_sub pe_int (pe_callBfun cr_gcd (by rfl) B.gcd (pa_cons (pv 0) (pa_cons (pv 1) pa_nil))))))
      (pss_one (ps_ret (pe_tup (pa_cons (pe_op op_fdivN (pv 0) (pv 2)) (pa_cons (pe_op op_fdivN (pv 1) (pv 2)) pa_nil)))))), ?_⟩
    have g0 := MF.gcdI_pos (b := y) x0
    have g1 : MF.gcdI x y ≤ MF.aux x := by
      unfold MF.gcdI MF.aux
      have := Nat.le_of_dvd (show 0 < x.natAbs by omega) (Nat.gcd_dvd_left x.natAbs y.natAbs)
      omega
    have g2 : MF.gcdI x y < 1073741824 := by unfold MF.aux at g1; omega
    apply st_set (C := C) (d := .num (if 0 < y then MF.gcdI x y else 0 - MF.gcdI x y))
    · apply ev_if (C := C) (b := decide (0 < y))
      · apply et_test (C := C)
        apply ev_opB (g := fun i j => decide (j < i))
        · trivial
        · trivial
      · intro hb
        rw [if_pos (of_decide_eq_true hb)]
        exact ev_gcd (by trivial) (by trivial)
      · intro hb
        rw [if_neg (of_decide_eq_false hb)]
        apply ev_opI (g := fun i j => i - j)
        · trivial
        · exact ev_gcd (by trivial) (by trivial)
    intro vc H1 s1 tc
    cases tp_num tc
    apply st_ret' (C := C) (d := .tup [.num (MF.lowI x y).1, .num (MF.lowI x y).2]) (k := fun v H2 s2 t2 => q v H2 (Same.trans s1 s2) t2)
    · apply ev_tup
      · refine ea_cons ?_ (ea_cons ?_ ea_nil)
        · exact ev_fdiv (by trivial) (by trivial) (by split <;> omega) (by split <;> omega)
        · exact ev_fdiv (by trivial) (by trivial) (by split <;> omega) (by split <;> omega)
      · exact small_len (m := 2) (Nat.le_refl 2) (by omega)
    · rfl
theorem sc_ratio_over : FnScope ["house", "passes", "top", "bottom", "step", "gate"] ["house", "passes"] (defScope s_ratio_over) := ⟨rfl, rfl, rfl, by decide +kernel, rfl, by decide +kernel, by decide +kernel⟩
abbrev sp_ratio_over (C : Addr) : Sp := fnSp C (fun i : Int × List Door × List MF.Step => [.hs i.1 i.2.1, .tup (i.2.2.map stepD)]) (fun i => HOk i.1 i.2.1 ∧ (∀ s ∈ i.2.2, s ∈ MF.allSteps i.2.1) ∧ MF.pA i.2.1 i.2.2 < 1073741824) (fun i => .tup [.num (MF.ratI i.2.1 i.2.2).1, .num (MF.ratI i.2.1 i.2.2).2])
theorem HOk.ok {rooms : Int} {ds : List Door} (h : HOk rooms ds) : MF.Ok rooms ds where
  pos := h.r0
  nn := fun d hd => ⟨(h.dok d hd).2.2.1.1, (h.dok d hd).2.2.2.1⟩
  rm := fun d hd => ⟨(h.dok d hd).1.1, (h.dok d hd).1.2, (h.dok d hd).2.1.1, (h.dok d hd).2.1.2⟩
theorem HOk.lv {rooms : Int} {ds : List Door} (h : HOk rooms ds) {s : MF.Step} (hs : s ∈ MF.allSteps ds) : MF.lv ds s ≠ 0 ∧ (MF.lv ds s).natAbs ≤ 999 ∧ MF.ar ds s ≠ 0 ∧ (MF.ar ds s).natAbs ≤ 999 := by
  obtain ⟨d, hd, e⟩ := MF.gate_door hs
  obtain ⟨_, _, ⟨a1, a2, a3⟩, ⟨b1, b2, b3⟩⟩ := h.dok d hd
  unfold MF.lv MF.ar
  rcases e with e | e <;> rw [e] <;> (try dsimp only) <;> omega
theorem ok_ratio_over (F : Df K mg "ratio_over" s_ratio_over) (B : Bi K mg C) (h_gate_of : Cl P w K mg base "gate_of" 1 ["house", "step"] (sp_gate_of C)) (h_lowest : Cl P w K mg base "lowest" 1 ["top", "bottom"] (sp_lowest C)) : Cl P w K mg base "ratio_over" 2 ["house", "passes"] (sp_ratio_over C) := by
  refine F.cl sc_ratio_over (fun _ _ _ _ _ _ us hl => match us, hl with | [_, _], _ => rfl) (fun vs H Q E h => ?_) (fun f cdv A outer s H vs Q E hr h => ?_)
  · obtain ⟨i, t, _⟩ := h; exact t.length
  · obtain ⟨⟨rooms, ds, l⟩, t, hp, q⟩ := h
    obtain ⟨v, _, rfl, t1, t⟩ := tpa_cons t
    obtain ⟨v', _, rfl, t2, t⟩ := tpa_cons t
    cases tpa_nil t
    obtain ⟨hk, hm, hb⟩ := hp
    dsimp only at hk hm hb t1 t2 q
    have ok := hk.ok
    refine ⟨_, (pss_cons (ps_asg (pe_tup (pa_cons pe_int (pa_cons pe_int pa_nil))) (pg_tup (by rfl) (pgs_cons (pg_name (i := 2) sc_ratio_over.nd rfl (by first | exact Or.inl rfl | exact Or.inr rfl)) (pgs_cons (pg_name (i := 3) sc_ratio_over.nd rfl (by first | exact Or.inl rfl | exact Or.inr rfl)) pgs_nil))))
      (pss_cons (ps_for PassesOwn.never rfl (pi_tup (pv 1)) (pg_name (i := 4) sc_ratio_over.nd rfl (by first | exact Or.inl rfl | exact Or.inr rfl)) (pss_cons (ps_set (i := 5) sc_ratio_over.nd rfl (by first | exact Or.inl rfl | exact Or.inr rfl) (pe_cl h_gate_of (hr.mono (by decide)) (by rfl) (pa_cons (pv 0) (pa_cons (pv 4) pa_nil))))
      (pss_one (ps_asg (pe_cl h_lowest (hr.mono (by decide)) (by rfl) (pa_cons (pe_op op_mul (pv 2) (pe_ix ix_tup (pv 5) pe_int (fun _ _ => rfl))) (pa_cons (pe_op op_mul (pv 3) (pe_ix ix_tup (pv 5) pe_int (fun _ _ => rfl))) pa_nil))) (pg_tup (by rfl) (pgs_cons (pg_name (i := 2) sc_ratio_over.nd rfl (by first | exact Or.inl rfl | exact Or.inr rfl)) (pgs_cons (pg_name (i := 3) sc_ratio_over.nd rfl (by first | exact Or.inl rfl | exact Or.inr rfl)) pgs_nil)))))))
      (pss_one (ps_ret (pe_tup (pa_cons (pv 2) (pa_cons (pv 3) pa_nil))))))), ?_⟩
    apply st_asg (C := C) (d := .tup [.num 1, .num 1])
    · trivial
    intro x H1 s1 tx
    obtain ⟨v1, v2, tv1, tv2, g2⟩ := gb_two (K := K) (i := 2) (j := 3) (σ := [some v, some v', none, none, none, none]) tx
    cases tp_num tv1; cases tp_num tv2
    refine ⟨_, g2, ?_⟩
    have t1' := t1.same s1
    refine st_for (C := C) (wi := _) (ei_tup (C := C) (ds := l.map stepD) (ev_var rfl (t2.same s1))) (fun G i σ' H' => ∃ x4 x5, σ' = [some v, some v', some (.int (MF.ratI ds (l.take i)).1), some (.int (MF.ratI ds (l.take i)).2), x4, x5] ∧ Same G H') ?_ ?_ ?_ ?_
    · intro G sG
      exact ⟨none, none, rfl, Same.refl _⟩
    · rintro G i σ' H' sG ⟨x4, x5, rfl, s⟩
      exact ⟨Same.stay s, fun b o _ e => s b o e⟩
    · rintro G i d x σ' H' sG hi ⟨x4, x5, rfl, s⟩ tx
      obtain ⟨st, hst, rfl⟩ := map_item hi
      refine ⟨_, gb_name, ?_⟩
      have hs := hm st (List.mem_of_getElem? hst)
      have tk : l.take (i + 1) = l.take i ++ [st] := by rw [List.take_add_one, hst]; rfl
      obtain ⟨b0, tn0, _, tb, _⟩ := MF.ratI_ok ok (l.take i) fun s hs => hm s (List.mem_of_mem_take hs)
      have pb : MF.pA ds (l.take (i + 1)) ≤ MF.pA ds l := by
        conv => rhs; rw [← List.take_append_drop (i + 1) l, MF.pA_app]
        have p1 := MF.pA_pos ok (l := l.take (i + 1)) fun s hs => hm s (List.mem_of_mem_take hs)
        have p2 := MF.pA_pos ok (l := l.drop (i + 1)) fun s hs => hm s (List.mem_of_mem_drop hs)
        have := Int.mul_le_mul_of_nonneg_left (show 1 ≤ MF.pA ds (l.drop (i + 1)) by omega) (show 0 ≤ MF.pA ds (l.take (i + 1)) by omega)
        omega
      rw [tk] at pb ⊢
      rw [MF.ratI_snoc]
      rw [MF.pA_app] at pb
      have pb : MF.pA ds (l.take i) * (MF.aux (MF.ar ds st) * 1) ≤ MF.pA ds l := pb
      rw [Int.mul_one] at pb
      have tb2 := Int.mul_le_mul_of_nonneg_right tb (MF.aux_nn (MF.ar ds st))
      have tb3 : MF.aux ((MF.ratI ds (l.take i)).1 * MF.ar ds st) < 1073741824 := by rw [MF.aux_mul]; omega
      generalize MF.ratI ds (l.take i) = r at b0 tn0 tb3 ⊢
      obtain ⟨lv0, lv1, ar0, ar1⟩ := hk.lv hs
      apply st_set (C := C) (d := doorD (MF.gate ds st))
      · apply ev_fn (rooms, ds, st)
        · exact ea_cons (ev_var rfl ((t1'.same sG).same s)) (ea_cons (ev_var rfl tx) ea_nil)
        · rfl
        · exact hs
      intro vg H2 s2 tg
      have tg : Tp C H2 vg (.tup [.num (MF.near ds st), .num (MF.lv ds st), .num (MF.far ds st), .num (MF.ar ds st)]) := tg
      have ev : EvD C (tCall (sp_lowest C) [] E0 (tCons (tOp (rI CMul fun i j => .int (i * j)) (tVar 2) (tOp (rIxT K) (tVar 5) (tC (.int 3)))) (tCons (tOp (rI CMul fun i j => .int (i * j)) (tVar 3) (tOp (rIxT K) (tVar 5) (tC (.int 1)))) tNil))) (([some v, some v', some (.int r.1), some (.int r.2), x4, x5].set 4 (some x)).set 5 (some vg)) H2 (.tup [.num (MF.lowI (r.1 * MF.ar ds st) (r.2 * MF.lv ds st)).1, .num (MF.lowI (r.1 * MF.ar ds st) (r.2 * MF.lv ds st)).2]) := by
        refine ev_fn (r.1 * MF.ar ds st, r.2 * MF.lv ds st) (ea_cons (ev_mulR (by trivial) ?_ (by omega)) (ea_cons (ev_mulR (by trivial) ?_ (by omega)) ea_nil)) rfl ⟨Int.mul_ne_zero tn0 ar0, Int.mul_ne_zero (by omega) lv0, by unfold MF.aux at tb3; omega⟩
        · exact ev_ix3 (ev_var rfl tg) ev_int rfl
        · exact ev_ix1 (ev_var rfl tg) ev_int rfl
      refine ev H2 (Same.refl _) _ fun v3 H3 s3 t3 => ?_
      obtain ⟨u1, u2, w1, w2, g3⟩ := gb_two (K := K) (i := 2) (j := 3) (σ := ([some v, some v', some (.int r.1), some (.int r.2), x4, x5].set 4 (some x)).set 5 (some vg)) t3
      cases tp_num w1; cases tp_num w2
      exact g3 _ ⟨_, _, rfl, Same.trans s (Same.trans s2 s3)⟩
    · rintro G σ' H' sG ⟨x4, x5, rfl, s⟩
      rw [List.length_map, List.take_length]
      have ev : EvD C (tTup (tCons (tVar 2) (tCons (tVar 3) tNil))) [some v, some v', some (.int (MF.ratI ds l).1), some (.int (MF.ratI ds l).2), x4, x5] H' (.tup [.num (MF.ratI ds l).1, .num (MF.ratI ds l).2]) := by trivial
      exact ev H' (Same.refl _) _ fun v H2 s2 t2 => q v H2 (Same.trans (Same.trans s1 (Same.trans sG s)) s2) t2
end
end Kw

set_option Elab.async false
set_option linter.all false
set_option maxRecDepth 100000
set_option maxHeartbeats 4000000
/-! Dicts from whole numbers to data; starred tuples. -/
namespace Y
open PySem PySem.Spec PyProof.Rows L2 StX
def KR (C : Addr) (H : Hp) (kvs : List (Key × V)) (m : List (Int × D)) : Prop := Paired (fun kv p => kv.1 = Sum.inl p.1 ∧ Tp C H kv.2 p.2) kvs m
def DK (C : Addr) (H : Hp) (a : Addr) (m : List (Int × D)) : Prop := ∃ kvs, H a = some (.dK kvs) ∧ KR C H kvs m
def dlk (m : List (Int × D)) (r : Int) : Option D := (m.find? fun p => decide (p.1 = r)).map (·.2)
theorem kr_get {C : Addr} {H : Hp} (r : Int) : ∀ {kvs : List (Key × V)} {m : List (Int × D)}, KR C H kvs m → (valV kvs (.inl r : Key)).isSome = decide (r ∈ m.map (·.1)) ∧ ∀ d, dlk m r = some d → ∃ v, valV kvs (.inl r : Key) = some v ∧ Tp C H v d
  | _, _, .nil => ⟨rfl, fun d h => by cases h⟩
  | kv :: kvs, p :: m, .cons x y => by
    obtain ⟨h1, h2⟩ := kr_get r y
    unfold valV dlk at *
    by_cases h : p.1 = r
    · have hk : kv.1 = (.inl r : Key) := by rw [x.1, h]
      refine ⟨by simp [hk, h], fun d hd => ?_⟩
      have hd : d = p.2 := by simpa [h] using hd.symm
      subst hd
      exact ⟨kv.2, by simp [hk], x.2⟩
    · have hk : ¬ kv.1 = (.inl r : Key) := fun z => h (Sum.inl.inj (x.1.symm.trans z))
      have hr : ¬ r = p.1 := fun z => h z.symm
      refine ⟨?_, fun d hd => ?_⟩
      · rw [List.find?_cons, decide_eq_false hk, List.map_cons]
        simp only [List.mem_cons, hr, false_or]
        exact h1
      · rw [List.find?_cons, decide_eq_false h] at hd
        obtain ⟨v, e, t⟩ := h2 d hd
        exact ⟨v, by rw [List.find?_cons, decide_eq_false hk]; exact e, t⟩
section
variable {C : Addr} {K : PySem.W.Frag} {te ta tb : TE} {σ : L2.St} {H H' : Hp} {p a : Addr} {i : Nat} {kvs : List (Key × V)} {m : List (Int × D)} {r : Int} {d : D} {v : V} {rest : TS} {Ds : Ends}
theorem kr_stay (s : Stay H H') : ∀ {kvs : List (Key × V)} {m : List (Int × D)}, KR C H kvs m → KR C H' kvs m
  | _, _, .nil => .nil
  | _, _, .cons x y => .cons ⟨x.1, x.2.stay s⟩ (kr_stay s y)
theorem kr_snoc (hv : Tp C H v d) : ∀ {kvs : List (Key × V)} {m : List (Int × D)}, KR C H kvs m → KR C H (kvs ++ [(.inl r, v)]) (m ++ [(r, d)])
  | _, _, .nil => .cons ⟨rfl, hv⟩ .nil
  | _, _, .cons x y => .cons x (kr_snoc hv y)
theorem kr_put (h : KR C H kvs m) (n : r ∉ m.map (·.1)) (v : V) : putK kvs (.inl r : Key) v = kvs ++ [(.inl r, v)] := by
  have e : (valV kvs (.inl r : Key)).isSome = false := by rw [(kr_get r h).1]; exact decide_eq_false n
  unfold putK
  rw [if_neg]
  rw [List.any_eq_true]
  rintro ⟨kv, h1, h2⟩
  unfold valV at e
  rw [Option.isSome_map, List.find?_isSome.mpr ⟨kv, h1, h2⟩] at e
  cases e
theorem kr_len : ∀ {kvs : List (Key × V)} {m : List (Int × D)}, KR C H kvs m → kvs.length = m.length
  | _, _, .nil => rfl
  | _, _, .cons _ y => congrArg Nat.succ (kr_len y)
theorem DK.stay (h : DK C H a m) (s : Stay H H') (e : ∀ o, H a = some o → H' a = some o) : DK C H' a m := let ⟨kvs, h1, h2⟩ := h; ⟨kvs, e _ h1, kr_stay s h2⟩
theorem DK.same (h : DK C H a m) (s : Same H H') : DK C H' a m := h.stay (Same.stay s) fun o e => s _ _ e
theorem DK.ni (h : DK C H a m) : ∀ o, H a = some o → ¬ Imm o := let ⟨_, h1, _⟩ := h; notImm_dK h1
theorem DK.some (h : DK C H a m) : H a ≠ none := let ⟨_, h1, _⟩ := h; by rw [h1]; simp
/-- d[k] -/
theorem ev_dgetK (hd : EvV ta σ H (.ref a)) (hk : EvD C tb σ H (.num r)) (h : DK C H a m) (e : dlk m r = some d) : EvD C (tDGet ta tb) σ H d := fun H1 s Q q =>
  hd H1 s _ fun H2 s2 => hk H2 (Same.trans s s2) _ fun w H3 s3 t3 => by
    cases tp_num t3
    obtain ⟨kvs, h1, h2⟩ := (h.same s).same (Same.trans s2 s3)
    obtain ⟨v, hv, tv⟩ := (kr_get r h2).2 d e
    have g := DGet.k (k := .inl r) h1
    rw [hv] at g
    exact ⟨a, v, rfl, g, q v H3 (Same.trans s2 s3) tv⟩
/-- k not in d -/
theorem et_notInK (hk : EvD C ta σ H (.num r)) (hd : EvV te σ H (.ref a)) (h : DK C H a m) : EvT (tTest (tDNotIn ta te)) σ H (!decide (r ∈ m.map (·.1))) := fun H1 s Q q =>
  hk H1 s _ fun v H2 s2 t2 => by
    cases tp_num t2
    refine hd H2 (Same.trans s s2) _ fun H3 s3 => ?_
    obtain ⟨kvs, h1, h2⟩ := (h.same s).same (Same.trans s2 s3)
    refine ⟨a, _, rfl, DGet.k (k := .inl r) h1, _, rfl, ?_⟩
    rw [(kr_get r h2).1]
    exact q H3 (Same.trans s2 s3)
theorem et_inK (hk : EvD C ta σ H (.num r)) (hd : EvV te σ H (.ref a)) (h : DK C H a m) : EvT (tTest (tDIn ta te)) σ H (decide (r ∈ m.map (·.1))) := fun H1 s Q q =>
  hk H1 s _ fun v H2 s2 t2 => by
    cases tp_num t2
    refine hd H2 (Same.trans s s2) _ fun H3 s3 => ?_
    obtain ⟨kvs, h1, h2⟩ := (h.same s).same (Same.trans s2 s3)
    refine ⟨a, _, rfl, DGet.k (k := .inl r) h1, _, rfl, ?_⟩
    rw [(kr_get r h2).1]
    exact q H3 (Same.trans s2 s3)
/-- d[k] = v, k new -/
theorem st_putK (hv : EvD C te σ H d) (hd : EvV ta σ H (.ref a)) (hk : EvD C tb σ H (.num r)) (h : DK C H a m) (n : r ∉ m.map (·.1)) (hl : m.length < sizeLine)
    (k : ∀ H2 v, Same H H2 → Tp C H2 v d → DK C (upd H2 a (.dK ((H2 a).elim [] fun o => match o with | .dK kvs => kvs ++ [(.inl r, v)] | _ => []))) a (m ++ [(r, d)]) → Ds.nx σ (upd H2 a (.dK ((H2 a).elim [] fun o => match o with | .dK kvs => kvs ++ [(.inl r, v)] | _ => [])))) : sDPut ta tb te Ds σ H :=
  hv H (Same.refl _) _ fun v H2 s2 t2 => hd H2 s2 _ fun H3 s3 => hk H3 (Same.trans s2 s3) _ fun w H4 s4 t4 => by
    cases tp_num t4
    have s24 := Same.trans s3 s4
    obtain ⟨kvs, h1, h2⟩ := (h.same s2).same s24
    have e : (H4 a).elim [] (fun o => match o with | .dK kvs => kvs ++ [((.inl r : Key), v)] | _ => []) = kvs ++ [(.inl r, v)] := by rw [h1]; rfl
    have key := k H4 v (Same.trans s2 s24) (t2.same s24)
    rw [e] at key
    refine ⟨a, _, rfl, DPut.k (k := .inl r) h1 (by rw [kr_len h2]; exact hl), ?_⟩
    rw [kr_put h2 n v]
    have st : Stay H4 (upd H4 a (.dK (kvs ++ [(.inl r, v)]))) := But.stay (p := a) but_up (notImm_dK h1)
    exact key ⟨_, upd_same, kr_snoc ((t2.same s24).stay st) (kr_stay st h2)⟩
/-- *e of a tuple, then the rest -/
theorem ea_star {ds es : List D} {as : TA} (h : EvD C te σ H (.tup ds)) (r : EvA C as σ H es) : EvA C (tStar K te as) σ H (ds ++ es) := fun H1 s Q q =>
  h H1 s _ fun v H2 s2 t => by
    obtain ⟨b, xs, rfl, hx, tr⟩ := tp_tup t
    refine ⟨b, xs, rfl, .inl (.inl (.inl hx)), r H2 (Same.trans s s2) _ fun vs H3 s3 t3 => q (xs ++ vs) H3 (Same.trans s2 s3) ((tr.same s3).append t3)⟩
end
end Y

set_option linter.all false
/-! Ways out from room 0: plain. -/
namespace MF
open MS
def lkW (m : List (Int × List Step)) (r : Int) : Option (List Step) := (m.find? fun p => decide (p.1 = r)).map (·.2)
def wstep (ds : List Door) (here : Int) (st : List (Int × List Step) × List Int) (s : Step) : List (Int × List Step) × List Int :=
  if near ds s = here ∧ far ds s ∉ st.1.map (·.1) then (st.1 ++ [(far ds s, (lkW st.1 here).getD [] ++ [s])], st.2 ++ [far ds s]) else st
def wvisit (ds : List Door) (here : Int) (l : List Step) (st : List (Int × List Step) × List Int) : List (Int × List Step) × List Int := l.foldl (wstep ds here) st
theorem edges_steps (ds : List Door) : MJ.edges ds = (allSteps ds).map fun s => (near ds s, far ds s) := by
  have key : ∀ n, n ≤ ds.length → MJ.edges (ds.take n) = ((List.range n).flatMap fun a => [(a, 0), (a, 1)]).map fun s : Step => (near ds s, far ds s) := by
    intro n
    induction n with
    | zero => intro _; rfl
    | succ n ih =>
      intro h
      rw [List.range_succ, List.flatMap_append, List.map_append, ← ih (by omega)]
      have hn : ds[n]? = some ds[n] := List.getElem?_eq_getElem (by omega)
      rw [List.take_add_one, hn, MJ.edges_app]
      have g0 : gate ds (n, 0) = ds[n] := by unfold gate; rw [List.getD_eq_getElem?_getD, hn]; simp
      have g1 : gate ds (n, 1) = (ds[n].2.2.1, ds[n].2.2.2, ds[n].1, ds[n].2.1) := by unfold gate; rw [List.getD_eq_getElem?_getD, hn]; simp
      congr 1
      show MJ.edges [ds[n]] = [(near ds (n, 0), far ds (n, 0)), (near ds (n, 1), far ds (n, 1))]
      unfold near far
      rw [g0, g1]
      rfl
  have := key ds.length (Nat.le_refl _)
  rw [List.take_length] at this
  exact this
def sk (st : List (Int × List Step) × List Int) : List Int × List Int := (st.1.map (·.1), st.2)
theorem wstep_sk (ds : List Door) (here : Int) (st : List (Int × List Step) × List Int) (s : Step) : sk (wstep ds here st s) = MJ.stepJ here (sk st) (near ds s, far ds s) := by
  unfold wstep MJ.stepJ sk
  split
  · simp
  · rfl
theorem wvisit_sk (ds : List Door) (here : Int) : ∀ (l : List Step) (st : List (Int × List Step) × List Int), sk (wvisit ds here l st) = MJ.visit here (l.map fun s => (near ds s, far ds s)) (sk st)
  | [], _ => rfl
  | s :: l, st => by
    show sk (wvisit ds here l (wstep ds here st s)) = MJ.visit here (l.map fun s => (near ds s, far ds s)) (MJ.stepJ here (sk st) (near ds s, far ds s))
    rw [wvisit_sk ds here l, wstep_sk]
theorem wvisit_app (ds : List Door) (here : Int) (a b : List Step) (st : List (Int × List Step) × List Int) : wvisit ds here (a ++ b) st = wvisit ds here b (wvisit ds here a st) := List.foldl_append
def WI (ds : List Door) (m : List (Int × List Step)) : Prop := ∀ p ∈ m, Wlk ds 0 p.2 ∧ endR ds 0 p.2 = p.1 ∧ p.2.length < m.length
theorem lkW_mem {m : List (Int × List Step)} {r : Int} (h : r ∈ m.map (·.1)) : ∃ l, lkW m r = some l ∧ (r, l) ∈ m := by
  obtain ⟨p, hp, e⟩ := List.mem_map.mp h
  unfold lkW
  cases hf : m.find? fun p => decide (p.1 = r) with
  | none =>
    rw [List.find?_eq_none] at hf
    exact absurd (by simp [e]) (hf p hp)
  | some q =>
    have h1 := List.find?_some hf
    have h2 := List.mem_of_find?_eq_some hf
    have h1 : q.1 = r := of_decide_eq_true h1
    exact ⟨q.2, rfl, by rw [← h1]; exact h2⟩
theorem wi_step {ds : List Door} {here : Int} {st : List (Int × List Step) × List Int} {s : Step} (hs : s ∈ allSteps ds) (hh : here ∈ st.1.map (·.1)) (h : WI ds st.1) : WI ds (wstep ds here st s).1 ∧ here ∈ (wstep ds here st s).1.map (·.1) := by
  unfold wstep
  split
  · rename_i hc
    refine ⟨?_, by rw [List.map_append]; exact List.mem_append_left _ hh⟩
    obtain ⟨l, hl, hm⟩ := lkW_mem hh
    obtain ⟨a, b, c⟩ := h _ hm
    dsimp only at a b c
    intro p hp
    rw [List.length_append, List.length_singleton]
    rcases List.mem_append.mp hp with hp | hp
    · obtain ⟨x, y, z⟩ := h p hp
      exact ⟨x, y, by omega⟩
    · have : p = (far ds s, (lkW st.1 here).getD [] ++ [s]) := by simpa using hp
      subst this
      rw [hl]
      obtain ⟨w, e⟩ := wlk_snoc a hs (by rw [b]; exact hc.1)
      exact ⟨w, e, by simp; omega⟩
  · exact ⟨h, hh⟩
theorem wi_visit {ds : List Door} {here : Int} : ∀ {l : List Step} {st : List (Int × List Step) × List Int}, (∀ s ∈ l, s ∈ allSteps ds) → here ∈ st.1.map (·.1) → WI ds st.1 → WI ds (wvisit ds here l st).1 ∧ here ∈ (wvisit ds here l st).1.map (·.1)
  | [], st, _, hh, h => ⟨h, hh⟩
  | s :: l, st, hl, hh, h => by
    obtain ⟨a, b⟩ := wi_step (hl s (by simp)) hh h
    exact wi_visit (l := l) (fun s hs => hl s (by simp [hs])) b a
end MF
namespace MJ
theorem pop_front {rooms : Int} {ds : List Door} {kn ln : List Int} {here : Int} (hr : ∀ e ∈ edges ds, 0 ≤ e.2 ∧ e.2 < rooms) (h : St rooms (kn, here :: ln)) (d : Done ds (kn, here :: ln)) :
    St rooms (visit here (edges ds) (kn, ln)) ∧ Done ds (visit here (edges ds) (kn, ln)) ∧ (visit here (edges ds) (kn, ln)).2.length + kn.length = (visit here (edges ds) (kn, ln)).1.length + ln.length ∧ kn.length ≤ (visit here (edges ds) (kn, ln)).1.length := by
  have h0 : St rooms (kn, ln) := ⟨h.nd, h.rg, h.z, fun x hx => h.sub x (List.mem_cons_of_mem _ hx), by have := h.le; simp at this ⊢; omega⟩
  obtain ⟨h1, v⟩ := visit_ok (here := here) hr h0
  refine ⟨h1, ?_, v.len, v.grow⟩
  intro x hx hn e he hh
  by_cases c : x = here
  · subst c; exact v.nb e he hh
  · have h3 := v.old x hx hn
    refine v.up _ (d x h3 ?_ e he hh)
    intro z
    rcases List.mem_cons.mp z with z | z
    · exact c z
    · exact hn (v.upl x z)
end MJ

set_option Elab.async false
set_option linter.all false
set_option maxRecDepth 100000
set_option maxHeartbeats 4000000
/-! Ways out from room 0. -/
namespace Kw
open PySem PySem.Spec PyProof.Rows L2 Y StX
local macro_rules | `(tactic| trivial) => `(tactic| first
  | with_reducible exact ev_int
  | with_reducible exact ev_bl
  | with_reducible exact ev_non
  | with_reducible exact ea_nil
  | with_reducible exact et_yes
  | ((with_reducible apply ev_var); exact rfl; first | exact .num _ | exact .bl _ | exact .non | assumption)
  | ((with_reducible apply ea_cons); trivial; trivial)
  | ((with_reducible apply ev_tup); trivial; first | decide | (show _ ≤ sizeLine; simp; decide))
  | ((with_reducible apply ev_ix0); trivial; trivial; exact rfl)
  | ((with_reducible apply ev_ix1); trivial; trivial; exact rfl)
  | ((with_reducible apply ev_ix2); trivial; trivial; exact rfl)
  | ((with_reducible apply ev_ix3); trivial; trivial; exact rfl)
  | ((with_reducible apply ev_opI); trivial; trivial)
  | ((with_reducible apply ev_opB); trivial; trivial)
  | ((with_reducible apply ev_eqI); trivial; trivial)
  | ((with_reducible apply ev_neI); trivial; trivial)
  | ((with_reducible apply ev_un); trivial)
  | ((with_reducible apply ev_chain); trivial; trivial; trivial)
  | ((with_reducible apply ev_abs); trivial)
  | ((with_reducible apply ev_intI); trivial)
  | ((with_reducible apply ev_gcd); trivial; trivial)
  | ((with_reducible apply ev_lenT); trivial)
  | ((with_reducible apply et_test); trivial)
  | ((with_reducible apply et_B); trivial)
  | ((with_reducible apply et_not); trivial)
  | ((with_reducible apply et_and); trivial; (intro _; trivial))
  | ((with_reducible apply et_or); trivial; (intro _; trivial))
  | ((with_reducible apply ev_andV); trivial; (intro _; trivial))
  | ((with_reducible apply ev_orV); trivial; (intro _; trivial))
  | ((with_reducible apply ev_notV); trivial)
  | ((with_reducible apply ev_isN); trivial)
  | ((with_reducible apply ev_notN); trivial)
  | ((with_reducible apply ev_isiII); trivial)
  | ((with_reducible apply ev_isiIB); trivial)
  | ((with_reducible apply ev_isiTT); trivial)
  | ((with_reducible apply ev_isH); trivial))
def wD (p : Int × List MF.Step) : Int × D := (p.1, .tup (p.2.map stepD))
theorem wD_look {m : List (Int × List MF.Step)} {r : Int} {l : List MF.Step} (h : MF.lkW m r = some l) : dlk (m.map wD) r = some (.tup (l.map stepD)) := by
  unfold MF.lkW at h
  unfold dlk
  rw [List.find?_map]
  show ((m.find? fun p => decide (p.1 = r)).map wD).map (·.2) = _
  cases hf : m.find? fun p => decide (p.1 = r) with
  | none => rw [hf] at h; cases h
  | some p =>
    rw [hf] at h
    cases h
    rfl
theorem wD_keys (m : List (Int × List MF.Step)) : (m.map wD).map (·.1) = m.map (·.1) := by rw [List.map_map]; rfl
/-- what ways_out gives -/
structure WO (rooms : Int) (ds : List Door) (m : List (Int × List MF.Step)) : Prop where
  all : ∀ r : Int, 0 ≤ r → r < rooms → r ∈ m.map (·.1)
  wi : MF.WI ds m
  len : (m.length : Int) ≤ rooms
section
variable {P : Program} {w : World} {K : PySem.W.Frag} {mg : Str → Option Value} {base : Heap} {C : Addr}
theorem sc_ways_out : FnScope ["house", "found", "line", "here", "step", "at", "side", "gate"] ["house"] (defScope s_ways_out) := ⟨rfl, rfl, rfl, by decide +kernel, rfl, by decide +kernel, by decide +kernel⟩
abbrev sp_ways_out (C : Addr) : Sp := fun vs H Q _ => ∃ (rooms : Int) (ds : List Door), TpA C H vs [.hs rooms ds] ∧ HOk rooms ds ∧
  ∀ a m H', Same H H' → DK C H' a (m.map wD) → WO rooms ds m → Q (.ref a) H'
theorem ok_ways_out (F : Df K mg "ways_out" s_ways_out) (B : Bi K mg C) (h_gate_of : Cl P w K mg base "gate_of" 1 ["house", "step"] (sp_gate_of C)) : Cl P w K mg base "ways_out" 2 ["house"] (sp_ways_out C) := by
  refine F.cl sc_ways_out (fun _ _ _ _ _ _ us hl => match us, hl with | [_], _ => rfl) (fun vs H Q E h => ?_) (fun f cdv A outer s H vs Q E hr h => ?_)
  · obtain ⟨r, i, t, _⟩ := h; exact t.length
  · obtain ⟨rooms, ds, t, hk, q⟩ := h
    obtain ⟨v, _, rfl, t1, t⟩ := tpa_cons t
    cases tpa_nil t
    refine ⟨_, (pss_cons (ps_par (i := 1) (j := 2) (by rfl) sc_ways_out.nd rfl rfl (by decide) rfl rfl (pa_cons (pe_disp (pps_cons pe_int (pe_tup pa_nil) pps_nil) (by rfl) (by rfl) (fun z => by cases z) (by decide)) (pa_cons (pe_lst (pa_cons pe_int pa_nil)) pa_nil)) (by rfl))
      (pss_cons (ps_while PassesOwn.never (pt_cmpR (op_neD hr.units) (pv 2) (pe_lst pa_nil) (nomark _)) (pss_cons (ps_set (i := 3) sc_ways_out.nd rfl (by first | exact Or.inl rfl | exact Or.inr rfl) (pe_bm PySem.F.plainAttrs_list PySem.F.slot_list_pop PySem.F.type_list_pop mt_popAt (pv 2) (pa_cons pe_int pa_nil)))
      (pss_one (ps_for PassesOwn.never rfl (pi_list (pe_lc2 (own := [("at", 5), ("side", 6)]) (vs1 := [6]) (tt := tYes) (wi1 := iTup K _) (tt1 := tYes) rfl sc_ways_out.nd (pi_range1 (by rfl) B.range (pa_cons (pe_callB call_lenS (by rfl) B.len (by decide +kernel) (pa_cons (pe_fld (pv 0) rfl) pa_nil)) pa_nil)) (blkOk_by (own := [("at", 5), ("side", 6)]) (N := ["house", "found", "line", "here", "step", "at", "side", "gate"]) (sc := defScope s_ways_out) (by decide +kernel)) (by decide) (fun _ _ _ _ _ => (pg_name (i := 5) sc_ways_out.nd rfl (by first | exact Or.inl rfl | exact Or.inr rfl))) (fun _ _ _ _ _ => pts_nil) (fun _ _ _ _ _ => (pi_tup (pe_tup (pa_cons pe_int (pa_cons pe_int pa_nil))))) (fun _ _ _ _ _ => (pg_name (i := 6) sc_ways_out.nd rfl (by first | exact Or.inl rfl | exact Or.inr rfl))) (fun _ _ _ _ _ => pts_nil) (fun _ _ _ _ _ => (pe_tup (pa_cons (pv 5) (pa_cons (pv 6) pa_nil)))))) (pg_name (i := 4) sc_ways_out.nd rfl (by first | exact Or.inl rfl | exact Or.inr rfl)) (pss_cons (ps_set (i := 7) sc_ways_out.nd rfl (by first | exact Or.inl rfl | exact Or.inr rfl) (pe_cl h_gate_of (hr.mono (by decide)) (by rfl) (pa_cons (pv 0) (pa_cons (pv 4) pa_nil))))
      (pss_one (ps_if (PW.pt (pw_and (pt_cmpR op_eq (pe_ix ix_tup (pv 7) pe_int (fun _ _ => rfl)) (pv 3) (nomark _)) (pw_and1 (pt_cmp (pc_dnotin (hu_of hr) (pe_ix ix_tup (pv 7) pe_int (fun _ _ => rfl)) (pv 1)))))) (pss_cons (ps_dput (hu_of hr) (pv 1) (pe_ix ix_tup (pv 7) pe_int (fun _ _ => rfl)) (pe_tup (pa_star (pe_dget (hu_of hr) (pv 1) (pv 3) (fun _ _ => rfl)) (pa_cons (pv 4) pa_nil))) rfl)
      (pss_one (ps_expr (pe_bm PySem.F.plainAttrs_list PySem.F.slot_list_append PySem.F.type_list_append mt_append (pv 2) (pa_cons (pe_ix ix_tup (pv 7) pe_int (fun _ _ => rfl)) pa_nil))))) pss_nil)))))))
      (pss_one (ps_ret (pv 1))))), ?_⟩
    intro p hp
    refine ⟨Nat.zero_le _, fun t0 ht0 => ?_⟩
    have tp : t0 ≠ p := fun z => by rw [z, upd_same] at ht0; cases ht0
    refine ⟨by rw [upd_ne (Ne.symm tp)]; exact upd_same, [(.inl 0, .ref t0)], rfl, (show 1 ≤ 15 by decide), Nat.succ_le_of_lt (by rw [sizeLine_eq]; decide), fun l hl => ⟨_, _, rfl, ?_⟩⟩
    have e0 : mergeK [] [((.inl 0 : Key), V.ref t0)] = [(.inl 0, .ref t0)] := rfl
    rw [e0] at hl ⊢
    have nt : H t0 = none := by rw [upd_ne tp] at ht0; exact ht0
    have hpl : p ≠ l := fun z => by rw [← z, upd_same] at hl; cases hl
    have htl : t0 ≠ l := fun z => by rw [← z, upd_ne tp, upd_same] at hl; cases hl
    have nl : H l = none := by
      rw [upd_ne (Ne.symm hpl), upd_ne (Ne.symm htl), upd_ne (Ne.symm hpl)] at hl
      exact hl
    have sG0 : Same H (upd (upd (upd (upd H p (.dK [])) t0 (.tup [])) p (.dK [(.inl 0, .ref t0)])) l (.lst [.int 0])) := Same.put (Same.put (Same.put (Same.new hp) nt) hp) nl
    have dk0 : DK C (upd (upd (upd (upd H p (.dK [])) t0 (.tup [])) p (.dK [(.inl 0, .ref t0)])) l (.lst [.int 0])) p ([(0, [])].map wD) := by
      refine ⟨[(.inl 0, .ref t0)], by rw [upd_ne hpl]; exact upd_same, .cons ⟨rfl, .tup (xs := []) ?_ .nil⟩ .nil⟩
      rw [upd_ne htl, upd_ne tp]; exact upd_same
    have hl0 : (upd (upd (upd (upd H p (.dK [])) t0 (.tup [])) p (.dK [(.inl 0, .ref t0)])) l (.lst [.int 0])) l = some (.lst ([(0 : Int)].map V.int)) := upd_same
    refine ⟨fun m σ' H' => ∃ wm ln x3 x4 x5 x6 x7, σ' = [some v, some (.ref p), some (.ref l), x3, x4, x5, x6, x7] ∧ Same H H' ∧ DK C H' p (wm.map wD) ∧ H' l = some (.lst (ln.map V.int)) ∧ MJ.St rooms (wm.map (·.1), ln) ∧ MJ.Done ds (wm.map (·.1), ln) ∧ MF.WI ds wm ∧ m = 2 * (rooms.toNat - wm.length) + ln.length, ⟨_, [(0, [])], [0], none, none, none, none, none, rfl, sG0, dk0, hl0, ?_, ?_, ?_, rfl⟩, ?_⟩
    · refine ⟨by simp, ?_, by simp, fun x hx => hx, Nat.le_refl _⟩
      intro x hx
      have : x = 0 := by simpa using hx
      subst this
      exact ⟨Int.le_refl _, Int.lt_of_lt_of_le Int.one_pos hk.r0⟩
    · intro x hx hn; exact absurd hx hn
    · intro w hw
      have : w = (0, []) := by simpa using hw
      subst this
      exact ⟨trivial, rfl, by simp⟩
    clear sG0 dk0 hl0 e0 hl htl tp nt ht0
    rintro m σ' H1 ⟨wm, ln, x3, x4, x5, x6, x7, rfl, s1, dk1, hl1, S1, D1, wi1, rfl⟩
    have t11 := t1.same s1
    refine et_neNums (a := l) (ns := ln) (evv_var rfl) hl1 H1 (Same.refl _) _ fun H2 s2 => ?_
    cases ln with
    | nil =>
      refine iteF ⟨_, rfl, q p wm H2 (Same.trans s1 s2) (dk1.same s2) ⟨fun r h0 h1 => MJ.all_in hk.con S1 D1 _ r h0 h1 (Nat.lt_succ_self _), wi1, ?_⟩⟩
      have := MJ.len_le S1.nd S1.rg
      rw [List.length_map] at this
      have := hk.r0
      omega
    | cons here l0 =>
      refine iteT ?_
      refine ⟨fun σ' H' => ∃ wm' ln' x3 x4 x5 x6 x7, σ' = [some v, some (.ref p), some (.ref l), x3, x4, x5, x6, x7] ∧ Same H H' ∧ DK C H' p (wm'.map wD) ∧ H' l = some (.lst (ln'.map V.int)) ∧ (wm', ln') = MF.wvisit ds here (MF.allSteps ds) (wm, l0), ?_, ?_⟩
      · rintro σ' H' ⟨wm', ln', x3, x4, x5, x6, x7, rfl, s3, dk3, hl3, e3⟩
        obtain ⟨S2, D2, L2, L3⟩ := MJ.pop_front hk.eg S1 D1
        have hin : here ∈ wm.map (·.1) := S1.sub here (by simp)
        obtain ⟨wi2, _⟩ := MF.wi_visit (ds := ds) (here := here) (l := MF.allSteps ds) (st := (wm, l0)) (fun s hs => hs) hin wi1
        have ek := MF.wvisit_sk ds here (MF.allSteps ds) (wm, l0)
        rw [← MF.edges_steps, ← e3] at ek
        have ek : (wm'.map (·.1), ln') = MJ.visit here (MJ.edges ds) (wm.map (·.1), l0) := ek
        rw [← ek] at S2 D2 L2 L3
        rw [← e3] at wi2
        have b1 := MJ.len_le S2.nd S2.rg
        have b2 := MJ.len_le S1.nd S1.rg
        dsimp only at L2 L3 b1 b2
        rw [List.length_map] at L2 L3 b1 b2
        rw [List.length_map] at L2 L3
        refine ⟨_, ?_, wm', ln', _, _, _, _, _, rfl, s3, dk3, hl3, S2, D2, wi2, rfl⟩
        rw [List.length_cons]
        omega
      · have dk2 := dk1.same s2
        have hl2 := s2 _ _ hl1
        have t12 := t11.same s2
        have s02 := Same.trans s1 s2
        refine ⟨_, rfl, .inl ⟨rfl, _, .inl (.inl hl2)⟩, l, _, 0, 0, .int here, rfl, rfl, hl2, by decide, by decide, by simp [seqIndex?], rfl, ?_⟩
        have e9 : (((here :: l0).map V.int).eraseIdx 0) = l0.map V.int := rfl
        rw [e9]
        have s3 : Same H (upd H2 l (.lst (l0.map V.int))) := Same.put s02 nl
        have st3 : Stay H2 (upd H2 l (.lst (l0.map V.int))) := But.stay (p := l) but_up (notImm_lst hl2)
        have dk3 : DK C (upd H2 l (.lst (l0.map V.int))) p (wm.map wD) := dk2.stay st3 fun o e => by rw [upd_ne hpl]; exact e
        have hl3 : upd H2 l (.lst (l0.map V.int)) l = some (.lst (l0.map V.int)) := upd_same
        have t13 := t12.stay st3
        generalize upd H2 l (.lst (l0.map V.int)) = H3 at s3 dk3 hl3 t13 ⊢
        have S3 : MJ.St rooms (wm.map (·.1), l0) := ⟨S1.nd, S1.rg, S1.z, fun x hx => S1.sub x (List.mem_cons_of_mem _ hx), by have := S1.le; simp at this ⊢; omega⟩
        have hin : here ∈ wm.map (·.1) := S1.sub here (by simp)
        have dl := hk.dl
        have e : ((((List.range ds.length).map fun k => D.num ((k : Nat) : Int)).flatMap fun d => [D.num 0, D.num 1].map fun e => D.tup [d, e])) = (MF.allSteps ds).map stepD := by
          unfold MF.allSteps
          rw [List.flatMap_map, List.map_flatMap]
          rfl
        dsimp only [gName, List.set]
        refine st_for (C := C) (wi := _) (ds := (MF.allSteps ds).map stepD) (ei_lst (C := C) ?_) (fun G i σ' H' => ∃ wm' ln' x4 x5 x6 x7, σ' = [some v, some (.ref p), some (.ref l), some (.int here), x4, x5, x6, x7] ∧ But2 p l G H' ∧ DK C H' p (wm'.map wD) ∧ H' l = some (.lst (ln'.map V.int)) ∧ (wm', ln') = MF.wvisit ds here ((MF.allSteps ds).take i) (wm, l0)) ?_ ?_ ?_ ?_
        · rw [← e]
          refine evl_lc2 (C := C) (ei_rng1 (n := ds.length) (C := C) ?_ (by omega)) (fun _ => [.num 0, .num 1]) (fun d e => .tup [d, e]) ?_ ?_
          · apply ea_cons
            · have e2 : (D.num (ds.length : Int)) = D.num (((ds.map doorD).length : Nat) : Int) := by rw [List.length_map]
              rw [e2]
              exact ev_lenT (ev_doors (ev_var rfl t13) B.cl B.nd)
            · trivial
          · intro d x Ha hd sa tx
            obtain ⟨k, _, rfl⟩ := List.mem_map.mp hd
            cases tp_num tx
            refine ⟨_, gb_name, rfl, ei_tup (by trivial), fun e y Hb he sb tx2 ty => ?_⟩
            have hy : ∃ z : Int, e = .num z := by
              simp only [List.mem_cons, List.not_mem_nil, or_false] at he
              rcases he with rfl | rfl
              · exact ⟨_, rfl⟩
              · exact ⟨_, rfl⟩
            obtain ⟨z, rfl⟩ := hy
            cases tp_num ty
            refine ⟨_, gb_name, rfl, ?_⟩
            trivial
          · rw [e, List.length_map]
            have : ∀ n, ((List.range n).flatMap fun a => [(a, 0), (a, 1)] : List MF.Step).length = 2 * n := by
              intro n
              induction n with
              | zero => rfl
              | succ n ih => rw [List.range_succ, List.flatMap_append, List.length_append, ih]; simp; omega
            show (MF.allSteps ds).length ≤ sizeLine
            unfold MF.allSteps
            rw [this]
            exact small_len (m := 40) (by omega) (by omega)
        · intro G sG
          exact ⟨wm, l0, _, _, _, _, rfl, But2.refl _ _ _, dk3.same sG, sG _ _ hl3, rfl⟩
        · rintro G i σ' H' sG ⟨wm', ln', y4, y5, y6, y7, rfl, b, dk', hl', e'⟩
          exact ⟨b.stay (dk3.same sG).ni (notImm_lst (sG _ _ hl3)), b.keeps dk3.some (by rw [hl3]; simp) (by simp) (by simp)⟩
        · rintro G i d x σ' H' sG hi ⟨wm', ln', y4, y5, y6, y7, rfl, b, dk', hl', e'⟩ tx
          obtain ⟨st, hst, rfl⟩ := map_item hi
          refine ⟨_, gb_name, ?_⟩
          have hs := List.mem_of_getElem? hst
          have stG : Stay H3 H' := Stay.trans (Same.stay sG) (b.stay (dk3.same sG).ni (notImm_lst (sG _ _ hl3)))
          have t1' := t13.stay stG
          -- the plain state
          have sub : ∀ s ∈ (MF.allSteps ds).take i, s ∈ MF.allSteps ds := fun s h => List.mem_of_mem_take h
          obtain ⟨wi', hin'⟩ := MF.wi_visit (ds := ds) (here := here) (st := (wm, l0)) sub hin wi1
          have ek := MF.wvisit_sk ds here ((MF.allSteps ds).take i) (wm, l0)
          rw [← e'] at ek wi' hin'
          have ek : (wm'.map (·.1), ln') = MJ.visit here (((MF.allSteps ds).take i).map fun s => (MF.near ds s, MF.far ds s)) (wm.map (·.1), l0) := ek
          have S' : MJ.St rooms (wm'.map (·.1), ln') := by
            rw [ek]
            refine (MJ.visit_ok (here := here) (fun e he => ?_) S3).1
            obtain ⟨s, h1, rfl⟩ := List.mem_map.mp he
            exact MF.far_room hk.ok (sub s h1)
          have wl : wm'.length ≤ 12 := by
            have := MJ.len_le S'.nd S'.rg
            rw [List.length_map] at this
            have := hk.r1
            omega
          have ll : ln'.length ≤ 12 := by have := S'.le; dsimp only at this; rw [List.length_map] at this; omega
          have tk : MF.wvisit ds here ((MF.allSteps ds).take (i + 1)) (wm, l0) = MF.wstep ds here (wm', ln') st := by
            rw [List.take_add_one, hst, MF.wvisit_app, ← e']
            rfl
          apply st_set (C := C) (d := doorD (MF.gate ds st))
          · apply ev_fn (rooms, ds, st)
            · exact ea_cons (ev_var rfl t1') (ea_cons (ev_var rfl tx) ea_nil)
            · rfl
            · exact hs
          intro vg H5 s5 tg
          have tg : Tp C H5 vg (.tup [.num (MF.near ds st), .num (MF.lv ds st), .num (MF.far ds st), .num (MF.ar ds st)]) := tg
          have tx5 := tx.same s5
          have dk5 := dk'.same s5
          have hl5 := s5 _ _ hl'
          apply st_if
          · apply et_and (b := decide (MF.near ds st = here))
            · apply et_test (C := C)
              apply ev_eqI
              · exact ev_ix0 (ev_var rfl tg) ev_int rfl
              · trivial
            · intro _
              exact et_notInK (C := C) (ev_ix2 (ev_var rfl tg) ev_int rfl) (evv_var rfl) dk5
          · intro hb H6 s6
            rw [wD_keys] at hb
            have hb : MF.near ds st = here ∧ MF.far ds st ∉ wm'.map (·.1) := by simpa using hb
            have sj : MF.wstep ds here (wm', ln') st = (wm' ++ [(MF.far ds st, (MF.lkW wm' here).getD [] ++ [st])], ln' ++ [MF.far ds st]) := if_pos hb
            obtain ⟨wl0, hwl, hwm⟩ := MF.lkW_mem hin'
            have dk6 := dk5.same s6
            have tg6 := tg.same s6
            have len0 : wl0.length ≤ 12 := by have := (wi' _ hwm).2.2; dsimp only at this; omega
            refine st_putK (C := C) (r := MF.far ds st) (d := .tup ((wl0 ++ [st]).map stepD)) ?_ (evv_var rfl) (ev_ix2 (ev_var rfl tg6) ev_int rfl) dk6 (by rw [wD_keys]; exact hb.2) (by rw [List.length_map]; exact small_lt (m := 100) (by omega) (by omega)) ?_
            · rw [List.map_append]
              apply ev_tup
              · apply ea_star
                · exact ev_dgetK (C := C) (evv_var rfl) (by trivial) dk6 (wD_look hwl)
                · exact ea_cons (ev_var rfl (tx5.same s6)) ea_nil
              · rw [List.length_append, List.length_map]; exact small_len (m := 100) (by simp; omega) (by omega)
            intro H7 v7 s7 t7 dk7
            have b7 : But2 p l G (upd H7 p (.dK ((H7 p).elim [] fun o => match o with | .dK kvs => kvs ++ [(.inl (MF.far ds st), v7)] | _ => []))) := but2_set (But2.trans b (Same.but2 (Same.trans s5 (Same.trans s6 s7))))
            have st7 : Stay H7 (upd H7 p (.dK ((H7 p).elim [] fun o => match o with | .dK kvs => kvs ++ [(.inl (MF.far ds st), v7)] | _ => []))) := But.stay (p := p) but_up (dk6.same s7).ni
            have hl7 : (upd H7 p (.dK ((H7 p).elim [] fun o => match o with | .dK kvs => kvs ++ [(.inl (MF.far ds st), v7)] | _ => []))) l = some (.lst (ln'.map V.int)) := by rw [upd_ne (Ne.symm hpl)]; exact s7 _ _ (s6 _ _ hl5)
            have tg7 := (tg6.same s7).stay st7
            generalize upd H7 p (.dK ((H7 p).elim [] fun o => match o with | .dK kvs => kvs ++ [(.inl (MF.far ds st), v7)] | _ => [])) = H8 at dk7 b7 st7 hl7 tg7 ⊢
            apply st_app1 (C := C) (d := .num (MF.far ds st)) (hv := rfl) (ha := hl7)
            · rw [List.length_map]; exact small_lt (m := 100) (by omega) (by omega)
            · exact ev_ix2 (ev_var rfl tg7) ev_int rfl
            · intro v9 H9 s9 t9
              cases tp_num t9
              have e8 := s9 _ _ hl7
              have st9 : Stay H9 (upd H9 l (.lst (ln'.map V.int ++ [.int (MF.far ds st)]))) := But.stay (p := l) but_up (notImm_lst e8)
              refine ⟨wm' ++ [(MF.far ds st, wl0 ++ [st])], ln' ++ [MF.far ds st], _, _, _, _, rfl, but2_set' (But2.trans b7 (Same.but2 s9)), ?_, ?_, ?_⟩
              · rw [List.map_append]
                exact (dk7.same s9).stay st9 fun o e => by rw [upd_ne hpl]; exact e
              · rw [upd_same, List.map_append]; rfl
              · rw [tk, sj, hwl]; rfl
          · intro hb H6 s6
            rw [wD_keys] at hb
            have hb : ¬ (MF.near ds st = here ∧ MF.far ds st ∉ wm'.map (·.1)) := by
              intro z
              rw [decide_eq_true z.1, decide_eq_false z.2] at hb
              cases hb
            have sj : MF.wstep ds here (wm', ln') st = (wm', ln') := if_neg hb
            refine ⟨wm', ln', _, _, _, _, rfl, But2.trans b (Same.but2 (Same.trans s5 s6)), dk5.same s6, s6 _ _ hl5, ?_⟩
            rw [tk, sj]
        · rintro G σ' H' sG ⟨wm', ln', y4, y5, y6, y7, rfl, b, dk', hl', e'⟩
          refine ⟨wm', ln', _, _, _, _, _, rfl, ?_, dk', hl', ?_⟩
          · exact b.back (Same.trans s3 sG) hp nl
          · rw [e', List.length_map, List.take_length]
end
end Kw

set_option Elab.async false
set_option linter.all false
set_option maxRecDepth 100000
set_option maxHeartbeats 4000000
/-! Lengths told. -/
namespace Kw
open PySem PySem.Spec PyProof.Rows L2 Y StX
local macro_rules | `(tactic| trivial) => `(tactic| first
  | with_reducible exact ev_int
  | with_reducible exact ev_bl
  | with_reducible exact ev_non
  | with_reducible exact ea_nil
  | with_reducible exact et_yes
  | ((with_reducible apply ev_var); exact rfl; first | exact .num _ | exact .bl _ | exact .non | assumption)
  | ((with_reducible apply ea_cons); trivial; trivial)
  | ((with_reducible apply ev_tup); trivial; first | decide | (show _ ≤ sizeLine; simp; decide))
  | ((with_reducible apply ev_ix0); trivial; trivial; exact rfl)
  | ((with_reducible apply ev_ix1); trivial; trivial; exact rfl)
  | ((with_reducible apply ev_ix2); trivial; trivial; exact rfl)
  | ((with_reducible apply ev_ix3); trivial; trivial; exact rfl)
  | ((with_reducible apply ev_opI); trivial; trivial)
  | ((with_reducible apply ev_opB); trivial; trivial)
  | ((with_reducible apply ev_eqI); trivial; trivial)
  | ((with_reducible apply ev_neI); trivial; trivial)
  | ((with_reducible apply ev_un); trivial)
  | ((with_reducible apply ev_chain); trivial; trivial; trivial)
  | ((with_reducible apply ev_abs); trivial)
  | ((with_reducible apply ev_intI); trivial)
  | ((with_reducible apply ev_gcd); trivial; trivial)
  | ((with_reducible apply ev_lenT); trivial)
  | ((with_reducible apply et_test); trivial)
  | ((with_reducible apply et_B); trivial)
  | ((with_reducible apply et_not); trivial)
  | ((with_reducible apply et_and); trivial; (intro _; trivial))
  | ((with_reducible apply et_or); trivial; (intro _; trivial))
  | ((with_reducible apply ev_andV); trivial; (intro _; trivial))
  | ((with_reducible apply ev_orV); trivial; (intro _; trivial))
  | ((with_reducible apply ev_notV); trivial)
  | ((with_reducible apply ev_isN); trivial)
  | ((with_reducible apply ev_notN); trivial)
  | ((with_reducible apply ev_isiII); trivial)
  | ((with_reducible apply ev_isiIB); trivial)
  | ((with_reducible apply ev_isiTT); trivial)
  | ((with_reducible apply ev_isH); trivial))
def fitsB (ds : List Door) (ns : List Int) : Bool := ds.all fun d => decide (MF.aux d.2.1 * MF.lnOf ns d.1 = MF.aux d.2.2.2 * MF.lnOf ns d.2.2.1)
theorem fitsB_iff {ds : List Door} {ns : List Int} : fitsB ds ns = true ↔ MF.FitsD ds ns := by
  unfold fitsB MF.FitsD
  rw [List.all_eq_true]
  simp
theorem pA_le {rooms : Int} {ds : List Door} (hk : HOk rooms ds) : ∀ {l : List MF.Step}, (∀ s ∈ l, s ∈ MF.allSteps ds) → MF.pA ds l ≤ 999 ^ l.length ∧ MF.pL ds l ≤ 999 ^ l.length
  | [], _ => ⟨Int.le_refl _, Int.le_refl _⟩
  | s :: l, h => by
    obtain ⟨i1, i2⟩ := pA_le hk (l := l) fun s hs => h s (by simp [hs])
    obtain ⟨lv0, lv1, ar0, ar1⟩ := hk.lv (h s (by simp))
    have p1 := MF.pA_pos hk.ok (l := l) fun s hs => h s (by simp [hs])
    have p2 := MF.pL_pos hk.ok (l := l) fun s hs => h s (by simp [hs])
    rw [List.length_cons, Int.pow_succ, Int.mul_comm]
    exact ⟨Int.mul_le_mul (by unfold MF.aux; omega) i1 (by omega) (by decide), Int.mul_le_mul (by unfold MF.aux; omega) i2 (by omega) (by decide)⟩
theorem p999 {n : Nat} (h : n ≤ 3) : (999 : Int) ^ n < 1073741824 := by
  have : n = 0 ∨ n = 1 ∨ n = 2 ∨ n = 3 := by omega
  rcases this with rfl | rfl | rfl | rfl <;> decide
section
variable {P : Program} {w : World} {K : PySem.W.Frag} {mg : Str → Option Value} {base : Heap} {C : Addr}
theorem sc_lengths_right : FnScope ["house", "thing", "item", "near", "first", "far", "second"] ["house", "thing"] (defScope s_lengths_right) := ⟨rfl, rfl, rfl, by decide +kernel, rfl, by decide +kernel, by decide +kernel⟩
abbrev sp_lengths_right (C : Addr) : Sp := fnSp C (fun i : Int × List Door × List Int => [.hs i.1 i.2.1, .tup (i.2.2.map D.num)]) (fun i => HOk i.1 i.2.1 ∧ (i.2.2.length : Int) = i.1 ∧ ∀ n ∈ i.2.2, 0 < n) (fun i => .bl (fitsB i.2.1 i.2.2))
theorem ok_lengths_right (F : Df K mg "lengths_right" s_lengths_right) (B : Bi K mg C) (h_is_number : Cl P w K mg base "is_number" 1 ["value"] (sp_is_number C)) : Cl P w K mg base "lengths_right" 2 ["house", "thing"] (sp_lengths_right C) := by
  refine F.cl sc_lengths_right (fun _ _ _ _ _ _ us hl => match us, hl with | [_, _], _ => rfl) (fun vs H Q E h => ?_) (fun f cdv A outer s H vs Q E hr h => ?_)
  · obtain ⟨i, t, _⟩ := h; exact t.length
  · obtain ⟨⟨rooms, ds, ns⟩, t, hp, q⟩ := h
    obtain ⟨v, _, rfl, t1, t⟩ := tpa_cons t
    obtain ⟨v', _, rfl, t2, t⟩ := tpa_cons t
    cases tpa_nil t
    obtain ⟨hk, hl, h0⟩ := hp
    dsimp only at hk hl h0 t1 t2 q
    have r1 := hk.r1
    have nl : ns.length ≤ 12 := by omega
    refine ⟨_, (pss_cons (ps_if (PW.pt (pw_or (pt_not (pt_val (pe_callB call_isi (by rfl) B.isinstance (by decide +kernel) (pa_cons (pv 1) (pa_cons (pe_bltn (v := .ty "tuple") (by rfl) B.tuple (by decide +kernel) rfl) pa_nil))))) (pw_or1 (pt_cmpR op_ne (pe_callB call_lenS (by rfl) B.len (by decide +kernel) (pa_cons (pv 1) pa_nil)) (pe_fld (pv 0) rfl) (nomark _))))) (pss_one (ps_ret pe_bl)) pss_nil)
      (pss_cons (ps_if (pt_not (pt_val (pe_callB (cr_all rfl) (by rfl) B.all (by decide +kernel) (pa_cons (pe_lc (own := [("item", 2)]) (tt := tYes)  rfl sc_lengths_right.nd (pi_tup (pv 1)) (blkOk_by (own := [("item", 2)]) (N := ["house", "thing", "item", "near", "first", "far", "second"]) (sc := defScope s_lengths_right) (by decide +kernel)) (fun _ _ _ _ _ => (pg_name (i := 2) sc_lengths_right.nd rfl (by first | exact Or.inl rfl | exact Or.inr rfl))) (fun _ _ _ _ _ => pts_nil) (fun _ _ _ _ _ => (pe_and (pe_cl h_is_number (hr.mono (by decide)) (by rfl) (pa_cons (pv 2) pa_nil)) (pe_one (pe_cmpR op_gt (pv 2) pe_int (nomark _)))))) pa_nil)))) (pss_one (ps_ret pe_bl)) pss_nil)
      (pss_one (ps_ret (pe_callB (cr_all rfl) (by rfl) B.all (by decide +kernel) (pa_cons (pe_lc (own := [("near", 3), ("first", 4), ("far", 5), ("second", 6)]) (tt := tYes) (te := tOp _ (tOp _ _ (tOp (rIxT K) _ _)) (tOp _ _ (tOp (rIxT K) _ _))) (g := gTup K 4 _) rfl sc_lengths_right.nd (pi_tup (pe_fld (pv 0) rfl)) (blkOk_by (own := [("near", 3), ("first", 4), ("far", 5), ("second", 6)]) (N := ["house", "thing", "item", "near", "first", "far", "second"]) (sc := defScope s_lengths_right) (by decide +kernel)) (fun _ _ _ _ _ => (pg_tup (by rfl) (pgs_cons (pg_name (i := 3) sc_lengths_right.nd rfl (by first | exact Or.inl rfl | exact Or.inr rfl)) (pgs_cons (pg_name (i := 4) sc_lengths_right.nd rfl (by first | exact Or.inl rfl | exact Or.inr rfl)) (pgs_cons (pg_name (i := 5) sc_lengths_right.nd rfl (by first | exact Or.inl rfl | exact Or.inr rfl)) (pgs_cons (pg_name (i := 6) sc_lengths_right.nd rfl (by first | exact Or.inl rfl | exact Or.inr rfl)) pgs_nil)))))) (fun _ _ _ _ _ => pts_nil) (fun _ _ _ _ _ => (pe_cmpR op_eq (pe_op op_mul (pe_callB call_abs (by rfl) B.abs (by decide +kernel) (pa_cons (pv 4) pa_nil)) (pe_ix ix_tup (pv 1) (pv 3) (fun _ _ => rfl))) (pe_op op_mul (pe_callB call_abs (by rfl) B.abs (by decide +kernel) (pa_cons (pv 6) pa_nil)) (pe_ix ix_tup (pv 1) (pv 5) (fun _ _ => rfl))) (nomark _)))) pa_nil)))))), ?_⟩
    apply st_no (h := ?_)
    · intro H2 s2
      have t12 := t1.same s2
      have t22 := t2.same s2
      apply st_no (h := ?_)
      · intro H3 s3
        have t13 := t12.same s3
        have t23 := t22.same s3
        have e : fitsB ds ns = (ds.map fun d => decide (MF.aux d.2.1 * MF.lnOf ns d.1 = MF.aux d.2.2.2 * MF.lnOf ns d.2.2.1)).all id := by
          unfold fitsB
          rw [List.all_map]
          rfl
        apply st_ret' (k := fun v H4 s4 t4 => q v H4 (Same.trans (Same.trans s2 s3) s4) t4)
        · apply ev_all (C := C) (bs := ds.map fun d => decide (MF.aux d.2.1 * MF.lnOf ns d.1 = MF.aux d.2.2.2 * MF.lnOf ns d.2.2.1))
          · apply evl_lc (keep := fun x => match x with | .tup [.num a, .num b, .num c, .num d] => some (.bl (decide (MF.aux b * MF.lnOf ns a = MF.aux d * MF.lnOf ns c))) | _ => none) (h := ei_tup (ds := ds.map doorD) ?_) (hl := ?_)
            · intro e x H6 he s6 t6
              obtain ⟨d, hd, rfl⟩ := List.mem_map.mp he
              refine ⟨_, gb_door t6, rfl, et_yes, fun z hz => ?_⟩
              have hz : D.bl (decide (MF.aux d.2.1 * MF.lnOf ns d.1 = MF.aux d.2.2.2 * MF.lnOf ns d.2.2.1)) = z := by simpa [doorD] using hz
              subst hz
              obtain ⟨⟨n0, n1⟩, ⟨f0, f1⟩, ⟨a1, a2, a3⟩, ⟨b1, b2, b3⟩⟩ := hk.dok d hd
              have get : ∀ r : Int, 0 ≤ r → r < rooms → (ns.map D.num)[r.toNat]? = some (.num (MF.lnOf ns r)) := by
                intro r r0 r1
                have hlt : r.toNat < ns.length := by omega
                unfold MF.lnOf
                rw [List.getElem?_map, List.getD_eq_getElem?_getD, List.getElem?_eq_getElem hlt]
                rfl
              have t26 := t23.same s6
              rw [← aux_if d.2.1, ← aux_if d.2.2.2]
              apply ev_eqI
              · apply ev_mulL
                · trivial
                · exact ev_ixi (n := d.1.toNat) (ev_var rfl t26) (by trivial) (by omega) (get _ n0 n1)
                · split <;> omega
              · apply ev_mulL
                · trivial
                · exact ev_ixi (n := d.2.2.1.toNat) (ev_var rfl t26) (by trivial) (by omega) (get _ f0 f1)
                · split <;> omega
            · exact ev_doors (ev_var rfl t13) B.cl B.nd
            · rw [List.length_map]; exact small_len (m := 20) hk.dl (by omega)
          · rw [List.filterMap_map, List.map_map]
            rw [← List.filterMap_eq_map]
            rfl
        · rw [e]
      · apply et_not (b := true)
        apply et_B (C := C)
        have e : D.bl true = D.bl ((ns.map fun _ => true).all id) := by simp
        rw [e]
        apply ev_all (C := C) (bs := ns.map fun _ => true)
        · apply evl_lc (keep := fun _ => some (.bl true)) (h := ei_tup (ds := ns.map D.num) ?_) (hl := ?_)
          · intro e x H6 he s6 t6
            obtain ⟨n, hn, rfl⟩ := List.mem_map.mp he
            cases tp_num t6
            refine ⟨_, gb_name, rfl, et_yes, fun z hz => ?_⟩
            cases hz
            have e1 : D.bl true = D.bl (true && decide (0 < n)) := by rw [decide_eq_true (h0 n hn)]; rfl
            rw [e1]
            apply ev_andV
            · apply ev_fn n
              · trivial
              · rfl
              · exact True.intro
            · intro _
              apply ev_opB (g := fun i j => decide (j < i))
              · trivial
              · trivial
          · exact ev_var rfl t22
          · rw [List.length_map]; exact small_len (m := 12) nl (by omega)
        · simp [List.filterMap_map, Function.comp_def]
    · apply et_or (b := false) (c := false)
      · apply et_not (b := true)
        apply et_B (C := C)
        trivial
      · intro _
        apply et_test (C := C)
        have e : D.bl false = D.bl (!decide ((((ns.map D.num).length : Nat) : Int) = rooms)) := by
          rw [List.length_map, decide_eq_true hl]; rfl
        rw [e]
        apply ev_neI
        · exact ev_lenT (ev_var rfl t2)
        · exact ev_rooms (ev_var rfl t1) B.cl B.nr
end
end Kw

set_option Elab.async false
set_option linter.all false
set_option maxRecDepth 100000
set_option maxHeartbeats 4000000
/-! Lengths told, pulls kept. -/
namespace Kw
open PySem PySem.Spec PyProof.Rows L2 Y StX
local macro_rules | `(tactic| trivial) => `(tactic| first
  | with_reducible exact ev_int
  | with_reducible exact ev_bl
  | with_reducible exact ev_non
  | with_reducible exact ea_nil
  | with_reducible exact et_yes
  | ((with_reducible apply ev_var); exact rfl; first | exact .num _ | exact .bl _ | exact .non | assumption)
  | ((with_reducible apply ea_cons); trivial; trivial)
  | ((with_reducible apply ev_tup); trivial; first | decide | (show _ ≤ sizeLine; simp; decide))
  | ((with_reducible apply ev_ix0); trivial; trivial; exact rfl)
  | ((with_reducible apply ev_ix1); trivial; trivial; exact rfl)
  | ((with_reducible apply ev_ix2); trivial; trivial; exact rfl)
  | ((with_reducible apply ev_ix3); trivial; trivial; exact rfl)
  | ((with_reducible apply ev_opI); trivial; trivial)
  | ((with_reducible apply ev_opB); trivial; trivial)
  | ((with_reducible apply ev_eqI); trivial; trivial)
  | ((with_reducible apply ev_neI); trivial; trivial)
  | ((with_reducible apply ev_un); trivial)
  | ((with_reducible apply ev_chain); trivial; trivial; trivial)
  | ((with_reducible apply ev_abs); trivial)
  | ((with_reducible apply ev_intI); trivial)
  | ((with_reducible apply ev_gcd); trivial; trivial)
  | ((with_reducible apply ev_lenT); trivial)
  | ((with_reducible apply et_test); trivial)
  | ((with_reducible apply et_B); trivial)
  | ((with_reducible apply et_not); trivial)
  | ((with_reducible apply et_and); trivial; (intro _; trivial))
  | ((with_reducible apply et_or); trivial; (intro _; trivial))
  | ((with_reducible apply ev_andV); trivial; (intro _; trivial))
  | ((with_reducible apply ev_orV); trivial; (intro _; trivial))
  | ((with_reducible apply ev_notV); trivial)
  | ((with_reducible apply ev_isN); trivial)
  | ((with_reducible apply ev_notN); trivial)
  | ((with_reducible apply ev_isiII); trivial)
  | ((with_reducible apply ev_isiIB); trivial)
  | ((with_reducible apply ev_isiTT); trivial)
  | ((with_reducible apply ev_isH); trivial))
theorem pow2_le {a b : Nat} (h : a ≤ b) : (2 : Int) ^ a ≤ 2 ^ b := by
  have h1 : (2 : Nat) ^ a ≤ 2 ^ b := Nat.pow_le_pow_right (by decide) h
  have h2 : ((2 ^ a : Nat) : Int) ≤ ((2 ^ b : Nat) : Int) := Int.ofNat_le.mpr h1
  rw [Int.natCast_pow, Int.natCast_pow] at h2
  exact h2
/-- what told_lengths comes to -/
def TL (rooms : Int) (ds : List Door) (d : D) : Prop := (d = .non ∧ ¬ ∃ ln, MF.Fit rooms ds ln) ∨ ∃ ns : List Int, d = .tup (ns.map D.num) ∧ (ns.length : Int) = rooms ∧ (∀ n ∈ ns, 0 < n ∧ n ≤ 2 ^ 150) ∧ MF.FitsD ds ns ∧ (rooms = 1 → ns = [1])
/-- the ways, by rooms -/
def pathW (m : List (Int × List MF.Step)) (i : Nat) : List MF.Step := (MF.lkW m (i : Int)).getD []
def ratsW (ds : List Door) (m : List (Int × List MF.Step)) (n : Nat) : List (Int × Int) := (List.range n).map fun i => MF.ratI ds (pathW m i)
theorem ratsW_get {ds : List Door} {m : List (Int × List MF.Step)} {n i : Nat} (h : i < n) : (ratsW ds m n)[i]? = some (MF.ratI ds (pathW m i)) := by unfold ratsW; rw [List.getElem?_map, List.getElem?_range h]; rfl
theorem pathW_ok {rooms : Int} {ds : List Door} {m : List (Int × List MF.Step)} (h : WO rooms ds m) {i : Nat} (hi : (i : Int) < rooms) : MF.lkW m (i : Int) = some (pathW m i) ∧ MF.Wlk ds 0 (pathW m i) ∧ MF.endR ds 0 (pathW m i) = (i : Int) ∧ ((pathW m i).length : Int) < rooms := by
  obtain ⟨l, hl, hm⟩ := MF.lkW_mem (h.all (i : Int) (by omega) hi)
  have e : pathW m i = l := by unfold pathW; rw [hl]; rfl
  obtain ⟨a, b, c⟩ := h.wi _ hm
  dsimp only at a b c
  have := h.len
  rw [e]
  exact ⟨hl, a, b, by omega⟩
theorem rats_ok {rooms : Int} {ds : List Door} (hk : HOk rooms ds) (r4 : rooms ≤ 4) {m : List (Int × List MF.Step)} (h : WO rooms ds m) : ∀ r ∈ ratsW ds m rooms.toNat, MF.ROk r := by
  intro r hr
  obtain ⟨i, hi, rfl⟩ := List.mem_map.mp hr
  rw [List.mem_range] at hi
  obtain ⟨_, a, _, c⟩ := pathW_ok h (i := i) (by omega)
  obtain ⟨b0, t0, _, l1, l2⟩ := MF.ratI_ok hk.ok (pathW m i) (MF.wlk_mem a)
  obtain ⟨p1, p2⟩ := pA_le hk (MF.wlk_mem a)
  have p3 := p999 (n := (pathW m i).length) (by omega)
  exact ⟨b0, t0, by omega, by omega⟩
theorem told_one {rs : List (Int × Int)} (ro : ∀ r ∈ rs, MF.ROk r) (h : rs.length = 1) : MF.toldR rs = [1] := by
  obtain ⟨x, hx, x0, _, _⟩ := MF.lensR_ok ro (i := 0) (r := rs[0]) (List.getElem?_eq_getElem (by omega))
  have ll : (MF.lensR rs).length = 1 := by unfold MF.lensR; rw [List.length_map, h]
  obtain ⟨y, hy⟩ := List.length_eq_one_iff.mp ll
  rw [hy] at hx
  have hx : y = x := by simpa using hx
  subst hx
  unfold MF.toldR
  rw [hy]
  have e : MF.gcdL [y] = y := by
    show MF.gcdI 0 y = y
    unfold MF.gcdI
    rw [Int.natAbs_zero, Nat.gcd_zero_left]; omega
  rw [e]
  show [y.fdiv y] = [1]
  rw [Int.fdiv_eq_ediv_of_nonneg _ (by omega), Int.ediv_self (by omega)]
section
variable {P : Program} {w : World} {K : PySem.W.Frag} {mg : Str → Option Value} {base : Heap} {C : Addr}
theorem sc_told_lengths : FnScope ["house", "found", "common", "ways", "room", "top", "bottom", "whole", "lengths", "item", "told"] ["house"] (defScope s_told_lengths) := ⟨rfl, rfl, rfl, by decide +kernel, rfl, by decide +kernel, by decide +kernel⟩
abbrev sp_told_lengths (C : Addr) : Sp := fun vs H Q _ => ∃ (rooms : Int) (ds : List Door), TpA C H vs [.hs rooms ds] ∧ HOk rooms ds ∧ rooms ≤ 4 ∧
  ∀ v d H', Same H H' → Tp C H' v d → TL rooms ds d → Q v H'
theorem ok_told_lengths (F : Df K mg "told_lengths" s_told_lengths) (B : Bi K mg C) (h_least_common : Cl P w K mg base "least_common" 1 ["numbers"] sp_least_common) (h_ratio_over : Cl P w K mg base "ratio_over" 2 ["house", "passes"] (sp_ratio_over C)) (h_ways_out : Cl P w K mg base "ways_out" 2 ["house"] (sp_ways_out C)) (h_lengths_right : Cl P w K mg base "lengths_right" 2 ["house", "thing"] (sp_lengths_right C)) : Cl P w K mg base "told_lengths" 3 ["house"] (sp_told_lengths C) := by
  refine F.cl sc_told_lengths (fun _ _ _ _ _ _ us hl => match us, hl with | [_], _ => rfl) (fun vs H Q E h => ?_) (fun f cdv A outer s H vs Q E hr h => ?_)
  · obtain ⟨r, i, t, _⟩ := h; exact t.length
  · obtain ⟨rooms, ds, t, hk, r4, q⟩ := h
    obtain ⟨v, _, rfl, t1, t⟩ := tpa_cons t
    cases tpa_nil t
    have r0 := hk.r0
    refine ⟨_, (pss_cons (ps_asg (pe_tup (pa_cons (pe_lst pa_nil) (pa_cons pe_int pa_nil))) (pg_tup (by rfl) (pgs_cons (pg_name (i := 1) sc_told_lengths.nd rfl (by first | exact Or.inl rfl | exact Or.inr rfl)) (pgs_cons (pg_name (i := 2) sc_told_lengths.nd rfl (by first | exact Or.inl rfl | exact Or.inr rfl)) pgs_nil))))
      (pss_cons (ps_set (i := 3) sc_told_lengths.nd rfl (by first | exact Or.inl rfl | exact Or.inr rfl) (pe_cl h_ways_out (hr.mono (by decide)) (by rfl) (pa_cons (pv 0) pa_nil)))
      (pss_cons (ps_for PassesOwn.never rfl (pi_range1 (by rfl) B.range (pa_cons (pe_fld (pv 0) rfl) pa_nil)) (pg_name (i := 4) sc_told_lengths.nd rfl (by first | exact Or.inl rfl | exact Or.inr rfl)) (pss_cons (ps_asg (pe_cl h_ratio_over (hr.mono (by decide)) (by rfl) (pa_cons (pv 0) (pa_cons (pe_dget (hu_of hr) (pv 3) (pv 4) (fun _ _ => rfl)) pa_nil))) (pg_tup (by rfl) (pgs_cons (pg_name (i := 5) sc_told_lengths.nd rfl (by first | exact Or.inl rfl | exact Or.inr rfl)) (pgs_cons (pg_name (i := 6) sc_told_lengths.nd rfl (by first | exact Or.inl rfl | exact Or.inr rfl)) pgs_nil))))
      (pss_one (ps_expr (pe_bm PySem.F.plainAttrs_list PySem.F.slot_list_append PySem.F.type_list_append mt_append (pv 1) (pa_cons (pe_tup (pa_cons (pv 6) (pa_cons (pe_callB call_abs (by rfl) B.abs (by decide +kernel) (pa_cons (pv 5) pa_nil)) pa_nil))) pa_nil))))))
      (pss_cons (ps_set (i := 7) sc_told_lengths.nd rfl (by first | exact Or.inl rfl | exact Or.inr rfl) (pe_cl h_least_common (hr.mono (by decide)) (by rfl) (pa_cons (pe_lc (own := [("top", 5), ("bottom", 6)]) (tt := tYes)  (g := gTup K 2 _) rfl sc_told_lengths.nd (pi_list (pv 1)) (blkOk_by (own := [("top", 5), ("bottom", 6)]) (N := ["house", "found", "common", "ways", "room", "top", "bottom", "whole", "lengths", "item", "told"]) (sc := defScope s_told_lengths) (by decide +kernel)) (fun _ _ _ _ _ => (pg_tup (by rfl) (pgs_cons (pg_name (i := 5) sc_told_lengths.nd rfl (by first | exact Or.inl rfl | exact Or.inr rfl)) (pgs_cons (pg_name (i := 6) sc_told_lengths.nd rfl (by first | exact Or.inl rfl | exact Or.inr rfl)) pgs_nil)))) (fun _ _ _ _ _ => pts_nil) (fun _ _ _ _ _ => (pv 6))) pa_nil)))
      (pss_cons (ps_setLc (i := 8) (own := [("top", 5), ("bottom", 6)]) (tt := tYes)  (g := gTup K 2 _) rfl sc_told_lengths.nd rfl rfl (sw_true rfl rfl rfl (by decide +kernel)) (pi_list (pv 1)) (blkOk_by (own := [("top", 5), ("bottom", 6)]) (N := ["house", "found", "common", "ways", "room", "top", "bottom", "whole", "lengths", "item", "told"]) (sc := defScope s_told_lengths) (by decide +kernel)) (fun _ _ _ _ _ => (pg_tup (by rfl) (pgs_cons (pg_name (i := 5) sc_told_lengths.nd rfl (by first | exact Or.inl rfl | exact Or.inr rfl)) (pgs_cons (pg_name (i := 6) sc_told_lengths.nd rfl (by first | exact Or.inl rfl | exact Or.inr rfl)) pgs_nil)))) (fun _ _ _ _ _ => pts_nil) (fun _ _ _ _ _ => (pe_op op_fdivW (pe_op op_mulW (pv 5) (pv 7)) (pv 6))))
      (pss_cons (ps_for PassesOwn.never rfl (pi_list (pv 8)) (pg_name (i := 9) sc_told_lengths.nd rfl (by first | exact Or.inl rfl | exact Or.inr rfl)) (pss_one (ps_set (i := 2) sc_told_lengths.nd rfl (by first | exact Or.inl rfl | exact Or.inr rfl) (pe_callBfun cr_gcd (by rfl) B.gcd (pa_cons (pv 2) (pa_cons (pv 9) pa_nil))))))
      (pss_cons (ps_set (i := 10) sc_told_lengths.nd rfl (by first | exact Or.inl rfl | exact Or.inr rfl) (pe_callTy call_tuple_of (by rfl) B.tuple (by decide +kernel) (pa_cons (pe_lc (own := [("item", 9)]) (tt := tYes)  rfl sc_told_lengths.nd (pi_list (pv 8)) (blkOk_by (own := [("item", 9)]) (N := ["house", "found", "common", "ways", "room", "top", "bottom", "whole", "lengths", "item", "told"]) (sc := defScope s_told_lengths) (by decide +kernel)) (fun _ _ _ _ _ => (pg_name (i := 9) sc_told_lengths.nd rfl (by first | exact Or.inl rfl | exact Or.inr rfl))) (fun _ _ _ _ _ => pts_nil) (fun _ _ _ _ _ => (pe_op op_fdivW (pv 9) (pv 2)))) pa_nil)))
      (pss_one (ps_ret (pe_ifExp (pt_val (pe_cl h_lengths_right (hr.mono (by decide)) (by rfl) (pa_cons (pv 0) (pa_cons (pv 10) pa_nil)))) (pv 10) pe_non)))))))))), ?_⟩
    refine ⟨Nat.zero_le _, fun a ha => ⟨small_len (m := 2) (Nat.le_refl 2) (by omega), fun tt htt => ⟨tt, [.ref a, .int 0], rfl, .inl (.inl upd_same), rfl, _, _, rfl, _, _, rfl, rfl, ?_⟩⟩⟩
    have s1 : Same H (upd (upd H a (.lst [])) tt (.tup [.ref a, .int 0])) := Same.newer (Same.new ha) htt
    have ha1 : upd (upd H a (.lst [])) tt (.tup [.ref a, .int 0]) a = some (.lst []) := Same.new htt _ _ upd_same
    have t11 := t1.same s1
    generalize upd (upd H a (.lst [])) tt (.tup [.ref a, .int 0]) = H1 at s1 ha1 t11 ⊢
    dsimp only [List.set, L2.start, List.map, List.append, List.replicate, List.length]
    refine ⟨_, rfl, rooms, ds, .cons t11 .nil, hk, fun p m H2 s2 dk wo => ?_⟩
    dsimp only [gName, List.set]
    have t12 := t11.same s2
    have ha2 := s2 _ _ ha1
    have nl : rooms.toNat ≤ 4 := by omega
    refine st_for (C := C) (wi := _) (ei_rng1 (n := rooms.toNat) (C := C) ?_ (by omega)) (fun G i σ' H' => ∃ x4 x5 x6 vs, σ' = [some v, some (.ref a), some (.int 0), some (.ref p), x4, x5, x6, none, none, none, none] ∧ Gr C a G H' vs (((ratsW ds m rooms.toNat).take i).map fun r => .tup [.num r.2, .num (MF.aux r.1)])) ?_ ?_ ?_ ?_
    · have e : (rooms.toNat : Int) = rooms := by omega
      rw [e]
      exact ea_cons (ev_rooms (ev_var rfl t12) B.cl B.nr) ea_nil
    · intro G sG
      exact ⟨none, none, none, [], rfl, Gr.start (sG _ _ ha2) .nil⟩
    · rintro G i σ' H' sG ⟨x4, x5, x6, vs, rfl, g⟩
      exact g.keeps (H := H2) (Fk := []) (sG _ _ ha2) (by rw [ha2]; simp) (by simp)
    · rintro G i d x σ' H' sG hi ⟨x4, x5, x6, vs, rfl, g⟩ tx
      obtain ⟨hi2, rfl⟩ := rng_item hi
      cases tp_num tx
      refine ⟨_, gb_name, ?_⟩
      have stG : Stay H2 H' := Stay.trans (Same.stay sG) (g.stay (sG _ _ ha2))
      have t13 := t12.stay stG
      have pa : p ≠ a := fun z => by obtain ⟨kvs, hkv, _⟩ := dk; rw [z, ha2] at hkv; cases hkv
      have dk3 : DK C H' p (m.map wD) := dk.stay stG fun o e => g.1 p o pa (sG _ _ e)
      obtain ⟨hlk, hw, he, hlen⟩ := pathW_ok wo (i := i) (by omega)
      have hmem := MF.wlk_mem hw
      have p3 := p999 (n := (pathW m i).length) (by omega)
      obtain ⟨p1, p2⟩ := pA_le hk hmem
      have ev : EvD C (tCall (sp_ratio_over C) [] E0 (tCons (tVar 0) (tCons (tDGet (tVar 3) (tVar 4)) tNil))) [some v, some (.ref a), some (.int 0), some (.ref p), some (.int (i : Int)), x5, x6, none, none, none, none] H' (.tup [.num (MF.ratI ds (pathW m i)).1, .num (MF.ratI ds (pathW m i)).2]) := by
        refine ev_fn (rooms, ds, pathW m i) (ea_cons (ev_var rfl t13) (ea_cons ?_ ea_nil)) rfl ⟨hk, hmem, by dsimp only; omega⟩
        exact ev_dgetK (C := C) (evv_var rfl) (by trivial) dk3 (wD_look hlk)
      apply st_asg (C := C) (d := .tup [.num (MF.ratI ds (pathW m i)).1, .num (MF.ratI ds (pathW m i)).2])
      · exact ev
      intro vr H4 s4 t4
      obtain ⟨u1, u2, w1, w2, g2⟩ := gb_two (K := K) (i := 5) (j := 6) (σ := [some v, some (.ref a), some (.int 0), some (.ref p), some (.int (i : Int)), x5, x6, none, none, none, none]) t4
      cases tp_num w1; cases tp_num w2
      refine ⟨_, g2, ?_⟩
      have g4 := g.same s4
      have tk : (ratsW ds m rooms.toNat).take (i + 1) = (ratsW ds m rooms.toNat).take i ++ [MF.ratI ds (pathW m i)] := by
        rw [List.take_add_one, ratsW_get hi2]; rfl
      apply st_app1 (C := C) (d := .tup [.num (MF.ratI ds (pathW m i)).2, .num (MF.aux (MF.ratI ds (pathW m i)).1)]) (hv := rfl) (ha := g4.2.1)
      · rw [g4.len, List.length_map, List.length_take]; exact small_lt (m := 100) (by omega) (by omega)
      · rw [← aux_if]; trivial
      · intro v5 H5 s5 t5
        refine ⟨_, _, _, vs ++ [v5], rfl, ?_⟩
        rw [tk, List.map_append]
        exact g4.app s5 t5
    · rintro G σ' H' sG ⟨x4, x5, x6, vs, rfl, g⟩
      have rl : (ratsW ds m rooms.toNat).length = rooms.toNat := by simp [ratsW]
      rw [List.length_map, List.length_range, List.take_of_length_le (by omega)] at g
      have ro := rats_ok hk r4 wo
      have hrs : ∀ (i : Nat) (r : Int × Int), (ratsW ds m rooms.toNat)[i]? = some r → ∃ w, MF.Wlk ds 0 w ∧ MF.endR ds 0 w = (i : Int) ∧ r = MF.ratI ds w := by
        intro i r hr
        have hi := (List.getElem?_eq_some_iff.mp hr).1
        rw [rl] at hi
        rw [ratsW_get hi] at hr
        cases hr
        obtain ⟨_, b, c, _⟩ := pathW_ok wo (i := i) (by omega)
        exact ⟨_, b, c, rfl⟩
      have fits := fun ln F => MF.told_fits hk.ok (rooms := rooms) (rs := ratsW ds m rooms.toNat) (by rw [rl]; omega) ro hrs (ln := ln) F
      obtain ⟨g0, tl, tk⟩ := MF.toldR_ok ro (by omega)
      obtain ⟨w0, w1, w2⟩ := MF.wholeR_ok ro
      have sH : Same H H' := (g.re (Same.but (Same.trans s2 sG))).back s1 ha
      have stG : Stay H2 H' := Stay.trans (Same.stay sG) (g.stay (sG _ _ ha2))
      have t13 := t12.stay stG
      clear dk wo hrs
      generalize ratsW ds m rooms.toNat = rs at g rl ro fits g0 tl tk w0 w1 w2
      obtain ⟨-, hal, tr⟩ := g
      have len12 : rs.length ≤ 4 := by omega
      -- whole
      have evw : EvP (tCall sp_least_common [] E0 (tCons (tLc (iList K (tVar 1)) (gTup K 2 (gCons (gName 5) (gCons (gName 6) gNil))) tYes (tVar 6) [5, 6]) tNil)) [some v, some (.ref a), some (.int 0), some (.ref p), x4, x5, x6, none, none, none, none] H' (fun H v => v = .int (MF.lcmL (rs.map fun r => MF.aux r.1))) := by
        refine evp_call (pre := fun (ns : List Int) vs H => (∃ v, vs = [v] ∧ IL ns H v) ∧ ∃ b, 0 < b ∧ LC b ns) (post := fun ns H v => v = .int (MF.lcmL ns)) _ (eap_mono (eap_cons (evp_new (ns := rs.map fun r => MF.aux r.1) (evl_lc (C := C) (h := ei_at (C := C) (ds := rs.map fun r => D.tup [.num r.2, .num (MF.aux r.1)]) (evv_var rfl) hal tr) (keep := fun d => match d with | .tup [.num _, .num y] => some (.num y) | _ => none) ?_ ?_) ?_) eap_nil fun H H' v s h => h.same s) ?_)
        · intro d x H6 hd s6 t6
          obtain ⟨r, hr, rfl⟩ := List.mem_map.mp hd
          obtain ⟨u1, u2, z1, z2, g2⟩ := gb_two (K := K) (i := 5) (j := 6) (σ := wipe [some v, some (.ref a), some (.int 0), some (.ref p), x4, x5, x6, none, none, none, none] [5, 6]) t6
          cases tp_num z1; cases tp_num z2
          refine ⟨_, g2, rfl, et_yes, fun z hz => ?_⟩
          have hz : D.num (MF.aux r.1) = z := by simpa using hz
          subst hz
          trivial
        · rw [List.length_map]; exact small_len (m := 4) len12 (by omega)
        · rw [List.filterMap_map, List.map_map, ← List.filterMap_eq_map]
          rfl
        · rintro vs H6 ⟨v1, r1, rfl, p1, rfl⟩
          refine ⟨⟨v1, rfl, p1⟩, 30, by decide, fun n hn => ?_, fun n hn => ?_, ?_⟩
          · obtain ⟨r, hr, rfl⟩ := List.mem_map.mp hn
            have := (ro r hr).t0
            unfold MF.aux; omega
          · obtain ⟨r, hr, rfl⟩ := List.mem_map.mp hn
            have := (ro r hr).t1
            unfold MF.aux at *; omega
          · rw [List.length_map]; omega
      refine st_setP evw ?_
      rintro vw H5 s5 rfl
      change tSeq _ _ _ [some v, some (.ref a), some (.int 0), some (.ref p), x4, x5, x6, some (.int (MF.wholeR rs)), none, none, none] H5
      have hal5 := s5 _ _ hal
      have tr5 := tr.same s5
      have wb : (MF.wholeR rs).natAbs < 2 ^ 121 := by
        have h1 : (2 : Int) ^ (30 * rs.length) ≤ 2 ^ 120 := by
          exact pow2_le (by omega)
        omega
      -- lengths
      have evl : EvP (tLc (iList K (tVar 1)) (gTup K 2 (gCons (gName 5) (gCons (gName 6) gNil))) tYes (tOp (rI CDivW fun i j => .int (i / j)) (tOp (rI CMulW fun i j => .int (i * j)) (tVar 5) (tVar 7)) (tVar 6)) [5, 6]) [some v, some (.ref a), some (.int 0), some (.ref p), x4, x5, x6, some (.int (MF.wholeR rs)), none, none, none] H5 (IL (MF.lensR rs)) := by
        refine evp_new (evl_lc (C := C) (h := ei_at (C := C) (ds := rs.map fun r => D.tup [.num r.2, .num (MF.aux r.1)]) (evv_var rfl) hal5 tr5) (keep := fun d => match d with | .tup [.num x, .num y] => some (.num ((x * MF.wholeR rs).fdiv y)) | _ => none) ?_ ?_) ?_
        · intro d x H6 hd s6 t6
          obtain ⟨r, hr, rfl⟩ := List.mem_map.mp hd
          obtain ⟨u1, u2, z1, z2, g2⟩ := gb_two (K := K) (i := 5) (j := 6) (σ := wipe [some v, some (.ref a), some (.int 0), some (.ref p), x4, x5, x6, some (.int (MF.wholeR rs)), none, none, none] [5, 6]) t6
          cases tp_num z1; cases tp_num z2
          refine ⟨_, g2, rfl, et_yes, fun z hz => ?_⟩
          have hz : D.num ((r.2 * MF.wholeR rs).fdiv (MF.aux r.1)) = z := by simpa using hz
          subst hz
          have ror := ro r hr
          have a0 : 0 < MF.aux r.1 := by have := ror.t0; unfold MF.aux; omega
          have b1 := ror.b1
          have b0 := ror.b0
          have t1 := ror.t1
          rw [Int.fdiv_eq_ediv_of_nonneg _ (by omega)]
          apply ev_opIC (g := fun i j => i / j)
          · apply ev_opIC (g := fun i j => i * j)
            · trivial
            · trivial
            · exact wide_mul (a := 30) (b := 121) (by omega) wb (by decide) (by decide) (by decide)
          · trivial
          · exact wide_div (b := 30) a0 (by omega) (by decide) (by decide)
        · rw [List.length_map]; exact small_len (m := 4) len12 (by omega)
        · unfold MF.lensR
          rw [List.filterMap_map, List.map_map, ← List.filterMap_eq_map]
          rfl
      refine st_setP evl ?_
      rintro vl H6 s6 ⟨al, rfl, hll⟩
      change tSeq _ _ _ [some v, some (.ref a), some (.int 0), some (.ref p), x4, x5, x6, some (.int (MF.wholeR rs)), some (.ref al), none, none] H6
      have ll : (MF.lensR rs).length = rs.length := by unfold MF.lensR; rw [List.length_map]
      have lb : ∀ x ∈ MF.lensR rs, 0 < x ∧ x ≤ 2 ^ 150 := by
        intro x hx
        obtain ⟨i, hi⟩ := List.getElem?_of_mem hx
        have hlt : i < rs.length := by rw [← ll]; exact (List.getElem?_eq_some_iff.mp hi).1
        obtain ⟨y, hy, y0, _, yb⟩ := MF.lensR_ok ro (List.getElem?_eq_getElem hlt)
        rw [hi] at hy
        cases hy
        refine ⟨y0, Int.le_trans yb ?_⟩
        exact pow2_le (by omega)
      refine st_for (C := C) (wi := _) (ei_at (C := C) (ds := (MF.lensR rs).map D.num) (evv_var rfl) hll (of_nums C _ _)) (fun G i σ' H' => ∃ x9, σ' = [some v, some (.ref a), some (.int (MF.gcdL ((MF.lensR rs).take i))), some (.ref p), x4, x5, x6, some (.int (MF.wholeR rs)), some (.ref al), x9, none] ∧ Same G H') ?_ ?_ ?_ ?_
      · intro G sG
        exact ⟨none, rfl, Same.refl _⟩
      · rintro G i σ' H' sG ⟨x9, rfl, s⟩
        exact ⟨Same.stay s, fun b o _ e => s b o e⟩
      · rintro G i d x σ' H' sG hi ⟨x9, rfl, s⟩ tx
        obtain ⟨n, hn, rfl⟩ := map_item hi
        cases tp_num tx
        refine ⟨_, gb_name, ?_⟩
        have tk2 : (MF.lensR rs).take (i + 1) = (MF.lensR rs).take i ++ [n] := by rw [List.take_add_one, hn]; rfl
        rw [tk2, MF.gcdL_snoc]
        generalize MF.gcdL ((MF.lensR rs).take i) = gg
        have ev : EvD C (tCB rGcd (tCons (tVar 2) (tCons (tVar 9) tNil))) ([some v, some (.ref a), some (.int gg), some (.ref p), x4, x5, x6, some (.int (MF.wholeR rs)), some (.ref al), x9, none].set 9 (some (.int n))) H' (.num (MF.gcdI gg n)) := ev_gcd (by trivial) (by trivial)
        refine ev H' (Same.refl _) _ fun v3 H3 s3 t3 => ?_
        cases tp_num t3
        exact ⟨_, rfl, Same.trans s s3⟩
      · rintro G σ' H7 sG7 ⟨x9, rfl, s7⟩
        rw [List.length_map, List.take_length]
        have s67 := Same.trans sG7 s7
        have hll7 := s67 _ _ hll
        have gb : (MF.gcdL (MF.lensR rs)).natAbs < 2 ^ 151 := by
          obtain ⟨_, gd⟩ := MF.gcdL_ok (MF.lensR rs)
          have hlt : 0 < rs.length := by omega
          obtain ⟨y, hy, y0, _, _⟩ := MF.lensR_ok ro (List.getElem?_eq_getElem hlt)
          have ym := List.mem_of_getElem? hy
          have h1 := Int.le_of_dvd y0 (gd y ym)
          have h2 := (lb y ym).2
          omega
        have evt : EvD C (tCB (rTupOf K) (tCons (tLc (iList K (tVar 8)) (gName 9) tYes (tOp (rI CDivW fun i j => .int (i / j)) (tVar 9) (tVar 2)) [9]) tNil)) [some v, some (.ref a), some (.int (MF.gcdL (MF.lensR rs))), some (.ref p), x4, x5, x6, some (.int (MF.wholeR rs)), some (.ref al), x9, none] H7 (.tup ((MF.toldR rs).map D.num)) := by
          have e : (MF.toldR rs).map D.num = ((MF.lensR rs).map D.num).filterMap fun d => match d with | .num x => some (.num (x.fdiv (MF.gcdL (MF.lensR rs)))) | _ => none := by
            unfold MF.toldR
            rw [List.filterMap_map, List.map_map, ← List.filterMap_eq_map]
            rfl
          rw [e]
          apply ev_tupOf
          refine evl_lc (C := C) (h := ei_at (C := C) (ds := (MF.lensR rs).map D.num) (evv_var rfl) hll7 (of_nums C _ _)) (keep := _) ?_ ?_
          · intro d x H8 hd s8 t8
            obtain ⟨n, hn, rfl⟩ := List.mem_map.mp hd
            cases tp_num t8
            refine ⟨_, gb_name, rfl, et_yes, fun z hz => ?_⟩
            have hz : D.num (n.fdiv (MF.gcdL (MF.lensR rs))) = z := by simpa using hz
            subst hz
            rw [Int.fdiv_eq_ediv_of_nonneg _ (by omega)]
            apply ev_opIC (g := fun i j => i / j)
            · trivial
            · trivial
            · exact wide_div (b := 151) g0 gb (by decide) (by decide)
          · rw [List.length_map, ll]; exact small_len (m := 4) len12 (by omega)
        dsimp only
        apply st_set (C := C)
        · exact evt
        intro vt H8 s8 t8
        have t18 := ((t13.same s5).same s6).same (Same.trans s67 s8)
        have told0 : ∀ n ∈ MF.toldR rs, 0 < n ∧ n ≤ 2 ^ 150 := by
          intro n hn
          obtain ⟨i, hi⟩ := List.getElem?_of_mem hn
          have hlt : i < rs.length := by rw [← tl]; exact (List.getElem?_eq_some_iff.mp hi).1
          obtain ⟨y, hy, y0, _, yb⟩ := tk i _ (List.getElem?_eq_getElem hlt)
          rw [hi] at hy
          cases hy
          refine ⟨y0, Int.le_trans yb ?_⟩
          exact pow2_le (by omega)
        have tl2 : ((MF.toldR rs).length : Int) = rooms := by rw [tl, rl]; omega
        have evr : EvD C (tIf (tB (tCall (sp_lengths_right C) [] E0 (tCons (tVar 0) (tCons (tVar 10) tNil)))) (tVar 10) (tC .non)) ([some v, some (.ref a), some (.int (MF.gcdL (MF.lensR rs))), some (.ref p), x4, x5, x6, some (.int (MF.wholeR rs)), some (.ref al), x9, none].set 10 (some vt)) H8 (if fitsB ds (MF.toldR rs) = true then .tup ((MF.toldR rs).map D.num) else .non) := by
          apply ev_if2
          · apply et_B (C := C)
            exact ev_fn (rooms, ds, MF.toldR rs) (ea_cons (ev_var rfl t18) (ea_cons (ev_var rfl t8) ea_nil)) rfl ⟨hk, tl2, fun n hn => (told0 n hn).1⟩
          · exact ev_var rfl t8
          · trivial
        refine evr H8 (Same.refl _) _ fun vr H9 s9 t9 => q vr _ H9 (Same.trans sH (Same.trans (Same.trans s5 s6) (Same.trans s67 (Same.trans s8 s9)))) t9 ?_
        by_cases hf : fitsB ds (MF.toldR rs) = true
        · rw [if_pos hf]
          exact .inr ⟨_, rfl, tl2, told0, fitsB_iff.mp hf, fun h1 => told_one ro (by omega)⟩
        · rw [if_neg hf]
          exact .inl ⟨rfl, fun ⟨ln, F⟩ => hf (fitsB_iff.mpr (fits ln F))⟩
theorem sc_lengths_of : FnScope ["house"] ["house"] (defScope s_lengths_of) := ⟨rfl, rfl, rfl, by decide +kernel, rfl, by decide +kernel, by decide +kernel⟩
abbrev sp_lengths_of (C : Addr) : Sp := fun vs H Q _ => ∃ (rooms : Int) (ds : List Door), TpA C H vs [.hs rooms ds] ∧ HOk rooms ds ∧ rooms ≤ 4 ∧
  ∀ v d H', Same H H' → Tp C H' v d → TL rooms ds d → Q v H'
theorem ok_lengths_of (F : Df K mg "lengths_of" s_lengths_of) (B : Bi K mg C) (h_need_house : Cl P w K mg base "need_house" 1 ["house"] (sp_need_house C)) (h_told_lengths : Cl P w K mg base "told_lengths" 3 ["house"] (sp_told_lengths C)) : Cl P w K mg base "lengths_of" 4 ["house"] (sp_lengths_of C) := by
  refine F.cl sc_lengths_of (fun _ _ _ _ _ _ us hl => match us, hl with | [_], _ => rfl) (fun vs H Q E h => ?_) (fun f cdv A outer s H vs Q E hr h => ?_)
  · obtain ⟨r, i, t, _⟩ := h; exact t.length
  · obtain ⟨rooms, ds, t, hk, r4, q⟩ := h
    obtain ⟨v, _, rfl, t1, t⟩ := tpa_cons t
    cases tpa_nil t
    refine ⟨_, (pss_cons (ps_expr (pe_cl h_need_house (hr.mono (by decide)) (by rfl) (pa_cons (pv 0) pa_nil)))
      (pss_one (ps_ret (pe_cl h_told_lengths (hr.mono (by decide)) (by rfl) (pa_cons (pv 0) pa_nil))))), ?_⟩
    apply st_drop (C := C) (e := .non)
    · exact ev_fn (rooms, ds) (ea_cons (ev_var rfl t1) ea_nil) rfl True.intro
    intro H1 s1
    exact ⟨_, rfl, rooms, ds, .cons (t1.same s1) .nil, hk, r4, fun v d H2 s2 t2 tl => q v d H2 (Same.trans s1 s2) t2 tl⟩
/-- what kept_pulls comes to -/
def KP (rooms : Int) (ds : List Door) (d : D) : Prop := (d = .non ∧ ¬ ∃ ln, MF.Fit rooms ds ln) ∨ ∃ (ln : Int → Int) (W : Int) (ks : List Int), d = .tup (ks.map D.num) ∧ MF.Fit rooms ds ln ∧ 0 < W ∧ (∀ d ∈ ds, d.2.1 * ln d.1 ∣ W) ∧ (∀ T, (∀ d ∈ ds, d.2.1 * ln d.1 ∣ T) → W ∣ T) ∧ (rooms = 1 → ln 0 = 1) ∧ (∀ r : Int, 0 ≤ r → r < rooms → ks[r.toNat]? = some (W / ln r))
theorem sc_kept_pulls : FnScope ["house", "lengths", "whole", "near", "first", "far", "second", "length"] ["house"] (defScope s_kept_pulls) := ⟨rfl, rfl, rfl, by decide +kernel, rfl, by decide +kernel, by decide +kernel⟩
abbrev sp_kept_pulls (C : Addr) : Sp := fun vs H Q _ => ∃ (rooms : Int) (ds : List Door), TpA C H vs [.hs rooms ds] ∧ HOk rooms ds ∧ rooms ≤ 4 ∧
  ∀ v d H', Same H H' → Tp C H' v d → KP rooms ds d → Q v H'
theorem ok_kept_pulls (F : Df K mg "kept_pulls" s_kept_pulls) (B : Bi K mg C) (h_least_common : Cl P w K mg base "least_common" 1 ["numbers"] sp_least_common) (h_need_house : Cl P w K mg base "need_house" 1 ["house"] (sp_need_house C)) (h_told_lengths : Cl P w K mg base "told_lengths" 3 ["house"] (sp_told_lengths C)) : Cl P w K mg base "kept_pulls" 4 ["house"] (sp_kept_pulls C) := by
  refine F.cl sc_kept_pulls (fun _ _ _ _ _ _ us hl => match us, hl with | [_], _ => rfl) (fun vs H Q E h => ?_) (fun f cdv A outer s H vs Q E hr h => ?_)
  · obtain ⟨r, i, t, _⟩ := h; exact t.length
  · obtain ⟨rooms, ds, t, hk, r4, q⟩ := h
    obtain ⟨v, _, rfl, t1, t⟩ := tpa_cons t
    cases tpa_nil t
    refine ⟨_, (pss_cons (ps_expr (pe_cl h_need_house (hr.mono (by decide)) (by rfl) (pa_cons (pv 0) pa_nil)))
      (pss_cons (ps_set (i := 1) sc_kept_pulls.nd rfl (by first | exact Or.inl rfl | exact Or.inr rfl) (pe_cl h_told_lengths (hr.mono (by decide)) (by rfl) (pa_cons (pv 0) pa_nil)))
      (pss_cons (ps_if (pt_cmp (pc_isN (pv 1)) rfl) (pss_one (ps_ret pe_non)) pss_nil)
      (pss_cons (ps_set (i := 2) sc_kept_pulls.nd rfl (by first | exact Or.inl rfl | exact Or.inr rfl) (pe_cl h_least_common (hr.mono (by decide)) (by rfl) (pa_cons (pe_lc (own := [("near", 3), ("first", 4), ("far", 5), ("second", 6)]) (tt := tYes) (te := tOp _ _ (tOp (rIxT K) _ _)) (g := gTup K 4 _) rfl sc_kept_pulls.nd (pi_tup (pe_fld (pv 0) rfl)) (blkOk_by (own := [("near", 3), ("first", 4), ("far", 5), ("second", 6)]) (N := ["house", "lengths", "whole", "near", "first", "far", "second", "length"]) (sc := defScope s_kept_pulls) (by decide +kernel)) (fun _ _ _ _ _ => (pg_tup (by rfl) (pgs_cons (pg_name (i := 3) sc_kept_pulls.nd rfl (by first | exact Or.inl rfl | exact Or.inr rfl)) (pgs_cons (pg_name (i := 4) sc_kept_pulls.nd rfl (by first | exact Or.inl rfl | exact Or.inr rfl)) (pgs_cons (pg_name (i := 5) sc_kept_pulls.nd rfl (by first | exact Or.inl rfl | exact Or.inr rfl)) (pgs_cons (pg_name (i := 6) sc_kept_pulls.nd rfl (by first | exact Or.inl rfl | exact Or.inr rfl)) pgs_nil)))))) (fun _ _ _ _ _ => pts_nil) (fun _ _ _ _ _ => (pe_op op_mul (pv 4) (pe_ix ix_tup (pv 1) (pv 3) (fun _ _ => rfl))))) pa_nil)))
      (pss_one (ps_ret (pe_callTy call_tuple_of (by rfl) B.tuple (by decide +kernel) (pa_cons (pe_lc (own := [("length", 7)]) (tt := tYes)  rfl sc_kept_pulls.nd (pi_tup (pv 1)) (blkOk_by (own := [("length", 7)]) (N := ["house", "lengths", "whole", "near", "first", "far", "second", "length"]) (sc := defScope s_kept_pulls) (by decide +kernel)) (fun _ _ _ _ _ => (pg_name (i := 7) sc_kept_pulls.nd rfl (by first | exact Or.inl rfl | exact Or.inr rfl))) (fun _ _ _ _ _ => pts_nil) (fun _ _ _ _ _ => (pe_op op_fdivW (pv 2) (pv 7)))) pa_nil)))))))), ?_⟩
    apply st_drop (C := C) (e := .non)
    · exact ev_fn (rooms, ds) (ea_cons (ev_var rfl t1) ea_nil) rfl True.intro
    intro H1 s1
    have t11 := t1.same s1
    refine ⟨_, rfl, rooms, ds, .cons t11 .nil, hk, r4, fun vl d H2 s2 tl2 TLd => ?_⟩
    dsimp only [gName, List.set]
    have t12 := t11.same s2
    have s02 := Same.trans s1 s2
    rcases TLd with ⟨rfl, no⟩ | ⟨ns, rfl, nl, n0, fit, one⟩
    · have vn := tp_non tl2
      subst vn
      apply st_if (b := true)
      · apply et_test (C := C)
        exact ev_isN (C := C) (d := .non) (ev_var rfl .non)
      · exact fun _ H3 s3 => q _ .non H3 (Same.trans s02 s3) .non (.inl ⟨rfl, no⟩)
      · exact fun hb => nomatch hb
    · apply st_no (h := ?_)
      · intro H3 s3
        have t13 := t12.same s3
        have tl3 := tl2.same s3
        have F := MF.fitsD_fit nl (fun n hn => (n0 n hn).1) fit
        have r1 := hk.r1
        have lnb : ∀ r : Int, 0 ≤ r → r < rooms → 0 < MF.lnOf ns r ∧ MF.lnOf ns r ≤ 2 ^ 150 ∧ ns[r.toNat]? = some (MF.lnOf ns r) := by
          intro r r0 r1
          have hlt : r.toNat < ns.length := by omega
          have e : MF.lnOf ns r = ns[r.toNat] := by unfold MF.lnOf; rw [List.getD_eq_getElem?_getD, List.getElem?_eq_getElem hlt]; rfl
          rw [e]
          obtain ⟨a, b⟩ := n0 _ (List.getElem_mem hlt)
          exact ⟨a, b, List.getElem?_eq_getElem hlt⟩
        have lc : LC 170 (ds.map fun d => d.2.1 * MF.lnOf ns d.1) := by
          refine ⟨fun n hn => ?_, fun n hn => ?_, ?_⟩
          · obtain ⟨d, hd, rfl⟩ := List.mem_map.mp hn
            obtain ⟨⟨a1, a2⟩, _, ⟨b1, b2, b3⟩, _⟩ := hk.dok d hd
            obtain ⟨l1, _, _⟩ := lnb d.1 a1 a2
            exact Int.mul_ne_zero b1 (by omega)
          · obtain ⟨d, hd, rfl⟩ := List.mem_map.mp hn
            obtain ⟨⟨a1, a2⟩, _, ⟨b1, b2, b3⟩, _⟩ := hk.dok d hd
            obtain ⟨l1, l2, _⟩ := lnb d.1 a1 a2
            have := wide_lt (i := d.2.1) (j := MF.lnOf ns d.1) (a := 10) (b := 151) (by omega) (by omega)
            exact Nat.lt_of_lt_of_le this (Nat.pow_le_pow_right (by decide) (by decide))
          · rw [List.length_map]; have := hk.dl; omega
        obtain ⟨w0, w1, w2, w3⟩ := MF.lcmL_ok (ds.map fun d => d.2.1 * MF.lnOf ns d.1) lc.n0
        have evw : EvP (tCall sp_least_common [] E0 (tCons (tLc (iTup K (tFld K (tVar 0) "doors")) (gTup K 4 (gCons (gName 4) (gCons (gName 5) (gCons (gName 6) (gCons (gName 7) gNil))))) tYes (tOp (rI CMul fun i j => .int (i * j)) (tVar 5) (tOp (rIxT K) (tVar 1) (tVar 4))) [4, 5, 6, 7]) tNil)) [some v, some vl, none, none, none, none, none, none] H3 (fun H v => v = .int (MF.lcmL (ds.map fun d => d.2.1 * MF.lnOf ns d.1))) := by
          refine evp_call (pre := fun (ns : List Int) vs H => (∃ v, vs = [v] ∧ IL ns H v) ∧ ∃ b, 0 < b ∧ LC b ns) (post := fun ns H v => v = .int (MF.lcmL ns)) _ (eap_mono (eap_cons (evp_new (ns := ds.map fun d => d.2.1 * MF.lnOf ns d.1) (evl_lc (C := C) (h := ei_tup (C := C) (ds := ds.map doorD) (ev_doors (ev_var rfl t13) B.cl B.nd)) (keep := fun x => match x with | .tup [.num a, .num b, .num _, .num _] => some (.num (b * MF.lnOf ns a)) | _ => none) ?_ ?_) ?_) eap_nil fun H H' v s h => h.same s) ?_)
          · intro dd x H6 hdd s6 t6
            obtain ⟨d, hd, rfl⟩ := List.mem_map.mp hdd
            obtain ⟨⟨a1, a2⟩, _, ⟨b1, b2, b3⟩, _⟩ := hk.dok d hd
            obtain ⟨_, _, l3⟩ := lnb d.1 a1 a2
            refine ⟨_, gb_door t6, rfl, et_yes, fun z hz => ?_⟩
            have hz : D.num (d.2.1 * MF.lnOf ns d.1) = z := by simpa [doorD] using hz
            subst hz
            apply ev_mulL
            · trivial
            · exact ev_ixi (n := d.1.toNat) (ev_var rfl (tl3.same s6)) (by trivial) (by omega) (by rw [List.getElem?_map, l3]; rfl)
            · omega
          · rw [List.length_map]; exact small_len (m := 20) hk.dl (by omega)
          · rw [List.filterMap_map, List.map_map, ← List.filterMap_eq_map]
            rfl
          · rintro vs H6 ⟨v1, r1, rfl, p1, rfl⟩
            exact ⟨⟨v1, rfl, p1⟩, 170, by decide, lc⟩
        refine st_setP evw ?_
        rintro vw H5 s5 rfl
        generalize hW : MF.lcmL (ds.map fun d => d.2.1 * MF.lnOf ns d.1) = W at w0 w1 w2 w3
        change tRet _ _ [some v, some vl, some (.int W), none, none, none, none, none] H5
        have evt : EvD C (tCB (rTupOf K) (tCons (tLc (iTup K (tVar 1)) (gName 3) tYes (tOp (rI CDivW fun i j => .int (i / j)) (tVar 2) (tVar 3)) [3]) tNil)) [some v, some vl, some (.int W), none, none, none, none, none] H5 (.tup ((ns.map fun n => W / n).map D.num)) := by
          have e : (ns.map fun n => W / n).map D.num = (ns.map D.num).filterMap fun d => match d with | .num x => some (.num (W / x)) | _ => none := by
            rw [List.filterMap_map, List.map_map, ← List.filterMap_eq_map]
            rfl
          rw [e]
          apply ev_tupOf
          refine evl_lc (C := C) (h := ei_tup (C := C) (ds := ns.map D.num) (ev_var rfl (tl3.same s5))) (keep := _) ?_ ?_
          · intro d x H8 hd s8 t8
            obtain ⟨n, hn, rfl⟩ := List.mem_map.mp hd
            cases tp_num t8
            refine ⟨_, gb_name, rfl, et_yes, fun z hz => ?_⟩
            have hz : D.num (W / n) = z := by simpa using hz
            subst hz
            obtain ⟨a, b⟩ := n0 n hn
            apply ev_opIC (g := fun i j => i / j)
            · trivial
            · trivial
            · exact wide_div (b := 151) a (by omega) (by decide) (by decide)
          · rw [List.length_map]; exact small_len (m := 12) (by omega) (by omega)
        refine evt H5 (Same.refl _) _ fun vr H9 s9 t9 => q vr _ H9 (Same.trans s02 (Same.trans s3 (Same.trans s5 s9))) t9 (.inr ⟨MF.lnOf ns, W, ns.map fun n => W / n, rfl, F, w0, fun d hd => w1 _ (List.mem_map.mpr ⟨d, hd, rfl⟩), fun T hT => w2 T fun n hn => ?_, fun h1 => ?_, fun r r0 r1 => ?_⟩)
        · obtain ⟨d, hd, rfl⟩ := List.mem_map.mp hn
          exact hT d hd
        · rw [one h1]; rfl
        · obtain ⟨_, _, l3⟩ := lnb r r0 r1
          rw [List.getElem?_map, l3]; rfl
      · apply et_test (C := C)
        exact ev_isN (C := C) (d := .tup (ns.map D.num)) (ev_var rfl tl2)
end
end Kw

set_option Elab.async false
set_option linter.all false
set_option maxRecDepth 100000
set_option maxHeartbeats 4000000
/-! Doors that fit, drawn. -/
namespace Kw
open PySem PySem.Spec PyProof.Rows L2 Y StX
local macro_rules | `(tactic| trivial) => `(tactic| first
  | with_reducible exact ev_int
  | with_reducible exact ev_bl
  | with_reducible exact ev_non
  | with_reducible exact ea_nil
  | with_reducible exact et_yes
  | ((with_reducible apply ev_var); exact rfl; first | exact .num _ | exact .bl _ | exact .non | assumption)
  | ((with_reducible apply ea_cons); trivial; trivial)
  | ((with_reducible apply ev_tup); trivial; first | decide | (show _ ≤ sizeLine; simp; decide))
  | ((with_reducible apply ev_ix0); trivial; trivial; exact rfl)
  | ((with_reducible apply ev_ix1); trivial; trivial; exact rfl)
  | ((with_reducible apply ev_ix2); trivial; trivial; exact rfl)
  | ((with_reducible apply ev_ix3); trivial; trivial; exact rfl)
  | ((with_reducible apply ev_opI); trivial; trivial)
  | ((with_reducible apply ev_opB); trivial; trivial)
  | ((with_reducible apply ev_eqI); trivial; trivial)
  | ((with_reducible apply ev_neI); trivial; trivial)
  | ((with_reducible apply ev_un); trivial)
  | ((with_reducible apply ev_chain); trivial; trivial; trivial)
  | ((with_reducible apply ev_abs); trivial)
  | ((with_reducible apply ev_intI); trivial)
  | ((with_reducible apply ev_gcd); trivial; trivial)
  | ((with_reducible apply ev_lenT); trivial)
  | ((with_reducible apply et_test); trivial)
  | ((with_reducible apply et_B); trivial)
  | ((with_reducible apply et_not); trivial)
  | ((with_reducible apply et_and); trivial; (intro _; trivial))
  | ((with_reducible apply et_or); trivial; (intro _; trivial))
  | ((with_reducible apply ev_andV); trivial; (intro _; trivial))
  | ((with_reducible apply ev_orV); trivial; (intro _; trivial))
  | ((with_reducible apply ev_notV); trivial)
  | ((with_reducible apply ev_isN); trivial)
  | ((with_reducible apply ev_notN); trivial)
  | ((with_reducible apply ev_isiII); trivial)
  | ((with_reducible apply ev_isiIB); trivial)
  | ((with_reducible apply ev_isiTT); trivial)
  | ((with_reducible apply ev_isH); trivial))
theorem lcmL_two {a b : Int} (ha : 0 < a) (hb : 0 < b) : MF.lcmL [a, b] = MF.lcmI a b := by
  have e1 : MF.aux a = a := by unfold MF.aux; omega
  have e2 : MF.aux b = b := by unfold MF.aux; omega
  have g1 : MF.gcdI 1 a = 1 := by unfold MF.gcdI; rw [show (1 : Int).natAbs = 1 from rfl, Nat.gcd_one_left]; rfl
  show ((1 * MF.aux a).fdiv (MF.gcdI 1 a) * MF.aux b).fdiv (MF.gcdI ((1 * MF.aux a).fdiv (MF.gcdI 1 a)) b) = _
  rw [g1, e1, e2, Int.one_mul, Int.fdiv_one]
  rfl
theorem pick_ints {C : Addr} {as : TA} {σ : L2.St} {H : Hp} {ns : List Int} {p g c : Addr} {n i : Nat} {Q : VK} (hv : σ[i]? = some (some (.ref p))) (h : EvA C as σ H (ns.map D.num)) (sa : SA H p g c (n + 1)) (l0 : 0 < ns.length) (l1 : ns.length < 100)
    (q : ∀ x ∈ ns, ∀ H', But2 p g H H' → SA H' p g c n → Q (.int x) H') : tCall sp__law_pick [] E0 (tCons (tVar i) (tCons (tLst as) tNil)) σ H Q := by
  refine ⟨_, hv, h H (Same.refl _) _ fun vs H2 s2 t => ?_⟩
  have ev := nums_of t
  subst ev
  refine ⟨by rw [List.length_map]; exact small_len (m := 100) (by omega) (by omega), fun a ha => ?_⟩
  have sn : Same H2 (upd H2 a (.lst (ns.map V.int))) := Same.new ha
  have s02 := Same.trans s2 sn
  refine ⟨p, g, c, n, a, ns.map V.int, rfl, sa.same s02, upd_same, fun z => (sa.same s2).sp (by rw [← z]; exact ha), fun z => (sa.same s2).sg (by rw [← z]; exact ha), ⟨by rw [List.length_map]; exact l0, by rw [List.length_map]; omega⟩, fun j x H3 hx b3 sa3 => ?_⟩
  rw [List.getElem?_map] at hx
  obtain ⟨k, h1, rfl⟩ := Option.map_eq_some_iff.mp hx
  exact q k (List.mem_of_getElem? h1) H3 (But2.trans (Same.but2 s02) b3) sa3
section
variable {P : Program} {w : World} {K : PySem.W.Frag} {mg : Str → Option Value} {base : Heap} {C : Addr}
theorem sc__law_multiple : FnScope ["several", "found", "item"] ["several"] (defScope s__law_multiple) := ⟨rfl, rfl, rfl, by decide +kernel, rfl, by decide +kernel, by decide +kernel⟩
abbrev sp__law_multiple : Sp := pSp (fun (ns : List Int) vs H => (∃ v, vs = [v] ∧ IL ns H v) ∧ ∃ b, 0 < b ∧ LC b ns) (fun ns H v => v = .int (MF.lcmL ns))
theorem ok__law_multiple (F : Df K mg "_law_multiple" s__law_multiple) (B : Bi K mg C) (h__law_common : Cl P w K mg base "_law_common" 1 ["one", "other"] (sp__law_common C)) : Cl P w K mg base "_law_multiple" 2 ["several"] sp__law_multiple := by
  refine F.cl sc__law_multiple (fun _ _ _ _ _ _ us hl => match us, hl with | [_], _ => rfl) (fun vs H Q E h => ?_) (fun f cdv A outer s H vs Q E hr h => ?_)
  · obtain ⟨i, ⟨⟨v, rfl, _⟩, _⟩, _⟩ := h; rfl
  · obtain ⟨ns, ⟨⟨v, rfl, a, rfl, ha⟩, b, b0, lc⟩, q⟩ := h
    refine ⟨_, (pss_cons (ps_set (i := 1) sc__law_multiple.nd rfl (by first | exact Or.inl rfl | exact Or.inr rfl) pe_int)
      (pss_cons (ps_for PassesOwn.never rfl (pi_list (pv 0)) (pg_name (i := 2) sc__law_multiple.nd rfl (by first | exact Or.inl rfl | exact Or.inr rfl)) (pss_one (ps_set (i := 1) sc__law_multiple.nd rfl (by first | exact Or.inl rfl | exact Or.inr rfl) (pe_op op_fdivW (pe_op op_mulW (pv 1) (pe_callB call_abs (by rfl) B.abs (by decide +kernel) (pa_cons (pv 2) pa_nil))) (pe_cl h__law_common (hr.mono (by decide)) (by rfl) (pa_cons (pv 1) (pa_cons (pv 2) pa_nil)))))))
      (pss_one (ps_ret (pv 1))))), ?_⟩
    apply st_set (C := C) (d := .num 1)
    · trivial
    intro vf H1 s1 tf
    cases tp_num tf
    have ha1 := s1 _ _ ha
    refine st_for (C := C) (wi := _) (ei_at (C := C) (ds := ns.map D.num) (evv_var rfl) ha1 (of_nums C _ ns)) (fun G i σ' H' => ∃ x, σ' = [some (.ref a), some (.int (MF.lcmL (ns.take i))), x] ∧ Same G H') ?_ ?_ ?_ ?_
    · intro G sG
      exact ⟨none, rfl, Same.refl _⟩
    · rintro G i σ' H' sG ⟨x, rfl, s⟩
      exact ⟨Same.stay s, fun b o _ e => s b o e⟩
    · rintro G i d x σ' H' sG hi ⟨y, rfl, s⟩ tx
      obtain ⟨n, hn, rfl⟩ := map_item hi
      cases tp_num tx
      refine ⟨_, gb_name, ?_⟩
      have hm := List.mem_of_getElem? hn
      have il : i < ns.length := (List.getElem?_eq_some_iff.mp hn).1
      have tk : ns.take (i + 1) = ns.take i ++ [n] := by rw [List.take_add_one, hn]; rfl
      obtain ⟨l0, _, _, l3⟩ := MF.lcmL_ok (ns.take i) (fun m hm => lc.n0 m (List.mem_of_mem_take hm))
      have l4 := l3 b fun m hm => lc.nb m (List.mem_of_mem_take hm)
      have n0 := lc.n0 n hm
      have nb := lc.nb n hm
      rw [tk, MF.lcmL_snoc]
      have lb : (MF.lcmL (ns.take i)).natAbs < 2 ^ 8901 := by
        have h1 : b * (ns.take i).length ≤ 8900 := Nat.le_trans (Nat.mul_le_mul_left b (by rw [List.length_take]; omega)) lc.le
        have h2 : (2 : Nat) ^ (b * (ns.take i).length) ≤ 2 ^ 8900 := Nat.pow_le_pow_right (by decide) h1
        have h3 : ((MF.lcmL (ns.take i)).natAbs : Int) ≤ ((2 ^ (b * (ns.take i).length) : Nat) : Int) := by push_cast; omega
        have h4 : (MF.lcmL (ns.take i)).natAbs ≤ 2 ^ (b * (ns.take i).length) := Int.ofNat_le.mp h3
        have h5 : (2 : Nat) ^ 8900 < 2 ^ 8901 := Nat.pow_lt_pow_right (by decide) (by decide)
        omega
      generalize MF.lcmL (ns.take i) = fo at l0 lb ⊢
      have g0 := MF.gcdI_pos (b := n) (show fo ≠ 0 by omega)
      have g1 := gcdI_le (a := fo) n0
      have b89 : b ≤ 8900 := Nat.le_trans (Nat.le_mul_of_pos_right b (by omega)) lc.le
      have ev : EvD C (tOp (rI CDivW fun i j => .int (i / j)) (tOp (rI CMulW fun i j => .int (i * j)) (tVar 1) (tCB (fun xs H Q => ∃ i, xs = [.int i] ∧ Q (.int (if i < 0 then -i else i)) H) (tCons (tVar 2) tNil))) (tCall (sp__law_common C) [] E0 (tCons (tVar 1) (tCons (tVar 2) tNil)))) ([some (.ref a), some (.int fo), y].set 2 (some (.int n))) H' (.num ((fo * MF.aux n).fdiv (MF.gcdI fo n))) := by
        rw [Int.fdiv_eq_ediv_of_nonneg _ (show 0 ≤ MF.gcdI fo n by omega)]
        apply ev_opIC (g := fun i j => i / j)
        · rw [← aux_if]
          apply ev_opIC (g := fun i j => i * j)
          · trivial
          · trivial
          · exact wide_mul (a := 8901) (b := b) lb (by rw [aux_if]; unfold MF.aux; omega) (by decide) b0 (by omega)
        · exact ev_fn (fo, n) (ea_cons (by trivial) (ea_cons (by trivial) ea_nil)) rfl True.intro
        · exact wide_div (b := b) g0 (by unfold MF.aux at g1; omega) b0 (by omega)
      refine ev H' (Same.refl _) _ fun v3 H3 s3 t3 => ?_
      cases tp_num t3
      exact ⟨_, rfl, Same.trans s s3⟩
    · rintro G σ' H' sG ⟨x, rfl, s⟩
      rw [List.length_map, List.take_length]
      exact ⟨_, rfl, q _ H' (Same.trans s1 (Same.trans sG s)) rfl⟩
theorem sc__law_fitting_doors : FnScope ["state", "rooms_here", "more", "lengths_here", "room_here", "pairs_here", "turn", "found", "near", "far", "whole_here", "first", "second"] ["state", "rooms_here", "more"] (defScope s__law_fitting_doors) := ⟨rfl, rfl, rfl, by decide +kernel, rfl, by decide +kernel, by decide +kernel⟩
def pairD (p : Int × Int) : D := .tup [.num p.1, .num p.2]
theorem upd_sa {H : Hp} {p g c a : Addr} {m : Nat} {o : HO} (sa : SA H p g c m) (ap : a ≠ p) (ag : a ≠ g) (ac : a ≠ c) : SA (upd H a o) p g c m := by
  obtain ⟨gs, cs, l, t, e1, e2, e3, r⟩ := sa
  exact ⟨gs, cs, l, t, by rw [upd_ne (Ne.symm ap)]; exact e1, by rw [upd_ne (Ne.symm ag)]; exact e2, by rw [upd_ne (Ne.symm ac)]; exact e3, r⟩
theorem But3.stay {H H' : Hp} {p g c a : Addr} {m : Nat} (sa : SA H p g c m) (na : ∀ o, H a = some o → ¬ Imm o) (b : But3 p g a H H') : Stay H H' := fun z o ez iz =>
  b z o (fun y => sa.np o (by rw [← y]; exact ez) iz) (fun y => sa.ng o (by rw [← y]; exact ez) iz) (fun y => na o (by rw [← y]; exact ez) iz) ez
theorem But3.of2 {H H' : Hp} {p g a : Addr} (b : But2 p g H H') : But3 p g a H H' := fun z o zp zg _ ez => b z o zp zg ez
theorem But3.trans {H H1 H' : Hp} {p g a : Addr} (b : But3 p g a H H1) (b' : But3 p g a H1 H') : But3 p g a H H' := fun z o zp zg za ez => b' z o zp zg za (b z o zp zg za ez)
theorem But3.upd {H H1 : Hp} {p g a : Addr} {o : HO} (b : But3 p g a H H1) : But3 p g a H (L2.upd H1 a o) := fun z o zp zg za ez => by rw [upd_ne za]; exact b z o zp zg za ez
/-- a and what is not there change -/
theorem But3.to2 {H H1 : Hp} {p g a : Addr} (b : But3 p g a H H1) (n : H a = none) : But2 p g H H1 := fun z o zp zg ez => b z o zp zg (ne_of_none ez n) ez
theorem sh_pairs (ps : List (Int × Int)) : ∀ l : List D, (∀ d ∈ l, d ∈ ps.map pairD) → flatA l = true ∧ SeqAt.shaped (.list (pyA l)) = true := by
  intro l hl
  obtain ⟨qs, rfl⟩ : ∃ qs : List (Int × Int), l = qs.map pairD := by
    induction l with
    | nil => exact ⟨[], rfl⟩
    | cons x l ih =>
      obtain ⟨qs, e⟩ := ih fun d hd => hl d (by simp [hd])
      obtain ⟨d, _, e2⟩ := List.mem_map.mp (hl x (by simp))
      exact ⟨d :: qs, by rw [List.map_cons, e, e2]⟩
  have h1 : ∀ qs : List (Int × Int), flatA (qs.map pairD) = true := by
    intro qs
    induction qs with
    | nil => rfl
    | cons q qs ih => simp [flatA, flat, pairD, ih]
  have h2 : ∀ qs : List (Int × Int), PyData.canLayAll0 (pyA (qs.map pairD)) = true ∧ PyData.depthAll (pyA (qs.map pairD)) ≤ 1 := by
    intro qs
    induction qs with
    | nil => simp [pyA, PyData.canLayAll0, PyData.depthAll]
    | cons q qs ih =>
      simp [pyA, py, pairD, PyData.canLayAll0, PyData.canLay0, PyData.depthAll, PyData.depth, ih.1]
      have := ih.2
      omega
  refine ⟨h1 qs, ?_⟩
  obtain ⟨a, b⟩ := h2 qs
  simp [SeqAt.shaped, PyData.canLay0, PyData.depth, a]
  omega
/-- pairs of rooms drawn so far -/
structure PG (rooms k : Int) (ps : List (Int × Int)) : Prop where
  ok : ∀ p ∈ ps, (0 ≤ p.1 ∧ p.1 < rooms) ∧ (0 ≤ p.2 ∧ p.2 < rooms)
  con : ∀ r : Int, 1 ≤ r → r < k → ∃ p ∈ ps, p.2 = r ∧ 0 ≤ p.1 ∧ p.1 < r
theorem PG.nil (rooms : Int) : PG rooms 1 [] := ⟨(fun d h => nomatch h), fun r h1 h2 => by omega⟩
theorem PG.snoc {rooms k : Int} {ps : List (Int × Int)} (h : PG rooms k ps) {a b : Int} (ha : 0 ≤ a ∧ a < rooms) (hb : 0 ≤ b ∧ b < rooms) : PG rooms k (ps ++ [(a, b)]) := by
  refine ⟨fun d hd => ?_, fun r h1 h2 => ?_⟩
  · rcases List.mem_append.mp hd with hd | hd
    · exact h.ok d hd
    · have : d = (a, b) := by simpa using hd
      subst this; exact ⟨ha, hb⟩
  · obtain ⟨e, he, r⟩ := h.con r h1 h2
    exact ⟨e, List.mem_append_left _ he, r⟩
theorem PG.snoc2 {rooms k : Int} {ps : List (Int × Int)} (h : PG rooms k ps) {a : Int} (ha : 0 ≤ a ∧ a < k) (k0 : 0 ≤ k) (hk : k < rooms) : PG rooms (k + 1) (ps ++ [(a, k)]) := by
  refine ⟨(h.snoc ⟨ha.1, by omega⟩ ⟨k0, hk⟩).ok, fun r h1 h2 => ?_⟩
  by_cases hr : r = k
  · subst hr
    exact ⟨(a, r), List.mem_append_right _ (by simp), rfl, ha.1, ha.2⟩
  · obtain ⟨e, he, r⟩ := h.con r h1 (by omega)
    exact ⟨e, List.mem_append_left _ he, r⟩
theorem PG.perm {rooms k : Int} {ps qs : List (Int × Int)} (h : PG rooms k ps) (r : qs.Perm ps) : PG rooms k qs := by
  refine ⟨fun p hp => h.ok p (r.mem_iff.mp hp), fun x h1 h2 => ?_⟩
  obtain ⟨p, hp, e⟩ := h.con x h1 h2
  exact ⟨p, r.mem_iff.mpr hp, e⟩
/-- doors made of pairs -/
def DP (ls : List Int) (p : Int × Int) (d : Door) : Prop := d.1 = p.1 ∧ d.2.2.1 = p.2 ∧ (d.2.1 ≠ 0 ∧ d.2.1.natAbs ≤ 999) ∧ (d.2.2.2 ≠ 0 ∧ d.2.2.2.natAbs ≤ 999) ∧ MF.aux d.2.1 * MF.lnOf ls p.1 = MF.aux d.2.2.2 * MF.lnOf ls p.2
theorem PG.doors {rooms : Int} {ps : List (Int × Int)} (h : PG rooms rooms ps) (r1 : 1 ≤ rooms) (r12 : rooms ≤ 12) {ls : List Int} {ds : List Door} (r : Paired (DP ls) ps ds) (hl : ds.length ≤ 20) : HOk rooms ds := by
  obtain ⟨m1, m2⟩ := paired_mem r
  refine ⟨r1, r12, hl, fun d hd => ?_, fun x h1 h2 => ?_⟩
  · obtain ⟨p, hp, e1, e2, ⟨a0, a1⟩, ⟨b0, b1⟩, _⟩ := m2 d hd
    obtain ⟨x, y⟩ := h.ok p hp
    refine ⟨by rw [e1]; exact x, by rw [e2]; exact y, ⟨a0, by omega, by omega⟩, ⟨b0, by omega, by omega⟩⟩
  · obtain ⟨p, hp, e, f1, f2⟩ := h.con x h1 h2
    obtain ⟨d, hd, e1, e2, _⟩ := m1 p hp
    exact ⟨(d.1, d.2.2.1), List.mem_flatMap.mpr ⟨d, hd, by simp⟩, by show d.2.2.1 = x; rw [e2, e], by show 0 ≤ d.1; rw [e1]; exact f1, by show d.1 < x; rw [e1]; exact f2⟩
theorem DP.fits {ls : List Int} {ps : List (Int × Int)} {ds : List Door} (r : Paired (DP ls) ps ds) : MF.FitsD ds ls := by
  intro d hd
  obtain ⟨p, _, e1, e2, _, _, e⟩ := (paired_mem r).2 d hd
  rw [e1, e2]; exact e
theorem DP_fit {a b k s s' : Int} (ha : 1 ≤ a ∧ a ≤ 6) (hb : 1 ≤ b ∧ b ≤ 6) (hs : s = 1 ∨ s = -1) (hs' : s' = 1 ∨ s' = -1) (hk : 1 ≤ k) : MF.aux ((MF.lcmI a b * k).fdiv a * s) * a = MF.aux ((MF.lcmI a b * k).fdiv b * s') * b := by
  obtain ⟨l0, l1, l2, _⟩ := MF.lcm_step (a := a) (b := b) (by omega) (by omega)
  have l0 : 0 < MF.lcmI a b := l0
  have l1 : a ∣ MF.lcmI a b := l1
  have l2 : b ∣ MF.lcmI a b := l2
  generalize MF.lcmI a b = L at *
  have key : ∀ x s : Int, 1 ≤ x → x ∣ L → (s = 1 ∨ s = -1) → MF.aux ((L * k).fdiv x * s) * x = L * k := by
    intro x s x1 hx hs
    obtain ⟨y, hy⟩ := Int.dvd_trans hx (Int.dvd_mul_right L k)
    have e : (L * k).fdiv x = y := by rw [hy]; exact Int.mul_fdiv_cancel_left _ (by omega)
    have y0 : 0 ≤ y := by
      have : 0 < x * y := by rw [← hy]; exact Int.mul_pos l0 (by omega)
      exact Int.le_of_lt (Int.pos_of_mul_pos_right this (by omega))
    have ea : MF.aux (y * s) = y := by
      rw [MF.aux_mul]
      have h1 : MF.aux y = y := by unfold MF.aux; omega
      have h2 : MF.aux s = 1 := by unfold MF.aux; omega
      rw [h1, h2, Int.mul_one]
    rw [e, ea, hy, Int.mul_comm]
  rw [key a s ha.1 l1 hs, key b s' hb.1 l2 hs']
/-- the numbers of a door over a whole of two lengths -/
theorem DP_num {a b k s : Int} (ha : 1 ≤ a ∧ a ≤ 6) (hb : 1 ≤ b ∧ b ≤ 6) (hk : 1 ≤ k ∧ k ≤ 5) (hs : s = 1 ∨ s = -1) : (MF.lcmI a b * k).fdiv a * s ≠ 0 ∧ ((MF.lcmI a b * k).fdiv a * s).natAbs ≤ 999 ∧ (MF.lcmI a b * k).fdiv b * s ≠ 0 ∧ ((MF.lcmI a b * k).fdiv b * s).natAbs ≤ 999 := by
  obtain ⟨l0, l1, l2, l3⟩ := MF.lcm_step (a := a) (b := b) (by omega) (by omega)
  have l4 : MF.lcmI a b ≤ a * b := Int.le_of_dvd (Int.mul_pos (by omega) (by omega)) (l3 _ (Int.dvd_mul_right _ _) (Int.dvd_mul_left _ _))
  have l5 : a * b ≤ 36 := by
    have := Int.mul_le_mul ha.2 hb.2 (by omega) (by decide)
    omega
  have l0 : 0 < MF.lcmI a b := l0
  have l1 : a ∣ MF.lcmI a b := l1
  have l2 : b ∣ MF.lcmI a b := l2
  generalize MF.lcmI a b = L at *
  have p0 : 0 < L * k := Int.mul_pos l0 (by omega)
  have p1 : L * k ≤ 180 := by
    have := Int.mul_le_mul (show L ≤ 36 by omega) hk.2 (by omega) (by decide)
    omega
  have key : ∀ x : Int, 1 ≤ x → x ∣ L → (L * k).fdiv x * s ≠ 0 ∧ ((L * k).fdiv x * s).natAbs ≤ 999 := by
    intro x x1 hx
    rw [Int.fdiv_eq_ediv_of_nonneg _ (by omega)]
    have d0 : 0 < L * k / x := Int.ediv_pos_of_pos_of_dvd p0 (by omega) (Int.dvd_trans hx (Int.dvd_mul_right _ _))
    have d1 : L * k / x ≤ L * k := Int.ediv_le_self _ (by omega)
    generalize L * k / x = y at *
    rcases hs with rfl | rfl
    · rw [Int.mul_one]; omega
    · rw [Int.mul_neg, Int.mul_one]; omega
  obtain ⟨k1, k2⟩ := key a ha.1 l1
  obtain ⟨k3, k4⟩ := key b hb.1 l2
  exact ⟨k1, k2, k3, k4⟩
abbrev sp__law_fitting_doors (C : Addr) : Sp := fun vs H Q _ => ∃ (p g c : Addr) (n : Nat) (rooms more : Int), vs = [.ref p, .int rooms, .int more] ∧ SA H p g c (n + 200) ∧ (1 ≤ rooms ∧ rooms ≤ 7) ∧ (0 ≤ more ∧ more ≤ 4) ∧
  ∀ v ds (ls : List Int) H', But2 p g H H' → SA H' p g c n → Tp C H' v (.tup [.tup (ds.map doorD), .tup (ls.map D.num)]) → HOk rooms ds → (rooms - 1 ≤ ((ds.length : Nat) : Int) ∧ ((ds.length : Nat) : Int) ≤ rooms - 1 + more) → (∃ ln, MF.Fit rooms ds ln) → Q v H'
theorem ok__law_fitting_doors (F : Df K mg "_law_fitting_doors" s__law_fitting_doors) (B : Bi K mg C) (h__law_draw : Cl P w K mg base "_law_draw" 2 ["state", "size_here"] sp__law_draw) (h__law_pick : Cl P w K mg base "_law_pick" 3 ["state", "several"] sp__law_pick) (h__law_mixed : Cl P w K mg base "_law_mixed" 3 ["state", "several"] (sp__law_mixed C)) (h__law_multiple : Cl P w K mg base "_law_multiple" 2 ["several"] sp__law_multiple) : Cl P w K mg base "_law_fitting_doors" 5 ["state", "rooms_here", "more"] (sp__law_fitting_doors C) := by
  refine F.cl sc__law_fitting_doors (fun _ _ _ _ _ _ us hl => match us, hl with | [_, _, _], _ => rfl) (fun vs H Q E h => ?_) (fun f cdv A outer s H vs Q E hr h => ?_)
  · obtain ⟨p, g, c, n, rooms, more, rfl, _⟩ := h; rfl
  · obtain ⟨p, g, c, n, rooms, more, rfl, sa, ⟨r1, r3⟩, ⟨m0, m2⟩, q⟩ := h
    refine ⟨_, (pss_cons (ps_setLc (i := 3) (own := [("room_here", 4)]) (tt := tYes)  rfl sc__law_fitting_doors.nd rfl rfl (sw_true rfl rfl rfl (by decide +kernel)) (pi_range1 (by rfl) B.range (pa_cons (pv 1) pa_nil)) (blkOk_by (own := [("room_here", 4)]) (N := ["state", "rooms_here", "more", "lengths_here", "room_here", "pairs_here", "turn", "found", "near", "far", "whole_here", "first", "second"]) (sc := defScope s__law_fitting_doors) (by decide +kernel)) (fun _ _ _ _ _ => (pg_name (i := 4) sc__law_fitting_doors.nd rfl (by first | exact Or.inl rfl | exact Or.inr rfl))) (fun _ _ _ _ _ => pts_nil) (fun _ _ _ _ _ => (pe_cl h__law_pick (hr.mono (by decide)) (by rfl) (pa_cons (pv 0) (pa_cons (pe_lst (pa_cons pe_int (pa_cons pe_int (pa_cons pe_int (pa_cons pe_int (pa_cons pe_int (pa_cons pe_int (pa_cons pe_int pa_nil)))))))) pa_nil)))))
      (pss_cons (ps_setLc (i := 5) (own := [("room_here", 4)]) (tt := tYes)  rfl sc__law_fitting_doors.nd rfl rfl (sw_true rfl rfl rfl (by decide +kernel)) (pi_range2 (by rfl) B.range (pa_cons pe_int (pa_cons (pv 1) pa_nil))) (blkOk_by (own := [("room_here", 4)]) (N := ["state", "rooms_here", "more", "lengths_here", "room_here", "pairs_here", "turn", "found", "near", "far", "whole_here", "first", "second"]) (sc := defScope s__law_fitting_doors) (by decide +kernel)) (fun _ _ _ _ _ => (pg_name (i := 4) sc__law_fitting_doors.nd rfl (by first | exact Or.inl rfl | exact Or.inr rfl))) (fun _ _ _ _ _ => pts_nil) (fun _ _ _ _ _ => (pe_tup (pa_cons (pe_cl h__law_draw (hr.mono (by decide)) (by rfl) (pa_cons (pv 0) (pa_cons (pv 4) pa_nil))) (pa_cons (pv 4) pa_nil)))))
      (pss_cons (ps_for PassesOwn.never rfl (pi_range1 (by rfl) B.range (pa_cons (pe_cl h__law_draw (hr.mono (by decide)) (by rfl) (pa_cons (pv 0) (pa_cons (pe_op op_add (pv 2) pe_int) pa_nil))) pa_nil)) (pg_name (i := 6) sc__law_fitting_doors.nd rfl (by first | exact Or.inl rfl | exact Or.inr rfl)) (pss_one (ps_expr (pe_bm PySem.F.plainAttrs_list PySem.F.slot_list_append PySem.F.type_list_append mt_append (pv 5) (pa_cons (pe_tup (pa_cons (pe_cl h__law_draw (hr.mono (by decide)) (by rfl) (pa_cons (pv 0) (pa_cons (pv 1) pa_nil))) (pa_cons (pe_cl h__law_draw (hr.mono (by decide)) (by rfl) (pa_cons (pv 0) (pa_cons (pv 1) pa_nil))) pa_nil))) pa_nil)))))
      (pss_cons (ps_set (i := 7) sc__law_fitting_doors.nd rfl (by first | exact Or.inl rfl | exact Or.inr rfl) (pe_lst pa_nil))
      (pss_cons (ps_for PassesOwn.never rfl (pi_list (pe_cl h__law_mixed (hr.mono (by decide)) (by rfl) (pa_cons (pv 0) (pa_cons (pv 5) pa_nil)))) (pg_tup (by rfl) (pgs_cons (pg_name (i := 8) sc__law_fitting_doors.nd rfl (by first | exact Or.inl rfl | exact Or.inr rfl)) (pgs_cons (pg_name (i := 9) sc__law_fitting_doors.nd rfl (by first | exact Or.inl rfl | exact Or.inr rfl)) pgs_nil))) (pss_cons (ps_set (i := 10) sc__law_fitting_doors.nd rfl (by first | exact Or.inl rfl | exact Or.inr rfl) (pe_op op_mul (pe_cl h__law_multiple (hr.mono (by decide)) (by rfl) (pa_cons (pe_lst (pa_cons (pe_ix ix_list (pv 3) (pv 8) (fun _ _ => rfl)) (pa_cons (pe_ix ix_list (pv 3) (pv 9) (fun _ _ => rfl)) pa_nil))) pa_nil)) (pe_cl h__law_pick (hr.mono (by decide)) (by rfl) (pa_cons (pv 0) (pa_cons (pe_lst (pa_cons pe_int (pa_cons pe_int (pa_cons pe_int (pa_cons pe_int (pa_cons pe_int pa_nil)))))) pa_nil)))))
      (pss_cons (ps_set (i := 11) sc__law_fitting_doors.nd rfl (by first | exact Or.inl rfl | exact Or.inr rfl) (pe_op op_mul (pe_op op_fdivN (pv 10) (pe_ix ix_list (pv 3) (pv 8) (fun _ _ => rfl))) (pe_cl h__law_pick (hr.mono (by decide)) (by rfl) (pa_cons (pv 0) (pa_cons (pe_lst (pa_cons pe_int (pa_cons pe_int (pa_cons (pe_un un_neg pe_int) pa_nil)))) pa_nil)))))
      (pss_cons (ps_set (i := 12) sc__law_fitting_doors.nd rfl (by first | exact Or.inl rfl | exact Or.inr rfl) (pe_op op_mul (pe_op op_fdivN (pv 10) (pe_ix ix_list (pv 3) (pv 9) (fun _ _ => rfl))) (pe_cl h__law_pick (hr.mono (by decide)) (by rfl) (pa_cons (pv 0) (pa_cons (pe_lst (pa_cons pe_int (pa_cons pe_int (pa_cons (pe_un un_neg pe_int) pa_nil)))) pa_nil)))))
      (pss_one (ps_expr (pe_bm PySem.F.plainAttrs_list PySem.F.slot_list_append PySem.F.type_list_append mt_append (pv 7) (pa_cons (pe_tup (pa_cons (pv 8) (pa_cons (pv 11) (pa_cons (pv 9) (pa_cons (pv 12) pa_nil))))) pa_nil))))))))
      (pss_one (ps_ret (pe_tup (pa_cons (pe_callTy call_tuple_of (by rfl) B.tuple (by decide +kernel) (pa_cons (pv 7) pa_nil)) (pa_cons (pe_callTy call_tuple_of (by rfl) B.tuple (by decide +kernel) (pa_cons (pv 3) pa_nil)) pa_nil)))))))))), ?_⟩
    -- lengths
    refine st_lcg ?_
    refine lc_gen2 (C := C) (H := H) (ds := (List.range rooms.toNat).map fun k => D.num ((k : Nat) : Int)) (Fk := []) (ei_rng1 (n := rooms.toNat) (C := C) ?_ (by omega)) (fun G D i xs H' => But2 p g H H' ∧ SA H' p g c (n + 200 - i) ∧ But3 p g D G H' ∧ H' D = some (.lst xs) ∧ xs.length = i ∧ ∃ ns : List Int, xs = ns.map V.int ∧ ∀ x ∈ ns, 1 ≤ x ∧ x ≤ 6) ?_ ?_ ?_ ?_ ?_
    · rw [show ((rooms.toNat : Nat) : Int) = rooms by omega]
      trivial
    · intro G D sG hD
      exact ⟨Same.but2 (Same.newer sG hD), (sa.same sG).same (Same.new hD), fun z o _ _ zD ez => by rw [upd_ne zD]; exact ez, upd_same, rfl, [], rfl, fun x hx => nomatch hx⟩
    · rintro G D i xs H' sG hD ⟨j1, j2, j3, j4, j5, _⟩
      have sG4 := sa.same sG
      refine ⟨But3.stay sG4 (fun o e => by rw [hD] at e; cases e) j3, fun z o hz ez => j3 z o (fun y => ?_) (fun y => ?_) (fun y => by rw [y, hD] at ez; cases ez) ez, j4, j5⟩
      · rcases hz with hz | hz
        · exact sa.sp (y ▸ hz)
        · exact nomatch hz
      · rcases hz with hz | hz
        · exact sa.sg (y ▸ hz)
        · exact nomatch hz
    · rintro G D i xs d x H' sG hD hi ⟨j1, j2, j3, j4, j5, ns, rfl, hns⟩ tx
      obtain ⟨hi2, rfl⟩ := rng_item hi
      cases tp_num tx
      refine ⟨_, gb_name, rfl, fun R hR => ?_⟩
      have Dp : D ≠ p := fun z => (sa.same sG).sp (by rw [← z]; exact hD)
      have Dg : D ≠ g := fun z => (sa.same sG).sg (by rw [← z]; exact hD)
      have Dc : D ≠ c := fun z => (sa.same sG).sc (by rw [← z]; exact hD)
      have hDH : H D = none := by
        cases hh : H D with
        | none => rfl
        | some o => rw [sG _ _ hh] at hD; cases hD
      refine pick_ints (C := C) (ns := [1, 2, 3, 4, 6, 5, 1]) (p := p) (g := g) (c := c) (n := n + 200 - (i + 1)) rfl ?_ (j2.mono (by omega)) (by decide) (by decide) fun y hy H5 b5 sa5 => ?_
      · exact ea_cons ev_int (ea_cons ev_int (ea_cons ev_int (ea_cons ev_int (ea_cons ev_int (ea_cons ev_int (ea_cons ev_int ea_nil))))))
      · have e5 := b5 D _ Dp Dg j4
        refine hR (.int y) H5 e5 ⟨fun z o zp zg ez => ?_, upd_sa sa5 Dp Dg Dc, (But3.trans j3 (But3.of2 b5)).upd, upd_same, by simp [j5], ns ++ [y], by rw [List.map_append]; rfl, fun x hx => ?_⟩
        · rw [upd_ne (fun y => by rw [y, hDH] at ez; cases ez)]
          exact b5 z o zp zg (j1 z o zp zg ez)
        · rcases List.mem_append.mp hx with hx | hx
          · exact hns x hx
          · have : x = y := by simpa using hx
            subst this
            simp only [List.mem_cons, List.not_mem_nil, or_false] at hy
            rcases hy with rfl | rfl | rfl | rfl | rfl | rfl | rfl <;> decide
    · rw [List.length_map, List.length_range]; exact small_len (m := 7) (by omega) (by omega)
    rintro G L xs H1 sG hL ⟨b1, sa1, -, eL, xl, ls, rfl, hls⟩
    simp only [List.length_map, List.length_range] at xl sa1
    have hLH : H L = none := by
      cases hh : H L with
      | none => rfl
      | some o => rw [sG _ _ hh] at hL; cases hL
    have Lp : L ≠ p := fun z => sa.sp (by rw [← z]; exact hLH)
    have Lg : L ≠ g := fun z => sa.sg (by rw [← z]; exact hLH)
    clear sG hL
    have sa1 := sa1.mono (m := n + 190) (by omega)
    try dsimp only [L2.start, List.set, List.map, List.append, List.replicate, List.length]
    -- pairs
    refine st_lcg ?_
    refine lc_gen2 (C := C) (H := H1) (ds := (List.range (rooms - 1).toNat).map fun k => D.num (1 + ((k : Nat) : Int))) (Fk := []) (ei_rng2 (C := C) (i := 1) (j := rooms) ?_ (by omega) (by omega) (by omega) (by omega)) (fun G D i xs H' => But2 p g H1 H' ∧ SA H' p g c (n + 190 - i) ∧ But3 p g D G H' ∧ H' D = some (.lst xs) ∧ xs.length = i ∧ ∃ ps : List (Int × Int), TpA C H' xs (ps.map pairD) ∧ PG rooms (1 + i) ps) ?_ ?_ ?_ ?_ ?_
    · trivial
    · intro G D sG hD
      exact ⟨Same.but2 (Same.newer sG hD), (sa1.same sG).same (Same.new hD), fun z o _ _ zD ez => by rw [upd_ne zD]; exact ez, upd_same, rfl, [], .nil, PG.nil rooms⟩
    · rintro G D i xs H' sG hD ⟨j1, j2, j3, j4, j5, _⟩
      have sG4 := sa1.same sG
      refine ⟨But3.stay sG4 (fun o e => by rw [hD] at e; cases e) j3, fun z o hz ez => j3 z o (fun y => ?_) (fun y => ?_) (fun y => by rw [y, hD] at ez; cases ez) ez, j4, j5⟩
      · rcases hz with hz | hz
        · exact sa1.sp (y ▸ hz)
        · exact nomatch hz
      · rcases hz with hz | hz
        · exact sa1.sg (y ▸ hz)
        · exact nomatch hz
    · rintro G D i xs d x H' sG hD hi ⟨j1, j2, j3, j4, j5, ps, tps, pg⟩ tx
      obtain ⟨hi2, rfl⟩ := rng_item2 hi
      cases tp_num tx
      refine ⟨_, gb_name, rfl, fun R hR => ?_⟩
      have Dp : D ≠ p := fun z => (sa1.same sG).sp (by rw [← z]; exact hD)
      have Dg : D ≠ g := fun z => (sa1.same sG).sg (by rw [← z]; exact hD)
      have Dc : D ≠ c := fun z => (sa1.same sG).sc (by rw [← z]; exact hD)
      have hDH : H1 D = none := by
        cases hh : H1 D with
        | none => rfl
        | some o => rw [sG _ _ hh] at hD; cases hD
      refine ⟨_, rfl, _, rfl, p, g, c, n + 190 - (i + 1), _, rfl, j2.mono (by omega), ⟨by omega, by omega⟩, fun k H5 k0 k1 b5 sa5 => ⟨_, rfl, small_len (m := 2) (Nat.le_refl 2) (by omega), fun t ht => ?_⟩⟩
      have e5 := b5 D _ Dp Dg j4
      have sn : Same H5 (upd H5 t (.tup [.int k, .int (1 + (i : Int))])) := Same.new ht
      have tt : Tp C (upd H5 t (.tup [.int k, .int (1 + (i : Int))])) (.ref t) (pairD (k, 1 + (i : Int))) := .tup upd_same (.cons (.num _) (.cons (.num _) .nil))
      have st5 : Stay H' (upd H5 t (.tup [.int k, .int (1 + (i : Int))])) := Stay.trans (j2.stay b5) (Same.stay sn)
      have b6 : But2 p g H' (upd H5 t (.tup [.int k, .int (1 + (i : Int))])) := But2.trans b5 (Same.but2 sn)
      have sa6 := sa5.same sn
      have e6 := sn _ _ e5
      generalize upd H5 t (.tup [.int k, .int (1 + (i : Int))]) = H6 at tt st5 b6 sa6 e6 ⊢
      have st6 : Stay H6 (upd H6 D (.lst (xs ++ [.ref t]))) := But.stay (p := D) but_up (notImm_lst e6)
      refine hR (.ref t) H6 e6 ⟨fun z o zp zg ez => ?_, upd_sa sa6 Dp Dg Dc, (But3.trans j3 (But3.of2 b6)).upd, upd_same, by simp [j5], ps ++ [(k, 1 + (i : Int))], ?_, ?_⟩
      · rw [upd_ne (fun y => by rw [y, hDH] at ez; cases ez)]
        exact b6 z o zp zg (j1 z o zp zg ez)
      · rw [List.map_append]
        exact ((tps.stay st5).stay st6).append (.cons (tt.stay st6) .nil)
      · have := pg.snoc2 (a := k) ⟨k0, by omega⟩ (by omega) (by omega)
        rw [show ((i + 1 : Nat) : Int) = (i : Int) + 1 by omega, ← Int.add_assoc]
        exact this
    · rw [List.length_map, List.length_range]; exact small_len (m := 7) (by omega) (by omega)
    rintro G a xs H2 sG ha ⟨b2, sa2, -, ea, xl2, ps1, tps1, pg1⟩
    simp only [List.length_map, List.length_range] at xl2 sa2 pg1
    have pl1 : ps1.length = (rooms - 1).toNat := by rw [← xl2, tps1.length, List.length_map]
    have pg1 : PG rooms rooms ps1 := by
      have : (1 : Int) + ((rooms - 1).toNat : Int) = rooms := by omega
      rw [this] at pg1
      exact pg1
    have haH : H1 a = none := by
      cases hh : H1 a with
      | none => rfl
      | some o => rw [sG _ _ hh] at ha; cases ha
    have ap : a ≠ p := fun z => sa1.sp (by rw [← z]; exact haH)
    have ag : a ≠ g := fun z => sa1.sg (by rw [← z]; exact haH)
    have ac : a ≠ c := fun z => sa1.sc (by rw [← z]; exact haH)
    have La : L ≠ a := fun z => by rw [← z, eL] at haH; cases haH
    have eL2 := b2 L _ Lp Lg eL
    have sa2 := sa2.mono (m := n + 180) (by omega)
    have b02 := But2.trans b1 b2
    have haH0 : H a = none := by
      cases hh : H a with
      | none => rfl
      | some o => rw [b1 a o ap ag hh] at haH; cases haH
    clear sG ha b1 b2 sa1 eL
    try dsimp only [L2.start, List.set, List.map, List.append, List.replicate, List.length]
    -- more pairs
    refine ⟨_, rfl, _, rfl, more, 1, rfl, rfl, p, g, c, n + 179, more + 1, rfl, sa2.mono (by omega), ⟨by omega, by omega⟩, fun tn H3 tn0 tn1 b3 sa3 => ?_⟩
    have ea3 := b3 a _ ap ag ea
    have eL3 := b3 L _ Lp Lg eL2
    have tps3 := tps1.stay (sa2.stay b3)
    have b03 := But2.trans b02 b3
    refine ⟨tn, rfl, by omega, by omega, for_src (C := C) (src_rng 0 tn.toNat) (fun i σ' H' => ∃ x6 xs' ps, σ' = [some (.ref p), some (.int rooms), some (.int more), some (.ref L), none, some (.ref a), x6, none, none, none, none, none, none] ∧ But3 p g a H3 H' ∧ SA H' p g c (n + 179 - 2 * i) ∧ H' a = some (.lst xs') ∧ TpA C H' xs' (ps.map pairD) ∧ ps.length = (rooms - 1).toNat + i ∧ PG rooms rooms ps) ?_ ?_ ?_ ?_⟩
    · exact ⟨none, xs, ps1, rfl, fun _ _ _ _ _ h => h, sa3.mono (by omega), ea3, tps3, by omega, pg1⟩
    · rintro i σ' H' ⟨x6, xs', ps, rfl, b, sa', e', t', pl, pg⟩
      exact ⟨But3.stay sa3 (notImm_lst ea3) b, fun z hz => nomatch hz⟩
    · rintro i d x σ' H' hi ⟨x6, xs', ps, rfl, b, sa', e', t', pl, pg⟩ tx
      obtain ⟨hi2, rfl⟩ := rng_item2 hi
      cases tp_num tx
      refine ⟨_, gb_name, ?_⟩
      have vl : xs'.length = ps.length := by rw [t'.length, List.length_map]
      refine ⟨_, rfl, .inl ⟨rfl, xs', .inl (.inl e')⟩, _, rfl, _, rfl, p, g, c, n + 179 - 2 * i - 1, _, rfl, sa'.mono (by omega), ⟨by omega, by omega⟩, fun o1 Ha o10 o11 ba saa => ?_⟩
      refine ⟨_, rfl, _, rfl, p, g, c, n + 179 - 2 * (i + 1), _, rfl, saa.mono (by omega), ⟨by omega, by omega⟩, fun o2 Hb o20 o21 bb sab => ?_⟩
      have bab := But2.trans ba bb
      have eb := bab a _ ap ag e'
      refine ⟨small_len (m := 2) (Nat.le_refl 2) (by omega), fun qq hq => ?_⟩
      have sn : Same Hb (upd Hb qq (.tup [.int o1, .int o2])) := Same.new hq
      have tt : Tp C (upd Hb qq (.tup [.int o1, .int o2])) (.ref qq) (pairD (o1, o2)) := .tup upd_same (.cons (.num _) (.cons (.num _) .nil))
      have st5 : Stay H' (upd Hb qq (.tup [.int o1, .int o2])) := Stay.trans (sa'.stay bab) (Same.stay sn)
      have b6 := But2.trans bab (Same.but2 sn)
      have sa6 := sab.same sn
      have e6 := sn _ _ eb
      refine ⟨a, xs', .ref qq, rfl, rfl, e6, small_lt (m := 100) (by omega) (by omega), ?_⟩
      generalize upd Hb qq (.tup [.int o1, .int o2]) = H6 at tt st5 b6 sa6 e6 ⊢
      have st6 : Stay H6 (upd H6 a (.lst (xs' ++ [.ref qq]))) := But.stay (p := a) but_up (notImm_lst e6)
      refine ⟨_, _, ps ++ [(o1, o2)], rfl, (But3.trans b (But3.of2 b6)).upd, upd_sa sa6 ap ag ac, upd_same, ?_, by rw [List.length_append, List.length_singleton]; omega, pg.snoc ⟨o10, o11⟩ ⟨o20, o21⟩⟩
      rw [List.map_append]
      exact ((t'.stay st5).stay st6).append (.cons (tt.stay st6) .nil)
    rintro σ' H4 ⟨x6, xs4, ps2, rfl, b4, sa4, ea4, tps4, pl2, pg2⟩
    rw [List.length_map, List.length_range] at sa4 pl2
    have eL4 := b4 L _ Lp Lg La eL3
    have b04 : But2 p g H H4 := fun z o zp zg ez => b4 z o zp zg (ne_of_none ez haH0) (b03 z o zp zg ez)
    have sa4 := sa4.mono (m := n + 160) (by omega)
    clear b4 sa2 sa3 b3 b03 b02
    dsimp only
    -- doors
    apply st_setL (C := C) (ds := [])
    · apply evl_lst
      · trivial
      · exact Nat.zero_le _
    intro f0 vs0 H5 s5 hf ef r0
    cases tpa_nil r0
    have fp : f0 ≠ p := fun z => sa4.sp (by rw [← z]; exact hf)
    have fg : f0 ≠ g := fun z => sa4.sg (by rw [← z]; exact hf)
    have fc : f0 ≠ c := fun z => sa4.sc (by rw [← z]; exact hf)
    have Lf : L ≠ f0 := fun z => by rw [← z, eL4] at hf; cases hf
    have sa5 := sa4.same s5
    have hfH : H f0 = none := by
      cases hh : H f0 with
      | none => rfl
      | some o => rw [b04 f0 o fp fg hh] at hf; cases hf
    refine ⟨_, rfl, _, rfl, p, g, c, n + 140, a, xs4, ps2.map pairD, rfl, sa5.mono (by rw [List.length_map]; omega), s5 _ _ ea4, tps4.same s5, sh_pairs ps2, by rw [List.length_map]; omega, fun a' xs' dd H6 b6 sa6 hn6 e6 t6 pm0 => ?_⟩
    obtain ⟨qs, rfl, pm⟩ := perm_map pm0
    have pgq := pg2.perm pm
    have ql : qs.length = ps2.length := pm.length_eq
    have ef6 := b6 f0 _ fp fg ef
    have eL6 := b6 L _ Lp Lg (s5 _ _ eL4)
    have fa' : a' ≠ f0 := fun z => by rw [z, ef] at hn6; cases hn6
    have b06 : But2 p g H H6 := But2.trans b04 (But2.trans (Same.but2 s5) b6)
    have ap' : a' ≠ p := fun z => sa5.sp (by rw [← z]; exact hn6)
    have ag' : a' ≠ g := fun z => sa5.sg (by rw [← z]; exact hn6)
    refine ⟨a', rfl, ⟨xs', .inl (.inl e6)⟩, for_src (C := C) (src_list e6 t6) (fun i σ' H' => ∃ x8 x9 x10 x11 x12 ys ds, σ' = [some (.ref p), some (.int rooms), some (.int more), some (.ref L), none, some (.ref a), x6, some (.ref f0), x8, x9, x10, x11, x12] ∧ But3 p g f0 H6 H' ∧ SA H' p g c (n + 140 - 3 * i) ∧ H' f0 = some (.lst ys) ∧ TpA C H' ys (ds.map doorD) ∧ Paired (DP ls) (qs.take i) ds) ?_ ?_ ?_ ?_⟩
    · exact ⟨none, none, none, none, none, [], [], rfl, fun _ _ _ _ _ h => h, sa6.mono (by omega), ef6, .nil, .nil⟩
    · rintro i σ' H' ⟨x8, x9, x10, x11, x12, ys, ds, rfl, b, sa', e', t', pr⟩
      refine ⟨But3.stay sa6 (notImm_lst ef6) b, fun z hz o ez => ?_⟩
      have : z = a' := by simpa using hz
      subst this
      exact b z o ap' ag' fa' ez
    · rintro i d x σ' H' hi ⟨x8, x9, x10, x11, x12, ys, ds, rfl, b, sa', e', t', pr⟩ tx
      obtain ⟨pq, hpq, rfl⟩ := map_item hi
      have hpm := List.mem_of_getElem? hpq
      have il : i < qs.length := (List.getElem?_eq_some_iff.mp hpq).1
      have pl := Paired.length pr
      rw [List.length_take] at pl
      obtain ⟨⟨n0, n1⟩, ⟨f0', f1⟩⟩ := pgq.ok pq hpm
      obtain ⟨u1, u2, w1, w2, g2⟩ := gb_two (K := K) (i := 8) (j := 9) (σ := [some (.ref p), some (.int rooms), some (.int more), some (.ref L), none, some (.ref a), x6, some (.ref f0), x8, x9, x10, x11, x12]) tx
      cases tp_num w1; cases tp_num w2
      refine ⟨_, g2, ?_⟩
      have eL' := b L _ Lp Lg Lf eL6
      have lget : ∀ r : Int, 0 ≤ r → r < rooms → ∃ y : Int, ls[r.toNat]? = some y ∧ 1 ≤ y ∧ y ≤ 6 := by
        intro r r0 r1
        have hlt : r.toNat < ls.length := by omega
        exact ⟨_, List.getElem?_eq_getElem hlt, hls _ (List.getElem_mem hlt)⟩
      obtain ⟨y1, hy1, y10, y11⟩ := lget pq.1 n0 n1
      obtain ⟨y2, hy2, y20, y21⟩ := lget pq.2 f0' f1
      have ix : ∀ {ta : TE} {σ : L2.St} {H' : Hp} {r y : Int}, σ[3]? = some (some (.ref L)) → H' L = some (.lst (ls.map V.int)) → EvD C ta σ H' (.num r) → 0 ≤ r → ls[r.toNat]? = some y → EvD C (tOp (rIxL K) (tVar 3) ta) σ H' (.num y) := by
        intro ta σ H' r y e3 eL ha r0 hy
        exact ev_ixL (i := r.toNat) (ns := ls) (evp_il e3 ⟨L, rfl, eL⟩) (by rw [show ((r.toNat : Nat) : Int) = r by omega]; exact ha) hy
      -- the whole
      have evm : EvP (tCall sp__law_multiple [] E0 (tCons (tLst (tCons (tOp (rIxL K) (tVar 3) (tVar 8)) (tCons (tOp (rIxL K) (tVar 3) (tVar 9)) tNil))) tNil)) (([some (.ref p), some (.int rooms), some (.int more), some (.ref L), none, some (.ref a), x6, some (.ref f0), x8, x9, x10, x11, x12].set 8 (some (.int pq.1))).set 9 (some (.int pq.2))) H' (fun H v => v = .int (MF.lcmL [y1, y2])) := by
        refine evp_call (pre := fun (ns : List Int) vs H => (∃ v, vs = [v] ∧ IL ns H v) ∧ ∃ b, 0 < b ∧ LC b ns) (post := fun ns H v => v = .int (MF.lcmL ns)) _ (eap_mono (eap_cons (evp_new (ns := [y1, y2]) (ds := [.num y1, .num y2]) (evl_lst (ea_cons (ix rfl eL' (by trivial) n0 hy1) (ea_cons (ix rfl eL' (by trivial) f0' hy2) ea_nil)) (small_len (m := 2) (Nat.le_refl 2) (by omega))) rfl) eap_nil fun H H' v s h => h.same s) ?_)
        rintro vs H6 ⟨v1, r1, rfl, p1, rfl⟩
        refine ⟨⟨v1, rfl, p1⟩, 3, by decide, fun n hn => ?_, fun n hn => ?_, (show 3 * 2 ≤ 8900 by decide)⟩
        · simp only [List.mem_cons, List.not_mem_nil, or_false] at hn
          rcases hn with rfl | rfl <;> omega
        · simp only [List.mem_cons, List.not_mem_nil, or_false] at hn
          rcases hn with rfl | rfl <;> omega
      rw [lcmL_two (by omega) (by omega)] at evm
      refine evm H' (Same.refl _) _ fun v7 H7 s7 e7 => ?_
      subst e7
      refine pick_ints (C := C) (ns := [1, 2, 3, 1, 5]) (p := p) (g := g) (c := c) (n := n + 140 - 3 * i - 1) rfl ?_ ((sa'.same s7).mono (by omega)) (by decide) (by decide) fun k hk H8 b8 sa8 => ?_
      · exact ea_cons ev_int (ea_cons ev_int (ea_cons ev_int (ea_cons ev_int (ea_cons ev_int ea_nil))))
      have hk5 : 1 ≤ k ∧ k ≤ 5 := by
        simp only [List.mem_cons, List.not_mem_nil, or_false] at hk
        rcases hk with rfl | rfl | rfl | rfl | rfl <;> decide
      refine ⟨_, _, rfl, rfl, .inr ⟨by omega, by omega⟩, ?_⟩
      dsimp only [gName, List.set]
      have e8 := b8 f0 _ fp fg (s7 _ _ e')
      have eL8 := b8 L _ Lp Lg (s7 _ _ eL')
      have b38 : But3 p g f0 H' H8 := But3.of2 (But2.trans (Same.but2 s7) b8)
      have st8 : Stay H' H8 := Stay.trans (Same.stay s7) ((sa'.same s7).stay b8)
      -- first
      have ev1 : EvD C (tOp (rI CDivN fun i j => .int (Int.fdiv i j)) (tVar 10) (tOp (rIxL K) (tVar 3) (tVar 8))) [some (.ref p), some (.int rooms), some (.int more), some (.ref L), none, some (.ref a), x6, some (.ref f0), some (.int pq.1), some (.int pq.2), some (.int (MF.lcmI y1 y2 * k)), x11, x12] H8 (.num ((MF.lcmI y1 y2 * k).fdiv y1)) := ev_fdiv (by trivial) (ix rfl eL8 (by trivial) n0 hy1) (by omega) (by omega)
      refine ev1 H8 (Same.refl _) _ fun v9 H9 s9 t9 => ?_
      cases tp_num t9
      refine pick_ints (C := C) (ns := [1, 1, -1]) (p := p) (g := g) (c := c) (n := n + 140 - 3 * i - 2) rfl ?_ ((sa8.same s9).mono (by omega)) (by decide) (by decide) fun s1 hs1 Ha ba saa => ?_
      · exact ea_cons ev_int (ea_cons ev_int (ea_cons (ev_un (g := fun i => -i) ev_int) ea_nil))
      have hs1 : s1 = 1 ∨ s1 = -1 := by
        simp only [List.mem_cons, List.not_mem_nil, or_false] at hs1
        rcases hs1 with rfl | rfl | rfl <;> decide
      refine ⟨_, _, rfl, rfl, .inr ⟨by omega, by omega⟩, ?_⟩
      have ea := ba f0 _ fp fg (s9 _ _ e8)
      have eLa := ba L _ Lp Lg (s9 _ _ eL8)
      have b3a : But3 p g f0 H' Ha := But3.trans b38 (But3.of2 (But2.trans (Same.but2 s9) ba))
      have sta : Stay H' Ha := Stay.trans st8 (Stay.trans (Same.stay s9) ((sa8.same s9).stay ba))
      -- second
      have ev2 : EvD C (tOp (rI CDivN fun i j => .int (Int.fdiv i j)) (tVar 10) (tOp (rIxL K) (tVar 3) (tVar 9))) [some (.ref p), some (.int rooms), some (.int more), some (.ref L), none, some (.ref a), x6, some (.ref f0), some (.int pq.1), some (.int pq.2), some (.int (MF.lcmI y1 y2 * k)), some (.int ((MF.lcmI y1 y2 * k).fdiv y1 * s1)), x12] Ha (.num ((MF.lcmI y1 y2 * k).fdiv y2)) := ev_fdiv (by trivial) (ix rfl eLa (by trivial) f0' hy2) (by omega) (by omega)
      refine ev2 Ha (Same.refl _) _ fun vb Hb sb tb => ?_
      cases tp_num tb
      refine pick_ints (C := C) (ns := [1, 1, -1]) (p := p) (g := g) (c := c) (n := n + 140 - 3 * (i + 1)) rfl ?_ ((saa.same sb).mono (by omega)) (by decide) (by decide) fun s2 hs2 Hc bc sac => ?_
      · exact ea_cons ev_int (ea_cons ev_int (ea_cons (ev_un (g := fun i => -i) ev_int) ea_nil))
      have hs2 : s2 = 1 ∨ s2 = -1 := by
        simp only [List.mem_cons, List.not_mem_nil, or_false] at hs2
        rcases hs2 with rfl | rfl | rfl <;> decide
      refine ⟨_, _, rfl, rfl, .inr ⟨by omega, by omega⟩, ?_⟩
      have ec := bc f0 _ fp fg (sb _ _ ea)
      have b3c : But3 p g f0 H' Hc := But3.trans b3a (But3.of2 (But2.trans (Same.but2 sb) bc))
      have stc : Stay H' Hc := Stay.trans sta (Stay.trans (Same.stay sb) ((saa.same sb).stay bc))
      obtain ⟨z1, z2, _, _⟩ := DP_num ⟨y10, y11⟩ ⟨y20, y21⟩ hk5 hs1
      obtain ⟨_, _, z3, z4⟩ := DP_num ⟨y10, y11⟩ ⟨y20, y21⟩ hk5 hs2
      have zf : MF.aux ((MF.lcmI y1 y2 * k).fdiv y1 * s1) * MF.lnOf ls pq.1 = MF.aux ((MF.lcmI y1 y2 * k).fdiv y2 * s2) * MF.lnOf ls pq.2 := by
        have e1 : MF.lnOf ls pq.1 = y1 := by unfold MF.lnOf; rw [List.getD_eq_getElem?_getD, hy1]; rfl
        have e2 : MF.lnOf ls pq.2 = y2 := by unfold MF.lnOf; rw [List.getD_eq_getElem?_getD, hy2]; rfl
        rw [e1, e2]
        exact DP_fit ⟨y10, y11⟩ ⟨y20, y21⟩ hs1 hs2 hk5.1
      have yl : ys.length ≤ 20 := by rw [t'.length, List.length_map]; omega
      have tc := t'.stay stc
      dsimp only [gName, List.set]
      generalize (MF.lcmI y1 y2 * k).fdiv y1 * s1 = A1 at z1 z2 zf ⊢
      generalize (MF.lcmI y1 y2 * k).fdiv y2 * s2 = A2 at z3 z4 zf ⊢
      apply st_app1 (C := C) (d := doorD (pq.1, A1, pq.2, A2)) (hv := rfl) (ha := ec)
      · exact small_lt (m := 100) (by omega) (by omega)
      · show EvD C _ _ _ (.tup [.num pq.1, .num A1, .num pq.2, .num A2])
        trivial
      · intro vd Hd sd td
        have ed := sd _ _ ec
        have std : Stay Hd (upd Hd f0 (.lst (ys ++ [vd]))) := But.stay (p := f0) but_up (notImm_lst ed)
        refine ⟨_, _, _, _, _, _, ds ++ [(pq.1, A1, pq.2, A2)], rfl, (But3.trans b (But3.trans b3c (But3.of2 (Same.but2 sd)))).upd, upd_sa (sac.same sd) fp fg fc, upd_same, ?_, ?_⟩
        · rw [List.map_append]
          exact ((tc.same sd).stay std).append (.cons (td.stay std) .nil)
        · rw [List.take_add_one, hpq]
          exact paired_snoc (R := DP ls) ⟨rfl, rfl, ⟨z1, z2⟩, ⟨z3, z4⟩, zf⟩ pr
    rintro σ' H7 ⟨x8, x9, x10, x11, x12, ys, ds, rfl, b7, sa7, e7, t7, pr⟩
    rw [List.length_map, List.take_length] at pr
    rw [List.length_map] at sa7
    have eL7 := b7 L _ Lp Lg Lf eL6
    have b07 : But2 p g H H7 := fun z o zp zg ez => b7 z o zp zg (ne_of_none ez hfH) (b06 z o zp zg ez)
    have dl : ds.length = qs.length := (Paired.length pr).symm
    have hok := pgq.doors r1 (by omega) pr (by omega)
    refine ⟨_, rfl, f0, ys, rfl, .inl ⟨.inl (.inl e7), fun l hl => ?_⟩⟩
    have sl : Same H7 (upd H7 l (.tup ys)) := Same.new hl
    have tl : Tp C (upd H7 l (.tup ys)) (.ref l) (.tup (ds.map doorD)) := .tup upd_same (t7.same sl)
    have eL8 := sl _ _ eL7
    have sa8 := sa7.same sl
    have b08 := But2.trans b07 (Same.but2 sl)
    generalize upd H7 l (.tup ys) = H8 at sl tl eL8 sa8 b08 ⊢
    refine ⟨_, rfl, L, _, rfl, .inl ⟨.inl (.inl eL8), fun l2 hl2 => ?_⟩⟩
    have sl2 : Same H8 (upd H8 l2 (.tup (ls.map V.int))) := Same.new hl2
    have tl2 : Tp C (upd H8 l2 (.tup (ls.map V.int))) (.ref l2) (.tup (ls.map D.num)) := .tup upd_same (of_nums C _ ls)
    have sa9 := sa8.same sl2
    have b09 := But2.trans b08 (Same.but2 sl2)
    have tl9 := tl.same sl2
    generalize upd H8 l2 (.tup (ls.map V.int)) = H9 at tl2 sa9 b09 tl9 ⊢
    refine ⟨small_len (m := 2) (Nat.le_refl 2) (by omega), fun l3 hl3 => ?_⟩
    have sl3 : Same H9 (upd H9 l3 (.tup [.ref l, .ref l2])) := Same.new hl3
    exact q (.ref l3) ds ls _ (But2.trans b09 (Same.but2 sl3)) ((sa9.same sl3).mono (by omega)) (.tup upd_same (.cons (tl9.same sl3) (.cons (tl2.same sl3) .nil))) hok ⟨by omega, by omega⟩ ⟨_, MF.fitsD_fit (by omega) (fun n hn => by have := hls n hn; omega) (DP.fits pr)⟩
end
end Kw

set_option linter.all false
/-! What the law on returns and kept pulls compares: plain. -/
namespace MF
open MS
theorem conn_steps {rooms : Int} {ds : List Door} (h : MJ.Conn rooms ds) : ∀ r : Int, 1 ≤ r → r < rooms → ∃ s ∈ allSteps ds, near ds s = r ∧ 0 ≤ far ds s ∧ far ds s < r := by
  intro r r1 r2
  obtain ⟨e, he, e2, e0, e1⟩ := h r r1 r2
  rw [edges_steps] at he
  obtain ⟨s, hs, rfl⟩ := List.mem_map.mp he
  obtain ⟨t1, t2, _, _⟩ := turn_near hs
  exact ⟨turn s, turn_mem hs, t1.trans e2, by rw [t2]; exact e0, by rw [t2]; exact e1⟩
/-- what is known of kept pulls -/
structure Kept (rooms : Int) (ds : List Door) (ln : Int → Int) (W : Int) : Prop where
  F : Fit rooms ds ln
  w0 : 0 < W
  w1 : ∀ d ∈ ds, d.2.1 * ln d.1 ∣ W
  w2 : ∀ T, (∀ d ∈ ds, d.2.1 * ln d.1 ∣ T) → W ∣ T
  w3 : rooms = 1 → ln 0 = 1
theorem door_step {ds : List Door} {d : Door} (hd : d ∈ ds) : ∃ s ∈ allSteps ds, gate ds s = d := by
  obtain ⟨i, hi⟩ := List.getElem?_of_mem hd
  have hlt := (List.getElem?_eq_some_iff.mp hi).1
  exact ⟨(i, 0), mem_all.mpr ⟨hlt, by simp⟩, by unfold gate; rw [List.getD_eq_getElem?_getD, hi]; simp⟩
section
variable {rooms : Int} {ds : List Door} {ln : Int → Int} {W : Int} (ok : Ok rooms ds) (hc : MJ.Conn rooms ds) (k : Kept rooms ds ln W) {room : Int} (hr : 0 ≤ room ∧ room < rooms)
include k in
theorem kept_D : ∀ s ∈ allSteps ds, aux (lv ds s) * ln (near ds s) ∣ W := by
  intro s hs
  have key : ∀ d ∈ ds, aux d.2.1 * ln d.1 ∣ W := by
    intro d hd
    have h := k.w1 d hd
    have : aux d.2.1 = d.2.1 ∨ aux d.2.1 = -d.2.1 := by unfold aux; omega
    rcases this with e | e
    · rw [e]; exact h
    · rw [e, Int.neg_mul]; exact Int.neg_dvd.mpr h
  obtain ⟨d, hd, e | e⟩ := gate_door hs
  · unfold lv near; rw [e]; exact key d hd
  · unfold lv near; rw [e]
    have := fit_doors k.F d hd
    show aux d.2.2.2 * ln d.2.2.1 ∣ W
    rw [← this]
    exact key d hd
include ok hc k hr in
theorem kept_ln : ln room ∣ W := by
  have hs : rooms = 1 ∨ ∃ s ∈ allSteps ds, near ds s = room := by
    by_cases h1 : rooms = 1
    · exact .inl h1
    · by_cases h0 : room = 0
      · obtain ⟨s, hs, a, b, c⟩ := conn_steps hc 1 (by omega) (by omega)
        obtain ⟨t1, _, _, _⟩ := turn_near hs
        exact .inr ⟨turn s, turn_mem hs, by rw [t1]; omega⟩
      · obtain ⟨s, hs, a, b, c⟩ := conn_steps hc room (by omega) hr.2
        exact .inr ⟨s, hs, a⟩
  rcases hs with h1 | ⟨s, hs, e⟩
  · have : room = 0 := by omega
    rw [this, k.w3 h1]
    exact Int.one_dvd _
  · have := kept_D k s hs
    rw [e] at this
    exact Int.dvd_trans (Int.dvd_mul_left _ _) this
include ok hc k hr in
theorem kept_risen {N : Nat} (hN : 2 * (rooms - 1).toNat + 1 < N) : risen ds room N = W / ln room := by
  refine risen_fit ok k.F (conn_steps hc) hr k.w0 (kept_ln ok hc k hr) (kept_D k) (fun T _ hT => k.w2 T fun d hd => ?_) hN
  obtain ⟨s, hs, e⟩ := door_step hd
  have := hT s hs
  unfold lv near at this
  rw [e] at this
  have a : aux d.2.1 = d.2.1 ∨ aux d.2.1 = -d.2.1 := by unfold aux; omega
  rcases a with a | a
  · rw [a] at this; exact this
  · rw [a, Int.neg_mul] at this; exact Int.neg_dvd.mp this
include ok hc k hr in
theorem kept_div (i : Nat) : risen ds room i ∣ W / ln room := (risen_ok ok room i).2.2 _ fun L _ => ret_fit ok k.F hr (kept_ln ok hc k hr) (kept_D k) L
include ok hc k hr in
theorem kept_still (L : Nat) : still ds room (W / ln room) L = still ds room 0 L := by
  rw [still_classes ok, still_classes ok]
  apply ls_congr
  intro p hp
  have h := Int.dvd_trans (ret_dvd ok room L p hp) (ret_fit ok k.F hr (kept_ln ok hc k hr) (kept_D k) L)
  rw [if_pos h, if_pos (Int.dvd_zero _)]
end
/-! ### bounds -/
theorem prodL_le2 {b : Int} (hb : 1 ≤ b) {ds : List Door} : ∀ {l : List Step}, (∀ s ∈ l, lv ds s ≠ 0 ∧ ((lv ds s).natAbs : Int) ≤ b) → prodL ds l ≤ b ^ l.length
  | [], _ => by rw [List.length_nil, Int.pow_zero]; exact Int.le_refl 1
  | a :: l, h => by
    have h1 : aux (lv ds a) ≤ b := (h a (by simp)).2
    have h2 := prodL_le2 hb (ds := ds) (l := l) fun s hs => h s (by simp [hs])
    have h3 := prodL_pos (ds := ds) (l := l) fun s hs => (h s (by simp [hs])).1
    have := Int.mul_le_mul h1 h2 (by omega) (by omega)
    show aux (lv ds a) * prodL ds l ≤ b ^ (l.length + 1)
    rw [Int.pow_succ, Int.mul_comm (b ^ l.length)]
    exact this
theorem pow_mono {b : Int} (hb : 1 ≤ b) {m n : Nat} (h : m ≤ n) : b ^ m ≤ b ^ n := by
  induction n with
  | zero => have : m = 0 := by omega
            subst this; exact Int.le_refl _
  | succ n ih =>
    by_cases e : m = n + 1
    · subst e; exact Int.le_refl _
    · have h1 := ih (by omega)
      have h2 : 0 < b ^ n := Int.pow_pos (by omega)
      rw [Int.pow_succ]
      have := Int.mul_le_mul_of_nonneg_left hb (show 0 ≤ b ^ n by omega)
      omega
theorem steps_len (ds : List Door) : (allSteps ds).length = 2 * ds.length := by
  unfold allSteps
  have : ∀ n, ((List.range n).flatMap fun a => [(a, 0), (a, 1)] : List Step).length = 2 * n := by
    intro n
    induction n with
    | zero => rfl
    | succ n ih => rw [List.range_succ, List.flatMap_append, List.length_append, ih]; simp; omega
  rw [this]
/-- all pulls of classes divide a power -/
theorem cls_pow {rooms : Int} {ds : List Door} (ok : Ok rooms ds) {b : Int} (hb : 1 ≤ b) (hn : ∀ s ∈ allSteps ds, ((lv ds s).natAbs : Int) ≤ b) (room : Int) (L : Nat) (i : Nat) : 0 < ret ((cls ds room L).take i) ∧ ret ((cls ds room L).take i) ≤ b ^ (2 * ds.length * L) := by
  have cd := cd_cls ok room L
  have f := ret_fold ((cls ds room L).take i) (fun p hp => (cd.2 p (List.mem_of_mem_take hp)).2.1) 1 Int.one_pos
  have hd : ret ((cls ds room L).take i) ∣ prodL ds (allSteps ds) ^ L := f.2.2.2 _ (Int.one_dvd _) fun p hp => clN_dvd ok room L p (List.mem_of_mem_take hp)
  have hp := prodL_pos (ds := ds) (l := allSteps ds) fun s hs => lv_ne ok hs
  have h3 := prodL_le2 hb (ds := ds) (l := allSteps ds) fun s hs => ⟨lv_ne ok hs, hn s hs⟩
  rw [steps_len] at h3
  have h1 : 0 < prodL ds (allSteps ds) ^ L := Int.pow_pos (by omega)
  refine ⟨f.1, Int.le_trans (Int.le_of_dvd h1 hd) ?_⟩
  rw [Int.pow_mul]
  clear f hd h1
  induction L with
  | zero => rw [Int.pow_zero, Int.pow_zero]; exact Int.le_refl 1
  | succ n ih =>
    rw [Int.pow_succ, Int.pow_succ]
    exact Int.mul_le_mul (ih (cd_cls ok room n)) h3 (by omega) (Int.le_of_lt (Int.pow_pos (Int.pow_pos (by omega))))
theorem risen_pow {rooms : Int} {ds : List Door} (ok : Ok rooms ds) {b : Int} (hb : 1 ≤ b) (hn : ∀ s ∈ allSteps ds, ((lv ds s).natAbs : Int) ≤ b) (room : Int) (n : Nat) : 0 < risen ds room n ∧ risen ds room n ≤ b ^ (2 * ds.length * n) := by
  obtain ⟨r0, _, r2⟩ := risen_ok ok room n
  have hp := prodL_pos (ds := ds) (l := allSteps ds) fun s hs => lv_ne ok hs
  have h3 := prodL_le2 hb (ds := ds) (l := allSteps ds) fun s hs => ⟨lv_ne ok hs, hn s hs⟩
  rw [steps_len] at h3
  have hd : risen ds room n ∣ prodL ds (allSteps ds) ^ n := r2 _ fun L hL => by
    have h1 := ret_min ok room L (c := prodL ds (allSteps ds) ^ L) fun p hp => clN_dvd ok room L p hp
    refine Int.dvd_trans h1 ⟨prodL ds (allSteps ds) ^ (n - L), ?_⟩
    rw [← Int.pow_add, show L + (n - L) = n by omega]
  refine ⟨r0, Int.le_trans (Int.le_of_dvd (Int.pow_pos (by omega)) hd) ?_⟩
  rw [Int.pow_mul]
  clear hd
  induction n with
  | zero => rw [Int.pow_zero, Int.pow_zero]; exact Int.le_refl 1
  | succ n ih =>
    rw [Int.pow_succ, Int.pow_succ]
    obtain ⟨x, z, y⟩ := risen_ok ok room n
    exact Int.mul_le_mul (ih x z y) h3 (by omega) (Int.le_of_lt (Int.pow_pos (Int.pow_pos (by omega))))
/-- keys few in kind -/
theorem nd_len {κ γ : Type} [DecidableEq κ] {m : List (κ × Int)} (h : Nd m) (c : κ → γ) (S : List γ) (hS : ∀ p ∈ m, c p.1 ∈ S) (inj : ∀ p ∈ m, ∀ q ∈ m, c p.1 = c q.1 → p.1 = q.1) : m.length ≤ S.length := by
  classical
  have nd : (m.map fun p => c p.1).Nodup := by
    unfold Nd at h
    rw [List.nodup_iff_pairwise_ne, List.pairwise_map] at h ⊢
    refine List.Pairwise.imp_of_mem ?_ h
    intro a b ha hb hne e
    exact hne (inj a ha b hb e)
  have := List.Nodup.length_le_of_subset nd (l₂ := S) (fun x hx => by
    obtain ⟨p, hp, rfl⟩ := List.mem_map.mp hx
    exact hS p hp)
  rwa [List.length_map] at this
/-- divisors of powers -/
theorem pow_div {p : Nat} (hp : ∀ d, d ∣ p → d = 1 ∨ d = p) (p0 : 0 < p) : ∀ n d, d ∣ p ^ n → ∃ a, a ≤ n ∧ d = p ^ a
  | 0, d, h => ⟨0, Nat.le_refl _, by rw [Nat.pow_zero] at h ⊢; exact Nat.dvd_one.mp h⟩
  | n + 1, d, h => by
    rcases hp (Nat.gcd d p) (Nat.gcd_dvd_right d p) with e | e
    · rw [Nat.pow_succ] at h
      obtain ⟨a, ha, e2⟩ := pow_div hp p0 n d (Nat.Coprime.dvd_of_dvd_mul_right e h)
      exact ⟨a, by omega, e2⟩
    · obtain ⟨c, hc⟩ : p ∣ d := by rw [← e]; exact Nat.gcd_dvd_left d p
      rw [hc, Nat.pow_succ, Nat.mul_comm (p ^ n)] at h
      obtain ⟨a, ha, e2⟩ := pow_div hp p0 n c (Nat.dvd_of_mul_dvd_mul_left p0 h)
      exact ⟨a + 1, by omega, by rw [hc, e2, Nat.pow_succ, Nat.mul_comm]⟩
def six : List Int := (List.range 15).flatMap fun a => (List.range 15).map fun b => (2 : Int) ^ a * 3 ^ b
theorem six_len : six.length = 225 := by decide +kernel
theorem six_mem {x : Int} (h0 : 0 < x) {n : Nat} (hn : n ≤ 14) (h : x ∣ 6 ^ n) : x ∈ six := by
  obtain ⟨m, rfl⟩ := Int.eq_ofNat_of_zero_le (show 0 ≤ x by omega)
  have h2 : m ∣ 6 ^ n := by
    have e : ((6 : Int) ^ n) = ((6 ^ n : Nat) : Int) := by rw [Int.natCast_pow]; rfl
    rw [e] at h
    exact Int.ofNat_dvd.mp h
  rw [show 6 ^ n = 2 ^ n * 3 ^ n by rw [← Nat.mul_pow]] at h2
  obtain ⟨d1, d2, h3, h4, e⟩ := Nat.dvd_mul.mp h2
  have p2 : ∀ d, d ∣ 2 → d = 1 ∨ d = 2 := by
    intro d hd
    have := Nat.le_of_dvd (by decide) hd
    have : d ≠ 0 := fun z => by subst z; simp at hd
    omega
  have p3 : ∀ d, d ∣ 3 → d = 1 ∨ d = 3 := by
    intro d hd
    have h1 := Nat.le_of_dvd (by decide) hd
    have h2 : d ≠ 0 := fun z => by subst z; simp at hd
    have h3 : d ≠ 2 := fun z => by subst z; revert hd; decide
    omega
  obtain ⟨a, ha, ea⟩ := pow_div p2 (by decide) n d1 h3
  obtain ⟨b, hb, eb⟩ := pow_div p3 (by decide) n d2 h4
  refine List.mem_flatMap.mpr ⟨a, List.mem_range.mpr (by omega), List.mem_map.mpr ⟨b, List.mem_range.mpr (by omega), ?_⟩⟩
  rw [← e, ea, eb]
  push_cast
  rfl
theorem aux_six {x : Int} (h : x ≠ 0) (hb : x.natAbs ≤ 3) : aux x ∣ 6 := by
  have : aux x = 1 ∨ aux x = 2 ∨ aux x = 3 := by unfold aux; omega
  rcases this with e | e | e <;> rw [e] <;> decide
/-- classes of houses of small numbers -/
theorem nx_six {rooms : Int} {ds : List Door} (ok : Ok rooms ds) (hn : ∀ s ∈ allSteps ds, (lv ds s).natAbs ≤ 3) {k : CKey} (hk : KOk ds k) {n : Nat} (hp : k.2.1 ∣ 6 ^ n) (hf : k.2.2.1 ∣ 6 ^ n) {s : Step} (hs : s ∈ allSteps ds) : nxP ds k.2.1 s ∣ 6 ^ (n + 1) ∧ nxF ds k.2.1 k.2.2.1 s ∣ 6 ^ (n + 1) := by
  have l6 := aux_six (lv_ne ok hs) (hn s hs)
  have a6 : aux (ar ds s) ∣ 6 := by
    have := hn (turn s) (turn_mem hs)
    obtain ⟨_, _, e, _⟩ := turn_near hs
    rw [e] at this
    exact aux_six (ar_ne ok hs) this
  rw [Int.pow_succ]
  constructor
  · exact Int.mul_dvd_mul (Int.dvd_trans (Int.ediv_dvd_of_dvd (gcdI_left _ _)) hp) a6
  · exact Int.mul_dvd_mul hf (Int.dvd_trans (Int.ediv_dvd_of_dvd (gcdI_aux _ _)) l6)
end MF

set_option Elab.async false
set_option linter.all false
set_option maxRecDepth 100000
set_option maxHeartbeats 4000000
/-! Dicts of states stay small. -/
namespace Kw
open PySem PySem.Spec PyProof.Rows L2 Y
theorem len_beyond6 {ds : List Door} {room : Int} {last : Option MF.Step} (h : ds.length ≤ 3) : (MF.beyond ds room last).length ≤ 6 := by
  unfold MF.beyond MF.stepsOf
  rw [List.length_map]
  refine Nat.le_trans (List.length_filter_le _ _) ?_
  rw [MF.steps_len]; omega
theorem clInc_len6 {ds : List Door} (h : ds.length ≤ 3) (k : MF.CKey) (many : Int) : (MF.clInc ds k many).length ≤ 6 := by
  rw [clInc_def, List.length_map]; exact len_beyond6 h
theorem clOn_len6 {ds : List Door} (h : ds.length ≤ 3) (m : List (MF.CKey × Int)) : (MF.clOn ds m).length ≤ 6 * m.length := by
  unfold MF.clOn
  have h1 := MS.len_adds (m.flatMap fun p => MF.clInc ds p.1 p.2) []
  have h2 := len_flat (c := 6) (f := fun p : MF.CKey × Int => MF.clInc ds p.1 p.2) (fun p => clInc_len6 h p.1 p.2) m
  rw [List.length_nil] at h1
  omega
theorem clN_len6 {ds : List Door} (h : ds.length ≤ 3) (x : MF.CKey × Int) : ∀ n, (MF.clN ds n [x]).length ≤ 6 ^ n
  | 0 => Nat.le_refl _
  | n + 1 => by
    have h1 := clOn_len6 h (MF.clN ds n [x])
    have h2 := clN_len6 h x n
    show (MF.clOn ds (MF.clN ds n [x])).length ≤ 6 ^ (n + 1)
    rw [Nat.pow_succ]; omega
theorem BK.on {rooms : Int} {ds : List Door} (hw : HW rooms ds) {b : Int} {m : List (MF.CKey × Int)} (cd : MF.CD ds m) (h : BK b m) : BK (60 * b) (MF.clOn ds m) := by
  refine MS.key_adds (P := fun k : MF.CKey => k.2.1 ≤ 60 * b ∧ k.2.2.1 ≤ 60 * b) _ ?_ (by intro p hp; simp at hp)
  intro p hp
  obtain ⟨q, hq, hp⟩ := List.mem_flatMap.mp hp
  have hk := cd.2 q hq
  rw [MF.clInc_eq hw.ok hk] at hp
  obtain ⟨s, hs, rfl⟩ := List.mem_map.mp hp
  obtain ⟨lv0, lv1, ar0, ar1⟩ := hw.lv (MF.mem_stepsOf.mp hs).1
  obtain ⟨b1, b2⟩ := h q hq
  have g0 := MF.gcdI_pos (b := MF.lv ds s) (show q.1.2.1 ≠ 0 by have := hk.1; omega)
  have p0 := hk.1
  have f0 := hk.2.1
  have e1 : q.1.2.1 / MF.gcdI q.1.2.1 (MF.lv ds s) ≤ b := Int.le_trans (Int.ediv_le_self _ (by omega)) b1
  have e10 : 0 ≤ q.1.2.1 / MF.gcdI q.1.2.1 (MF.lv ds s) := Int.ediv_nonneg (by omega) (by omega)
  have e2 : MF.aux (MF.lv ds s) / MF.gcdI q.1.2.1 (MF.lv ds s) ≤ 60 := Int.le_trans (Int.ediv_le_self _ (MF.aux_nn _)) (by unfold MF.aux; omega)
  have a1 : MF.aux (MF.ar ds s) ≤ 60 := by unfold MF.aux; omega
  refine ⟨?_, ?_⟩
  · show q.1.2.1 / MF.gcdI q.1.2.1 (MF.lv ds s) * MF.aux (MF.ar ds s) ≤ 60 * b
    have := Int.mul_le_mul e1 a1 (MF.aux_nn _) (by omega)
    rw [Int.mul_comm 60 b]; exact this
  · show q.1.2.2.1 * (MF.aux (MF.lv ds s) / MF.gcdI q.1.2.1 (MF.lv ds s)) ≤ 60 * b
    have := Int.mul_le_mul b2 e2 (Int.ediv_nonneg (MF.aux_nn _) (by omega)) (by omega)
    rw [Int.mul_comm 60 b]; exact this
theorem clN_bk {rooms : Int} {ds : List Door} (hw : HW rooms ds) (room : Int) : ∀ n : Nat, BK (60 ^ n) (MF.clN ds n [((room, 1, 1, none), 1)])
  | 0 => by
    intro p hp
    have hp : p ∈ [(((room, 1, 1, none) : MF.CKey), (1 : Int))] := hp
    have : p = ((room, 1, 1, none), 1) := by simpa using hp
    subst this
    exact ⟨show (1 : Int) ≤ 60 ^ 0 by decide, show (1 : Int) ≤ 60 ^ 0 by decide⟩
  | n + 1 => by
    have h := (clN_bk hw room n).on hw (MF.cd_clN hw.ok (MF.cd_start ds room) n)
    show BK (60 ^ (n + 1)) (MF.clOn ds (MF.clN ds n [((room, 1, 1, none), 1)]))
    rw [Int.pow_succ, Int.mul_comm]
    exact h
theorem lvb {rooms : Int} {ds : List Door} {b : Nat} (hk : HOk rooms ds) (hb : ∀ d ∈ ds, d.2.1.natAbs ≤ b ∧ d.2.2.2.natAbs ≤ b) : ∀ s ∈ MF.allSteps ds, (MF.lv ds s).natAbs ≤ b := by
  intro s hs
  obtain ⟨d, hd, e | e⟩ := MF.gate_door hs
  · show (MF.gate ds s).2.1.natAbs ≤ b
    rw [e]; exact (hb d hd).1
  · show (MF.gate ds s).2.1.natAbs ≤ b
    rw [e]; exact (hb d hd).2
/-- lengths to 8 -/
theorem cp8 {rooms : Int} {ds : List Door} (hw : HW rooms ds) (d3 : ds.length ≤ 3) (room : Int) {L : Nat} (hL : L ≤ 8) : CP ds room L where
  l40 := by omega
  sm := fun i hi is his => by
    have h1 := MS.len_adds is []
    rw [List.length_nil] at h1
    have h2 := his.length_le
    have h3 := len_flat (c := 6) (f := fun p : MF.CKey × Int => MF.clInc ds p.1 p.2) (fun p => clInc_len6 d3 p.1 p.2) (MF.clN ds i [((room, 1, 1, none), 1)])
    have h4 := clN_len6 d3 ((room, 1, 1, none), 1) i
    have h5 : 6 ^ i ≤ 6 ^ 7 := Nat.pow_le_pow_right (by decide) (by omega)
    have h6 : 6 ^ 7 = 279936 := by decide
    refine small_lt (m := 2000000) ?_ (by omega)
    omega
  bk := fun i hi p hp => by
    obtain ⟨h1, h2⟩ := clN_bk hw room i p hp
    have h3 : (60 : Int) ^ i ≤ 60 ^ 8 := MF.pow_mono (by decide) (by omega)
    have h4 : (60 : Int) ^ 8 = 167961600000000 := by decide
    omega
  rt := fun i => by
    have hn := lvb hw.hk hw.n50
    obtain ⟨_, h⟩ := MF.cls_pow hw.ok (b := 60) (by decide) (fun s hs => by have := hn s hs; omega) room L i
    have h2 : 2 * ds.length * L ≤ 48 := Nat.le_trans (Nat.mul_le_mul (show 2 * ds.length ≤ 6 by omega) hL) (by decide)
    have h3 : (60 : Int) ^ (2 * ds.length * L) ≤ 60 ^ 48 := MF.pow_mono (by decide) h2
    have h4 : (60 : Int) ^ 48 < 2 ^ 320 := by decide +kernel
    omega
/-- what is known of keys in houses of small numbers -/
def K6 (ds : List Door) (n : Nat) (k : MF.CKey) : Prop := 0 < k.2.1 ∧ 0 < k.2.2.1 ∧ k.2.1 ∣ 6 ^ n ∧ k.2.2.1 ∣ 6 ^ n ∧ ∃ s ∈ MF.allSteps ds, k.2.2.2 = some s ∧ k.1 = MF.far ds s
theorem inc_k6 {rooms : Int} {ds : List Door} (ok : MF.Ok rooms ds) (hn : ∀ s ∈ MF.allSteps ds, (MF.lv ds s).natAbs ≤ 3) {m : List (MF.CKey × Int)} (cd : MF.CD ds m) {n : Nat} (h : ∀ p ∈ m, p.1.2.1 ∣ 6 ^ n ∧ p.1.2.2.1 ∣ 6 ^ n) : ∀ p ∈ m.flatMap (fun z => MF.clInc ds z.1 z.2), K6 ds (n + 1) p.1 := by
  intro p hp
  obtain ⟨q, hq, hp⟩ := List.mem_flatMap.mp hp
  have hk := cd.2 q hq
  rw [MF.clInc_eq ok hk] at hp
  obtain ⟨s, hs, rfl⟩ := List.mem_map.mp hp
  have hs := (MF.mem_stepsOf.mp hs).1
  obtain ⟨a, b⟩ := MF.nx_six ok hn hk (h q hq).1 (h q hq).2 hs
  have o := MF.nx_ok ok hk hs
  exact ⟨o.1, o.2.1, a, b, s, hs, rfl, rfl⟩
theorem clN_six {rooms : Int} {ds : List Door} (ok : MF.Ok rooms ds) (hn : ∀ s ∈ MF.allSteps ds, (MF.lv ds s).natAbs ≤ 3) (room : Int) : ∀ n : Nat, ∀ p ∈ MF.clN ds n [((room, 1, 1, none), 1)], p.1.2.1 ∣ 6 ^ n ∧ p.1.2.2.1 ∣ 6 ^ n
  | 0 => by
    intro p hp
    have hp : p ∈ [(((room, 1, 1, none) : MF.CKey), (1 : Int))] := hp
    have : p = ((room, 1, 1, none), 1) := by simpa using hp
    subst this
    exact ⟨Int.one_dvd _, Int.one_dvd _⟩
  | n + 1 => by
    have ih := inc_k6 ok hn (MF.cd_clN ok (MF.cd_start ds room) n) (clN_six ok hn room n)
    have := MS.key_adds (P := fun k : MF.CKey => k.2.1 ∣ 6 ^ (n + 1) ∧ k.2.2.1 ∣ 6 ^ (n + 1)) ((MF.clN ds n [((room, 1, 1, none), 1)]).flatMap fun p => MF.clInc ds p.1 p.2) (fun p hp => ⟨(ih p hp).2.2.1, (ih p hp).2.2.2.1⟩) (m := []) (by intro p hp; simp at hp)
    exact this
theorem k6_len {ds : List Door} (d3 : ds.length ≤ 3) {n : Nat} (hn : n ≤ 14) {m : List (MF.CKey × Int)} (nd : MS.Nd m) (h : ∀ p ∈ m, K6 ds n p.1) : m.length ≤ 303750 := by
  have key := MF.nd_len nd (fun k => (k.2.2.2, k.2.1, k.2.2.1)) ((MF.allSteps ds).flatMap fun s => MF.six.flatMap fun p => MF.six.map fun f => (some s, p, f)) (fun p hp => by
    obtain ⟨p0, f0, p6, f6, s, hs, e, _⟩ := h p hp
    refine List.mem_flatMap.mpr ⟨s, hs, List.mem_flatMap.mpr ⟨p.1.2.1, MF.six_mem p0 hn p6, List.mem_map.mpr ⟨p.1.2.2.1, MF.six_mem f0 hn f6, ?_⟩⟩⟩
    rw [e]) (fun p hp q hq e => by
    obtain ⟨_, _, _, _, s, hs, e1, e2⟩ := h p hp
    obtain ⟨_, _, _, _, s', hs', e3, e4⟩ := h q hq
    injection e with ea eb
    injection eb with eb ec
    rw [e1, e3] at ea
    cases ea
    exact Prod.ext (by rw [e2, e4]) (Prod.ext eb (Prod.ext ec (by rw [e1, e3]))))
  refine Nat.le_trans key ?_
  have l1 : ∀ s : MF.Step, (MF.six.flatMap fun p => MF.six.map fun f => ((some s : Option MF.Step), p, f)).length ≤ 225 * 225 := by
    intro s
    have := len_flat (c := 225) (f := fun p : Int => MF.six.map fun f => ((some s : Option MF.Step), p, f)) (fun p => by rw [List.length_map, MF.six_len]; exact Nat.le_refl _) MF.six
    rw [MF.six_len] at this
    exact this
  have := len_flat (c := 225 * 225) l1 (MF.allSteps ds)
  rw [MF.steps_len] at this
  refine Nat.le_trans this ?_
  have : 225 * 225 * (2 * ds.length) ≤ 225 * 225 * 6 := Nat.mul_le_mul_left _ (by omega)
  omega
/-- small numbers, lengths to 14 -/
theorem cp14 {rooms : Int} {ds : List Door} (hw : HW rooms ds) (d3 : ds.length ≤ 3) (h3 : ∀ d ∈ ds, d.2.1.natAbs ≤ 3 ∧ d.2.2.2.natAbs ≤ 3) (room : Int) {L : Nat} (hL : L ≤ 14) : CP ds room L where
  l40 := by omega
  sm := fun i hi is his => by
    have hn := lvb hw.hk h3
    have k6 := inc_k6 hw.ok hn (MF.cd_clN hw.ok (MF.cd_start ds room) i) (clN_six hw.ok hn room i)
    have := k6_len d3 (n := i + 1) (by omega) (MS.nd_adds is (m := []) (by simp [MS.Nd])) (MS.key_adds (P := K6 ds (i + 1)) is (fun p hp => k6 p (his.subset hp)) (m := []) (by intro p hp; simp at hp))
    exact small_lt (m := 400000) (by omega) (by omega)
  bk := fun i hi p hp => by
    have hn := lvb hw.hk h3
    obtain ⟨h1, h2⟩ := clN_six hw.ok hn room i p hp
    have h5 : (6 : Int) ^ i ≤ 6 ^ 14 := MF.pow_mono (by decide) (by omega)
    have h6 : (6 : Int) ^ 14 = 78364164096 := by decide
    have h7 : (0 : Int) < 6 ^ i := Int.pow_pos (by decide)
    have h8 := Int.le_of_dvd h7 h1
    have h9 := Int.le_of_dvd h7 h2
    omega
  rt := fun i => by
    have hn := lvb hw.hk h3
    obtain ⟨_, h⟩ := MF.cls_pow hw.ok (b := 3) (by decide) (fun s hs => by have := hn s hs; omega) room L i
    have h2 : 2 * ds.length * L ≤ 84 := Nat.le_trans (Nat.mul_le_mul (show 2 * ds.length ≤ 6 by omega) hL) (by decide)
    have h3 : (3 : Int) ^ (2 * ds.length * L) ≤ 3 ^ 84 := MF.pow_mono (by decide) h2
    have h4 : (3 : Int) ^ 84 < 2 ^ 320 := by decide +kernel
    omega
/-- what is known of the keys of still feet, where lengths fit -/
def KS (ds : List Door) (ln : Int → Int) (c : Int) (k : MF.SKey) : Prop := (∃ s ∈ MF.allSteps ds, k.2.2 = some s ∧ k.1 = MF.far ds s) ∧ MF.aux k.2.1 * ln k.1 = c
theorem inc_ks {rooms : Int} {ds : List Door} (ok : MF.Ok rooms ds) {ln : Int → Int} (F : MF.Fit rooms ds ln) {c : Int} {m : List (MF.SKey × Int)} (h : ∀ p ∈ m, MF.aux p.1.2.1 * ln p.1.1 = c) : ∀ p ∈ m.flatMap (fun z => MF.stillInc ds z.1 z.2), KS ds ln c p.1 := by
  intro p hp
  obtain ⟨q, hq, hp⟩ := List.mem_flatMap.mp hp
  have hc := h q hq
  unfold MF.stillInc MF.beyond at hp
  obtain ⟨z, hz, hp⟩ := List.mem_flatMap.mp hp
  obtain ⟨s, hs, rfl⟩ := List.mem_map.mp hz
  obtain ⟨hs, hnear⟩ := MF.mem_stepsOf.mp hs
  split at hp
  · rename_i hd
    simp only [List.mem_singleton] at hp
    subst hp
    refine ⟨⟨s, hs, rfl, rfl⟩, ?_⟩
    have lv0 := MF.lv_ne ok hs
    obtain ⟨y, hy⟩ : MF.lv ds s ∣ q.1.2.1 := Int.dvd_iff_fmod_eq_zero.mpr hd
    have e : q.1.2.1.fdiv (MF.lv ds s) = y := by rw [hy]; exact Int.mul_fdiv_cancel_left _ lv0
    show MF.aux (q.1.2.1.fdiv (MF.lv ds s) * MF.ar ds s) * ln (MF.far ds s) = c
    rw [e, MF.aux_mul, ← hc, hy, MF.aux_mul]
    have f := F.fit s hs
    rw [hnear] at f
    calc MF.aux y * MF.aux (MF.ar ds s) * ln (MF.far ds s) = MF.aux y * (MF.aux (MF.ar ds s) * ln (MF.far ds s)) := by ac_rfl
      _ = MF.aux y * (MF.aux (MF.lv ds s) * ln q.1.1) := by rw [f]
      _ = _ := by ac_rfl
  · exact absurd hp (by simp)
theorem stillN_c {rooms : Int} {ds : List Door} (ok : MF.Ok rooms ds) {ln : Int → Int} (F : MF.Fit rooms ds ln) (room pulls : Int) : ∀ n, ∀ p ∈ MF.stillN ds n [((room, pulls, none), 1)], MF.aux p.1.2.1 * ln p.1.1 = MF.aux pulls * ln room
  | 0 => by
    intro p hp
    have hp : p ∈ [(((room, pulls, none) : MF.SKey), (1 : Int))] := hp
    have : p = ((room, pulls, none), 1) := by simpa using hp
    subst this
    rfl
  | n + 1 => by
    have ih := inc_ks ok F (stillN_c ok F room pulls n)
    have := MS.key_adds (P := fun k : MF.SKey => MF.aux k.2.1 * ln k.1 = MF.aux pulls * ln room) ((MF.stillN ds n [((room, pulls, none), 1)]).flatMap fun p => MF.stillInc ds p.1 p.2) (fun p hp => (ih p hp).2) (m := []) (by intro p hp; simp at hp)
    exact this
theorem smn {rooms : Int} {ds : List Door} (hw : HW rooms ds) {ln : Int → Int} (F : MF.Fit rooms ds ln) (room pulls : Int) {L : Nat} (hL : L ≤ 40) : SmN ds room pulls L := by
  refine ⟨hL, fun i hi is his => ?_⟩
  have ks := inc_ks hw.ok F (stillN_c hw.ok F room pulls i)
  have nd := MS.nd_adds is (m := []) (by simp [MS.Nd])
  have hk := MS.key_adds (P := KS ds ln (MF.aux pulls * ln room)) is (fun p hp => ks p (his.subset hp)) (m := []) (by intro p hp; simp at hp)
  have key := MF.nd_len nd (fun k => (k.2.2, decide (k.2.1 < 0))) ((MF.allSteps ds).flatMap fun s => [(some s, true), (some s, false)]) (fun p hp => by
    obtain ⟨⟨s, hs, e, _⟩, _⟩ := hk p hp
    refine List.mem_flatMap.mpr ⟨s, hs, ?_⟩
    rw [e]
    cases decide (p.1.2.1 < 0) <;> simp) (fun p hp q hq e => by
    obtain ⟨⟨s, hs, e1, e2⟩, e5⟩ := hk p hp
    obtain ⟨⟨s', hs', e3, e4⟩, e6⟩ := hk q hq
    injection e with ea eb
    rw [e1, e3] at ea
    cases ea
    have er : p.1.1 = q.1.1 := by rw [e2, e4]
    have ep : p.1.2.1 = q.1.2.1 := by
      rw [er, ← e6] at e5
      have l0 := F.pos q.1.1 (by rw [e4]; exact (MF.far_room hw.ok hs).1) (by rw [e4]; exact (MF.far_room hw.ok hs).2)
      have h1 := Int.eq_of_mul_eq_mul_right (show ln q.1.1 ≠ 0 by omega) e5
      unfold MF.aux at h1
      by_cases h2 : p.1.2.1 < 0
      · have h3 : q.1.2.1 < 0 := by
          rw [decide_eq_true h2] at eb
          exact of_decide_eq_true eb.symm
        omega
      · have h3 : ¬ q.1.2.1 < 0 := by
          rw [decide_eq_false h2] at eb
          exact of_decide_eq_false eb.symm
        omega
    exact Prod.ext er (Prod.ext ep (by rw [e1, e3])))
  have h2 := len_flat (c := 2) (f := fun s : MF.Step => [((some s : Option MF.Step), true), (some s, false)]) (fun s => Nat.le_refl 2) (MF.allSteps ds)
  rw [MF.steps_len] at h2
  have := hw.d4
  exact small_lt (m := 100) (by omega) (by omega)
end Kw

set_option Elab.async false
set_option linter.all false
set_option maxRecDepth 100000
set_option maxHeartbeats 4000000
namespace Kw
open PySem PySem.Spec PyProof.Rows L2 Y StX
local macro_rules | `(tactic| trivial) => `(tactic| first
  | with_reducible exact ev_int
  | with_reducible exact ev_bl
  | with_reducible exact ev_non
  | with_reducible exact ea_nil
  | with_reducible exact et_yes
  | ((with_reducible apply ev_var); exact rfl; first | exact .num _ | exact .bl _ | exact .non | assumption)
  | ((with_reducible apply ea_cons); trivial; trivial)
  | ((with_reducible apply ev_tup); trivial; first | decide | (show _ ≤ sizeLine; simp; decide))
  | ((with_reducible apply ev_ix0); trivial; trivial; exact rfl)
  | ((with_reducible apply ev_ix1); trivial; trivial; exact rfl)
  | ((with_reducible apply ev_ix2); trivial; trivial; exact rfl)
  | ((with_reducible apply ev_ix3); trivial; trivial; exact rfl)
  | ((with_reducible apply ev_opI); trivial; trivial)
  | ((with_reducible apply ev_opB); trivial; trivial)
  | ((with_reducible apply ev_eqI); trivial; trivial)
  | ((with_reducible apply ev_neI); trivial; trivial)
  | ((with_reducible apply ev_un); trivial)
  | ((with_reducible apply ev_chain); trivial; trivial; trivial)
  | ((with_reducible apply ev_abs); trivial)
  | ((with_reducible apply ev_intI); trivial)
  | ((with_reducible apply ev_gcd); trivial; trivial)
  | ((with_reducible apply ev_lenT); trivial)
  | ((with_reducible apply et_test); trivial)
  | ((with_reducible apply et_B); trivial)
  | ((with_reducible apply et_not); trivial)
  | ((with_reducible apply et_and); trivial; (intro _; trivial))
  | ((with_reducible apply et_or); trivial; (intro _; trivial))
  | ((with_reducible apply ev_andV); trivial; (intro _; trivial))
  | ((with_reducible apply ev_orV); trivial; (intro _; trivial))
  | ((with_reducible apply ev_notV); trivial)
  | ((with_reducible apply ev_isN); trivial)
  | ((with_reducible apply ev_notN); trivial)
  | ((with_reducible apply ev_isiII); trivial)
  | ((with_reducible apply ev_isiIB); trivial)
  | ((with_reducible apply ev_isiTT); trivial)
  | ((with_reducible apply ev_isH); trivial))
section
variable {C : Addr} {K : PySem.W.Frag} {te tf : TE} {tt : TT} {t rest : TS} {as : TA} {g : TG} {Ds : Ends} {σ : L2.St} {H : Hp} {ns ms : List Int} {a : Addr} {b : Bool} {i : Nat}
theorem st_rd (Pc : V → Hp → Prop) (h : ∀ Q' : VK, (∀ v H', Pc v H' → Q' v H') → te σ H Q') (k : ∀ v H', Pc v H' → rest Ds (σ.set i (some v)) H') : tSeq (tAsg te (gName i)) rest Ds σ H := h _ k
theorem ta_ci {x : V} {tl : TE} {Q : List V → Hp → Prop} (h : tl σ H fun v H2 => Q [x, v] H2) : (tCons (tC x) (tCons tl tNil)) σ H Q := h
theorem st_ifc (h : EvT tt σ H b) (h1 : b = true → ∀ H2, Same H H2 → Ds.ct σ H2) (k : b = false → ∀ H2, Same H H2 → rest Ds σ H2) : tSeq (tIfS tt tCont tNext) rest Ds σ H := by
  apply st_if h
  · exact h1
  · exact k
theorem st_tupA (h : as σ H fun vs H2 => vs.length ≤ sizeLine ∧ ∀ p, H2 p = none → g (.ref p) σ (upd H2 p (.tup vs)) (rest Ds)) : tSeq (tAsg (tTup as) g) rest Ds σ H := h
theorem et_neNew (h : EvL C te σ H (ns.map D.num)) : EvT (tTest (tOp (rNeD K) te (tLst tNil))) σ H (!ns.isEmpty) := fun H1 s Q q =>
  h H1 s _ fun l vs H2 s2 hn h2 t2 => ⟨Nat.zero_le _, fun x hx => by
    have sx : Same H2 (upd H2 x (.lst [])) := Same.new hx
    have hs : SeqAt.shaped (.list []) = true := rfl
    have e : PyData.eqv (.list (pyA (ns.map D.num))) (.list []) = ns.isEmpty := by cases ns <;> rfl
    refine ⟨.list (pyA (ns.map D.num)), .list [], .lst (.inl (.inl (sx _ _ h2))) (TpA.dp (t2.same sx) (flatA_nums ns)), .lst (.inl (.inl upd_same)) .nil, by rw [pyA_nums]; exact PySem.W.ke_shaped_ints ns, hs, _, rfl, ?_⟩
    rw [e]
    exact q _ (Same.newer s2 hx)⟩
theorem ev_eqNew (h : EvL C te σ H (ns.map D.num)) (h' : EvL C tf σ H (ms.map D.num)) : EvD C (tOp (rEqD K) te tf) σ H (.bl (PyData.eqv (.list (pyA (ns.map D.num))) (.list (pyA (ms.map D.num))))) := fun H1 s Q q =>
  h H1 s _ fun l vs H2 s2 hn h2 t2 => h' H2 (Same.trans s s2) _ fun l' vs' H3 s3 hn3 h3 t3 =>
    ⟨.list (pyA (ns.map D.num)), .list (pyA (ms.map D.num)), .lst (.inl (.inl (s3 _ _ h2))) (TpA.dp (t2.same s3) (flatA_nums ns)), .lst (.inl (.inl h3)) (TpA.dp t3 (flatA_nums ms)), by rw [pyA_nums]; exact PySem.W.ke_shaped_ints ns, by rw [pyA_nums]; exact PySem.W.ke_shaped_ints ms, q _ H3 (Same.trans s2 s3) (.bl _)⟩
theorem ev_lenSq (ha : EvV te σ H (.ref a)) (sq : ∀ H', Same H H' → SqL K H' a (ns.map V.int)) : EvD C (tCB (rLenS K) (tCons te tNil)) σ H (.num (ns.length : Int)) := fun H1 s Q q =>
  ha H1 s _ fun H2 s2 => by
    refine ⟨a, _, rfl, .inl (sq _ (Same.trans s s2)), ?_⟩
    rw [List.length_map]
    exact q _ H2 s2 (.num _)
theorem ev_min {ta tb : TE} {i j : Int} (ha : EvD C ta σ H (.num i)) (hb : EvD C tb σ H (.num j)) : EvD C (tCB (fun xs H Q => ∃ i j, xs = [V.int i, V.int j] ∧ Q (V.int (if j < i then j else i)) H) (tCons ta (tCons tb tNil))) σ H (.num (if j < i then j else i)) := fun H1 s Q q =>
  ha H1 s _ fun v H2 s2 t2 => hb H2 (Same.trans s s2) _ fun w H3 s3 t3 => by
    cases tp_num t2; cases tp_num t3
    exact ⟨i, j, rfl, q _ H3 (Same.trans s2 s3) (.num _)⟩
theorem ev_max {ta tb : TE} {i j : Int} (ha : EvD C ta σ H (.num i)) (hb : EvD C tb σ H (.num j)) : EvD C (tCB (fun xs H Q => ∃ i j, xs = [V.int i, V.int j] ∧ Q (V.int (if j > i then j else i)) H) (tCons ta (tCons tb tNil))) σ H (.num (if j > i then j else i)) := fun H1 s Q q =>
  ha H1 s _ fun v H2 s2 t2 => hb H2 (Same.trans s s2) _ fun w H3 s3 t3 => by
    cases tp_num t2; cases tp_num t3
    exact ⟨i, j, rfl, q _ H3 (Same.trans s2 s3) (.num _)⟩
theorem sq_same {H' : Hp} (sq : SqL K H a (ns.map V.int)) (s : Same H H') : SqL K H' a (ns.map V.int) := by
  rcases sq with (sq | ⟨o, sq⟩) | sq
  · exact .inl (.inl (s _ _ sq))
  · exact .inl (.inr ⟨o, s _ _ sq⟩)
  · exact .inr sq
end
section
variable {P : Program} {w : World} {K : PySem.W.Frag} {mg : Str → Option Value} {base : Heap} {C : Addr}
theorem sc_law : FnScope ["script", "state", "turn", "rooms_here", "doors_here", "near", "first", "far", "second", "house", "room_here", "found", "rises", "length_here", "kept", "item", "later"] ["script"] (defScope s_law) := ⟨rfl, rfl, rfl, by decide +kernel, rfl, by decide +kernel, by decide +kernel⟩
abbrev sp_law (K : PySem.W.Frag) : Sp := fun vs H Q _ => ∃ (a : Addr) (ns : List Int), vs = [.ref a] ∧ SqL K H a (ns.map V.int) ∧ ns.length ≤ 63 ∧ ∀ H', Q (.bl true) H'
theorem okB {x : Str} {st : Stmt} {N ps : List Str} {k : Nat} {sp : Sp} {f : Addr} {fd : FuncData} (F : FunD K x x (defArgs st) (defBody st) (defScope st) [] [] f fd) (S : FnScope N ps (defScope st)) (len : ∀ vs H Q E, sp vs H Q E → vs.length = ps.length)
    (body : ∀ (cdv : Value) (A : Around) (outer : List Env) (s : Shared) (H : Hp) (vs : List V) (Q : VK) (E : XK), Room k (A.deeper (envOfC x (defScope st) s.heap.objs.size f cdv)) → sp vs H Q E →
      ∃ t, PSs (cxOf CX0 P w K mg base N x (defScope st) f cdv A outer s H E).nox (defBody st) t ∧ t { nx := fun _ H' => Q .non H', rt := Q } (start N vs) H) : FnOk P w K mg base CX0 (k + 1) f fd ps sp := F.ok S len fun cdv A outer s H vs Q E hr h => by
  obtain ⟨t, h1, h2⟩ := body cdv A outer s H vs Q E hr h
  exact ⟨t, h1.nox, h2⟩
theorem ok_law {f : Addr} {fd : FuncData} (F : FunD K "law" "law" (defArgs s_law) (defBody s_law) (defScope s_law) [] [] f fd) (B : Bi K mg C) (h__law_begun : Cl P w K mg base "_law_begun" 1 ["script"] (sp__law_begun K)) (h__law_fitting_doors : Cl P w K mg base "_law_fitting_doors" 5 ["state", "rooms_here", "more"] (sp__law_fitting_doors C)) (h__law_gr_doors : Cl P w K mg base "_law_gr_doors" 5 ["state", "rooms_here", "more", "sizes_here"] (sp__law_gr_doors C)) (h_House : ClM P w K mg base C 5 ["self", "rooms", "doors"] (sp_House C)) (h__law_draw : Cl P w K mg base "_law_draw" 2 ["state", "size_here"] sp__law_draw)
    (h__law_multiple : Cl P w K mg base "_law_multiple" 2 ["several"] sp__law_multiple) (h_foot_return : Cl P w K mg base "foot_return" 6 ["house", "room", "length"] (sp_foot_return C)) (h_foot_classes_many : Cl P w K mg base "foot_classes_many" 6 ["house", "room", "length"] (sp_foot_classes_many C)) (h_feet_many : Cl P w K mg base "feet_many" 5 ["house", "room", "length"] (sp_feet_many C)) (h_still_many : Cl P w K mg base "still_many" 5 ["house", "room", "pulls", "length"] (sp_still_many C))
    (h_kept_pulls : Cl P w K mg base "kept_pulls" 4 ["house"] (sp_kept_pulls C)) (h_lengths_of : Cl P w K mg base "lengths_of" 4 ["house"] (sp_lengths_of C)) : FnOk P w K mg base CX0 8 f fd ["script"] (sp_law K) := by
  refine okB F sc_law (fun vs H Q E h => ?_) (fun cdv A outer s H vs Q E hr h => ?_)
  · obtain ⟨a, ns, rfl, _⟩ := h; rfl
  · obtain ⟨a, ns, rfl, sq, hl, q⟩ := h
    refine ⟨_, (pss_cons (ps_set (i := 1) sc_law.nd rfl (by first | exact Or.inl rfl | exact Or.inr rfl) (pe_cl h__law_begun (hr.mono (by decide)) (by rfl) (pa_cons (pv 0) pa_nil)))
      (pss_cons (ps_for PassesOwn.never rfl (pi_range1 (by rfl) B.range (pa_cons (pe_op op_add pe_int (pe_callB (call_min2 rfl) (by rfl) B.min (by decide +kernel) (pa_cons (pe_callB call_lenS (by rfl) B.len (by decide +kernel) (pa_cons (pv 0) pa_nil)) (pa_cons pe_int pa_nil)))) pa_nil)) (pg_name (i := 2) sc_law.nd rfl (by first | exact Or.inl rfl | exact Or.inr rfl)) (pss_cons (ps_set (i := 3) sc_law.nd rfl (by first | exact Or.inl rfl | exact Or.inr rfl) (pe_op op_add pe_int (pe_cl h__law_draw (hr.mono (by decide)) (by rfl) (pa_cons (pv 1) (pa_cons pe_int pa_nil)))))
      (pss_cons (ps_set (i := 4) sc_law.nd rfl (by first | exact Or.inl rfl | exact Or.inr rfl) (pe_ifExp (pt_cmpR op_gt (pe_cl h__law_draw (hr.mono (by decide)) (by rfl) (pa_cons (pv 1) (pa_cons pe_int pa_nil))) pe_int (nomark _)) (pe_ix ix_tup (pe_cl h__law_fitting_doors (hr.mono (by decide)) (by rfl) (pa_cons (pv 1) (pa_cons (pv 3) (pa_cons pe_int pa_nil)))) pe_int (fun _ _ => rfl)) (pe_cl h__law_gr_doors (hr.mono (by decide)) (by rfl) (pa_cons (pv 1) (pa_cons (pv 3) (pa_cons pe_int (pa_cons (pe_lst (pa_cons pe_int (pa_cons pe_int (pa_cons pe_int pa_nil)))) pa_nil)))))))
      (pss_cons (ps_if (pt_cmpR (op_neD hr.units) (pe_lc (own := [("near", 5), ("first", 6), ("far", 7), ("second", 8)])   (g := gTup K 4 _) rfl sc_law.nd (pi_tup (pv 4)) (blkOk_by (own := [("near", 5), ("first", 6), ("far", 7), ("second", 8)]) (N := ["script", "state", "turn", "rooms_here", "doors_here", "near", "first", "far", "second", "house", "room_here", "found", "rises", "length_here", "kept", "item", "later"]) (sc := defScope s_law) (by decide +kernel)) (fun _ _ _ _ _ => (pg_tup (by rfl) (pgs_cons (pg_name (i := 5) sc_law.nd rfl (by first | exact Or.inl rfl | exact Or.inr rfl)) (pgs_cons (pg_name (i := 6) sc_law.nd rfl (by first | exact Or.inl rfl | exact Or.inr rfl)) (pgs_cons (pg_name (i := 7) sc_law.nd rfl (by first | exact Or.inl rfl | exact Or.inr rfl)) (pgs_cons (pg_name (i := 8) sc_law.nd rfl (by first | exact Or.inl rfl | exact Or.inr rfl)) pgs_nil)))))) (fun _ _ _ _ _ => (pts_one (pt_cmpR op_gt (pe_callB (call_max2 rfl) (by rfl) B.max (by decide +kernel) (pa_cons (pe_callB call_abs (by rfl) B.abs (by decide +kernel) (pa_cons (pv 6) pa_nil)) (pa_cons (pe_callB call_abs (by rfl) B.abs (by decide +kernel) (pa_cons (pv 8) pa_nil)) pa_nil))) pe_int (nomark _)))) (fun _ _ _ _ _ => pe_int)) (pe_lst pa_nil) (nomark _)) (pss_one ps_continue) pss_nil)
      (pss_cons (ps_asg (pe_tup (pa_cons (pe_mkc h_House (hr.mono (by decide)) (by rfl) B.House (pa_cons (pv 3) (pa_cons (pv 4) pa_nil))) (pa_cons (pe_cl h__law_draw (hr.mono (by decide)) (by rfl) (pa_cons (pv 1) (pa_cons (pv 3) pa_nil))) (pa_cons pe_int (pa_cons (pe_lst pa_nil) pa_nil))))) (pg_tup (by rfl) (pgs_cons (pg_name (i := 9) sc_law.nd rfl (by first | exact Or.inl rfl | exact Or.inr rfl)) (pgs_cons (pg_name (i := 10) sc_law.nd rfl (by first | exact Or.inl rfl | exact Or.inr rfl)) (pgs_cons (pg_name (i := 11) sc_law.nd rfl (by first | exact Or.inl rfl | exact Or.inr rfl)) (pgs_cons (pg_name (i := 12) sc_law.nd rfl (by first | exact Or.inl rfl | exact Or.inr rfl)) pgs_nil))))))
      (pss_cons (ps_for PassesOwn.never rfl (pi_range1 (by rfl) B.range (pa_cons (pe_op op_add (pe_op op_mul pe_int (pe_callB call_lenS (by rfl) B.len (by decide +kernel) (pa_cons (pv 4) pa_nil))) pe_int) pa_nil)) (pg_name (i := 13) sc_law.nd rfl (by first | exact Or.inl rfl | exact Or.inr rfl)) (pss_cons (ps_set (i := 11) sc_law.nd rfl (by first | exact Or.inl rfl | exact Or.inr rfl) (pe_cl h__law_multiple (hr.mono (by decide)) (by rfl) (pa_cons (pe_lst (pa_cons (pv 11) (pa_cons (pe_cl h_foot_return (hr.mono (by decide)) (by rfl) (pa_cons (pv 9) (pa_cons (pv 10) (pa_cons (pv 13) pa_nil)))) pa_nil))) pa_nil)))
      (pss_one (ps_expr (pe_bm PySem.F.plainAttrs_list PySem.F.slot_list_append PySem.F.type_list_append mt_append (pv 12) (pa_cons (pv 11) pa_nil))))))
      (pss_cons (ps_set (i := 14) sc_law.nd rfl (by first | exact Or.inl rfl | exact Or.inr rfl) (pe_cl h_kept_pulls (hr.mono (by decide)) (by rfl) (pa_cons (pv 9) pa_nil)))
      (pss_one (ps_if (pt_cmp (pc_notN (pv 14)) rfl) (pss_cons (ps_if (PW.pt (pw_or (pt_cmpR op_ne (pv 11) (pe_ix ix_tup (pv 14) (pv 10) (fun _ _ => rfl)) (nomark _)) (pw_or1 (pt_cmpR (op_neD hr.units) (pe_lc (own := [("item", 15)])  (tt := tTest (tOp rNe (tOp _ (tCB _ (tCons (tOp (rIxT K) _ _) tNil)) _) _)) rfl sc_law.nd (pi_list (pv 12)) (blkOk_by (own := [("item", 15)]) (N := ["script", "state", "turn", "rooms_here", "doors_here", "near", "first", "far", "second", "house", "room_here", "found", "rises", "length_here", "kept", "item", "later"]) (sc := defScope s_law) (by decide +kernel)) (fun _ _ _ _ _ => (pg_name (i := 15) sc_law.nd rfl (by first | exact Or.inl rfl | exact Or.inr rfl))) (fun _ _ _ _ _ => (pts_one (pt_cmpR op_ne (pe_op op_modN (pe_callTy call_int1 (by rfl) B.int (by decide +kernel) (pa_cons (pe_ix ix_tup (pv 14) (pv 10) (fun _ _ => rfl)) pa_nil)) (pv 15)) pe_int (nomark _)))) (fun _ _ _ _ _ => pe_int)) (pe_lst pa_nil) (nomark _))))) (pss_one (ps_ret pe_bl)) pss_nil)
      (pss_one (ps_if (PW.pt (pw_or (pt_cmp (pc_isN (pe_cl h_lengths_of (hr.mono (by decide)) (by rfl) (pa_cons (pv 9) pa_nil))) rfl) (pw_or1 (pt_cmpR op_ne (pe_cl h_still_many (hr.mono (by decide)) (by rfl) (pa_cons (pv 9) (pa_cons (pv 10) (pa_cons (pv 11) (pa_cons pe_int pa_nil))))) (pe_cl h_feet_many (hr.mono (by decide)) (by rfl) (pa_cons (pv 9) (pa_cons (pv 10) (pa_cons pe_int pa_nil)))) (nomark _))))) (pss_one (ps_ret pe_bl)) pss_nil))) (pss_cons (ps_set (i := 16) sc_law.nd rfl (by first | exact Or.inl rfl | exact Or.inr rfl) (pv 11))
      (pss_cons (ps_for PassesOwn.never rfl (pi_range2 (by rfl) B.range (pa_cons (pe_op op_add (pe_op op_mul pe_int (pe_callB call_lenS (by rfl) B.len (by decide +kernel) (pa_cons (pv 4) pa_nil))) pe_int) (pa_cons pe_int pa_nil))) (pg_name (i := 13) sc_law.nd rfl (by first | exact Or.inl rfl | exact Or.inr rfl)) (pss_one (ps_set (i := 16) sc_law.nd rfl (by first | exact Or.inl rfl | exact Or.inr rfl) (pe_cl h__law_multiple (hr.mono (by decide)) (by rfl) (pa_cons (pe_lst (pa_cons (pv 16) (pa_cons (pe_cl h_foot_return (hr.mono (by decide)) (by rfl) (pa_cons (pv 9) (pa_cons (pv 10) (pa_cons (pv 13) pa_nil)))) pa_nil))) pa_nil)))))
      (pss_one (ps_if (pt_cmpR op_le (pv 16) (pv 11) (nomark _)) (pss_one (ps_ret pe_bl)) pss_nil)))))))))))))
      (pss_cons (ps_set (i := 9) sc_law.nd rfl (by first | exact Or.inl rfl | exact Or.inr rfl) (pe_mkc h_House (hr.mono (by decide)) (by rfl) B.House (pa_cons pe_int (pa_cons (pe_tup (pa_cons (pe_tup (pa_cons pe_int (pa_cons pe_int (pa_cons pe_int (pa_cons pe_int pa_nil))))) pa_nil)) pa_nil))))
      (pss_one (ps_ret (pe_and (pe_cmpR (op_eqD hr.units) (pe_lc (own := [("length_here", 13)]) (tt := tYes)  rfl sc_law.nd (pi_tup (pe_tup (pa_cons pe_int (pa_cons pe_int (pa_cons pe_int pa_nil))))) (blkOk_by (own := [("length_here", 13)]) (N := ["script", "state", "turn", "rooms_here", "doors_here", "near", "first", "far", "second", "house", "room_here", "found", "rises", "length_here", "kept", "item", "later"]) (sc := defScope s_law) (by decide +kernel)) (fun _ _ _ _ _ => (pg_name (i := 13) sc_law.nd rfl (by first | exact Or.inl rfl | exact Or.inr rfl))) (fun _ _ _ _ _ => pts_nil) (fun _ _ _ _ _ => (pe_cl h_foot_return (hr.mono (by decide)) (by rfl) (pa_cons (pv 9) (pa_cons pe_int (pa_cons (pv 13) pa_nil)))))) (pe_lst (pa_cons pe_int (pa_cons pe_int (pa_cons pe_int pa_nil)))) (nomark _)) (pe_one (pe_cmpR op_eq (pe_cl h_foot_classes_many (hr.mono (by decide)) (by rfl) (pa_cons (pv 9) (pa_cons pe_int (pa_cons pe_int pa_nil)))) pe_int (nomark _))))))))), ?_⟩
    refine ⟨_, rfl, a, ns, rfl, sq, by omega, fun p g c H1 s1 hp hg sa => ?_⟩
    have sq1 := sq_same sq s1
    dsimp only [gName]
    have min_nn : ∃ n : Nat, (n : Int) = 3 + (if (4 : Int) < (ns.length : Int) then 4 else (ns.length : Int)) ∧ n ≤ 7 := by
      by_cases h : (4 : Int) < (ns.length : Int)
      · exact ⟨7, by rw [if_pos h]; rfl, Nat.le_refl _⟩
      · exact ⟨3 + ns.length, by rw [if_neg h]; omega, by omega⟩
    obtain ⟨n, hn, hn8⟩ := min_nn
    refine st_for (C := C) (wi := _) (ei_rng1 (n := n) (C := C) ?_ (by omega)) (fun G i σ' H' => ∃ x2 x3 x4 x5 x6 x7 x8 x9 x10 x11 x12 x13 x14 x15 x16, σ' = [some (.ref a), some (.ref p), x2, x3, x4, x5, x6, x7, x8, x9, x10, x11, x12, x13, x14, x15, x16] ∧ But2 p g G H' ∧ SA H' p g c (1000000000 - 1000 * i)) ?_ ?_ ?_ ?_
    · rw [hn]
      exact ea_cons (ev_opI (g := fun i j => i + j) ev_int (ev_min (ev_lenSq (evv_var rfl) fun H' s' => sq_same sq1 s') ev_int)) ea_nil
    · intro G sG
      exact ⟨_, _, _, _, _, _, _, _, _, _, _, _, _, _, _, rfl, But2.refl _ _ _, sa.same sG⟩
    · rintro G i σ' H' sG ⟨x2, x3, x4, x5, x6, x7, x8, x9, x10, x11, x12, x13, x14, x15, x16, rfl, b, sa'⟩
      exact ⟨(sa.same sG).stay b, b.keeps sa.sp sa.sg (by simp) (by simp)⟩
    · rintro G i d x σ' H' sG hi ⟨x2, x3, x4, x5, x6, x7, x8, x9, x10, x11, x12, x13, x14, x15, x16, rfl, b, sa'⟩ tx
      obtain ⟨hi2, rfl⟩ := rng_item hi
      cases tp_num tx
      refine ⟨_, gb_name, ?_⟩
      -- rooms
      refine ⟨_, rfl, p, g, c, 1000000000 - 1000 * i - 10, 3, rfl, sa'.mono (by omega), ⟨by decide, by decide⟩, fun k H2 k0 k1 b2 sa2 => ⟨_, _, rfl, rfl, ?_⟩⟩
      have bG2 := But2.trans b b2
      dsimp only [gName, List.set]
      have r1 : 1 ≤ 1 + k := by omega
      have r3 : 1 + k ≤ 3 := by omega
      generalize 1 + k = rooms at r1 r3 ⊢
      -- doors
      refine st_rd (i := 4) (fun v H' => ∃ ds : List Door, But2 p g H2 H' ∧ SA H' p g c (1000000000 - 1000 * i - 300) ∧ Tp C H' v (.tup (ds.map doorD)) ∧ HOk rooms ds ∧ (rooms - 1 ≤ ((ds.length : Nat) : Int) ∧ ((ds.length : Nat) : Int) ≤ rooms - 1 + 1) ∧ ((∃ ln, MF.Fit rooms ds ln) ∨ ∀ d ∈ ds, d.2.1.natAbs ≤ 3 ∧ d.2.2.2.natAbs ≤ 3)) ?_ ?_
      · intro Q' hQ'
        refine ⟨_, rfl, p, g, c, 1000000000 - 1000 * i - 20, 3, rfl, sa2.mono (by omega), ⟨by decide, by decide⟩, fun k' H3 k0' k1' b3 sa3 => ⟨_, _, rfl, rfl, _, rfl, ?_⟩⟩
        by_cases hk : k' > 0
        · rw [decide_eq_true hk]
          refine iteT ?_
          refine ⟨_, rfl, _, rfl, p, g, c, 1000000000 - 1000 * i - 300, rooms, 1, rfl, sa3.mono (by omega), ⟨r1, by omega⟩, ⟨by decide, by decide⟩, fun v ds ls H4 b4 sa4 tv hok hlen hfit => ?_⟩
          obtain ⟨aa, xs, rfl, hx, tr⟩ := tp_tup tv
          obtain ⟨v1, _, rfl, tr1, tr⟩ := tpa_cons tr
          exact ⟨aa, _, 0, v1, rfl, rfl, .inl (.inl hx), atI_nat (j := 0) rfl, hQ' v1 H4 ⟨ds, But2.trans b3 b4, sa4, tr1, hok, hlen, .inl hfit⟩⟩
        · rw [decide_eq_false hk]
          refine iteF ?_
          have evl3 : EvL C (tLst (tCons (tC (.int 1)) (tCons (tC (.int 2)) (tCons (tC (.int 3)) tNil)))) [some (.ref a), some (.ref p), some (.int (i : Int)), some (.int rooms), x4, x5, x6, x7, x8, x9, x10, x11, x12, x13, x14, x15, x16] H3 (([1, 2, 3] : List Int).map D.num) := evl_lst (ea_cons ev_int (ea_cons ev_int (ea_cons ev_int ea_nil))) (small_len (m := 3) (Nat.le_refl 3) (by omega))
          refine ⟨_, rfl, _, rfl, ?_⟩
          dsimp only
          refine ta_ci ?_
          refine evl3 H3 (Same.refl _) _ fun bb vs H4 s4 hn4 h4 t4 => ?_
          have sa4 := sa3.same s4
          have bp : bb ≠ p := fun z => sa3.sp (by rw [← z]; exact hn4)
          have bg : bb ≠ g := fun z => sa3.sg (by rw [← z]; exact hn4)
          have hb4 : H4 bb = some (.lst (([1, 2, 3] : List Int).map V.int)) := by rw [h4, nums_of t4]
          refine ⟨p, g, c, 1000000000 - 1000 * i - 300, rooms, 1, bb, 3, rfl, sa4.mono (by omega), ⟨r1, by omega⟩, ⟨by decide, by decide⟩, by decide, ⟨bp, bg, [1, 2, 3], hb4, ⟨by decide, by decide⟩, by decide⟩, fun v ds H5 b5 sa5 tv hok hlen hb => ?_⟩
          exact hQ' v H5 ⟨ds, But2.trans b3 (But2.trans (Same.but2 s4) b5), sa5, tv, hok, hlen, .inr hb⟩
      rintro vd H3 ⟨ds, b3, sa3, tds, hok, ⟨hl0, hl1⟩, hcase⟩
      have d3 : ds.length ≤ 3 := by omega
      have bG3 := But2.trans bG2 b3
      dsimp only [List.set]
      -- great numbers
      have evc : EvL C (tLc (iTup K (tVar 4)) (gTup K 4 (gCons (gName 5) (gCons (gName 6) (gCons (gName 7) (gCons (gName 8) gNil))))) (tTest (tOp (rI0 fun i j => .bl (decide (i > j))) (tCB (fun xs H Q => ∃ i j, xs = [V.int i, V.int j] ∧ Q (V.int (if j > i then j else i)) H) (tCons (tCB (fun xs H Q => ∃ i, xs = [.int i] ∧ Q (.int (if i < 0 then -i else i)) H) (tCons (tVar 6) tNil)) (tCons (tCB (fun xs H Q => ∃ i, xs = [.int i] ∧ Q (.int (if i < 0 then -i else i)) H) (tCons (tVar 8) tNil)) tNil))) (tC (.int 60)))) (tC (.int 1)) [5, 6, 7, 8]) [some (.ref a), some (.ref p), some (.int (i : Int)), some (.int rooms), some vd, x5, x6, x7, x8, x9, x10, x11, x12, x13, x14, x15, x16] H3 (((ds.filter fun d => decide ((if MF.aux d.2.2.2 > MF.aux d.2.1 then MF.aux d.2.2.2 else MF.aux d.2.1) > 60)).map fun _ => (1 : Int)).map D.num) := by
        have e : ((ds.filter fun d => decide ((if MF.aux d.2.2.2 > MF.aux d.2.1 then MF.aux d.2.2.2 else MF.aux d.2.1) > 60)).map fun _ => (1 : Int)).map D.num = (ds.map doorD).filterMap fun x => match x with | .tup [.num _, .num b, .num _, .num d] => if (if MF.aux d > MF.aux b then MF.aux d else MF.aux b) > 60 then some (.num 1) else none | _ => none := by
          clear tds hok hl0 hl1 hcase d3
          induction ds with
          | nil => rfl
          | cons d ds ih =>
            rw [List.map_cons, List.filterMap_cons, List.filter_cons, ← ih]
            by_cases h : (if MF.aux d.2.2.2 > MF.aux d.2.1 then MF.aux d.2.2.2 else MF.aux d.2.1) > 60
            · simp only [doorD, if_pos h, decide_eq_true h, if_true, List.map_cons]
            · simp only [doorD, if_neg h, decide_eq_false h]
              rfl
        rw [e]
        refine evl_lc (C := C) (h := ei_tup (C := C) (ds := ds.map doorD) (ev_var rfl tds)) (keep := _) ?_ ?_
        · intro dd x H6 hdd s6 t6
          obtain ⟨d, hd, rfl⟩ := List.mem_map.mp hdd
          refine ⟨_, gb_door t6, rfl, ?_, fun z hz => ?_⟩
          · have e9 : ((match doorD d with | .tup [.num _, .num b, .num _, .num d] => if (if MF.aux d > MF.aux b then MF.aux d else MF.aux b) > 60 then some (D.num 1) else none | _ => none)).isSome = decide ((if MF.aux d.2.2.2 > MF.aux d.2.1 then MF.aux d.2.2.2 else MF.aux d.2.1) > 60) := by
              by_cases h : (if MF.aux d.2.2.2 > MF.aux d.2.1 then MF.aux d.2.2.2 else MF.aux d.2.1) > 60
              · simp only [doorD, if_pos h, decide_eq_true h]; rfl
              · simp only [doorD, if_neg h, decide_eq_false h]; rfl
            rw [e9, ← aux_if d.2.1, ← aux_if d.2.2.2]
            apply et_test (C := C)
            apply ev_opB (g := fun i j => decide (i > j))
            · apply ev_max
              · trivial
              · trivial
            · trivial
          · by_cases h : (if MF.aux d.2.2.2 > MF.aux d.2.1 then MF.aux d.2.2.2 else MF.aux d.2.1) > 60
            · simp only [doorD, if_pos h] at hz
              cases hz
              trivial
            · simp only [doorD, if_neg h] at hz
              cases hz
        · rw [List.length_map]; exact small_len (m := 3) d3 (by omega)
      refine st_ifc (et_neNew (C := C) evc) (fun hb H4 s4 => ?_) (fun hb H4 s4 => ?_)
      · exact ⟨_, _, _, _, _, _, _, _, _, _, _, _, _, _, _, rfl, But2.trans bG3 (Same.but2 s4), (sa3.same s4).mono (by omega)⟩
      have n60 : ∀ d ∈ ds, d.2.1.natAbs ≤ 60 ∧ d.2.2.2.natAbs ≤ 60 := by
        intro d hd
        have he : (ds.filter fun d => decide ((if MF.aux d.2.2.2 > MF.aux d.2.1 then MF.aux d.2.2.2 else MF.aux d.2.1) > 60)) = [] := by
          have : ((ds.filter fun d => decide ((if MF.aux d.2.2.2 > MF.aux d.2.1 then MF.aux d.2.2.2 else MF.aux d.2.1) > 60)).map fun _ => (1 : Int)).isEmpty = true := by simpa using hb
          simpa using this
        have h := List.filter_eq_nil_iff.mp he d hd
        simp only [decide_eq_true_eq] at h
        unfold MF.aux at h
        constructor
        · split at h <;> omega
        · split at h <;> omega
      have hw : HW rooms ds := ⟨hok, by omega, n60⟩
      have sa4 := sa3.same s4
      have bG4 := But2.trans bG3 (Same.but2 s4)
      have tds4 := tds.same s4
      clear evc hb
      -- house
      refine st_tupA ?_
      have evh : EvD C (tMake C (sp_House C) [] E0 (tCons (tVar 3) (tCons (tVar 4) tNil))) [some (.ref a), some (.ref p), some (.int (i : Int)), some (.int rooms), some vd, x5, x6, x7, x8, x9, x10, x11, x12, x13, x14, x15, x16] H4 (.hs rooms ds) := ev_make (pre := HOk) (ea_cons (ev_var rfl (.num _)) (ea_cons (ev_var rfl tds4) ea_nil)) hok
      refine evh H4 (Same.refl _) _ fun vh H5 s5 th5 => ?_
      refine ⟨_, rfl, _, rfl, p, g, c, 1000000000 - 1000 * i - 400, rooms, rfl, (sa4.same s5).mono (by omega), ⟨by omega, by omega⟩, fun room H6 q0 q1 b6 sa6 => ⟨Nat.zero_le _, fun r hr => ⟨small_len (m := 4) (Nat.le_refl 4) (by omega), fun tt htt => ⟨tt, _, rfl, .inl (.inl upd_same), rfl, _, _, rfl, _, _, rfl, _, _, rfl, _, _, rfl, rfl, ?_⟩⟩⟩⟩
      have th6 := th5.stay ((sa4.same s5).stay b6)
      have s7 : Same H6 (upd (upd H6 r (.lst [])) tt (.tup [vh, .int room, .int 1, .ref r])) := Same.newer (Same.new hr) htt
      have er7 : upd (upd H6 r (.lst [])) tt (.tup [vh, .int room, .int 1, .ref r]) r = some (.lst []) := Same.new htt _ _ upd_same
      have th7 := th6.same s7
      have tds7 := ((tds4.same s5).stay ((sa4.same s5).stay b6)).same s7
      have sa7 := sa6.same s7
      have bG7 : But2 p g G (upd (upd H6 r (.lst [])) tt (.tup [vh, .int room, .int 1, .ref r])) := But2.trans bG4 (But2.trans (Same.but2 s5) (But2.trans b6 (Same.but2 s7)))
      have rp : r ≠ p := fun z => sa6.sp (by rw [← z]; exact hr)
      have rg : r ≠ g := fun z => sa6.sg (by rw [← z]; exact hr)
      generalize upd (upd H6 r (.lst [])) tt (.tup [vh, .int room, .int 1, .ref r]) = H7 at er7 th7 tds7 sa7 bG7 ⊢
      clear s7 th6 th5 evh tds tds4
      dsimp only [List.set]
      have hroom : 0 ≤ room ∧ room < rooms := ⟨q0, q1⟩
      have ok := hok.ok
      have con := hok.con
      have cp8 : ∀ L : Nat, L ≤ 8 → CP ds room L := fun L hL => cp8 hw d3 room hL
      have n60' : ∀ s ∈ MF.allSteps ds, ((MF.lv ds s).natAbs : Int) ≤ 60 := fun s hs => by have := lvb hok n60 s hs; omega
      -- multiples of what is found and a return
      have evm : ∀ {σ : L2.St} {H' : Hp} {x : Int} {L j : Nat} {v0 : V}, σ[9]? = some (some v0) → σ[10]? = some (some (.int room)) → σ[13]? = some (some (.int (L : Int))) → σ[j]? = some (some (.int (MF.risen ds room L))) → Tp C H' v0 (.hs rooms ds) → CP ds room L → (MF.risen ds room L).natAbs < 2 ^ 330 →
          EvP (tCall sp__law_multiple [] E0 (tCons (tLst (tCons (tVar j) (tCons (tCall (sp_foot_return C) [] E0 (tCons (tVar 9) (tCons (tVar 10) (tCons (tVar 13) tNil)))) tNil))) tNil)) σ H' (fun H v => v = .int (MF.risen ds room (L + 1))) := by
        intro σ H' x L j v0 e9 e10 e13 ej tv cp rb
        have r0 := (MF.risen_ok ok room L).1
        have t0 := MF.ret_pos ok room L
        have tb := cp.rt (MF.cls ds room L).length
        rw [List.take_length] at tb
        have e : MF.risen ds room (L + 1) = MF.lcmL [MF.risen ds room L, MF.ret (MF.cls ds room L)] := by rw [lcmL_two r0 t0]; rfl
        rw [e]
        refine evp_call (pre := fun (ns : List Int) vs H => (∃ v, vs = [v] ∧ IL ns H v) ∧ ∃ b, 0 < b ∧ LC b ns) (post := fun ns H v => v = .int (MF.lcmL ns)) _ (eap_mono (eap_cons (evp_new (ns := [MF.risen ds room L, MF.ret (MF.cls ds room L)]) (ds := [.num (MF.risen ds room L), .num (MF.ret (MF.cls ds room L))]) (evl_lst (ea_cons (ev_var ej (.num _)) (ea_cons (ev_fn (rooms, ds, room, L) (ea_cons (ev_var e9 tv) (ea_cons (ev_var e10 (.num _)) (ea_cons (ev_var e13 (.num _)) ea_nil))) rfl ⟨hw, hroom, cp⟩) ea_nil)) (small_len (m := 2) (Nat.le_refl 2) (by omega))) rfl) eap_nil fun H H' v s h => h.same s) ?_)
        rintro vs H6 ⟨v1, r1, rfl, p1, rfl⟩
        refine ⟨⟨v1, rfl, p1⟩, 330, by decide, fun n hn => ?_, fun n hn => ?_, (show 330 * 2 ≤ 8900 by decide)⟩
        · simp only [List.mem_cons, List.not_mem_nil, or_false] at hn
          rcases hn with rfl | rfl <;> omega
        · simp only [List.mem_cons, List.not_mem_nil, or_false] at hn
          rcases hn with rfl | rfl
          · exact rb
          · have h3 : (2 : Int) ^ 320 ≤ 2 ^ 330 := pow2_le (by decide)
            omega
      have rb9 : ∀ L : Nat, L ≤ 9 → (MF.risen ds room L).natAbs < 2 ^ 330 := by
        intro L hL
        obtain ⟨h0, h1⟩ := MF.risen_pow ok (b := 60) (by decide) n60' room L
        have h2 : 2 * ds.length * L ≤ 54 := Nat.le_trans (Nat.mul_le_mul (show 2 * ds.length ≤ 6 by omega) hL) (by decide)
        have h3 : (60 : Int) ^ (2 * ds.length * L) ≤ 60 ^ 54 := MF.pow_mono (by decide) h2
        have h4 : (60 : Int) ^ 54 < 2 ^ 330 := by decide +kernel
        omega
      -- returns to twice the doors and two
      have evn : EvD C (tOp (rI0 fun i j => .int (i + j)) (tOp (rI CMul fun i j => .int (i * j)) (tC (.int 2)) (tCB (rLenS K) (tCons (tVar 4) tNil))) (tC (.int 3))) [some (.ref a), some (.ref p), some (.int (i : Int)), some (.int rooms), some vd, x5, x6, x7, x8, some vh, some (.int room), some (.int 1), some (.ref r), x13, x14, x15, x16] H7 (.num ((2 * ds.length + 3 : Nat) : Int)) := by
        have e : ((2 * ds.length + 3 : Nat) : Int) = 2 * (((ds.map doorD).length : Nat) : Int) + 3 := by rw [List.length_map]; omega
        rw [e]
        apply ev_opI (g := fun i j => i + j)
        · apply ev_mulL
          · trivial
          · exact ev_lenT (ev_var rfl tds7)
          · decide
        · trivial
      refine st_for (C := C) (wi := _) (ei_rng1 (n := 2 * ds.length + 3) (C := C) (ea_cons evn ea_nil) (by omega)) (fun G2 j σ' H' => ∃ x13, σ' = [some (.ref a), some (.ref p), some (.int (i : Int)), some (.int rooms), some vd, x5, x6, x7, x8, some vh, some (.int room), some (.int (MF.risen ds room j)), some (.ref r), x13, x14, x15, x16] ∧ Gr C r G2 H' (((List.range j).map fun t => MF.risen ds room (t + 1)).map V.int) (((List.range j).map fun t => MF.risen ds room (t + 1)).map D.num)) ?_ ?_ ?_ ?_
      · intro G2 sG2
        exact ⟨x13, rfl, Gr.start (sG2 _ _ er7) .nil⟩
      · rintro G2 j σ' H' sG2 ⟨y13, rfl, gr⟩
        exact gr.keeps (H := H7) (Fk := []) (sG2 _ _ er7) (by rw [er7]; simp) (by simp)
      · rintro G2 j d x σ' H' sG2 hj ⟨y13, rfl, gr⟩ tx
        obtain ⟨hj2, rfl⟩ := rng_item hj
        cases tp_num tx
        refine ⟨_, gb_name, ?_⟩
        have st2 : Stay H7 H' := Stay.trans (Same.stay sG2) (gr.stay (sG2 _ _ er7))
        refine st_setP (evm (L := j) (j := 11) (x := 0) rfl rfl rfl rfl (th7.stay st2) (cp8 j (by omega)) (rb9 j (by omega))) ?_
        rintro v8 H8 s8 rfl
        have gr8 := gr.same s8
        apply st_app1 (C := C) (d := .num (MF.risen ds room (j + 1))) (hv := rfl) (ha := gr8.2.1)
        · rw [List.length_map, List.length_map, List.length_range]; exact small_lt (m := 100) (by omega) (by omega)
        · trivial
        · intro v9 H9 s9 t9
          refine ⟨_, rfl, ?_⟩
          have g9 := gr8.app s9 t9
          cases tp_num t9
          have e1 : ((List.range (j + 1)).map fun t => MF.risen ds room (t + 1)) = ((List.range j).map fun t => MF.risen ds room (t + 1)) ++ [MF.risen ds room (j + 1)] := by rw [List.range_succ, List.map_append]; rfl
          rw [e1, List.map_append, List.map_append]
          exact g9
      rintro G2 σ' H8 sG2 ⟨y13, rfl, gr⟩
      rw [List.length_map, List.length_range] at gr
      rw [List.length_map, List.length_range]
      have st8 : Stay H7 H8 := Stay.trans (Same.stay sG2) (gr.stay (sG2 _ _ er7))
      have th8 := th7.stay st8
      have tds8 := tds7.stay st8
      have b78 : But r H7 H8 := But.trans (Same.but sG2) gr.1
      have bG8 : But2 p g G H8 := fun z o zp zg ez => b78 z o (fun y => by
        have := bG4 z o zp zg ez
        have := b6 z o zp zg (s5 _ _ this)
        rw [y, hr] at this; cases this) (bG7 z o zp zg ez)
      have sa8 : SA H8 p g c (1000000000 - 1000 * i - 400) := by
        obtain ⟨gs, cs, l, t, e1, e2, e3, rr⟩ := sa7
        refine ⟨gs, cs, l, t, b78 _ _ (Ne.symm rp) e1, b78 _ _ (Ne.symm rg) e2, b78 _ _ (fun z => ?_) e3, rr⟩
        rw [← z, e3] at er7
        injection er7 with h
        injection h with h
        have hc8 : H6 c ≠ none := sa6.sc
        rw [z] at hc8
        exact hc8 hr
      have er8 := gr.2.1
      clear gr b78 sG2 th7 tds7 sa7 bG7 st8 er7 evn
      have hN2 : 2 * (rooms - 1).toNat + 1 < 2 * ds.length + 3 := by omega
      have fin : ∀ (H9 : Hp), Same H8 H9 → But2 p g G H9 ∧ SA H9 p g c (1000000000 - 1000 * (i + 1)) := fun H9 s9 => ⟨But2.trans bG8 (Same.but2 s9), (sa8.same s9).mono (by omega)⟩
      dsimp only
      refine ⟨_, rfl, rooms, ds, .cons th8 .nil, hok, by omega, fun vk d H9 s9 tk kp => ?_⟩
      dsimp only [gName, List.set]
      have th9 := th8.same s9
      have er9 := s9 _ _ er8
      rcases kp with ⟨rfl, no⟩ | ⟨ln, W, ks, rfl, F, w0, w1, w2, w3, wk⟩
      · -- a walk stretches
        have evk := tp_non tk
        subst evk
        have small : ∀ d ∈ ds, d.2.1.natAbs ≤ 3 ∧ d.2.2.2.natAbs ≤ 3 := by
          rcases hcase with h | h
          · exact absurd h no
          · exact h
        have cp14' : ∀ L : Nat, L ≤ 14 → CP ds room L := fun L hL => cp14 hw d3 small room hL
        have n3 : ∀ s ∈ MF.allSteps ds, ((MF.lv ds s).natAbs : Int) ≤ 3 := fun s hs => by have := lvb hok small s hs; omega
        have rb15 : ∀ L : Nat, L ≤ 15 → (MF.risen ds room L).natAbs < 2 ^ 330 := by
          intro L hL
          obtain ⟨h0, h1⟩ := MF.risen_pow ok (b := 3) (by decide) n3 room L
          have h2 : 2 * ds.length * L ≤ 90 := Nat.le_trans (Nat.mul_le_mul (show 2 * ds.length ≤ 6 by omega) hL) (by decide)
          have h3 : (3 : Int) ^ (2 * ds.length * L) ≤ 3 ^ 90 := MF.pow_mono (by decide) h2
          have h4 : (3 : Int) ^ 90 < 2 ^ 330 := by decide +kernel
          omega
        have tds9 := tds8.same s9
        apply st_if (b := false)
        · apply et_test (C := C)
          exact ev_notN (C := C) (d := .non) (ev_var rfl .non)
        · exact fun hb => nomatch hb
        · intro _ H10 s10
          have th10 := th9.same s10
          have tds10 := tds9.same s10
          apply st_set (C := C) (d := .num (MF.risen ds room (2 * ds.length + 3)))
          · trivial
          intro vl H11 s11 tl
          cases tp_num tl
          have th11 := th10.same s11
          have tds11 := tds10.same s11
          have evr : EvA C (tCons (tOp (rI0 fun i j => .int (i + j)) (tOp (rI CMul fun i j => .int (i * j)) (tC (.int 2)) (tCB (rLenS K) (tCons (tVar 4) tNil))) (tC (.int 3))) (tCons (tC (.int 15)) tNil)) [some (.ref a), some (.ref p), some (.int (i : Int)), some (.int rooms), some vd, x5, x6, x7, x8, some vh, some (.int room), some (.int (MF.risen ds room (2 * ds.length + 3))), some (.ref r), y13, some .non, x15, some (.int (MF.risen ds room (2 * ds.length + 3)))] H11 [.num ((2 * ds.length + 3 : Nat) : Int), .num 15] := by
            refine ea_cons ?_ (ea_cons ev_int ea_nil)
            have e : ((2 * ds.length + 3 : Nat) : Int) = 2 * (((ds.map doorD).length : Nat) : Int) + 3 := by rw [List.length_map]; omega
            rw [e]
            apply ev_opI (g := fun i j => i + j)
            · apply ev_mulL
              · trivial
              · exact ev_lenT (ev_var rfl tds11)
              · decide
            · trivial
          dsimp only [List.set]
          refine st_for (C := C) (wi := _) (ei_rng2 (C := C) evr (by omega) (by omega) (by omega) (by omega)) (fun G3 j σ' H' => ∃ x13, σ' = [some (.ref a), some (.ref p), some (.int (i : Int)), some (.int rooms), some vd, x5, x6, x7, x8, some vh, some (.int room), some (.int (MF.risen ds room (2 * ds.length + 3))), some (.ref r), x13, some .non, x15, some (.int (MF.risen ds room (2 * ds.length + 3 + j)))] ∧ Same G3 H') ?_ ?_ ?_ ?_
          · intro G3 sG3
            exact ⟨y13, rfl, Same.refl _⟩
          · rintro G3 j σ' H' sG3 ⟨z13, rfl, s'⟩
            exact ⟨Same.stay s', fun b o _ e => s' b o e⟩
          · rintro G3 j d x σ' H' sG3 hj ⟨z13, rfl, s'⟩ tx
            obtain ⟨hj2, rfl⟩ := rng_item2 hj
            cases tp_num tx
            refine ⟨_, gb_name, ?_⟩
            have e13 : ((2 * ds.length + 3 : Nat) : Int) + (j : Int) = ((2 * ds.length + 3 + j : Nat) : Int) := by omega
            rw [e13]
            have jb : 2 * ds.length + 3 + j ≤ 14 := by omega
            refine evm (σ := ([some (.ref a), some (.ref p), some (.int (i : Int)), some (.int rooms), some vd, x5, x6, x7, x8, some vh, some (.int room), some (.int (MF.risen ds room (2 * ds.length + 3))), some (.ref r), z13, some .non, x15, some (.int (MF.risen ds room (2 * ds.length + 3 + j)))].set 13 (some (.int ((2 * ds.length + 3 + j : Nat) : Int))))) (L := 2 * ds.length + 3 + j) (j := 16) (x := 0) rfl rfl rfl rfl ((th11.same sG3).same s') (cp14' _ jb) (rb15 _ (by omega)) H' (Same.refl _) _ ?_
            rintro v8 H12 s12 rfl
            exact ⟨_, rfl, Same.trans s' s12⟩
          · rintro G3 σ' H' sG3 ⟨z13, rfl, s'⟩
            rw [List.length_map, List.length_range]
            rw [show 2 * ds.length + 3 + ((15 : Int) - ((2 * ds.length + 3 : Nat) : Int)).toNat = 15 by omega]
            have e : false = decide (MF.risen ds room 15 ≤ MF.risen ds room (2 * ds.length + 3)) := by
              refine (decide_eq_false fun z => no ?_).symm
              exact MF.rise_fit ok r3 (MF.conn_steps con) hroom (N := 2 * ds.length + 2) (M := 14) (by omega) z
            dsimp only
            apply st_no1
            · rw [e]
              apply et_test (C := C)
              apply ev_opB (g := fun i j => decide (i ≤ j))
              · trivial
              · trivial
            · intro H13 s13
              obtain ⟨f1, f2⟩ := fin H13 (Same.trans s9 (Same.trans s10 (Same.trans s11 (Same.trans sG3 (Same.trans s' s13)))))
              exact ⟨_, _, _, _, _, _, _, _, _, _, _, _, _, _, _, rfl, f1, f2⟩
      · -- lengths fit
        have kk : MF.Kept rooms ds ln W := ⟨F, w0, w1, w2, w3⟩
        have found := MF.kept_risen ok con kk hroom hN2
        have divs := MF.kept_div ok con kk hroom
        have still := MF.kept_still ok con kk hroom 12
        have kr := wk room hroom.1 hroom.2
        have ev_k : ∀ {σ : L2.St} {H' : Hp}, σ[14]? = some (some vk) → σ[10]? = some (some (.int room)) → Same H9 H' → EvD C (tOp (rIxT K) (tVar 14) (tVar 10)) σ H' (.num (W / ln room)) := fun e14 e10 s' => ev_ixi (n := room.toNat) (ev_var e14 (tk.same s')) (ev_var e10 (.num _)) (by omega) (by rw [List.getElem?_map, kr]; rfl)
        rw [found]
        apply st_if (b := true)
        · apply et_test (C := C)
          exact ev_notN (C := C) (d := .tup (ks.map D.num)) (ev_var rfl tk)
        · intro _ H10 s10
          have th10 := th9.same s10
          have er10 := s10 _ _ er9
          apply st_no (h := ?_)
          · intro H11 s11
            have th11 := th10.same s11
            apply st_no1
            · apply et_or (b := false) (c := false)
              · apply et_test (C := C)
                intro Ha sa Q' q'
                refine ⟨_, rfl, rooms, ds, .cons (th11.same sa) .nil, hok, by omega, fun v d Hb sb tv tl => ?_⟩
                have e : decide (v = .non) = false := by
                  rcases tl with ⟨_, no⟩ | ⟨ns', rfl, _⟩
                  · exact absurd ⟨ln, F⟩ no
                  · rw [isNon_eq tv]; rfl
                show Q' (.bl (decide (v = .non))) Hb
                rw [e]
                exact q' _ Hb sb (.bl _)
              · intro _
                apply et_test (C := C)
                have e0 : false = !decide (MF.still ds room (W / ln room) 12 = MF.still ds room 0 12) := by rw [decide_eq_true still]; rfl
                rw [e0]
                apply ev_neI
                · exact ev_fn (rooms, ds, room, W / ln room, 12) (ea_cons (ev_var rfl th11) (ea_cons (ev_var rfl (.num _)) (ea_cons (ev_var rfl (.num _)) (ea_cons ev_int ea_nil)))) rfl ⟨hw, hroom, smn hw F room (W / ln room) (show 12 ≤ 40 by decide)⟩
                · obtain ⟨rn, hrn⟩ := Int.eq_ofNat_of_zero_le hroom.1
                  subst hrn
                  exact ev_fn (rooms, ds, rn, 12) (ea_cons (ev_var rfl th11) (ea_cons (ev_var rfl (.num _)) (ea_cons ev_int ea_nil))) rfl ⟨hw, hroom.2, (show 12 ≤ 300 by decide)⟩
            · intro H12 s12
              obtain ⟨f1, f2⟩ := fin H12 (Same.trans s9 (Same.trans s10 (Same.trans s11 s12)))
              exact ⟨_, _, _, _, _, _, _, _, _, _, _, _, _, _, _, rfl, f1, f2⟩
          · apply et_or (b := false) (c := false)
            · apply et_test (C := C)
              have e0 : false = !decide ((W / ln room) = (W / ln room)) := by simp
              rw [e0]
              apply ev_neI
              · exact ev_var rfl (.num _)
              · exact ev_k rfl rfl s10
            · intro _
              have e0 : false = !([] : List Int).isEmpty := rfl
              rw [e0]
              apply et_neNew (C := C)
              have e1 : (([] : List Int).map D.num) = (((List.range (2 * ds.length + 3)).map fun t => MF.risen ds room (t + 1)).map D.num).filterMap (fun _ => (none : Option D)) := by simp
              rw [e1]
              refine evl_lc (C := C) (h := ei_at (C := C) (evv_var rfl) er10 (of_nums C _ _)) (keep := fun _ => none) ?_ ?_
              · intro d x H' hd s' tx
                obtain ⟨m, hm, rfl⟩ := List.mem_map.mp hd
                obtain ⟨t, _, rfl⟩ := List.mem_map.mp hm
                cases tp_num tx
                refine ⟨_, gb_name, rfl, ?_, fun z hz => nomatch hz⟩
                have e2 : (none : Option D).isSome = !decide ((W / ln room).fmod (MF.risen ds room (t + 1)) = 0) := by
                  rw [decide_eq_true (Int.dvd_iff_fmod_eq_zero.mp (divs (t + 1)))]; rfl
                rw [e2]
                apply et_test (C := C)
                apply ev_neI
                · apply ev_fmod
                  · apply ev_intI
                    exact ev_k rfl rfl (Same.trans s10 s')
                  · trivial
                  · have := (MF.risen_ok ok room (t + 1)).1; omega
                · trivial
              · rw [List.length_map, List.length_map, List.length_range]; exact small_len (m := 100) (by omega) (by omega)
        · exact fun hb => nomatch hb
    · rintro G σ' H' sG ⟨x2, x3, x4, x5, x6, x7, x8, x9, x10, x11, x12, x13, x14, x15, x16, rfl, b, sa'⟩
      dsimp only
      have hok : HOk 1 [((0, 2, 0, 3) : Door)] := ⟨by decide, by decide, by decide, (fun d hd => by
        have : d = (0, 2, 0, 3) := by simpa using hd
        subst this
        exact ⟨⟨by decide, by decide⟩, ⟨by decide, by decide⟩, ⟨by decide, by decide, by decide⟩, ⟨by decide, by decide, by decide⟩⟩), fun r h1 h2 => by omega⟩
      have hw : HW 1 [((0, 2, 0, 3) : Door)] := ⟨hok, by decide, fun d hd => by
        have : d = (0, 2, 0, 3) := by simpa using hd
        subst this
        decide⟩
      apply st_set (C := C) (d := .hs 1 [((0, 2, 0, 3) : Door)])
      · refine ev_make (pre := HOk) (ea_cons ev_int (ea_cons ?_ ea_nil)) hok
        show EvD C _ _ _ (.tup [.tup [.num 0, .num 2, .num 0, .num 3]])
        apply ev_tup
        · refine ea_cons (ev_tup (ea_cons ev_int (ea_cons ev_int (ea_cons ev_int (ea_cons ev_int ea_nil)))) (small_len (m := 4) (Nat.le_refl 4) (by omega))) ea_nil
        · exact small_len (m := 1) (Nat.le_refl 1) (by omega)
      intro vh H2 s2 th
      have cp : ∀ L : Nat, L ≤ 8 → CP [((0, 2, 0, 3) : Door)] 0 L := fun L hL => cp8 hw (by decide) 0 hL
      have ret : ∀ L : Nat, L < 3 → MF.ret (MF.cls [((0, 2, 0, 3) : Door)] 0 L) = ([1, 6, 36] : List Int).getD L 0 := by decide +kernel
      have many : MF.clsMany (MF.cls [((0, 2, 0, 3) : Door)] 0 1) = 2 := by decide +kernel
      refine st_ret (C := C) (d := .bl (PyData.eqv (.list (pyA ((([0, 1, 2] : List Nat).map fun L => MF.ret (MF.cls [((0, 2, 0, 3) : Door)] 0 L)).map D.num))) (.list (pyA (([1, 6, 36] : List Int).map D.num))) && decide (MF.clsMany (MF.cls [((0, 2, 0, 3) : Door)] 0 1) = 2))) ?_ fun v H3 s3 t3 => ?_
      · apply ev_andV
        · apply ev_eqNew (C := C)
          · have e : ((([0, 1, 2] : List Nat).map fun L => MF.ret (MF.cls [((0, 2, 0, 3) : Door)] 0 L)).map D.num) = (([0, 1, 2] : List Int).map D.num).filterMap fun d => match d with | .num x => some (.num (MF.ret (MF.cls [((0, 2, 0, 3) : Door)] 0 x.toNat))) | _ => none := rfl
            rw [e]
            refine evl_lc (C := C) (h := ei_tup (C := C) (ds := ([0, 1, 2] : List Int).map D.num) ?_) (keep := _) ?_ ?_
            · show EvD C _ _ _ (.tup [.num 0, .num 1, .num 2])
              trivial
            · intro d x H6 hd s6 t6
              obtain ⟨n, hn, rfl⟩ := List.mem_map.mp hd
              cases tp_num t6
              refine ⟨_, gb_name, rfl, et_yes, fun z hz => ?_⟩
              have hz : D.num (MF.ret (MF.cls [((0, 2, 0, 3) : Door)] 0 n.toNat)) = z := by simpa using hz
              subst hz
              have hn3 : 0 ≤ n ∧ n ≤ 2 := by
                simp only [List.mem_cons, List.not_mem_nil, or_false] at hn
                omega
              obtain ⟨L, rfl⟩ := Int.eq_ofNat_of_zero_le hn3.1
              exact ev_fn (1, [((0, 2, 0, 3) : Door)], 0, L) (ea_cons (ev_var rfl (th.same s6)) (ea_cons ev_int (ea_cons (ev_var rfl (.num _)) ea_nil))) rfl ⟨hw, ⟨(show (0 : Int) ≤ 0 by decide), (show (0 : Int) < 1 by decide)⟩, cp L (by omega)⟩
            · exact small_len (m := 3) (Nat.le_refl 3) (by omega)
          · exact evl_lst (ea_cons ev_int (ea_cons ev_int (ea_cons ev_int ea_nil))) (small_len (m := 3) (Nat.le_refl 3) (by omega))
        · intro _
          apply ev_eqI
          · exact ev_fn (1, [((0, 2, 0, 3) : Door)], 0, 1) (ea_cons (ev_var rfl th) (ea_cons ev_int (ea_cons ev_int ea_nil))) rfl ⟨hw, ⟨by decide, by decide⟩, cp 1 (by decide)⟩
          · trivial
      · have e1 : (([0, 1, 2] : List Nat).map fun L => MF.ret (MF.cls [((0, 2, 0, 3) : Door)] 0 L)) = [1, 6, 36] := by
          have h0 := ret 0 (by decide)
          have h1 := ret 1 (by decide)
          have h2 := ret 2 (by decide)
          simp only [List.map_cons, List.map_nil, h0, h1, h2]
          rfl
        rw [e1, many] at t3
        have e2 := tp_bl t3
        subst e2
        exact q H3
end
end Kw

set_option Elab.async false
set_option linter.all false
set_option maxRecDepth 100000
set_option maxHeartbeats 0
/-! The head: what the top leaves, by names. -/
namespace Kw
open PySem PySem.Spec PyProof.Rows L2 Y
abbrev R : PySem.W.OpenRow := PySem.W.OpenLaw.row PySem.Challenge.rw_ropescounted_k50_whole_returns_of_feet_a
def d_is_number : He.DefD := ⟨("is_number", none), "is_number", "is_number", defArgs s_is_number, defBody s_is_number, defScope s_is_number, [], []⟩
def d_is_below : He.DefD := ⟨("is_below", none), "is_below", "is_below", defArgs s_is_below, defBody s_is_below, defScope s_is_below, [], []⟩
def d_least_common : He.DefD := ⟨("least_common", none), "least_common", "least_common", defArgs s_least_common, defBody s_least_common, defScope s_least_common, [], []⟩
def d_is_door : He.DefD := ⟨("is_door", none), "is_door", "is_door", defArgs s_is_door, defBody s_is_door, defScope s_is_door, [], []⟩
def d_are_doors : He.DefD := ⟨("are_doors", none), "are_doors", "are_doors", defArgs s_are_doors, defBody s_are_doors, defScope s_are_doors, [], []⟩
def d_joined_rooms : He.DefD := ⟨("joined_rooms", none), "joined_rooms", "joined_rooms", defArgs s_joined_rooms, defBody s_joined_rooms, defScope s_joined_rooms, [], []⟩
def d_need_house : He.DefD := ⟨("need_house", none), "need_house", "need_house", defArgs s_need_house, defBody s_need_house, defScope s_need_house, [], []⟩
def d_need_room : He.DefD := ⟨("need_room", none), "need_room", "need_room", defArgs s_need_room, defBody s_need_room, defScope s_need_room, [], []⟩
def d_gate_of : He.DefD := ⟨("gate_of", none), "gate_of", "gate_of", defArgs s_gate_of, defBody s_gate_of, defScope s_gate_of, [], []⟩
def d_steps_of_room : He.DefD := ⟨("steps_of_room", none), "steps_of_room", "steps_of_room", defArgs s_steps_of_room, defBody s_steps_of_room, defScope s_steps_of_room, [], []⟩
def d_turned_step : He.DefD := ⟨("turned_step", none), "turned_step", "turned_step", defArgs s_turned_step, defBody s_turned_step, defScope s_turned_step, [], []⟩
def d_steps_beyond : He.DefD := ⟨("steps_beyond", none), "steps_beyond", "steps_beyond", defArgs s_steps_beyond, defBody s_steps_beyond, defScope s_steps_beyond, [], []⟩
def d_need_short : He.DefD := ⟨("need_short", none), "need_short", "need_short", defArgs s_need_short, defBody s_need_short, defScope s_need_short, [], []⟩
def d_put_many : He.DefD := ⟨("put_many", none), "put_many", "put_many", defArgs s_put_many, defBody s_put_many, defScope s_put_many, [], []⟩
def d_still_on : He.DefD := ⟨("still_on", none), "still_on", "still_on", defArgs s_still_on, defBody s_still_on, defScope s_still_on, [], []⟩
def d_still_many : He.DefD := ⟨("still_many", none), "still_many", "still_many", defArgs s_still_many, defBody s_still_many, defScope s_still_many, [], []⟩
def d_classes_on : He.DefD := ⟨("classes_on", none), "classes_on", "classes_on", defArgs s_classes_on, defBody s_classes_on, defScope s_classes_on, [], []⟩
def d_class_states : He.DefD := ⟨("class_states", none), "class_states", "class_states", defArgs s_class_states, defBody s_class_states, defScope s_class_states, [], []⟩
def d_need_lengthy : He.DefD := ⟨("need_lengthy", none), "need_lengthy", "need_lengthy", defArgs s_need_lengthy, defBody s_need_lengthy, defScope s_need_lengthy, [], []⟩
def d_foot_classes_many : He.DefD := ⟨("foot_classes_many", none), "foot_classes_many", "foot_classes_many", defArgs s_foot_classes_many, defBody s_foot_classes_many, defScope s_foot_classes_many, [], []⟩
def d_foot_return : He.DefD := ⟨("foot_return", none), "foot_return", "foot_return", defArgs s_foot_return, defBody s_foot_return, defScope s_foot_return, [], []⟩
def d_lowest : He.DefD := ⟨("lowest", none), "lowest", "lowest", defArgs s_lowest, defBody s_lowest, defScope s_lowest, [], []⟩
def d_ratio_over : He.DefD := ⟨("ratio_over", none), "ratio_over", "ratio_over", defArgs s_ratio_over, defBody s_ratio_over, defScope s_ratio_over, [], []⟩
def d_ways_out : He.DefD := ⟨("ways_out", none), "ways_out", "ways_out", defArgs s_ways_out, defBody s_ways_out, defScope s_ways_out, [], []⟩
def d_lengths_right : He.DefD := ⟨("lengths_right", none), "lengths_right", "lengths_right", defArgs s_lengths_right, defBody s_lengths_right, defScope s_lengths_right, [], []⟩
def d_told_lengths : He.DefD := ⟨("told_lengths", none), "told_lengths", "told_lengths", defArgs s_told_lengths, defBody s_told_lengths, defScope s_told_lengths, [], []⟩
def d_lengths_of : He.DefD := ⟨("lengths_of", none), "lengths_of", "lengths_of", defArgs s_lengths_of, defBody s_lengths_of, defScope s_lengths_of, [], []⟩
def d_kept_pulls : He.DefD := ⟨("kept_pulls", none), "kept_pulls", "kept_pulls", defArgs s_kept_pulls, defBody s_kept_pulls, defScope s_kept_pulls, [], []⟩
def d_need_length : He.DefD := ⟨("need_length", none), "need_length", "need_length", defArgs s_need_length, defBody s_need_length, defScope s_need_length, [], []⟩
def d_all_steps : He.DefD := ⟨("all_steps", none), "all_steps", "all_steps", defArgs s_all_steps, defBody s_all_steps, defScope s_all_steps, [], []⟩
def d_rooms_table : He.DefD := ⟨("rooms_table", none), "rooms_table", "rooms_table", defArgs s_rooms_table, defBody s_rooms_table, defScope s_rooms_table, [], []⟩
def d_sizes_of_rooms : He.DefD := ⟨("sizes_of_rooms", none), "sizes_of_rooms", "sizes_of_rooms", defArgs s_sizes_of_rooms, defBody s_sizes_of_rooms, defScope s_sizes_of_rooms, [], []⟩
def d_next_line : He.DefD := ⟨("next_line", none), "next_line", "next_line", defArgs s_next_line, defBody s_next_line, defScope s_next_line, [], []⟩
def d_lines_of : He.DefD := ⟨("lines_of", none), "lines_of", "lines_of", defArgs s_lines_of, defBody s_lines_of, defScope s_lines_of, [], []⟩
def d_feet_to : He.DefD := ⟨("feet_to", none), "feet_to", "feet_to", defArgs s_feet_to, defBody s_feet_to, defScope s_feet_to, [], []⟩
def d_feet_many : He.DefD := ⟨("feet_many", none), "feet_many", "feet_many", defArgs s_feet_many, defBody s_feet_many, defScope s_feet_many, [], []⟩
def d__law_begun : He.DefD := ⟨("_law_begun", none), "_law_begun", "_law_begun", defArgs s__law_begun, defBody s__law_begun, defScope s__law_begun, [], []⟩
def d__law_blended : He.DefD := ⟨("_law_blended", none), "_law_blended", "_law_blended", defArgs s__law_blended, defBody s__law_blended, defScope s__law_blended, [], []⟩
def d__law_draw : He.DefD := ⟨("_law_draw", none), "_law_draw", "_law_draw", defArgs s__law_draw, defBody s__law_draw, defScope s__law_draw, [], []⟩
def d__law_pick : He.DefD := ⟨("_law_pick", none), "_law_pick", "_law_pick", defArgs s__law_pick, defBody s__law_pick, defScope s__law_pick, [], []⟩
def d__law_mixed : He.DefD := ⟨("_law_mixed", none), "_law_mixed", "_law_mixed", defArgs s__law_mixed, defBody s__law_mixed, defScope s__law_mixed, [], []⟩
def d__law_common : He.DefD := ⟨("_law_common", none), "_law_common", "_law_common", defArgs s__law_common, defBody s__law_common, defScope s__law_common, [], []⟩
def d__law_multiple : He.DefD := ⟨("_law_multiple", none), "_law_multiple", "_law_multiple", defArgs s__law_multiple, defBody s__law_multiple, defScope s__law_multiple, [], []⟩
def d__law_gr_doors : He.DefD := ⟨("_law_gr_doors", none), "_law_gr_doors", "_law_gr_doors", defArgs s__law_gr_doors, defBody s__law_gr_doors, defScope s__law_gr_doors, [], []⟩
def d__law_gr_size : He.DefD := ⟨("_law_gr_size", none), "_law_gr_size", "_law_gr_size", defArgs s__law_gr_size, defBody s__law_gr_size, defScope s__law_gr_size, [], []⟩
def d__law_fitting_doors : He.DefD := ⟨("_law_fitting_doors", none), "_law_fitting_doors", "_law_fitting_doors", defArgs s__law_fitting_doors, defBody s__law_fitting_doors, defScope s__law_fitting_doors, [], []⟩
def d_law : He.DefD := ⟨("law", none), "law", "law", defArgs s_law, defBody s_law, defScope s_law, [], []⟩
def d_House : He.DefD := ⟨("House", some "__init__"), "__init__", "House.__init__", defArgs s_House___init__, defBody s_House___init__, defScope s_House___init__, [], []⟩
def fn : List He.DefD := [d_is_number, d_is_below, d_least_common, d_is_door, d_are_doors, d_joined_rooms, d_need_house, d_need_room, d_gate_of, d_steps_of_room, d_turned_step, d_steps_beyond, d_need_short, d_put_many, d_still_on, d_still_many, d_classes_on, d_class_states, d_need_lengthy, d_foot_classes_many, d_foot_return, d_lowest, d_ratio_over, d_ways_out, d_lengths_right, d_told_lengths, d_lengths_of, d_kept_pulls, d_need_length, d_all_steps, d_rooms_table, d_sizes_of_rooms, d_next_line, d_lines_of, d_feet_to, d_feet_many, d__law_begun, d__law_blended, d__law_draw, d__law_pick, d__law_mixed, d__law_common, d__law_multiple, d__law_gr_doors, d__law_gr_size, d__law_fitting_doors, d_law, d_House]
def fa : List He.Fa := [.glo "is_number", .glo "is_below", .glo "least_common", .glo "is_door", .glo "are_doors", .glo "joined_rooms", .glo "need_house", .glo "need_room", .glo "gate_of", .glo "steps_of_room", .glo "turned_step", .glo "steps_beyond", .glo "need_short", .glo "put_many", .glo "still_on", .glo "still_many", .glo "classes_on", .glo "class_states", .glo "need_lengthy", .glo "foot_classes_many", .glo "foot_return", .glo "lowest", .glo "ratio_over", .glo "ways_out", .glo "lengths_right", .glo "told_lengths", .glo "lengths_of", .glo "kept_pulls", .glo "need_length", .glo "all_steps", .glo "rooms_table", .glo "sizes_of_rooms", .glo "next_line", .glo "lines_of", .glo "feet_to", .glo "feet_many", .glo "_law_begun", .glo "_law_blended", .glo "_law_draw", .glo "_law_pick", .glo "_law_mixed", .glo "_law_common", .glo "_law_multiple", .glo "_law_gr_doors", .glo "_law_gr_size", .glo "_law_fitting_doors", .glo "law", .free "len", .free "range", .free "isinstance", .free "int", .free "bool", .free "tuple", .free "list", .free "abs", .free "sum", .free "all", .free "min", .free "max", .int "MOST_ROOMS" 12, .int "MOST_DOORS" 20, .int "GREATEST" 999, .int "MOST_LENGTH_stillness" 40, .int "MOST_LENGTH_counts" 300, .glo "House", .cls "House", .noat "House" "rooms", .noat "House" "doors", .mkr "House"]
/-- the facts that no Fa tells -/
def exB (K : PySem.W.Frag) : Bool := He.eqO (PySem.W.nsIn K mainGlobals "gcd") (some (some (.builtin "math.gcd"))) && (He.eqO (PySem.W.findIn K (.ref (He.ga K "House")) "__class__") (some (some (.builtin "object.__class__"))) && (decide (PySem.W.specialIn K (.builtin "object.__class__") "__get__" = some (some (.builtin "getset_descriptor.__get__"))) && (decide (PySem.W.takesIn K (.builtin "object.__class__") = some true) && (decide (PySem.W.mroIn K (He.ga K "House") (.type "object") = some true) && decide (PySem.W.kitOne K (.ref (He.ga K "House")) (.ref (He.ga K "House")) = some true)))))
def obsX (K : PySem.W.Frag) : He.AlD := (exB K && (He.obsD fa fn K).1, (He.obsD fa fn K).2)
def SaysX (K : PySem.W.Frag) : Prop := obsX K = He.valD fn
theorem SaysX.ex {K : PySem.W.Frag} (c : SaysX K) : exB K = true := (He.ba (show (exB K && (He.obsD fa fn K).1) = true from congrArg (fun z : He.AlD => z.1) c)).1
theorem SaysX.says {K : PySem.W.Frag} (c : SaysX K) : He.SaysD fa fn K := by
  have h1 := (He.ba (show (exB K && (He.obsD fa fn K).1) = true from congrArg (fun z : He.AlD => z.1) c)).2
  have h2 : (obsX K).2 = (He.valD fn).2 := by
    have e : obsX K = He.valD fn := c
    rw [e]
  exact Prod.ext h1 h2
def obsXG (n : Nat) (g : Addr → Option Obj) : He.AlD := obsX (He.frG g (He.asD g n))
abbrev hk : PySem.W.Hook where
  α := He.AlD
  obs := fun s => obsXG 5 s.heap.get?
  val := fun _ => He.valD fn
  says := fun _ h => ∃ K : PySem.W.Frag, K.In h ∧ SaysX K
  of := fun _ _ e => ⟨_, He.frG_in, e⟩
  keeps := fun _ _ _ ⟨K, hK, c⟩ k => ⟨K, PySem.W.Frag.In.keeps hK k, c⟩
theorem obsXG_eq {n : Nat} {g : Addr → Option Obj} {s : Shared} (h : ∀ a, g a = s.heap.get? a) : obsXG n g = obsXG n s.heap.get? := by
  have e : g = s.heap.get? := funext h
  rw [e]
def ob (s : PySem.W.SharedT) : He.AlD := obsXG 5 (HandSHeadRun.getT s)
theorem ob_eq (s : PySem.W.SharedT) : ob s = hk.obs s.abs := obsXG_eq (HandSHeadRun.getT_eq s)
def names : List PySem.Str := (["is_number", "is_below", "least_common", "PullError", "Apart", "BadDoors", "BadHouse", "BadLength", "BadNumber", "BadRoom", "BadRooms", "MOST_ROOMS"] : List PySem.Str) ++ (["MOST_DOORS", "GREATEST", "is_door", "are_doors", "joined_rooms", "House", "need_house", "need_room", "gate_of", "steps_of_room", "turned_step", "steps_beyond"] : List PySem.Str) ++ (["MOST_LENGTH_stillness", "need_short", "put_many", "still_on", "still_many", "classes_on", "class_states", "need_lengthy", "foot_classes_many", "foot_return", "lowest", "ratio_over"] : List PySem.Str) ++ (["ways_out", "lengths_right", "told_lengths", "lengths_of", "kept_pulls", "MOST_LENGTH_counts", "need_length", "all_steps", "rooms_table", "sizes_of_rooms", "next_line", "lines_of"] : List PySem.Str) ++ (["feet_to", "feet_many", "_law_begun", "_law_blended", "_law_draw", "_law_pick", "_law_mixed", "_law_common", "_law_multiple", "_law_gr_doors", "_law_gr_size", "_law_fitting_doors"] : List PySem.Str)
theorem run (w : World) : HandSHeadRun.RunEqI R (PySem.W.view R.prog [0, 69]) hk ob 4000 names w := by
  show (HandSHeadRun.wholeF (fun p => HandSHeadRun.stepQ (HandSHeadRun.denQ HandSHeadRun.tabQ) p w) HandSHeadRun.fenceQ 4000 R.prog).map _ = _
  kernel_rfl
end Kw

set_option Elab.async false
set_option linter.all false
set_option maxRecDepth 100000
set_option maxHeartbeats 0
/-! All defs keep their promises; the row holds. -/
namespace Kw
open PySem PySem.Spec PyProof.Rows L2 Y
theorem facts {P : Program} {w : World} {K : PySem.W.Frag} {h : Heap} {mg : Str → Option Value} {f : Addr} (X : K.In h) (G : h.Ns mainGlobals mg) (hfa : mg ("law" : Str) = some (.ref f)) (c0 : SaysX K) :
    ∃ fd : FuncData, (∀ (s : Shared) (v : Value), BindsTo s fd ⟨[v], []⟩ [("script", v)]) ∧ ∀ base : Heap, K.In base → base.Ns mainGlobals mg → FnOk P w K mg base CX0 8 f fd ["script"] (sp_law K) := by
  have c := c0.says
  have ex := c0.ex
  unfold exB at ex
  obtain ⟨x1, ex⟩ := He.ba ex
  obtain ⟨x2, ex⟩ := He.ba ex
  obtain ⟨x3, ex⟩ := He.ba ex
  obtain ⟨x4, ex⟩ := He.ba ex
  obtain ⟨x5, x6⟩ := He.ba ex
  have cl : Cls K (He.ga K "House") := He.cls_ok (c.fact 65 (f := .cls "House") rfl)
  have B : Bi K mg (He.ga K "House") := ⟨He.free_ok X G (c.fact 47 (f := .free "len") rfl),
    He.free_ok X G (c.fact 48 (f := .free "range") rfl),
    He.free_ok X G (c.fact 49 (f := .free "isinstance") rfl),
    He.free_ok X G (c.fact 50 (f := .free "int") rfl),
    He.free_ok X G (c.fact 51 (f := .free "bool") rfl),
    He.free_ok X G (c.fact 52 (f := .free "tuple") rfl),
    He.free_ok X G (c.fact 53 (f := .free "list") rfl),
    He.free_ok X G (c.fact 54 (f := .free "abs") rfl),
    He.free_ok X G (c.fact 55 (f := .free "sum") rfl),
    He.free_ok X G (c.fact 56 (f := .free "all") rfl),
    He.free_ok X G (c.fact 57 (f := .free "min") rfl),
    He.free_ok X G (c.fact 58 (f := .free "max") rfl),
    PySem.W.mg_of X G (He.eqO_ok x1),
    He.int_ok X G (c.fact 59 (f := .int "MOST_ROOMS" 12) rfl),
    He.int_ok X G (c.fact 60 (f := .int "MOST_DOORS" 20) rfl),
    He.int_ok X G (c.fact 61 (f := .int "GREATEST" 999) rfl),
    He.int_ok X G (c.fact 62 (f := .int "MOST_LENGTH_stillness" 40) rfl),
    He.int_ok X G (c.fact 63 (f := .int "MOST_LENGTH_counts" 300) rfl),
    He.glo_ok X G (c.fact 64 (f := .glo "House") rfl),
    cl,
    ⟨cl, He.eqO_ok x2, of_decide_eq_true x3, of_decide_eq_true x4, of_decide_eq_true x5, of_decide_eq_true x6⟩,
    He.noat_ok (c.fact 66 (f := .noat "House" "rooms") rfl),
    He.noat_ok (c.fact 67 (f := .noat "House" "doors") rfl)⟩
  have F_is_number : Df K mg "is_number" s_is_number := by
    obtain ⟨fd, F⟩ := c.def_ 0 (d := d_is_number) rfl
    exact ⟨_, fd, He.glo_ok X G (c.fact 0 (f := .glo "is_number") rfl), F⟩
  have F_is_below : Df K mg "is_below" s_is_below := by
    obtain ⟨fd, F⟩ := c.def_ 1 (d := d_is_below) rfl
    exact ⟨_, fd, He.glo_ok X G (c.fact 1 (f := .glo "is_below") rfl), F⟩
  have F_need_house : Df K mg "need_house" s_need_house := by
    obtain ⟨fd, F⟩ := c.def_ 6 (d := d_need_house) rfl
    exact ⟨_, fd, He.glo_ok X G (c.fact 6 (f := .glo "need_house") rfl), F⟩
  have F_need_room : Df K mg "need_room" s_need_room := by
    obtain ⟨fd, F⟩ := c.def_ 7 (d := d_need_room) rfl
    exact ⟨_, fd, He.glo_ok X G (c.fact 7 (f := .glo "need_room") rfl), F⟩
  have F_gate_of : Df K mg "gate_of" s_gate_of := by
    obtain ⟨fd, F⟩ := c.def_ 8 (d := d_gate_of) rfl
    exact ⟨_, fd, He.glo_ok X G (c.fact 8 (f := .glo "gate_of") rfl), F⟩
  have F_steps_of_room : Df K mg "steps_of_room" s_steps_of_room := by
    obtain ⟨fd, F⟩ := c.def_ 9 (d := d_steps_of_room) rfl
    exact ⟨_, fd, He.glo_ok X G (c.fact 9 (f := .glo "steps_of_room") rfl), F⟩
  have F_turned_step : Df K mg "turned_step" s_turned_step := by
    obtain ⟨fd, F⟩ := c.def_ 10 (d := d_turned_step) rfl
    exact ⟨_, fd, He.glo_ok X G (c.fact 10 (f := .glo "turned_step") rfl), F⟩
  have F_steps_beyond : Df K mg "steps_beyond" s_steps_beyond := by
    obtain ⟨fd, F⟩ := c.def_ 11 (d := d_steps_beyond) rfl
    exact ⟨_, fd, He.glo_ok X G (c.fact 11 (f := .glo "steps_beyond") rfl), F⟩
  have F_is_door : Df K mg "is_door" s_is_door := by
    obtain ⟨fd, F⟩ := c.def_ 3 (d := d_is_door) rfl
    exact ⟨_, fd, He.glo_ok X G (c.fact 3 (f := .glo "is_door") rfl), F⟩
  have F_are_doors : Df K mg "are_doors" s_are_doors := by
    obtain ⟨fd, F⟩ := c.def_ 4 (d := d_are_doors) rfl
    exact ⟨_, fd, He.glo_ok X G (c.fact 4 (f := .glo "are_doors") rfl), F⟩
  have F_joined_rooms : Df K mg "joined_rooms" s_joined_rooms := by
    obtain ⟨fd, F⟩ := c.def_ 5 (d := d_joined_rooms) rfl
    exact ⟨_, fd, He.glo_ok X G (c.fact 5 (f := .glo "joined_rooms") rfl), F⟩
  have F_House : DfM K (He.ga K "House") "House.__init__" s_House___init__ := by
    obtain ⟨fd, F⟩ := c.def_ 47 (d := d_House) rfl
    exact ⟨_, fd, He.mkr_ok (c.fact 68 (f := .mkr "House") rfl), F⟩
  have F_need_short : Df K mg "need_short" s_need_short := by
    obtain ⟨fd, F⟩ := c.def_ 12 (d := d_need_short) rfl
    exact ⟨_, fd, He.glo_ok X G (c.fact 12 (f := .glo "need_short") rfl), F⟩
  have F_put_many : Df K mg "put_many" s_put_many := by
    obtain ⟨fd, F⟩ := c.def_ 13 (d := d_put_many) rfl
    exact ⟨_, fd, He.glo_ok X G (c.fact 13 (f := .glo "put_many") rfl), F⟩
  have F_still_on : Df K mg "still_on" s_still_on := by
    obtain ⟨fd, F⟩ := c.def_ 14 (d := d_still_on) rfl
    exact ⟨_, fd, He.glo_ok X G (c.fact 14 (f := .glo "still_on") rfl), F⟩
  have F_still_many : Df K mg "still_many" s_still_many := by
    obtain ⟨fd, F⟩ := c.def_ 15 (d := d_still_many) rfl
    exact ⟨_, fd, He.glo_ok X G (c.fact 15 (f := .glo "still_many") rfl), F⟩
  have F_need_lengthy : Df K mg "need_lengthy" s_need_lengthy := by
    obtain ⟨fd, F⟩ := c.def_ 18 (d := d_need_lengthy) rfl
    exact ⟨_, fd, He.glo_ok X G (c.fact 18 (f := .glo "need_lengthy") rfl), F⟩
  have F_classes_on : Df K mg "classes_on" s_classes_on := by
    obtain ⟨fd, F⟩ := c.def_ 16 (d := d_classes_on) rfl
    exact ⟨_, fd, He.glo_ok X G (c.fact 16 (f := .glo "classes_on") rfl), F⟩
  have F_class_states : Df K mg "class_states" s_class_states := by
    obtain ⟨fd, F⟩ := c.def_ 17 (d := d_class_states) rfl
    exact ⟨_, fd, He.glo_ok X G (c.fact 17 (f := .glo "class_states") rfl), F⟩
  have F_foot_classes_many : Df K mg "foot_classes_many" s_foot_classes_many := by
    obtain ⟨fd, F⟩ := c.def_ 19 (d := d_foot_classes_many) rfl
    exact ⟨_, fd, He.glo_ok X G (c.fact 19 (f := .glo "foot_classes_many") rfl), F⟩
  have F_foot_return : Df K mg "foot_return" s_foot_return := by
    obtain ⟨fd, F⟩ := c.def_ 20 (d := d_foot_return) rfl
    exact ⟨_, fd, He.glo_ok X G (c.fact 20 (f := .glo "foot_return") rfl), F⟩
  have F_need_length : Df K mg "need_length" s_need_length := by
    obtain ⟨fd, F⟩ := c.def_ 28 (d := d_need_length) rfl
    exact ⟨_, fd, He.glo_ok X G (c.fact 28 (f := .glo "need_length") rfl), F⟩
  have F_all_steps : Df K mg "all_steps" s_all_steps := by
    obtain ⟨fd, F⟩ := c.def_ 29 (d := d_all_steps) rfl
    exact ⟨_, fd, He.glo_ok X G (c.fact 29 (f := .glo "all_steps") rfl), F⟩
  have F_rooms_table : Df K mg "rooms_table" s_rooms_table := by
    obtain ⟨fd, F⟩ := c.def_ 30 (d := d_rooms_table) rfl
    exact ⟨_, fd, He.glo_ok X G (c.fact 30 (f := .glo "rooms_table") rfl), F⟩
  have F_sizes_of_rooms : Df K mg "sizes_of_rooms" s_sizes_of_rooms := by
    obtain ⟨fd, F⟩ := c.def_ 31 (d := d_sizes_of_rooms) rfl
    exact ⟨_, fd, He.glo_ok X G (c.fact 31 (f := .glo "sizes_of_rooms") rfl), F⟩
  have F_next_line : Df K mg "next_line" s_next_line := by
    obtain ⟨fd, F⟩ := c.def_ 32 (d := d_next_line) rfl
    exact ⟨_, fd, He.glo_ok X G (c.fact 32 (f := .glo "next_line") rfl), F⟩
  have F_lines_of : Df K mg "lines_of" s_lines_of := by
    obtain ⟨fd, F⟩ := c.def_ 33 (d := d_lines_of) rfl
    exact ⟨_, fd, He.glo_ok X G (c.fact 33 (f := .glo "lines_of") rfl), F⟩
  have F_feet_to : Df K mg "feet_to" s_feet_to := by
    obtain ⟨fd, F⟩ := c.def_ 34 (d := d_feet_to) rfl
    exact ⟨_, fd, He.glo_ok X G (c.fact 34 (f := .glo "feet_to") rfl), F⟩
  have F_feet_many : Df K mg "feet_many" s_feet_many := by
    obtain ⟨fd, F⟩ := c.def_ 35 (d := d_feet_many) rfl
    exact ⟨_, fd, He.glo_ok X G (c.fact 35 (f := .glo "feet_many") rfl), F⟩
  have F__law_common : Df K mg "_law_common" s__law_common := by
    obtain ⟨fd, F⟩ := c.def_ 41 (d := d__law_common) rfl
    exact ⟨_, fd, He.glo_ok X G (c.fact 41 (f := .glo "_law_common") rfl), F⟩
  have F__law_begun : Df K mg "_law_begun" s__law_begun := by
    obtain ⟨fd, F⟩ := c.def_ 36 (d := d__law_begun) rfl
    exact ⟨_, fd, He.glo_ok X G (c.fact 36 (f := .glo "_law_begun") rfl), F⟩
  have F__law_blended : Df K mg "_law_blended" s__law_blended := by
    obtain ⟨fd, F⟩ := c.def_ 37 (d := d__law_blended) rfl
    exact ⟨_, fd, He.glo_ok X G (c.fact 37 (f := .glo "_law_blended") rfl), F⟩
  have F__law_draw : Df K mg "_law_draw" s__law_draw := by
    obtain ⟨fd, F⟩ := c.def_ 38 (d := d__law_draw) rfl
    exact ⟨_, fd, He.glo_ok X G (c.fact 38 (f := .glo "_law_draw") rfl), F⟩
  have F__law_pick : Df K mg "_law_pick" s__law_pick := by
    obtain ⟨fd, F⟩ := c.def_ 39 (d := d__law_pick) rfl
    exact ⟨_, fd, He.glo_ok X G (c.fact 39 (f := .glo "_law_pick") rfl), F⟩
  have F__law_mixed : Df K mg "_law_mixed" s__law_mixed := by
    obtain ⟨fd, F⟩ := c.def_ 40 (d := d__law_mixed) rfl
    exact ⟨_, fd, He.glo_ok X G (c.fact 40 (f := .glo "_law_mixed") rfl), F⟩
  have F__law_gr_size : Df K mg "_law_gr_size" s__law_gr_size := by
    obtain ⟨fd, F⟩ := c.def_ 44 (d := d__law_gr_size) rfl
    exact ⟨_, fd, He.glo_ok X G (c.fact 44 (f := .glo "_law_gr_size") rfl), F⟩
  have F__law_gr_doors : Df K mg "_law_gr_doors" s__law_gr_doors := by
    obtain ⟨fd, F⟩ := c.def_ 43 (d := d__law_gr_doors) rfl
    exact ⟨_, fd, He.glo_ok X G (c.fact 43 (f := .glo "_law_gr_doors") rfl), F⟩
  have F_least_common : Df K mg "least_common" s_least_common := by
    obtain ⟨fd, F⟩ := c.def_ 2 (d := d_least_common) rfl
    exact ⟨_, fd, He.glo_ok X G (c.fact 2 (f := .glo "least_common") rfl), F⟩
  have F_lowest : Df K mg "lowest" s_lowest := by
    obtain ⟨fd, F⟩ := c.def_ 21 (d := d_lowest) rfl
    exact ⟨_, fd, He.glo_ok X G (c.fact 21 (f := .glo "lowest") rfl), F⟩
  have F_ratio_over : Df K mg "ratio_over" s_ratio_over := by
    obtain ⟨fd, F⟩ := c.def_ 22 (d := d_ratio_over) rfl
    exact ⟨_, fd, He.glo_ok X G (c.fact 22 (f := .glo "ratio_over") rfl), F⟩
  have F_ways_out : Df K mg "ways_out" s_ways_out := by
    obtain ⟨fd, F⟩ := c.def_ 23 (d := d_ways_out) rfl
    exact ⟨_, fd, He.glo_ok X G (c.fact 23 (f := .glo "ways_out") rfl), F⟩
  have F_lengths_right : Df K mg "lengths_right" s_lengths_right := by
    obtain ⟨fd, F⟩ := c.def_ 24 (d := d_lengths_right) rfl
    exact ⟨_, fd, He.glo_ok X G (c.fact 24 (f := .glo "lengths_right") rfl), F⟩
  have F_told_lengths : Df K mg "told_lengths" s_told_lengths := by
    obtain ⟨fd, F⟩ := c.def_ 25 (d := d_told_lengths) rfl
    exact ⟨_, fd, He.glo_ok X G (c.fact 25 (f := .glo "told_lengths") rfl), F⟩
  have F_lengths_of : Df K mg "lengths_of" s_lengths_of := by
    obtain ⟨fd, F⟩ := c.def_ 26 (d := d_lengths_of) rfl
    exact ⟨_, fd, He.glo_ok X G (c.fact 26 (f := .glo "lengths_of") rfl), F⟩
  have F_kept_pulls : Df K mg "kept_pulls" s_kept_pulls := by
    obtain ⟨fd, F⟩ := c.def_ 27 (d := d_kept_pulls) rfl
    exact ⟨_, fd, He.glo_ok X G (c.fact 27 (f := .glo "kept_pulls") rfl), F⟩
  have F__law_multiple : Df K mg "_law_multiple" s__law_multiple := by
    obtain ⟨fd, F⟩ := c.def_ 42 (d := d__law_multiple) rfl
    exact ⟨_, fd, He.glo_ok X G (c.fact 42 (f := .glo "_law_multiple") rfl), F⟩
  have F__law_fitting_doors : Df K mg "_law_fitting_doors" s__law_fitting_doors := by
    obtain ⟨fd, F⟩ := c.def_ 45 (d := d__law_fitting_doors) rfl
    exact ⟨_, fd, He.glo_ok X G (c.fact 45 (f := .glo "_law_fitting_doors") rfl), F⟩
  obtain ⟨fd, F⟩ := c.def_ 46 (d := d_law) rfl
  have e := hfa.symm.trans (He.glo_ok X G (c.fact 46 (f := .glo "law") rfl))
  cases e
  have b := FunD.bindsA (ps := ["script"]) F fun _ _ _ _ _ _ us hl => match us, hl with | [_], _ => rfl
  refine ⟨fd, fun s v => b s [v] rfl, fun base _ _ => ?_⟩
  have h_is_number := ok_is_number (P := P) (w := w) (base := base) F_is_number B 
  have h_is_below := ok_is_below (P := P) (w := w) (base := base) F_is_below B h_is_number
  have h_need_house := ok_need_house (P := P) (w := w) (base := base) F_need_house B 
  have h_need_room := ok_need_room (P := P) (w := w) (base := base) F_need_room B h_is_below
  have h_gate_of := ok_gate_of (P := P) (w := w) (base := base) F_gate_of B 
  have h_steps_of_room := ok_steps_of_room (P := P) (w := w) (base := base) F_steps_of_room B h_gate_of
  have h_turned_step := ok_turned_step (P := P) (w := w) (base := base) F_turned_step B 
  have h_steps_beyond := ok_steps_beyond (P := P) (w := w) (base := base) F_steps_beyond B h_steps_of_room h_turned_step
  have h_is_door := ok_is_door (P := P) (w := w) (base := base) F_is_door B h_is_number h_is_below
  have h_are_doors := ok_are_doors (P := P) (w := w) (base := base) F_are_doors B h_is_door
  have h_joined_rooms := ok_joined_rooms (P := P) (w := w) (base := base) F_joined_rooms B 
  have h_House := ok_House (P := P) (w := w) (base := base) F_House B h_is_number h_are_doors h_joined_rooms
  have h_need_short := ok_need_short (P := P) (w := w) (base := base) F_need_short B h_is_below
  have h_put_many := ok_put_many (P := P) (w := w) (base := base) F_put_many B 
  have h_still_on := ok_still_on (P := P) (w := w) (base := base) F_still_on B h_steps_beyond h_gate_of h_put_many
  have h_still_many := ok_still_many (P := P) (w := w) (base := base) F_still_many B h_is_number h_need_house h_need_room h_need_short h_still_on
  have h_need_lengthy := ok_need_lengthy (P := P) (w := w) (base := base) F_need_lengthy B h_need_house h_need_room h_need_short
  have h_classes_on := ok_classes_on (P := P) (w := w) (base := base) F_classes_on B h_steps_beyond h_gate_of h_put_many
  have h_class_states := ok_class_states (P := P) (w := w) (base := base) F_class_states B h_classes_on
  have h_foot_classes_many := ok_foot_classes_many (P := P) (w := w) (base := base) F_foot_classes_many B h_need_lengthy h_class_states
  have h_foot_return := ok_foot_return (P := P) (w := w) (base := base) F_foot_return B h_need_lengthy h_class_states
  have h_need_length := ok_need_length (P := P) (w := w) (base := base) F_need_length B h_is_below
  have h_all_steps := ok_all_steps (P := P) (w := w) (base := base) F_all_steps B 
  have h_rooms_table := ok_rooms_table (P := P) (w := w) (base := base) F_rooms_table B h_all_steps h_gate_of
  have h_sizes_of_rooms := ok_sizes_of_rooms (P := P) (w := w) (base := base) F_sizes_of_rooms B 
  have h_next_line := ok_next_line (P := P) (w := w) (base := base) F_next_line B 
  have h_lines_of := ok_lines_of (P := P) (w := w) (base := base) F_lines_of B h_rooms_table h_sizes_of_rooms h_next_line
  have h_feet_to := ok_feet_to (P := P) (w := w) (base := base) F_feet_to B h_need_house h_need_room h_need_length h_lines_of
  have h_feet_many := ok_feet_many (P := P) (w := w) (base := base) F_feet_many B h_feet_to
  have h__law_common := ok__law_common (P := P) (w := w) (base := base) F__law_common B 
  have h__law_begun := ok__law_begun (P := P) (w := w) (base := base) F__law_begun B 
  have h__law_blended := ok__law_blended (P := P) (w := w) (base := base) F__law_blended B 
  have h__law_draw := ok__law_draw (P := P) (w := w) (base := base) F__law_draw B h__law_blended
  have h__law_pick := ok__law_pick (P := P) (w := w) (base := base) F__law_pick B h__law_draw
  have h__law_mixed := ok__law_mixed (P := P) (w := w) (base := base) F__law_mixed B h__law_draw
  have h__law_gr_size := ok__law_gr_size (P := P) (w := w) (base := base) F__law_gr_size B h__law_pick
  have h__law_gr_doors := ok__law_gr_doors (P := P) (w := w) (base := base) F__law_gr_doors B h__law_draw h__law_gr_size h__law_mixed
  have h_least_common := ok_least_common (P := P) (w := w) (base := base) F_least_common B 
  have h_lowest := ok_lowest (P := P) (w := w) (base := base) F_lowest B 
  have h_ratio_over := ok_ratio_over (P := P) (w := w) (base := base) F_ratio_over B h_gate_of h_lowest
  have h_ways_out := ok_ways_out (P := P) (w := w) (base := base) F_ways_out B h_gate_of
  have h_lengths_right := ok_lengths_right (P := P) (w := w) (base := base) F_lengths_right B h_is_number
  have h_told_lengths := ok_told_lengths (P := P) (w := w) (base := base) F_told_lengths B h_least_common h_ratio_over h_ways_out h_lengths_right
  have h_lengths_of := ok_lengths_of (P := P) (w := w) (base := base) F_lengths_of B h_need_house h_told_lengths
  have h_kept_pulls := ok_kept_pulls (P := P) (w := w) (base := base) F_kept_pulls B h_least_common h_need_house h_told_lengths
  have h__law_multiple := ok__law_multiple (P := P) (w := w) (base := base) F__law_multiple B h__law_common
  have h__law_fitting_doors := ok__law_fitting_doors (P := P) (w := w) (base := base) F__law_fitting_doors B h__law_draw h__law_pick h__law_mixed h__law_multiple
  exact ok_law F B h__law_begun h__law_fitting_doors h__law_gr_doors h_House h__law_draw h__law_multiple h_foot_return h_foot_classes_many h_feet_many h_still_many h_kept_pulls h_lengths_of
end Kw
open PySem PySem.W PySem.Calls PyProof.Rows
theorem PySem.Challenge.cw_ropescounted_k50_whole_returns_of_feet_a_holds : PySem.Challenge.rw_ropescounted_k50_whole_returns_of_feet_a.Holds := by
  w_on; o_law
  refine HandSHeadRun.head_imp (r := OpenLaw.row PySem.Challenge.rw_ropescounted_k50_whole_returns_of_feet_a) (q := view (OpenLaw.row PySem.Challenge.rw_ropescounted_k50_whole_returns_of_feet_a).prog [0, 69]) (H := Kw.hk) (ob := Kw.ob) (M := 4000) (loose := Kw.names) (d := HandSHeadRun.topDef (OpenLaw.row PySem.Challenge.rw_ropescounted_k50_whole_returns_of_feet_a).prog 69) (kwd := []) Kw.ob_eq
    Kw.run (by kernel_rfl) (by kernel_rfl) (by kernel_rfl) (by rfl) (by first | assumption | decide +kernel) (by decide +kernel) ⟨rfl, rfl, rfl, rfl, rfl, by decide +kernel⟩ ?hw ?hc
  case hw => w_witness2
  case hc =>
    refine L2.walk_ofE (l := PySem.Challenge.rw_ropescounted_k50_whole_returns_of_feet_a) (n := 63) (k := 8) (x := "script") (CX := L2.CX0) rfl (by decide) (by kernel_rfl) ⟨rfl, by decide, by decide⟩ ?F (fun _ _ _ _ z => z)
    intro w mg fa h Y G hmg0
    obtain ⟨K, KX, c⟩ := Y
    have hmg : mg ("law" : PySem.Str) = some (.ref fa) := by
      have e : (HandSHeadRun.topDef (OpenLaw.row PySem.Challenge.rw_ropescounted_k50_whole_returns_of_feet_a).prog 69).name = ("law" : PySem.Str) := by kernel_rfl
      rw [← e]
      exact hmg0
    obtain ⟨fd, hb, hF⟩ := Kw.facts (P := (PySem.Challenge.rw_ropescounted_k50_whole_returns_of_feet_a).prog) (w := w) KX G hmg c
    exact ⟨K, fd, Kw.sp_law K, KX, hb, fun H a ns hl _ hS => ⟨a, ns, rfl, hS, hl, fun _ => rfl⟩, hF⟩

