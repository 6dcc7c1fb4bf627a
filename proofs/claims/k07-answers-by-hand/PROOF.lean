import PyProof.Rows.All
import Wide.All
import OpenK.AllK
import Wide.FinOn
import HandS.ForMost
import HandS.ForExc
import HandS.Evl
import HandS.StrMore
import HandS.Style
import HandS.IsInst
import HandS.Wide
import HandS.WideBits
import HandS.EndBits
import HandS.Walk
import HandS.Codes
import HandS.TryOnly
import HandS.ExcOwn
import HandS.ExcIs
import HandS.CallLocal
import HandS.SetFor
import HandS.Replace
import HandS.NoneIn
import PyProof.StrLawsFirst
import PyProof.StrOps2
import PyProof.MaxThree
import PyProof.SliceStr2
import KE.KRevSl
import KE.RegKIsAll
import PySem.Challenge.RW_evenbeats_k07_answers_by_hand
set_option Elab.async false
set_option linter.all false
set_option maxRecDepth 100000
set_option maxHeartbeats 4000000
/-! ### rows of beats and rests as texts -/
namespace Eb
open PySem L2 TL Builtin Builtin.Str
def sg (b : Bool) : Nat := if b then 120 else 46
theorem sg_inj : ∀ {a b : Bool}, sg a = sg b → a = b
  | true, true, _ => rfl
  | false, false, _ => rfl
  | true, false, h => by cases h
  | false, true, h => by cases h
def enc (bs : List Bool) : Str := ⟨(bs.map sg).toArray⟩
theorem tl_enc (bs : List Bool) : tl (enc bs) = bs.map sg := rfl
theorem cps_enc (bs : List Bool) : (enc bs).cps.toList = bs.map sg := rfl
theorem len_enc (bs : List Bool) : (enc bs).length = bs.length := by
  rw [len_tl, tl_enc, List.length_map]
theorem map_sg_inj : ∀ {a b : List Bool}, a.map sg = b.map sg → a = b
  | [], [], _ => rfl
  | [], _ :: _, h => by cases h
  | _ :: _, [], h => by cases h
  | x :: a, y :: b, h => by
    rw [List.map_cons, List.map_cons] at h
    injection h with h1 h2
    rw [sg_inj h1, map_sg_inj h2]
theorem enc_inj {a b : List Bool} (h : enc a = enc b) : a = b := by
  have h2 := congrArg tl h
  rw [tl_enc, tl_enc] at h2
  exact map_sg_inj h2
theorem enc_app (a b : List Bool) : enc a ++ enc b = enc (a ++ b) := ext_tl (by rw [tl_append, tl_enc, tl_enc, tl_enc, List.map_append])
theorem enc_x : ("x" : Str) = enc [true] := by decide +kernel
theorem enc_d : ("." : Str) = enc [false] := by decide +kernel
theorem enc_0 : ("" : Str) = enc [] := by decide +kernel
theorem enc_dx : (".x" : Str) = enc [false, true] := by decide +kernel
theorem enc_emp : Str.empty = enc [] := rfl
theorem dec_str (a b : List Bool) : decide (V.str (enc a) = V.str (enc b)) = decide (a = b) := by
  by_cases h : a = b
  · subst h
    rw [decide_eq_true rfl, decide_eq_true rfl]
  · rw [decide_eq_false h, decide_eq_false]
    intro q
    injection q with q2
    exact h (enc_inj q2)
theorem dec_int (a b : Int) : decide (V.int a = V.int b) = decide (a = b) := by
  by_cases h : a = b
  · subst h
    rw [decide_eq_true rfl, decide_eq_true rfl]
  · rw [decide_eq_false h, decide_eq_false]
    intro q
    injection q with q2
    exact h q2
theorem dec_bl (a b : Bool) : decide (V.bl a = V.bl b) = (a == b) := by
  cases a <;> cases b <;> decide
/-! join -/
theorem joinL0 : ∀ ls : List (List Bool), joinL [] ((ls.map enc).map tl) = ls.flatten.map sg
  | [] => rfl
  | [a] => by
    rw [List.flatten_cons, List.flatten_nil, List.append_nil]
    rfl
  | a :: b :: r => by
    rw [List.flatten_cons, List.map_append, ← joinL0 (b :: r)]
    rfl
theorem join0 (ls : List (List Bool)) : Txt.join (enc []) (ls.map enc) = enc ls.flatten := by
  rw [join_eq]
  refine ext_tl ?_
  rw [tl_join]
  exact joinL0 ls
theorem flat_one : ∀ r : List Bool, (List.map (fun b => [b]) r).flatten = r
  | [] => rfl
  | a :: r => by
    rw [List.map_cons, List.flatten_cons, flat_one r]
    rfl
theorem join_one (bs : List Bool) : Txt.join (enc []) (bs.map fun b => enc [b]) = enc bs := by
  have h := join0 (bs.map fun b => [b])
  rw [List.map_map] at h
  refine h.trans ?_
  rw [flat_one]
/-! count -/
theorem cnt_run (x : Str) (c : Nat) : ∀ (n a : Nat) (st : Array Nat × Nat), a + n = x.length + 1 → st.2 ≤ a → st.1.size ≤ a →
    (forIn (List.range' a n) st (StrLaws.occBody x ⟨#[c]⟩ x.length (x.length + 1))).run.fst.toList.length = st.1.size + ((tl x).drop a).count c := by
  intro n
  induction n with
  | zero =>
    intro a st h _ _
    rw [List.drop_eq_nil_of_le (by rw [← len_tl]; omega)]
    simp
  | succ n ih =>
    intro a st h h2 h3
    rw [List.range'_succ, List.forIn_cons]
    unfold StrLaws.occBody
    have key := StrLaws.subAt_one x c a
    by_cases hx : (tl x)[a]? = some c
    · have k2 := key.mpr hx
      have c1 : ((st.fst.size < x.length + 1 ∧ st.snd ≤ a) ∧ a + (⟨#[c]⟩ : Str).length ≤ x.length) ∧ subAt x ⟨#[c]⟩ a = true := by
        refine ⟨⟨⟨?_, h2⟩, k2.1⟩, k2.2⟩
        have := k2.1
        omega
      rw [if_pos c1]
      have e := ih (a + 1) (st.fst.push a, a + (⟨#[c]⟩ : Str).length) (by omega) (Nat.le_refl _) (by rw [Array.size_push]; omega)
      refine e.trans ?_
      obtain ⟨hlt, hv⟩ := List.getElem?_eq_some_iff.mp hx
      rw [Array.size_push, List.drop_eq_getElem_cons hlt, hv, List.count_cons_self]
      omega
    · have c2 : ¬ (((st.fst.size < x.length + 1 ∧ st.snd ≤ a) ∧ a + (⟨#[c]⟩ : Str).length ≤ x.length) ∧ subAt x ⟨#[c]⟩ a = true) := fun q => hx (key.mp ⟨q.1.2, q.2⟩)
      rw [if_neg c2]
      have e := ih (a + 1) (st.fst, st.snd) (by omega) (by show st.snd ≤ a + 1; omega) (by show st.fst.size ≤ a + 1; omega)
      refine e.trans ?_
      by_cases hlt : a < (tl x).length
      · rw [List.drop_eq_getElem_cons hlt, List.count_cons_of_ne]
        intro q
        exact hx (by rw [List.getElem?_eq_getElem hlt, ← q])
      · rw [List.drop_eq_nil_of_le (by omega), List.drop_eq_nil_of_le (by omega)]
theorem count_one (x : Str) (c : Nat) : Txt.count x ⟨#[c]⟩ = ((tl x).count c : Nat) := by
  unfold Txt.count
  rw [StrLaws.occ_eq, cnt_run x c (x.length + 1 - 0) 0 (#[], 0) (by omega) (Nat.le_refl _) (Nat.zero_le _)]
  simp
theorem count_sg : ∀ (bs : List Bool), (bs.map sg).count 120 = bs.count true
  | [] => rfl
  | true :: r => by
    rw [List.map_cons, List.count_cons_self, ← count_sg r]
    exact List.count_cons_self
  | false :: r => by
    rw [List.map_cons, List.count_cons_of_ne (by decide), count_sg r]
    exact (List.count_cons_of_ne (by decide)).symm
theorem count_enc (bs : List Bool) : Txt.count (enc bs) (enc [true]) = (bs.count true : Nat) := by
  show Txt.count (enc bs) ⟨#[120]⟩ = _
  rw [count_one, tl_enc, count_sg]
/-! find -/
theorem at_enc (ws bs : List Bool) (i : Nat) : StrLaws.At (enc ws) (enc bs) (enc ws).length i ↔ i + bs.length ≤ ws.length ∧ (ws.drop i).take bs.length = bs := by
  unfold StrLaws.At
  rw [StrLaws.subAt_eq, beq_iff_eq, len_enc, len_enc]
  show _ ∧ ((ws.map sg).drop i).take bs.length = bs.map sg ↔ _
  rw [← List.map_drop, ← List.map_take]
  exact ⟨fun h => ⟨h.1, map_sg_inj h.2⟩, fun h => ⟨h.1, congrArg _ h.2⟩⟩
theorem find_enc (ws bs : List Bool) : (Txt.find (enc ws) (enc bs) = -1 ∧ ∀ i, ¬ (i + bs.length ≤ ws.length ∧ (ws.drop i).take bs.length = bs)) ∨
    ∃ i : Nat, Txt.find (enc ws) (enc bs) = (i : Int) ∧ i + bs.length ≤ ws.length ∧ (ws.drop i).take bs.length = bs ∧ ∀ k, k < i → ¬ (k + bs.length ≤ ws.length ∧ (ws.drop k).take bs.length = bs) := by
  rcases StrLaws.occ_head (enc ws) (enc bs) 1 (Nat.le_refl _) with ⟨h, hn⟩ | ⟨i, r, h, ha, hn⟩
  · refine .inl ⟨by unfold Txt.find; rw [h], fun i q => hn i ((at_enc ws bs i).mpr q)⟩
  · have h1 := (at_enc ws bs i).mp ha
    exact .inr ⟨i, by unfold Txt.find; rw [h], h1.1, h1.2, fun k hk q => hn k hk ((at_enc ws bs k).mpr q)⟩
/-! slices, signs -/
def cutL (bs : List Bool) (lo hi : Option Int) : List Bool := (bs.drop (HT.sIx bs.length 0 lo)).take (HT.sIx bs.length bs.length hi - HT.sIx bs.length 0 lo)
theorem cut_enc (bs : List Bool) (lo hi : Option Int) : cutS (enc bs) lo hi = enc (cutL bs lo hi) := by
  refine ext_tl ?_
  show (((bs.map sg).drop (HT.sIx (enc bs).length 0 lo)).take _) = _
  rw [len_enc, ← List.map_drop, ← List.map_take]
  rfl
theorem cutL_len (bs : List Bool) (lo hi : Option Int) : (cutL bs lo hi).length ≤ bs.length := by
  unfold cutL
  rw [List.length_take, List.length_drop]
  omega
theorem sIx_nn (n : Nat) (d : Nat) (i : Nat) : HT.sIx n d (some (i : Int)) = min i n := HT.sIx_nat n d i
theorem cutL_to (bs : List Bool) (i : Nat) : cutL bs none (some (i : Int)) = bs.take i := by
  unfold cutL
  rw [HT.sIx_none, sIx_nn, List.drop_zero, Nat.sub_zero]
  rcases Nat.le_total i bs.length with h | h
  · rw [Nat.min_eq_left h]
  · rw [Nat.min_eq_right h, List.take_length, List.take_of_length_le h]
theorem cutL_from (bs : List Bool) (i : Nat) : cutL bs (some (i : Int)) none = bs.drop i := by
  unfold cutL
  rw [HT.sIx_none, sIx_nn]
  rcases Nat.le_total i bs.length with h | h
  · rw [Nat.min_eq_left h, List.take_of_length_le (by rw [List.length_drop]; omega)]
  · rw [Nat.min_eq_right h, List.drop_length, List.drop_eq_nil_of_le h, List.take_nil]
theorem cutL_mid (bs : List Bool) (i j : Nat) : cutL bs (some (i : Int)) (some (j : Int)) = (bs.drop i).take (j - i) := by
  unfold cutL
  rw [sIx_nn, sIx_nn]
  rcases Nat.le_total i bs.length with h | h
  · rw [Nat.min_eq_left h]
    rcases Nat.le_total j bs.length with h2 | h2
    · rw [Nat.min_eq_left h2]
    · rw [Nat.min_eq_right h2, List.take_of_length_le (by rw [List.length_drop]; omega), List.take_of_length_le (by rw [List.length_drop]; omega)]
  · rw [Nat.min_eq_right h, List.drop_length, List.drop_eq_nil_of_le h, List.take_nil, List.take_nil]
theorem mem_enc (bs : List Bool) : decide (120 ∈ (enc bs).cps.toList) = bs.contains true := by
  rw [cps_enc]
  induction bs with
  | nil => rfl
  | cons a r ih =>
    rw [List.map_cons, List.contains_cons, ← ih]
    cases a <;> simp [sg]
theorem mem_encF (bs : List Bool) : decide (46 ∈ (enc bs).cps.toList) = bs.contains false := by
  rw [cps_enc]
  induction bs with
  | nil => rfl
  | cons a r ih =>
    rw [List.map_cons, List.contains_cons, ← ih]
    cases a <;> simp [sg]
end Eb
/-! ### what the readings give, over rows -/
local macro_rules | `(tactic| walk_at "sz") => `(tactic| first | assumption | omega | decide | (simp only [List.length_append, List.length_cons, List.length_nil, List.length_map, List.length_replicate, List.length_range, List.length_reverse] at *; omega))
namespace Eb
open PySem L2 TL Evl Builtin Builtin.Str
theorem sz {n : Nat} (h : n ≤ 100000) : n ≤ sizeLine := sz_of h
section
variable {K : PySem.W.Frag} {σ : L2.St} {H H' : Hp} {ta tb tc te : TE} {x y z v : V} {bs cs : List Bool} {i j k : Int}
theorem ev_eq (h : Ev te σ H v) (e : v = z) : Ev te σ H z := e ▸ h
theorem et_eq {t : TT} {a b : Bool} (h : EvT t σ H a) (e : a = b) : EvT t σ H b := e ▸ h
theorem ev_cmp {p : Int → Int → Bool} (ha : Ev ta σ H (.int i)) (hb : Ev tb σ H (.int j)) : Ev (tCmp p ta tb) σ H (.bl (p i j)) := fun H1 e Q q =>
  ha H1 e _ fun H2 e2 => hb H2 (e.trans e2) _ fun H3 e3 => ⟨i, j, rfl, rfl, q H3 (e2.trans e3)⟩
theorem et_cmp {p : Int → Int → Bool} (ha : Ev ta σ H (.int i)) (hb : Ev tb σ H (.int j)) : EvT (tB (tCmp p ta tb)) σ H (p i j) := et_B (ev_cmp ha hb)
theorem rv_eqS {a b : List Bool} : RV rEq (.str (enc a)) (.str (enc b)) H (.bl (decide (a = b))) := fun H1 _ _ q => ⟨rfl, by rw [dec_str]; exact q H1 (Ex.refl H1)⟩
theorem rv_neS {a b : List Bool} : RV rNe (.str (enc a)) (.str (enc b)) H (.bl (!decide (a = b))) := fun H1 _ _ q => ⟨rfl, by rw [dec_str]; exact q H1 (Ex.refl H1)⟩
theorem rv_eqB {a b : Bool} : RV rEq (.bl a) (.bl b) H (.bl (a == b)) := fun H1 _ _ q => ⟨rfl, by rw [Eb.dec_bl]; exact q H1 (Ex.refl H1)⟩
theorem rv_neB {a b : Bool} : RV rNe (.bl a) (.bl b) H (.bl (!(a == b))) := fun H1 _ _ q => ⟨rfl, by rw [Eb.dec_bl]; exact q H1 (Ex.refl H1)⟩
theorem ev_chain {p q : Int → Int → Bool} (ha : Ev ta σ H (.int i)) (hb : Ev tb σ H (.int j)) (hc : Ev tc σ H (.int k)) :
    Ev (tChain (rI0 fun i j => .bl (p i j)) (rI0 fun i j => .bl (q i j)) ta tb tc) σ H (.bl (p i j && q j k)) := fun H1 e Q w =>
  ha H1 e _ fun H2 e2 => hb H2 (e.trans e2) _ fun H3 e3 => ⟨i, j, rfl, rfl, p i j, rfl, by
    cases hp : p i j with
    | true =>
      rw [hp] at w
      rw [if_pos rfl]
      exact hc H3 ((e.trans e2).trans e3) _ fun H4 e4 => ⟨j, k, rfl, rfl, w H4 ((e2.trans e3).trans e4)⟩
    | false =>
      rw [hp] at w
      rw [if_neg Bool.false_ne_true]
      exact w H3 (e2.trans e3)⟩
theorem et_test' {b : Bool} (h : Ev te σ H (.bl b)) : EvT (tTest te) σ H b := et_test h
theorem rv_mul (h : CMul i j) : RV (rI CMul fun i j => .int (i * j)) (.int i) (.int j) H (.int (i * j)) := rv_I h
theorem mul_l (h1 : -18446744073709551616 < i) (h2 : i < 18446744073709551616) : CMul i j := .inl ⟨h1, h2⟩
theorem mul_r (h1 : -18446744073709551616 < j) (h2 : j < 18446744073709551616) : CMul i j := .inr ⟨h1, h2⟩
/-! texts -/
theorem rv_catS (ha : bs.length ≤ 100000) (hb : cs.length ≤ 100000) : RV (fun x y H Q => ∃ i j, x = .str i ∧ y = .str j ∧ i.length + j.length ≤ sizeLine ∧ Q (.str (i ++ j)) H) (.str (enc bs)) (.str (enc cs)) H (.str (enc (bs ++ cs))) :=
  fun H1 _ _ q => ⟨_, _, rfl, rfl, by
    rw [len_enc, len_enc]
    exact Nat.le_trans (Nat.add_le_add ha hb) (by decide), by
    rw [enc_app]
    exact q H1 (Ex.refl H1)⟩
theorem rc_lenS (h : bs.length ≤ 100000) : RC (fun xs H Q => ∃ z, xs = [.str z] ∧ z.length ≤ sizeLine ∧ Q (.int z.length) H) [.str (enc bs)] H (.int (bs.length : Int)) := fun H1 _ _ q =>
  ⟨_, rfl, by
    rw [len_enc]
    exact sz h, by
    rw [len_enc]
    exact q H1 (Ex.refl H1)⟩
theorem rc_lenL {p : Addr} {xs : List V} (h : SqL K H p xs) : RC (fun xs H Q => ∃ p ys, xs = [.ref p] ∧ (SqL K H p ys ∨ SqT K H p ys) ∧ Q (.int ys.length) H) [.ref p] H (.int (xs.length : Int)) := fun H1 e _ q =>
  ⟨p, xs, rfl, .inl (ex_l e h), q H1 (Ex.refl H1)⟩
theorem at_enc1 {n : Nat} {b : Bool} (h : bs[n]? = some b) : atI (enc bs).cps.toList (n : Int) = some (sg b) := by
  refine atI_nat ?_
  rw [cps_enc, List.getElem?_map, h]
  rfl
theorem rv_ixSn {n : Nat} {b : Bool} (hl : bs.length ≤ 100000) (h : bs[n]? = some b) : RV rIxS (.str (enc bs)) (.int (n : Int)) H (.str (enc [b])) := rv_ixS (by rw [len_enc]; exact hl) (at_enc1 h)
theorem rv_ixSi {n : Nat} {b : Bool} (hl : bs.length ≤ 100000) (hi : i = (n : Int)) (h : bs[n]? = some b) : RV rIxS (.str (enc bs)) (.int i) H (.str (enc [b])) := by
  rw [hi]
  exact rv_ixSn hl h
theorem ev_slS {tl th : TO} {lo hi : Option Int} (h : Ev te σ H (.str (enc bs))) (h1 : EvO tl σ H lo) (h2 : EvO th σ H hi) (hl : bs.length ≤ 100000) : Ev (tSl rSlS te tl th) σ H (.str (enc (cutL bs lo hi))) := fun H1 e _ q =>
  h H1 e _ fun H2 e2 => h1 H2 (e.trans e2) _ fun H3 e3 => h2 H3 ((e.trans e2).trans e3) _ fun H4 e4 =>
    ⟨_, rfl, by
      rw [len_enc]
      exact sz hl, by
      rw [cut_enc]
      exact q H4 ((e2.trans e3).trans e4)⟩
/-! a text's methods: one argument -/
theorem ev_m1 {r : V → List V → Hp → VK → Prop} {a : Str} (h : Ev ta σ H (.str a)) (hb : Ev tb σ H y) (hr : ∀ H1, Ex H H1 → ∀ Q : VK, (∀ H2, Ex H1 H2 → Q z H2) → r (.str a) [y] H1 Q) : Ev (tM1 r ta tb) σ H z := fun H1 e Q q =>
  h H1 e _ fun H2 e2 => ⟨⟨a, rfl⟩, hb H2 (e.trans e2) _ fun H3 e3 => hr H3 ((e.trans e2).trans e3) Q fun H4 e4 => q H4 ((e2.trans e3).trans e4)⟩
theorem ev_cntS (h : Ev ta σ H (.str (enc bs))) (hb : Ev tb σ H (.str (enc [true]))) : Ev (tM1 (fun x xs H Q => ∃ a b, x = .str a ∧ xs = [.str b] ∧ Q (.int (Txt.count a b)) H) ta tb) σ H (.int (bs.count true : Nat)) :=
  ev_m1 h hb fun H1 _ _ q => ⟨_, _, rfl, rfl, by
    rw [count_enc]
    exact q H1 (Ex.refl H1)⟩
theorem ev_findS (h : Ev ta σ H (.str (enc bs))) (hb : Ev tb σ H (.str (enc cs))) : Ev (tM1 (fun x xs H Q => ∃ a b, x = .str a ∧ xs = [.str b] ∧ Q (.int (Txt.find a b)) H) ta tb) σ H (.int (Txt.find (enc bs) (enc cs))) :=
  ev_m1 h hb fun H1 _ _ q => ⟨_, _, rfl, rfl, q H1 (Ex.refl H1)⟩
/-- glue.join(a new list of rows) -/
theorem ev_joinN {ls : List (List Bool)} (h : Ev ta σ H (.str (enc []))) (hb : EvL tb σ H (ls.map fun l => V.str (enc l))) (hl : ls.length ≤ 100000) (h1 : ∀ l ∈ ls, l.length ≤ 100) :
    Ev (tM1 (fun x xs H Q => ∃ a p, ∃ ys : List Str, x = .str a ∧ xs = [.ref p] ∧ (SqL K H p (ys.map V.str) ∨ SqT K H p (ys.map V.str)) ∧ (ys.map (·.length)).sum + ys.length * a.length ≤ 16777216 ∧ Q (.str (Txt.join a ys)) H) ta tb) σ H (.str (enc ls.flatten)) := fun H1 e Q q =>
  h H1 e _ fun H2 e2 => ⟨⟨_, rfl⟩, hb H2 (e.trans e2) _ fun p H3 hp e3 hx => ⟨enc [], p, ls.map enc, rfl, rfl, .inl (.inl (.inl (by
      rw [List.map_map]
      exact hx))), by
      have hs : ∀ ls : List (List Bool), (∀ l ∈ ls, l.length ≤ 100) → ((ls.map enc).map (·.length)).sum ≤ 100 * ls.length := by
        intro ls
        induction ls with
        | nil => exact fun _ => Nat.le_refl _
        | cons a r ih =>
          intro h
          have h2 := h a List.mem_cons_self
          have h3 := ih fun l hm => h l (List.mem_cons_of_mem _ hm)
          rw [List.map_cons, List.map_cons, List.sum_cons, len_enc, List.length_cons]
          omega
      have h2 := hs ls h1
      rw [List.length_map, len_enc]
      simp only [List.length_nil, Nat.mul_zero, Nat.add_zero]
      omega, by
      rw [join0]
      exact q H3 (e2.trans e3)⟩⟩
/-- .. of a list that stands -/
theorem ev_joinL {ls : List (List Bool)} {p : Addr} (h : Ev ta σ H (.str (enc []))) (hb : Ev tb σ H (.ref p)) (hx : SqL K H p (ls.map fun l => V.str (enc l))) (hl : ls.length ≤ 100000) (h1 : ∀ l ∈ ls, l.length ≤ 100) :
    Ev (tM1 (fun x xs H Q => ∃ a p, ∃ ys : List Str, x = .str a ∧ xs = [.ref p] ∧ (SqL K H p (ys.map V.str) ∨ SqT K H p (ys.map V.str)) ∧ (ys.map (·.length)).sum + ys.length * a.length ≤ 16777216 ∧ Q (.str (Txt.join a ys)) H) ta tb) σ H (.str (enc ls.flatten)) := fun H1 e Q q =>
  h H1 e _ fun H2 e2 => ⟨⟨_, rfl⟩, hb H2 (e.trans e2) _ fun H3 e3 => ⟨enc [], p, ls.map enc, rfl, rfl, .inl (by
      rw [List.map_map]
      exact ex_l ((e.trans e2).trans e3) hx), by
      have hs : ∀ ls : List (List Bool), (∀ l ∈ ls, l.length ≤ 100) → ((ls.map enc).map (·.length)).sum ≤ 100 * ls.length := by
        intro ls
        induction ls with
        | nil => exact fun _ => Nat.le_refl _
        | cons a r ih =>
          intro h
          have h2 := h a List.mem_cons_self
          have h3 := ih fun l hm => h l (List.mem_cons_of_mem _ hm)
          rw [List.map_cons, List.map_cons, List.sum_cons, len_enc, List.length_cons]
          omega
      have h2 := hs ls h1
      rw [List.length_map, len_enc]
      simp only [List.length_nil, Nat.mul_zero, Nat.add_zero]
      omega, by
      rw [join0]
      exact q H3 (e2.trans e3)⟩⟩
/-! isinstance -/
theorem rc_isi {c : V} {t u : Value} {b : Bool} (hc : ClsV c u) (ht : ∀ H1, Ex H H1 → TyX K H1 x t) (hk : PySem.W.kitOne K t u = some b) : RC (rIsi K) [x, c] H (.bl b) := fun H1 e _ q => ⟨x, c, t, u, b, rfl, hc, ht H1 e, hk, q H1 (Ex.refl H1)⟩
theorem rc_isiI {n : String} {b : Bool} (hk : kitB "int" n = some b) : RC (rIsi K) [.int i, .ty n] H (.bl b) := rc_isi (.ty n) (fun _ _ => .base (.int i)) (kit_ty hk)
theorem rc_isiB {n : String} {b c : Bool} (hk : kitB "bool" n = some b) : RC (rIsi K) [.bl c, .ty n] H (.bl b) := rc_isi (.ty n) (fun _ _ => .base (.bl c)) (kit_ty hk)
theorem rc_isiS {n : String} {s : Str} {b : Bool} (hk : kitB "str" n = some b) : RC (rIsi K) [.str s, .ty n] H (.bl b) := rc_isi (.ty n) (fun _ _ => .base (.str s)) (kit_ty hk)
/-! sums, the greatest, the least -/
def mx (ns : List Int) : Int := ns.max?.getD 0
def mn (ns : List Int) : Int := ns.min?.getD 0
theorem mx_of {ns : List Int} {m : Int} (h1 : m ∈ ns) (h2 : ∀ y, y ∈ ns → y ≤ m) : m = mx ns := by
  unfold mx
  rw [List.max?_eq_some_iff.mpr ⟨h1, h2⟩]
  rfl
theorem mn_of {ns : List Int} {m : Int} (h1 : m ∈ ns) (h2 : ∀ y, y ∈ ns → m ≤ y) : m = mn ns := by
  unfold mn
  rw [List.min?_eq_some_iff.mpr ⟨h1, h2⟩]
  rfl
theorem mx_mem {ns : List Int} (h : 0 < ns.length) : mx ns ∈ ns ∧ ∀ y ∈ ns, y ≤ mx ns := by
  cases hm : ns.max? with
  | none =>
    rw [List.max?_eq_none_iff] at hm
    subst hm
    exact absurd h (Nat.lt_irrefl _)
  | some m =>
    have e : mx ns = m := by
      unfold mx
      rw [hm]
      rfl
    rw [e]
    exact List.max?_eq_some_iff.mp hm
theorem mn_mem {ns : List Int} (h : 0 < ns.length) : mn ns ∈ ns ∧ ∀ y ∈ ns, mn ns ≤ y := by
  cases hm : ns.min? with
  | none =>
    rw [List.min?_eq_none_iff] at hm
    subst hm
    exact absurd h (Nat.lt_irrefl _)
  | some m =>
    have e : mn ns = m := by
      unfold mn
      rw [hm]
      rfl
    rw [e]
    exact List.min?_eq_some_iff.mp hm
theorem rc_sum {p : Addr} {ns : List Int} (h : SqL K H p (ns.map V.int)) : RC (rSum K) [.ref p] H (.int ns.sum) := fun H1 e _ q => ⟨p, ns, rfl, ex_l e h, q H1 (Ex.refl H1)⟩
theorem rc_max {p : Addr} {ns : List Int} (h : SqL K H p (ns.map V.int)) (h0 : 0 < ns.length) : RC (rMax K) [.ref p] H (.int (mx ns)) := fun H1 e _ q => ⟨p, ns, rfl, ex_l e h, h0, fun m h1 h2 => by
  rw [mx_of h1 h2]
  exact q H1 (Ex.refl H1)⟩
theorem rc_min {p : Addr} {ns : List Int} (h : SqL K H p (ns.map V.int)) (h0 : 0 < ns.length) : RC (rMin K) [.ref p] H (.int (mn ns)) := fun H1 e _ q => ⟨p, ns, rfl, ex_l e h, h0, fun m h1 h2 => by
  rw [mn_of h1 h2]
  exact q H1 (Ex.refl H1)⟩
/-- of a list just made -/
theorem ev_maxN {ns : List Int} (h : EvL te σ H (ns.map V.int)) (h0 : 0 < ns.length) : Ev (tCB (rMax K) (tCons te tNil)) σ H (.int (mx ns)) := fun H1 e _ q =>
  h H1 e _ fun p H2 _ e2 hp => ⟨p, ns, rfl, sq_of hp, h0, fun m h1 h2 => by
    rw [mx_of h1 h2]
    exact q H2 e2⟩
/-! a place in a list of numbers -/
theorem rv_ixLi {p : Addr} {ns : List Int} {n : Nat} {m : Int} (h : SqL K H p (ns.map V.int)) (hi : i = (n : Int)) (hm : ns[n]? = some m) : RV (rIxL K) (.ref p) (.int i) H (.int m) := by
  rw [hi]
  exact rv_ixL h (atI_nat (by
    rw [List.getElem?_map, hm]
    rfl))
theorem rv_ixLlast {p : Addr} {xs : List V} (h : SqL K H p (xs ++ [v])) : RV (rIxL K) (.ref p) (.int (-1)) H v := rv_ixL h (atI_last _ _)
/-! comprehensions without tests -/
theorem given_all (n : Nat) (v : Nat → V) : given n (fun _ => true) v = (List.range n).map v := by
  unfold given
  rw [List.filter_eq_self.mpr (fun _ _ => rfl)]
theorem et_yes : EvT tYes σ H true := fun H1 _ _ q => q H1 (Ex.refl H1)
theorem el_mapR {t1 : TA} {j : Nat} {vs : List Nat} {n : Nat} (g : Nat → V) (h : EvA t1 σ H [.int (n : Int)]) (hn : n ≤ 40000) (hw : ∀ x, wipe ((wipe σ vs).set j (some x)) vs = wipe σ vs)
    (he : ∀ (i : Nat) H1, Ex H H1 → i < n → Ev te ((wipe σ vs).set j (some (.int (i : Int)))) H1 (g i)) : EvL (tLc (iRng1 t1) (gName j) tYes te vs) σ H ((List.range n).map g) := by
  have q := el_lcR1 (t := tYes) (te := te) (fun _ => true) g h (by omega) hw (fun _ _ _ _ => et_yes) (fun i H1 e hi _ => he i H1 e (by omega))
  rw [given_all] at q
  exact q
theorem el_mapL {α : Type} {a : Addr} {xs : List α} {f g : α → V} {tl : TE} {j : Nat} {vs : List Nat} (h : Ev tl σ H (.ref a)) (hx : SqL K H a (xs.map f)) (hz : xs.length ≤ 40000) (hw : ∀ x, wipe ((wipe σ vs).set j (some x)) vs = wipe σ vs)
    (he : ∀ (y : α) H1, Ex H H1 → y ∈ xs → Ev te ((wipe σ vs).set j (some (f y))) H1 (g y)) : EvL (tLc (iList K tl) (gName j) tYes te vs) σ H (xs.map g) := by
  cases hxs : xs with
  | nil =>
    have q := el_lcL (t := tYes) (te := te) (fun _ => true) (fun _ => V.non) h hx (by rw [List.length_map]; exact hz) hw (fun _ _ _ _ _ => et_yes) (fun i y H1 e hi _ => by
      rw [hxs] at hi
      simp at hi)
    rw [given_all, List.length_map, hxs] at q
    exact q
  | cons x0 r =>
    have q := el_lcL (t := tYes) (te := te) (fun _ => true) (fun i => g (xs.getD i x0)) h hx (by rw [List.length_map]; exact hz) hw (fun _ _ _ _ _ => et_yes) (fun i y H1 e hi _ => by
      rw [List.getElem?_map] at hi
      cases hq : xs[i]? with
      | none =>
        rw [hq] at hi
        cases hi
      | some w =>
        rw [hq] at hi
        have e2 : f w = y := Option.some.inj hi
        subst e2
        have e3 : xs.getD i x0 = w := by
          rw [List.getD_eq_getElem?_getD, hq]
          rfl
        rw [e3]
        exact he w H1 e (List.mem_of_getElem? hq))
    rw [given_all, List.length_map] at q
    have e : (List.range xs.length).map (fun i => g (xs.getD i x0)) = xs.map g := by
      apply List.ext_getElem?
      intro i
      rw [List.getElem?_map, List.getElem?_map]
      by_cases hi : i < xs.length
      · rw [List.getElem?_range hi, List.getElem?_eq_getElem hi]
        show some (g (xs.getD i x0)) = some (g xs[i])
        rw [List.getD_eq_getElem?_getD, List.getElem?_eq_getElem hi]
        rfl
      · rw [List.getElem?_eq_none (by rw [List.length_range]; omega), List.getElem?_eq_none (by omega)]
        rfl
    rw [e, hxs] at q
    exact q
/-- over a row, sign by sign -/
theorem el_mapS {g : Bool → V} {tl : TE} {j : Nat} {vs : List Nat} (h : Ev tl σ H (.str (enc bs))) (hz : bs.length ≤ 40000) (hw : ∀ x, wipe ((wipe σ vs).set j (some x)) vs = wipe σ vs)
    (he : ∀ (b : Bool) H1, Ex H H1 → b ∈ bs → Ev te ((wipe σ vs).set j (some (.str (enc [b])))) H1 (g b)) : EvL (tLc (iStr tl) (gName j) tYes te vs) σ H (bs.map g) := fun H0 e Q q => h H0 e _ fun H1 e1 => ⟨enc bs, rfl, fun Dl hD =>
  lc_it walk_str (fun i H' => H1 Dl = none ∧ Ex H1 H' ∧ H' Dl = some (.lst ((bs.take i).map g))) ⟨hD, Ex.new hD, upd_same⟩ (fun _ _ _ _ => trivial)
    (fun i x Ha Hb hi p y => by
      obtain ⟨rfl, c, hc, rfl⟩ := y
      obtain ⟨p1, p2, p3⟩ := p
      have hb : ∃ b, bs[i]? = some b ∧ sg b = c := by
        have h2 : (enc bs).cps.toList[i]? = some c := by
          rw [Array.getElem?_toList]
          exact hc
        rw [cps_enc, List.getElem?_map] at h2
        cases hq : bs[i]? with
        | none =>
          rw [hq] at h2
          cases h2
        | some b =>
          rw [hq] at h2
          exact ⟨b, rfl, Option.some.inj h2⟩
      obtain ⟨b, hb, rfl⟩ := hb
      refine ⟨hw _, ?_⟩
      show te (List.set (wipe σ vs) j (some (V.str (enc [b])))) Hb fun y H4 => ∃ acc, H4 Dl = some (.lst acc) ∧ acc.length < sizeLine ∧ (H1 Dl = none ∧ Ex H1 (upd H4 Dl (.lst (acc ++ [y]))) ∧ (upd H4 Dl (.lst (acc ++ [y]))) Dl = some (.lst ((bs.take (i + 1)).map g)))
      refine he b H1 (e.trans e1) (List.mem_of_getElem? hb) Hb p2 _ fun H4 e4 => ⟨(bs.take i).map g, e4 Dl _ p3, ?_, p1, Ex.mut (p2.trans e4) p1, ?_⟩
      · rw [List.length_map, List.length_take]
        exact sz_lt (by omega)
      · rw [upd_same, List.take_add_one, hb, List.map_append]
        rfl) (fun H' p => q Dl H' (fresh_back e1 p.1) (e1.trans p.2.1) (by
          have h3 := p.2.2
          rw [List.take_of_length_le (by
            have h4 := len_enc bs
            have h5 : (enc bs).length = (enc bs).cps.size := rfl
            omega)] at h3
          exact h3))⟩
end
end Eb
/-! ### rules that the layer lacks, over rows: row * n, list(row), signs counted in a list, the least of three -/
namespace Eb
open PySem PySem.Spec PyProof.Rows L2 TL Evl Builtin Builtin.Str
theorem foldl_app : ∀ (n : Nat) (a acc : Array Nat), ((List.replicate n a).foldl (· ++ ·) acc).toList = acc.toList ++ (List.replicate n a.toList).flatten
  | 0, a, acc => by simp
  | n + 1, a, acc => by
    rw [List.replicate_succ, List.foldl_cons, foldl_app n a (acc ++ a), List.replicate_succ, List.flatten_cons]
    simp
theorem rep_enc (bs : List Bool) (n : Nat) : (⟨(List.replicate n (enc bs).cps).foldl (· ++ ·) #[]⟩ : Str) = enc (List.replicate n bs).flatten := by
  refine ext_tl ?_
  show ((List.replicate n (enc bs).cps).foldl (· ++ ·) #[]).toList = _
  rw [foldl_app, tl_enc]
  show [] ++ (List.replicate n (bs.map sg)).flatten = _
  rw [List.nil_append, List.map_flatten, List.map_replicate]
theorem flat_rep1 (b : Bool) : ∀ n, (List.replicate n [b]).flatten = List.replicate n b
  | 0 => rfl
  | n + 1 => by
    rw [List.replicate_succ, List.flatten_cons, flat_rep1 b n, List.replicate_succ]
    rfl
def rMulS : R2 := fun x y H Q => ∃ (bs : List Bool) (n : Int), x = .str (enc bs) ∧ y = .int n ∧ (-1000 ≤ n ∧ n ≤ 1000 ∧ bs.length ≤ 1000) ∧ Q (.str (enc (List.replicate n.toNat bs).flatten)) H
section
variable {X : Cx}
theorem op_mulS : OpR X (binaryOp .Mult) rMulS := by
  intro pins s σ H x y v u Q I rx ry h
  obtain ⟨bs, n, rfl, rfl, ⟨h1, h2, h3⟩, q⟩ := h
  obtain ⟨t, rfl⟩ := rx
  obtain ⟨t', rfl⟩ := ry
  have hle : (enc bs).length = bs.length := len_enc bs
  refine PySem.P.mul_str (by
      have a1 : ¬ n < -(2 ^ 63 : Int) := by omega
      have a2 : ¬ n ≥ 2 ^ 63 := by omega
      rw [decide_eq_false a1, decide_eq_false a2]
      rfl) (fun c _ => by
      have : (1000 : Int) ≤ (2 ^ 63 - 1) / n := by
        rw [Int.le_ediv_iff_mul_le (by omega)]
        omega
      omega) (fun c _ => by
      rw [hle]
      unfold tooLong
      rw [decide_eq_false_iff_not]
      have : bs.length * n.toNat ≤ 1000 * 1000 := Nat.mul_le_mul h3 (by omega)
      have e2 : sizeLine = 16777216 := sizeLine_eq
      omega) ?_
  by_cases c : n < 1
  · rw [if_pos c]
    have e : n.toNat = 0 := by omega
    rw [e] at q
    exact ⟨by decide, V.str (enc []), H, I.tok _, ⟨_, rfl⟩, q⟩
  · rw [if_neg c]
    by_cases c2 : (n == 1 || (enc bs).length == 0) = true
    · rw [if_pos c2]
      have e : enc (List.replicate n.toNat bs).flatten = enc bs := by
        rw [Bool.or_eq_true, beq_iff_eq, beq_iff_eq, hle] at c2
        rcases c2 with z | z
        · rw [z]
          simp
        · have : bs = [] := List.eq_nil_of_length_eq_zero z
          rw [this]
          congr 1
          simp
      rw [e] at q
      exact ⟨V.str (enc bs), H, I, ⟨_, rfl⟩, q⟩
    · rw [if_neg c2, rep_enc]
      refine ⟨?_, V.str _, H, I.tok _, ⟨_, rfl⟩, q⟩
      rw [len_enc, List.length_flatten, List.map_replicate, List.sum_replicate_nat]
      have : n.toNat * bs.length ≤ 1000 * 1000 := Nat.mul_le_mul (by omega) h3
      exact Nat.le_trans this (by decide)
/-- list(row) -/
def rListS : List V → Hp → VK → Prop := fun xs H Q => ∃ bs : List Bool, xs = [V.str (enc bs)] ∧ bs.length ≤ 100000 ∧ ∀ l, H l = none → Q (.ref l) (upd H l (.lst (bs.map fun b => V.str (enc [b]))))
theorem call_listS (hc : X.calm = true) : CallR X (.type "list") rListS := by
  intro pins s σ H xs us Q I r h
  obtain ⟨bs, rfl, hl, q⟩ := h
  obtain ⟨u, rfl, rx⟩ := vals1 r
  obtain ⟨t, rfl⟩ := rx
  have hsz : (enc bs).cps.size = bs.length := len_enc bs
  refine call_list_str (I.ok.hd hc) (enc bs) t (fun h' tk acc' c' kp e it => ?_) (by
    rw [hsz]
    exact sz hl)
  refine ⟨.ref s.heap.objs.size, _, I.laid (t' := tk) kp (Nat.le_refl _) (show ObjOk X.prog X.w _ h' _ (.lst (bs.map fun b => V.str (enc [b]))) from ⟨?_, acc'.toList, c', ?_, e⟩), rfl, q _ (I.hok.fresh (Nat.le_refl _))⟩
  · rw [List.length_map]
    exact sz hl
  · have hs := it.1
    have hv := it.2
    rw [hsz] at hs
    have gen : ∀ (bs' : List Bool) (us : List Value) (n : Nat), us.length = bs'.length → (∀ (j : Nat) v, us[j]? = some v → ∃ b u, bs'[j]? = some b ∧ v = Value.str (enc [b]) u) → Vals (bs'.map fun b => V.str (enc [b])) us := by
      intro bs'
      induction bs' with
      | nil =>
        intro us _ hl' _
        cases us with
        | nil => exact .nil
        | cons a r => cases hl'
      | cons b r ih =>
        intro us n hl' hg
        cases us with
        | nil => cases hl'
        | cons a us =>
          obtain ⟨b', u, e1, e2⟩ := hg 0 a rfl
          have e3 : b = b' := Option.some.inj e1
          subst e3
          exact .cons ⟨u, e2⟩ (ih us n (by simpa using hl') fun j v hj => hg (j + 1) v hj)
    refine gen bs acc'.toList 0 (by
      rw [Array.length_toList]
      exact hs) fun j v hj => ?_
    rw [Array.getElem?_toList] at hj
    obtain ⟨c, u, h1, h2⟩ := hv j v hj
    have h3 : (enc bs).cps.toList[j]? = some c := by
      rw [Array.getElem?_toList]
      exact h1
    rw [cps_enc, List.getElem?_map] at h3
    cases hq : bs[j]? with
    | none =>
      rw [hq] at h3
      cases h3
    | some b =>
      rw [hq] at h3
      have e2 : sg b = c := Option.some.inj h3
      subst e2
      exact ⟨b, u, rfl, h2⟩
/-- xs.count("x"), xs a list of signs -/
def rCntS (K : PySem.W.Frag) : V → List V → Hp → VK → Prop := fun x xs H Q => ∃ (p : Addr) (bs : List Bool), x = .ref p ∧ xs = [.str (enc [true])] ∧ SqL K H p (bs.map fun b => V.str (enc [b])) ∧ Q (.int (bs.count true : Nat)) H
theorem cntin_enc : ∀ bs : List Bool, countIn (.str (enc [true])) ((bs.map fun b => enc [b]).map PyData.str) = ((bs.count true : Nat) : Int)
  | [] => rfl
  | b :: r => by
    have ih := cntin_enc r
    rw [List.map_cons, List.map_cons, countIn, ih]
    cases b
    · have e : same (.str (enc [false])) (.str (enc [true])) = false := by decide +kernel
      simp [e]
    · have e : same (.str (enc [true])) (.str (enc [true])) = true := by decide +kernel
      simp [e]
      omega
theorem mt_countS : MtR X "list.count" (rCntS X.K) := by
  intro pins s σ H x xs v us Q I rx rxs h
  obtain ⟨p, bs, rfl, rfl, hs, q⟩ := h
  cases rx
  obtain ⟨u, rfl, ru⟩ := rxs.one
  obtain ⟨t, rfl⟩ := ru
  obtain ⟨its, rv, pl, hlen⟩ := I.list hs
  have hst : StrsAre its (bs.map fun b => enc [b]) := strs_of_vals (by
    rw [List.map_map]
    exact rv)
  refine count_list_strs pl.isList hst ?_
  rw [cntin_enc]
  exact ⟨.int _, H, I.tok _, ⟨_, rfl⟩, q⟩
/-- the least of three numbers -/
theorem call_min3I (hc : X.calm = true) : CallR X (.builtin "min") (fun xs H Q => ∃ a b c : Int, xs = [.int a, .int b, .int c] ∧ Q (.int (mn [a, b, c])) H) := by
  intro pins s σ H xs us Q I r h
  obtain ⟨a, b, c, rfl, q⟩ := h
  cases r with
  | cons r1 r =>
    cases r with
    | cons r2 r =>
      cases r with
      | cons r3 r =>
        cases r
        obtain ⟨t1, rfl⟩ := r1
        obtain ⟨t2, rfl⟩ := r2
        obtain ⟨t3, rfl⟩ := r3
        refine PySem.min_three_ints (I.ok.hd hc) fun h' tk kp => ?_
        have hm : ∀ m, m ∈ [a, b, c] → (∀ y ∈ [a, b, c], m ≤ y) → Q (.int m) H := fun m h1 h2 => by
          rw [mn_of h1 h2]
          exact q
        have I' := I.kept (t' := tk) kp
        by_cases c1 : b < a <;> by_cases c2 : c < b <;> by_cases c3 : c < a <;> simp only [c1, c2, c3, if_true, if_false] <;>
          (refine ⟨.int (_ : Int), H, I', ⟨_, rfl⟩, hm _ (by simp) (by
            intro y hy
            simp only [List.mem_cons, List.not_mem_nil, or_false] at hy
            omega)⟩)
end
/-! their readings -/
section
variable {K : PySem.W.Frag} {σ : L2.St} {H H' : Hp} {ta tb tc te : TE} {x y z v : V} {bs cs : List Bool} {i j k : Int}
theorem rv_mulS (h : -1000 ≤ i ∧ i ≤ 1000 ∧ bs.length ≤ 1000) : RV rMulS (.str (enc bs)) (.int i) H (.str (enc (List.replicate i.toNat bs).flatten)) := fun H1 _ _ q => ⟨bs, i, rfl, rfl, h, q H1 (Ex.refl H1)⟩
theorem el_listS (h : Ev te σ H (.str (enc bs))) (hl : bs.length ≤ 100000) : EvL (tCB rListS (tCons te tNil)) σ H (bs.map fun b => V.str (enc [b])) := fun H1 e Q q =>
  h H1 e _ fun H2 e2 => ⟨bs, rfl, hl, fun l hl => q l _ (fresh_back e2 hl) (e2.trans (Ex.new hl)) upd_same⟩
theorem ev_cntL {p : Addr} (h : Ev ta σ H (.ref p)) (hb : Ev tb σ H (.str (enc [true]))) (hx : SqL K H p (bs.map fun b => V.str (enc [b]))) : Ev (tBM K "list" (rCntS K) ta (tCons tb tNil)) σ H (.int (bs.count true : Nat)) := fun H1 e Q q =>
  h H1 e _ fun H2 e2 => ⟨.inl ⟨rfl, _, ex_l (e.trans e2) hx⟩, hb H2 (e.trans e2) _ fun H3 e3 => ⟨p, bs, rfl, rfl, ex_l ((e.trans e2).trans e3) hx, q H3 (e2.trans e3)⟩⟩
theorem rc_min3 {a b c : Int} : RC (fun xs H Q => ∃ a b c : Int, xs = [.int a, .int b, .int c] ∧ Q (.int (mn [a, b, c])) H) [.int a, .int b, .int c] H (.int (mn [a, b, c])) := fun H1 _ _ q => ⟨a, b, c, rfl, q H1 (Ex.refl H1)⟩
theorem takeWhile_all {p : Nat → Bool} : ∀ l : List Nat, (∀ c ∈ l, p c = true) → l.takeWhile p = l
  | [], _ => rfl
  | a :: r, h => by
    rw [List.takeWhile_cons, h a List.mem_cons_self, if_pos rfl, takeWhile_all r fun c hc => h c (List.mem_cons_of_mem _ hc)]
theorem ite_self_of {α : Type} {c : Prop} [Decidable c] {a b : α} (h : a = b) : (if c then a else b) = b := by
  rw [h, ite_self]
/-- a row stripped of beats and rests -/
theorem strip_enc (bs : List Bool) : Txt.stripChars (enc bs) (enc ([true] ++ [false])) = enc [] := by
  have hgo : ∀ c ∈ (enc bs).cps.toList, (enc ([true] ++ [false])).cps.contains c = true := by
    intro c hc
    rw [cps_enc] at hc
    obtain ⟨b, _, rfl⟩ := List.mem_map.mp hc
    cases b <;> decide +kernel
  have hw : (enc bs).cps.toList.takeWhile (enc ([true] ++ [false])).cps.contains = (enc bs).cps.toList := takeWhile_all _ hgo
  have hlo : stripLo (enc ([true] ++ [false])).cps.contains true (enc bs) = bs.length := by
    unfold stripLo
    rw [if_pos rfl, hw, cps_enc, List.length_map]
  unfold Txt.stripChars Txt.stripBy
  cases bs with
  | nil =>
    by_cases hc : stripSame (enc ([true] ++ [false])).cps.contains true true (enc []) = true
    · rw [if_pos hc]
    · rw [if_neg hc]
      refine ext_tl ?_
      unfold stripped
      rw [tl_strSub, hlo, List.drop_eq_nil_of_le (by rw [tl_enc]; exact Nat.zero_le _), List.take_nil]
      rfl
  | cons b r =>
    have hs : stripSame (enc ([true] ++ [false])).cps.contains true true (enc (b :: r)) = false := by
      unfold stripSame
      rw [hlo]
      rfl
    rw [hs, if_neg Bool.false_ne_true]
    refine ext_tl ?_
    unfold stripped
    rw [tl_strSub, hlo, List.drop_eq_nil_of_le (by rw [tl_enc, List.length_map]; exact Nat.le_refl _), List.take_nil]
    rfl
theorem ev_stripS (h : Ev ta σ H (.str (enc bs))) (hb : Ev tb σ H (.str (enc ([true] ++ [false])))) (hl : bs.length ≤ 100000) :
    Ev (tM1 (fun x xs H Q => ∃ a b, x = .str a ∧ xs = [.str b] ∧ a.length ≤ sizeLine ∧ Q (.str (Txt.stripChars a b)) H) ta tb) σ H (.str (enc [])) :=
  ev_m1 h hb fun H1 _ _ q => ⟨_, _, rfl, rfl, by
    rw [len_enc]
    exact sz hl, by
    rw [strip_enc]
    exact q H1 (Ex.refl H1)⟩
end
end Eb
/-! ### more readings; the built-in names; defs by name -/
namespace Eb
open PySem PySem.Spec PyProof.Rows L2 TL Evl Builtin Builtin.Str
theorem hu64 {A : Around} {k : Nat} (hr : Room k A) : A.units + 64 < cLine := by
  have := hr.un
  omega
theorem hu1 {A : Around} {k : Nat} (hr : Room k A) : A.units + 1 < cLine := by
  have := hr.un
  omega
theorem mulx20 {c : Int} (h : Builtin.Int.intBits c ≤ 1048576) : CMulX c (10 ^ (20 : Int).toNat) := by
  have h2 : Builtin.Int.intBits (10 ^ (20 : Int).toNat) ≤ 67 := by decide +kernel
  unfold CMulX
  omega
section
variable {X : Cx} {j : Nat} {pos : Pos}
theorem pe_sx : PE X (.Constant (.str "x") j pos) (tC (.str (enc [true]))) := by
  rw [← enc_x]
  exact pe_str
theorem pe_sd : PE X (.Constant (.str ".") j pos) (tC (.str (enc [false]))) := by
  rw [← enc_d]
  exact pe_str
theorem pe_s0 : PE X (.Constant (.str "") j pos) (tC (.str (enc []))) := by
  rw [← enc_0]
  exact pe_str
theorem pe_sdx : PE X (.Constant (.str ".x") j pos) (tC (.str (enc [false, true]))) := by
  rw [← enc_dx]
  exact pe_str
end
section
variable {K : PySem.W.Frag} {σ : L2.St} {H H' : Hp} {ta tb tc te : TE} {x y z v : V} {bs cs : List Bool} {i j k : Int}
theorem ev_ifV {t : TT} {b : Bool} {u w : V} (h : EvT t σ H b) (ha : Ev ta σ H u) (hb : Ev tb σ H w) : Ev (tIf t ta tb) σ H (if b then u else w) := by
  refine ev_if h (fun e => ?_) (fun e => ?_)
  · subst e
    exact ha
  · subst e
    exact hb
theorem ev_ifS {t : TT} {b : Bool} (h : EvT t σ H b) (ha : Ev ta σ H (.str (enc [true]))) (hb : Ev tb σ H (.str (enc [false]))) : Ev (tIf t ta tb) σ H (.str (enc [b])) :=
  ev_eq (ev_ifV h ha hb) (by cases b <;> rfl)
theorem ev_ifN {t : TT} {b : Bool} (h : EvT t σ H b) (ha : Ev ta σ H (.str (enc [false]))) (hb : Ev tb σ H (.str (enc [true]))) : Ev (tIf t ta tb) σ H (.str (enc [!b])) :=
  ev_eq (ev_ifV h ha hb) (by cases b <;> rfl)
theorem ev_ifD {t : TT} {b : Bool} (h : EvT t σ H b) (ha : Ev ta σ H (.str (enc bs))) (hb : Ev tb σ H (.str (enc cs))) : Ev (tIf t ta tb) σ H (.str (enc (if b then bs else cs))) :=
  ev_eq (ev_ifV h ha hb) (by cases b <;> rfl)
theorem ev_ifI {t : TT} {b : Bool} (h : EvT t σ H b) (ha : Ev ta σ H (.int i)) (hb : Ev tb σ H (.int j)) : Ev (tIf t ta tb) σ H (.int (if b then i else j)) :=
  ev_eq (ev_ifV h ha hb) (by cases b <;> rfl)
theorem getD_some {α : Type} {l : List α} {n : Nat} {d : α} (h : n < l.length) : l[n]? = some (l.getD n d) := by
  rw [List.getD_eq_getElem?_getD, List.getElem?_eq_getElem h]
  rfl
theorem rv_ixSg (hl : bs.length ≤ 100000) (h0 : 0 ≤ i) (h1 : i < bs.length) : RV rIxS (.str (enc bs)) (.int i) H (.str (enc [bs.getD i.toNat false])) :=
  rv_ixSi hl (by omega : i = (i.toNat : Int)) (getD_some (by omega))
theorem rv_ixSm (hl : bs.length ≤ 100000) (h0 : 0 < j) (h1 : j ≤ bs.length) : RV rIxS (.str (enc bs)) (.int (i % j)) H (.str (enc [bs.getD (i % j).toNat false])) :=
  rv_ixSg hl (Int.emod_nonneg i (by omega)) (Int.lt_of_lt_of_le (Int.emod_lt_of_pos i h0) h1)
theorem rv_ixLg {p : Addr} {ns : List Int} (h : SqL K H p (ns.map V.int)) (h0 : 0 ≤ i) (h1 : i < ns.length) : RV (rIxL K) (.ref p) (.int i) H (.int (ns.getD i.toNat 0)) :=
  rv_ixLi h (by omega : i = (i.toNat : Int)) (getD_some (by omega))
theorem rv_ixLmod {p : Addr} {ns : List Int} (h : SqL K H p (ns.map V.int)) (h0 : 0 < j) (h1 : j ≤ ns.length) : RV (rIxL K) (.ref p) (.int (i % j)) H (.int (ns.getD (i % j).toNat 0)) :=
  rv_ixLg h (Int.emod_nonneg i (by omega)) (Int.lt_of_lt_of_le (Int.emod_lt_of_pos i h0) h1)
theorem rv_ixLm {p : Addr} {ns : List Int} (h : SqL K H p (ns.map V.int)) (h1 : 0 < ns.length) : RV (rIxL K) (.ref p) (.int (-1)) H (.int (ns.getLast?.getD 0)) := by
  rcases List.eq_nil_or_concat ns with e | ⟨r, a, e⟩
  · subst e
    exact absurd h1 (Nat.lt_irrefl _)
  · rw [List.concat_eq_append] at e
    subst e
    rw [List.map_append] at h
    rw [List.getLast?_append]
    exact rv_ixLlast h
theorem rv_inX : RV (fun x y H Q => ∃ (c : Nat) (z : Str), x = .str ⟨#[c]⟩ ∧ y = .str z ∧ Q (.bl (decide (c ∈ z.cps.toList))) H) (.str (enc [true])) (.str (enc bs)) H (.bl (bs.contains true)) := fun H1 _ _ q => ⟨120, _, rfl, rfl, by
  rw [mem_enc]
  exact q H1 (Ex.refl H1)⟩
theorem rv_notInX : RV (fun x y H Q => ∃ (c : Nat) (z : Str), x = .str ⟨#[c]⟩ ∧ y = .str z ∧ Q (.bl (!decide (c ∈ z.cps.toList))) H) (.str (enc [true])) (.str (enc bs)) H (.bl (!bs.contains true)) := fun H1 _ _ q => ⟨120, _, rfl, rfl, by
  rw [mem_enc]
  exact q H1 (Ex.refl H1)⟩
theorem rv_notInXD : RV (fun x y H Q => ∃ (c : Nat) (z : Str), x = .str ⟨#[c]⟩ ∧ y = .str z ∧ Q (.bl (!decide (c ∈ z.cps.toList))) H) (.str (enc [false])) (.str (enc bs)) H (.bl (!bs.contains false)) := fun H1 _ _ q => ⟨46, _, rfl, rfl, by
  rw [mem_encF]
  exact q H1 (Ex.refl H1)⟩
theorem ev_minN {ns : List Int} (h : EvL te σ H (ns.map V.int)) (h0 : 0 < ns.length) : Ev (tCB (rMin K) (tCons te tNil)) σ H (.int (mn ns)) := fun H1 e _ q =>
  h H1 e _ fun p H2 _ e2 hp => ⟨p, ns, rfl, sq_of hp, h0, fun m h1 h2 => by
    rw [mn_of h1 h2]
    exact q H2 e2⟩
theorem rc_max2 : RC (fun xs H Q => ∃ i j, xs = [.int i, .int j] ∧ Q (.int (if j > i then j else i)) H) [.int i, .int j] H (.int (if j > i then j else i)) := fun H1 _ _ q => ⟨i, j, rfl, q H1 (Ex.refl H1)⟩
/-- glue.join of a new list: one sign each; a row each -/
theorem ev_joinMN {α : Type} {xs : List α} {f : α → List Bool} (h : Ev ta σ H (.str (enc []))) (hb : EvL tb σ H (xs.map fun a => V.str (enc (f a)))) (hl : xs.length ≤ 100000) (h1 : ∀ a ∈ xs, (f a).length ≤ 100) :
    Ev (tM1 (fun x xs H Q => ∃ a p, ∃ ys : List Str, x = .str a ∧ xs = [.ref p] ∧ (SqL K H p (ys.map V.str) ∨ SqT K H p (ys.map V.str)) ∧ (ys.map (·.length)).sum + ys.length * a.length ≤ 16777216 ∧ Q (.str (Txt.join a ys)) H) ta tb) σ H (.str (enc (xs.map f).flatten)) :=
  ev_joinN (ls := xs.map f) h (by
    rw [List.map_map]
    exact hb) (by
    rw [List.length_map]
    exact hl) (fun l hm => by
    obtain ⟨a, ha, rfl⟩ := List.mem_map.mp hm
    exact h1 a ha)
theorem flat_sing {α : Type} (f : α → Bool) : ∀ xs : List α, (xs.map fun a => [f a]).flatten = xs.map f
  | [] => rfl
  | a :: r => by
    rw [List.map_cons, List.flatten_cons, flat_sing f r]
    rfl
theorem ev_join1N {α : Type} {xs : List α} {f : α → Bool} (h : Ev ta σ H (.str (enc []))) (hb : EvL tb σ H (xs.map fun a => V.str (enc [f a]))) (hl : xs.length ≤ 100000) :
    Ev (tM1 (fun x xs H Q => ∃ a p, ∃ ys : List Str, x = .str a ∧ xs = [.ref p] ∧ (SqL K H p (ys.map V.str) ∨ SqT K H p (ys.map V.str)) ∧ (ys.map (·.length)).sum + ys.length * a.length ≤ 16777216 ∧ Q (.str (Txt.join a ys)) H) ta tb) σ H (.str (enc (xs.map f))) := by
  have q := ev_joinMN (K := K) (f := fun a => [f a]) h hb hl (fun _ _ => Nat.le_of_ble_eq_true rfl)
  rw [flat_sing] at q
  exact q
theorem ev_join1L {bs : List Bool} {p : Addr} (h : Ev ta σ H (.str (enc []))) (hb : Ev tb σ H (.ref p)) (hx : SqL K H p (bs.map fun b => V.str (enc [b]))) (hl : bs.length ≤ 100000) :
    Ev (tM1 (fun x xs H Q => ∃ a p, ∃ ys : List Str, x = .str a ∧ xs = [.ref p] ∧ (SqL K H p (ys.map V.str) ∨ SqT K H p (ys.map V.str)) ∧ (ys.map (·.length)).sum + ys.length * a.length ≤ 16777216 ∧ Q (.str (Txt.join a ys)) H) ta tb) σ H (.str (enc bs)) := by
  have q := ev_joinL (K := K) (ls := bs.map fun b => [b]) h hb (by
    rw [List.map_map]
    exact hx) (by
    rw [List.length_map]
    exact hl) (fun l hm => by
    obtain ⟨a, _, rfl⟩ := List.mem_map.mp hm
    exact (by decide : 1 ≤ 100))
  rw [flat_one] at q
  exact q
end
/-! rules whose reading names the written part K outright (so that a comprehension's block may use them) -/
section
variable {X : Cx}
theorem pe_fldK {K : PySem.W.Frag} {e : Expr} {ta : TE} {f : Str} {pos : Pos} (h : X.K = K) (he : PE X e ta) (hb : attributeBase e f X.env (eval e X.env) = eval e X.env) : PE X (.Attribute e f pos) (tFld K ta f) := h ▸ pe_fld he hb
theorem ix_listK {K : PySem.W.Frag} (h : X.K = K) : IxR X (rIxL K) := h ▸ ix_list
theorem ix_tupK {K : PySem.W.Frag} (h : X.K = K) : IxR X (rIxT K) := h ▸ ix_tup
theorem cr_maxK {K : PySem.W.Frag} (h : X.K = K) (hc : X.calm = true) : CallR X (.builtin "max") (rMax K) := h ▸ cr_max hc
theorem cr_minK {K : PySem.W.Frag} (h : X.K = K) (hc : X.calm = true) : CallR X (.builtin "min") (rMin K) := h ▸ cr_min hc
theorem call_isiK1 {K : PySem.W.Frag} (h : X.K = K) : CallR X (.builtin "isinstance") (rIsi K) := h ▸ call_isi
end
/-! the built-in names that no module binds -/
structure Bn (mg : Str → Option Value) : Prop where
  len_ : mg "len" = none
  range_ : mg "range" = none
  max_ : mg "max" = none
  min_ : mg "min" = none
  isinstance_ : mg "isinstance" = none
  sum_ : mg "sum" = none
  any_ : mg "any" = none
  all_ : mg "all" = none
  int_ : mg "int" = none
  str_ : mg "str" = none
  bool_ : mg "bool" = none
  list_ : mg "list" = none
  enumerate_ : mg "enumerate" = none
structure Tx (mg : Str → Option Value) : Prop where
  beat : ∃ u, mg "BEAT" = some u ∧ RelV (.str (enc [true])) u
  rest : ∃ u, mg "REST" = some u ∧ RelV (.str (enc [false])) u
theorem tx_x {t : Tok} : RelV (.str (enc [true])) (.str "x" t) := ⟨t, by rw [enc_x]⟩
theorem tx_d {t : Tok} : RelV (.str (enc [false])) (.str "." t) := ⟨t, by rw [enc_d]⟩
/-- a def of the module, as the top leaves it -/
structure DefAt (K : PySem.W.Frag) (mg : Str → Option Value) (x : Str) (st : Stmt) : Prop where
  ex : ∃ f fd, Fun K x x st f fd ∧ mg x = some (.ref f)
section
variable {P : Program} {w : World} {K : PySem.W.Frag} {mg : Str → Option Value} {base : Heap}
theorem cal_of {x : Str} {st : Stmt} {N ps : List Str} {k : Nat} {sp : Sp} (D : DefAt K mg x st)
    (b : ∀ (kV doc pm : Value) (an : Option Addr) (cdv ct : Value) (us : List Value), us.length = ps.length → bindArgs (PySem.W.fnOf x x (defArgs st) (defBody st) (defScope st) .none kV doc pm an cdv ct) ⟨us, []⟩ = pure (ps.zip us))
    (S : FnScope N ps (defScope st)) (len : ∀ vs H Q E, sp vs H Q E → vs.length = ps.length)
    (hbody : ∀ (f : Addr) (cdv : Value) (A : Around) (outer : List Env) (s : Shared) (H : Hp) (vs : List V) (Q : VK) (E : XK), Room k (A.deeper (envOfC x (defScope st) s.heap.objs.size f cdv)) → sp vs H Q E →
      ∃ t, PSs (cxOf CX0 P w K mg base N x (defScope st) f cdv A outer s H E).nox (defBody st) t ∧ t { nx := fun _ H' => Q .non H', rt := Q } (start N vs) H) : C8.Cal P w K mg base (k + 1) x sp [] := by
  obtain ⟨f, fd, F, g⟩ := D.ex
  exact ⟨f, fd, ps, [], F.ok S len (hbody f), g, F.kp, F.binds b, .nil⟩
/-- a def that may raise -/
structure CalX (P : Program) (w : World) (K : PySem.W.Frag) (mg : Str → Option Value) (base : Heap) (k : Nat) (x : Str) (sp : Sp) (dvs : List V) : Prop where
  ex : ∃ (f : Addr) (fd : FuncData) (ps : List Str), FnOk P w K mg base (L2.CX P w) k f fd ps sp ∧ mg x = some (.ref f) ∧ PySem.W.keepIn K (.ref f) = true ∧ Binds K fd ps []
theorem calx_of {x : Str} {st : Stmt} {N ps : List Str} {k : Nat} {sp : Sp} (D : DefAt K mg x st)
    (b : ∀ (kV doc pm : Value) (an : Option Addr) (cdv ct : Value) (us : List Value), us.length = ps.length → bindArgs (PySem.W.fnOf x x (defArgs st) (defBody st) (defScope st) .none kV doc pm an cdv ct) ⟨us, []⟩ = pure (ps.zip us))
    (S : FnScope N ps (defScope st)) (len : ∀ vs H Q E, sp vs H Q E → vs.length = ps.length)
    (hbody : ∀ (f : Addr) (cdv : Value) (A : Around) (outer : List Env) (s : Shared) (H : Hp) (vs : List V) (Q : VK) (E : XK), Room k (A.deeper (envOfC x (defScope st) s.heap.objs.size f cdv)) → sp vs H Q E →
      ∃ t, PSs (cxOf (L2.CX P w) P w K mg base N x (defScope st) f cdv A outer s H E) (defBody st) t ∧ t { nx := fun _ H' => Q .non H', rt := Q } (start N vs) H) : CalX P w K mg base (k + 1) x sp [] := by
  obtain ⟨f, fd, F, g⟩ := D.ex
  exact ⟨f, fd, ps, F.okX S len (hbody f), g, F.kp, F.binds b⟩
end
/-- f(e, ..), f a def that may raise -/
theorem pe_cx {X : Cx} {k j : Nat} {x : Str} {sp : Sp} {dvs : List V} {E : XK} {p pos : Pos} {e : Expr} {es : List Expr} {t : TA} (hx : Passes (L2.CX X.prog X.w) X E) (c : CalX X.prog X.w X.K X.mg X.base k x sp dvs) (hr : Room j X.A) (hk : k ≤ j) (hg : Gl X x) (ha : PA X (e :: es) t)
    (hdb : (x == ("__debug__" : Str)) = false := by decide) (he : starEach (e :: es) X.env = (false, eval e X.env) :: starEach es X.env := by rfl) (hpl : (backTo pos (starEach es X.env)).any (·.1) = false := by rfl) :
    PE X (.Call (.Name x p) (e :: es) [] pos) (tCall sp [] E t) := by
  obtain ⟨f, fd, ps, F, hm, kp, b⟩ := c.ex
  exact pe_call F (hr.mono hk) hg hm kp b .nil hx ha hdb he hpl
section
variable {K : PySem.W.Frag} {σ : L2.St} {H H' : Hp} {ta tb tc te : TE} {x y z v : V} {bs cs : List Bool} {i j k : Int}
theorem rc_lenLi {p : Addr} {ns : List Int} (h : SqL K H p (ns.map V.int)) : RC (fun xs H Q => ∃ p ys, xs = [.ref p] ∧ (SqL K H p ys ∨ SqT K H p ys) ∧ Q (.int ys.length) H) [.ref p] H (.int (ns.length : Int)) := by
  have q := rc_lenL h
  rw [List.length_map] at q
  exact q
theorem el_eq {xs ys : List V} (h : EvL te σ H xs) (e : xs = ys) : EvL te σ H ys := e ▸ h
theorem el_mapRi {t1 : TA} {j : Nat} {vs : List Nat} {n : Int} (g : Nat → V) (h : EvA t1 σ H [.int n]) (hn : 0 ≤ n ∧ n ≤ 40000) (hw : ∀ x, wipe ((wipe σ vs).set j (some x)) vs = wipe σ vs)
    (he : ∀ (i : Nat) H1, Ex H H1 → i < n.toNat → Ev te ((wipe σ vs).set j (some (.int (i : Int)))) H1 (g i)) : EvL (tLc (iRng1 t1) (gName j) tYes te vs) σ H ((List.range n.toNat).map g) := by
  have e : n = (n.toNat : Int) := by omega
  rw [e] at h
  exact el_mapR g h (by omega) hw he
variable {D : Ends} {tu tz : TS}
/-- for sign in a row -/
theorem q_forS {tl : TE} {j : Nat} (h : Ev tl σ H (.str (enc bs))) (Pv : Nat → L2.St → Hp → Prop) (h0 : ∀ H1, Ex H H1 → Pv 0 σ H1)
    (hs : ∀ i b σ' H', bs[i]? = some b → Pv i σ' H' → tu { D with nx := Pv (i + 1), ct := Pv (i + 1), bk := tz D } (σ'.set j (some (.str (enc [b])))) H') (hd : ∀ σ' H', Pv bs.length σ' H' → tz D σ' H') :
    tSeq (tFor (iStr tl) (gName j) tu) tz D σ H := h H (Ex.refl H) _ fun H1 e => ⟨enc bs, rfl, for_it walk_str Pv (h0 H1 e) (fun _ _ _ _ _ => trivial) (fun i x σ' Ha Hb hi p y => by
      obtain ⟨rfl, c, hc, rfl⟩ := y
      have h2 : (enc bs).cps.toList[i]? = some c := by
        rw [Array.getElem?_toList]
        exact hc
      rw [cps_enc, List.getElem?_map] at h2
      cases hq : bs[i]? with
      | none =>
        rw [hq] at h2
        cases h2
      | some b =>
        rw [hq] at h2
        have e2 : sg b = c := Option.some.inj h2
        subst e2
        exact hs i b σ' Hb hq p) (fun σ' H' p => hd σ' H' (by
      have h4 := len_enc bs
      have h5 : (enc bs).length = (enc bs).cps.size := rfl
      have h6 : (enc bs).cps.size = bs.length := by omega
      rw [h6] at p
      exact p))⟩
end
end Eb
local macro_rules | `(tactic| walk_at "sz") => `(tactic| first | assumption | omega | decide | (simp only [List.length_append, List.length_cons, List.length_nil, List.length_map, List.length_replicate, List.length_range, List.length_reverse, Int.toNat_natCast]; omega))
local macro_rules | `(tactic| walk_at "pos") => `(tactic| first | assumption | omega | decide)
local macro_rules | `(tactic| walk_at "ix") => `(tactic| first | assumption | omega | decide | (simp only [List.length_append, List.length_cons, List.length_nil, List.length_map, List.length_replicate, List.length_range, List.length_reverse, Int.toNat_natCast]; omega))
local macro_rules | `(tactic| walk_at "div") => `(tactic| (refine ⟨?_, ?_⟩ <;> first | assumption | omega | decide))
local macro_rules | `(tactic| walk_at "mul") => `(tactic| first | exact Eb.mul_l (by omega) (by omega) | exact Eb.mul_r (by omega) (by omega) | exact Eb.mulx20 (by assumption) | assumption)
local macro_rules | `(tactic| walk_at "pow") => `(tactic| exact ⟨by decide, by decide, by decide⟩)
local macro_rules | `(tactic| walk_at "lst") => `(tactic| first | assumption | exact Evl.sq_of (by assumption) | exact Evl.st_of (by assumption))
local macro_rules | `(tactic| walk_at "ln") => `(tactic| first | assumption | omega | (simp only [List.length_append, List.length_cons, List.length_nil, List.length_map, List.length_replicate, List.length_range, List.length_reverse, Int.toNat_natCast]; omega))
local macro_rules | `(tactic| walk_at "pre") => `(tactic| first | assumption | omega | decide | exact Evl.sq_of (by assumption) | (simp only [List.length_append, List.length_cons, List.length_nil, List.length_map, List.length_replicate, List.length_range, List.length_reverse, Int.toNat_natCast]; omega) | (refine ⟨?_, ?_⟩ <;> walk_at "pre"))
local macro_rules | `(tactic| walk_at "rg") => `(tactic| (refine ⟨?_, ?_⟩ <;> first | assumption | omega | decide))
/-! ### own classes: instances, their fields, what isinstance says -/
namespace Eb
open PySem PySem.Spec PyProof.Rows L2 TL Evl
structure Kl (K : PySem.W.Frag) (C : Addr) : Prop where
  cl : Cls K C
  ha : PySem.W.findIn K (.ref C) "__class__" = some (some (.builtin "object.__class__"))
  hn : PySem.W.specialIn K (.builtin "object.__class__") "__get__" = some (some (.builtin "getset_descriptor.__get__"))
  htk : PySem.W.takesIn K (.builtin "object.__class__") = some true
  hm : PySem.W.mroIn K C (.type "object") = some true
theorem rc_isO {K : PySem.W.Frag} {H : Hp} {a C D dx : Addr} {fs : List (Str × V)} {b : Bool} (k : Kl K C) (ho : H a = some (.ins C dx fs)) (hk : PySem.W.kitOne K (.ref C) (.ref D) = some b) : RC (rIsi K) [.ref a, .ref D] H (.bl b) :=
  rc_isi (.own D) (fun _ e => .base (.ins (e _ _ ho) k.cl k.ha k.hn k.htk k.hm)) hk
/-- all but x stays -/
def KeepBut (x : Addr) (H H' : Hp) : Prop := ∀ b o, b ≠ x → H b = some o → H' b = some o
theorem KeepBut.refl (x : Addr) (H : Hp) : KeepBut x H H := fun _ _ _ h => h
theorem KeepBut.put {x : Addr} {H H1 : Hp} {o : HO} (h : KeepBut x H H1) : KeepBut x H (upd H1 x o) := fun b u hb e => by
  rw [upd_ne hb]
  exact h b u hb e
theorem KeepBut.ex {x : Addr} {H H1 H2 : Hp} (h : KeepBut x H H1) (e : Ex H1 H2) : KeepBut x H H2 := fun b u hb q => e b u (h b u hb q)
/-- __init__: each parameter goes to the field of its name -/
def spI (C : Addr) (fs : List Str) : Sp := fun vs H Q _ => ∃ (x dx : Addr) (us : List V), vs = .ref x :: us ∧ us.length = fs.length ∧ H x = some (.ins C dx []) ∧ ∀ H', KeepBut x H H' → H' x = some (.ins C dx (fs.zip us)) → Q .non H'
/-- a new instance -/
def EvN (te : TE) (σ : L2.St) (H : Hp) (C : Addr) (fs : List (Str × V)) : Prop := ∀ H1, Ex H H1 → ∀ Q : VK, (∀ p dx H2, H1 p = none → Ex H1 H2 → H2 p = some (.ins C dx fs) → Q (.ref p) H2) → te σ H1 Q
section
variable {K : PySem.W.Frag} {σ : L2.St} {H H' : Hp} {ta tb te : TE} {x y z v : V} {a C dx : Addr} {fs : List (Str × V)} {f m : Str} {D : Ends} {tz : TS}
theorem EvN.mono (e : Ex H H') (h : EvN te σ H C fs) : EvN te σ H' C fs := fun H1 q Q k => h H1 (e.trans q) Q k
theorem en_make {names : List Str} {E : XK} {t : TA} {us : List V} (h : EvA t σ H us) (hl : us.length = names.length) : EvN (tMake C (spI C names) [] E t) σ H C (names.zip us) := fun H1 e Q q =>
  h H1 e _ fun H2 e2 x dx hx hdx hne => ⟨x, dx, us ++ [], rfl, by
    rw [List.append_nil]
    exact hl, upd_same, fun H' kp hH => ⟨rfl, q x dx H' (fresh_back e2 hx) (e2.trans fun b o hb => kp b o (ne_of_none hb hx) (by
      rw [upd_ne (ne_of_none hb hx), upd_ne (ne_of_none hb hdx)]
      exact hb)) (by
      rw [List.append_nil] at hH
      exact hH)⟩⟩
theorem ev_fld (h : Ev te σ H (.ref a)) (ho : H a = some (.ins C dx fs)) (hc : Cls K C) (hn : NoAttr K C f) (hl : fs.lookup f = some v) : Ev (tFld K te f) σ H v := fun H1 e _ q =>
  h H1 e _ fun H2 e2 => ⟨a, C, dx, fs, v, rfl, e2 _ _ (e _ _ ho), hc, hn, hl, q H2 e2⟩
theorem ev_meth {sp : Sp} {E : XK} {t : TA} {us : List V} (h : Ev ta σ H (.ref a)) (ho : H a = some (.ins C dx fs)) (hl : fs.lookup m = none) (hu : EvA t σ H us) (hs : SpV sp (.ref a :: us) H z) : Ev (tMeth C m sp [] E ta t) σ H z := fun H1 e Q q =>
  h H1 e _ fun H2 e2 => ⟨a, dx, fs, rfl, e2 _ _ (e _ _ ho), hl, hu H2 (e.trans e2) _ fun H3 e3 => by
    rw [List.append_nil]
    exact hs H3 ((e.trans e2).trans e3) Q (fun H4 e4 => q H4 ((e2.trans e3).trans e4)) E⟩
theorem s_fld (hv : Ev tb σ H v) (hx : Ev ta σ H (.ref a)) (ho : H a = some (.ins C dx fs)) (hc : Cls K C) (hn : NoAttr K C f) (hl : fs.length < 1000) (k : ∀ H1, Ex H H1 → D.nx σ (upd H1 a (.ins C dx (putF f v fs)))) : sFld K ta tb f D σ H :=
  hv H (Ex.refl H) _ fun H1 e1 => hx H1 e1 _ fun H2 e2 => ⟨a, C, dx, fs, rfl, e2 _ _ (e1 _ _ ho), hc, hn, hl, k H2 (e1.trans e2)⟩
theorem q_fld (hv : Ev tb σ H v) (hx : Ev ta σ H (.ref a)) (ho : H a = some (.ins C dx fs)) (hc : Cls K C) (hn : NoAttr K C f) (hl : fs.length < 1000) (k : ∀ H1, Ex H H1 → tz D σ (upd H1 a (.ins C dx (putF f v fs)))) : tSeq (sFld K ta tb f) tz D σ H := s_fld (D := { D with nx := tz D }) hv hx ho hc hn hl k
theorem q_asgN {i : Nat} (h : EvN te σ H C fs) (k : ∀ p dx H1, H p = none → Ex H H1 → H1 p = some (.ins C dx fs) → tz D (σ.set i (some (.ref p))) H1) : tSeq (tAsg te (gName i)) tz D σ H := h H (Ex.refl H) _ fun p dx H1 hp e x => k p dx H1 hp e x
theorem s_retN {fs : List (Str × V)} (h : EvN te σ H C fs) (k : ∀ p dx H1, H p = none → Ex H H1 → H1 p = some (.ins C dx fs) → D.rt (.ref p) H1) : tRet te D σ H := h H (Ex.refl H) _ k
/-- a call whose answer is told by its promise alone -/
theorem q_asgC {sp : Sp} {E : XK} {t : TA} {vs : List V} {i : Nat} (h : EvA t σ H vs) (k : ∀ H1, Ex H H1 → sp vs H1 (fun v H2 => tz D (σ.set i (some v)) H2) E) : tSeq (tAsg (tCall sp [] E t) (gName i)) tz D σ H := h H (Ex.refl H) _ fun H1 e => by
  rw [List.append_nil]
  exact k H1 e
theorem s_retC {sp : Sp} {E : XK} {t : TA} {vs : List V} (h : EvA t σ H vs) (k : ∀ H1, Ex H H1 → sp vs H1 D.rt E) : tRet (tCall sp [] E t) D σ H := h H (Ex.refl H) _ fun H1 e => by
  rw [List.append_nil]
  exact k H1 e
end
/-- one of two readings of an expression -/
theorem pe_or2 {X : Cx} {e : Expr} {t u : TE} (h1 : PE X e t) (h2 : PE X e u) : PE X e (fun σ H Q => t σ H Q ∨ u σ H Q) := ⟨fun pins s σ H Q I h => by
  rcases h with h | h
  · exact h1.run pins s σ H Q I h
  · exact h2.run pins s σ H Q I h⟩
theorem ev_orL {t u : TE} {σ : L2.St} {H : Hp} {v : V} (h : Ev t σ H v) : Ev (fun σ H Q => t σ H Q ∨ u σ H Q) σ H v := fun H1 e Q q => .inl (h H1 e Q q)
theorem ev_orR {t u : TE} {σ : L2.St} {H : Hp} {v : V} (h : Ev u σ H v) : Ev (fun σ H Q => t σ H Q ∨ u σ H Q) σ H v := fun H1 e Q q => .inr (h H1 e Q q)
/-- an __init__, a method, as the top leaves them -/
structure InitAt (K : PySem.W.Frag) (C : Addr) (qual : Str) (st : Stmt) : Prop where
  ex : ∃ f fd, Fun K "__init__" qual st f fd ∧ Mk K C f
structure MethAt (K : PySem.W.Frag) (C : Addr) (m qual : Str) (st : Stmt) : Prop where
  ex : ∃ f fd, Fun K m qual st f fd ∧ Meth K C m f
section
variable {P : Program} {w : World} {K : PySem.W.Frag} {mg : Str → Option Value} {base : Heap}
theorem mak_of {x qual : Str} {C : Addr} {st : Stmt} {N ps : List Str} {k : Nat} {sp : Sp} (D : InitAt K C qual st) (g : mg x = some (.ref C))
    (b : ∀ (kV doc pm : Value) (an : Option Addr) (cdv ct : Value) (us : List Value), us.length = ps.length → bindArgs (PySem.W.fnOf "__init__" qual (defArgs st) (defBody st) (defScope st) .none kV doc pm an cdv ct) ⟨us, []⟩ = pure (ps.zip us))
    (S : FnScope N ps (defScope st)) (len : ∀ vs H Q E, sp vs H Q E → vs.length = ps.length)
    (hbody : ∀ (f : Addr) (cdv : Value) (A : Around) (outer : List Env) (s : Shared) (H : Hp) (vs : List V) (Q : VK) (E : XK), Room k (A.deeper (envOfC qual (defScope st) s.heap.objs.size f cdv)) → sp vs H Q E →
      ∃ t, PSs (cxOf CX0 P w K mg base N qual (defScope st) f cdv A outer s H E).nox (defBody st) t ∧ t { nx := fun _ H' => Q .non H', rt := Q } (start N vs) H) : C8.Mak P w K mg base (k + 1) x C sp [] := by
  obtain ⟨f, fd, F, M⟩ := D.ex
  exact ⟨f, fd, ps, [], M, F.ok S len (hbody f), g, F.binds b, .nil⟩
theorem met_of {m qual : Str} {C : Addr} {st : Stmt} {N ps : List Str} {k : Nat} {sp : Sp} (D : MethAt K C m qual st) (c : Cls K C)
    (b : ∀ (kV doc pm : Value) (an : Option Addr) (cdv ct : Value) (us : List Value), us.length = ps.length → bindArgs (PySem.W.fnOf m qual (defArgs st) (defBody st) (defScope st) .none kV doc pm an cdv ct) ⟨us, []⟩ = pure (ps.zip us))
    (S : FnScope N ps (defScope st)) (len : ∀ vs H Q E, sp vs H Q E → vs.length = ps.length)
    (hbody : ∀ (f : Addr) (cdv : Value) (A : Around) (outer : List Env) (s : Shared) (H : Hp) (vs : List V) (Q : VK) (E : XK), Room k (A.deeper (envOfC qual (defScope st) s.heap.objs.size f cdv)) → sp vs H Q E →
      ∃ t, PSs (cxOf CX0 P w K mg base N qual (defScope st) f cdv A outer s H E).nox (defBody st) t ∧ t { nx := fun _ H' => Q .non H', rt := Q } (start N vs) H) : C8.Met P w K mg base (k + 1) C m sp [] := by
  obtain ⟨f, fd, F, M⟩ := D.ex
  exact ⟨f, fd, ps, [], c, M, F.ok S len (hbody f), F.binds b, .nil⟩
end
/-! the fields of the four answers -/
theorem ne_of_beq_false {a b : Str} (h : (a == b) = false) : a ≠ b := fun e => by
  rw [e] at h
  simp at h
theorem n_sf : (("second" : Str) == "first") = false := by decide +kernel
theorem n_mf : (("many" : Str) == "first") = false := by decide +kernel
theorem n_ms : (("many" : Str) == "second") = false := by decide +kernel
theorem n_pb : (("places" : Str) == "beats") = false := by decide +kernel
theorem n_sb : (("shift" : Str) == "beats") = false := by decide +kernel
theorem n_sp : (("shift" : Str) == "places") = false := by decide +kernel
theorem lk_1 {a : Str} (x : V) : List.lookup a [(a, x)] = some x := by simp [List.lookup]
theorem lk_3a {a b c : Str} (x y z : V) : List.lookup a [(a, x), (b, y), (c, z)] = some x := by simp [List.lookup]
theorem lk_3b {a b c : Str} (h : (b == a) = false) (x y z : V) : List.lookup b [(a, x), (b, y), (c, z)] = some y := by simp [List.lookup, h]
theorem lk_3c {a b c : Str} (h : (c == a) = false) (h2 : (c == b) = false) (x y z : V) : List.lookup c [(a, x), (b, y), (c, z)] = some z := by simp [List.lookup, h, h2]
theorem lk_n1 {a m : Str} (h : (m == a) = false) (x : V) : List.lookup m [(a, x)] = none := by simp [List.lookup, h]
theorem lk_n3 {a b c m : Str} (h1 : (m == a) = false) (h2 : (m == b) = false) (h3 : (m == c) = false) (x y z : V) : List.lookup m [(a, x), (b, y), (c, z)] = none := by simp [List.lookup, h1, h2, h3]
theorem put_0 (a : Str) (x : V) : putF a x [] = [(a, x)] := rfl
theorem put_1 {a b : Str} (h : ¬ a = b) (x y : V) : putF b y [(a, x)] = [(a, x), (b, y)] := by
  show (if a = b then _ else _) = _
  rw [if_neg h]
  rfl
theorem put_2 {a b c : Str} (h : ¬ a = c) (h2 : ¬ b = c) (x y z : V) : putF c z [(a, x), (b, y)] = [(a, x), (b, y), (c, z)] := by
  show (if a = c then _ else _ :: (if b = c then _ else _)) = _
  rw [if_neg h, if_neg h2]
  rfl
end Eb
namespace Eb
open PySem L2
structure Cz (K : PySem.W.Frag) (mg : Str → Option Value) (cAnswer cEven cApart cBegun cParted : Addr) : Prop where
  m_Answer : mg "Answer" = some (.ref cAnswer)
  m_Even : mg "Even" = some (.ref cEven)
  m_Apart : mg "Apart" = some (.ref cApart)
  m_Begun : mg "Begun" = some (.ref cBegun)
  m_Parted : mg "Parted" = some (.ref cParted)
  k_Even : Kl K cEven
  n_Even_turn : NoAttr K cEven "turn"
  i_Even_Answer : PySem.W.kitOne K (.ref cEven) (.ref cAnswer) = some true
  i_Even_Even : PySem.W.kitOne K (.ref cEven) (.ref cEven) = some true
  i_Even_Apart : PySem.W.kitOne K (.ref cEven) (.ref cApart) = some false
  i_Even_Begun : PySem.W.kitOne K (.ref cEven) (.ref cBegun) = some false
  i_Even_Parted : PySem.W.kitOne K (.ref cEven) (.ref cParted) = some false
  k_Apart : Kl K cApart
  n_Apart_first : NoAttr K cApart "first"
  n_Apart_second : NoAttr K cApart "second"
  n_Apart_many : NoAttr K cApart "many"
  i_Apart_Answer : PySem.W.kitOne K (.ref cApart) (.ref cAnswer) = some true
  i_Apart_Even : PySem.W.kitOne K (.ref cApart) (.ref cEven) = some false
  i_Apart_Apart : PySem.W.kitOne K (.ref cApart) (.ref cApart) = some true
  i_Apart_Begun : PySem.W.kitOne K (.ref cApart) (.ref cBegun) = some false
  i_Apart_Parted : PySem.W.kitOne K (.ref cApart) (.ref cParted) = some false
  k_Begun : Kl K cBegun
  n_Begun_beats : NoAttr K cBegun "beats"
  n_Begun_places : NoAttr K cBegun "places"
  n_Begun_shift : NoAttr K cBegun "shift"
  i_Begun_Answer : PySem.W.kitOne K (.ref cBegun) (.ref cAnswer) = some true
  i_Begun_Even : PySem.W.kitOne K (.ref cBegun) (.ref cEven) = some false
  i_Begun_Apart : PySem.W.kitOne K (.ref cBegun) (.ref cApart) = some false
  i_Begun_Begun : PySem.W.kitOne K (.ref cBegun) (.ref cBegun) = some true
  i_Begun_Parted : PySem.W.kitOne K (.ref cBegun) (.ref cParted) = some false
  k_Parted : Kl K cParted
  n_Parted_first : NoAttr K cParted "first"
  n_Parted_second : NoAttr K cParted "second"
  n_Parted_many : NoAttr K cParted "many"
  i_Parted_Answer : PySem.W.kitOne K (.ref cParted) (.ref cAnswer) = some true
  i_Parted_Even : PySem.W.kitOne K (.ref cParted) (.ref cEven) = some false
  i_Parted_Apart : PySem.W.kitOne K (.ref cParted) (.ref cApart) = some false
  i_Parted_Begun : PySem.W.kitOne K (.ref cParted) (.ref cBegun) = some false
  i_Parted_Parted : PySem.W.kitOne K (.ref cParted) (.ref cParted) = some true
theorem lk_Even_turn (x : V) : List.lookup ("turn" : Str) [(("turn" : Str), x)] = some x := lk_1 x
theorem lk_Even_shows (x : V) : List.lookup ("shows" : Str) [(("turn" : Str), x)] = none := lk_n1 (by decide +kernel) x
theorem lk_Apart_first (x y z : V) : List.lookup ("first" : Str) [(("first" : Str), x), (("second" : Str), y), (("many" : Str), z)] = some x := lk_3a  x y z
theorem lk_Apart_second (x y z : V) : List.lookup ("second" : Str) [(("first" : Str), x), (("second" : Str), y), (("many" : Str), z)] = some y := lk_3b n_sf x y z
theorem lk_Apart_many (x y z : V) : List.lookup ("many" : Str) [(("first" : Str), x), (("second" : Str), y), (("many" : Str), z)] = some z := lk_3c n_mf n_ms x y z
theorem lk_Apart_shows (x y z : V) : List.lookup ("shows" : Str) [(("first" : Str), x), (("second" : Str), y), (("many" : Str), z)] = none := lk_n3 (by decide +kernel) (by decide +kernel) (by decide +kernel) x y z
theorem lk_Begun_beats (x y z : V) : List.lookup ("beats" : Str) [(("beats" : Str), x), (("places" : Str), y), (("shift" : Str), z)] = some x := lk_3a  x y z
theorem lk_Begun_places (x y z : V) : List.lookup ("places" : Str) [(("beats" : Str), x), (("places" : Str), y), (("shift" : Str), z)] = some y := lk_3b n_pb x y z
theorem lk_Begun_shift (x y z : V) : List.lookup ("shift" : Str) [(("beats" : Str), x), (("places" : Str), y), (("shift" : Str), z)] = some z := lk_3c n_sb n_sp x y z
theorem lk_Begun_shows (x y z : V) : List.lookup ("shows" : Str) [(("beats" : Str), x), (("places" : Str), y), (("shift" : Str), z)] = none := lk_n3 (by decide +kernel) (by decide +kernel) (by decide +kernel) x y z
theorem lk_Parted_first (x y z : V) : List.lookup ("first" : Str) [(("first" : Str), x), (("second" : Str), y), (("many" : Str), z)] = some x := lk_3a  x y z
theorem lk_Parted_second (x y z : V) : List.lookup ("second" : Str) [(("first" : Str), x), (("second" : Str), y), (("many" : Str), z)] = some y := lk_3b n_sf x y z
theorem lk_Parted_many (x y z : V) : List.lookup ("many" : Str) [(("first" : Str), x), (("second" : Str), y), (("many" : Str), z)] = some z := lk_3c n_mf n_ms x y z
theorem lk_Parted_shows (x y z : V) : List.lookup ("shows" : Str) [(("first" : Str), x), (("second" : Str), y), (("many" : Str), z)] = none := lk_n3 (by decide +kernel) (by decide +kernel) (by decide +kernel) x y z
end Eb
namespace Eb
open PySem L2
def topS (i : Nat) : Stmt := PySem.Challenge.pw_evenbeats_k07_answers_by_hand.main.body.getD i (.Pass ⟨0, 0, 0, 0⟩)
end Eb
namespace Eb
open PySem PySem.Spec PyProof.Rows L2 TL Evl
abbrev sApartInit : Stmt := inClass (topS 8) 0
theorem scApartInit : FnScope ["self", "first", "second", "many"] ["self", "first", "second", "many"] (defScope sApartInit) := ⟨rfl, rfl, rfl, by decide +kernel, rfl, by decide +kernel, by decide +kernel⟩
section
variable {P : Program} {w : World} {K : PySem.W.Frag} {mg : Str → Option Value} {base : Heap} {cAnswer cEven cApart cBegun cParted : Addr}
theorem ok_Apart_init (D : InitAt K cApart "Apart.__init__" sApartInit) (Z : Cz K mg cAnswer cEven cApart cBegun cParted) : C8.Mak P w K mg base 1 "Apart" cApart (spI cApart ["first", "second", "many"]) [] := by
  refine mak_of D Z.m_Apart (fun _ _ _ _ _ _ us hl => match us, hl with | [_, _, _, _], _ => rfl) scApartInit (fun vs H Q E h => ?_) (fun f cdv A outer s H vs Q E hr h => ?_)
  · obtain ⟨x, dx, us, rfl, hl, _⟩ := h
    exact congrArg Nat.succ hl
  · obtain ⟨x, dx, us, rfl, hl, ho, k⟩ := h
    obtain ⟨v1, v2, v3, rfl⟩ : ∃ v1 v2 v3, us = [v1, v2, v3] := match us, hl with | [a, b, c], _ => ⟨a, b, c, rfl⟩
    refine ⟨_, (pss_cons (ps_fld (pv 0) (pv 1) rfl)
      (pss_cons (ps_fld (pv 0) (pv 2) rfl)
      (pss_one (ps_fld (pv 0) (pv 3) rfl)))), ?_⟩
    refine q_fld (ev_var rfl) (ev_var rfl) ho Z.k_Apart.cl Z.n_Apart_first (by simp) fun H1 e1 => ?_
    rw [put_0]
    refine q_fld (ev_var rfl) (ev_var rfl) upd_same Z.k_Apart.cl Z.n_Apart_second (by simp) fun H2 e2 => ?_
    rw [put_1 (ne_of_beq_false n_sf).symm]
    refine s_fld (ev_var rfl) (ev_var rfl) upd_same Z.k_Apart.cl Z.n_Apart_many (by simp) fun H3 e3 => ?_
    rw [put_2 (ne_of_beq_false n_mf).symm (ne_of_beq_false n_ms).symm]
    exact k _ ((((KeepBut.refl _ _).ex e1).put.ex e2).put.ex e3).put upd_same
end
end Eb
/-! ### reckoned rows, the sums of a row -/
namespace Eb
def reck (b p s : Int) (n : Nat) : List Bool := (List.range n).map fun (i : Nat) => decide ((s + (i : Int) * b) % p < b)
theorem reck_len (b p s : Int) (n : Nat) : (reck b p s n).length = n := by
  unfold reck
  rw [List.length_map, List.length_range]
theorem reck_succ (b p s : Int) (n : Nat) : reck b p s (n + 1) = reck b p s n ++ [decide ((s + (n : Int) * b) % p < b)] := by
  unfold reck
  rw [List.range_succ, List.map_append]
  rfl
theorem rest_succ (b p s : Int) (n : Nat) : ((s + (n : Int) * b) % p + b) % p = (s + ((n + 1 : Nat) : Int) * b) % p := by
  rw [Int.emod_add_emod]
  congr 1
  rw [Int.natCast_succ, Int.add_mul]
  omega
def sums (bs : List Bool) : List Int := (List.range (bs.length + 1)).map fun (i : Nat) => (((bs.take i).count true : Nat) : Int)
theorem sums_len (bs : List Bool) : (sums bs).length = bs.length + 1 := by
  unfold sums
  rw [List.length_map, List.length_range]
def sumsTo (bs : List Bool) (n : Nat) : List Int := (List.range (n + 1)).map fun (i : Nat) => (((bs.take i).count true : Nat) : Int)
theorem sumsTo_len (bs : List Bool) (n : Nat) : (sumsTo bs n).length = n + 1 := by
  unfold sumsTo
  rw [List.length_map, List.length_range]
theorem sumsTo_succ {bs : List Bool} {n : Nat} {b : Bool} (h : bs[n]? = some b) : sumsTo bs (n + 1) = sumsTo bs n ++ [(sumsTo bs n).getLast?.getD 0 + (if (decide ([b] = [true])) = true then 1 else 0)] := by
  have e : (sumsTo bs n).getLast?.getD 0 = (((bs.take n).count true : Nat) : Int) := by
    unfold sumsTo
    rw [List.range_succ, List.map_append, List.map_singleton, List.getLast?_append]
    rfl
  rw [e]
  unfold sumsTo
  rw [List.range_succ (n := n + 1), List.map_append, List.map_singleton, List.take_add_one, h, List.count_append]
  congr 2
  cases b <;> simp
end Eb
/-! ### beats laid by a reckoning, counted -/
namespace Eb
/-- how many beats there are ahead of a place -/
def cbt (bs : List Bool) (i : Nat) : Int := (((bs.take i).count true : Nat) : Int)
theorem cbt_zero (bs : List Bool) : cbt bs 0 = 0 := by
  unfold cbt
  rw [List.take_zero]
  rfl
theorem cbt_all {bs : List Bool} {i : Nat} (h : bs.length ≤ i) : cbt bs i = ((bs.count true : Nat) : Int) := by
  unfold cbt
  rw [List.take_of_length_le h]
theorem cbt_succ {bs : List Bool} {i : Nat} (h : i < bs.length) : cbt bs (i + 1) = cbt bs i + (if bs[i] then 1 else 0) := by
  unfold cbt
  rw [List.take_add_one, List.getElem?_eq_getElem h, List.count_append]
  cases bs[i] <;> simp
theorem beat_floor {x p b : Int} (hp : 0 < p) (h0 : 0 ≤ b) (h1 : b ≤ p) : (if x % p < b then (1 : Int) else 0) = x / p - (x - b) / p := by
  have e : x = x % p + p * (x / p) := by
    have := Int.emod_add_mul_ediv x p
    omega
  have r0 := Int.emod_nonneg x (by omega : p ≠ 0)
  have r1 := Int.emod_lt_of_pos x hp
  generalize x / p = q at *
  generalize x % p = r at *
  by_cases h : r < b
  · rw [if_pos h]
    have e2 : x - b = (r - b + p) + p * (q - 1) := by
      rw [e, Int.mul_sub]
      omega
    rw [e2, Int.add_mul_ediv_left _ _ (by omega), Int.ediv_eq_zero_of_lt (by omega) (by omega)]
    omega
  · rw [if_neg h]
    have e2 : x - b = (r - b) + p * q := by
      rw [e]
      omega
    rw [e2, Int.add_mul_ediv_left _ _ (by omega), Int.ediv_eq_zero_of_lt (by omega) (by omega)]
    omega
theorem reck_get {b p s : Int} {n i : Nat} (h : i < n) : (reck b p s n)[i]? = some (decide ((s + (i : Int) * b) % p < b)) := by
  unfold reck
  rw [List.getElem?_map, List.getElem?_range h]
  rfl
theorem reck_take {b p s : Int} {n i : Nat} (h : i ≤ n) : (reck b p s n).take i = reck b p s i := by
  unfold reck
  rw [← List.map_take, List.take_range, Nat.min_eq_left h]
theorem cbt_reck {b p s : Int} (hp : 0 < p) (h0 : 0 ≤ b) (h1 : b ≤ p) {n : Nat} : ∀ {i : Nat}, i ≤ n → cbt (reck b p s n) i = (s - b + (i : Int) * b) / p - (s - b) / p
  | 0, _ => by
    rw [cbt_zero]
    simp
  | i + 1, hi => by
    have hl : i < (reck b p s n).length := by
      rw [reck_len]
      exact hi
    rw [cbt_succ hl, cbt_reck hp h0 h1 (by omega : i ≤ n)]
    have g : (reck b p s n)[i] = decide ((s + (i : Int) * b) % p < b) := by
      have := reck_get (b := b) (p := p) (s := s) (n := n) (i := i) hi
      rw [List.getElem?_eq_getElem hl] at this
      exact Option.some.inj this
    rw [g]
    have f := beat_floor (x := s + (i : Int) * b) hp h0 h1
    have e1 : s - b + ((i + 1 : Nat) : Int) * b = s + (i : Int) * b := by
      rw [Int.natCast_succ, Int.add_mul]
      omega
    have e2 : s + (i : Int) * b - b = s - b + (i : Int) * b := by omega
    rw [e1, ← e2]
    by_cases hd : (s + (i : Int) * b) % p < b
    · rw [if_pos hd] at f
      simp only [decide_eq_true hd, if_true]
      omega
    · rw [if_neg hd] at f
      simp only [decide_eq_false hd]
      simp
      omega
/-! sums over a range -/
def smr (n : Nat) (f : Nat → Int) : Int := ((List.range n).map f).sum
theorem smr_zero (f : Nat → Int) : smr 0 f = 0 := rfl
theorem smr_succ (n : Nat) (f : Nat → Int) : smr (n + 1) f = smr n f + f n := by
  unfold smr
  rw [List.range_succ, List.map_append, List.sum_append]
  simp
theorem smr_shift (f : Nat → Int) : ∀ n, smr n (fun i => f (i + 1)) - smr n f = f n - f 0
  | 0 => by
    rw [smr_zero, smr_zero]
    omega
  | n + 1 => by
    have := smr_shift f n
    rw [smr_succ, smr_succ]
    omega
theorem smr_le {f g : Nat → Int} : ∀ n, (∀ i, i < n → f i ≤ g i) → smr n f ≤ smr n g
  | 0, _ => Int.le_refl _
  | n + 1, h => by
    have h1 := smr_le n fun i hi => h i (by omega)
    have h2 := h n (by omega)
    rw [smr_succ, smr_succ]
    omega
theorem smr_const (c : Int) : ∀ n, smr n (fun _ => c) = (n : Int) * c
  | 0 => by
    rw [smr_zero]
    simp
  | n + 1 => by
    rw [smr_succ, smr_const c n, Int.natCast_succ, Int.add_mul]
    omega
theorem smr_lt {f : Nat → Int} {c : Int} {k : Nat} : ∀ n, (∀ i, i < n → c ≤ f i) → k < n → c < f k → (n : Int) * c < smr n f
  | 0, _, hk, _ => absurd hk (Nat.not_lt_zero _)
  | n + 1, h, hk, hc => by
    rw [smr_succ, Int.natCast_succ, Int.add_mul]
    by_cases e : k = n
    · subst e
      have h1 := smr_le k (f := fun _ => c) (g := f) fun i hi => h i (by omega)
      rw [smr_const] at h1
      omega
    · have h1 := smr_lt n (fun i hi => h i (by omega)) (by omega : k < n) hc
      have h2 := h n (by omega)
      omega
/-! a ring told twice: heights -/
section
variable {bs : List Bool}
def crn (bs : List Bool) (i : Nat) : Int := cbt (bs ++ bs) i
theorem crn_low {i : Nat} (h : i ≤ bs.length) : crn bs i = cbt bs i := by
  unfold crn cbt
  rw [List.take_append_of_le_length h]
theorem crn_high (j : Nat) : crn bs (bs.length + j) = cbt bs bs.length + cbt bs j := by
  unfold crn cbt
  rw [List.take_length_add_append, List.count_append, List.take_length]
  omega
/-- how much a place stands above the even line, in parts of the count of places -/
def hgt (bs : List Bool) (i : Nat) : Int := (bs.length : Int) * crn bs i - (i : Int) * cbt bs bs.length
theorem hgt_wrap {j : Nat} (h : j ≤ bs.length) : hgt bs (bs.length + j) = hgt bs j := by
  unfold hgt
  rw [crn_high, crn_low h]
  grind
theorem hgt_mod {i : Nat} (h : i < 2 * bs.length) : hgt bs i = hgt bs (i % bs.length) := by
  by_cases hi : i < bs.length
  · rw [Nat.mod_eq_of_lt hi]
  · have e : i = bs.length + (i - bs.length) := by omega
    rw [e, hgt_wrap (by omega), Nat.add_mod_left, Nat.mod_eq_of_lt (by omega)]
/-- beats in a stretch -/
def stc (bs : List Bool) (i m : Nat) : Int := crn bs (i + m) - crn bs i
theorem stc_ht (i m : Nat) : (bs.length : Int) * stc bs i m = (m : Int) * cbt bs bs.length + (hgt bs (i + m) - hgt bs i) := by
  unfold stc hgt
  grind
theorem stc_sum (bs : List Bool) : ∀ m, m ≤ bs.length → smr bs.length (fun i => stc bs i m) = (m : Int) * cbt bs bs.length
  | 0, _ => by
    have e : smr bs.length (fun i => stc bs i 0) = smr bs.length (fun _ => 0) := by
      unfold smr
      congr 1
      refine List.map_congr_left fun i _ => ?_
      unfold stc
      rw [Nat.add_zero]
      omega
    rw [e, smr_const]
    simp
  | m + 1, h => by
    have ih := stc_sum bs m (by omega)
    have t := smr_shift (fun i => crn bs (i + m)) bs.length
    have e1 : smr bs.length (fun i => stc bs i (m + 1)) - smr bs.length (fun i => stc bs i m) = smr bs.length (fun i => crn bs (i + 1 + m)) - smr bs.length (fun i => crn bs (i + m)) := by
      have gen : ∀ n, smr n (fun i => stc bs i (m + 1)) - smr n (fun i => stc bs i m) = smr n (fun i => crn bs (i + 1 + m)) - smr n (fun i => crn bs (i + m)) := by
        intro n
        induction n with
        | zero => rfl
        | succ n ih =>
          rw [smr_succ, smr_succ, smr_succ, smr_succ]
          have e2 : n + (m + 1) = n + 1 + m := by omega
          unfold stc at ih ⊢
          rw [e2]
          omega
      exact gen _
    have e3 : crn bs (bs.length + m) - crn bs (0 + m) = cbt bs bs.length := by
      rw [crn_high, Nat.zero_add, crn_low (by omega)]
      omega
    rw [Int.natCast_succ, Int.add_mul]
    omega
/-- of any two stretches of as many places the one has at most one beat more -/
def EvenR (bs : List Bool) : Prop := ∀ m i j, m < bs.length → i < bs.length → j < bs.length → stc bs i m ≤ stc bs j m + 1
/-- no two places stand apart by as many parts as there are places -/
def Flat (bs : List Bool) : Prop := ∀ i j, i < bs.length → j < bs.length → hgt bs i - hgt bs j < bs.length
theorem flat_even (h : Flat bs) : EvenR bs := by
  intro m i j hm hi hj
  have h1 := stc_ht (bs := bs) i m
  have h2 := stc_ht (bs := bs) j m
  have h3 := h ((i + m) % bs.length) ((j + m) % bs.length) (Nat.mod_lt _ (by omega)) (Nat.mod_lt _ (by omega))
  rw [← hgt_mod (by omega), ← hgt_mod (by omega)] at h3
  have h4 := h j i hj hi
  have h5 : (bs.length : Int) * (stc bs i m - stc bs j m) < (bs.length : Int) * 2 := by
    rw [Int.mul_sub]
    omega
  have h6 := Int.lt_of_mul_lt_mul_left h5 (by omega)
  omega
/-- two places that stand apart: the stretch from the low one on has one beat more than its share -/
theorem apart_more {p q : Nat} (hp : p < bs.length) (hq : q < bs.length) (h : (bs.length : Int) ≤ hgt bs p - hgt bs q) :
    ∃ m, m = (((p : Int) - (q : Int)) % (bs.length : Int)).toNat ∧ 0 < m ∧ m < bs.length ∧ (m : Int) * cbt bs bs.length + (bs.length : Int) ≤ (bs.length : Int) * stc bs q m := by
  have hn : (0 : Int) < bs.length := by omega
  have m0 := Int.emod_nonneg ((p : Int) - (q : Int)) (by omega : (bs.length : Int) ≠ 0)
  have m1 := Int.emod_lt_of_pos ((p : Int) - (q : Int)) hn
  have key : q + (((p : Int) - (q : Int)) % (bs.length : Int)).toNat = p ∨ q + (((p : Int) - (q : Int)) % (bs.length : Int)).toNat = bs.length + p := by
    by_cases hpq : q ≤ p
    · left
      rw [Int.emod_eq_of_lt (by omega) (by omega)]
      omega
    · right
      have e : ((p : Int) - (q : Int)) % (bs.length : Int) = (p : Int) - (q : Int) + bs.length := by
        rw [← Int.add_emod_right, Int.emod_eq_of_lt (by omega) (by omega)]
      rw [e]
      omega
  refine ⟨_, rfl, ?_, ?_, ?_⟩
  · rcases Nat.eq_zero_or_pos (((p : Int) - (q : Int)) % (bs.length : Int)).toNat with z | z
    · rw [z] at key
      have e : p = q := by omega
      subst e
      omega
    · exact z
  · omega
  · rw [stc_ht]
    have e : hgt bs (q + (((p : Int) - (q : Int)) % (bs.length : Int)).toNat) = hgt bs p := by
      rcases key with k | k
      · rw [k]
      · rw [k, hgt_wrap (by omega)]
    rw [e]
    omega
theorem more_apart {q m : Nat} (hq : q < bs.length) (hm : m < bs.length) (h : (m : Int) * cbt bs bs.length + (bs.length : Int) ≤ (bs.length : Int) * stc bs q m) : ∃ j, j < bs.length ∧ stc bs j m + 2 ≤ stc bs q m := by
  refine Classical.byContradiction fun hno => ?_
  have hall : ∀ i, i < bs.length → stc bs q m - 1 ≤ stc bs i m := fun i hi => by
    refine Classical.byContradiction fun hc => hno ⟨i, hi, ?_⟩
    omega
  have s1 := smr_lt (f := fun i => stc bs i m) (c := stc bs q m - 1) (k := q) bs.length hall hq (by omega)
  rw [stc_sum bs m (by omega), Int.mul_sub] at s1
  omega
theorem even_flat (h : EvenR bs) : Flat bs := by
  intro p q hp hq
  refine Classical.byContradiction fun hc => ?_
  obtain ⟨m, _, hm0, hm, hs⟩ := apart_more hp hq (by omega)
  obtain ⟨j, hj, h2⟩ := more_apart hq hm hs
  have := h m q j hm hq hj
  omega
theorem even_iff : EvenR bs ↔ Flat bs := ⟨even_flat, flat_even⟩
end
end Eb
/-! ### reckoned rows are even; even ones are reckoned -/
namespace Eb
theorem reck_count {b p s : Int} {n : Nat} (hp : 0 < p) (h0 : 0 ≤ b) (h1 : b ≤ p) (hn : (n : Int) = p) : cbt (reck b p s n) n = b := by
  rw [cbt_reck hp h0 h1 (Nat.le_refl n), hn]
  have e : s - b + p * b = s - b + p * b := rfl
  rw [Int.add_mul_ediv_left _ _ (by omega)]
  omega
theorem reck_cnt {b p s : Int} {n : Nat} (hp : 0 < p) (h0 : 0 ≤ b) (h1 : b ≤ p) (hn : (n : Int) = p) : (((reck b p s n).count true : Nat) : Int) = b := by
  have h := reck_count (s := s) hp h0 h1 hn
  rw [cbt_all (by rw [reck_len]; exact Nat.le_refl n)] at h
  exact h
theorem reck_ht {b p s : Int} {n : Nat} (hp : 0 < p) (h0 : 0 ≤ b) (h1 : b ≤ p) (hn : (n : Int) = p) {i : Nat} (hi : i < n) : hgt (reck b p s n) i = (s - b) - p * ((s - b) / p) - (s - b + (i : Int) * b) % p := by
  unfold hgt
  rw [reck_len, crn_low (by rw [reck_len]; omega), reck_count hp h0 h1 hn, cbt_reck hp h0 h1 (by omega), hn, Int.mul_sub]
  have := Int.emod_add_mul_ediv (s - b + (i : Int) * b) p
  omega
theorem reck_flat {b p s : Int} {n : Nat} (hp : 0 < p) (h0 : 0 ≤ b) (h1 : b ≤ p) (hn : (n : Int) = p) : Flat (reck b p s n) := by
  intro i j hi hj
  rw [reck_len] at hi hj ⊢
  rw [reck_ht hp h0 h1 hn hi, reck_ht hp h0 h1 hn hj]
  have a1 := Int.emod_nonneg (s - b + (i : Int) * b) (by omega : p ≠ 0)
  have a2 := Int.emod_lt_of_pos (s - b + (j : Int) * b) hp
  omega
theorem reck_mod {b p s t : Int} (n : Nat) (h : s % p = t % p) : reck b p s n = reck b p t n := by
  unfold reck
  refine List.map_congr_left fun i _ => ?_
  rw [Int.add_emod s, Int.add_emod t, h]
/-- heights of a row -/
theorem row_reck {bs : List Bool} {p b M : Int} (hp : 0 < p) (h0 : 0 ≤ b) (h1 : b ≤ p) (hu : ∀ i, i ≤ bs.length → p * cbt bs i - (i : Int) * b ≤ M) (hl : ∀ i, i ≤ bs.length → M - p < p * cbt bs i - (i : Int) * b) :
    bs = reck b p (M + b) bs.length := by
  apply List.ext_getElem?
  intro i
  by_cases hi : i < bs.length
  · rw [reck_get hi, List.getElem?_eq_getElem hi]
    congr 1
    have u0 := hu i (by omega)
    have l0 := hl i (by omega)
    have u1 := hu (i + 1) (by omega)
    have l1 := hl (i + 1) (by omega)
    rw [cbt_succ hi] at u1 l1
    rw [Int.natCast_succ, Int.add_mul, Int.mul_add] at u1 l1
    generalize hd : M - (p * cbt bs i - (i : Int) * b) = d at *
    have e : M + b + (i : Int) * b = (d + b) + p * cbt bs i := by omega
    rw [e, Int.add_mul_emod_self_left]
    cases hb : bs[i] with
    | true =>
      rw [hb] at u1 l1
      simp only [if_true] at u1 l1
      have e2 : (d + b) % p = d + b - p := by
        rw [← Int.sub_emod_right, Int.emod_eq_of_lt (by omega) (by omega)]
      rw [e2]
      exact (decide_eq_true (by omega)).symm
    | false =>
      rw [hb] at u1 l1
      simp at u1 l1
      have e2 : (d + b) % p = d + b := Int.emod_eq_of_lt (by omega) (by omega)
      rw [e2]
      exact (decide_eq_false (by omega)).symm
  · rw [List.getElem?_eq_none (by omega), List.getElem?_eq_none (by rw [reck_len]; omega)]
theorem cbt_le (bs : List Bool) (i : Nat) : 0 ≤ cbt bs i ∧ cbt bs i ≤ i := by
  unfold cbt
  have h1 := List.count_le_length (a := true) (l := bs.take i)
  rw [List.length_take] at h1
  omega
theorem cnt_le (bs : List Bool) : bs.count true ≤ bs.length := List.count_le_length
/-- the greatest of the heights -/
theorem top_at (f : Nat → Int) : ∀ n, ∃ q, q ≤ n ∧ ∀ i, i ≤ n → f i ≤ f q
  | 0 => ⟨0, Nat.le_refl _, fun i hi => by
    have : i = 0 := by omega
    rw [this]
    exact Int.le_refl _⟩
  | n + 1 => by
    obtain ⟨q, hq, h⟩ := top_at f n
    by_cases c : f q ≤ f (n + 1)
    · refine ⟨n + 1, Nat.le_refl _, fun i hi => ?_⟩
      by_cases hi2 : i ≤ n
      · exact Int.le_trans (h i hi2) c
      · have : i = n + 1 := by omega
        rw [this]
        exact Int.le_refl _
    · refine ⟨q, by omega, fun i hi => ?_⟩
      by_cases hi2 : i ≤ n
      · exact h i hi2
      · have : i = n + 1 := by omega
        rw [this]
        omega
theorem hgt_low {bs : List Bool} {i : Nat} (h : i ≤ bs.length) : hgt bs i = (bs.length : Int) * cbt bs i - (i : Int) * ((bs.count true : Nat) : Int) := by
  unfold hgt
  rw [crn_low h, cbt_all (Nat.le_refl _)]
/-- an even ring is reckoned from a turn on -/
theorem flat_turn {bs : List Bool} (hn : 0 < bs.length) (h : Flat bs) : ∃ t : Nat, t < bs.length ∧ bs = reck (bs.count true : Nat) bs.length ((t : Int) * (bs.count true : Nat)) bs.length := by
  obtain ⟨q, hq, hmax⟩ := top_at (hgt bs) (bs.length - 1)
  have hfl : ∀ i, i ≤ bs.length → hgt bs i ≤ hgt bs q ∧ hgt bs q - bs.length < hgt bs i := fun i hi => by
    by_cases c : i < bs.length
    · have h1 := hmax i (by omega)
      have h2 := h q i (by omega) c
      omega
    · have e : i = bs.length + 0 := by omega
      rw [e, hgt_wrap (Nat.zero_le _)]
      have h1 := hmax 0 (Nat.zero_le _)
      have h2 := h q 0 (by omega) hn
      omega
  have r := row_reck (bs := bs) (p := bs.length) (b := (bs.count true : Nat)) (M := hgt bs q) (by omega) (by omega) (by have := cnt_le bs; omega)
    (fun i hi => by
      rw [← hgt_low hi]
      exact (hfl i hi).1)
    (fun i hi => by
      rw [← hgt_low hi]
      exact (hfl i hi).2)
  refine ⟨((1 - (q : Int)) % (bs.length : Int)).toNat, ?_, ?_⟩
  · have := Int.emod_lt_of_pos (1 - (q : Int)) (by omega : (0 : Int) < bs.length)
    omega
  · refine r.trans (reck_mod _ ?_)
    have nn := Int.emod_nonneg (1 - (q : Int)) (by omega : (bs.length : Int) ≠ 0)
    rw [Int.toNat_of_nonneg nn, hgt_low (by omega), Int.mul_emod ((1 - (q : Int)) % _), Int.emod_emod, ← Int.mul_emod]
    have e : (bs.length : Int) * cbt bs q - (q : Int) * ((bs.count true : Nat) : Int) + ((bs.count true : Nat) : Int) = (1 - (q : Int)) * ((bs.count true : Nat) : Int) + (bs.length : Int) * cbt bs q := by
      rw [Int.sub_mul]
      omega
    rw [e, Int.add_mul_emod_self_left]
theorem turn_flat {bs : List Bool} {s : Int} (hn : 0 < bs.length) (h : bs = reck (bs.count true : Nat) bs.length s bs.length) : Flat bs := by
  rw [h]
  exact reck_flat (by omega) (by omega) (by have := cnt_le bs; omega) rfl
theorem reck_drop (b p s : Int) (k n : Nat) : (reck b p s (k + n)).drop k = reck b p (s + (k : Int) * b) n := by
  apply List.ext_getElem?
  intro i
  rw [List.getElem?_drop]
  by_cases hi : i < n
  · rw [reck_get (by omega), reck_get hi]
    congr 2
    rw [show s + ((k + i : Nat) : Int) * b = s + (k : Int) * b + (i : Int) * b by
      rw [Int.natCast_add, Int.add_mul]
      omega]
  · rw [List.getElem?_eq_none (by rw [reck_len]; omega), List.getElem?_eq_none (by rw [reck_len]; omega)]
theorem reck_app (b p s : Int) (k n : Nat) : reck b p s (k + n) = reck b p s k ++ reck b p (s + (k : Int) * b) n := by
  rw [← reck_drop, ← reck_take (by omega : k ≤ k + n), List.take_append_drop]
theorem reck_twice {b p : Int} {n : Nat} (hn : (n : Int) = p) : reck b p 0 n ++ reck b p 0 n = reck b p 0 (n + n) := by
  rw [reck_app]
  congr 1
  refine reck_mod _ ?_
  rw [Int.zero_add, hn, Int.mul_emod_right]
  rfl
/-- the ring of so many places from one on, in the ring told twice -/
theorem reck_part {b p : Int} {n k : Nat} (hn : (n : Int) = p) (hk : k ≤ n) : ((reck b p 0 n ++ reck b p 0 n).drop k).take n = reck b p ((k : Int) * b) n := by
  rw [reck_twice hn, show n + n = k + (n + n - k) by omega, reck_drop, reck_take (by omega), Int.zero_add]
end Eb
/-! ### the sums of a row; evenness as the law asks it -/
namespace Eb
open L2
theorem sums_get {bs : List Bool} {k : Nat} (h : k ≤ bs.length) : (sums bs).getD k 0 = cbt bs k := by
  unfold sums
  rw [List.getD_eq_getElem?_getD, List.getElem?_map, List.getElem?_range (by omega)]
  rfl
def cnts (bs : List Bool) (m : Nat) : List Int := (List.range bs.length).map fun i => stc bs i m
theorem cnts_len (bs : List Bool) (m : Nat) : (cnts bs m).length = bs.length := by
  unfold cnts
  rw [List.length_map, List.length_range]
theorem cnts_get {bs : List Bool} {m i : Nat} (h : i < bs.length) : (cnts bs m).getD i 0 = stc bs i m := by
  unfold cnts
  rw [List.getD_eq_getElem?_getD, List.getElem?_map, List.getElem?_range h]
  rfl
theorem cnts_mem {bs : List Bool} {m i : Nat} (h : i < bs.length) : stc bs i m ∈ cnts bs m := List.mem_map.mpr ⟨i, List.mem_range.mpr h, rfl⟩
theorem mem_cnts {bs : List Bool} {m : Nat} {z : Int} (h : z ∈ cnts bs m) : ∃ i, i < bs.length ∧ stc bs i m = z := by
  obtain ⟨i, hi, e⟩ := List.mem_map.mp h
  exact ⟨i, List.mem_range.mp hi, e⟩
def okW (bs : List Bool) (m : Nat) : Bool := decide (mx (cnts bs m) ≤ mn (cnts bs m) + 1)
theorem okW_iff {bs : List Bool} {m : Nat} (hn : 0 < bs.length) : okW bs m = true ↔ ∀ i j, i < bs.length → j < bs.length → stc bs i m ≤ stc bs j m + 1 := by
  have hl : 0 < (cnts bs m).length := by
    rw [cnts_len]
    exact hn
  obtain ⟨a1, a2⟩ := mx_mem hl
  obtain ⟨b1, b2⟩ := mn_mem hl
  unfold okW
  rw [decide_eq_true_eq]
  constructor
  · intro h i j hi hj
    have h1 := a2 _ (cnts_mem (m := m) hi)
    have h2 := b2 _ (cnts_mem (m := m) hj)
    omega
  · intro h
    obtain ⟨i, hi, e1⟩ := mem_cnts a1
    obtain ⟨j, hj, e2⟩ := mem_cnts b1
    have := h i j hi hj
    omega
def isEv (bs : List Bool) : Bool := (List.range (bs.length - 1)).all fun k => okW bs (k + 1)
theorem isEv_iff {bs : List Bool} (hn : 0 < bs.length) : isEv bs = true ↔ EvenR bs := by
  unfold isEv EvenR
  rw [List.all_eq_true]
  constructor
  · intro h m i j hm hi hj
    cases m with
    | zero =>
      unfold stc
      rw [Nat.add_zero, Nat.add_zero]
      omega
    | succ m =>
      exact (okW_iff hn).mp (h m (List.mem_range.mpr (by omega))) i j hi hj
  · intro h k hk
    have hk2 := List.mem_range.mp hk
    exact (okW_iff hn).mpr fun i j hi hj => h (k + 1) i j (by omega) hi hj
theorem isEv_flat {bs : List Bool} (hn : 0 < bs.length) : isEv bs = true ↔ Flat bs := (isEv_iff hn).trans even_iff
/-- the counts as they are reckoned from the sums of the ring told twice -/
theorem cnts_eq {bs : List Bool} {m : Int} (h0 : 0 ≤ m) (h1 : m ≤ bs.length) : ((List.range ((bs.length : Nat) : Int).toNat).map fun (i : Nat) => V.int ((sums (bs ++ bs)).getD ((i : Int) + m).toNat 0 - (sums (bs ++ bs)).getD ((i : Int)).toNat 0)) = (cnts bs m.toNat).map V.int := by
  unfold cnts
  rw [List.map_map, Int.toNat_natCast]
  refine List.map_congr_left fun i hi => ?_
  have hi2 := List.mem_range.mp hi
  show V.int _ = V.int _
  rw [sums_get (by rw [List.length_append]; omega), sums_get (by rw [List.length_append]; omega)]
  have e1 : ((i : Int) + m).toNat = i + m.toNat := by omega
  rw [e1, Int.toNat_natCast]
  rfl
end Eb
/-! ### stretches counted; the heights as a list; places of the least and the greatest -/
namespace Eb
open L2
theorem cut_count {l : List Bool} {f m : Int} (h0 : 0 ≤ f) (h1 : 0 ≤ m) : (((cutL l (some f) (some (f + m))).count true : Nat) : Int) = cbt l (f + m).toNat - cbt l f.toNat := by
  obtain ⟨a, rfl⟩ := Int.eq_ofNat_of_zero_le h0
  obtain ⟨b, rfl⟩ := Int.eq_ofNat_of_zero_le h1
  have e : ((a : Int) + (b : Int)) = ((a + b : Nat) : Int) := by omega
  rw [e, cutL_mid, Int.toNat_natCast, Int.toNat_natCast]
  unfold cbt
  have e2 : a + b - a = b := by omega
  rw [e2, ← List.take_append_drop a (l.take (a + b)), List.count_append, List.take_take, List.drop_take, Nat.min_eq_left (by omega), e2]
  omega
theorem crn_succ {bs : List Bool} {k : Nat} (h : k < 2 * bs.length) : crn bs (k + 1) = crn bs k + (if bs.getD (k % bs.length) false then 1 else 0) := by
  unfold crn
  have hl : k < (bs ++ bs).length := by
    rw [List.length_append]
    omega
  rw [cbt_succ hl]
  congr 2
  have e : (bs ++ bs)[k] = bs.getD (k % bs.length) false := by
    rw [List.getD_eq_getElem?_getD]
    by_cases c : k < bs.length
    · rw [List.getElem_append_left c, Nat.mod_eq_of_lt c, List.getElem?_eq_getElem c]
      rfl
    · rw [List.getElem_append_right (by omega)]
      have e2 : k % bs.length = k - bs.length := by
        rw [Nat.mod_eq_sub_mod (by omega), Nat.mod_eq_of_lt (by omega)]
      rw [e2, List.getElem?_eq_getElem (by omega)]
      rfl
  rw [e]
/-- a stretch of a ring, walked around it -/
theorem cyc_count {bs : List Bool} {f : Nat} (hf : f < bs.length) : ∀ {m : Nat}, m ≤ bs.length → ((((List.range m).map fun i => bs.getD ((f + i) % bs.length) false).count true : Nat) : Int) = stc bs f m
  | 0, _ => by
    unfold stc
    simp
  | m + 1, h => by
    have ih := cyc_count hf (by omega : m ≤ bs.length)
    have s := crn_succ (bs := bs) (k := f + m) (by omega)
    unfold stc at ih ⊢
    rw [List.range_succ, List.map_append, List.count_append, List.map_singleton]
    rw [show f + (m + 1) = f + m + 1 by omega]
    generalize bs.getD ((f + m) % bs.length) false = b at s ⊢
    generalize (List.range m).map (fun i => bs.getD ((f + i) % bs.length) false) = l at ih ⊢
    cases b
    · rw [if_neg Bool.false_ne_true] at s
      have e : ([false] : List Bool).count true = 0 := rfl
      rw [e]
      omega
    · rw [if_pos rfl] at s
      have e : ([true] : List Bool).count true = 1 := rfl
      rw [e]
      omega
theorem nat_mod (a b n : Nat) : (((a : Int) + (b : Int)) % (n : Int)).toNat = (a + b) % n := by
  rw [← Int.natCast_add, ← Int.natCast_emod, Int.toNat_natCast]
/-- the signs of a stretch, as they are walked -/
theorem walk_eq (bs : List Bool) (f : Nat) (m : Int) : ((List.range m.toNat).map fun (i : Nat) => V.str (enc [bs.getD (((f : Int) + (i : Int)) % (bs.length : Int)).toNat false])) = ((List.range m.toNat).map fun (i : Nat) => bs.getD ((f + i) % bs.length) false).map fun b => V.str (enc [b]) := by
  rw [List.map_map]
  refine List.map_congr_left fun i _ => ?_
  show V.str _ = V.str _
  rw [nat_mod]
/-! the heights as they are reckoned -/
def hts (bs : List Bool) : List Int := (List.range bs.length).map fun i => hgt bs i
theorem hts_len (bs : List Bool) : (hts bs).length = bs.length := by
  unfold hts
  rw [List.length_map, List.length_range]
theorem hts_get {bs : List Bool} {i : Nat} (h : i < bs.length) : (hts bs)[i]? = some (hgt bs i) := by
  unfold hts
  rw [List.getElem?_map, List.getElem?_range h]
  rfl
theorem hts_eq (bs : List Bool) : ((List.range ((bs.length : Nat) : Int).toNat).map fun (i : Nat) => V.int ((sums bs).getD ((i : Int)).toNat 0 * ((bs.length : Nat) : Int) - (i : Int) * ((bs.count true : Nat) : Int))) = (hts bs).map V.int := by
  unfold hts
  rw [List.map_map, Int.toNat_natCast]
  refine List.map_congr_left fun i hi => ?_
  have hi2 := List.mem_range.mp hi
  show V.int _ = V.int (hgt bs i)
  rw [Int.toNat_natCast, sums_get (by omega), hgt_low (by omega), Int.mul_comm]
/-! first places -/
theorem idx_mem {ns : List Int} {k : Int} (h : k ∈ ns) : ns.idxOf k < ns.length ∧ ns[ns.idxOf k]? = some k := by
  have h1 := List.idxOf_lt_length_iff.mpr h
  refine ⟨h1, ?_⟩
  rw [List.getElem?_eq_getElem h1, List.getElem_idxOf h1]
theorem idx_first {ns : List Int} {k : Int} {m : Nat} {z : Int} (hm : m < ns.idxOf k) (hz : ns[m]? = some z) : z ≠ k := by
  intro e
  subst e
  obtain ⟨h1, h2⟩ := List.getElem?_eq_some_iff.mp hz
  have := List.not_of_lt_findIdx hm
  rw [h2] at this
  simp at this
/-- what apart tells -/
theorem apart_right {bs : List Bool} (hn : 0 < bs.length) (h : ¬ Flat bs) (f s : Nat) (m : Int)
    (em : m = (((hts bs).idxOf (mx (hts bs)) : Int) - ((hts bs).idxOf (mn (hts bs)) : Int)) % (bs.length : Int))
    (ef : f = (cnts bs m.toNat).idxOf (mx (cnts bs m.toNat))) (es : s = (cnts bs m.toNat).idxOf (mn (cnts bs m.toNat))) :
    f < bs.length ∧ s < bs.length ∧ 0 ≤ m ∧ m < bs.length ∧ stc bs s m.toNat + 2 ≤ stc bs f m.toNat := by
  have hl : 0 < (hts bs).length := by
    rw [hts_len]
    exact hn
  obtain ⟨a1, a2⟩ := mx_mem hl
  obtain ⟨b1, b2⟩ := mn_mem hl
  obtain ⟨p1, p2⟩ := idx_mem a1
  obtain ⟨q1, q2⟩ := idx_mem b1
  generalize (hts bs).idxOf (mx (hts bs)) = p at *
  generalize (hts bs).idxOf (mn (hts bs)) = q at *
  rw [hts_len] at p1 q1
  rw [hts_get p1] at p2
  rw [hts_get q1] at q2
  have e1 := Option.some.inj p2
  have e2 := Option.some.inj q2
  have hbig : (bs.length : Int) ≤ hgt bs p - hgt bs q := by
    refine Classical.byContradiction fun hc => h fun i j hi hj => ?_
    have h1 := a2 _ (List.mem_of_getElem? (hts_get hi))
    have h2 := b2 _ (List.mem_of_getElem? (hts_get hj))
    omega
  obtain ⟨m', em', m0, m1, hm⟩ := apart_more p1 q1 hbig
  have e3 : m.toNat = m' := by
    rw [em, em']
  have m2 := Int.emod_nonneg ((p : Int) - (q : Int)) (by omega : (bs.length : Int) ≠ 0)
  have m3 := Int.emod_lt_of_pos ((p : Int) - (q : Int)) (by omega : (0 : Int) < bs.length)
  rw [← em] at m2 m3
  rw [e3] at ef es ⊢
  obtain ⟨j, hj, hj2⟩ := more_apart q1 m1 hm
  have hcl : 0 < (cnts bs m').length := by
    rw [cnts_len]
    exact hn
  obtain ⟨c1, c2⟩ := mx_mem hcl
  obtain ⟨d1, d2⟩ := mn_mem hcl
  obtain ⟨r1, r2⟩ := idx_mem c1
  obtain ⟨t1, t2⟩ := idx_mem d1
  rw [← ef] at r1 r2
  rw [← es] at t1 t2
  rw [cnts_len] at r1 t1
  have g1 : stc bs f m' = mx (cnts bs m') := by
    rw [← cnts_get r1, List.getD_eq_getElem?_getD, r2]
    rfl
  have g2 : stc bs s m' = mn (cnts bs m') := by
    rw [← cnts_get t1, List.getD_eq_getElem?_getD, t2]
    rfl
  have h1 := c2 _ (cnts_mem (m := m') q1)
  have h2 := d2 _ (cnts_mem (m := m') hj)
  exact ⟨r1, t1, m2, m3, by omega⟩
end Eb
namespace Eb
open PySem PySem.Spec PyProof.Rows L2 TL Evl
abbrev sMoreByTwo : Stmt := topS 7
theorem scMoreByTwo : FnScope ["row", "first", "second", "many"] ["row", "first", "second", "many"] (defScope sMoreByTwo) := ⟨rfl, rfl, rfl, by decide +kernel, rfl, by decide +kernel, by decide +kernel⟩
def mbt (bs : List Bool) (f s m : Int) : Bool := decide ((((cutL bs (some s) (some (s + m))).count true : Nat) : Int) + 2 ≤ (((cutL bs (some f) (some (f + m))).count true : Nat) : Int))
theorem mbt_iff {bs : List Bool} {f s m : Int} (h0 : 0 ≤ f) (h1 : 0 ≤ s) (h2 : 0 ≤ m) : mbt bs f s m = true ↔ cbt bs (s + m).toNat - cbt bs s.toNat + 2 ≤ cbt bs (f + m).toNat - cbt bs f.toNat := by
  unfold mbt
  rw [decide_eq_true_eq, cut_count h1 h2, cut_count h0 h2]
def spMoreByTwo (_ : PySem.W.Frag) : Sp := fun vs H Q _ => ∃ (bs : List Bool) (f s m : Int), vs = [.str (enc bs), .int f, .int s, .int m] ∧ bs.length ≤ 1000 ∧ RetV (.bl (mbt bs f s m)) H Q
theorem spv_more_by_two {K : PySem.W.Frag} {H : Hp} {bs : List Bool} {f s m : Int} (h : bs.length ≤ 1000) : SpV (spMoreByTwo K) [.str (enc bs), .int f, .int s, .int m] H (.bl (mbt bs f s m)) := fun _ _ _ q _ => ⟨bs, f, s, m, rfl, h, q⟩
section
variable {P : Program} {w : World} {K : PySem.W.Frag} {mg : Str → Option Value} {base : Heap}
theorem ok_more_by_two (D : DefAt K mg "more_by_two" sMoreByTwo) : C8.Cal P w K mg base 1 "more_by_two" (spMoreByTwo K) [] := by
  refine cal_of D (fun _ _ _ _ _ _ us hl => match us, hl with | [_, _, _, _], _ => rfl) scMoreByTwo (fun vs H Q E h => ?_) (fun f cdv A outer s H vs Q E hr h => ?_)
  · obtain ⟨bs, f, s, m, rfl, _⟩ := h
    rfl
  · obtain ⟨bs, f, s, m, rfl, h1, k⟩ := h
    refine ⟨_, (pss_one (ps_ret (pe_cmp (pc_ge (pe_m1 PySem.F.slot_str_count PySem.F.type_str_count mt_count (pe_slice sl_str (pv 0) (po_some (pv 1)) (po_some (pe_op op_add (pv 1) (pv 3)))) pe_sx) (pe_op op_add (pe_m1 PySem.F.slot_str_count PySem.F.type_str_count mt_count (pe_slice sl_str (pv 0) (po_some (pv 2)) (po_some (pe_op op_add (pv 2) (pv 3)))) pe_sx) pe_int))))), ?_⟩
    exact s_ret (ev_cmp (ev_cntS (ev_slS (ev_var rfl) (eo_some (ev_var rfl)) (eo_some (ev_op (ev_var rfl) (ev_var rfl) rv_I0)) (by walk_at "sz")) ev_c) (ev_op (ev_cntS (ev_slS (ev_var rfl) (eo_some (ev_var rfl)) (eo_some (ev_op (ev_var rfl) (ev_var rfl) rv_I0)) (by walk_at "sz")) ev_c) ev_c rv_I0)) k
end
end Eb
namespace Eb
open PySem PySem.Spec PyProof.Rows L2 TL Evl
abbrev sApartShows : Stmt := inClass (topS 8) 1
theorem scApartShows : FnScope ["self", "ring"] ["self", "ring"] (defScope sApartShows) := ⟨rfl, rfl, rfl, by decide +kernel, rfl, by decide +kernel, by decide +kernel⟩
def apShows (f s m : Int) (bs : List Bool) : Bool := ((decide (0 ≤ f) && decide (f < (bs.length : Int))) && ((decide (0 ≤ s) && decide (s < (bs.length : Int))) && (decide (0 ≤ m) && decide (m ≤ (bs.length : Int))))) && mbt (bs ++ bs) f s m
def spApartShows (C : Addr) : Sp := fun vs H Q _ => ∃ (a dx : Addr) (f s m : Int) (bs : List Bool), vs = [.ref a, .str (enc bs)] ∧ H a = some (.ins C dx [("first", .int f), ("second", .int s), ("many", .int m)]) ∧ bs.length ≤ 400 ∧ RetV (.bl (apShows f s m bs)) H Q
theorem spm_Apart_shows {C : Addr} {H : Hp} {a dx : Addr} {f s m : Int} {bs : List Bool} (ho : H a = some (.ins C dx [("first", .int f), ("second", .int s), ("many", .int m)])) (h : bs.length ≤ 400) : SpV (spApartShows C) [.ref a, .str (enc bs)] H (.bl (apShows f s m bs)) := fun _ e _ q _ => ⟨a, dx, f, s, m, bs, rfl, e _ _ ho, h, q⟩
section
variable {P : Program} {w : World} {K : PySem.W.Frag} {mg : Str → Option Value} {base : Heap}
variable {cAnswer cEven cApart cBegun cParted : Addr}
theorem ok_Apart_shows (D : MethAt K cApart "shows" "Apart.shows" sApartShows) (Z : Cz K mg cAnswer cEven cApart cBegun cParted) (B : Bn mg) (c_more_by_two : C8.Cal P w K mg base 1 "more_by_two" (spMoreByTwo K) []) : C8.Met P w K mg base 2 cApart "shows" (spApartShows cApart) [] := by
  refine met_of D Z.k_Apart.cl (fun _ _ _ _ _ _ us hl => match us, hl with | [_, _], _ => rfl) scApartShows (fun vs H Q E h => ?_) (fun f cdv A outer s H vs Q E hr h => ?_)
  · obtain ⟨a, dx, f, s, m, bs, rfl, _⟩ := h
    rfl
  · obtain ⟨a, dx, f, s, m, bs, rfl, ho, h1, k⟩ := h
    refine ⟨_, (pss_cons (ps_if (PW.pt (pw_or (pt_not (pt_chain op_le op_lt pe_int (pe_fldK (K := K) rfl (pv 0) rfl) (pe_callB call_len_str (by rfl) B.len_ PySem.boot_len (pa_cons (pv 1) pa_nil)))) (pw_or (pt_not (pt_chain op_le op_lt pe_int (pe_fldK (K := K) rfl (pv 0) rfl) (pe_callB call_len_str (by rfl) B.len_ PySem.boot_len (pa_cons (pv 1) pa_nil)))) (pw_or1 (pt_not (pt_chain op_le op_le pe_int (pe_fldK (K := K) rfl (pv 0) rfl) (pe_callB call_len_str (by rfl) B.len_ PySem.boot_len (pa_cons (pv 1) pa_nil))))))))
      (pss_one (ps_ret pe_bl))
      pss_nil)
      (pss_one (ps_ret (C8.pe_c c_more_by_two hr (by decide) (by rfl) (pa_cons (pe_op op_add_str (pv 1) (pv 1)) (pa_cons (pe_fldK (K := K) rfl (pv 0) rfl) (pa_cons (pe_fldK (K := K) rfl (pv 0) rfl) (pa_cons (pe_fldK (K := K) rfl (pv 0) rfl) pa_nil)))))))), ?_⟩
    refine q_when (et_or (et_not (et_test (ev_chain ev_c (ev_fld (ev_var rfl) (by assumption) Z.k_Apart.cl Z.n_Apart_first (lk_Apart_first _ _ _)) (ev_cb (ea_cons (ev_var rfl) ea_nil) (rc_lenS (by walk_at "sz")))))) (fun hb => (et_or (et_not (et_test (ev_chain ev_c (ev_fld (ev_var rfl) (by assumption) Z.k_Apart.cl Z.n_Apart_second (lk_Apart_second _ _ _)) (ev_cb (ea_cons (ev_var rfl) ea_nil) (rc_lenS (by walk_at "sz")))))) (fun hb => (et_not (et_test (ev_chain ev_c (ev_fld (ev_var rfl) (by assumption) Z.k_Apart.cl Z.n_Apart_many (lk_Apart_many _ _ _)) (ev_cb (ea_cons (ev_var rfl) ea_nil) (rc_lenS (by walk_at "sz")))))))))) (fun hb H1 e1 => ?_) (fun hb H1 e1 => ?_)
    · refine s_ret ev_c fun H2 e2 => ?_
      have e : apShows f s m bs = false := by
        unfold apShows
        generalize mbt (bs ++ bs) f s m = z
        revert hb
        generalize decide (0 ≤ f) = b1
        generalize decide (f < (bs.length : Int)) = b2
        generalize decide (0 ≤ s) = b3
        generalize decide (s < (bs.length : Int)) = b4
        generalize decide (0 ≤ m) = b5
        generalize decide (m ≤ (bs.length : Int)) = b6
        cases b1 <;> cases b2 <;> cases b3 <;> cases b4 <;> cases b5 <;> cases b6 <;> simp
      rw [← e]
      exact k.go (e1.trans e2)
    · replace ho := e1 _ _ ho
      refine s_ret (ev_call (ea_cons (ev_op (ev_var rfl) (ev_var rfl) (rv_catS (by walk_at "sz") (by walk_at "sz"))) (ea_cons (ev_fld (ev_var rfl) (by assumption) Z.k_Apart.cl Z.n_Apart_first (lk_Apart_first _ _ _)) (ea_cons (ev_fld (ev_var rfl) (by assumption) Z.k_Apart.cl Z.n_Apart_second (lk_Apart_second _ _ _)) (ea_cons (ev_fld (ev_var rfl) (by assumption) Z.k_Apart.cl Z.n_Apart_many (lk_Apart_many _ _ _)) ea_nil)))) (spv_more_by_two (by walk_at "pre"))) fun H2 e2 => ?_
      have e : apShows f s m bs = mbt (bs ++ bs) f s m := by
        unfold apShows
        generalize mbt (bs ++ bs) f s m = z
        revert hb
        generalize decide (0 ≤ f) = b1
        generalize decide (f < (bs.length : Int)) = b2
        generalize decide (0 ≤ s) = b3
        generalize decide (s < (bs.length : Int)) = b4
        generalize decide (0 ≤ m) = b5
        generalize decide (m ≤ (bs.length : Int)) = b6
        cases b1 <;> cases b2 <;> cases b3 <;> cases b4 <;> cases b5 <;> cases b6 <;> simp
      rw [← e]
      exact k.go (e1.trans e2)
end
end Eb
namespace Eb
open PySem PySem.Spec PyProof.Rows L2 TL Evl
abbrev sBegunInit : Stmt := inClass (topS 9) 0
theorem scBegunInit : FnScope ["self", "beats", "places", "shift"] ["self", "beats", "places", "shift"] (defScope sBegunInit) := ⟨rfl, rfl, rfl, by decide +kernel, rfl, by decide +kernel, by decide +kernel⟩
section
variable {P : Program} {w : World} {K : PySem.W.Frag} {mg : Str → Option Value} {base : Heap} {cAnswer cEven cApart cBegun cParted : Addr}
theorem ok_Begun_init (D : InitAt K cBegun "Begun.__init__" sBegunInit) (Z : Cz K mg cAnswer cEven cApart cBegun cParted) : C8.Mak P w K mg base 1 "Begun" cBegun (spI cBegun ["beats", "places", "shift"]) [] := by
  refine mak_of D Z.m_Begun (fun _ _ _ _ _ _ us hl => match us, hl with | [_, _, _, _], _ => rfl) scBegunInit (fun vs H Q E h => ?_) (fun f cdv A outer s H vs Q E hr h => ?_)
  · obtain ⟨x, dx, us, rfl, hl, _⟩ := h
    exact congrArg Nat.succ hl
  · obtain ⟨x, dx, us, rfl, hl, ho, k⟩ := h
    obtain ⟨v1, v2, v3, rfl⟩ : ∃ v1 v2 v3, us = [v1, v2, v3] := match us, hl with | [a, b, c], _ => ⟨a, b, c, rfl⟩
    refine ⟨_, (pss_cons (ps_fld (pv 0) (pv 1) rfl)
      (pss_cons (ps_fld (pv 0) (pv 2) rfl)
      (pss_one (ps_fld (pv 0) (pv 3) rfl)))), ?_⟩
    refine q_fld (ev_var rfl) (ev_var rfl) ho Z.k_Begun.cl Z.n_Begun_beats (by simp) fun H1 e1 => ?_
    rw [put_0]
    refine q_fld (ev_var rfl) (ev_var rfl) upd_same Z.k_Begun.cl Z.n_Begun_places (by simp) fun H2 e2 => ?_
    rw [put_1 (ne_of_beq_false n_pb).symm]
    refine s_fld (ev_var rfl) (ev_var rfl) upd_same Z.k_Begun.cl Z.n_Begun_shift (by simp) fun H3 e3 => ?_
    rw [put_2 (ne_of_beq_false n_sb).symm (ne_of_beq_false n_sp).symm]
    exact k _ ((((KeepBut.refl _ _).ex e1).put.ex e2).put.ex e3).put upd_same
end
end Eb
namespace Eb
open PySem PySem.Spec PyProof.Rows L2 TL Evl
abbrev sReckonedPlaces : Stmt := topS 3
theorem scReckonedPlaces : FnScope ["beats", "places", "shift", "many", "at"] ["beats", "places", "shift", "many"] (defScope sReckonedPlaces) := ⟨rfl, rfl, rfl, by decide +kernel, rfl, by decide +kernel, by decide +kernel⟩
def spReckonedPlaces (_ : PySem.W.Frag) : Sp := fun vs H Q _ => ∃ b p s m : Int, vs = [.int b, .int p, .int s, .int m] ∧ (0 < p ∧ 0 ≤ m ∧ m ≤ 1000) ∧ RetV (.str (enc (reck b p s m.toNat))) H Q
theorem spv_reckoned_places {K : PySem.W.Frag} {H : Hp} {b p s m : Int} (h : 0 < p ∧ 0 ≤ m ∧ m ≤ 1000) : SpV (spReckonedPlaces K) [.int b, .int p, .int s, .int m] H (.str (enc (reck b p s m.toNat))) := fun _ _ _ q _ => ⟨b, p, s, m, rfl, h, q⟩
section
variable {P : Program} {w : World} {K : PySem.W.Frag} {mg : Str → Option Value} {base : Heap}
theorem ok_reckoned_places (D : DefAt K mg "reckoned_places" sReckonedPlaces) (B : Bn mg) (T : Tx mg) : C8.Cal P w K mg base 1 "reckoned_places" (spReckonedPlaces K) [] := by
  refine cal_of D (fun _ _ _ _ _ _ us hl => match us, hl with | [_, _, _, _], _ => rfl) scReckonedPlaces (fun vs H Q E h => ?_) (fun f cdv A outer s H vs Q E hr h => ?_)
  · obtain ⟨b, p, s, m, rfl, _⟩ := h
    rfl
  · obtain ⟨b, p, s, m, rfl, ⟨h1, h2, h3⟩, k⟩ := h
    refine ⟨_, (pss_one (ps_ret (pe_join pe_s0 (pe_lc (own := [("at", 4)]) (g := gName 4) rfl scReckonedPlaces.nd (pi_range1 rfl B.range_ (pa_cons (pv 3) pa_nil)) (blkOk_by (own := [("at", 4)]) (N := ["beats", "places", "shift", "many", "at"]) (sc := defScope sReckonedPlaces) (by decide +kernel)) (fun _ _ _ _ _ => (pg_name (i := 4) scReckonedPlaces.nd rfl (Or.inl rfl))) (fun _ _ _ _ _ => pts_nil) (fun _ _ _ _ _ => (pe_ifExp (pt_cmp (pc_lt (pe_op op_mod (pe_op op_add (pv 2) (pe_op op_mul (pv 4) (pv 0))) (pv 1)) (pv 0))) (C8.pe_gc rfl T.beat) (C8.pe_gc rfl T.rest))))))), ?_⟩
    exact s_ret (ev_join1N ev_c (el_mapRi _ (ea_cons (ev_var rfl) ea_nil) (by walk_at "rg") (fun _ => rfl) (fun i9 H9 e9 h9 => Ev.mono e9 (ev_ifS (et_B (ev_cmp (ev_op (ev_op (ev_var rfl) (ev_op (ev_var rfl) (ev_var rfl) (rv_I (by walk_at "mul"))) rv_I0) (ev_var rfl) (rv_I (by walk_at "pos"))) (ev_var rfl))) ev_c ev_c))) (by walk_at "sz")) k
end
end Eb
namespace Eb
open PySem PySem.Spec PyProof.Rows L2 TL Evl
abbrev sBegunShows : Stmt := inClass (topS 9) 1
theorem scBegunShows : FnScope ["self", "row"] ["self", "row"] (defScope sBegunShows) := ⟨rfl, rfl, rfl, by decide +kernel, rfl, by decide +kernel, by decide +kernel⟩
def beShows (b p s : Int) (bs : List Bool) : Bool := (decide (1 ≤ p) && (decide (0 ≤ b) && decide (b ≤ p))) && decide (reck b p s bs.length = bs)
def spBegunShows (C : Addr) : Sp := fun vs H Q _ => ∃ (a dx : Addr) (b p s : Int) (bs : List Bool), vs = [.ref a, .str (enc bs)] ∧ H a = some (.ins C dx [("beats", .int b), ("places", .int p), ("shift", .int s)]) ∧ bs.length ≤ 400 ∧ RetV (.bl (beShows b p s bs)) H Q
theorem spm_Begun_shows {C : Addr} {H : Hp} {a dx : Addr} {b p s : Int} {bs : List Bool} (ho : H a = some (.ins C dx [("beats", .int b), ("places", .int p), ("shift", .int s)])) (h : bs.length ≤ 400) : SpV (spBegunShows C) [.ref a, .str (enc bs)] H (.bl (beShows b p s bs)) := fun _ e _ q _ => ⟨a, dx, b, p, s, bs, rfl, e _ _ ho, h, q⟩
section
variable {P : Program} {w : World} {K : PySem.W.Frag} {mg : Str → Option Value} {base : Heap}
variable {cAnswer cEven cApart cBegun cParted : Addr}
theorem ok_Begun_shows (D : MethAt K cBegun "shows" "Begun.shows" sBegunShows) (Z : Cz K mg cAnswer cEven cApart cBegun cParted) (B : Bn mg) (c_reckoned_places : C8.Cal P w K mg base 1 "reckoned_places" (spReckonedPlaces K) []) : C8.Met P w K mg base 2 cBegun "shows" (spBegunShows cBegun) [] := by
  refine met_of D Z.k_Begun.cl (fun _ _ _ _ _ _ us hl => match us, hl with | [_, _], _ => rfl) scBegunShows (fun vs H Q E h => ?_) (fun f cdv A outer s H vs Q E hr h => ?_)
  · obtain ⟨a, dx, b, p, s, bs, rfl, _⟩ := h
    rfl
  · obtain ⟨a, dx, b, p, s, bs, rfl, ho, h1, k⟩ := h
    refine ⟨_, (pss_cons (ps_if (PW.pt (pw_or (pt_cmp (pc_lt (pe_fldK (K := K) rfl (pv 0) rfl) pe_int)) (pw_or1 (pt_not (pt_chain op_le op_le pe_int (pe_fldK (K := K) rfl (pv 0) rfl) (pe_fldK (K := K) rfl (pv 0) rfl))))))
      (pss_one (ps_ret pe_bl))
      pss_nil)
      (pss_one (ps_ret (pe_cmpR op_eq (C8.pe_c c_reckoned_places hr (by decide) (by rfl) (pa_cons (pe_fldK (K := K) rfl (pv 0) rfl) (pa_cons (pe_fldK (K := K) rfl (pv 0) rfl) (pa_cons (pe_fldK (K := K) rfl (pv 0) rfl) (pa_cons (pe_callB call_len_str (by rfl) B.len_ PySem.boot_len (pa_cons (pv 1) pa_nil)) pa_nil))))) (pv 1) (nomark _))))), ?_⟩
    refine q_when (et_or (et_B (ev_cmp (ev_fld (ev_var rfl) (by assumption) Z.k_Begun.cl Z.n_Begun_places (lk_Begun_places _ _ _)) ev_c)) (fun hb => (et_not (et_test (ev_chain ev_c (ev_fld (ev_var rfl) (by assumption) Z.k_Begun.cl Z.n_Begun_beats (lk_Begun_beats _ _ _)) (ev_fld (ev_var rfl) (by assumption) Z.k_Begun.cl Z.n_Begun_places (lk_Begun_places _ _ _))))))) (fun hb H1 e1 => ?_) (fun hb H1 e1 => ?_)
    · refine s_ret ev_c fun H2 e2 => ?_
      have e : beShows b p s bs = false := by
        unfold beShows
        rw [Bool.and_eq_false_iff]
        left
        simp only [Bool.or_eq_true, Bool.not_eq_true', decide_eq_true_eq, Bool.and_eq_false_iff, decide_eq_false_iff_not] at hb ⊢
        omega
      rw [← e]
      exact k.go (e1.trans e2)
    · replace ho := e1 _ _ ho
      simp only [Bool.or_eq_false_iff, Bool.not_eq_false', decide_eq_false_iff_not, Bool.and_eq_true, decide_eq_true_eq] at hb
      refine s_ret (ev_op (ev_call (ea_cons (ev_fld (ev_var rfl) (by assumption) Z.k_Begun.cl Z.n_Begun_beats (lk_Begun_beats _ _ _)) (ea_cons (ev_fld (ev_var rfl) (by assumption) Z.k_Begun.cl Z.n_Begun_places (lk_Begun_places _ _ _)) (ea_cons (ev_fld (ev_var rfl) (by assumption) Z.k_Begun.cl Z.n_Begun_shift (lk_Begun_shift _ _ _)) (ea_cons (ev_cb (ea_cons (ev_var rfl) ea_nil) (rc_lenS (by walk_at "sz"))) ea_nil)))) (spv_reckoned_places (by walk_at "pre"))) (ev_var rfl) rv_eqS) fun H2 e2 => ?_
      have e : beShows b p s bs = decide (reck b p s bs.length = bs) := by
        unfold beShows
        rw [decide_eq_true (by omega), decide_eq_true (by omega), decide_eq_true (by omega)]
        rfl
      rw [Int.toNat_natCast, ← e]
      exact k.go (e1.trans e2)
end
end Eb
namespace Eb
open PySem PySem.Spec PyProof.Rows L2 TL Evl
abbrev sEvenInit : Stmt := inClass (topS 6) 0
theorem scEvenInit : FnScope ["self", "turn"] ["self", "turn"] (defScope sEvenInit) := ⟨rfl, rfl, rfl, by decide +kernel, rfl, by decide +kernel, by decide +kernel⟩
section
variable {P : Program} {w : World} {K : PySem.W.Frag} {mg : Str → Option Value} {base : Heap} {cAnswer cEven cApart cBegun cParted : Addr}
theorem ok_Even_init (D : InitAt K cEven "Even.__init__" sEvenInit) (Z : Cz K mg cAnswer cEven cApart cBegun cParted) : C8.Mak P w K mg base 1 "Even" cEven (spI cEven ["turn"]) [] := by
  refine mak_of D Z.m_Even (fun _ _ _ _ _ _ us hl => match us, hl with | [_, _], _ => rfl) scEvenInit (fun vs H Q E h => ?_) (fun f cdv A outer s H vs Q E hr h => ?_)
  · obtain ⟨x, dx, us, rfl, hl, _⟩ := h
    exact congrArg Nat.succ hl
  · obtain ⟨x, dx, us, rfl, hl, ho, k⟩ := h
    obtain ⟨v1, rfl⟩ : ∃ v1, us = [v1] := match us, hl with | [a], _ => ⟨a, rfl⟩
    refine ⟨_, (pss_one (ps_fld (pv 0) (pv 1) rfl)), ?_⟩
    refine s_fld (ev_var rfl) (ev_var rfl) ho Z.k_Even.cl Z.n_Even_turn (by simp) fun H1 e1 => ?_
    rw [put_0]
    exact k _ ((KeepBut.refl _ _).ex e1).put upd_same
end
end Eb
namespace Eb
open PySem PySem.Spec PyProof.Rows L2 TL Evl
abbrev sEvenShows : Stmt := inClass (topS 6) 1
theorem scEvenShows : FnScope ["self", "ring", "beats"] ["self", "ring"] (defScope sEvenShows) := ⟨rfl, rfl, rfl, by decide +kernel, rfl, by decide +kernel, by decide +kernel⟩
def evShows (t : Int) (bs : List Bool) : Bool := (decide (0 ≤ t) && decide (t < (bs.length : Int))) && decide (reck (bs.count true : Nat) bs.length (t * (bs.count true : Nat)) bs.length = bs)
def spEvenShows (C : Addr) : Sp := fun vs H Q _ => ∃ (a dx : Addr) (t : Int) (bs : List Bool), vs = [.ref a, .str (enc bs)] ∧ H a = some (.ins C dx [("turn", .int t)]) ∧ bs.length ≤ 400 ∧ RetV (.bl (evShows t bs)) H Q
theorem spm_Even_shows {C : Addr} {H : Hp} {a dx : Addr} {t : Int} {bs : List Bool} (ho : H a = some (.ins C dx [("turn", .int t)])) (h : bs.length ≤ 400) : SpV (spEvenShows C) [.ref a, .str (enc bs)] H (.bl (evShows t bs)) := fun _ e _ q _ => ⟨a, dx, t, bs, rfl, e _ _ ho, h, q⟩
section
variable {P : Program} {w : World} {K : PySem.W.Frag} {mg : Str → Option Value} {base : Heap}
variable {cAnswer cEven cApart cBegun cParted : Addr}
theorem ok_Even_shows (D : MethAt K cEven "shows" "Even.shows" sEvenShows) (Z : Cz K mg cAnswer cEven cApart cBegun cParted) (B : Bn mg) (c_reckoned_places : C8.Cal P w K mg base 1 "reckoned_places" (spReckonedPlaces K) []) : C8.Met P w K mg base 2 cEven "shows" (spEvenShows cEven) [] := by
  refine met_of D Z.k_Even.cl (fun _ _ _ _ _ _ us hl => match us, hl with | [_, _], _ => rfl) scEvenShows (fun vs H Q E h => ?_) (fun f cdv A outer s H vs Q E hr h => ?_)
  · obtain ⟨a, dx, t, bs, rfl, _⟩ := h
    rfl
  · obtain ⟨a, dx, t, bs, rfl, ho, h1, k⟩ := h
    refine ⟨_, (pss_cons (ps_set (i := 2) scEvenShows.nd rfl (Or.inl rfl) (pe_m1 PySem.F.slot_str_count PySem.F.type_str_count mt_count (pv 1) pe_sx))
      (pss_one (ps_ret (pe_and (pe_chain op_le op_lt pe_int (pe_fldK (K := K) rfl (pv 0) rfl) (pe_callB call_len_str (by rfl) B.len_ PySem.boot_len (pa_cons (pv 1) pa_nil))) (pe_one (pe_cmpR op_eq (C8.pe_c c_reckoned_places hr (by decide) (by rfl) (pa_cons (pv 2) (pa_cons (pe_callB call_len_str (by rfl) B.len_ PySem.boot_len (pa_cons (pv 1) pa_nil)) (pa_cons (pe_op op_mul (pe_fldK (K := K) rfl (pv 0) rfl) (pv 2)) (pa_cons (pe_callB call_len_str (by rfl) B.len_ PySem.boot_len (pa_cons (pv 1) pa_nil)) pa_nil))))) (pv 1) (nomark _))))))), ?_⟩
    refine q_asg (ev_cntS (ev_var rfl) ev_c) fun H1 e1 => ?_
    replace ho := e1 _ _ ho
    have hc := cnt_le bs
    refine s_ret (ev_andV (ev_chain ev_c (ev_fld (ev_var rfl) (by assumption) Z.k_Even.cl Z.n_Even_turn (lk_Even_turn _)) (ev_cb (ea_cons (ev_var rfl) ea_nil) (rc_lenS (by walk_at "sz")))) (fun hb => by
      simp only [Bool.and_eq_true, decide_eq_true_eq] at hb
      have hc2 : -18446744073709551616 < ((bs.count true : Nat) : Int) ∧ ((bs.count true : Nat) : Int) < 18446744073709551616 := by omega
      exact (ev_op (ev_call (ea_cons (ev_var rfl) (ea_cons (ev_cb (ea_cons (ev_var rfl) ea_nil) (rc_lenS (by walk_at "sz"))) (ea_cons (ev_op (ev_fld (ev_var rfl) (by assumption) Z.k_Even.cl Z.n_Even_turn (lk_Even_turn _)) (ev_var rfl) (rv_I (by walk_at "mul"))) (ea_cons (ev_cb (ea_cons (ev_var rfl) ea_nil) (rc_lenS (by walk_at "sz"))) ea_nil)))) (spv_reckoned_places (by walk_at "pre"))) (ev_var rfl) rv_eqS))) fun H2 e2 => k.go (e1.trans e2)
end
end Eb
namespace Eb
open PySem PySem.Spec PyProof.Rows L2 TL Evl
abbrev sPartedInit : Stmt := inClass (topS 10) 0
theorem scPartedInit : FnScope ["self", "first", "second", "many"] ["self", "first", "second", "many"] (defScope sPartedInit) := ⟨rfl, rfl, rfl, by decide +kernel, rfl, by decide +kernel, by decide +kernel⟩
section
variable {P : Program} {w : World} {K : PySem.W.Frag} {mg : Str → Option Value} {base : Heap} {cAnswer cEven cApart cBegun cParted : Addr}
theorem ok_Parted_init (D : InitAt K cParted "Parted.__init__" sPartedInit) (Z : Cz K mg cAnswer cEven cApart cBegun cParted) : C8.Mak P w K mg base 1 "Parted" cParted (spI cParted ["first", "second", "many"]) [] := by
  refine mak_of D Z.m_Parted (fun _ _ _ _ _ _ us hl => match us, hl with | [_, _, _, _], _ => rfl) scPartedInit (fun vs H Q E h => ?_) (fun f cdv A outer s H vs Q E hr h => ?_)
  · obtain ⟨x, dx, us, rfl, hl, _⟩ := h
    exact congrArg Nat.succ hl
  · obtain ⟨x, dx, us, rfl, hl, ho, k⟩ := h
    obtain ⟨v1, v2, v3, rfl⟩ : ∃ v1 v2 v3, us = [v1, v2, v3] := match us, hl with | [a, b, c], _ => ⟨a, b, c, rfl⟩
    refine ⟨_, (pss_cons (ps_fld (pv 0) (pv 1) rfl)
      (pss_cons (ps_fld (pv 0) (pv 2) rfl)
      (pss_one (ps_fld (pv 0) (pv 3) rfl)))), ?_⟩
    refine q_fld (ev_var rfl) (ev_var rfl) ho Z.k_Parted.cl Z.n_Parted_first (by simp) fun H1 e1 => ?_
    rw [put_0]
    refine q_fld (ev_var rfl) (ev_var rfl) upd_same Z.k_Parted.cl Z.n_Parted_second (by simp) fun H2 e2 => ?_
    rw [put_1 (ne_of_beq_false n_sf).symm]
    refine s_fld (ev_var rfl) (ev_var rfl) upd_same Z.k_Parted.cl Z.n_Parted_many (by simp) fun H3 e3 => ?_
    rw [put_2 (ne_of_beq_false n_mf).symm (ne_of_beq_false n_ms).symm]
    exact k _ ((((KeepBut.refl _ _).ex e1).put.ex e2).put.ex e3).put upd_same
end
end Eb
namespace Eb
open PySem PySem.Spec PyProof.Rows L2 TL Evl
abbrev sPartedShows : Stmt := inClass (topS 10) 1
theorem scPartedShows : FnScope ["self", "row"] ["self", "row"] (defScope sPartedShows) := ⟨rfl, rfl, rfl, by decide +kernel, rfl, by decide +kernel, by decide +kernel⟩
def paShows (f s m : Int) (bs : List Bool) : Bool := (!(decide (mn [f, s, m] < 0) || decide ((bs.length : Int) < (if s > f then s else f) + m))) && mbt bs f s m
def spPartedShows (C : Addr) : Sp := fun vs H Q _ => ∃ (a dx : Addr) (f s m : Int) (bs : List Bool), vs = [.ref a, .str (enc bs)] ∧ H a = some (.ins C dx [("first", .int f), ("second", .int s), ("many", .int m)]) ∧ bs.length ≤ 400 ∧ RetV (.bl (paShows f s m bs)) H Q
theorem spm_Parted_shows {C : Addr} {H : Hp} {a dx : Addr} {f s m : Int} {bs : List Bool} (ho : H a = some (.ins C dx [("first", .int f), ("second", .int s), ("many", .int m)])) (h : bs.length ≤ 400) : SpV (spPartedShows C) [.ref a, .str (enc bs)] H (.bl (paShows f s m bs)) := fun _ e _ q _ => ⟨a, dx, f, s, m, bs, rfl, e _ _ ho, h, q⟩
section
variable {P : Program} {w : World} {K : PySem.W.Frag} {mg : Str → Option Value} {base : Heap}
variable {cAnswer cEven cApart cBegun cParted : Addr}
theorem ok_Parted_shows (D : MethAt K cParted "shows" "Parted.shows" sPartedShows) (Z : Cz K mg cAnswer cEven cApart cBegun cParted) (B : Bn mg) (c_more_by_two : C8.Cal P w K mg base 1 "more_by_two" (spMoreByTwo K) []) : C8.Met P w K mg base 2 cParted "shows" (spPartedShows cParted) [] := by
  refine met_of D Z.k_Parted.cl (fun _ _ _ _ _ _ us hl => match us, hl with | [_, _], _ => rfl) scPartedShows (fun vs H Q E h => ?_) (fun f cdv A outer s H vs Q E hr h => ?_)
  · obtain ⟨a, dx, f, s, m, bs, rfl, _⟩ := h
    rfl
  · obtain ⟨a, dx, f, s, m, bs, rfl, ho, h1, k⟩ := h
    refine ⟨_, (pss_cons (ps_if (PW.pt (pw_or (pt_cmp (pc_lt (pe_callB (call_min3I rfl) (by rfl) B.min_ (by decide +kernel) (pa_cons (pe_fldK (K := K) rfl (pv 0) rfl) (pa_cons (pe_fldK (K := K) rfl (pv 0) rfl) (pa_cons (pe_fldK (K := K) rfl (pv 0) rfl) pa_nil)))) pe_int)) (pw_or1 (pt_cmp (pc_gt (pe_op op_add (pe_callB (call_max2 rfl) (by rfl) B.max_ (by decide +kernel) (pa_cons (pe_fldK (K := K) rfl (pv 0) rfl) (pa_cons (pe_fldK (K := K) rfl (pv 0) rfl) pa_nil))) (pe_fldK (K := K) rfl (pv 0) rfl)) (pe_callB call_len_str (by rfl) B.len_ PySem.boot_len (pa_cons (pv 1) pa_nil)))))))
      (pss_one (ps_ret pe_bl))
      pss_nil)
      (pss_one (ps_ret (C8.pe_c c_more_by_two hr (by decide) (by rfl) (pa_cons (pv 1) (pa_cons (pe_fldK (K := K) rfl (pv 0) rfl) (pa_cons (pe_fldK (K := K) rfl (pv 0) rfl) (pa_cons (pe_fldK (K := K) rfl (pv 0) rfl) pa_nil)))))))), ?_⟩
    refine q_when (et_or (et_B (ev_cmp (ev_cb (ea_cons (ev_fld (ev_var rfl) (by assumption) Z.k_Parted.cl Z.n_Parted_first (lk_Parted_first _ _ _)) (ea_cons (ev_fld (ev_var rfl) (by assumption) Z.k_Parted.cl Z.n_Parted_second (lk_Parted_second _ _ _)) (ea_cons (ev_fld (ev_var rfl) (by assumption) Z.k_Parted.cl Z.n_Parted_many (lk_Parted_many _ _ _)) ea_nil))) rc_min3) ev_c)) (fun hb => (et_B (ev_cmp (ev_op (ev_cb (ea_cons (ev_fld (ev_var rfl) (by assumption) Z.k_Parted.cl Z.n_Parted_first (lk_Parted_first _ _ _)) (ea_cons (ev_fld (ev_var rfl) (by assumption) Z.k_Parted.cl Z.n_Parted_second (lk_Parted_second _ _ _)) ea_nil)) rc_max2) (ev_fld (ev_var rfl) (by assumption) Z.k_Parted.cl Z.n_Parted_many (lk_Parted_many _ _ _)) rv_I0) (ev_cb (ea_cons (ev_var rfl) ea_nil) (rc_lenS (by walk_at "sz"))))))) (fun hb H1 e1 => ?_) (fun hb H1 e1 => ?_)
    · refine s_ret ev_c fun H2 e2 => ?_
      have e : paShows f s m bs = false := by
        unfold paShows
        rw [hb]
        rfl
      rw [← e]
      exact k.go (e1.trans e2)
    · replace ho := e1 _ _ ho
      refine s_ret (ev_call (ea_cons (ev_var rfl) (ea_cons (ev_fld (ev_var rfl) (by assumption) Z.k_Parted.cl Z.n_Parted_first (lk_Parted_first _ _ _)) (ea_cons (ev_fld (ev_var rfl) (by assumption) Z.k_Parted.cl Z.n_Parted_second (lk_Parted_second _ _ _)) (ea_cons (ev_fld (ev_var rfl) (by assumption) Z.k_Parted.cl Z.n_Parted_many (lk_Parted_many _ _ _)) ea_nil)))) (spv_more_by_two (by walk_at "pre"))) fun H2 e2 => ?_
      have e : paShows f s m bs = mbt bs f s m := by
        unfold paShows
        rw [hb]
        rfl
      rw [← e]
      exact k.go (e1.trans e2)
end
end Eb
namespace Eb
open PySem PySem.Spec PyProof.Rows L2 TL Evl
abbrev sLawReckoned : Stmt := topS 12
theorem scLawReckoned : FnScope ["_law_beats", "_law_places", "_law_shift", "_law_many", "_law_rest", "_law_signs", "_law_at"] ["_law_beats", "_law_places", "_law_shift", "_law_many"] (defScope sLawReckoned) := ⟨rfl, rfl, rfl, by decide +kernel, rfl, by decide +kernel, by decide +kernel⟩
def spLawReckoned (_ : PySem.W.Frag) : Sp := fun vs H Q _ => ∃ b p s m : Int, vs = [.int b, .int p, .int s, .int m] ∧ (0 < p ∧ 0 ≤ m ∧ m ≤ 1000) ∧ RetV (.str (enc (reck b p s m.toNat))) H Q
theorem spv__law_reckoned {K : PySem.W.Frag} {H : Hp} {b p s m : Int} (h : 0 < p ∧ 0 ≤ m ∧ m ≤ 1000) : SpV (spLawReckoned K) [.int b, .int p, .int s, .int m] H (.str (enc (reck b p s m.toNat))) := fun _ _ _ q _ => ⟨b, p, s, m, rfl, h, q⟩
section
variable {P : Program} {w : World} {K : PySem.W.Frag} {mg : Str → Option Value} {base : Heap}
theorem ok__law_reckoned (D : DefAt K mg "_law_reckoned" sLawReckoned) (B : Bn mg) : C8.Cal P w K mg base 1 "_law_reckoned" (spLawReckoned K) [] := by
  refine cal_of D (fun _ _ _ _ _ _ us hl => match us, hl with | [_, _, _, _], _ => rfl) scLawReckoned (fun vs H Q E h => ?_) (fun f cdv A outer s H vs Q E hr h => ?_)
  · obtain ⟨b, p, s, m, rfl, _⟩ := h
    rfl
  · obtain ⟨b, p, s, m, rfl, ⟨h1, h2, h3⟩, k⟩ := h
    refine ⟨_, (pss_cons (ps_set (i := 4) scLawReckoned.nd rfl (Or.inl rfl) (pe_op op_mod (pv 2) (pv 1)))
      (pss_cons (ps_set (i := 5) scLawReckoned.nd rfl (Or.inl rfl) (pe_lst pa_nil))
      (pss_cons (ps_for PassesOwn.never rfl (pi_range1 rfl B.range_ (pa_cons (pv 3) pa_nil)) (pg_name (i := 6) scLawReckoned.nd rfl (Or.inl rfl))
      (pss_cons (ps_expr (pe_bm PySem.F.plainAttrs_list PySem.F.slot_list_append PySem.F.type_list_append mt_append (pv 5) (pa_cons (pe_ifExp (pt_cmp (pc_lt (pv 4) (pv 0))) pe_sx pe_sd) pa_nil)))
      (pss_one (ps_set (i := 4) scLawReckoned.nd rfl (Or.inl rfl) (pe_op op_mod (pe_op op_add (pv 4) (pv 0)) (pv 1))))))
      (pss_one (ps_ret (pe_join pe_s0 (pv 5))))))), ?_⟩
    refine q_asg (ev_op (ev_var rfl) (ev_var rfl) (rv_I (by walk_at "pos"))) fun H1 e1 => ?_
    refine q_asgL (el_lst ea_nil (by walk_at "sz")) fun l H2 hl e2 x2 => ?_
    have hl0 : H l = none := fresh_back e1 hl
    have e02 := e1.trans e2
    refine q_forR1 (ea_cons (ev_var rfl) ea_nil) ⟨h2, by omega⟩ (fun i σ' H' => ∃ z, σ' = [some (.int b), some (.int p), some (.int s), some (.int m), some (.int ((s + (i : Int) * b) % p)), some (.ref l), z] ∧ Ex H H' ∧ H' l = some (.lst ((reck b p s i).map fun c => V.str (enc [c]))))
      (fun H3 e3 => ⟨none, by
        rw [show s + ((0 : Nat) : Int) * b = s by simp]
        rfl, e02.trans e3, e3 _ _ x2⟩) (fun i σ' H' hi hp => ?_) (fun σ' H' hp => ?_)
    · obtain ⟨z, rfl, ex, hx⟩ := hp
      refine q_app hx (ev_var rfl) (ev_ifS (et_B (ev_cmp (ev_var rfl) (ev_var rfl))) ev_c ev_c) (by
        rw [List.length_map, reck_len]
        omega) fun H3 e3 => ?_
      refine s_asg (ev_op (ev_op (ev_var rfl) (ev_var rfl) rv_I0) (ev_var rfl) (rv_I (by walk_at "pos"))) fun H4 e4 => ?_
      refine ⟨some (.int (i : Int)), ?_, (Ex.mut (ex.trans e3) hl0).trans e4, e4 _ _ ?_⟩
      · rw [rest_succ]
        rfl
      · rw [upd_same, reck_succ, List.map_append]
        rfl
    · obtain ⟨z, rfl, ex, hx⟩ := hp
      have hz := reck_len b p s m.toNat
      exact s_ret (ev_join1L ev_c (ev_var rfl) (by walk_at "lst") (by walk_at "sz")) fun H3 e3 => k.go (ex.trans e3)
end
end Eb
/-! ### more readings -/
namespace Eb
open PySem PySem.Spec PyProof.Rows L2 TL Evl
section
variable {K : PySem.W.Frag} {σ : L2.St} {H H' : Hp} {ta tb tc te : TE} {x y z v : V} {bs cs : List Bool} {i j k : Int}
theorem rv_isB {a b : Bool} : RV rIsB (.bl a) (.bl b) H (.bl (decide (a = b))) := fun H1 _ _ q => ⟨a, b, rfl, rfl, q H1 (Ex.refl H1)⟩
theorem rv_notB {a b : Bool} : RV rNotB (.bl a) (.bl b) H (.bl (!decide (a = b))) := fun H1 _ _ q => ⟨a, b, rfl, rfl, q H1 (Ex.refl H1)⟩
theorem flat_ints : ∀ ns : List Int, (ns.map V.int).all flatV = true
  | [] => rfl
  | _ :: r => flat_ints r
theorem eqV_int {a b : Int} : eqV (.int a) (.int b) = (a == b) := rfl
theorem ev_idxL {p : Addr} {ns : List Int} (h : Ev ta σ H (.ref p)) (hb : Ev tb σ H (.int k)) (hx : SqL K H p (ns.map V.int)) (hk : k ∈ ns) : Ev (tBM K "list" (rIndex K) ta (tCons tb tNil)) σ H (.int (ns.idxOf k : Nat)) := fun H1 e Q q =>
  h H1 e _ fun H2 e2 => ⟨.inl ⟨rfl, _, ex_l (e.trans e2) hx⟩, hb H2 (e.trans e2) _ fun H3 e3 => ⟨p, ns.map V.int, .int k, ns.idxOf k, .int k, rfl, rfl, ex_l ((e.trans e2).trans e3) hx, rfl, flat_ints ns, by
    rw [List.getElem?_map, (idx_mem hk).2]
    rfl, by
    rw [eqV_int]
    exact beq_self_eq_true k, fun m z' hm hz => by
    rw [List.getElem?_map] at hz
    cases hq : ns[m]? with
    | none =>
      rw [hq] at hz
      cases hz
    | some w =>
      rw [hq] at hz
      have e3 : V.int w = z' := Option.some.inj hz
      subst e3
      rw [eqV_int]
      exact beq_eq_false_iff_ne.mpr (idx_first hm hq), q H3 (e2.trans e3)⟩⟩
variable {D : Ends} {tz : TS}
/-- xs[i] = a sign, xs a list of signs just made -/
theorem q_setSg {l : Addr} {b : Bool} (hl : H l = some (.lst (bs.map fun b => V.str (enc [b])))) (h : Ev te σ H (.str (enc [b]))) (ho : Ev ta σ H (.ref l)) (hi : Ev tb σ H (.int i)) (h0 : 0 ≤ i) (h1 : i < bs.length)
    (k : ∀ H1, (∀ H0, H0 l = none → Ex H0 H → Ex H0 H1) → H1 l = some (.lst ((bs.set i.toNat b).map fun b => V.str (enc [b]))) → tz D σ H1) : tSeq (tAsg te (gSub ta tb rSetL)) tz D σ H := by
  have e : i = (i.toNat : Int) := by omega
  rw [e] at hi
  refine q_setL hl h ho hi (by
    rw [List.length_map]
    omega) fun H1 e1 => k _ (fun H0 h0 e0 => Ex.mut (e0.trans e1) h0) ?_
  rw [upd_same, List.map_set]
end
end Eb
namespace Eb
open PySem PySem.Spec PyProof.Rows L2 TL Evl
abbrev sLawDrawn : Stmt := topS 13
theorem scLawDrawn : FnScope ["_law_script", "_law_many", "_law_mixed", "_law_kind", "_law_beats", "_law_ring", "_law_one", "_law_other", "_law_signs", "_law_cell"] ["_law_script"] (defScope sLawDrawn) := ⟨rfl, rfl, rfl, by decide +kernel, rfl, by decide +kernel, by decide +kernel⟩
def spLawDrawn (K : PySem.W.Frag) : Sp := fun vs H Q _ => ∃ (a : Addr) (ns : List Int), vs = [.ref a] ∧ SqL K H a (ns.map V.int) ∧ (0 < ns.length ∧ ns.length ≤ 63) ∧ ∀ (bs : List Bool) H2, bs.length = ns.length → Ex H H2 → Q (.str (enc bs)) H2
section
variable {P : Program} {w : World} {K : PySem.W.Frag} {mg : Str → Option Value} {base : Heap}
theorem ok__law_drawn (D : DefAt K mg "_law_drawn" sLawDrawn) (B : Bn mg) (c__law_reckoned : C8.Cal P w K mg base 1 "_law_reckoned" (spLawReckoned K) []) : C8.Cal P w K mg base 2 "_law_drawn" (spLawDrawn K) [] := by
  refine cal_of D (fun _ _ _ _ _ _ us hl => match us, hl with | [_], _ => rfl) scLawDrawn (fun vs H Q E h => ?_) (fun f cdv A outer s H vs Q E hr h => ?_)
  · obtain ⟨a, ns, rfl, _⟩ := h
    rfl
  · obtain ⟨a, ns, rfl, hS, ⟨h0, h1⟩, k⟩ := h
    refine ⟨_, (pss_cons (ps_set (i := 1) scLawDrawn.nd rfl (Or.inl rfl) (pe_callB call_len_seq (by rfl) B.len_ PySem.boot_len (pa_cons (pv 0) pa_nil)))
      (pss_cons (ps_set (i := 2) scLawDrawn.nd rfl (Or.inl rfl) (pe_callB (cr_sum rfl) (by rfl) B.sum_ (by decide +kernel) (pa_cons (pv 0) pa_nil)))
      (pss_cons (ps_set (i := 3) scLawDrawn.nd rfl (Or.inl rfl) (pe_op op_mod (pv 2) pe_int))
      (pss_cons (ps_if (pt_cmp (pc_eqI (pv 3) pe_int))
      (pss_one (ps_ret (pe_join pe_s0 (pe_lc (own := [("_law_cell", 9)]) (g := gName 9) rfl scLawDrawn.nd (pi_list (pv 0)) (blkOk_by (own := [("_law_cell", 9)]) (N := ["_law_script", "_law_many", "_law_mixed", "_law_kind", "_law_beats", "_law_ring", "_law_one", "_law_other", "_law_signs", "_law_cell"]) (sc := defScope sLawDrawn) (by decide +kernel)) (fun _ _ _ _ _ => (pg_name (i := 9) scLawDrawn.nd rfl (Or.inl rfl))) (fun _ _ _ _ _ => pts_nil) (fun _ _ _ _ _ => (pe_ix ix_str pe_sdx (pe_op op_mod (pv 9) pe_int) (fun _ _ => rfl)))))))
      pss_nil)
      (pss_cons (ps_set (i := 4) scLawDrawn.nd rfl (Or.inl rfl) (pe_op op_mod (pe_ix (ix_listK (K := K) rfl) (pv 0) (pe_op op_mod (pe_op op_fdiv (pv 2) pe_int) (pv 1)) (fun _ _ => rfl)) (pe_op op_add (pv 1) pe_int)))
      (pss_cons (ps_set (i := 5) scLawDrawn.nd rfl (Or.inl rfl) (C8.pe_c c__law_reckoned hr (by decide) (by rfl) (pa_cons (pv 4) (pa_cons (pv 1) (pa_cons (pe_op op_mul (pe_op op_fdiv (pv 2) pe_int) (pv 4)) (pa_cons (pv 1) pa_nil))))))
      (pss_cons (ps_set (i := 6) scLawDrawn.nd rfl (Or.inl rfl) (pe_op op_mod (pe_ix (ix_listK (K := K) rfl) (pv 0) pe_int (fun _ _ => rfl)) (pv 1)))
      (pss_cons (ps_set (i := 7) scLawDrawn.nd rfl (Or.inl rfl) (pe_op op_mod (pe_op op_fdiv (pe_ix (ix_listK (K := K) rfl) (pv 0) (pe_un un_neg pe_int) (fun _ _ => rfl)) pe_int) (pv 1)))
      (pss_cons (ps_if (pt_cmp (pc_eqI (pv 3) pe_int))
      (pss_cons (ps_set (i := 8) scLawDrawn.nd rfl (Or.inl rfl) (pe_callTy (call_listS rfl) (by rfl) B.list_ (by decide +kernel) (pa_cons (pv 5) pa_nil)))
      (pss_cons (ps_asg (pe_ix ix_str (pv 5) (pv 7) (fun _ _ => rfl)) (pg_sub (pv 8) (pv 6) set_list))
      (pss_cons (ps_asg (pe_ix ix_str (pv 5) (pv 6) (fun _ _ => rfl)) (pg_sub (pv 8) (pv 7) set_list))
      (pss_one (ps_ret (pe_join pe_s0 (pv 8)))))))
      pss_nil)
      (pss_cons (ps_if (pt_cmp (pc_eqI (pv 3) pe_int))
      (pss_one (ps_ret (pe_op op_add_str (pe_op op_add_str (pe_slice sl_str (pv 5) po_none (po_some (pv 6))) pe_sx) (pe_slice sl_str (pv 5) (po_some (pe_op op_add (pv 6) pe_int)) po_none))))
      pss_nil)
      (pss_one (ps_ret (pv 5))))))))))))), ?_⟩
    refine q_asg (ev_cb (ea_cons (ev_var rfl) ea_nil) (rc_lenLi (by walk_at "lst"))) fun H1 e1 => ?_
    replace hS := ex_l e1 hS
    refine q_asg (ev_cb (ea_cons (ev_var rfl) ea_nil) (rc_sum (by walk_at "lst"))) fun H2 e2 => ?_
    replace hS := ex_l e2 hS
    generalize ns.sum = m
    refine q_asg (ev_op (ev_var rfl) ev_c (rv_I (by walk_at "pos"))) fun H3 e3 => ?_
    replace hS := ex_l e3 hS
    have e03 := (e1.trans e2).trans e3
    refine q_when (et_B (ev_cmp (ev_var rfl) ev_c)) (fun hb H4 e4 => ?_) (fun hb H4 e4 => ?_)
    · replace hS := ex_l e4 hS
      refine s_ret (ev_join1N ev_c (el_mapL (ev_var rfl) (by walk_at "lst") (by walk_at "sz") (fun _ => rfl) (fun i9 H9 e9 h9 => Ev.mono e9 (ev_op ev_c (ev_op (ev_var rfl) ev_c (rv_I (by walk_at "pos"))) (rv_ixSm (by walk_at "sz") (by walk_at "pos") (by walk_at "ix"))))) (by walk_at "sz")) fun H5 e5 => k _ H5 ?_ ((e03.trans e4).trans e5)
      rw [List.length_map]
    · replace hS := ex_l e4 hS
      have e04 := e03.trans e4
      have i0 := Int.emod_nonneg (m / 5) (by omega : (ns.length : Int) ≠ 0)
      have i1 := Int.emod_lt_of_pos (m / 5) (by omega : (0 : Int) < ns.length)
      refine q_asg (ev_op (ev_op (ev_var rfl) (ev_op (ev_op (ev_var rfl) ev_c (rv_I (by walk_at "div"))) (ev_var rfl) (rv_I (by walk_at "pos"))) (rv_ixLmod (by walk_at "lst") (by walk_at "pos") (by walk_at "ix"))) (ev_op (ev_var rfl) ev_c rv_I0) (rv_I (by walk_at "pos"))) fun H5 e5 => ?_
      replace hS := ex_l e5 hS
      have b0 := Int.emod_nonneg (ns.getD (m / 5 % (ns.length : Int)).toNat 0) (by omega : (ns.length : Int) + 1 ≠ 0)
      have b1 := Int.emod_lt_of_pos (ns.getD (m / 5 % (ns.length : Int)).toNat 0) (by omega : (0 : Int) < (ns.length : Int) + 1)
      generalize ns.getD (m / 5 % (ns.length : Int)).toNat 0 % ((ns.length : Int) + 1) = b at b0 b1
      refine q_asg (ev_call (ea_cons (ev_var rfl) (ea_cons (ev_var rfl) (ea_cons (ev_op (ev_op (ev_var rfl) ev_c (rv_I (by walk_at "div"))) (ev_var rfl) (rv_I (by walk_at "mul"))) (ea_cons (ev_var rfl) ea_nil)))) (spv__law_reckoned (by walk_at "pre"))) fun H6 e6 => ?_
      replace hS := ex_l e6 hS
      have hrl := reck_len b (ns.length : Int) (m / 5 * b) ((ns.length : Nat) : Int).toNat
      rw [Int.toNat_natCast] at hrl
      rw [Int.toNat_natCast]
      generalize reck b (ns.length : Int) (m / 5 * b) ns.length = r at hrl
      refine q_asg (ev_op (ev_op (ev_var rfl) ev_c (rv_ixLg (by walk_at "lst") (by walk_at "ix") (by walk_at "ix"))) (ev_var rfl) (rv_I (by walk_at "pos"))) fun H7 e7 => ?_
      replace hS := ex_l e7 hS
      refine q_asg (ev_op (ev_op (ev_op (ev_var rfl) (ev_un ev_c ru_neg) (rv_ixLm (by walk_at "lst") (by walk_at "ix"))) ev_c (rv_I (by walk_at "div"))) (ev_var rfl) (rv_I (by walk_at "pos"))) fun H8 e8 => ?_
      have e08 := (((e04.trans e5).trans e6).trans e7).trans e8
      have o0 := Int.emod_nonneg (ns.getD (0 : Int).toNat 0) (by omega : (ns.length : Int) ≠ 0)
      have o1 := Int.emod_lt_of_pos (ns.getD (0 : Int).toNat 0) (by omega : (0 : Int) < ns.length)
      generalize ns.getD (0 : Int).toNat 0 % (ns.length : Int) = one at o0 o1
      have t0 := Int.emod_nonneg (ns.getLast?.getD 0 / 3) (by omega : (ns.length : Int) ≠ 0)
      have t1 := Int.emod_lt_of_pos (ns.getLast?.getD 0 / 3) (by omega : (0 : Int) < ns.length)
      generalize ns.getLast?.getD 0 / 3 % (ns.length : Int) = oth at t0 t1
      refine q_when (et_B (ev_cmp (ev_var rfl) ev_c)) (fun hb3 H9 e9 => ?_) (fun hb3 H9 e9 => ?_)
      · refine q_asgL (el_listS (ev_var rfl) (by walk_at "sz")) fun l H10 hl e10 x10 => ?_
        refine q_setSg x10 (ev_op (ev_var rfl) (ev_var rfl) (rv_ixSg (by walk_at "sz") (by walk_at "ix") (by walk_at "ix"))) (ev_var rfl) (ev_var rfl) o0 (by omega) fun H11 e11 x11 => ?_
        have hl2 : (r.set one.toNat (r.getD oth.toNat false)).length = ns.length := by
          rw [List.length_set]
          exact hrl
        refine q_setSg x11 (ev_op (ev_var rfl) (ev_var rfl) (rv_ixSg (by walk_at "sz") (by walk_at "ix") (by walk_at "ix"))) (ev_var rfl) (ev_var rfl) t0 (by omega) fun H12 e12 x12 => ?_
        have hl3 : ((r.set one.toNat (r.getD oth.toNat false)).set oth.toNat (r.getD one.toNat false)).length = ns.length := by
          rw [List.length_set]
          exact hl2
        refine s_ret (ev_join1L ev_c (ev_var rfl) (by walk_at "lst") (by walk_at "sz")) fun H13 e13 => k _ H13 hl3 ?_
        have hl0 : H l = none := fresh_back (e08.trans e9) hl
        exact (e12 H hl0 (e11 H hl0 ((e08.trans e9).trans e10))).trans e13
      · have c1 := cutL_len r none (some one)
        have c2 := cutL_len r (some (one + 1)) none
        refine q_when (et_B (ev_cmp (ev_var rfl) ev_c)) (fun hb4 H10 e10 => ?_) (fun hb4 H10 e10 => ?_)
        · refine s_ret (ev_op (ev_op (ev_slS (ev_var rfl) eo_none (eo_some (ev_var rfl)) (by walk_at "sz")) ev_c (rv_catS (by walk_at "sz") (by walk_at "sz"))) (ev_slS (ev_var rfl) (eo_some (ev_op (ev_var rfl) ev_c rv_I0)) eo_none (by walk_at "sz")) (rv_catS (by walk_at "sz") (by walk_at "sz"))) fun H11 e11 => k _ H11 ?_ (((e08.trans e9).trans e10).trans e11)
          obtain ⟨o, rfl⟩ := Int.eq_ofNat_of_zero_le o0
          rw [show ((o : Int) + 1) = ((o + 1 : Nat) : Int) by omega, cutL_to, cutL_from, List.length_append, List.length_append, List.length_take, List.length_drop, List.length_singleton]
          omega
        · exact s_ret (ev_var rfl) fun H11 e11 => k _ H11 hrl (((e08.trans e9).trans e10).trans e11)
end
end Eb
namespace Eb
open PySem PySem.Spec PyProof.Rows L2 TL Evl
abbrev sLawMore : Stmt := topS 15
theorem scLawMore : FnScope ["_law_row", "_law_first", "_law_second", "_law_many", "_law_mine"] ["_law_row", "_law_first", "_law_second", "_law_many"] (defScope sLawMore) := ⟨rfl, rfl, rfl, by decide +kernel, rfl, by decide +kernel, by decide +kernel⟩
def spLawMore (_ : PySem.W.Frag) : Sp := fun vs H Q _ => ∃ (bs : List Bool) (f s m : Int), vs = [.str (enc bs), .int f, .int s, .int m] ∧ bs.length ≤ 1000 ∧ RetV (.bl (mbt bs f s m)) H Q
theorem spv__law_more {K : PySem.W.Frag} {H : Hp} {bs : List Bool} {f s m : Int} (h : bs.length ≤ 1000) : SpV (spLawMore K) [.str (enc bs), .int f, .int s, .int m] H (.bl (mbt bs f s m)) := fun _ _ _ q _ => ⟨bs, f, s, m, rfl, h, q⟩
section
variable {P : Program} {w : World} {K : PySem.W.Frag} {mg : Str → Option Value} {base : Heap}
theorem ok__law_more (D : DefAt K mg "_law_more" sLawMore) : C8.Cal P w K mg base 1 "_law_more" (spLawMore K) [] := by
  refine cal_of D (fun _ _ _ _ _ _ us hl => match us, hl with | [_, _, _, _], _ => rfl) scLawMore (fun vs H Q E h => ?_) (fun f cdv A outer s H vs Q E hr h => ?_)
  · obtain ⟨bs, f, s, m, rfl, _⟩ := h
    rfl
  · obtain ⟨bs, f, s, m, rfl, h1, k⟩ := h
    refine ⟨_, (pss_cons (ps_set (i := 4) scLawMore.nd rfl (Or.inl rfl) (pe_m1 PySem.F.slot_str_count PySem.F.type_str_count mt_count (pe_slice sl_str (pv 0) (po_some (pv 1)) (po_some (pe_op op_add (pv 1) (pv 3)))) pe_sx))
      (pss_one (ps_ret (pe_cmp (pc_ge (pv 4) (pe_op op_add (pe_m1 PySem.F.slot_str_count PySem.F.type_str_count mt_count (pe_slice sl_str (pv 0) (po_some (pv 2)) (po_some (pe_op op_add (pv 2) (pv 3)))) pe_sx) pe_int)))))), ?_⟩
    refine q_asg (ev_cntS (ev_slS (ev_var rfl) (eo_some (ev_var rfl)) (eo_some (ev_op (ev_var rfl) (ev_var rfl) rv_I0)) (by walk_at "sz")) ev_c) fun H1 e1 => ?_
    exact s_ret (ev_cmp (ev_var rfl) (ev_op (ev_cntS (ev_slS (ev_var rfl) (eo_some (ev_var rfl)) (eo_some (ev_op (ev_var rfl) (ev_var rfl) rv_I0)) (by walk_at "sz")) ev_c) ev_c rv_I0)) fun H2 e2 => k.go (e1.trans e2)
end
end Eb
namespace Eb
open PySem PySem.Spec PyProof.Rows L2 TL Evl
abbrev sLawSays : Stmt := topS 14
theorem scLawSays : FnScope ["_law_said", "_law_due"] ["_law_said", "_law_due"] (defScope sLawSays) := ⟨rfl, rfl, rfl, by decide +kernel, rfl, by decide +kernel, by decide +kernel⟩
def spLawSays (_ : PySem.W.Frag) : Sp := fun vs H Q _ => ∃ a b : Bool, vs = [.bl a, .bl b] ∧ True ∧ RetV (.bl (a == b)) H Q
theorem spv__law_says {K : PySem.W.Frag} {H : Hp} {a b : Bool} (h : True) : SpV (spLawSays K) [.bl a, .bl b] H (.bl (a == b)) := fun _ _ _ q _ => ⟨a, b, rfl, h, q⟩
section
variable {P : Program} {w : World} {K : PySem.W.Frag} {mg : Str → Option Value} {base : Heap}
theorem ok__law_says (D : DefAt K mg "_law_says" sLawSays) (B : Bn mg) : C8.Cal P w K mg base 1 "_law_says" (spLawSays K) [] := by
  refine cal_of D (fun _ _ _ _ _ _ us hl => match us, hl with | [_, _], _ => rfl) scLawSays (fun vs H Q E h => ?_) (fun f cdv A outer s H vs Q E hr h => ?_)
  · obtain ⟨a, b, rfl, _⟩ := h
    rfl
  · obtain ⟨a, b, rfl, _, k⟩ := h
    refine ⟨_, (pss_one (ps_ret (pe_and (pe_callB (call_isiK1 (K := K) rfl) (by rfl) B.isinstance_ (by decide +kernel) (pa_cons (pv 0) (pa_cons (pe_bltn (v := .ty "bool") (by rfl) B.bool_ (by decide +kernel) rfl) pa_nil))) (pe_one (pe_cmpR op_eq (pv 0) (pv 1) (nomark _)))))), ?_⟩
    exact s_ret (ev_eq (ev_andV (ev_cb (ea_cons (ev_var rfl) (ea_cons ev_c ea_nil)) (rc_isiB (b := true) (by decide +kernel))) (fun hb => (ev_op (ev_var rfl) (ev_var rfl) rv_eqB))) (by rw [Bool.true_and])) k
end
end Eb
/-! ### == of lists of numbers, of truth values, of rows -/
namespace Eb
open PySem PySem.Spec PyProof.Rows L2 TL Evl
structure FlatE {α : Type} [DecidableEq α] (f : α → V) (g : α → PyData) : Prop where
  dp : ∀ (K : PySem.W.Frag) (H : Hp) (a : α), Dp K H (f a) (g a)
  can : ∀ a, (g a).canLay0 = true
  dep : ∀ a, (g a).depth = 0
  eq : ∀ a b, PyData.eqv (g a) (g b) = decide (a = b)
theorem fe_int : FlatE V.int PyData.int := ⟨fun _ _ a => .int a, fun a => by rw [PyData.canLay0], fun a => by rw [PyData.depth], fun a b => by
  rw [PyData.eqv]
  rfl⟩
theorem fe_bool : FlatE V.bl PyData.bool := ⟨fun _ _ a => .bl a, fun a => by rw [PyData.canLay0], fun a => by rw [PyData.depth], fun a b => by
  rw [PyData.eqv]
  cases a <;> cases b <;> rfl⟩
theorem strok_enc (bs : List Bool) : PyData.strOk (enc bs) = true := by
  unfold PyData.strOk
  rw [← Array.all_toList, cps_enc, List.all_eq_true]
  intro c hc
  obtain ⟨b, _, rfl⟩ := List.mem_map.mp hc
  cases b <;> decide
theorem fe_row : FlatE (fun l : List Bool => V.str (enc l)) (fun l => PyData.str (enc l)) := ⟨fun _ _ a => .str _, fun a => by
  rw [PyData.canLay0]
  exact strok_enc a, fun a => by rw [PyData.depth], fun a b => by
  rw [PyData.eqv]
  by_cases h : a = b
  · subst h
    rw [decide_eq_true rfl]
    exact beq_self_eq_true _
  · rw [decide_eq_false h]
    exact beq_eq_false_iff_ne.mpr fun q => h (enc_inj q)⟩
section
variable {α : Type} [DecidableEq α] {f : α → V} {g : α → PyData} {K : PySem.W.Frag} {σ : L2.St} {H : Hp} {ta tb : TE}
theorem FlatE.all (F : FlatE f g) : ∀ xs : List α, DpAll K H (xs.map f) (xs.map g)
  | [] => .nil
  | a :: r => .cons (F.dp K H a) (F.all r)
theorem FlatE.canAll (F : FlatE f g) : ∀ xs : List α, PyData.canLayAll0 (xs.map g) = true
  | [] => by rw [List.map_nil, PyData.canLayAll0]
  | a :: r => by
    rw [List.map_cons, PyData.canLayAll0, F.can a, F.canAll r]
    rfl
theorem FlatE.depAll (F : FlatE f g) : ∀ xs : List α, PyData.depthAll (xs.map g) = 0
  | [] => by rw [List.map_nil, PyData.depthAll]
  | a :: r => by
    rw [List.map_cons, PyData.depthAll, F.dep a, F.depAll r]
    rfl
theorem FlatE.eqAll (F : FlatE f g) : ∀ xs ys : List α, PyData.eqvAll (xs.map g) (ys.map g) = decide (xs = ys)
  | [], [] => by
    rw [List.map_nil, PyData.eqvAll]
    rfl
  | [], _ :: _ => by
    rw [List.map_nil, List.map_cons, PyData.eqvAll]
    rfl
  | _ :: _, [] => by
    rw [List.map_nil, List.map_cons, PyData.eqvAll]
    rfl
  | a :: r, b :: t => by
    rw [List.map_cons, List.map_cons, PyData.eqvAll, F.eq a b, F.eqAll r t]
    by_cases h1 : a = b
    · subst h1
      by_cases h2 : r = t
      · subst h2
        simp
      · simp [h2]
    · simp [h1]
theorem FlatE.shapedL (F : FlatE f g) (xs : List α) : SeqAt.shaped (.list (xs.map g)) = true := by
  unfold SeqAt.shaped
  rw [PyData.canLay0, F.canAll xs, PyData.depth, F.depAll xs]
  rfl
theorem FlatE.shapedT (F : FlatE f g) (xs : List α) : SeqAt.shaped (.tuple (xs.map g)) = true := by
  unfold SeqAt.shaped
  rw [PyData.canLay0, F.canAll xs, PyData.depth, F.depAll xs]
  rfl
theorem rv_eqLst (F : FlatE f g) {p q : Addr} {xs ys : List α} (hx : SqL K H p (xs.map f)) (hy : SqL K H q (ys.map f)) : RV (rEqD K) (.ref p) (.ref q) H (.bl (decide (xs = ys))) := fun H1 e _ k =>
  ⟨.list (xs.map g), .list (ys.map g), .lst (ex_l e hx) (F.all xs), .lst (ex_l e hy) (F.all ys), F.shapedL xs, F.shapedL ys, by
    rw [PyData.eqv, F.eqAll]
    exact k H1 (Ex.refl H1)⟩
theorem rv_neLst (F : FlatE f g) {p q : Addr} {xs ys : List α} (hx : SqL K H p (xs.map f)) (hy : SqL K H q (ys.map f)) : RV (rNeD K) (.ref p) (.ref q) H (.bl (!decide (xs = ys))) := fun H1 e _ k =>
  ⟨.list (xs.map g), .list (ys.map g), .lst (ex_l e hx) (F.all xs), .lst (ex_l e hy) (F.all ys), F.shapedL xs, F.shapedL ys, by
    rw [PyData.eqv, F.eqAll]
    exact k H1 (Ex.refl H1)⟩
theorem rv_eqTup (F : FlatE f g) {p q : Addr} {xs ys : List α} (hx : SqT K H p (xs.map f)) (hy : SqT K H q (ys.map f)) : RV (rEqD K) (.ref p) (.ref q) H (.bl (decide (xs = ys))) := fun H1 e _ k =>
  ⟨.tuple (xs.map g), .tuple (ys.map g), .tup (ex_t e hx) (F.all xs), .tup (ex_t e hy) (F.all ys), F.shapedT xs, F.shapedT ys, by
    rw [PyData.eqv, F.eqAll]
    exact k H1 (Ex.refl H1)⟩
theorem rv_neTup (F : FlatE f g) {p q : Addr} {xs ys : List α} (hx : SqT K H p (xs.map f)) (hy : SqT K H q (ys.map f)) : RV (rNeD K) (.ref p) (.ref q) H (.bl (!decide (xs = ys))) := fun H1 e _ k =>
  ⟨.tuple (xs.map g), .tuple (ys.map g), .tup (ex_t e hx) (F.all xs), .tup (ex_t e hy) (F.all ys), F.shapedT xs, F.shapedT ys, by
    rw [PyData.eqv, F.eqAll]
    exact k H1 (Ex.refl H1)⟩
end
/-- xs == [] -/
theorem ev_eqLE {K : PySem.W.Frag} {σ : L2.St} {H : Hp} {ta : TE} {p : Addr} {ns : List Int} (h : Ev ta σ H (.ref p)) (hx : SqL K H p (ns.map V.int)) : Ev (tOp (rEqD K) ta (tLst tNil)) σ H (.bl (decide (ns = []))) :=
  ev_opL h (el_lst ea_nil (by decide)) fun q H1 hq e => rv_eqLst fe_int (ex_l e hx) (ys := []) (sq_of hq)
end Eb
/-! ### lists sliced by a step; lists of numbers that are known by kind alone; ranges with a step; tuples of three -/
namespace Eb
open PySem PySem.Spec PyProof.Rows L2 TL Evl
def tStepL (K : PySem.W.Frag) (te : TE) (tl ts : TO) : TE := fun σ H Q => te σ H fun x H1 => tl σ H1 fun _ H2 => ts σ H2 fun st H3 => st ≠ some 0 ∧ ∃ (a : Addr) (ns : List Int), x = .ref a ∧ SqL K H3 a (ns.map V.int) ∧ ∀ (ms : List Int) p, ms.length ≤ ns.length → H3 p = none → Q (.ref p) (upd H3 p (.lst (ms.map V.int)))
theorem pick_ints {ns : List Int} {its : List Value} (r : Vals (ns.map V.int) its) : ∀ js : List Nat, ∃ ms : List Int, Vals (ms.map V.int) (js.filterMap (its.toArray[·]?))
  | [] => ⟨[], .nil⟩
  | j :: js => by
    obtain ⟨ms, h⟩ := pick_ints r js
    rw [List.filterMap_cons]
    have e : its.toArray[j]? = its[j]? := by simp
    rw [e]
    cases hj : ns[j]? with
    | none =>
      have : its[j]? = none := by
        rw [List.getElem?_eq_none_iff] at hj ⊢
        have := r.length
        rw [List.length_map] at this
        omega
      rw [this]
      exact ⟨ms, h⟩
    | some n =>
      obtain ⟨u, hu, ru⟩ := r.get (i := j) (x := V.int n) (by
        rw [List.getElem?_map, hj]
        rfl)
      rw [hu]
      exact ⟨n :: ms, .cons ru h⟩
theorem pe_stepL {X : Cx} {e : Expr} {i j : Int} {k1 k2 : Nat} {p1 p2 : Pos} {te tl ts : TE} {p3 pos : Pos} (he : PE X e te) (hl : PE X (.Constant (.int i) k1 p1) tl) (hs : PE X (.Constant (.int j) k2 p2) ts) : PE X (.Subscript e (.Slice (some (.Constant (.int i) k1 p1)) none (some (.Constant (.int j) k2 p2)) p3) pos) (tStepL X.K te (tPart tl) (tPart ts)) := by
  refine ⟨fun pins s σ H Q I h => ?_⟩
  refine Subscript_ (thn (he.run pins s σ H _ I h) fun v s1 ⟨x, H1, I1, r1, q1⟩ => ?_)
  have hlo : PO X (some (.Constant (.int i) k1 p1)) (tPart tl) := po_some hl
  have hst : PO X (some (.Constant (.int j) k2 p2)) (tPart ts) := po_some hs
  refine wpAny_Slice (thn (hlo.run pins s1 σ H1 _ I1 q1) fun vl s2 ⟨l, H2, I2, pl, q2⟩ => ?_)
  refine thn (po_none.run pins s2 σ H2 (fun o H3 => o = none ∧ H3 = H2) I2 ⟨rfl, rfl⟩) fun vu s3 ⟨u, H3, I3, pu, eu, e3⟩ => ?_
  subst eu e3
  refine thn (hst.run pins s3 σ _ _ I3 q2) fun vs s4 ⟨sv, H4, I4, ps, q4⟩ => ?_
  obtain ⟨hne, a, ns, rfl, hx, q⟩ := q4
  cases r1
  have I5 : Inv X pins σ H4 { s4 with heap := s4.heap.push { cls := .type "slice", data := .fields #[vl, vu, vs] } } := I4.kept (t' := s4.toks) fun b ob q => Heap.get?_push_of_some _ q
  obtain ⟨its, r, ht, hz⟩ := I5.list hx
  have hlen := r.length
  show wpAny (model X.prog X.w) X.A (subscriptTail e (.Slice (some (.Constant (.int i) k1 p1)) none (some (.Constant (.int j) k2 p2)) p3) (.ref a) (.ref s4.heap.objs.size)) (EP X pins σ Q) X.xe _
  refine tail_any (ops := [.ref a, .ref s4.heap.objs.size]) ht.isList.typeIs slot_list_getitem.lookup ?_ (by with_unfolding_all rfl)
  refine wpAny_getItem_list_slice ht.isList ⟨_, Heap.get?_push_size _ rfl, rfl, rfl⟩ pl pu ps hne ?_ (by rw [List.size_toArray] <;> omega)
  have hsz := slicePick_size_le its.toArray l none sv
  have e : slicePick its.toArray l none sv = ((sliceRange (sliceBounds l none sv its.toArray.size).1 (sliceBounds l none sv its.toArray.size).2.1 (sliceBounds l none sv its.toArray.size).2.2).filterMap (its.toArray[·]?)).toArray := rfl
  rw [e] at hsz ⊢
  generalize sliceRange (sliceBounds l none sv its.toArray.size).1 (sliceBounds l none sv its.toArray.size).2.1 (sliceBounds l none sv its.toArray.size).2.2 = js at hsz ⊢
  obtain ⟨ms, hm⟩ := pick_ints r js
  have hml := hm.length
  rw [List.size_toArray, List.size_toArray] at hsz
  rw [List.length_map] at hml hlen
  refine ⟨.ref _, _, I5.laid (t' := s4.toks) (o := .lst (ms.map V.int)) (fun b ob q => Heap.get?_push_of_some _ q) (Nat.le_refl _) ?_, rfl, q ms _ (by omega) (I5.hok.fresh (Nat.le_refl _))⟩
  exact ⟨by rw [List.length_map] at hz ⊢; omega, _, 0, hm, Heap.get?_push_size _ rfl⟩
/-- a new list of numbers, so many at most -/
def EvLs (te : TE) (σ : L2.St) (H : Hp) (n : Nat) : Prop := ∀ H1, Ex H H1 → ∀ Q : VK, (∀ p (ms : List Int) H2, H1 p = none → Ex H1 H2 → ms.length ≤ n → H2 p = some (.lst (ms.map V.int)) → Q (.ref p) H2) → te σ H1 Q
/-- a new list of triples of numbers -/
def EvLt (K : PySem.W.Frag) (te : TE) (σ : L2.St) (H : Hp) : Prop := ∀ H1, Ex H H1 → ∀ Q : VK, (∀ p (vs : List V) H2, H1 p = none → Ex H1 H2 → (∀ v ∈ vs, ∃ (q : Addr) (a b c : Int), v = .ref q ∧ SqT K H2 q [.int a, .int b, .int c]) → H2 p = some (.lst vs) → Q (.ref p) H2) → te σ H1 Q
section
variable {K : PySem.W.Frag} {σ : L2.St} {H H' : Hp} {ta tb tc te : TE} {x y z v : V} {D : Ends} {tz tu : TS}
theorem els_step {te tl ts : TE} {a : Addr} {ns : List Int} {l s : Int} (h : Ev te σ H (.ref a)) (hx : SqL K H a (ns.map V.int)) (hl : Ev tl σ H (.int l)) (hs : Ev ts σ H (.int s)) (h0 : s ≠ 0) : EvLs (tStepL K te (tPart tl) (tPart ts)) σ H ns.length := fun H1 e Q q =>
  h H1 e _ fun H2 e2 => hl H2 (e.trans e2) _ fun H3 e3 => ⟨l, rfl, hs H3 ((e.trans e2).trans e3) _ fun H4 e4 => ⟨s, rfl, fun c => h0 (Option.some.inj c), a, ns, rfl, ex_l (((e.trans e2).trans e3).trans e4) hx, fun ms p hm hp =>
    q p ms _ (fresh_back ((e2.trans e3).trans e4) hp) (((e2.trans e3).trans e4).trans (Ex.new hp)) hm upd_same⟩⟩
theorem els_cat {ns : List Int} {n : Nat} (h1 : EvL ta σ H (cutV (ns.map V.int) none (some 8))) (h2 : EvLs tb σ H n) (hz : ns.length + n ≤ 10000) : EvLs (tOp rCat ta tb) σ H (ns.length + n) := fun H1 e Q q =>
  h1 H1 e _ fun p H2 hp e2 x2 => h2 H2 (e.trans e2) _ fun r ms H3 hr e3 hm x3 => ⟨p, r, _, _, rfl, rfl, e3 _ _ x2, x3, by
    have h4 := cutV_length (ns.map V.int) none (some 8)
    rw [List.length_map] at h4 ⊢
    have : sizeLine = 16777216 := sizeLine_eq
    omega, fun l hl => by
    obtain ⟨ks, hk1, hk2⟩ : ∃ ks : List Int, cutV (ns.map V.int) none (some 8) = ks.map V.int ∧ ks.length ≤ ns.length := by
      unfold cutV
      rw [← List.map_drop, ← List.map_take]
      refine ⟨_, rfl, ?_⟩
      rw [List.length_take, List.length_drop]
      omega
    rw [hk1, ← List.map_append]
    refine q l (ks ++ ms) _ (fresh_back (e2.trans e3) hl) ((e2.trans e3).trans (Ex.new hl)) ?_ upd_same
    rw [List.length_append]
    omega⟩
theorem q_forInts {tl : TE} {j n : Nat} (h : EvLs tl σ H n) (Pv : L2.St → Prop) (h0 : Pv σ) (hs : ∀ (c : Int) σ' H1 H', Ex H H1 → Ex H1 H' → Pv σ' → tu { D with nx := fun σ'' H'' => Pv σ'' ∧ Ex H1 H'', ct := fun σ'' H'' => Pv σ'' ∧ Ex H1 H'', bk := tz D } (σ'.set j (some (.int c))) H')
    (hd : ∀ σ' H', Ex H H' → Pv σ' → tz D σ' H') : tSeq (tFor (iList K tl) (gName j) tu) tz D σ H :=
  h H (Ex.refl H) _ fun p ms H1 hp e _ x => ⟨p, rfl, ⟨_, sq_of x⟩, for_list (D := { D with nx := tz D }) (xs := ms.map V.int) (fun i σ' H' => Pv σ' ∧ Ex H1 H') ⟨h0, Ex.refl _⟩ (fun i σ' H' _ hp => ex_l hp.2 (sq_of x)) (fun i y σ' H' hi hp => by
    rw [List.getElem?_map] at hi
    cases hq : ms[i]? with
    | none =>
      rw [hq] at hi
      cases hi
    | some c =>
      rw [hq] at hi
      have e2 : V.int c = y := Option.some.inj hi
      subst e2
      exact hs c σ' H1 H' e hp.2 hp.1) (fun σ' H' hp => hd σ' H' (e.trans hp.2) hp.1)⟩
theorem elt_4 {A1 A3 A4 : TA} {q : Addr} {a1 b1 c1 a2 b2 c2 a3 b3 c3 a4 b4 c4 : Int} (h1 : EvA A1 σ H [.int a1, .int b1, .int c1]) (h2 : Ev tb σ H (.ref q)) (hq : SqT K H q [.int a2, .int b2, .int c2]) (h3 : EvA A3 σ H [.int a3, .int b3, .int c3]) (h4 : EvA A4 σ H [.int a4, .int b4, .int c4]) :
    EvLt K (tLst (tCons (tTup A1) (tCons tb (tCons (tTup A3) (tCons (tTup A4) tNil))))) σ H := by
  intro H1 e Q k
  unfold tLst tCons
  refine eu_tup h1 (by simp) H1 e _ fun p1 H2 _ e2 x1 => ?_
  refine h2 H2 (e.trans e2) _ fun H3 e3 => ?_
  refine eu_tup h3 (by simp) H3 ((e.trans e2).trans e3) _ fun p3 H4 _ e4 x3 => ?_
  refine eu_tup h4 (by simp) H4 (((e.trans e2).trans e3).trans e4) _ fun p4 H5 _ e5 x4 => ?_
  refine ⟨by simp [sizeLine_eq], fun p hp => ?_⟩
  have e15 := ((e2.trans e3).trans e4).trans e5
  have ee := Ex.new hp (o := .lst [.ref p1, .ref q, .ref p3, .ref p4])
  refine k p _ _ (fresh_back e15 hp) (e15.trans ee) (fun v hv => ?_) upd_same
  simp only [List.mem_cons, List.not_mem_nil, or_false] at hv
  rcases hv with rfl | rfl | rfl | rfl
  · exact ⟨p1, _, _, _, rfl, ex_t (((e3.trans e4).trans e5).trans ee) (st_of x1)⟩
  · exact ⟨q, _, _, _, rfl, ex_t ((e.trans e15).trans ee) hq⟩
  · exact ⟨p3, _, _, _, rfl, ex_t (e5.trans ee) (st_of x3)⟩
  · exact ⟨p4, _, _, _, rfl, ex_t ee (st_of x4)⟩
theorem q_forTups {tl : TE} {j : Nat} (h : EvLt K tl σ H) (Pv : L2.St → Prop) (h0 : Pv σ) (hs : ∀ (q : Addr) (a b c : Int) σ' H1 H', Ex H H1 → Ex H1 H' → Pv σ' → SqT K H' q [.int a, .int b, .int c] → tu { D with nx := fun σ'' H'' => Pv σ'' ∧ Ex H1 H'', ct := fun σ'' H'' => Pv σ'' ∧ Ex H1 H'', bk := tz D } (σ'.set j (some (.ref q))) H')
    (hd : ∀ σ' H', Ex H H' → Pv σ' → tz D σ' H') : tSeq (tFor (iList K tl) (gName j) tu) tz D σ H :=
  h H (Ex.refl H) _ fun p vs H1 hp e hv x => ⟨p, rfl, ⟨_, sq_of x⟩, for_list (D := { D with nx := tz D }) (xs := vs) (fun i σ' H' => Pv σ' ∧ Ex H1 H') ⟨h0, Ex.refl _⟩ (fun i σ' H' _ hp => ex_l hp.2 (sq_of x)) (fun i y σ' H' hi hp => by
    obtain ⟨q, a, b, c, rfl, hT⟩ := hv y (List.mem_of_getElem? hi)
    exact hs q a b c σ' H1 H' e hp.2 hp.1 (ex_t hp.2 hT)) (fun σ' H' hp => hd σ' H' (e.trans hp.2) hp.1)⟩
theorem rg_up {n c : Int} (h0 : 0 ≤ n) (h1 : n ≤ 1000) (h2 : 1 ≤ c) (h3 : c ≤ 1000) : RgC 0 n c (Builtin.Range.rangeSize 0 n c).toNat := by
  refine ⟨by omega, by omega, ?_, rangeSize_toNat 0 n c⟩
  have r1 := rangeSize_toNat 0 n c
  have r2 := rangeSize_toNat_le 0 n c
  unfold Builtin.Range.small
  generalize Builtin.Range.rangeSize 0 n c = r at r1 r2
  simp only [Builtin.Range.rangeFitsLong, Bool.and_eq_true, Bool.or_eq_true, decide_eq_true_eq, beq_iff_eq, show c > 0 by omega, if_true]
  omega
theorem q_forR3 {t : TA} {j : Nat} {n c : Int} (h : EvA t σ H [.int 0, .int n, .int c]) (hn : (0 ≤ n ∧ n ≤ 1000) ∧ 1 ≤ c ∧ c ≤ 1000) (Pv : L2.St → Hp → Prop) (h0 : ∀ H1, Ex H H1 → Pv σ H1) (hs : ∀ (i : Int) σ' H', 0 ≤ i → i < n → Pv σ' H' → tu { D with nx := Pv, ct := Pv, bk := tz D } (σ'.set j (some (.int i))) H')
    (hd : ∀ σ' H', Pv σ' H' → tz D σ' H') : tSeq (tFor (iRng3 t) (gName j) tu) tz D σ H :=
  h H (Ex.refl H) _ fun H1 e => ⟨0, n, c, _, rfl, rg_up hn.1.1 hn.1.2 hn.2.1 hn.2.2, for_rangeC (D := { D with nx := tz D }) (fun _ => Pv) (h0 H1 e) (fun i σ' H' hi hp => by
    have g := start_inside (len := n) (c := c) (v := (i : Int)) hn.2.1 hn.1.1 (by omega) (by
      have := rangeSize_toNat 0 n c
      omega)
    exact hs (0 + (i : Int) * c) σ' H' (by omega) (by omega) hp) hd⟩
/-- (a, b, c) != (x, y, z); a tuple that stands -/
theorem ev_neT3 {t u : TA} {a b c a' b' c' : Int} (h : EvA t σ H [.int a, .int b, .int c]) (k : EvA u σ H [.int a', .int b', .int c']) : Ev (tOp (rNeD K) (tTup t) (tTup u)) σ H (.bl (!decide ([a, b, c] = [a', b', c']))) :=
  ev_opUU (eu_tup h (by simp)) (eu_tup k (by simp)) fun p q H1 hp hq _ => rv_neTup fe_int (xs := [a, b, c]) (ys := [a', b', c']) (st_of hp) (st_of hq)
theorem ev_neT3v {t : TA} {q : Addr} {a b c a' b' c' : Int} (h : EvA t σ H [.int a, .int b, .int c]) (k : Ev tb σ H (.ref q)) (hq : SqT K H q [.int a', .int b', .int c']) : Ev (tOp (rNeD K) (tTup t) tb) σ H (.bl (!decide ([a, b, c] = [a', b', c']))) := fun H1 e Q w =>
  eu_tup h (by simp) H1 e _ fun p H2 _ e2 x2 => k H2 (e.trans e2) _ fun H3 e3 => rv_neTup fe_int (K := K) (xs := [a, b, c]) (ys := [a', b', c']) (st_of (e3 _ _ x2)) (ex_t ((e.trans e2).trans e3) hq) H3 (Ex.refl H3) Q fun H4 e4 => w H4 ((e2.trans e3).trans e4)
/-- C(..).m(..) -/
theorem ev_methN {C : Addr} {m : Str} {sp : Sp} {E : XK} {t : TA} {us : List V} {fs : List (Str × V)} (h : EvN ta σ H C fs) (hl : fs.lookup m = none) (hu : EvA t σ H us) (hs : ∀ (a dx : Addr) H1, H1 a = some (.ins C dx fs) → SpV sp (.ref a :: us) H1 z) : Ev (tMeth C m sp [] E ta t) σ H z := fun H1 e Q q =>
  h H1 e _ fun a dx H2 ha e2 x2 => ⟨a, dx, fs, rfl, x2, hl, hu H2 (e.trans e2) _ fun H3 e3 => by
    rw [List.append_nil]
    exact hs a dx H3 (e3 _ _ x2) H3 (Ex.refl H3) Q (fun H4 e4 => q H4 ((e2.trans e3).trans e4)) E⟩
/-- f(a, b, (..)) -/
theorem ev_call3U {sp : Sp} {E : XK} {us : List V} (h1 : Ev ta σ H x) (h2 : Ev tb σ H y) (h3 : EvU tc σ H us) (hs : ∀ p H1, H1 p = some (.tup us) → SpV sp [x, y, .ref p] H1 z) : Ev (tCall sp [] E (tCons ta (tCons tb (tCons tc tNil)))) σ H z := fun H1 e Q q =>
  h1 H1 e _ fun H2 e2 => h2 H2 (e.trans e2) _ fun H3 e3 => h3 H3 ((e.trans e2).trans e3) _ fun p H4 _ e4 x4 => hs p H4 x4 H4 (Ex.refl H4) Q (fun H5 e5 => q H5 (((e2.trans e3).trans e4).trans e5)) E
end
end Eb
namespace Eb
open PySem PySem.Spec PyProof.Rows L2 TL Evl
abbrev sLawRingRight : Stmt := topS 16
theorem scLawRingRight : FnScope ["_law_ring", "_law_cell", "_law_many", "_law_turn", "_law_due", "_law_answer", "_law_first", "_law_second", "_law_wide"] ["_law_ring", "_law_cell"] (defScope sLawRingRight) := ⟨rfl, rfl, rfl, by decide +kernel, rfl, by decide +kernel, by decide +kernel⟩
def spLawRingRightC (_ _ : Addr) : Sp := fun vs H Q _ => ∃ (bs : List Bool) (c : Int), vs = [.str (enc bs), .int c] ∧ (0 < bs.length ∧ bs.length ≤ 63) ∧ RetV (.bl true) H Q
theorem spv__law_ring_right {a b : Addr} {H : Hp} {bs : List Bool} {c : Int} (h : 0 < bs.length ∧ bs.length ≤ 63) : SpV (spLawRingRightC a b) [.str (enc bs), .int c] H (.bl true) := fun _ _ _ q _ => ⟨bs, c, rfl, h, q⟩
section
variable {P : Program} {w : World} {K : PySem.W.Frag} {mg : Str → Option Value} {base : Heap}
variable {cAnswer cEven cApart cBegun cParted : Addr}
theorem ok__law_ring_right (D : DefAt K mg "_law_ring_right" sLawRingRight) (Z : Cz K mg cAnswer cEven cApart cBegun cParted) (B : Bn mg) (c__law_reckoned : C8.Cal P w K mg base 1 "_law_reckoned" (spLawReckoned K) []) (c__law_says : C8.Cal P w K mg base 1 "_law_says" (spLawSays K) []) (c__law_more : C8.Cal P w K mg base 1 "_law_more" (spLawMore K) []) (k_Even : C8.Mak P w K mg base 1 "Even" cEven (spI cEven ["turn"]) []) (k_Apart : C8.Mak P w K mg base 1 "Apart" cApart (spI cApart ["first", "second", "many"]) []) (m_Even_shows : C8.Met P w K mg base 2 cEven "shows" (spEvenShows cEven) []) (m_Apart_shows : C8.Met P w K mg base 2 cApart "shows" (spApartShows cApart) []) : C8.Cal P w K mg base 3 "_law_ring_right" (spLawRingRightC cEven cApart) [] := by
  refine cal_of D (fun _ _ _ _ _ _ us hl => match us, hl with | [_, _], _ => rfl) scLawRingRight (fun vs H Q E h => ?_) (fun f cdv A outer s H vs Q E hr h => ?_)
  · obtain ⟨bs, c, rfl, _⟩ := h
    rfl
  · obtain ⟨bs, c, rfl, ⟨h0, h1⟩, k⟩ := h
    refine ⟨_, (pss_cons (ps_set (i := 2) scLawRingRight.nd rfl (Or.inl rfl) (pe_callB call_len_str (by rfl) B.len_ PySem.boot_len (pa_cons (pv 0) pa_nil)))
      (pss_cons (ps_set (i := 3) scLawRingRight.nd rfl (Or.inl rfl) (pe_op op_sub (pe_op op_mod (pv 1) (pe_op op_add (pv 2) pe_int)) pe_int))
      (pss_cons (ps_set (i := 4) scLawRingRight.nd rfl (Or.inl rfl) (pe_chain op_le op_lt pe_int (pv 3) (pv 2)))
      (pss_cut (ps_if (pt_val (pv 4))
      (pss_one (ps_set (i := 4) scLawRingRight.nd rfl (Or.inl rfl) (pe_cmpR op_eq (C8.pe_c c__law_reckoned hr (by decide) (by rfl) (pa_cons (pe_m1 PySem.F.slot_str_count PySem.F.type_str_count mt_count (pv 0) pe_sx) (pa_cons (pv 2) (pa_cons (pe_op op_mul (pv 3) (pe_m1 PySem.F.slot_str_count PySem.F.type_str_count mt_count (pv 0) pe_sx)) (pa_cons (pv 2) pa_nil))))) (pv 0) (nomark _))))
      pss_nil)
      (pss_cons (ps_set (i := 5) scLawRingRight.nd rfl (Or.inl rfl) (C8.pe_mk k_Even hr (by decide) (by rfl) (pa_cons (pv 3) pa_nil)))
      (pss_cons (ps_if (PW.pt (pw_or (pt_cmp (pc_neI (pe_fldK (K := K) rfl (pv 5) rfl) (pv 3))) (pw_or1 (pt_not (pt_val (C8.pe_c c__law_says hr (by decide) (by rfl) (pa_cons (pe_or2 (C8.pe_mt m_Even_shows hr (by decide) (pv 5) (pa_cons (pv 0) pa_nil)) (C8.pe_mt m_Apart_shows hr (by decide) (pv 5) (pa_cons (pv 0) pa_nil))) (pa_cons (pv 4) pa_nil))))))))
      (pss_one (ps_ret pe_bl))
      pss_nil)
      (pss_cons (ps_set (i := 6) scLawRingRight.nd rfl (Or.inl rfl) (pe_op op_sub (pe_op op_mod (pe_op op_fdiv (pv 1) pe_int) (pe_op op_add (pv 2) pe_int)) pe_int))
      (pss_cons (ps_set (i := 7) scLawRingRight.nd rfl (Or.inl rfl) (pe_op op_sub (pe_op op_mod (pe_op op_fdiv (pv 1) pe_int) (pe_op op_add (pv 2) pe_int)) pe_int))
      (pss_cons (ps_set (i := 8) scLawRingRight.nd rfl (Or.inl rfl) (pe_op op_sub (pe_op op_mod (pe_op op_fdiv (pv 1) pe_int) (pe_op op_add (pv 2) pe_int)) pe_int))
      (pss_cons (ps_set (i := 4) scLawRingRight.nd rfl (Or.inl rfl) (pe_and (pe_chain op_le op_lt pe_int (pv 6) (pv 2)) (pe_and (pe_chain op_le op_lt pe_int (pv 7) (pv 2)) (pe_one (pe_chain op_le op_le pe_int (pv 8) (pv 2))))))
      (pss_cons (ps_set (i := 4) scLawRingRight.nd rfl (Or.inl rfl) (pe_and (pv 4) (pe_one (C8.pe_c c__law_more hr (by decide) (by rfl) (pa_cons (pe_op op_add_str (pv 0) (pv 0)) (pa_cons (pv 6) (pa_cons (pv 7) (pa_cons (pv 8) pa_nil))))))))
      (pss_cons (ps_set (i := 5) scLawRingRight.nd rfl (Or.inl rfl) (C8.pe_mk k_Apart hr (by decide) (by rfl) (pa_cons (pv 6) (pa_cons (pv 7) (pa_cons (pv 8) pa_nil)))))
      (pss_cons (ps_if (pt_cmpR (op_neD (hu64 hr)) (pe_tup (pa_cons (pe_fldK (K := K) rfl (pv 5) rfl) (pa_cons (pe_fldK (K := K) rfl (pv 5) rfl) (pa_cons (pe_fldK (K := K) rfl (pv 5) rfl) pa_nil)))) (pe_tup (pa_cons (pv 6) (pa_cons (pv 7) (pa_cons (pv 8) pa_nil)))) (nomark _))
      (pss_one (ps_ret pe_bl))
      pss_nil)
      (pss_one (ps_ret (C8.pe_c c__law_says hr (by decide) (by rfl) (pa_cons (pe_or2 (C8.pe_mt m_Even_shows hr (by decide) (pv 5) (pa_cons (pv 0) pa_nil)) (C8.pe_mt m_Apart_shows hr (by decide) (pv 5) (pa_cons (pv 0) pa_nil))) (pa_cons (pv 4) pa_nil)))))))))))))))))), ?_⟩
    have hcn := cnt_le bs
    have hc2 : -18446744073709551616 < ((bs.count true : Nat) : Int) ∧ ((bs.count true : Nat) : Int) < 18446744073709551616 := by omega
    refine q_asg (ev_cb (ea_cons (ev_var rfl) ea_nil) (rc_lenS (by walk_at "sz"))) fun H1 e1 => ?_
    refine q_asg (ev_op (ev_op (ev_var rfl) (ev_op (ev_var rfl) ev_c rv_I0) (rv_I (by walk_at "pos"))) ev_c rv_I0) fun H2 e2 => ?_
    generalize c % ((bs.length : Int) + 3) - 1 = t
    refine q_asg (ev_chain ev_c (ev_var rfl) (ev_var rfl)) fun H3 e3 => ?_
    refine q_cut (M := fun σ' H' => σ' = [some (.str (enc bs)), some (.int c), some (.int (bs.length : Int)), some (.int t), some (.bl (evShows t bs)), none, none, none, none] ∧ Ex H3 H') (s_when (et_B (ev_var rfl)) (fun hb H4 e4 => ?_) (fun hb H4 e4 => ?_)) (fun σ' H' hp => ?_)
    · refine s_asg (ev_op (ev_call (ea_cons (ev_cntS (ev_var rfl) ev_c) (ea_cons (ev_var rfl) (ea_cons (ev_op (ev_var rfl) (ev_cntS (ev_var rfl) ev_c) (rv_I (by walk_at "mul"))) (ea_cons (ev_var rfl) ea_nil)))) (spv__law_reckoned (by walk_at "pre"))) (ev_var rfl) rv_eqS) fun H5 e5 => ⟨?_, e4.trans e5⟩
      unfold evShows
      rw [hb, Int.toNat_natCast]
      rfl
    · refine ⟨?_, e4⟩
      unfold evShows
      rw [hb]
      rfl
    obtain ⟨rfl, ex⟩ := hp
    refine q_asgN (en_make (ea_cons (ev_var rfl) ea_nil) rfl) fun p dx H5 _ e5 ho => ?_
    refine q_when (et_or (et_B (ev_cmp (ev_fld (ev_var rfl) (by assumption) Z.k_Even.cl Z.n_Even_turn (lk_Even_turn _)) (ev_var rfl))) (fun hb => (et_not (et_B (ev_call (ea_cons (ev_orL (ev_meth (ev_var rfl) (by assumption) (lk_Even_shows _) (ea_cons (ev_var rfl) ea_nil) (spm_Even_shows (by assumption) (by walk_at "pre")))) (ea_cons (ev_var rfl) ea_nil)) (spv__law_says (by walk_at "pre"))))))) (fun hb => by
      exfalso
      simp at hb) (fun _ H6 e6 => ?_)
    refine q_asg (ev_op (ev_op (ev_op (ev_var rfl) ev_c (rv_I (by walk_at "div"))) (ev_op (ev_var rfl) ev_c rv_I0) (rv_I (by walk_at "pos"))) ev_c rv_I0) fun H7 e7 => ?_
    refine q_asg (ev_op (ev_op (ev_op (ev_var rfl) ev_c (rv_I (by walk_at "div"))) (ev_op (ev_var rfl) ev_c rv_I0) (rv_I (by walk_at "pos"))) ev_c rv_I0) fun H8 e8 => ?_
    refine q_asg (ev_op (ev_op (ev_op (ev_var rfl) ev_c (rv_I (by walk_at "div"))) (ev_op (ev_var rfl) ev_c rv_I0) (rv_I (by walk_at "pos"))) ev_c rv_I0) fun H9 e9 => ?_
    generalize c / 3 % ((bs.length : Int) + 2) - 1 = f'
    generalize c / 7 % ((bs.length : Int) + 2) - 1 = s'
    generalize c / 11 % ((bs.length : Int) + 3) - 1 = m
    clear ho
    refine q_asg (ev_andV (ev_chain ev_c (ev_var rfl) (ev_var rfl)) (fun hb => (ev_andV (ev_chain ev_c (ev_var rfl) (ev_var rfl)) (fun hb => (ev_chain ev_c (ev_var rfl) (ev_var rfl)))))) fun H10 e10 => ?_
    refine q_asg (ev_andV (ev_var rfl) (fun hb => (ev_call (ea_cons (ev_op (ev_var rfl) (ev_var rfl) (rv_catS (by walk_at "sz") (by walk_at "sz"))) (ea_cons (ev_var rfl) (ea_cons (ev_var rfl) (ea_cons (ev_var rfl) ea_nil)))) (spv__law_more (by walk_at "pre"))))) fun H11 e11 => ?_
    refine q_asgN (en_make (ea_cons (ev_var rfl) (ea_cons (ev_var rfl) (ea_cons (ev_var rfl) ea_nil))) rfl) fun p2 dx2 H12 _ e12 ho => ?_
    refine q_when (et_test (ev_neT3 (ea_cons (ev_fld (ev_var rfl) (by assumption) Z.k_Apart.cl Z.n_Apart_first (lk_Apart_first _ _ _)) (ea_cons (ev_fld (ev_var rfl) (by assumption) Z.k_Apart.cl Z.n_Apart_second (lk_Apart_second _ _ _)) (ea_cons (ev_fld (ev_var rfl) (by assumption) Z.k_Apart.cl Z.n_Apart_many (lk_Apart_many _ _ _)) ea_nil))) (ea_cons (ev_var rfl) (ea_cons (ev_var rfl) (ea_cons (ev_var rfl) ea_nil))))) (fun hb => by
      exfalso
      simp at hb) (fun _ H13 e13 => ?_)
    replace ho := e13 _ _ ho
    refine s_ret (ev_eq (ev_call (ea_cons (ev_orR (ev_meth (ev_var rfl) (by assumption) (lk_Apart_shows _ _ _) (ea_cons (ev_var rfl) ea_nil) (spm_Apart_shows (by assumption) (by walk_at "pre")))) (ea_cons (ev_var rfl) ea_nil)) (spv__law_says (by walk_at "pre"))) ?_) fun H14 e14 => k.go (((((((((((((e1.trans e2).trans e3).trans ex).trans e5).trans e6).trans e7).trans e8).trans e9).trans e10).trans e11).trans e12).trans e13).trans e14)
    refine congrArg V.bl ?_
    unfold apShows
    exact beq_self_eq_true _
end
end Eb
namespace Eb
open PySem PySem.Spec PyProof.Rows L2 TL Evl
abbrev sLawRowRight : Stmt := topS 17
theorem scLawRowRight : FnScope ["_law_row", "_law_cell", "_law_best", "_law_places", "_law_beats", "_law_far", "_law_shift", "_law_numbers", "_law_due", "_law_answer", "_law_first", "_law_second", "_law_wide"] ["_law_row", "_law_cell", "_law_best"] (defScope sLawRowRight) := ⟨rfl, rfl, rfl, by decide +kernel, rfl, by decide +kernel, by decide +kernel⟩
def spLawRowRightC (K : PySem.W.Frag) (_ _ : Addr) : Sp := fun vs H Q _ => ∃ (bs : List Bool) (c : Int) (p : Addr) (x y z : Int), vs = [.str (enc bs), .int c, .ref p] ∧ SqT K H p [.int x, .int y, .int z] ∧ bs.length ≤ 63 ∧ RetV (.bl true) H Q
theorem spv__law_row_right {K : PySem.W.Frag} {a b : Addr} {H : Hp} {bs : List Bool} {c x y z : Int} {p : Addr} (h : bs.length ≤ 63) (hp : SqT K H p [.int x, .int y, .int z]) : SpV (spLawRowRightC K a b) [.str (enc bs), .int c, .ref p] H (.bl true) := fun _ e _ q _ => ⟨bs, c, p, x, y, z, rfl, ex_t e hp, h, q⟩
section
variable {P : Program} {w : World} {K : PySem.W.Frag} {mg : Str → Option Value} {base : Heap}
variable {cAnswer cEven cApart cBegun cParted : Addr}
theorem ok__law_row_right (D : DefAt K mg "_law_row_right" sLawRowRight) (Z : Cz K mg cAnswer cEven cApart cBegun cParted) (B : Bn mg) (c__law_reckoned : C8.Cal P w K mg base 1 "_law_reckoned" (spLawReckoned K) []) (c__law_says : C8.Cal P w K mg base 1 "_law_says" (spLawSays K) []) (c__law_more : C8.Cal P w K mg base 1 "_law_more" (spLawMore K) []) (k_Begun : C8.Mak P w K mg base 1 "Begun" cBegun (spI cBegun ["beats", "places", "shift"]) []) (k_Parted : C8.Mak P w K mg base 1 "Parted" cParted (spI cParted ["first", "second", "many"]) []) (m_Begun_shows : C8.Met P w K mg base 2 cBegun "shows" (spBegunShows cBegun) []) (m_Parted_shows : C8.Met P w K mg base 2 cParted "shows" (spPartedShows cParted) []) : C8.Cal P w K mg base 3 "_law_row_right" (spLawRowRightC K cBegun cParted) [] := by
  refine cal_of D (fun _ _ _ _ _ _ us hl => match us, hl with | [_, _, _], _ => rfl) scLawRowRight (fun vs H Q E h => ?_) (fun f cdv A outer s H vs Q E hr h => ?_)
  · obtain ⟨bs, c, p, x, y, z, rfl, _⟩ := h
    rfl
  · obtain ⟨bs, c, p, x, y, z, rfl, hp, h1, k⟩ := h
    refine ⟨_, (pss_cons (ps_set (i := 3) scLawRowRight.nd rfl (Or.inl rfl) (pe_op op_sub (pe_op op_mod (pe_op op_fdiv (pv 1) pe_int) (pe_op op_add (pe_callB call_len_str (by rfl) B.len_ PySem.boot_len (pa_cons (pv 0) pa_nil)) pe_int)) pe_int))
      (pss_cons (ps_set (i := 4) scLawRowRight.nd rfl (Or.inl rfl) (pe_op op_sub (pe_op op_mod (pe_op op_fdiv (pv 1) pe_int) (pe_op op_add (pe_callB call_len_str (by rfl) B.len_ PySem.boot_len (pa_cons (pv 0) pa_nil)) pe_int)) pe_int))
      (pss_cons (ps_set (i := 5) scLawRowRight.nd rfl (Or.inl rfl) (pe_op op_add (pe_op op_add (pe_op op_pow pe_int pe_int) (pe_op op_mul pe_int (pe_op op_mod (pv 1) (pe_op op_pow pe_int pe_int)))) pe_int))
      (pss_cons (ps_set (i := 6) scLawRowRight.nd rfl (Or.inl rfl) (pe_op op_mod (pv 1) (pe_op op_pow pe_int pe_int)))
      (pss_cons (ps_for PassesOwn.never rfl (pi_list (pe_lst (pa_cons (pe_tup (pa_cons (pv 4) (pa_cons (pv 3) (pa_cons (pv 6) pa_nil)))) (pa_cons (pv 2) (pa_cons (pe_tup (pa_cons (pe_op op_fdiv (pv 5) pe_int) (pa_cons (pv 5) (pa_cons (pv 6) pa_nil)))) (pa_cons (pe_tup (pa_cons (pe_op op_add (pv 5) pe_int) (pa_cons (pv 5) (pa_cons pe_int pa_nil)))) pa_nil)))))) (pg_name (i := 7) scLawRowRight.nd rfl (Or.inl rfl))
      (pss_cons (ps_set (i := 8) scLawRowRight.nd rfl (Or.inl rfl) (pe_and (pe_cmp (pc_ge (pe_ix (ix_tupK (K := K) rfl) (pv 7) pe_int (fun _ _ => rfl)) pe_int)) (pe_one (pe_chain op_le op_le pe_int (pe_ix (ix_tupK (K := K) rfl) (pv 7) pe_int (fun _ _ => rfl)) (pe_ix (ix_tupK (K := K) rfl) (pv 7) pe_int (fun _ _ => rfl))))))
      (pss_cut (ps_if (pt_val (pv 8))
      (pss_one (ps_set (i := 8) scLawRowRight.nd rfl (Or.inl rfl) (pe_cmpR op_eq (C8.pe_c c__law_reckoned hr (by decide) (by rfl) (pa_cons (pe_ix (ix_tupK (K := K) rfl) (pv 7) pe_int (fun _ _ => rfl)) (pa_cons (pe_ix (ix_tupK (K := K) rfl) (pv 7) pe_int (fun _ _ => rfl)) (pa_cons (pe_ix (ix_tupK (K := K) rfl) (pv 7) pe_int (fun _ _ => rfl)) (pa_cons (pe_callB call_len_str (by rfl) B.len_ PySem.boot_len (pa_cons (pv 0) pa_nil)) pa_nil))))) (pv 0) (nomark _))))
      pss_nil)
      (pss_cons (ps_set (i := 9) scLawRowRight.nd rfl (Or.inl rfl) (C8.pe_mk k_Begun hr (by decide) (by rfl) (pa_cons (pe_ix (ix_tupK (K := K) rfl) (pv 7) pe_int (fun _ _ => rfl)) (pa_cons (pe_ix (ix_tupK (K := K) rfl) (pv 7) pe_int (fun _ _ => rfl)) (pa_cons (pe_ix (ix_tupK (K := K) rfl) (pv 7) pe_int (fun _ _ => rfl)) pa_nil)))))
      (pss_one (ps_if (PW.pt (pw_or (pt_cmpR (op_neD (hu64 hr)) (pe_tup (pa_cons (pe_fldK (K := K) rfl (pv 9) rfl) (pa_cons (pe_fldK (K := K) rfl (pv 9) rfl) (pa_cons (pe_fldK (K := K) rfl (pv 9) rfl) pa_nil)))) (pv 7) (nomark _)) (pw_or1 (pt_not (pt_val (C8.pe_c c__law_says hr (by decide) (by rfl) (pa_cons (pe_or2 (C8.pe_mt m_Begun_shows hr (by decide) (pv 9) (pa_cons (pv 0) pa_nil)) (C8.pe_mt m_Parted_shows hr (by decide) (pv 9) (pa_cons (pv 0) pa_nil))) (pa_cons (pv 8) pa_nil))))))))
      (pss_one (ps_ret pe_bl))
      pss_nil))))))
      (pss_cons (ps_set (i := 10) scLawRowRight.nd rfl (Or.inl rfl) (pe_op op_sub (pe_op op_mod (pe_op op_fdiv (pv 1) pe_int) (pe_op op_add (pe_callB call_len_str (by rfl) B.len_ PySem.boot_len (pa_cons (pv 0) pa_nil)) pe_int)) pe_int))
      (pss_cons (ps_set (i := 11) scLawRowRight.nd rfl (Or.inl rfl) (pe_op op_sub (pe_op op_mod (pe_op op_fdiv (pv 1) pe_int) (pe_op op_add (pe_callB call_len_str (by rfl) B.len_ PySem.boot_len (pa_cons (pv 0) pa_nil)) pe_int)) pe_int))
      (pss_cons (ps_set (i := 12) scLawRowRight.nd rfl (Or.inl rfl) (pe_op op_sub (pe_op op_mod (pe_op op_fdiv (pv 1) pe_int) (pe_op op_add (pe_callB call_len_str (by rfl) B.len_ PySem.boot_len (pa_cons (pv 0) pa_nil)) pe_int)) pe_int))
      (pss_cons (ps_set (i := 8) scLawRowRight.nd rfl (Or.inl rfl) (pe_and (pe_cmp (pc_ge (pe_callB (call_min3I rfl) (by rfl) B.min_ (by decide +kernel) (pa_cons (pv 10) (pa_cons (pv 11) (pa_cons (pv 12) pa_nil)))) pe_int)) (pe_one (pe_cmp (pc_le (pe_op op_add (pe_callB (call_max2 rfl) (by rfl) B.max_ (by decide +kernel) (pa_cons (pv 10) (pa_cons (pv 11) pa_nil))) (pv 12)) (pe_callB call_len_str (by rfl) B.len_ PySem.boot_len (pa_cons (pv 0) pa_nil)))))))
      (pss_cons (ps_set (i := 8) scLawRowRight.nd rfl (Or.inl rfl) (pe_and (pv 8) (pe_one (C8.pe_c c__law_more hr (by decide) (by rfl) (pa_cons (pv 0) (pa_cons (pv 10) (pa_cons (pv 11) (pa_cons (pv 12) pa_nil))))))))
      (pss_cons (ps_set (i := 9) scLawRowRight.nd rfl (Or.inl rfl) (C8.pe_mk k_Parted hr (by decide) (by rfl) (pa_cons (pv 10) (pa_cons (pv 11) (pa_cons (pv 12) pa_nil)))))
      (pss_cons (ps_if (pt_cmpR (op_neD (hu64 hr)) (pe_tup (pa_cons (pe_fldK (K := K) rfl (pv 9) rfl) (pa_cons (pe_fldK (K := K) rfl (pv 9) rfl) (pa_cons (pe_fldK (K := K) rfl (pv 9) rfl) pa_nil)))) (pe_tup (pa_cons (pv 10) (pa_cons (pv 11) (pa_cons (pv 12) pa_nil)))) (nomark _))
      (pss_one (ps_ret pe_bl))
      pss_nil)
      (pss_one (ps_ret (C8.pe_c c__law_says hr (by decide) (by rfl) (pa_cons (pe_or2 (C8.pe_mt m_Begun_shows hr (by decide) (pv 9) (pa_cons (pv 0) pa_nil)) (C8.pe_mt m_Parted_shows hr (by decide) (pv 9) (pa_cons (pv 0) pa_nil))) (pa_cons (pv 8) pa_nil))))))))))))))))), ?_⟩
    refine q_asg (ev_op (ev_op (ev_op (ev_var rfl) ev_c (rv_I (by walk_at "div"))) (ev_op (ev_cb (ea_cons (ev_var rfl) ea_nil) (rc_lenS (by walk_at "sz"))) ev_c rv_I0) (rv_I (by walk_at "pos"))) ev_c rv_I0) fun H1 e1 => ?_
    generalize c / 5 % ((bs.length : Int) + 4) - 1 = pl
    refine q_asg (ev_op (ev_op (ev_op (ev_var rfl) ev_c (rv_I (by walk_at "div"))) (ev_op (ev_cb (ea_cons (ev_var rfl) ea_nil) (rc_lenS (by walk_at "sz"))) ev_c rv_I0) (rv_I (by walk_at "pos"))) ev_c rv_I0) fun H2 e2 => ?_
    generalize c / 13 % ((bs.length : Int) + 4) - 1 = be
    refine q_asg (ev_op (ev_op (ev_op ev_c ev_c (rv_I (by walk_at "pow"))) (ev_op ev_c (ev_op (ev_var rfl) (ev_op ev_c ev_c (rv_I (by walk_at "pow"))) (rv_I (by walk_at "pos"))) (rv_I (by walk_at "mul"))) rv_I0) ev_c rv_I0) fun H3 e3 => ?_
    generalize (10 : Int) ^ (25 : Int).toNat + 4 * (c % 10 ^ (20 : Int).toNat) + 1 = far
    refine q_asg (ev_op (ev_var rfl) (ev_op ev_c ev_c (rv_I (by walk_at "pow"))) (rv_I (by walk_at "pos"))) fun H4 e4 => ?_
    generalize c % (10 : Int) ^ (25 : Int).toNat = sh
    replace hp := ex_t (((e1.trans e2).trans e3).trans e4) hp
    refine q_forTups (elt_4 (ea_cons (ev_var rfl) (ea_cons (ev_var rfl) (ea_cons (ev_var rfl) ea_nil))) (ev_var rfl) hp (ea_cons (ev_op (ev_var rfl) ev_c (rv_I (by walk_at "div"))) (ea_cons (ev_var rfl) (ea_cons (ev_var rfl) ea_nil))) (ea_cons (ev_op (ev_var rfl) ev_c rv_I0) (ea_cons (ev_var rfl) (ea_cons ev_c ea_nil)))) (fun σ' => ∃ z1 z2 z3 z4 z5 z6, σ' = [some (.str (enc bs)), some (.int c), some (.ref p), some (.int pl), some (.int be), some (.int far), some (.int sh), z1, z2, z3, z4, z5, z6])
      ⟨none, none, none, none, none, none, rfl⟩ (fun q b n s' σ' H5 H' e5 ex hσ hq => ?_) (fun σ' H' ex hσ => ?_)
    · obtain ⟨z1, z2, z3, z4, z5, z6, rfl⟩ := hσ
      refine q_asg (ev_andV (ev_cmp (ev_op (ev_var rfl) ev_c (rv_ixT (by walk_at "lst") (by rfl))) ev_c) (fun hb => (ev_chain ev_c (ev_op (ev_var rfl) ev_c (rv_ixT (by walk_at "lst") (by rfl))) (ev_op (ev_var rfl) ev_c (rv_ixT (by walk_at "lst") (by rfl)))))) fun H6 e6 => ?_
      replace hq := ex_t e6 hq
      refine q_cut (M := fun σ' H' => σ' = [some (.str (enc bs)), some (.int c), some (.ref p), some (.int pl), some (.int be), some (.int far), some (.int sh), some (.ref q), some (.bl (beShows b n s' bs)), z3, z4, z5, z6] ∧ Ex H6 H') (s_when (et_B (ev_var rfl)) (fun hb H7 e7 => ?_) (fun hb H7 e7 => ?_)) (fun σ' H' hp => ?_)
      · replace hq := ex_t e7 hq
        have hb2 := hb
        rw [Bool.and_eq_true] at hb2
        have hn1 := of_decide_eq_true hb2.1
        refine s_asg (ev_op (ev_call (ea_cons (ev_op (ev_var rfl) ev_c (rv_ixT (by walk_at "lst") (by rfl))) (ea_cons (ev_op (ev_var rfl) ev_c (rv_ixT (by walk_at "lst") (by rfl))) (ea_cons (ev_op (ev_var rfl) ev_c (rv_ixT (by walk_at "lst") (by rfl))) (ea_cons (ev_cb (ea_cons (ev_var rfl) ea_nil) (rc_lenS (by walk_at "sz"))) ea_nil)))) (spv__law_reckoned (by walk_at "pre"))) (ev_var rfl) rv_eqS) fun H8 e8 => ⟨?_, e7.trans e8⟩
        unfold beShows
        rw [hb, Int.toNat_natCast]
        rfl
      · refine ⟨?_, e7⟩
        unfold beShows
        rw [hb]
        rfl
      obtain ⟨rfl, ex2⟩ := hp
      replace hq := ex_t ex2 hq
      refine q_asgN (en_make (ea_cons (ev_op (ev_var rfl) ev_c (rv_ixT (by walk_at "lst") (by rfl))) (ea_cons (ev_op (ev_var rfl) ev_c (rv_ixT (by walk_at "lst") (by rfl))) (ea_cons (ev_op (ev_var rfl) ev_c (rv_ixT (by walk_at "lst") (by rfl))) ea_nil))) rfl) fun o dx H7 _ e7 ho => ?_
      replace hq := ex_t e7 hq
      refine s_when (et_or (et_test (ev_neT3v (ea_cons (ev_fld (ev_var rfl) (by assumption) Z.k_Begun.cl Z.n_Begun_beats (lk_Begun_beats _ _ _)) (ea_cons (ev_fld (ev_var rfl) (by assumption) Z.k_Begun.cl Z.n_Begun_places (lk_Begun_places _ _ _)) (ea_cons (ev_fld (ev_var rfl) (by assumption) Z.k_Begun.cl Z.n_Begun_shift (lk_Begun_shift _ _ _)) ea_nil))) (ev_var rfl) (by walk_at "lst"))) (fun hb => (et_not (et_B (ev_call (ea_cons (ev_orL (ev_meth (ev_var rfl) (by assumption) (lk_Begun_shows _ _ _) (ea_cons (ev_var rfl) ea_nil) (spm_Begun_shows (by assumption) (by walk_at "pre")))) (ea_cons (ev_var rfl) ea_nil)) (spv__law_says (by walk_at "pre"))))))) (fun hb => by
        exfalso
        simp at hb) (fun _ H8 e8 => ⟨⟨_, _, _, _, _, _, rfl⟩, (((ex.trans e6).trans ex2).trans e7).trans e8⟩)
    · obtain ⟨z1, z2, z3, z4, z5, z6, rfl⟩ := hσ
      refine q_asg (ev_op (ev_op (ev_op (ev_var rfl) ev_c (rv_I (by walk_at "div"))) (ev_op (ev_cb (ea_cons (ev_var rfl) ea_nil) (rc_lenS (by walk_at "sz"))) ev_c rv_I0) (rv_I (by walk_at "pos"))) ev_c rv_I0) fun H7 e7 => ?_
      refine q_asg (ev_op (ev_op (ev_op (ev_var rfl) ev_c (rv_I (by walk_at "div"))) (ev_op (ev_cb (ea_cons (ev_var rfl) ea_nil) (rc_lenS (by walk_at "sz"))) ev_c rv_I0) (rv_I (by walk_at "pos"))) ev_c rv_I0) fun H8 e8 => ?_
      refine q_asg (ev_op (ev_op (ev_op (ev_var rfl) ev_c (rv_I (by walk_at "div"))) (ev_op (ev_cb (ea_cons (ev_var rfl) ea_nil) (rc_lenS (by walk_at "sz"))) ev_c rv_I0) (rv_I (by walk_at "pos"))) ev_c rv_I0) fun H9 e9 => ?_
      generalize c / 3 % ((bs.length : Int) + 2) - 1 = f'
      generalize c / 7 % ((bs.length : Int) + 2) - 1 = s'
      generalize c / 11 % ((bs.length : Int) + 3) - 1 = m
      refine q_asg (ev_andV (ev_cmp (ev_cb (ea_cons (ev_var rfl) (ea_cons (ev_var rfl) (ea_cons (ev_var rfl) ea_nil))) rc_min3) ev_c) (fun hb => (ev_cmp (ev_op (ev_cb (ea_cons (ev_var rfl) (ea_cons (ev_var rfl) ea_nil)) rc_max2) (ev_var rfl) rv_I0) (ev_cb (ea_cons (ev_var rfl) ea_nil) (rc_lenS (by walk_at "sz")))))) fun H10 e10 => ?_
      refine q_asg (ev_andV (ev_var rfl) (fun hb => (ev_call (ea_cons (ev_var rfl) (ea_cons (ev_var rfl) (ea_cons (ev_var rfl) (ea_cons (ev_var rfl) ea_nil)))) (spv__law_more (by walk_at "pre"))))) fun H11 e11 => ?_
      refine q_asgN (en_make (ea_cons (ev_var rfl) (ea_cons (ev_var rfl) (ea_cons (ev_var rfl) ea_nil))) rfl) fun p2 dx2 H12 _ e12 ho => ?_
      refine q_when (et_test (ev_neT3 (ea_cons (ev_fld (ev_var rfl) (by assumption) Z.k_Parted.cl Z.n_Parted_first (lk_Parted_first _ _ _)) (ea_cons (ev_fld (ev_var rfl) (by assumption) Z.k_Parted.cl Z.n_Parted_second (lk_Parted_second _ _ _)) (ea_cons (ev_fld (ev_var rfl) (by assumption) Z.k_Parted.cl Z.n_Parted_many (lk_Parted_many _ _ _)) ea_nil))) (ea_cons (ev_var rfl) (ea_cons (ev_var rfl) (ea_cons (ev_var rfl) ea_nil))))) (fun hb => by
        exfalso
        simp at hb) (fun _ H13 e13 => ?_)
      replace ho := e13 _ _ ho
      refine s_ret (ev_eq (ev_call (ea_cons (ev_orR (ev_meth (ev_var rfl) (by assumption) (lk_Parted_shows _ _ _) (ea_cons (ev_var rfl) ea_nil) (spm_Parted_shows (by assumption) (by walk_at "pre")))) (ea_cons (ev_var rfl) ea_nil)) (spv__law_says (by walk_at "pre"))) ?_) fun H14 e14 => k.go ((((((((((((e1.trans e2).trans e3).trans e4).trans ex).trans e7).trans e8).trans e9).trans e10).trans e11).trans e12).trans e13).trans e14)
      refine congrArg V.bl ?_
      unfold paShows
      rw [beq_iff_eq]
      refine congrArg (· && mbt bs f' s' m) ?_
      rw [Bool.eq_iff_iff]
      simp only [Bool.and_eq_true, Bool.not_eq_true', Bool.or_eq_false_iff, decide_eq_true_eq, decide_eq_false_iff_not]
      omega
end
end Eb
namespace Eb
open PySem PySem.Spec PyProof.Rows L2 TL Evl
abbrev sLaw : Stmt := topS 18
theorem scLaw : FnScope ["_law_script", "_law_ring", "_law_beats", "_law_turn", "_law_cell", "_law_due"] ["_law_script"] (defScope sLaw) := ⟨rfl, rfl, rfl, by decide +kernel, rfl, by decide +kernel, by decide +kernel⟩
def spLaw (K : PySem.W.Frag) : Sp := fun vs H Q _ => ∃ (a : Addr) (ns : List Int), vs = [.ref a] ∧ SqL K H a (ns.map V.int) ∧ ns.length ≤ 63 ∧ (∀ z ∈ ns, Builtin.Int.intBits z ≤ 1048576) ∧ ∀ H', Q (.bl true) H'
section
variable {P : Program} {w : World} {K : PySem.W.Frag} {mg : Str → Option Value} {base : Heap}
variable {cAnswer cEven cApart cBegun cParted : Addr}
theorem ok_law {f : Addr} {fd : FuncData} (F : Fun K "law" "law" sLaw f fd) (Z : Cz K mg cAnswer cEven cApart cBegun cParted) (B : Bn mg) (c__law_drawn : C8.Cal P w K mg base 2 "_law_drawn" (spLawDrawn K) []) (c__law_says : C8.Cal P w K mg base 1 "_law_says" (spLawSays K) []) (c__law_reckoned : C8.Cal P w K mg base 1 "_law_reckoned" (spLawReckoned K) []) (c__law_ring_right : C8.Cal P w K mg base 3 "_law_ring_right" (spLawRingRightC cEven cApart) []) (c__law_row_right : C8.Cal P w K mg base 3 "_law_row_right" (spLawRowRightC K cBegun cParted) []) (k_Even : C8.Mak P w K mg base 1 "Even" cEven (spI cEven ["turn"]) []) (k_Begun : C8.Mak P w K mg base 1 "Begun" cBegun (spI cBegun ["beats", "places", "shift"]) []) (k_Parted : C8.Mak P w K mg base 1 "Parted" cParted (spI cParted ["first", "second", "many"]) []) (m_Even_shows : C8.Met P w K mg base 2 cEven "shows" (spEvenShows cEven) []) (m_Begun_shows : C8.Met P w K mg base 2 cBegun "shows" (spBegunShows cBegun) []) (m_Parted_shows : C8.Met P w K mg base 2 cParted "shows" (spPartedShows cParted) []) : FnOk P w K mg base CX0 4 f fd ["_law_script"] (spLaw K) := by
  refine F.ok scLaw (fun vs H Q E h => ?_) (fun cdv A outer s H vs Q E hr h => ?_)
  · obtain ⟨a, ns, rfl, _⟩ := h
    rfl
  · obtain ⟨a, ns, rfl, hS, hl, hbits, k⟩ := h
    refine ⟨_, (pss_cons (ps_if (pt_cmpR (op_eqD (hu64 hr)) (pv 0) (pe_lst pa_nil) (nomark _))
      (pss_one (ps_ret (pe_and (C8.pe_c c__law_says hr (by decide) (by rfl) (pa_cons (C8.pe_mt m_Begun_shows hr (by decide) (C8.pe_mk k_Begun hr (by decide) (by rfl) (pa_cons pe_int (pa_cons pe_int (pa_cons pe_int pa_nil)))) (pa_cons pe_s0 pa_nil)) (pa_cons pe_bl pa_nil))) (pe_one (C8.pe_c c__law_says hr (by decide) (by rfl) (pa_cons (C8.pe_mt m_Parted_shows hr (by decide) (C8.pe_mk k_Parted hr (by decide) (by rfl) (pa_cons pe_int (pa_cons pe_int (pa_cons pe_int pa_nil)))) (pa_cons pe_s0 pa_nil)) (pa_cons pe_bl pa_nil)))))))
      pss_nil)
      (pss_cons (ps_set (i := 1) scLaw.nd rfl (Or.inl rfl) (C8.pe_c c__law_drawn hr (by decide) (by rfl) (pa_cons (pv 0) pa_nil)))
      (pss_cons (ps_set (i := 2) scLaw.nd rfl (Or.inl rfl) (pe_m1 PySem.F.slot_str_count PySem.F.type_str_count mt_count (pv 1) pe_sx))
      (pss_cons (ps_set (i := 3) scLaw.nd rfl (Or.inl rfl) (pe_op op_mod (pe_op op_fdiv (pe_callB (cr_sum rfl) (by rfl) B.sum_ (by decide +kernel) (pa_cons (pv 0) pa_nil)) pe_int) (pe_callB call_len_str (by rfl) B.len_ PySem.boot_len (pa_cons (pv 1) pa_nil))))
      (pss_cons (ps_for PassesOwn.never rfl (pi_list (pe_op op_cat (pe_slice sl_list (pv 0) po_none (po_some pe_int)) (pe_stepL (pv 0) pe_int pe_int))) (pg_name (i := 4) scLaw.nd rfl (Or.inl rfl))
      (pss_cons (ps_if (pt_not (pt_val (C8.pe_c c__law_ring_right hr (by decide) (by rfl) (pa_cons (pv 1) (pa_cons (pv 4) pa_nil)))))
      (pss_one (ps_ret pe_bl))
      pss_nil)
      (pss_one (ps_if (pt_not (pt_val (C8.pe_c c__law_row_right hr (by decide) (by rfl) (pa_cons (pv 1) (pa_cons (pv 4) (pa_cons (pe_tup (pa_cons (pv 2) (pa_cons (pe_callB call_len_str (by rfl) B.len_ PySem.boot_len (pa_cons (pv 1) pa_nil)) (pa_cons (pe_op op_add (pe_op op_mul (pv 3) (pv 2)) (pe_op op_mul (pe_op op_mod (pv 4) pe_int) (pe_callB call_len_str (by rfl) B.len_ PySem.boot_len (pa_cons (pv 1) pa_nil)))) pa_nil)))) pa_nil))))))
      (pss_one (ps_ret pe_bl))
      pss_nil))))
      (pss_cons (ps_for PassesOwn.never rfl (pi_range3 rfl B.range_ (pa_cons pe_int (pa_cons (pe_callB call_len_str (by rfl) B.len_ PySem.boot_len (pa_cons (pv 1) pa_nil)) (pa_cons (pe_op op_add pe_int (pe_op op_fdiv (pe_callB call_len_str (by rfl) B.len_ PySem.boot_len (pa_cons (pv 1) pa_nil)) pe_int)) pa_nil)))) (pg_name (i := 3) scLaw.nd rfl (Or.inl rfl))
      (pss_cons (ps_set (i := 5) scLaw.nd rfl (Or.inl rfl) (pe_cmpR op_eq (C8.pe_c c__law_reckoned hr (by decide) (by rfl) (pa_cons (pv 2) (pa_cons (pe_callB call_len_str (by rfl) B.len_ PySem.boot_len (pa_cons (pv 1) pa_nil)) (pa_cons (pe_op op_mul (pv 3) (pv 2)) (pa_cons (pe_callB call_len_str (by rfl) B.len_ PySem.boot_len (pa_cons (pv 1) pa_nil)) pa_nil))))) (pv 1) (nomark _)))
      (pss_one (ps_if (pt_not (pt_val (C8.pe_c c__law_says hr (by decide) (by rfl) (pa_cons (C8.pe_mt m_Even_shows hr (by decide) (C8.pe_mk k_Even hr (by decide) (by rfl) (pa_cons (pv 3) pa_nil)) (pa_cons (pv 1) pa_nil)) (pa_cons (pv 5) pa_nil)))))
      (pss_one (ps_ret pe_bl))
      pss_nil))))
      (pss_one (ps_ret pe_bl)))))))), ?_⟩
    refine q_when (et_test (ev_eqLE (ev_var rfl) hS)) (fun _ H1 e1 => s_ret (ev_eq (ev_andV (ev_call (ea_cons (ev_methN (en_make (ea_cons ev_c (ea_cons ev_c (ea_cons ev_c ea_nil))) rfl) (lk_Begun_shows _ _ _) (ea_cons ev_c ea_nil) (fun _ _ _ ho9 => spm_Begun_shows ho9 (by walk_at "pre"))) (ea_cons ev_c ea_nil)) (spv__law_says (by walk_at "pre"))) (fun hb => (ev_call (ea_cons (ev_methN (en_make (ea_cons ev_c (ea_cons ev_c (ea_cons ev_c ea_nil))) rfl) (lk_Parted_shows _ _ _) (ea_cons ev_c ea_nil) (fun _ _ _ ho9 => spm_Parted_shows ho9 (by walk_at "pre"))) (ea_cons ev_c ea_nil)) (spv__law_says (by walk_at "pre"))))) (by decide +kernel)) fun H2 _ => k H2) (fun hb H1 e1 => ?_)
    replace hS := ex_l e1 hS
    have h0 : 0 < ns.length := by
      have := of_decide_eq_false hb
      cases ns with
      | nil => exact absurd rfl this
      | cons a r => exact Nat.succ_pos _
    refine q_asgC (ea_cons (ev_var rfl) ea_nil) fun H2 e2 => ⟨a, ns, rfl, ex_l e2 hS, ⟨h0, hl⟩, fun bs H3 hbl e3 => ?_⟩
    replace hS := ex_l (e2.trans e3) hS
    have hcn := cnt_le bs
    refine q_asg (ev_cntS (ev_var rfl) ev_c) fun H4 e4 => ?_
    replace hS := ex_l e4 hS
    refine q_asg (ev_op (ev_op (ev_cb (ea_cons (ev_var rfl) ea_nil) (rc_sum (by walk_at "lst"))) ev_c (rv_I (by walk_at "div"))) (ev_cb (ea_cons (ev_var rfl) ea_nil) (rc_lenS (by walk_at "sz"))) (rv_I (by walk_at "pos"))) fun H5 e5 => ?_
    replace hS := ex_l e5 hS
    generalize ns.sum / 5 % (bs.length : Int) = t
    have hc2 : -18446744073709551616 < ((bs.count true : Nat) : Int) ∧ ((bs.count true : Nat) : Int) < 18446744073709551616 := by omega
    refine q_forInts (els_cat (el_sl (ev_var rfl) eo_none (eo_some ev_c) (by walk_at "lst")) (els_step (ev_var rfl) hS ev_c ev_c (by decide)) (by omega)) (fun σ' => ∃ z1 z2, σ' = [some (.ref a), some (.str (enc bs)), some (.int ((bs.count true : Nat) : Int)), some (.int t), z1, z2])
      ⟨none, none, rfl⟩ (fun c σ' H6 H' e6 ex hσ => ?_) (fun σ' H' ex hσ => ?_)
    · obtain ⟨z1, z2, rfl⟩ := hσ
      refine q_when (et_not (et_B (ev_call (ea_cons (ev_var rfl) (ea_cons (ev_var rfl) ea_nil)) (spv__law_ring_right (by walk_at "pre"))))) (fun hb => by cases hb) (fun _ H7 e7 => ?_)
      refine s_when (et_not (et_test' (ev_call3U (ev_var rfl) (ev_var rfl) (eu_tup (ea_cons (ev_var rfl) (ea_cons (ev_cb (ea_cons (ev_var rfl) ea_nil) (rc_lenS (by walk_at "sz"))) (ea_cons (ev_op (ev_op (ev_var rfl) (ev_var rfl) (rv_I (by walk_at "mul"))) (ev_op (ev_op (ev_var rfl) ev_c (rv_I (by walk_at "pos"))) (ev_cb (ea_cons (ev_var rfl) ea_nil) (rc_lenS (by walk_at "sz"))) (rv_I (by walk_at "mul"))) rv_I0) ea_nil))) (by walk_at "sz")) (fun q H8 hq => spv__law_row_right (by omega) (st_of hq))))) (fun hb => by cases hb) (fun _ H8 e8 => ⟨⟨_, _, rfl⟩, (ex.trans e7).trans e8⟩)
    · obtain ⟨z1, z2, rfl⟩ := hσ
      refine q_forR3 (ea_cons ev_c (ea_cons (ev_cb (ea_cons (ev_var rfl) ea_nil) (rc_lenS (by walk_at "sz"))) (ea_cons (ev_op ev_c (ev_op (ev_cb (ea_cons (ev_var rfl) ea_nil) (rc_lenS (by walk_at "sz"))) ev_c (rv_I (by walk_at "div"))) rv_I0) ea_nil))) ⟨⟨by omega, by omega⟩, by omega, by omega⟩ (fun σ' _ => ∃ z0 z1 z2, σ' = [some (.ref a), some (.str (enc bs)), some (.int ((bs.count true : Nat) : Int)), z0, z1, z2])
        (fun _ _ => ⟨_, _, _, rfl⟩) (fun i σ' H'' hi0 hi1 hσ => ?_) (fun σ' H'' hσ => ?_)
      · obtain ⟨z0, z1, z2, rfl⟩ := hσ
        refine q_asg (ev_op (ev_call (ea_cons (ev_var rfl) (ea_cons (ev_cb (ea_cons (ev_var rfl) ea_nil) (rc_lenS (by walk_at "sz"))) (ea_cons (ev_op (ev_var rfl) (ev_var rfl) (rv_I (by walk_at "mul"))) (ea_cons (ev_cb (ea_cons (ev_var rfl) ea_nil) (rc_lenS (by walk_at "sz"))) ea_nil)))) (spv__law_reckoned (by walk_at "pre"))) (ev_var rfl) rv_eqS) fun H8 e8 => ?_
        refine s_when (et_not (et_B (ev_call (ea_cons (ev_methN (en_make (ea_cons (ev_var rfl) ea_nil) rfl) (lk_Even_shows _) (ea_cons (ev_var rfl) ea_nil) (fun _ _ _ ho9 => spm_Even_shows ho9 (by walk_at "pre"))) (ea_cons (ev_var rfl) ea_nil)) (spv__law_says (by walk_at "pre"))))) (fun hb => by
          exfalso
          unfold evShows at hb
          rw [decide_eq_true hi0, decide_eq_true hi1, Int.toNat_natCast] at hb
          simp at hb) (fun _ H9 e9 => ⟨_, _, _, rfl⟩)
      · obtain ⟨z0, z1, z2, rfl⟩ := hσ
        exact s_ret ev_c fun H9 _ => k H9
end
end Eb
namespace Eb
open PySem PySem.Spec PyProof.Rows L2 TL Evl
theorem all_mk {l : PySem.W.OpenLaw} {w : World} {K : PySem.W.Frag} {h : Heap} {mg : Str → Option Value} {fa : Addr} (X : K.In h) (G : h.Ns mainGlobals mg) (hfa : mg "law" = some (.ref fa))
    {f1 : Addr} {od1 an1 : Option Addr} {sl1 : Array (Option Value)} {oc1 kV1 dc1 pm1 cd1 ct1 : Value}
    {f2 : Addr} {od2 an2 : Option Addr} {sl2 : Array (Option Value)} {oc2 kV2 dc2 pm2 cd2 ct2 : Value}
    {f3 : Addr} {od3 an3 : Option Addr} {sl3 : Array (Option Value)} {oc3 kV3 dc3 pm3 cd3 ct3 : Value}
    {f4 : Addr} {od4 an4 : Option Addr} {sl4 : Array (Option Value)} {oc4 kV4 dc4 pm4 cd4 ct4 : Value}
    {f5 : Addr} {od5 an5 : Option Addr} {sl5 : Array (Option Value)} {oc5 kV5 dc5 pm5 cd5 ct5 : Value}
    {f6 : Addr} {od6 an6 : Option Addr} {sl6 : Array (Option Value)} {oc6 kV6 dc6 pm6 cd6 ct6 : Value}
    {f7 : Addr} {od7 an7 : Option Addr} {sl7 : Array (Option Value)} {oc7 kV7 dc7 pm7 cd7 ct7 : Value}
    {f8 : Addr} {od8 an8 : Option Addr} {sl8 : Array (Option Value)} {oc8 kV8 dc8 pm8 cd8 ct8 : Value}
    {f9 : Addr} {od9 an9 : Option Addr} {sl9 : Array (Option Value)} {oc9 kV9 dc9 pm9 cd9 ct9 : Value}
    {cAnswer : Addr}
    {cEven : Addr}
    {cApart : Addr}
    {cBegun : Addr}
    {cParted : Addr}
    {f_Even_init : Addr} {od_Even_init an_Even_init : Option Addr} {sl_Even_init : Array (Option Value)} {oc_Even_init kV_Even_init dc_Even_init pm_Even_init cd_Even_init ct_Even_init : Value}
    {f_Apart_init : Addr} {od_Apart_init an_Apart_init : Option Addr} {sl_Apart_init : Array (Option Value)} {oc_Apart_init kV_Apart_init dc_Apart_init pm_Apart_init cd_Apart_init ct_Apart_init : Value}
    {f_Begun_init : Addr} {od_Begun_init an_Begun_init : Option Addr} {sl_Begun_init : Array (Option Value)} {oc_Begun_init kV_Begun_init dc_Begun_init pm_Begun_init cd_Begun_init ct_Begun_init : Value}
    {f_Parted_init : Addr} {od_Parted_init an_Parted_init : Option Addr} {sl_Parted_init : Array (Option Value)} {oc_Parted_init kV_Parted_init dc_Parted_init pm_Parted_init cd_Parted_init ct_Parted_init : Value}
    {f_Even_shows : Addr} {od_Even_shows an_Even_shows : Option Addr} {sl_Even_shows : Array (Option Value)} {oc_Even_shows kV_Even_shows dc_Even_shows pm_Even_shows cd_Even_shows ct_Even_shows : Value}
    {f_Apart_shows : Addr} {od_Apart_shows an_Apart_shows : Option Addr} {sl_Apart_shows : Array (Option Value)} {oc_Apart_shows kV_Apart_shows dc_Apart_shows pm_Apart_shows cd_Apart_shows ct_Apart_shows : Value}
    {f_Begun_shows : Addr} {od_Begun_shows an_Begun_shows : Option Addr} {sl_Begun_shows : Array (Option Value)} {oc_Begun_shows kV_Begun_shows dc_Begun_shows pm_Begun_shows cd_Begun_shows ct_Begun_shows : Value}
    {f_Parted_shows : Addr} {od_Parted_shows an_Parted_shows : Option Addr} {sl_Parted_shows : Array (Option Value)} {oc_Parted_shows kV_Parted_shows dc_Parted_shows pm_Parted_shows cd_Parted_shows ct_Parted_shows : Value}
    {tb tr : Tok}
    (a1 : PySem.W.nsIn K mainGlobals "reckoned_places" = some (some (.ref f1))) (l1 : K.lookup f1 = some ⟨oc1, od1, .func (PySem.W.fnOf "reckoned_places" "reckoned_places" (defArgs sReckonedPlaces) (defBody sReckonedPlaces) (defScope sReckonedPlaces) .none kV1 dc1 pm1 an1 cd1 ct1), sl1⟩) (c1 : PySem.W.codeIn K cd1 "reckoned_places" = true) (k1 : PySem.W.keepIn K (.ref f1) = true)
    (a2 : PySem.W.nsIn K mainGlobals "more_by_two" = some (some (.ref f2))) (l2 : K.lookup f2 = some ⟨oc2, od2, .func (PySem.W.fnOf "more_by_two" "more_by_two" (defArgs sMoreByTwo) (defBody sMoreByTwo) (defScope sMoreByTwo) .none kV2 dc2 pm2 an2 cd2 ct2), sl2⟩) (c2 : PySem.W.codeIn K cd2 "more_by_two" = true) (k2 : PySem.W.keepIn K (.ref f2) = true)
    (a3 : PySem.W.nsIn K mainGlobals "_law_reckoned" = some (some (.ref f3))) (l3 : K.lookup f3 = some ⟨oc3, od3, .func (PySem.W.fnOf "_law_reckoned" "_law_reckoned" (defArgs sLawReckoned) (defBody sLawReckoned) (defScope sLawReckoned) .none kV3 dc3 pm3 an3 cd3 ct3), sl3⟩) (c3 : PySem.W.codeIn K cd3 "_law_reckoned" = true) (k3 : PySem.W.keepIn K (.ref f3) = true)
    (a4 : PySem.W.nsIn K mainGlobals "_law_drawn" = some (some (.ref f4))) (l4 : K.lookup f4 = some ⟨oc4, od4, .func (PySem.W.fnOf "_law_drawn" "_law_drawn" (defArgs sLawDrawn) (defBody sLawDrawn) (defScope sLawDrawn) .none kV4 dc4 pm4 an4 cd4 ct4), sl4⟩) (c4 : PySem.W.codeIn K cd4 "_law_drawn" = true) (k4 : PySem.W.keepIn K (.ref f4) = true)
    (a5 : PySem.W.nsIn K mainGlobals "_law_says" = some (some (.ref f5))) (l5 : K.lookup f5 = some ⟨oc5, od5, .func (PySem.W.fnOf "_law_says" "_law_says" (defArgs sLawSays) (defBody sLawSays) (defScope sLawSays) .none kV5 dc5 pm5 an5 cd5 ct5), sl5⟩) (c5 : PySem.W.codeIn K cd5 "_law_says" = true) (k5 : PySem.W.keepIn K (.ref f5) = true)
    (a6 : PySem.W.nsIn K mainGlobals "_law_more" = some (some (.ref f6))) (l6 : K.lookup f6 = some ⟨oc6, od6, .func (PySem.W.fnOf "_law_more" "_law_more" (defArgs sLawMore) (defBody sLawMore) (defScope sLawMore) .none kV6 dc6 pm6 an6 cd6 ct6), sl6⟩) (c6 : PySem.W.codeIn K cd6 "_law_more" = true) (k6 : PySem.W.keepIn K (.ref f6) = true)
    (a7 : PySem.W.nsIn K mainGlobals "_law_ring_right" = some (some (.ref f7))) (l7 : K.lookup f7 = some ⟨oc7, od7, .func (PySem.W.fnOf "_law_ring_right" "_law_ring_right" (defArgs sLawRingRight) (defBody sLawRingRight) (defScope sLawRingRight) .none kV7 dc7 pm7 an7 cd7 ct7), sl7⟩) (c7 : PySem.W.codeIn K cd7 "_law_ring_right" = true) (k7 : PySem.W.keepIn K (.ref f7) = true)
    (a8 : PySem.W.nsIn K mainGlobals "_law_row_right" = some (some (.ref f8))) (l8 : K.lookup f8 = some ⟨oc8, od8, .func (PySem.W.fnOf "_law_row_right" "_law_row_right" (defArgs sLawRowRight) (defBody sLawRowRight) (defScope sLawRowRight) .none kV8 dc8 pm8 an8 cd8 ct8), sl8⟩) (c8 : PySem.W.codeIn K cd8 "_law_row_right" = true) (k8 : PySem.W.keepIn K (.ref f8) = true)
    (a9 : PySem.W.nsIn K mainGlobals "law" = some (some (.ref f9))) (l9 : K.lookup f9 = some ⟨oc9, od9, .func (PySem.W.fnOf "law" "law" (defArgs sLaw) (defBody sLaw) (defScope sLaw) .none kV9 dc9 pm9 an9 cd9 ct9), sl9⟩) (c9 : PySem.W.codeIn K cd9 "law" = true) (k9 : PySem.W.keepIn K (.ref f9) = true)
    (g_Answer : PySem.W.nsIn K mainGlobals "Answer" = some (some (.ref cAnswer)))
    (g_Even : PySem.W.nsIn K mainGlobals "Even" = some (some (.ref cEven)))
    (g_Apart : PySem.W.nsIn K mainGlobals "Apart" = some (some (.ref cApart)))
    (g_Begun : PySem.W.nsIn K mainGlobals "Begun" = some (some (.ref cBegun)))
    (g_Parted : PySem.W.nsIn K mainGlobals "Parted" = some (some (.ref cParted)))
    (pg_Even : PySem.W.plainGet K cEven Str.empty = true) (hd_Even : PySem.W.hasDictIn K cEven = true) (po_Even : PySem.W.plainOver K cEven = true) (sa_Even : PySem.W.findIn K (.ref cEven) "__setattr__" = some (some (.builtin "object.__setattr__"))) (ha_Even : PySem.W.findIn K (.ref cEven) "__class__" = some (some (.builtin "object.__class__"))) (hm_Even : PySem.W.mroIn K cEven (.type "object") = some true)
    (n_Even_turn : PySem.W.findIn K (.ref cEven) "turn" = some none)
    (i_Even_Answer : PySem.W.kitOne K (.ref cEven) (.ref cAnswer) = some true)
    (i_Even_Even : PySem.W.kitOne K (.ref cEven) (.ref cEven) = some true)
    (i_Even_Apart : PySem.W.kitOne K (.ref cEven) (.ref cApart) = some false)
    (i_Even_Begun : PySem.W.kitOne K (.ref cEven) (.ref cBegun) = some false)
    (i_Even_Parted : PySem.W.kitOne K (.ref cEven) (.ref cParted) = some false)
    (pg_Apart : PySem.W.plainGet K cApart Str.empty = true) (hd_Apart : PySem.W.hasDictIn K cApart = true) (po_Apart : PySem.W.plainOver K cApart = true) (sa_Apart : PySem.W.findIn K (.ref cApart) "__setattr__" = some (some (.builtin "object.__setattr__"))) (ha_Apart : PySem.W.findIn K (.ref cApart) "__class__" = some (some (.builtin "object.__class__"))) (hm_Apart : PySem.W.mroIn K cApart (.type "object") = some true)
    (n_Apart_first : PySem.W.findIn K (.ref cApart) "first" = some none)
    (n_Apart_second : PySem.W.findIn K (.ref cApart) "second" = some none)
    (n_Apart_many : PySem.W.findIn K (.ref cApart) "many" = some none)
    (i_Apart_Answer : PySem.W.kitOne K (.ref cApart) (.ref cAnswer) = some true)
    (i_Apart_Even : PySem.W.kitOne K (.ref cApart) (.ref cEven) = some false)
    (i_Apart_Apart : PySem.W.kitOne K (.ref cApart) (.ref cApart) = some true)
    (i_Apart_Begun : PySem.W.kitOne K (.ref cApart) (.ref cBegun) = some false)
    (i_Apart_Parted : PySem.W.kitOne K (.ref cApart) (.ref cParted) = some false)
    (pg_Begun : PySem.W.plainGet K cBegun Str.empty = true) (hd_Begun : PySem.W.hasDictIn K cBegun = true) (po_Begun : PySem.W.plainOver K cBegun = true) (sa_Begun : PySem.W.findIn K (.ref cBegun) "__setattr__" = some (some (.builtin "object.__setattr__"))) (ha_Begun : PySem.W.findIn K (.ref cBegun) "__class__" = some (some (.builtin "object.__class__"))) (hm_Begun : PySem.W.mroIn K cBegun (.type "object") = some true)
    (n_Begun_beats : PySem.W.findIn K (.ref cBegun) "beats" = some none)
    (n_Begun_places : PySem.W.findIn K (.ref cBegun) "places" = some none)
    (n_Begun_shift : PySem.W.findIn K (.ref cBegun) "shift" = some none)
    (i_Begun_Answer : PySem.W.kitOne K (.ref cBegun) (.ref cAnswer) = some true)
    (i_Begun_Even : PySem.W.kitOne K (.ref cBegun) (.ref cEven) = some false)
    (i_Begun_Apart : PySem.W.kitOne K (.ref cBegun) (.ref cApart) = some false)
    (i_Begun_Begun : PySem.W.kitOne K (.ref cBegun) (.ref cBegun) = some true)
    (i_Begun_Parted : PySem.W.kitOne K (.ref cBegun) (.ref cParted) = some false)
    (pg_Parted : PySem.W.plainGet K cParted Str.empty = true) (hd_Parted : PySem.W.hasDictIn K cParted = true) (po_Parted : PySem.W.plainOver K cParted = true) (sa_Parted : PySem.W.findIn K (.ref cParted) "__setattr__" = some (some (.builtin "object.__setattr__"))) (ha_Parted : PySem.W.findIn K (.ref cParted) "__class__" = some (some (.builtin "object.__class__"))) (hm_Parted : PySem.W.mroIn K cParted (.type "object") = some true)
    (n_Parted_first : PySem.W.findIn K (.ref cParted) "first" = some none)
    (n_Parted_second : PySem.W.findIn K (.ref cParted) "second" = some none)
    (n_Parted_many : PySem.W.findIn K (.ref cParted) "many" = some none)
    (i_Parted_Answer : PySem.W.kitOne K (.ref cParted) (.ref cAnswer) = some true)
    (i_Parted_Even : PySem.W.kitOne K (.ref cParted) (.ref cEven) = some false)
    (i_Parted_Apart : PySem.W.kitOne K (.ref cParted) (.ref cApart) = some false)
    (i_Parted_Begun : PySem.W.kitOne K (.ref cParted) (.ref cBegun) = some false)
    (i_Parted_Parted : PySem.W.kitOne K (.ref cParted) (.ref cParted) = some true)
    (hn_o : PySem.W.specialIn K (.builtin "object.__class__") "__get__" = some (some (.builtin "getset_descriptor.__get__"))) (ht_o : PySem.W.takesIn K (.builtin "object.__class__") = some true)
    (a_Even_init : PySem.W.findIn K (.ref cEven) "__init__" = some (some (.ref f_Even_init))) (b_Even_init : PySem.W.isFn K (.ref f_Even_init) = true) (l_Even_init : K.lookup f_Even_init = some ⟨oc_Even_init, od_Even_init, .func (PySem.W.fnOf "__init__" "Even.__init__" (defArgs sEvenInit) (defBody sEvenInit) (defScope sEvenInit) .none kV_Even_init dc_Even_init pm_Even_init an_Even_init cd_Even_init ct_Even_init), sl_Even_init⟩) (c_Even_init : PySem.W.codeIn K cd_Even_init "Even.__init__" = true) (k_Even_init : PySem.W.keepIn K (.ref f_Even_init) = true)
    (a_Apart_init : PySem.W.findIn K (.ref cApart) "__init__" = some (some (.ref f_Apart_init))) (b_Apart_init : PySem.W.isFn K (.ref f_Apart_init) = true) (l_Apart_init : K.lookup f_Apart_init = some ⟨oc_Apart_init, od_Apart_init, .func (PySem.W.fnOf "__init__" "Apart.__init__" (defArgs sApartInit) (defBody sApartInit) (defScope sApartInit) .none kV_Apart_init dc_Apart_init pm_Apart_init an_Apart_init cd_Apart_init ct_Apart_init), sl_Apart_init⟩) (c_Apart_init : PySem.W.codeIn K cd_Apart_init "Apart.__init__" = true) (k_Apart_init : PySem.W.keepIn K (.ref f_Apart_init) = true)
    (a_Begun_init : PySem.W.findIn K (.ref cBegun) "__init__" = some (some (.ref f_Begun_init))) (b_Begun_init : PySem.W.isFn K (.ref f_Begun_init) = true) (l_Begun_init : K.lookup f_Begun_init = some ⟨oc_Begun_init, od_Begun_init, .func (PySem.W.fnOf "__init__" "Begun.__init__" (defArgs sBegunInit) (defBody sBegunInit) (defScope sBegunInit) .none kV_Begun_init dc_Begun_init pm_Begun_init an_Begun_init cd_Begun_init ct_Begun_init), sl_Begun_init⟩) (c_Begun_init : PySem.W.codeIn K cd_Begun_init "Begun.__init__" = true) (k_Begun_init : PySem.W.keepIn K (.ref f_Begun_init) = true)
    (a_Parted_init : PySem.W.findIn K (.ref cParted) "__init__" = some (some (.ref f_Parted_init))) (b_Parted_init : PySem.W.isFn K (.ref f_Parted_init) = true) (l_Parted_init : K.lookup f_Parted_init = some ⟨oc_Parted_init, od_Parted_init, .func (PySem.W.fnOf "__init__" "Parted.__init__" (defArgs sPartedInit) (defBody sPartedInit) (defScope sPartedInit) .none kV_Parted_init dc_Parted_init pm_Parted_init an_Parted_init cd_Parted_init ct_Parted_init), sl_Parted_init⟩) (c_Parted_init : PySem.W.codeIn K cd_Parted_init "Parted.__init__" = true) (k_Parted_init : PySem.W.keepIn K (.ref f_Parted_init) = true)
    (a_Even_shows : PySem.W.findIn K (.ref cEven) "shows" = some (some (.ref f_Even_shows))) (b_Even_shows : PySem.W.isFn K (.ref f_Even_shows) = true) (l_Even_shows : K.lookup f_Even_shows = some ⟨oc_Even_shows, od_Even_shows, .func (PySem.W.fnOf "shows" "Even.shows" (defArgs sEvenShows) (defBody sEvenShows) (defScope sEvenShows) .none kV_Even_shows dc_Even_shows pm_Even_shows an_Even_shows cd_Even_shows ct_Even_shows), sl_Even_shows⟩) (c_Even_shows : PySem.W.codeIn K cd_Even_shows "Even.shows" = true) (k_Even_shows : PySem.W.keepIn K (.ref f_Even_shows) = true)
    (a_Apart_shows : PySem.W.findIn K (.ref cApart) "shows" = some (some (.ref f_Apart_shows))) (b_Apart_shows : PySem.W.isFn K (.ref f_Apart_shows) = true) (l_Apart_shows : K.lookup f_Apart_shows = some ⟨oc_Apart_shows, od_Apart_shows, .func (PySem.W.fnOf "shows" "Apart.shows" (defArgs sApartShows) (defBody sApartShows) (defScope sApartShows) .none kV_Apart_shows dc_Apart_shows pm_Apart_shows an_Apart_shows cd_Apart_shows ct_Apart_shows), sl_Apart_shows⟩) (c_Apart_shows : PySem.W.codeIn K cd_Apart_shows "Apart.shows" = true) (k_Apart_shows : PySem.W.keepIn K (.ref f_Apart_shows) = true)
    (a_Begun_shows : PySem.W.findIn K (.ref cBegun) "shows" = some (some (.ref f_Begun_shows))) (b_Begun_shows : PySem.W.isFn K (.ref f_Begun_shows) = true) (l_Begun_shows : K.lookup f_Begun_shows = some ⟨oc_Begun_shows, od_Begun_shows, .func (PySem.W.fnOf "shows" "Begun.shows" (defArgs sBegunShows) (defBody sBegunShows) (defScope sBegunShows) .none kV_Begun_shows dc_Begun_shows pm_Begun_shows an_Begun_shows cd_Begun_shows ct_Begun_shows), sl_Begun_shows⟩) (c_Begun_shows : PySem.W.codeIn K cd_Begun_shows "Begun.shows" = true) (k_Begun_shows : PySem.W.keepIn K (.ref f_Begun_shows) = true)
    (a_Parted_shows : PySem.W.findIn K (.ref cParted) "shows" = some (some (.ref f_Parted_shows))) (b_Parted_shows : PySem.W.isFn K (.ref f_Parted_shows) = true) (l_Parted_shows : K.lookup f_Parted_shows = some ⟨oc_Parted_shows, od_Parted_shows, .func (PySem.W.fnOf "shows" "Parted.shows" (defArgs sPartedShows) (defBody sPartedShows) (defScope sPartedShows) .none kV_Parted_shows dc_Parted_shows pm_Parted_shows an_Parted_shows cd_Parted_shows ct_Parted_shows), sl_Parted_shows⟩) (c_Parted_shows : PySem.W.codeIn K cd_Parted_shows "Parted.shows" = true) (k_Parted_shows : PySem.W.keepIn K (.ref f_Parted_shows) = true)
    (mk_Even : PySem.W.makesIn K cEven = true) (kc_Even : PySem.W.keepIn K (.ref cEven) = true)
    (mk_Apart : PySem.W.makesIn K cApart = true) (kc_Apart : PySem.W.keepIn K (.ref cApart) = true)
    (mk_Begun : PySem.W.makesIn K cBegun = true) (kc_Begun : PySem.W.keepIn K (.ref cBegun) = true)
    (mk_Parted : PySem.W.makesIn K cParted = true) (kc_Parted : PySem.W.keepIn K (.ref cParted) = true)
    (z_len : PySem.W.nsIn K mainGlobals "len" = some none)
    (z_range : PySem.W.nsIn K mainGlobals "range" = some none)
    (z_max : PySem.W.nsIn K mainGlobals "max" = some none)
    (z_min : PySem.W.nsIn K mainGlobals "min" = some none)
    (z_isinstance : PySem.W.nsIn K mainGlobals "isinstance" = some none)
    (z_sum : PySem.W.nsIn K mainGlobals "sum" = some none)
    (z_any : PySem.W.nsIn K mainGlobals "any" = some none)
    (z_all : PySem.W.nsIn K mainGlobals "all" = some none)
    (z_int : PySem.W.nsIn K mainGlobals "int" = some none)
    (z_str : PySem.W.nsIn K mainGlobals "str" = some none)
    (z_bool : PySem.W.nsIn K mainGlobals "bool" = some none)
    (z_list : PySem.W.nsIn K mainGlobals "list" = some none)
    (z_enumerate : PySem.W.nsIn K mainGlobals "enumerate" = some none)
    (gB : PySem.W.nsIn K mainGlobals "BEAT" = some (some (.str "x" tb))) (gR : PySem.W.nsIn K mainGlobals "REST" = some (some (.str "." tr))) :
    ∃ fd : FuncData, (∀ (s : Shared) (v : Value), BindsTo s fd ⟨[v], []⟩ [("_law_script", v)]) ∧ ∀ base : Heap, K.In base → base.Ns mainGlobals mg → FnOk l.prog w K mg base CX0 4 fa fd ["_law_script"] (spLaw K) := by
  have e := hfa.symm.trans (PySem.W.mg_of X G a9)
  cases e
  have B : Bn mg := ⟨PySem.W.mg_none_of X G z_len, PySem.W.mg_none_of X G z_range, PySem.W.mg_none_of X G z_max, PySem.W.mg_none_of X G z_min, PySem.W.mg_none_of X G z_isinstance, PySem.W.mg_none_of X G z_sum, PySem.W.mg_none_of X G z_any, PySem.W.mg_none_of X G z_all, PySem.W.mg_none_of X G z_int, PySem.W.mg_none_of X G z_str, PySem.W.mg_none_of X G z_bool, PySem.W.mg_none_of X G z_list, PySem.W.mg_none_of X G z_enumerate⟩
  have T : Tx mg := ⟨⟨_, PySem.W.mg_of X G gB, tx_x⟩, ⟨_, PySem.W.mg_of X G gR, tx_d⟩⟩
  have D1 : DefAt K mg "reckoned_places" sReckonedPlaces := ⟨_, _, fun_mk l1 c1 k1, PySem.W.mg_of X G a1⟩
  have D2 : DefAt K mg "more_by_two" sMoreByTwo := ⟨_, _, fun_mk l2 c2 k2, PySem.W.mg_of X G a2⟩
  have D3 : DefAt K mg "_law_reckoned" sLawReckoned := ⟨_, _, fun_mk l3 c3 k3, PySem.W.mg_of X G a3⟩
  have D4 : DefAt K mg "_law_drawn" sLawDrawn := ⟨_, _, fun_mk l4 c4 k4, PySem.W.mg_of X G a4⟩
  have D5 : DefAt K mg "_law_says" sLawSays := ⟨_, _, fun_mk l5 c5 k5, PySem.W.mg_of X G a5⟩
  have D6 : DefAt K mg "_law_more" sLawMore := ⟨_, _, fun_mk l6 c6 k6, PySem.W.mg_of X G a6⟩
  have D7 : DefAt K mg "_law_ring_right" sLawRingRight := ⟨_, _, fun_mk l7 c7 k7, PySem.W.mg_of X G a7⟩
  have D8 : DefAt K mg "_law_row_right" sLawRowRight := ⟨_, _, fun_mk l8 c8 k8, PySem.W.mg_of X G a8⟩
  have Z : Cz K mg cAnswer cEven cApart cBegun cParted := ⟨PySem.W.mg_of X G g_Answer, PySem.W.mg_of X G g_Even, PySem.W.mg_of X G g_Apart, PySem.W.mg_of X G g_Begun, PySem.W.mg_of X G g_Parted, ⟨⟨pg_Even, hd_Even, po_Even, sa_Even⟩, ha_Even, hn_o, ht_o, hm_Even⟩, n_Even_turn, i_Even_Answer, i_Even_Even, i_Even_Apart, i_Even_Begun, i_Even_Parted, ⟨⟨pg_Apart, hd_Apart, po_Apart, sa_Apart⟩, ha_Apart, hn_o, ht_o, hm_Apart⟩, n_Apart_first, n_Apart_second, n_Apart_many, i_Apart_Answer, i_Apart_Even, i_Apart_Apart, i_Apart_Begun, i_Apart_Parted, ⟨⟨pg_Begun, hd_Begun, po_Begun, sa_Begun⟩, ha_Begun, hn_o, ht_o, hm_Begun⟩, n_Begun_beats, n_Begun_places, n_Begun_shift, i_Begun_Answer, i_Begun_Even, i_Begun_Apart, i_Begun_Begun, i_Begun_Parted, ⟨⟨pg_Parted, hd_Parted, po_Parted, sa_Parted⟩, ha_Parted, hn_o, ht_o, hm_Parted⟩, n_Parted_first, n_Parted_second, n_Parted_many, i_Parted_Answer, i_Parted_Even, i_Parted_Apart, i_Parted_Begun, i_Parted_Parted⟩
  refine ⟨PySem.W.fnOf "law" "law" (defArgs sLaw) (defBody sLaw) (defScope sLaw) .none kV9 dc9 pm9 an9 cd9 ct9, fun s v => .of_eq rfl, fun base _ _ => ?_⟩
  have k_Even : C8.Mak l.prog w K mg base 1 "Even" cEven (spI cEven ["turn"]) [] := ok_Even_init ⟨_, _, fun_mk l_Even_init c_Even_init k_Even_init, ⟨mk_Even, a_Even_init, b_Even_init, kc_Even⟩⟩ Z
  have k_Apart : C8.Mak l.prog w K mg base 1 "Apart" cApart (spI cApart ["first", "second", "many"]) [] := ok_Apart_init ⟨_, _, fun_mk l_Apart_init c_Apart_init k_Apart_init, ⟨mk_Apart, a_Apart_init, b_Apart_init, kc_Apart⟩⟩ Z
  have k_Begun : C8.Mak l.prog w K mg base 1 "Begun" cBegun (spI cBegun ["beats", "places", "shift"]) [] := ok_Begun_init ⟨_, _, fun_mk l_Begun_init c_Begun_init k_Begun_init, ⟨mk_Begun, a_Begun_init, b_Begun_init, kc_Begun⟩⟩ Z
  have k_Parted : C8.Mak l.prog w K mg base 1 "Parted" cParted (spI cParted ["first", "second", "many"]) [] := ok_Parted_init ⟨_, _, fun_mk l_Parted_init c_Parted_init k_Parted_init, ⟨mk_Parted, a_Parted_init, b_Parted_init, kc_Parted⟩⟩ Z
  have c_reckoned_places : C8.Cal l.prog w K mg base 1 "reckoned_places" (spReckonedPlaces K) [] := ok_reckoned_places D1 B T
  have m_Even_shows : C8.Met l.prog w K mg base 2 cEven "shows" (spEvenShows cEven) [] := ok_Even_shows ⟨_, _, fun_mk l_Even_shows c_Even_shows k_Even_shows, ⟨a_Even_shows, b_Even_shows, k_Even_shows⟩⟩ Z B c_reckoned_places
  have c_more_by_two : C8.Cal l.prog w K mg base 1 "more_by_two" (spMoreByTwo K) [] := ok_more_by_two D2
  have m_Apart_shows : C8.Met l.prog w K mg base 2 cApart "shows" (spApartShows cApart) [] := ok_Apart_shows ⟨_, _, fun_mk l_Apart_shows c_Apart_shows k_Apart_shows, ⟨a_Apart_shows, b_Apart_shows, k_Apart_shows⟩⟩ Z B c_more_by_two
  have m_Begun_shows : C8.Met l.prog w K mg base 2 cBegun "shows" (spBegunShows cBegun) [] := ok_Begun_shows ⟨_, _, fun_mk l_Begun_shows c_Begun_shows k_Begun_shows, ⟨a_Begun_shows, b_Begun_shows, k_Begun_shows⟩⟩ Z B c_reckoned_places
  have m_Parted_shows : C8.Met l.prog w K mg base 2 cParted "shows" (spPartedShows cParted) [] := ok_Parted_shows ⟨_, _, fun_mk l_Parted_shows c_Parted_shows k_Parted_shows, ⟨a_Parted_shows, b_Parted_shows, k_Parted_shows⟩⟩ Z B c_more_by_two
  have c__law_reckoned : C8.Cal l.prog w K mg base 1 "_law_reckoned" (spLawReckoned K) [] := ok__law_reckoned D3 B
  have c__law_drawn : C8.Cal l.prog w K mg base 2 "_law_drawn" (spLawDrawn K) [] := ok__law_drawn D4 B c__law_reckoned
  have c__law_says : C8.Cal l.prog w K mg base 1 "_law_says" (spLawSays K) [] := ok__law_says D5 B
  have c__law_more : C8.Cal l.prog w K mg base 1 "_law_more" (spLawMore K) [] := ok__law_more D6
  have c__law_ring_right : C8.Cal l.prog w K mg base 3 "_law_ring_right" (spLawRingRightC cEven cApart) [] := ok__law_ring_right D7 Z B c__law_reckoned c__law_says c__law_more k_Even k_Apart m_Even_shows m_Apart_shows
  have c__law_row_right : C8.Cal l.prog w K mg base 3 "_law_row_right" (spLawRowRightC K cBegun cParted) [] := ok__law_row_right D8 Z B c__law_reckoned c__law_says c__law_more k_Begun k_Parted m_Begun_shows m_Parted_shows
  exact ok_law (fun_mk l9 c9 k9) Z B c__law_drawn c__law_says c__law_reckoned c__law_ring_right c__law_row_right k_Even k_Begun k_Parted m_Even_shows m_Begun_shows m_Parted_shows
end Eb
open PySem PySem.W PyProof.Rows
set_option maxHeartbeats 0 in
theorem PySem.Challenge.cw_evenbeats_k07_answers_by_hand_holds : PySem.Challenge.rw_evenbeats_k07_answers_by_hand.Holds := by
  w_on; o_law; k_head; (case hw => w_witness2)
  k_fill
  refine L2.walk_ofB (l := PySem.Challenge.rw_evenbeats_k07_answers_by_hand) (n := 63) (k := 4) (x := "_law_script") (CX := fun _ => L2.CX0) (sp := fun w => Eb.spLaw _) rfl (by decide) rfl ⟨rfl, by decide, by decide⟩ (fun w h Y => PySem.W.kIn_of Y) ?F (fun _ _ a ns hl hb _ hS => ⟨a, ns, rfl, hS, hl, hb, fun _ => rfl⟩) (fun _ _ _ _ _ h => h)
  case F =>
    intro w mg fa h KX G hmg
    refine' Eb.all_mk KX G hmg ?a1 ?l1 ?c1 ?k1 ?a2 ?l2 ?c2 ?k2 ?a3 ?l3 ?c3 ?k3 ?a4 ?l4 ?c4 ?k4 ?a5 ?l5 ?c5 ?k5 ?a6 ?l6 ?c6 ?k6 ?a7 ?l7 ?c7 ?k7 ?a8 ?l8 ?c8 ?k8 ?a9 ?l9 ?c9 ?k9 ?g_Answer ?g_Even ?g_Apart ?g_Begun ?g_Parted ?pg_Even ?hd_Even ?po_Even ?sa_Even ?ha_Even ?hm_Even ?n_Even_turn ?i_Even_Answer ?i_Even_Even ?i_Even_Apart ?i_Even_Begun ?i_Even_Parted ?pg_Apart ?hd_Apart ?po_Apart ?sa_Apart ?ha_Apart ?hm_Apart ?n_Apart_first ?n_Apart_second ?n_Apart_many ?i_Apart_Answer ?i_Apart_Even ?i_Apart_Apart ?i_Apart_Begun ?i_Apart_Parted ?pg_Begun ?hd_Begun ?po_Begun ?sa_Begun ?ha_Begun ?hm_Begun ?n_Begun_beats ?n_Begun_places ?n_Begun_shift ?i_Begun_Answer ?i_Begun_Even ?i_Begun_Apart ?i_Begun_Begun ?i_Begun_Parted ?pg_Parted ?hd_Parted ?po_Parted ?sa_Parted ?ha_Parted ?hm_Parted ?n_Parted_first ?n_Parted_second ?n_Parted_many ?i_Parted_Answer ?i_Parted_Even ?i_Parted_Apart ?i_Parted_Begun ?i_Parted_Parted ?hn_o ?ht_o ?a_Even_init ?b_Even_init ?l_Even_init ?c_Even_init ?k_Even_init ?a_Apart_init ?b_Apart_init ?l_Apart_init ?c_Apart_init ?k_Apart_init ?a_Begun_init ?b_Begun_init ?l_Begun_init ?c_Begun_init ?k_Begun_init ?a_Parted_init ?b_Parted_init ?l_Parted_init ?c_Parted_init ?k_Parted_init ?a_Even_shows ?b_Even_shows ?l_Even_shows ?c_Even_shows ?k_Even_shows ?a_Apart_shows ?b_Apart_shows ?l_Apart_shows ?c_Apart_shows ?k_Apart_shows ?a_Begun_shows ?b_Begun_shows ?l_Begun_shows ?c_Begun_shows ?k_Begun_shows ?a_Parted_shows ?b_Parted_shows ?l_Parted_shows ?c_Parted_shows ?k_Parted_shows ?mk_Even ?kc_Even ?mk_Apart ?kc_Apart ?mk_Begun ?kc_Begun ?mk_Parted ?kc_Parted ?z_len ?z_range ?z_max ?z_min ?z_isinstance ?z_sum ?z_any ?z_all ?z_int ?z_str ?z_bool ?z_list ?z_enumerate ?gB ?gR
    (case a1 => k_is); (case l1 => k_is); (case c1 => k_is); (case k1 => k_is); (case a2 => k_is); (case l2 => k_is); (case c2 => k_is); (case k2 => k_is)
    (case a3 => k_is); (case l3 => k_is); (case c3 => k_is); (case k3 => k_is); (case a4 => k_is); (case l4 => k_is); (case c4 => k_is); (case k4 => k_is)
    (case a5 => k_is); (case l5 => k_is); (case c5 => k_is); (case k5 => k_is); (case a6 => k_is); (case l6 => k_is); (case c6 => k_is); (case k6 => k_is)
    (case a7 => k_is); (case l7 => k_is); (case c7 => k_is); (case k7 => k_is); (case a8 => k_is); (case l8 => k_is); (case c8 => k_is); (case k8 => k_is)
    (case a9 => k_is); (case l9 => k_is); (case c9 => k_is); (case k9 => k_is); (case g_Answer => k_is); (case g_Even => k_is); (case g_Apart => k_is); (case g_Begun => k_is)
    (case g_Parted => k_is); (case pg_Even => k_is); (case hd_Even => k_is); (case po_Even => k_is); (case sa_Even => k_is); (case ha_Even => k_is); (case hm_Even => k_is); (case n_Even_turn => k_is)
    (case i_Even_Answer => kit_is); (case i_Even_Even => kit_is); (case i_Even_Apart => kit_is); (case i_Even_Begun => kit_is); (case i_Even_Parted => kit_is); (case pg_Apart => k_is); (case hd_Apart => k_is); (case po_Apart => k_is)
    (case sa_Apart => k_is); (case ha_Apart => k_is); (case hm_Apart => k_is); (case n_Apart_first => k_is); (case n_Apart_second => k_is); (case n_Apart_many => k_is); (case i_Apart_Answer => kit_is); (case i_Apart_Even => kit_is)
    (case i_Apart_Apart => kit_is); (case i_Apart_Begun => kit_is); (case i_Apart_Parted => kit_is); (case pg_Begun => k_is); (case hd_Begun => k_is); (case po_Begun => k_is); (case sa_Begun => k_is); (case ha_Begun => k_is)
    (case hm_Begun => k_is); (case n_Begun_beats => k_is); (case n_Begun_places => k_is); (case n_Begun_shift => k_is); (case i_Begun_Answer => kit_is); (case i_Begun_Even => kit_is); (case i_Begun_Apart => kit_is); (case i_Begun_Begun => kit_is)
    (case i_Begun_Parted => kit_is); (case pg_Parted => k_is); (case hd_Parted => k_is); (case po_Parted => k_is); (case sa_Parted => k_is); (case ha_Parted => k_is); (case hm_Parted => k_is); (case n_Parted_first => k_is)
    (case n_Parted_second => k_is); (case n_Parted_many => k_is); (case i_Parted_Answer => kit_is); (case i_Parted_Even => kit_is); (case i_Parted_Apart => kit_is); (case i_Parted_Begun => kit_is); (case i_Parted_Parted => kit_is); (case hn_o => k_is)
    (case ht_o => k_is); (case a_Even_init => k_is); (case b_Even_init => k_is); (case l_Even_init => k_is); (case c_Even_init => k_is); (case k_Even_init => k_is); (case a_Apart_init => k_is); (case b_Apart_init => k_is)
    (case l_Apart_init => k_is); (case c_Apart_init => k_is); (case k_Apart_init => k_is); (case a_Begun_init => k_is); (case b_Begun_init => k_is); (case l_Begun_init => k_is); (case c_Begun_init => k_is); (case k_Begun_init => k_is)
    (case a_Parted_init => k_is); (case b_Parted_init => k_is); (case l_Parted_init => k_is); (case c_Parted_init => k_is); (case k_Parted_init => k_is); (case a_Even_shows => k_is); (case b_Even_shows => k_is); (case l_Even_shows => k_is)
    (case c_Even_shows => k_is); (case k_Even_shows => k_is); (case a_Apart_shows => k_is); (case b_Apart_shows => k_is); (case l_Apart_shows => k_is); (case c_Apart_shows => k_is); (case k_Apart_shows => k_is); (case a_Begun_shows => k_is)
    (case b_Begun_shows => k_is); (case l_Begun_shows => k_is); (case c_Begun_shows => k_is); (case k_Begun_shows => k_is); (case a_Parted_shows => k_is); (case b_Parted_shows => k_is); (case l_Parted_shows => k_is); (case c_Parted_shows => k_is)
    (case k_Parted_shows => k_is); (case mk_Even => k_is); (case kc_Even => k_is); (case mk_Apart => k_is); (case kc_Apart => k_is); (case mk_Begun => k_is); (case kc_Begun => k_is); (case mk_Parted => k_is)
    (case kc_Parted => k_is); (case z_len => k_is); (case z_range => k_is); (case z_max => k_is); (case z_min => k_is); (case z_isinstance => k_is); (case z_sum => k_is); (case z_any => k_is)
    (case z_all => k_is); (case z_int => k_is); (case z_str => k_is); (case z_bool => k_is); (case z_list => k_is); (case z_enumerate => k_is); (case gB => k_is); (case gR => k_is)
