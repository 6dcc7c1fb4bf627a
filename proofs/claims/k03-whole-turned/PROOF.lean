import PyProof.Rows.All
import Wide.All
import OpenK.AllK
import Wide.FinOn
import HandS.ForMost
import HandS.ForExc
import HandS.Evl
import HandS.StrMore
import HandS.Style
import HandS.IsInst
import HandS.Wide
import HandS.WideBits
import HandS.EndBits
import HandS.Walk
import HandS.Codes
import HandS.TryOnly
import HandS.ExcOwn
import HandS.ExcIs
import HandS.CallLocal
import HandS.SetFor
import HandS.Replace
import HandS.NoneIn
import PyProof.StrLawsFirst
import PyProof.StrOps2
import PyProof.MaxThree
import PyProof.SliceStr2
import KE.KRevSl
import KE.RegKIsAll
import PySem.Challenge.RW_evenbeats_k03_whole_turned
set_option Elab.async false
set_option linter.all false
set_option maxRecDepth 100000
set_option maxHeartbeats 4000000
/-! ### rows of beats and rests as texts -/
namespace Eb
open PySem L2 TL Builtin Builtin.Str
def sg (b : Bool) : Nat := if b then 120 else 46
theorem sg_inj : ∀ {a b : Bool}, sg a = sg b → a = b
  | true, true, _ => rfl
  | false, false, _ => rfl
  | true, false, h => by cases h
  | false, true, h => by cases h
def enc (bs : List Bool) : Str := ⟨(bs.map sg).toArray⟩
theorem tl_enc (bs : List Bool) : tl (enc bs) = bs.map sg := rfl
theorem cps_enc (bs : List Bool) : (enc bs).cps.toList = bs.map sg := rfl
theorem len_enc (bs : List Bool) : (enc bs).length = bs.length := by
  rw [len_tl, tl_enc, List.length_map]
theorem map_sg_inj : ∀ {a b : List Bool}, a.map sg = b.map sg → a = b
  | [], [], _ => rfl
  | [], _ :: _, h => by cases h
  | _ :: _, [], h => by cases h
  | x :: a, y :: b, h => by
    rw [List.map_cons, List.map_cons] at h
    injection h with h1 h2
    rw [sg_inj h1, map_sg_inj h2]
theorem enc_inj {a b : List Bool} (h : enc a = enc b) : a = b := by
  have h2 := congrArg tl h
  rw [tl_enc, tl_enc] at h2
  exact map_sg_inj h2
theorem enc_app (a b : List Bool) : enc a ++ enc b = enc (a ++ b) := ext_tl (by rw [tl_append, tl_enc, tl_enc, tl_enc, List.map_append])
theorem enc_x : ("x" : Str) = enc [true] := by decide +kernel
theorem enc_d : ("." : Str) = enc [false] := by decide +kernel
theorem enc_0 : ("" : Str) = enc [] := by decide +kernel
theorem enc_dx : (".x" : Str) = enc [false, true] := by decide +kernel
theorem enc_emp : Str.empty = enc [] := rfl
theorem dec_str (a b : List Bool) : decide (V.str (enc a) = V.str (enc b)) = decide (a = b) := by
  by_cases h : a = b
  · subst h
    rw [decide_eq_true rfl, decide_eq_true rfl]
  · rw [decide_eq_false h, decide_eq_false]
    intro q
    injection q with q2
    exact h (enc_inj q2)
theorem dec_int (a b : Int) : decide (V.int a = V.int b) = decide (a = b) := by
  by_cases h : a = b
  · subst h
    rw [decide_eq_true rfl, decide_eq_true rfl]
  · rw [decide_eq_false h, decide_eq_false]
    intro q
    injection q with q2
    exact h q2
theorem dec_bl (a b : Bool) : decide (V.bl a = V.bl b) = (a == b) := by
  cases a <;> cases b <;> decide
/-! join -/
theorem joinL0 : ∀ ls : List (List Bool), joinL [] ((ls.map enc).map tl) = ls.flatten.map sg
  | [] => rfl
  | [a] => by
    rw [List.flatten_cons, List.flatten_nil, List.append_nil]
    rfl
  | a :: b :: r => by
    rw [List.flatten_cons, List.map_append, ← joinL0 (b :: r)]
    rfl
theorem join0 (ls : List (List Bool)) : Txt.join (enc []) (ls.map enc) = enc ls.flatten := by
  rw [join_eq]
  refine ext_tl ?_
  rw [tl_join]
  exact joinL0 ls
theorem flat_one : ∀ r : List Bool, (List.map (fun b => [b]) r).flatten = r
  | [] => rfl
  | a :: r => by
    rw [List.map_cons, List.flatten_cons, flat_one r]
    rfl
theorem join_one (bs : List Bool) : Txt.join (enc []) (bs.map fun b => enc [b]) = enc bs := by
  have h := join0 (bs.map fun b => [b])
  rw [List.map_map] at h
  refine h.trans ?_
  rw [flat_one]
/-! count -/
theorem cnt_run (x : Str) (c : Nat) : ∀ (n a : Nat) (st : Array Nat × Nat), a + n = x.length + 1 → st.2 ≤ a → st.1.size ≤ a →
    (forIn (List.range' a n) st (StrLaws.occBody x ⟨#[c]⟩ x.length (x.length + 1))).run.fst.toList.length = st.1.size + ((tl x).drop a).count c := by
  intro n
  induction n with
  | zero =>
    intro a st h _ _
    rw [List.drop_eq_nil_of_le (by rw [← len_tl]; omega)]
    simp
  | succ n ih =>
    intro a st h h2 h3
    rw [List.range'_succ, List.forIn_cons]
    unfold StrLaws.occBody
    have key := StrLaws.subAt_one x c a
    by_cases hx : (tl x)[a]? = some c
    · have k2 := key.mpr hx
      have c1 : ((st.fst.size < x.length + 1 ∧ st.snd ≤ a) ∧ a + (⟨#[c]⟩ : Str).length ≤ x.length) ∧ subAt x ⟨#[c]⟩ a = true := by
        refine ⟨⟨⟨?_, h2⟩, k2.1⟩, k2.2⟩
        have := k2.1
        omega
      rw [if_pos c1]
      have e := ih (a + 1) (st.fst.push a, a + (⟨#[c]⟩ : Str).length) (by omega) (Nat.le_refl _) (by rw [Array.size_push]; omega)
      refine e.trans ?_
      obtain ⟨hlt, hv⟩ := List.getElem?_eq_some_iff.mp hx
      rw [Array.size_push, List.drop_eq_getElem_cons hlt, hv, List.count_cons_self]
      omega
    · have c2 : ¬ (((st.fst.size < x.length + 1 ∧ st.snd ≤ a) ∧ a + (⟨#[c]⟩ : Str).length ≤ x.length) ∧ subAt x ⟨#[c]⟩ a = true) := fun q => hx (key.mp ⟨q.1.2, q.2⟩)
      rw [if_neg c2]
      have e := ih (a + 1) (st.fst, st.snd) (by omega) (by show st.snd ≤ a + 1; omega) (by show st.fst.size ≤ a + 1; omega)
      refine e.trans ?_
      by_cases hlt : a < (tl x).length
      · rw [List.drop_eq_getElem_cons hlt, List.count_cons_of_ne]
        intro q
        exact hx (by rw [List.getElem?_eq_getElem hlt, ← q])
      · rw [List.drop_eq_nil_of_le (by omega), List.drop_eq_nil_of_le (by omega)]
theorem count_one (x : Str) (c : Nat) : Txt.count x ⟨#[c]⟩ = ((tl x).count c : Nat) := by
  unfold Txt.count
  rw [StrLaws.occ_eq, cnt_run x c (x.length + 1 - 0) 0 (#[], 0) (by omega) (Nat.le_refl _) (Nat.zero_le _)]
  simp
theorem count_sg : ∀ (bs : List Bool), (bs.map sg).count 120 = bs.count true
  | [] => rfl
  | true :: r => by
    rw [List.map_cons, List.count_cons_self, ← count_sg r]
    exact List.count_cons_self
  | false :: r => by
    rw [List.map_cons, List.count_cons_of_ne (by decide), count_sg r]
    exact (List.count_cons_of_ne (by decide)).symm
theorem count_enc (bs : List Bool) : Txt.count (enc bs) (enc [true]) = (bs.count true : Nat) := by
  show Txt.count (enc bs) ⟨#[120]⟩ = _
  rw [count_one, tl_enc, count_sg]
/-! find -/
theorem at_enc (ws bs : List Bool) (i : Nat) : StrLaws.At (enc ws) (enc bs) (enc ws).length i ↔ i + bs.length ≤ ws.length ∧ (ws.drop i).take bs.length = bs := by
  unfold StrLaws.At
  rw [StrLaws.subAt_eq, beq_iff_eq, len_enc, len_enc]
  show _ ∧ ((ws.map sg).drop i).take bs.length = bs.map sg ↔ _
  rw [← List.map_drop, ← List.map_take]
  exact ⟨fun h => ⟨h.1, map_sg_inj h.2⟩, fun h => ⟨h.1, congrArg _ h.2⟩⟩
theorem find_enc (ws bs : List Bool) : (Txt.find (enc ws) (enc bs) = -1 ∧ ∀ i, ¬ (i + bs.length ≤ ws.length ∧ (ws.drop i).take bs.length = bs)) ∨
    ∃ i : Nat, Txt.find (enc ws) (enc bs) = (i : Int) ∧ i + bs.length ≤ ws.length ∧ (ws.drop i).take bs.length = bs ∧ ∀ k, k < i → ¬ (k + bs.length ≤ ws.length ∧ (ws.drop k).take bs.length = bs) := by
  rcases StrLaws.occ_head (enc ws) (enc bs) 1 (Nat.le_refl _) with ⟨h, hn⟩ | ⟨i, r, h, ha, hn⟩
  · refine .inl ⟨by unfold Txt.find; rw [h], fun i q => hn i ((at_enc ws bs i).mpr q)⟩
  · have h1 := (at_enc ws bs i).mp ha
    exact .inr ⟨i, by unfold Txt.find; rw [h], h1.1, h1.2, fun k hk q => hn k hk ((at_enc ws bs k).mpr q)⟩
/-! slices, signs -/
def cutL (bs : List Bool) (lo hi : Option Int) : List Bool := (bs.drop (HT.sIx bs.length 0 lo)).take (HT.sIx bs.length bs.length hi - HT.sIx bs.length 0 lo)
theorem cut_enc (bs : List Bool) (lo hi : Option Int) : cutS (enc bs) lo hi = enc (cutL bs lo hi) := by
  refine ext_tl ?_
  show (((bs.map sg).drop (HT.sIx (enc bs).length 0 lo)).take _) = _
  rw [len_enc, ← List.map_drop, ← List.map_take]
  rfl
theorem cutL_len (bs : List Bool) (lo hi : Option Int) : (cutL bs lo hi).length ≤ bs.length := by
  unfold cutL
  rw [List.length_take, List.length_drop]
  omega
theorem sIx_nn (n : Nat) (d : Nat) (i : Nat) : HT.sIx n d (some (i : Int)) = min i n := HT.sIx_nat n d i
theorem cutL_to (bs : List Bool) (i : Nat) : cutL bs none (some (i : Int)) = bs.take i := by
  unfold cutL
  rw [HT.sIx_none, sIx_nn, List.drop_zero, Nat.sub_zero]
  rcases Nat.le_total i bs.length with h | h
  · rw [Nat.min_eq_left h]
  · rw [Nat.min_eq_right h, List.take_length, List.take_of_length_le h]
theorem cutL_from (bs : List Bool) (i : Nat) : cutL bs (some (i : Int)) none = bs.drop i := by
  unfold cutL
  rw [HT.sIx_none, sIx_nn]
  rcases Nat.le_total i bs.length with h | h
  · rw [Nat.min_eq_left h, List.take_of_length_le (by rw [List.length_drop]; omega)]
  · rw [Nat.min_eq_right h, List.drop_length, List.drop_eq_nil_of_le h, List.take_nil]
theorem cutL_mid (bs : List Bool) (i j : Nat) : cutL bs (some (i : Int)) (some (j : Int)) = (bs.drop i).take (j - i) := by
  unfold cutL
  rw [sIx_nn, sIx_nn]
  rcases Nat.le_total i bs.length with h | h
  · rw [Nat.min_eq_left h]
    rcases Nat.le_total j bs.length with h2 | h2
    · rw [Nat.min_eq_left h2]
    · rw [Nat.min_eq_right h2, List.take_of_length_le (by rw [List.length_drop]; omega), List.take_of_length_le (by rw [List.length_drop]; omega)]
  · rw [Nat.min_eq_right h, List.drop_length, List.drop_eq_nil_of_le h, List.take_nil, List.take_nil]
theorem mem_enc (bs : List Bool) : decide (120 ∈ (enc bs).cps.toList) = bs.contains true := by
  rw [cps_enc]
  induction bs with
  | nil => rfl
  | cons a r ih =>
    rw [List.map_cons, List.contains_cons, ← ih]
    cases a <;> simp [sg]
theorem mem_encF (bs : List Bool) : decide (46 ∈ (enc bs).cps.toList) = bs.contains false := by
  rw [cps_enc]
  induction bs with
  | nil => rfl
  | cons a r ih =>
    rw [List.map_cons, List.contains_cons, ← ih]
    cases a <;> simp [sg]
end Eb
/-! ### what the readings give, over rows -/
local macro_rules | `(tactic| walk_at "sz") => `(tactic| first | assumption | omega | decide | (simp only [List.length_append, List.length_cons, List.length_nil, List.length_map, List.length_replicate, List.length_range, List.length_reverse] at *; omega))
namespace Eb
open PySem L2 TL Evl Builtin Builtin.Str
theorem sz {n : Nat} (h : n ≤ 100000) : n ≤ sizeLine := sz_of h
section
variable {K : PySem.W.Frag} {σ : L2.St} {H H' : Hp} {ta tb tc te : TE} {x y z v : V} {bs cs : List Bool} {i j k : Int}
theorem ev_eq (h : Ev te σ H v) (e : v = z) : Ev te σ H z := e ▸ h
theorem et_eq {t : TT} {a b : Bool} (h : EvT t σ H a) (e : a = b) : EvT t σ H b := e ▸ h
theorem ev_cmp {p : Int → Int → Bool} (ha : Ev ta σ H (.int i)) (hb : Ev tb σ H (.int j)) : Ev (tCmp p ta tb) σ H (.bl (p i j)) := fun H1 e Q q =>
  ha H1 e _ fun H2 e2 => hb H2 (e.trans e2) _ fun H3 e3 => ⟨i, j, rfl, rfl, q H3 (e2.trans e3)⟩
theorem et_cmp {p : Int → Int → Bool} (ha : Ev ta σ H (.int i)) (hb : Ev tb σ H (.int j)) : EvT (tB (tCmp p ta tb)) σ H (p i j) := et_B (ev_cmp ha hb)
theorem rv_eqS {a b : List Bool} : RV rEq (.str (enc a)) (.str (enc b)) H (.bl (decide (a = b))) := fun H1 _ _ q => ⟨rfl, by rw [dec_str]; exact q H1 (Ex.refl H1)⟩
theorem rv_neS {a b : List Bool} : RV rNe (.str (enc a)) (.str (enc b)) H (.bl (!decide (a = b))) := fun H1 _ _ q => ⟨rfl, by rw [dec_str]; exact q H1 (Ex.refl H1)⟩
theorem rv_eqB {a b : Bool} : RV rEq (.bl a) (.bl b) H (.bl (a == b)) := fun H1 _ _ q => ⟨rfl, by rw [Eb.dec_bl]; exact q H1 (Ex.refl H1)⟩
theorem rv_neB {a b : Bool} : RV rNe (.bl a) (.bl b) H (.bl (!(a == b))) := fun H1 _ _ q => ⟨rfl, by rw [Eb.dec_bl]; exact q H1 (Ex.refl H1)⟩
theorem ev_chain {p q : Int → Int → Bool} (ha : Ev ta σ H (.int i)) (hb : Ev tb σ H (.int j)) (hc : Ev tc σ H (.int k)) :
    Ev (tChain (rI0 fun i j => .bl (p i j)) (rI0 fun i j => .bl (q i j)) ta tb tc) σ H (.bl (p i j && q j k)) := fun H1 e Q w =>
  ha H1 e _ fun H2 e2 => hb H2 (e.trans e2) _ fun H3 e3 => ⟨i, j, rfl, rfl, p i j, rfl, by
    cases hp : p i j with
    | true =>
      rw [hp] at w
      rw [if_pos rfl]
      exact hc H3 ((e.trans e2).trans e3) _ fun H4 e4 => ⟨j, k, rfl, rfl, w H4 ((e2.trans e3).trans e4)⟩
    | false =>
      rw [hp] at w
      rw [if_neg Bool.false_ne_true]
      exact w H3 (e2.trans e3)⟩
theorem et_test' {b : Bool} (h : Ev te σ H (.bl b)) : EvT (tTest te) σ H b := et_test h
theorem rv_mul (h : CMul i j) : RV (rI CMul fun i j => .int (i * j)) (.int i) (.int j) H (.int (i * j)) := rv_I h
theorem mul_l (h1 : -18446744073709551616 < i) (h2 : i < 18446744073709551616) : CMul i j := .inl ⟨h1, h2⟩
theorem mul_r (h1 : -18446744073709551616 < j) (h2 : j < 18446744073709551616) : CMul i j := .inr ⟨h1, h2⟩
/-! texts -/
theorem rv_catS (ha : bs.length ≤ 100000) (hb : cs.length ≤ 100000) : RV (fun x y H Q => ∃ i j, x = .str i ∧ y = .str j ∧ i.length + j.length ≤ sizeLine ∧ Q (.str (i ++ j)) H) (.str (enc bs)) (.str (enc cs)) H (.str (enc (bs ++ cs))) :=
  fun H1 _ _ q => ⟨_, _, rfl, rfl, by
    rw [len_enc, len_enc]
    exact Nat.le_trans (Nat.add_le_add ha hb) (by decide), by
    rw [enc_app]
    exact q H1 (Ex.refl H1)⟩
theorem rc_lenS (h : bs.length ≤ 100000) : RC (fun xs H Q => ∃ z, xs = [.str z] ∧ z.length ≤ sizeLine ∧ Q (.int z.length) H) [.str (enc bs)] H (.int (bs.length : Int)) := fun H1 _ _ q =>
  ⟨_, rfl, by
    rw [len_enc]
    exact sz h, by
    rw [len_enc]
    exact q H1 (Ex.refl H1)⟩
theorem rc_lenL {p : Addr} {xs : List V} (h : SqL K H p xs) : RC (fun xs H Q => ∃ p ys, xs = [.ref p] ∧ (SqL K H p ys ∨ SqT K H p ys) ∧ Q (.int ys.length) H) [.ref p] H (.int (xs.length : Int)) := fun H1 e _ q =>
  ⟨p, xs, rfl, .inl (ex_l e h), q H1 (Ex.refl H1)⟩
theorem at_enc1 {n : Nat} {b : Bool} (h : bs[n]? = some b) : atI (enc bs).cps.toList (n : Int) = some (sg b) := by
  refine atI_nat ?_
  rw [cps_enc, List.getElem?_map, h]
  rfl
theorem rv_ixSn {n : Nat} {b : Bool} (hl : bs.length ≤ 100000) (h : bs[n]? = some b) : RV rIxS (.str (enc bs)) (.int (n : Int)) H (.str (enc [b])) := rv_ixS (by rw [len_enc]; exact hl) (at_enc1 h)
theorem rv_ixSi {n : Nat} {b : Bool} (hl : bs.length ≤ 100000) (hi : i = (n : Int)) (h : bs[n]? = some b) : RV rIxS (.str (enc bs)) (.int i) H (.str (enc [b])) := by
  rw [hi]
  exact rv_ixSn hl h
theorem ev_slS {tl th : TO} {lo hi : Option Int} (h : Ev te σ H (.str (enc bs))) (h1 : EvO tl σ H lo) (h2 : EvO th σ H hi) (hl : bs.length ≤ 100000) : Ev (tSl rSlS te tl th) σ H (.str (enc (cutL bs lo hi))) := fun H1 e _ q =>
  h H1 e _ fun H2 e2 => h1 H2 (e.trans e2) _ fun H3 e3 => h2 H3 ((e.trans e2).trans e3) _ fun H4 e4 =>
    ⟨_, rfl, by
      rw [len_enc]
      exact sz hl, by
      rw [cut_enc]
      exact q H4 ((e2.trans e3).trans e4)⟩
/-! a text's methods: one argument -/
theorem ev_m1 {r : V → List V → Hp → VK → Prop} {a : Str} (h : Ev ta σ H (.str a)) (hb : Ev tb σ H y) (hr : ∀ H1, Ex H H1 → ∀ Q : VK, (∀ H2, Ex H1 H2 → Q z H2) → r (.str a) [y] H1 Q) : Ev (tM1 r ta tb) σ H z := fun H1 e Q q =>
  h H1 e _ fun H2 e2 => ⟨⟨a, rfl⟩, hb H2 (e.trans e2) _ fun H3 e3 => hr H3 ((e.trans e2).trans e3) Q fun H4 e4 => q H4 ((e2.trans e3).trans e4)⟩
theorem ev_cntS (h : Ev ta σ H (.str (enc bs))) (hb : Ev tb σ H (.str (enc [true]))) : Ev (tM1 (fun x xs H Q => ∃ a b, x = .str a ∧ xs = [.str b] ∧ Q (.int (Txt.count a b)) H) ta tb) σ H (.int (bs.count true : Nat)) :=
  ev_m1 h hb fun H1 _ _ q => ⟨_, _, rfl, rfl, by
    rw [count_enc]
    exact q H1 (Ex.refl H1)⟩
theorem ev_findS (h : Ev ta σ H (.str (enc bs))) (hb : Ev tb σ H (.str (enc cs))) : Ev (tM1 (fun x xs H Q => ∃ a b, x = .str a ∧ xs = [.str b] ∧ Q (.int (Txt.find a b)) H) ta tb) σ H (.int (Txt.find (enc bs) (enc cs))) :=
  ev_m1 h hb fun H1 _ _ q => ⟨_, _, rfl, rfl, q H1 (Ex.refl H1)⟩
/-- glue.join(a new list of rows) -/
theorem ev_joinN {ls : List (List Bool)} (h : Ev ta σ H (.str (enc []))) (hb : EvL tb σ H (ls.map fun l => V.str (enc l))) (hl : ls.length ≤ 100000) (h1 : ∀ l ∈ ls, l.length ≤ 100) :
    Ev (tM1 (fun x xs H Q => ∃ a p, ∃ ys : List Str, x = .str a ∧ xs = [.ref p] ∧ (SqL K H p (ys.map V.str) ∨ SqT K H p (ys.map V.str)) ∧ (ys.map (·.length)).sum + ys.length * a.length ≤ 16777216 ∧ Q (.str (Txt.join a ys)) H) ta tb) σ H (.str (enc ls.flatten)) := fun H1 e Q q =>
  h H1 e _ fun H2 e2 => ⟨⟨_, rfl⟩, hb H2 (e.trans e2) _ fun p H3 hp e3 hx => ⟨enc [], p, ls.map enc, rfl, rfl, .inl (.inl (.inl (by
      rw [List.map_map]
      exact hx))), by
      have hs : ∀ ls : List (List Bool), (∀ l ∈ ls, l.length ≤ 100) → ((ls.map enc).map (·.length)).sum ≤ 100 * ls.length := by
        intro ls
        induction ls with
        | nil => exact fun _ => Nat.le_refl _
        | cons a r ih =>
          intro h
          have h2 := h a List.mem_cons_self
          have h3 := ih fun l hm => h l (List.mem_cons_of_mem _ hm)
          rw [List.map_cons, List.map_cons, List.sum_cons, len_enc, List.length_cons]
          omega
      have h2 := hs ls h1
      rw [List.length_map, len_enc]
      simp only [List.length_nil, Nat.mul_zero, Nat.add_zero]
      omega, by
      rw [join0]
      exact q H3 (e2.trans e3)⟩⟩
/-- .. of a list that stands -/
theorem ev_joinL {ls : List (List Bool)} {p : Addr} (h : Ev ta σ H (.str (enc []))) (hb : Ev tb σ H (.ref p)) (hx : SqL K H p (ls.map fun l => V.str (enc l))) (hl : ls.length ≤ 100000) (h1 : ∀ l ∈ ls, l.length ≤ 100) :
    Ev (tM1 (fun x xs H Q => ∃ a p, ∃ ys : List Str, x = .str a ∧ xs = [.ref p] ∧ (SqL K H p (ys.map V.str) ∨ SqT K H p (ys.map V.str)) ∧ (ys.map (·.length)).sum + ys.length * a.length ≤ 16777216 ∧ Q (.str (Txt.join a ys)) H) ta tb) σ H (.str (enc ls.flatten)) := fun H1 e Q q =>
  h H1 e _ fun H2 e2 => ⟨⟨_, rfl⟩, hb H2 (e.trans e2) _ fun H3 e3 => ⟨enc [], p, ls.map enc, rfl, rfl, .inl (by
      rw [List.map_map]
      exact ex_l ((e.trans e2).trans e3) hx), by
      have hs : ∀ ls : List (List Bool), (∀ l ∈ ls, l.length ≤ 100) → ((ls.map enc).map (·.length)).sum ≤ 100 * ls.length := by
        intro ls
        induction ls with
        | nil => exact fun _ => Nat.le_refl _
        | cons a r ih =>
          intro h
          have h2 := h a List.mem_cons_self
          have h3 := ih fun l hm => h l (List.mem_cons_of_mem _ hm)
          rw [List.map_cons, List.map_cons, List.sum_cons, len_enc, List.length_cons]
          omega
      have h2 := hs ls h1
      rw [List.length_map, len_enc]
      simp only [List.length_nil, Nat.mul_zero, Nat.add_zero]
      omega, by
      rw [join0]
      exact q H3 (e2.trans e3)⟩⟩
/-! isinstance -/
theorem rc_isi {c : V} {t u : Value} {b : Bool} (hc : ClsV c u) (ht : ∀ H1, Ex H H1 → TyX K H1 x t) (hk : PySem.W.kitOne K t u = some b) : RC (rIsi K) [x, c] H (.bl b) := fun H1 e _ q => ⟨x, c, t, u, b, rfl, hc, ht H1 e, hk, q H1 (Ex.refl H1)⟩
theorem rc_isiI {n : String} {b : Bool} (hk : kitB "int" n = some b) : RC (rIsi K) [.int i, .ty n] H (.bl b) := rc_isi (.ty n) (fun _ _ => .base (.int i)) (kit_ty hk)
theorem rc_isiB {n : String} {b c : Bool} (hk : kitB "bool" n = some b) : RC (rIsi K) [.bl c, .ty n] H (.bl b) := rc_isi (.ty n) (fun _ _ => .base (.bl c)) (kit_ty hk)
theorem rc_isiS {n : String} {s : Str} {b : Bool} (hk : kitB "str" n = some b) : RC (rIsi K) [.str s, .ty n] H (.bl b) := rc_isi (.ty n) (fun _ _ => .base (.str s)) (kit_ty hk)
/-! sums, the greatest, the least -/
def mx (ns : List Int) : Int := ns.max?.getD 0
def mn (ns : List Int) : Int := ns.min?.getD 0
theorem mx_of {ns : List Int} {m : Int} (h1 : m ∈ ns) (h2 : ∀ y, y ∈ ns → y ≤ m) : m = mx ns := by
  unfold mx
  rw [List.max?_eq_some_iff.mpr ⟨h1, h2⟩]
  rfl
theorem mn_of {ns : List Int} {m : Int} (h1 : m ∈ ns) (h2 : ∀ y, y ∈ ns → m ≤ y) : m = mn ns := by
  unfold mn
  rw [List.min?_eq_some_iff.mpr ⟨h1, h2⟩]
  rfl
theorem mx_mem {ns : List Int} (h : 0 < ns.length) : mx ns ∈ ns ∧ ∀ y ∈ ns, y ≤ mx ns := by
  cases hm : ns.max? with
  | none =>
    rw [List.max?_eq_none_iff] at hm
    subst hm
    exact absurd h (Nat.lt_irrefl _)
  | some m =>
    have e : mx ns = m := by
      unfold mx
      rw [hm]
      rfl
    rw [e]
    exact List.max?_eq_some_iff.mp hm
theorem mn_mem {ns : List Int} (h : 0 < ns.length) : mn ns ∈ ns ∧ ∀ y ∈ ns, mn ns ≤ y := by
  cases hm : ns.min? with
  | none =>
    rw [List.min?_eq_none_iff] at hm
    subst hm
    exact absurd h (Nat.lt_irrefl _)
  | some m =>
    have e : mn ns = m := by
      unfold mn
      rw [hm]
      rfl
    rw [e]
    exact List.min?_eq_some_iff.mp hm
theorem rc_sum {p : Addr} {ns : List Int} (h : SqL K H p (ns.map V.int)) : RC (rSum K) [.ref p] H (.int ns.sum) := fun H1 e _ q => ⟨p, ns, rfl, ex_l e h, q H1 (Ex.refl H1)⟩
theorem rc_max {p : Addr} {ns : List Int} (h : SqL K H p (ns.map V.int)) (h0 : 0 < ns.length) : RC (rMax K) [.ref p] H (.int (mx ns)) := fun H1 e _ q => ⟨p, ns, rfl, ex_l e h, h0, fun m h1 h2 => by
  rw [mx_of h1 h2]
  exact q H1 (Ex.refl H1)⟩
theorem rc_min {p : Addr} {ns : List Int} (h : SqL K H p (ns.map V.int)) (h0 : 0 < ns.length) : RC (rMin K) [.ref p] H (.int (mn ns)) := fun H1 e _ q => ⟨p, ns, rfl, ex_l e h, h0, fun m h1 h2 => by
  rw [mn_of h1 h2]
  exact q H1 (Ex.refl H1)⟩
/-- of a list just made -/
theorem ev_maxN {ns : List Int} (h : EvL te σ H (ns.map V.int)) (h0 : 0 < ns.length) : Ev (tCB (rMax K) (tCons te tNil)) σ H (.int (mx ns)) := fun H1 e _ q =>
  h H1 e _ fun p H2 _ e2 hp => ⟨p, ns, rfl, sq_of hp, h0, fun m h1 h2 => by
    rw [mx_of h1 h2]
    exact q H2 e2⟩
/-! a place in a list of numbers -/
theorem rv_ixLi {p : Addr} {ns : List Int} {n : Nat} {m : Int} (h : SqL K H p (ns.map V.int)) (hi : i = (n : Int)) (hm : ns[n]? = some m) : RV (rIxL K) (.ref p) (.int i) H (.int m) := by
  rw [hi]
  exact rv_ixL h (atI_nat (by
    rw [List.getElem?_map, hm]
    rfl))
theorem rv_ixLlast {p : Addr} {xs : List V} (h : SqL K H p (xs ++ [v])) : RV (rIxL K) (.ref p) (.int (-1)) H v := rv_ixL h (atI_last _ _)
/-! comprehensions without tests -/
theorem given_all (n : Nat) (v : Nat → V) : given n (fun _ => true) v = (List.range n).map v := by
  unfold given
  rw [List.filter_eq_self.mpr (fun _ _ => rfl)]
theorem et_yes : EvT tYes σ H true := fun H1 _ _ q => q H1 (Ex.refl H1)
theorem el_mapR {t1 : TA} {j : Nat} {vs : List Nat} {n : Nat} (g : Nat → V) (h : EvA t1 σ H [.int (n : Int)]) (hn : n ≤ 40000) (hw : ∀ x, wipe ((wipe σ vs).set j (some x)) vs = wipe σ vs)
    (he : ∀ (i : Nat) H1, Ex H H1 → i < n → Ev te ((wipe σ vs).set j (some (.int (i : Int)))) H1 (g i)) : EvL (tLc (iRng1 t1) (gName j) tYes te vs) σ H ((List.range n).map g) := by
  have q := el_lcR1 (t := tYes) (te := te) (fun _ => true) g h (by omega) hw (fun _ _ _ _ => et_yes) (fun i H1 e hi _ => he i H1 e (by omega))
  rw [given_all] at q
  exact q
theorem el_mapL {α : Type} {a : Addr} {xs : List α} {f g : α → V} {tl : TE} {j : Nat} {vs : List Nat} (h : Ev tl σ H (.ref a)) (hx : SqL K H a (xs.map f)) (hz : xs.length ≤ 40000) (hw : ∀ x, wipe ((wipe σ vs).set j (some x)) vs = wipe σ vs)
    (he : ∀ (y : α) H1, Ex H H1 → y ∈ xs → Ev te ((wipe σ vs).set j (some (f y))) H1 (g y)) : EvL (tLc (iList K tl) (gName j) tYes te vs) σ H (xs.map g) := by
  cases hxs : xs with
  | nil =>
    have q := el_lcL (t := tYes) (te := te) (fun _ => true) (fun _ => V.non) h hx (by rw [List.length_map]; exact hz) hw (fun _ _ _ _ _ => et_yes) (fun i y H1 e hi _ => by
      rw [hxs] at hi
      simp at hi)
    rw [given_all, List.length_map, hxs] at q
    exact q
  | cons x0 r =>
    have q := el_lcL (t := tYes) (te := te) (fun _ => true) (fun i => g (xs.getD i x0)) h hx (by rw [List.length_map]; exact hz) hw (fun _ _ _ _ _ => et_yes) (fun i y H1 e hi _ => by
      rw [List.getElem?_map] at hi
      cases hq : xs[i]? with
      | none =>
        rw [hq] at hi
        cases hi
      | some w =>
        rw [hq] at hi
        have e2 : f w = y := Option.some.inj hi
        subst e2
        have e3 : xs.getD i x0 = w := by
          rw [List.getD_eq_getElem?_getD, hq]
          rfl
        rw [e3]
        exact he w H1 e (List.mem_of_getElem? hq))
    rw [given_all, List.length_map] at q
    have e : (List.range xs.length).map (fun i => g (xs.getD i x0)) = xs.map g := by
      apply List.ext_getElem?
      intro i
      rw [List.getElem?_map, List.getElem?_map]
      by_cases hi : i < xs.length
      · rw [List.getElem?_range hi, List.getElem?_eq_getElem hi]
        show some (g (xs.getD i x0)) = some (g xs[i])
        rw [List.getD_eq_getElem?_getD, List.getElem?_eq_getElem hi]
        rfl
      · rw [List.getElem?_eq_none (by rw [List.length_range]; omega), List.getElem?_eq_none (by omega)]
        rfl
    rw [e, hxs] at q
    exact q
/-- over a row, sign by sign -/
theorem el_mapS {g : Bool → V} {tl : TE} {j : Nat} {vs : List Nat} (h : Ev tl σ H (.str (enc bs))) (hz : bs.length ≤ 40000) (hw : ∀ x, wipe ((wipe σ vs).set j (some x)) vs = wipe σ vs)
    (he : ∀ (b : Bool) H1, Ex H H1 → b ∈ bs → Ev te ((wipe σ vs).set j (some (.str (enc [b])))) H1 (g b)) : EvL (tLc (iStr tl) (gName j) tYes te vs) σ H (bs.map g) := fun H0 e Q q => h H0 e _ fun H1 e1 => ⟨enc bs, rfl, fun Dl hD =>
  lc_it walk_str (fun i H' => H1 Dl = none ∧ Ex H1 H' ∧ H' Dl = some (.lst ((bs.take i).map g))) ⟨hD, Ex.new hD, upd_same⟩ (fun _ _ _ _ => trivial)
    (fun i x Ha Hb hi p y => by
      obtain ⟨rfl, c, hc, rfl⟩ := y
      obtain ⟨p1, p2, p3⟩ := p
      have hb : ∃ b, bs[i]? = some b ∧ sg b = c := by
        have h2 : (enc bs).cps.toList[i]? = some c := by
          rw [Array.getElem?_toList]
          exact hc
        rw [cps_enc, List.getElem?_map] at h2
        cases hq : bs[i]? with
        | none =>
          rw [hq] at h2
          cases h2
        | some b =>
          rw [hq] at h2
          exact ⟨b, rfl, Option.some.inj h2⟩
      obtain ⟨b, hb, rfl⟩ := hb
      refine ⟨hw _, ?_⟩
      show te (List.set (wipe σ vs) j (some (V.str (enc [b])))) Hb fun y H4 => ∃ acc, H4 Dl = some (.lst acc) ∧ acc.length < sizeLine ∧ (H1 Dl = none ∧ Ex H1 (upd H4 Dl (.lst (acc ++ [y]))) ∧ (upd H4 Dl (.lst (acc ++ [y]))) Dl = some (.lst ((bs.take (i + 1)).map g)))
      refine he b H1 (e.trans e1) (List.mem_of_getElem? hb) Hb p2 _ fun H4 e4 => ⟨(bs.take i).map g, e4 Dl _ p3, ?_, p1, Ex.mut (p2.trans e4) p1, ?_⟩
      · rw [List.length_map, List.length_take]
        exact sz_lt (by omega)
      · rw [upd_same, List.take_add_one, hb, List.map_append]
        rfl) (fun H' p => q Dl H' (fresh_back e1 p.1) (e1.trans p.2.1) (by
          have h3 := p.2.2
          rw [List.take_of_length_le (by
            have h4 := len_enc bs
            have h5 : (enc bs).length = (enc bs).cps.size := rfl
            omega)] at h3
          exact h3))⟩
end
end Eb
/-! ### rules that the layer lacks, over rows: row * n, list(row), signs counted in a list, the least of three -/
namespace Eb
open PySem PySem.Spec PyProof.Rows L2 TL Evl Builtin Builtin.Str
theorem foldl_app : ∀ (n : Nat) (a acc : Array Nat), ((List.replicate n a).foldl (· ++ ·) acc).toList = acc.toList ++ (List.replicate n a.toList).flatten
  | 0, a, acc => by simp
  | n + 1, a, acc => by
    rw [List.replicate_succ, List.foldl_cons, foldl_app n a (acc ++ a), List.replicate_succ, List.flatten_cons]
    simp
theorem rep_enc (bs : List Bool) (n : Nat) : (⟨(List.replicate n (enc bs).cps).foldl (· ++ ·) #[]⟩ : Str) = enc (List.replicate n bs).flatten := by
  refine ext_tl ?_
  show ((List.replicate n (enc bs).cps).foldl (· ++ ·) #[]).toList = _
  rw [foldl_app, tl_enc]
  show [] ++ (List.replicate n (bs.map sg)).flatten = _
  rw [List.nil_append, List.map_flatten, List.map_replicate]
theorem flat_rep1 (b : Bool) : ∀ n, (List.replicate n [b]).flatten = List.replicate n b
  | 0 => rfl
  | n + 1 => by
    rw [List.replicate_succ, List.flatten_cons, flat_rep1 b n, List.replicate_succ]
    rfl
def rMulS : R2 := fun x y H Q => ∃ (bs : List Bool) (n : Int), x = .str (enc bs) ∧ y = .int n ∧ (-1000 ≤ n ∧ n ≤ 1000 ∧ bs.length ≤ 1000) ∧ Q (.str (enc (List.replicate n.toNat bs).flatten)) H
section
variable {X : Cx}
theorem op_mulS : OpR X (binaryOp .Mult) rMulS := by
  intro pins s σ H x y v u Q I rx ry h
  obtain ⟨bs, n, rfl, rfl, ⟨h1, h2, h3⟩, q⟩ := h
  obtain ⟨t, rfl⟩ := rx
  obtain ⟨t', rfl⟩ := ry
  have hle : (enc bs).length = bs.length := len_enc bs
  refine PySem.P.mul_str (by
      have a1 : ¬ n < -(2 ^ 63 : Int) := by omega
      have a2 : ¬ n ≥ 2 ^ 63 := by omega
      rw [decide_eq_false a1, decide_eq_false a2]
      rfl) (fun c _ => by
      have : (1000 : Int) ≤ (2 ^ 63 - 1) / n := by
        rw [Int.le_ediv_iff_mul_le (by omega)]
        omega
      omega) (fun c _ => by
      rw [hle]
      unfold tooLong
      rw [decide_eq_false_iff_not]
      have : bs.length * n.toNat ≤ 1000 * 1000 := Nat.mul_le_mul h3 (by omega)
      have e2 : sizeLine = 16777216 := sizeLine_eq
      omega) ?_
  by_cases c : n < 1
  · rw [if_pos c]
    have e : n.toNat = 0 := by omega
    rw [e] at q
    exact ⟨by decide, V.str (enc []), H, I.tok _, ⟨_, rfl⟩, q⟩
  · rw [if_neg c]
    by_cases c2 : (n == 1 || (enc bs).length == 0) = true
    · rw [if_pos c2]
      have e : enc (List.replicate n.toNat bs).flatten = enc bs := by
        rw [Bool.or_eq_true, beq_iff_eq, beq_iff_eq, hle] at c2
        rcases c2 with z | z
        · rw [z]
          simp
        · have : bs = [] := List.eq_nil_of_length_eq_zero z
          rw [this]
          congr 1
          simp
      rw [e] at q
      exact ⟨V.str (enc bs), H, I, ⟨_, rfl⟩, q⟩
    · rw [if_neg c2, rep_enc]
      refine ⟨?_, V.str _, H, I.tok _, ⟨_, rfl⟩, q⟩
      rw [len_enc, List.length_flatten, List.map_replicate, List.sum_replicate_nat]
      have : n.toNat * bs.length ≤ 1000 * 1000 := Nat.mul_le_mul (by omega) h3
      exact Nat.le_trans this (by decide)
/-- list(row) -/
def rListS : List V → Hp → VK → Prop := fun xs H Q => ∃ bs : List Bool, xs = [V.str (enc bs)] ∧ bs.length ≤ 100000 ∧ ∀ l, H l = none → Q (.ref l) (upd H l (.lst (bs.map fun b => V.str (enc [b]))))
theorem call_listS (hc : X.calm = true) : CallR X (.type "list") rListS := by
  intro pins s σ H xs us Q I r h
  obtain ⟨bs, rfl, hl, q⟩ := h
  obtain ⟨u, rfl, rx⟩ := vals1 r
  obtain ⟨t, rfl⟩ := rx
  have hsz : (enc bs).cps.size = bs.length := len_enc bs
  refine call_list_str (I.ok.hd hc) (enc bs) t (fun h' tk acc' c' kp e it => ?_) (by
    rw [hsz]
    exact sz hl)
  refine ⟨.ref s.heap.objs.size, _, I.laid (t' := tk) kp (Nat.le_refl _) (show ObjOk X.prog X.w _ h' _ (.lst (bs.map fun b => V.str (enc [b]))) from ⟨?_, acc'.toList, c', ?_, e⟩), rfl, q _ (I.hok.fresh (Nat.le_refl _))⟩
  · rw [List.length_map]
    exact sz hl
  · have hs := it.1
    have hv := it.2
    rw [hsz] at hs
    have gen : ∀ (bs' : List Bool) (us : List Value) (n : Nat), us.length = bs'.length → (∀ (j : Nat) v, us[j]? = some v → ∃ b u, bs'[j]? = some b ∧ v = Value.str (enc [b]) u) → Vals (bs'.map fun b => V.str (enc [b])) us := by
      intro bs'
      induction bs' with
      | nil =>
        intro us _ hl' _
        cases us with
        | nil => exact .nil
        | cons a r => cases hl'
      | cons b r ih =>
        intro us n hl' hg
        cases us with
        | nil => cases hl'
        | cons a us =>
          obtain ⟨b', u, e1, e2⟩ := hg 0 a rfl
          have e3 : b = b' := Option.some.inj e1
          subst e3
          exact .cons ⟨u, e2⟩ (ih us n (by simpa using hl') fun j v hj => hg (j + 1) v hj)
    refine gen bs acc'.toList 0 (by
      rw [Array.length_toList]
      exact hs) fun j v hj => ?_
    rw [Array.getElem?_toList] at hj
    obtain ⟨c, u, h1, h2⟩ := hv j v hj
    have h3 : (enc bs).cps.toList[j]? = some c := by
      rw [Array.getElem?_toList]
      exact h1
    rw [cps_enc, List.getElem?_map] at h3
    cases hq : bs[j]? with
    | none =>
      rw [hq] at h3
      cases h3
    | some b =>
      rw [hq] at h3
      have e2 : sg b = c := Option.some.inj h3
      subst e2
      exact ⟨b, u, rfl, h2⟩
/-- xs.count("x"), xs a list of signs -/
def rCntS (K : PySem.W.Frag) : V → List V → Hp → VK → Prop := fun x xs H Q => ∃ (p : Addr) (bs : List Bool), x = .ref p ∧ xs = [.str (enc [true])] ∧ SqL K H p (bs.map fun b => V.str (enc [b])) ∧ Q (.int (bs.count true : Nat)) H
theorem cntin_enc : ∀ bs : List Bool, countIn (.str (enc [true])) ((bs.map fun b => enc [b]).map PyData.str) = ((bs.count true : Nat) : Int)
  | [] => rfl
  | b :: r => by
    have ih := cntin_enc r
    rw [List.map_cons, List.map_cons, countIn, ih]
    cases b
    · have e : same (.str (enc [false])) (.str (enc [true])) = false := by decide +kernel
      simp [e]
    · have e : same (.str (enc [true])) (.str (enc [true])) = true := by decide +kernel
      simp [e]
      omega
theorem mt_countS : MtR X "list.count" (rCntS X.K) := by
  intro pins s σ H x xs v us Q I rx rxs h
  obtain ⟨p, bs, rfl, rfl, hs, q⟩ := h
  cases rx
  obtain ⟨u, rfl, ru⟩ := rxs.one
  obtain ⟨t, rfl⟩ := ru
  obtain ⟨its, rv, pl, hlen⟩ := I.list hs
  have hst : StrsAre its (bs.map fun b => enc [b]) := strs_of_vals (by
    rw [List.map_map]
    exact rv)
  refine count_list_strs pl.isList hst ?_
  rw [cntin_enc]
  exact ⟨.int _, H, I.tok _, ⟨_, rfl⟩, q⟩
/-- the least of three numbers -/
theorem call_min3I (hc : X.calm = true) : CallR X (.builtin "min") (fun xs H Q => ∃ a b c : Int, xs = [.int a, .int b, .int c] ∧ Q (.int (mn [a, b, c])) H) := by
  intro pins s σ H xs us Q I r h
  obtain ⟨a, b, c, rfl, q⟩ := h
  cases r with
  | cons r1 r =>
    cases r with
    | cons r2 r =>
      cases r with
      | cons r3 r =>
        cases r
        obtain ⟨t1, rfl⟩ := r1
        obtain ⟨t2, rfl⟩ := r2
        obtain ⟨t3, rfl⟩ := r3
        refine PySem.min_three_ints (I.ok.hd hc) fun h' tk kp => ?_
        have hm : ∀ m, m ∈ [a, b, c] → (∀ y ∈ [a, b, c], m ≤ y) → Q (.int m) H := fun m h1 h2 => by
          rw [mn_of h1 h2]
          exact q
        have I' := I.kept (t' := tk) kp
        by_cases c1 : b < a <;> by_cases c2 : c < b <;> by_cases c3 : c < a <;> simp only [c1, c2, c3, if_true, if_false] <;>
          (refine ⟨.int (_ : Int), H, I', ⟨_, rfl⟩, hm _ (by simp) (by
            intro y hy
            simp only [List.mem_cons, List.not_mem_nil, or_false] at hy
            omega)⟩)
end
/-! their readings -/
section
variable {K : PySem.W.Frag} {σ : L2.St} {H H' : Hp} {ta tb tc te : TE} {x y z v : V} {bs cs : List Bool} {i j k : Int}
theorem rv_mulS (h : -1000 ≤ i ∧ i ≤ 1000 ∧ bs.length ≤ 1000) : RV rMulS (.str (enc bs)) (.int i) H (.str (enc (List.replicate i.toNat bs).flatten)) := fun H1 _ _ q => ⟨bs, i, rfl, rfl, h, q H1 (Ex.refl H1)⟩
theorem el_listS (h : Ev te σ H (.str (enc bs))) (hl : bs.length ≤ 100000) : EvL (tCB rListS (tCons te tNil)) σ H (bs.map fun b => V.str (enc [b])) := fun H1 e Q q =>
  h H1 e _ fun H2 e2 => ⟨bs, rfl, hl, fun l hl => q l _ (fresh_back e2 hl) (e2.trans (Ex.new hl)) upd_same⟩
theorem ev_cntL {p : Addr} (h : Ev ta σ H (.ref p)) (hb : Ev tb σ H (.str (enc [true]))) (hx : SqL K H p (bs.map fun b => V.str (enc [b]))) : Ev (tBM K "list" (rCntS K) ta (tCons tb tNil)) σ H (.int (bs.count true : Nat)) := fun H1 e Q q =>
  h H1 e _ fun H2 e2 => ⟨.inl ⟨rfl, _, ex_l (e.trans e2) hx⟩, hb H2 (e.trans e2) _ fun H3 e3 => ⟨p, bs, rfl, rfl, ex_l ((e.trans e2).trans e3) hx, q H3 (e2.trans e3)⟩⟩
theorem rc_min3 {a b c : Int} : RC (fun xs H Q => ∃ a b c : Int, xs = [.int a, .int b, .int c] ∧ Q (.int (mn [a, b, c])) H) [.int a, .int b, .int c] H (.int (mn [a, b, c])) := fun H1 _ _ q => ⟨a, b, c, rfl, q H1 (Ex.refl H1)⟩
theorem takeWhile_all {p : Nat → Bool} : ∀ l : List Nat, (∀ c ∈ l, p c = true) → l.takeWhile p = l
  | [], _ => rfl
  | a :: r, h => by
    rw [List.takeWhile_cons, h a List.mem_cons_self, if_pos rfl, takeWhile_all r fun c hc => h c (List.mem_cons_of_mem _ hc)]
theorem ite_self_of {α : Type} {c : Prop} [Decidable c] {a b : α} (h : a = b) : (if c then a else b) = b := by
  rw [h, ite_self]
/-- a row stripped of beats and rests -/
theorem strip_enc (bs : List Bool) : Txt.stripChars (enc bs) (enc ([true] ++ [false])) = enc [] := by
  have hgo : ∀ c ∈ (enc bs).cps.toList, (enc ([true] ++ [false])).cps.contains c = true := by
    intro c hc
    rw [cps_enc] at hc
    obtain ⟨b, _, rfl⟩ := List.mem_map.mp hc
    cases b <;> decide +kernel
  have hw : (enc bs).cps.toList.takeWhile (enc ([true] ++ [false])).cps.contains = (enc bs).cps.toList := takeWhile_all _ hgo
  have hlo : stripLo (enc ([true] ++ [false])).cps.contains true (enc bs) = bs.length := by
    unfold stripLo
    rw [if_pos rfl, hw, cps_enc, List.length_map]
  unfold Txt.stripChars Txt.stripBy
  cases bs with
  | nil =>
    by_cases hc : stripSame (enc ([true] ++ [false])).cps.contains true true (enc []) = true
    · rw [if_pos hc]
    · rw [if_neg hc]
      refine ext_tl ?_
      unfold stripped
      rw [tl_strSub, hlo, List.drop_eq_nil_of_le (by rw [tl_enc]; exact Nat.zero_le _), List.take_nil]
      rfl
  | cons b r =>
    have hs : stripSame (enc ([true] ++ [false])).cps.contains true true (enc (b :: r)) = false := by
      unfold stripSame
      rw [hlo]
      rfl
    rw [hs, if_neg Bool.false_ne_true]
    refine ext_tl ?_
    unfold stripped
    rw [tl_strSub, hlo, List.drop_eq_nil_of_le (by rw [tl_enc, List.length_map]; exact Nat.le_refl _), List.take_nil]
    rfl
theorem ev_stripS (h : Ev ta σ H (.str (enc bs))) (hb : Ev tb σ H (.str (enc ([true] ++ [false])))) (hl : bs.length ≤ 100000) :
    Ev (tM1 (fun x xs H Q => ∃ a b, x = .str a ∧ xs = [.str b] ∧ a.length ≤ sizeLine ∧ Q (.str (Txt.stripChars a b)) H) ta tb) σ H (.str (enc [])) :=
  ev_m1 h hb fun H1 _ _ q => ⟨_, _, rfl, rfl, by
    rw [len_enc]
    exact sz hl, by
    rw [strip_enc]
    exact q H1 (Ex.refl H1)⟩
end
end Eb
/-! ### more readings; the built-in names; defs by name -/
namespace Eb
open PySem PySem.Spec PyProof.Rows L2 TL Evl Builtin Builtin.Str
theorem hu64 {A : Around} {k : Nat} (hr : Room k A) : A.units + 64 < cLine := by
  have := hr.un
  omega
theorem hu1 {A : Around} {k : Nat} (hr : Room k A) : A.units + 1 < cLine := by
  have := hr.un
  omega
theorem mulx20 {c : Int} (h : Builtin.Int.intBits c ≤ 1048576) : CMulX c (10 ^ (20 : Int).toNat) := by
  have h2 : Builtin.Int.intBits (10 ^ (20 : Int).toNat) ≤ 67 := by decide +kernel
  unfold CMulX
  omega
section
variable {X : Cx} {j : Nat} {pos : Pos}
theorem pe_sx : PE X (.Constant (.str "x") j pos) (tC (.str (enc [true]))) := by
  rw [← enc_x]
  exact pe_str
theorem pe_sd : PE X (.Constant (.str ".") j pos) (tC (.str (enc [false]))) := by
  rw [← enc_d]
  exact pe_str
theorem pe_s0 : PE X (.Constant (.str "") j pos) (tC (.str (enc []))) := by
  rw [← enc_0]
  exact pe_str
theorem pe_sdx : PE X (.Constant (.str ".x") j pos) (tC (.str (enc [false, true]))) := by
  rw [← enc_dx]
  exact pe_str
end
section
variable {K : PySem.W.Frag} {σ : L2.St} {H H' : Hp} {ta tb tc te : TE} {x y z v : V} {bs cs : List Bool} {i j k : Int}
theorem ev_ifV {t : TT} {b : Bool} {u w : V} (h : EvT t σ H b) (ha : Ev ta σ H u) (hb : Ev tb σ H w) : Ev (tIf t ta tb) σ H (if b then u else w) := by
  refine ev_if h (fun e => ?_) (fun e => ?_)
  · subst e
    exact ha
  · subst e
    exact hb
theorem ev_ifS {t : TT} {b : Bool} (h : EvT t σ H b) (ha : Ev ta σ H (.str (enc [true]))) (hb : Ev tb σ H (.str (enc [false]))) : Ev (tIf t ta tb) σ H (.str (enc [b])) :=
  ev_eq (ev_ifV h ha hb) (by cases b <;> rfl)
theorem ev_ifN {t : TT} {b : Bool} (h : EvT t σ H b) (ha : Ev ta σ H (.str (enc [false]))) (hb : Ev tb σ H (.str (enc [true]))) : Ev (tIf t ta tb) σ H (.str (enc [!b])) :=
  ev_eq (ev_ifV h ha hb) (by cases b <;> rfl)
theorem ev_ifD {t : TT} {b : Bool} (h : EvT t σ H b) (ha : Ev ta σ H (.str (enc bs))) (hb : Ev tb σ H (.str (enc cs))) : Ev (tIf t ta tb) σ H (.str (enc (if b then bs else cs))) :=
  ev_eq (ev_ifV h ha hb) (by cases b <;> rfl)
theorem ev_ifI {t : TT} {b : Bool} (h : EvT t σ H b) (ha : Ev ta σ H (.int i)) (hb : Ev tb σ H (.int j)) : Ev (tIf t ta tb) σ H (.int (if b then i else j)) :=
  ev_eq (ev_ifV h ha hb) (by cases b <;> rfl)
theorem getD_some {α : Type} {l : List α} {n : Nat} {d : α} (h : n < l.length) : l[n]? = some (l.getD n d) := by
  rw [List.getD_eq_getElem?_getD, List.getElem?_eq_getElem h]
  rfl
theorem rv_ixSg (hl : bs.length ≤ 100000) (h0 : 0 ≤ i) (h1 : i < bs.length) : RV rIxS (.str (enc bs)) (.int i) H (.str (enc [bs.getD i.toNat false])) :=
  rv_ixSi hl (by omega : i = (i.toNat : Int)) (getD_some (by omega))
theorem rv_ixSm (hl : bs.length ≤ 100000) (h0 : 0 < j) (h1 : j ≤ bs.length) : RV rIxS (.str (enc bs)) (.int (i % j)) H (.str (enc [bs.getD (i % j).toNat false])) :=
  rv_ixSg hl (Int.emod_nonneg i (by omega)) (Int.lt_of_lt_of_le (Int.emod_lt_of_pos i h0) h1)
theorem rv_ixLg {p : Addr} {ns : List Int} (h : SqL K H p (ns.map V.int)) (h0 : 0 ≤ i) (h1 : i < ns.length) : RV (rIxL K) (.ref p) (.int i) H (.int (ns.getD i.toNat 0)) :=
  rv_ixLi h (by omega : i = (i.toNat : Int)) (getD_some (by omega))
theorem rv_ixLmod {p : Addr} {ns : List Int} (h : SqL K H p (ns.map V.int)) (h0 : 0 < j) (h1 : j ≤ ns.length) : RV (rIxL K) (.ref p) (.int (i % j)) H (.int (ns.getD (i % j).toNat 0)) :=
  rv_ixLg h (Int.emod_nonneg i (by omega)) (Int.lt_of_lt_of_le (Int.emod_lt_of_pos i h0) h1)
theorem rv_ixLm {p : Addr} {ns : List Int} (h : SqL K H p (ns.map V.int)) (h1 : 0 < ns.length) : RV (rIxL K) (.ref p) (.int (-1)) H (.int (ns.getLast?.getD 0)) := by
  rcases List.eq_nil_or_concat ns with e | ⟨r, a, e⟩
  · subst e
    exact absurd h1 (Nat.lt_irrefl _)
  · rw [List.concat_eq_append] at e
    subst e
    rw [List.map_append] at h
    rw [List.getLast?_append]
    exact rv_ixLlast h
theorem rv_inX : RV (fun x y H Q => ∃ (c : Nat) (z : Str), x = .str ⟨#[c]⟩ ∧ y = .str z ∧ Q (.bl (decide (c ∈ z.cps.toList))) H) (.str (enc [true])) (.str (enc bs)) H (.bl (bs.contains true)) := fun H1 _ _ q => ⟨120, _, rfl, rfl, by
  rw [mem_enc]
  exact q H1 (Ex.refl H1)⟩
theorem rv_notInX : RV (fun x y H Q => ∃ (c : Nat) (z : Str), x = .str ⟨#[c]⟩ ∧ y = .str z ∧ Q (.bl (!decide (c ∈ z.cps.toList))) H) (.str (enc [true])) (.str (enc bs)) H (.bl (!bs.contains true)) := fun H1 _ _ q => ⟨120, _, rfl, rfl, by
  rw [mem_enc]
  exact q H1 (Ex.refl H1)⟩
theorem rv_notInXD : RV (fun x y H Q => ∃ (c : Nat) (z : Str), x = .str ⟨#[c]⟩ ∧ y = .str z ∧ Q (.bl (!decide (c ∈ z.cps.toList))) H) (.str (enc [false])) (.str (enc bs)) H (.bl (!bs.contains false)) := fun H1 _ _ q => ⟨46, _, rfl, rfl, by
  rw [mem_encF]
  exact q H1 (Ex.refl H1)⟩
theorem ev_minN {ns : List Int} (h : EvL te σ H (ns.map V.int)) (h0 : 0 < ns.length) : Ev (tCB (rMin K) (tCons te tNil)) σ H (.int (mn ns)) := fun H1 e _ q =>
  h H1 e _ fun p H2 _ e2 hp => ⟨p, ns, rfl, sq_of hp, h0, fun m h1 h2 => by
    rw [mn_of h1 h2]
    exact q H2 e2⟩
theorem rc_max2 : RC (fun xs H Q => ∃ i j, xs = [.int i, .int j] ∧ Q (.int (if j > i then j else i)) H) [.int i, .int j] H (.int (if j > i then j else i)) := fun H1 _ _ q => ⟨i, j, rfl, q H1 (Ex.refl H1)⟩
/-- glue.join of a new list: one sign each; a row each -/
theorem ev_joinMN {α : Type} {xs : List α} {f : α → List Bool} (h : Ev ta σ H (.str (enc []))) (hb : EvL tb σ H (xs.map fun a => V.str (enc (f a)))) (hl : xs.length ≤ 100000) (h1 : ∀ a ∈ xs, (f a).length ≤ 100) :
    Ev (tM1 (fun x xs H Q => ∃ a p, ∃ ys : List Str, x = .str a ∧ xs = [.ref p] ∧ (SqL K H p (ys.map V.str) ∨ SqT K H p (ys.map V.str)) ∧ (ys.map (·.length)).sum + ys.length * a.length ≤ 16777216 ∧ Q (.str (Txt.join a ys)) H) ta tb) σ H (.str (enc (xs.map f).flatten)) :=
  ev_joinN (ls := xs.map f) h (by
    rw [List.map_map]
    exact hb) (by
    rw [List.length_map]
    exact hl) (fun l hm => by
    obtain ⟨a, ha, rfl⟩ := List.mem_map.mp hm
    exact h1 a ha)
theorem flat_sing {α : Type} (f : α → Bool) : ∀ xs : List α, (xs.map fun a => [f a]).flatten = xs.map f
  | [] => rfl
  | a :: r => by
    rw [List.map_cons, List.flatten_cons, flat_sing f r]
    rfl
theorem ev_join1N {α : Type} {xs : List α} {f : α → Bool} (h : Ev ta σ H (.str (enc []))) (hb : EvL tb σ H (xs.map fun a => V.str (enc [f a]))) (hl : xs.length ≤ 100000) :
    Ev (tM1 (fun x xs H Q => ∃ a p, ∃ ys : List Str, x = .str a ∧ xs = [.ref p] ∧ (SqL K H p (ys.map V.str) ∨ SqT K H p (ys.map V.str)) ∧ (ys.map (·.length)).sum + ys.length * a.length ≤ 16777216 ∧ Q (.str (Txt.join a ys)) H) ta tb) σ H (.str (enc (xs.map f))) := by
  have q := ev_joinMN (K := K) (f := fun a => [f a]) h hb hl (fun _ _ => Nat.le_of_ble_eq_true rfl)
  rw [flat_sing] at q
  exact q
theorem ev_join1L {bs : List Bool} {p : Addr} (h : Ev ta σ H (.str (enc []))) (hb : Ev tb σ H (.ref p)) (hx : SqL K H p (bs.map fun b => V.str (enc [b]))) (hl : bs.length ≤ 100000) :
    Ev (tM1 (fun x xs H Q => ∃ a p, ∃ ys : List Str, x = .str a ∧ xs = [.ref p] ∧ (SqL K H p (ys.map V.str) ∨ SqT K H p (ys.map V.str)) ∧ (ys.map (·.length)).sum + ys.length * a.length ≤ 16777216 ∧ Q (.str (Txt.join a ys)) H) ta tb) σ H (.str (enc bs)) := by
  have q := ev_joinL (K := K) (ls := bs.map fun b => [b]) h hb (by
    rw [List.map_map]
    exact hx) (by
    rw [List.length_map]
    exact hl) (fun l hm => by
    obtain ⟨a, _, rfl⟩ := List.mem_map.mp hm
    exact (by decide : 1 ≤ 100))
  rw [flat_one] at q
  exact q
end
/-! rules whose reading names the written part K outright (so that a comprehension's block may use them) -/
section
variable {X : Cx}
theorem pe_fldK {K : PySem.W.Frag} {e : Expr} {ta : TE} {f : Str} {pos : Pos} (h : X.K = K) (he : PE X e ta) (hb : attributeBase e f X.env (eval e X.env) = eval e X.env) : PE X (.Attribute e f pos) (tFld K ta f) := h ▸ pe_fld he hb
theorem ix_listK {K : PySem.W.Frag} (h : X.K = K) : IxR X (rIxL K) := h ▸ ix_list
theorem ix_tupK {K : PySem.W.Frag} (h : X.K = K) : IxR X (rIxT K) := h ▸ ix_tup
theorem cr_maxK {K : PySem.W.Frag} (h : X.K = K) (hc : X.calm = true) : CallR X (.builtin "max") (rMax K) := h ▸ cr_max hc
theorem cr_minK {K : PySem.W.Frag} (h : X.K = K) (hc : X.calm = true) : CallR X (.builtin "min") (rMin K) := h ▸ cr_min hc
theorem call_isiK1 {K : PySem.W.Frag} (h : X.K = K) : CallR X (.builtin "isinstance") (rIsi K) := h ▸ call_isi
end
/-! the built-in names that no module binds -/
structure Bn (mg : Str → Option Value) : Prop where
  len_ : mg "len" = none
  range_ : mg "range" = none
  max_ : mg "max" = none
  min_ : mg "min" = none
  isinstance_ : mg "isinstance" = none
  sum_ : mg "sum" = none
  any_ : mg "any" = none
  all_ : mg "all" = none
  int_ : mg "int" = none
  str_ : mg "str" = none
  bool_ : mg "bool" = none
  list_ : mg "list" = none
  enumerate_ : mg "enumerate" = none
structure Tx (mg : Str → Option Value) : Prop where
  beat : ∃ u, mg "BEAT" = some u ∧ RelV (.str (enc [true])) u
  rest : ∃ u, mg "REST" = some u ∧ RelV (.str (enc [false])) u
theorem tx_x {t : Tok} : RelV (.str (enc [true])) (.str "x" t) := ⟨t, by rw [enc_x]⟩
theorem tx_d {t : Tok} : RelV (.str (enc [false])) (.str "." t) := ⟨t, by rw [enc_d]⟩
/-- a def of the module, as the top leaves it -/
structure DefAt (K : PySem.W.Frag) (mg : Str → Option Value) (x : Str) (st : Stmt) : Prop where
  ex : ∃ f fd, Fun K x x st f fd ∧ mg x = some (.ref f)
section
variable {P : Program} {w : World} {K : PySem.W.Frag} {mg : Str → Option Value} {base : Heap}
theorem cal_of {x : Str} {st : Stmt} {N ps : List Str} {k : Nat} {sp : Sp} (D : DefAt K mg x st)
    (b : ∀ (kV doc pm : Value) (an : Option Addr) (cdv ct : Value) (us : List Value), us.length = ps.length → bindArgs (PySem.W.fnOf x x (defArgs st) (defBody st) (defScope st) .none kV doc pm an cdv ct) ⟨us, []⟩ = pure (ps.zip us))
    (S : FnScope N ps (defScope st)) (len : ∀ vs H Q E, sp vs H Q E → vs.length = ps.length)
    (hbody : ∀ (f : Addr) (cdv : Value) (A : Around) (outer : List Env) (s : Shared) (H : Hp) (vs : List V) (Q : VK) (E : XK), Room k (A.deeper (envOfC x (defScope st) s.heap.objs.size f cdv)) → sp vs H Q E →
      ∃ t, PSs (cxOf CX0 P w K mg base N x (defScope st) f cdv A outer s H E).nox (defBody st) t ∧ t { nx := fun _ H' => Q .non H', rt := Q } (start N vs) H) : C8.Cal P w K mg base (k + 1) x sp [] := by
  obtain ⟨f, fd, F, g⟩ := D.ex
  exact ⟨f, fd, ps, [], F.ok S len (hbody f), g, F.kp, F.binds b, .nil⟩
/-- a def that may raise -/
structure CalX (P : Program) (w : World) (K : PySem.W.Frag) (mg : Str → Option Value) (base : Heap) (k : Nat) (x : Str) (sp : Sp) (dvs : List V) : Prop where
  ex : ∃ (f : Addr) (fd : FuncData) (ps : List Str), FnOk P w K mg base (L2.CX P w) k f fd ps sp ∧ mg x = some (.ref f) ∧ PySem.W.keepIn K (.ref f) = true ∧ Binds K fd ps []
theorem calx_of {x : Str} {st : Stmt} {N ps : List Str} {k : Nat} {sp : Sp} (D : DefAt K mg x st)
    (b : ∀ (kV doc pm : Value) (an : Option Addr) (cdv ct : Value) (us : List Value), us.length = ps.length → bindArgs (PySem.W.fnOf x x (defArgs st) (defBody st) (defScope st) .none kV doc pm an cdv ct) ⟨us, []⟩ = pure (ps.zip us))
    (S : FnScope N ps (defScope st)) (len : ∀ vs H Q E, sp vs H Q E → vs.length = ps.length)
    (hbody : ∀ (f : Addr) (cdv : Value) (A : Around) (outer : List Env) (s : Shared) (H : Hp) (vs : List V) (Q : VK) (E : XK), Room k (A.deeper (envOfC x (defScope st) s.heap.objs.size f cdv)) → sp vs H Q E →
      ∃ t, PSs (cxOf (L2.CX P w) P w K mg base N x (defScope st) f cdv A outer s H E) (defBody st) t ∧ t { nx := fun _ H' => Q .non H', rt := Q } (start N vs) H) : CalX P w K mg base (k + 1) x sp [] := by
  obtain ⟨f, fd, F, g⟩ := D.ex
  exact ⟨f, fd, ps, F.okX S len (hbody f), g, F.kp, F.binds b⟩
end
/-- f(e, ..), f a def that may raise -/
theorem pe_cx {X : Cx} {k j : Nat} {x : Str} {sp : Sp} {dvs : List V} {E : XK} {p pos : Pos} {e : Expr} {es : List Expr} {t : TA} (hx : Passes (L2.CX X.prog X.w) X E) (c : CalX X.prog X.w X.K X.mg X.base k x sp dvs) (hr : Room j X.A) (hk : k ≤ j) (hg : Gl X x) (ha : PA X (e :: es) t)
    (hdb : (x == ("__debug__" : Str)) = false := by decide) (he : starEach (e :: es) X.env = (false, eval e X.env) :: starEach es X.env := by rfl) (hpl : (backTo pos (starEach es X.env)).any (·.1) = false := by rfl) :
    PE X (.Call (.Name x p) (e :: es) [] pos) (tCall sp [] E t) := by
  obtain ⟨f, fd, ps, F, hm, kp, b⟩ := c.ex
  exact pe_call F (hr.mono hk) hg hm kp b .nil hx ha hdb he hpl
section
variable {K : PySem.W.Frag} {σ : L2.St} {H H' : Hp} {ta tb tc te : TE} {x y z v : V} {bs cs : List Bool} {i j k : Int}
theorem rc_lenLi {p : Addr} {ns : List Int} (h : SqL K H p (ns.map V.int)) : RC (fun xs H Q => ∃ p ys, xs = [.ref p] ∧ (SqL K H p ys ∨ SqT K H p ys) ∧ Q (.int ys.length) H) [.ref p] H (.int (ns.length : Int)) := by
  have q := rc_lenL h
  rw [List.length_map] at q
  exact q
theorem el_eq {xs ys : List V} (h : EvL te σ H xs) (e : xs = ys) : EvL te σ H ys := e ▸ h
theorem el_mapRi {t1 : TA} {j : Nat} {vs : List Nat} {n : Int} (g : Nat → V) (h : EvA t1 σ H [.int n]) (hn : 0 ≤ n ∧ n ≤ 40000) (hw : ∀ x, wipe ((wipe σ vs).set j (some x)) vs = wipe σ vs)
    (he : ∀ (i : Nat) H1, Ex H H1 → i < n.toNat → Ev te ((wipe σ vs).set j (some (.int (i : Int)))) H1 (g i)) : EvL (tLc (iRng1 t1) (gName j) tYes te vs) σ H ((List.range n.toNat).map g) := by
  have e : n = (n.toNat : Int) := by omega
  rw [e] at h
  exact el_mapR g h (by omega) hw he
variable {D : Ends} {tu tz : TS}
/-- for sign in a row -/
theorem q_forS {tl : TE} {j : Nat} (h : Ev tl σ H (.str (enc bs))) (Pv : Nat → L2.St → Hp → Prop) (h0 : ∀ H1, Ex H H1 → Pv 0 σ H1)
    (hs : ∀ i b σ' H', bs[i]? = some b → Pv i σ' H' → tu { D with nx := Pv (i + 1), ct := Pv (i + 1), bk := tz D } (σ'.set j (some (.str (enc [b])))) H') (hd : ∀ σ' H', Pv bs.length σ' H' → tz D σ' H') :
    tSeq (tFor (iStr tl) (gName j) tu) tz D σ H := h H (Ex.refl H) _ fun H1 e => ⟨enc bs, rfl, for_it walk_str Pv (h0 H1 e) (fun _ _ _ _ _ => trivial) (fun i x σ' Ha Hb hi p y => by
      obtain ⟨rfl, c, hc, rfl⟩ := y
      have h2 : (enc bs).cps.toList[i]? = some c := by
        rw [Array.getElem?_toList]
        exact hc
      rw [cps_enc, List.getElem?_map] at h2
      cases hq : bs[i]? with
      | none =>
        rw [hq] at h2
        cases h2
      | some b =>
        rw [hq] at h2
        have e2 : sg b = c := Option.some.inj h2
        subst e2
        exact hs i b σ' Hb hq p) (fun σ' H' p => hd σ' H' (by
      have h4 := len_enc bs
      have h5 : (enc bs).length = (enc bs).cps.size := rfl
      have h6 : (enc bs).cps.size = bs.length := by omega
      rw [h6] at p
      exact p))⟩
end
end Eb
local macro_rules | `(tactic| walk_at "sz") => `(tactic| first | assumption | omega | decide | (simp only [List.length_append, List.length_cons, List.length_nil, List.length_map, List.length_replicate, List.length_range, List.length_reverse, Int.toNat_natCast]; omega))
local macro_rules | `(tactic| walk_at "pos") => `(tactic| first | assumption | omega | decide)
local macro_rules | `(tactic| walk_at "ix") => `(tactic| first | assumption | omega | decide | (simp only [List.length_append, List.length_cons, List.length_nil, List.length_map, List.length_replicate, List.length_range, List.length_reverse, Int.toNat_natCast]; omega))
local macro_rules | `(tactic| walk_at "div") => `(tactic| (refine ⟨?_, ?_⟩ <;> first | assumption | omega | decide))
local macro_rules | `(tactic| walk_at "mul") => `(tactic| first | exact Eb.mul_l (by omega) (by omega) | exact Eb.mul_r (by omega) (by omega) | exact Eb.mulx20 (by assumption) | assumption)
local macro_rules | `(tactic| walk_at "pow") => `(tactic| exact ⟨by decide, by decide, by decide⟩)
local macro_rules | `(tactic| walk_at "lst") => `(tactic| first | assumption | exact Evl.sq_of (by assumption) | exact Evl.st_of (by assumption))
local macro_rules | `(tactic| walk_at "ln") => `(tactic| first | assumption | omega | (simp only [List.length_append, List.length_cons, List.length_nil, List.length_map, List.length_replicate, List.length_range, List.length_reverse, Int.toNat_natCast]; omega))
local macro_rules | `(tactic| walk_at "pre") => `(tactic| first | assumption | omega | decide | exact Evl.sq_of (by assumption) | (simp only [List.length_append, List.length_cons, List.length_nil, List.length_map, List.length_replicate, List.length_range, List.length_reverse, Int.toNat_natCast]; omega) | (refine ⟨?_, ?_⟩ <;> walk_at "pre"))
local macro_rules | `(tactic| walk_at "rg") => `(tactic| (refine ⟨?_, ?_⟩ <;> first | assumption | omega | decide))
/-! ### own classes: instances, their fields, what isinstance says -/
namespace Eb
open PySem PySem.Spec PyProof.Rows L2 TL Evl
structure Kl (K : PySem.W.Frag) (C : Addr) : Prop where
  cl : Cls K C
  ha : PySem.W.findIn K (.ref C) "__class__" = some (some (.builtin "object.__class__"))
  hn : PySem.W.specialIn K (.builtin "object.__class__") "__get__" = some (some (.builtin "getset_descriptor.__get__"))
  htk : PySem.W.takesIn K (.builtin "object.__class__") = some true
  hm : PySem.W.mroIn K C (.type "object") = some true
theorem rc_isO {K : PySem.W.Frag} {H : Hp} {a C D dx : Addr} {fs : List (Str × V)} {b : Bool} (k : Kl K C) (ho : H a = some (.ins C dx fs)) (hk : PySem.W.kitOne K (.ref C) (.ref D) = some b) : RC (rIsi K) [.ref a, .ref D] H (.bl b) :=
  rc_isi (.own D) (fun _ e => .base (.ins (e _ _ ho) k.cl k.ha k.hn k.htk k.hm)) hk
/-- all but x stays -/
def KeepBut (x : Addr) (H H' : Hp) : Prop := ∀ b o, b ≠ x → H b = some o → H' b = some o
theorem KeepBut.refl (x : Addr) (H : Hp) : KeepBut x H H := fun _ _ _ h => h
theorem KeepBut.put {x : Addr} {H H1 : Hp} {o : HO} (h : KeepBut x H H1) : KeepBut x H (upd H1 x o) := fun b u hb e => by
  rw [upd_ne hb]
  exact h b u hb e
theorem KeepBut.ex {x : Addr} {H H1 H2 : Hp} (h : KeepBut x H H1) (e : Ex H1 H2) : KeepBut x H H2 := fun b u hb q => e b u (h b u hb q)
/-- __init__: each parameter goes to the field of its name -/
def spI (C : Addr) (fs : List Str) : Sp := fun vs H Q _ => ∃ (x dx : Addr) (us : List V), vs = .ref x :: us ∧ us.length = fs.length ∧ H x = some (.ins C dx []) ∧ ∀ H', KeepBut x H H' → H' x = some (.ins C dx (fs.zip us)) → Q .non H'
/-- a new instance -/
def EvN (te : TE) (σ : L2.St) (H : Hp) (C : Addr) (fs : List (Str × V)) : Prop := ∀ H1, Ex H H1 → ∀ Q : VK, (∀ p dx H2, H1 p = none → Ex H1 H2 → H2 p = some (.ins C dx fs) → Q (.ref p) H2) → te σ H1 Q
section
variable {K : PySem.W.Frag} {σ : L2.St} {H H' : Hp} {ta tb te : TE} {x y z v : V} {a C dx : Addr} {fs : List (Str × V)} {f m : Str} {D : Ends} {tz : TS}
theorem EvN.mono (e : Ex H H') (h : EvN te σ H C fs) : EvN te σ H' C fs := fun H1 q Q k => h H1 (e.trans q) Q k
theorem en_make {names : List Str} {E : XK} {t : TA} {us : List V} (h : EvA t σ H us) (hl : us.length = names.length) : EvN (tMake C (spI C names) [] E t) σ H C (names.zip us) := fun H1 e Q q =>
  h H1 e _ fun H2 e2 x dx hx hdx hne => ⟨x, dx, us ++ [], rfl, by
    rw [List.append_nil]
    exact hl, upd_same, fun H' kp hH => ⟨rfl, q x dx H' (fresh_back e2 hx) (e2.trans fun b o hb => kp b o (ne_of_none hb hx) (by
      rw [upd_ne (ne_of_none hb hx), upd_ne (ne_of_none hb hdx)]
      exact hb)) (by
      rw [List.append_nil] at hH
      exact hH)⟩⟩
theorem ev_fld (h : Ev te σ H (.ref a)) (ho : H a = some (.ins C dx fs)) (hc : Cls K C) (hn : NoAttr K C f) (hl : fs.lookup f = some v) : Ev (tFld K te f) σ H v := fun H1 e _ q =>
  h H1 e _ fun H2 e2 => ⟨a, C, dx, fs, v, rfl, e2 _ _ (e _ _ ho), hc, hn, hl, q H2 e2⟩
theorem ev_meth {sp : Sp} {E : XK} {t : TA} {us : List V} (h : Ev ta σ H (.ref a)) (ho : H a = some (.ins C dx fs)) (hl : fs.lookup m = none) (hu : EvA t σ H us) (hs : SpV sp (.ref a :: us) H z) : Ev (tMeth C m sp [] E ta t) σ H z := fun H1 e Q q =>
  h H1 e _ fun H2 e2 => ⟨a, dx, fs, rfl, e2 _ _ (e _ _ ho), hl, hu H2 (e.trans e2) _ fun H3 e3 => by
    rw [List.append_nil]
    exact hs H3 ((e.trans e2).trans e3) Q (fun H4 e4 => q H4 ((e2.trans e3).trans e4)) E⟩
theorem s_fld (hv : Ev tb σ H v) (hx : Ev ta σ H (.ref a)) (ho : H a = some (.ins C dx fs)) (hc : Cls K C) (hn : NoAttr K C f) (hl : fs.length < 1000) (k : ∀ H1, Ex H H1 → D.nx σ (upd H1 a (.ins C dx (putF f v fs)))) : sFld K ta tb f D σ H :=
  hv H (Ex.refl H) _ fun H1 e1 => hx H1 e1 _ fun H2 e2 => ⟨a, C, dx, fs, rfl, e2 _ _ (e1 _ _ ho), hc, hn, hl, k H2 (e1.trans e2)⟩
theorem q_fld (hv : Ev tb σ H v) (hx : Ev ta σ H (.ref a)) (ho : H a = some (.ins C dx fs)) (hc : Cls K C) (hn : NoAttr K C f) (hl : fs.length < 1000) (k : ∀ H1, Ex H H1 → tz D σ (upd H1 a (.ins C dx (putF f v fs)))) : tSeq (sFld K ta tb f) tz D σ H := s_fld (D := { D with nx := tz D }) hv hx ho hc hn hl k
theorem q_asgN {i : Nat} (h : EvN te σ H C fs) (k : ∀ p dx H1, H p = none → Ex H H1 → H1 p = some (.ins C dx fs) → tz D (σ.set i (some (.ref p))) H1) : tSeq (tAsg te (gName i)) tz D σ H := h H (Ex.refl H) _ fun p dx H1 hp e x => k p dx H1 hp e x
theorem s_retN {fs : List (Str × V)} (h : EvN te σ H C fs) (k : ∀ p dx H1, H p = none → Ex H H1 → H1 p = some (.ins C dx fs) → D.rt (.ref p) H1) : tRet te D σ H := h H (Ex.refl H) _ k
/-- a call whose answer is told by its promise alone -/
theorem q_asgC {sp : Sp} {E : XK} {t : TA} {vs : List V} {i : Nat} (h : EvA t σ H vs) (k : ∀ H1, Ex H H1 → sp vs H1 (fun v H2 => tz D (σ.set i (some v)) H2) E) : tSeq (tAsg (tCall sp [] E t) (gName i)) tz D σ H := h H (Ex.refl H) _ fun H1 e => by
  rw [List.append_nil]
  exact k H1 e
theorem s_retC {sp : Sp} {E : XK} {t : TA} {vs : List V} (h : EvA t σ H vs) (k : ∀ H1, Ex H H1 → sp vs H1 D.rt E) : tRet (tCall sp [] E t) D σ H := h H (Ex.refl H) _ fun H1 e => by
  rw [List.append_nil]
  exact k H1 e
end
/-- one of two readings of an expression -/
theorem pe_or2 {X : Cx} {e : Expr} {t u : TE} (h1 : PE X e t) (h2 : PE X e u) : PE X e (fun σ H Q => t σ H Q ∨ u σ H Q) := ⟨fun pins s σ H Q I h => by
  rcases h with h | h
  · exact h1.run pins s σ H Q I h
  · exact h2.run pins s σ H Q I h⟩
theorem ev_orL {t u : TE} {σ : L2.St} {H : Hp} {v : V} (h : Ev t σ H v) : Ev (fun σ H Q => t σ H Q ∨ u σ H Q) σ H v := fun H1 e Q q => .inl (h H1 e Q q)
theorem ev_orR {t u : TE} {σ : L2.St} {H : Hp} {v : V} (h : Ev u σ H v) : Ev (fun σ H Q => t σ H Q ∨ u σ H Q) σ H v := fun H1 e Q q => .inr (h H1 e Q q)
/-- an __init__, a method, as the top leaves them -/
structure InitAt (K : PySem.W.Frag) (C : Addr) (qual : Str) (st : Stmt) : Prop where
  ex : ∃ f fd, Fun K "__init__" qual st f fd ∧ Mk K C f
structure MethAt (K : PySem.W.Frag) (C : Addr) (m qual : Str) (st : Stmt) : Prop where
  ex : ∃ f fd, Fun K m qual st f fd ∧ Meth K C m f
section
variable {P : Program} {w : World} {K : PySem.W.Frag} {mg : Str → Option Value} {base : Heap}
theorem mak_of {x qual : Str} {C : Addr} {st : Stmt} {N ps : List Str} {k : Nat} {sp : Sp} (D : InitAt K C qual st) (g : mg x = some (.ref C))
    (b : ∀ (kV doc pm : Value) (an : Option Addr) (cdv ct : Value) (us : List Value), us.length = ps.length → bindArgs (PySem.W.fnOf "__init__" qual (defArgs st) (defBody st) (defScope st) .none kV doc pm an cdv ct) ⟨us, []⟩ = pure (ps.zip us))
    (S : FnScope N ps (defScope st)) (len : ∀ vs H Q E, sp vs H Q E → vs.length = ps.length)
    (hbody : ∀ (f : Addr) (cdv : Value) (A : Around) (outer : List Env) (s : Shared) (H : Hp) (vs : List V) (Q : VK) (E : XK), Room k (A.deeper (envOfC qual (defScope st) s.heap.objs.size f cdv)) → sp vs H Q E →
      ∃ t, PSs (cxOf CX0 P w K mg base N qual (defScope st) f cdv A outer s H E).nox (defBody st) t ∧ t { nx := fun _ H' => Q .non H', rt := Q } (start N vs) H) : C8.Mak P w K mg base (k + 1) x C sp [] := by
  obtain ⟨f, fd, F, M⟩ := D.ex
  exact ⟨f, fd, ps, [], M, F.ok S len (hbody f), g, F.binds b, .nil⟩
theorem met_of {m qual : Str} {C : Addr} {st : Stmt} {N ps : List Str} {k : Nat} {sp : Sp} (D : MethAt K C m qual st) (c : Cls K C)
    (b : ∀ (kV doc pm : Value) (an : Option Addr) (cdv ct : Value) (us : List Value), us.length = ps.length → bindArgs (PySem.W.fnOf m qual (defArgs st) (defBody st) (defScope st) .none kV doc pm an cdv ct) ⟨us, []⟩ = pure (ps.zip us))
    (S : FnScope N ps (defScope st)) (len : ∀ vs H Q E, sp vs H Q E → vs.length = ps.length)
    (hbody : ∀ (f : Addr) (cdv : Value) (A : Around) (outer : List Env) (s : Shared) (H : Hp) (vs : List V) (Q : VK) (E : XK), Room k (A.deeper (envOfC qual (defScope st) s.heap.objs.size f cdv)) → sp vs H Q E →
      ∃ t, PSs (cxOf CX0 P w K mg base N qual (defScope st) f cdv A outer s H E).nox (defBody st) t ∧ t { nx := fun _ H' => Q .non H', rt := Q } (start N vs) H) : C8.Met P w K mg base (k + 1) C m sp [] := by
  obtain ⟨f, fd, F, M⟩ := D.ex
  exact ⟨f, fd, ps, [], c, M, F.ok S len (hbody f), F.binds b, .nil⟩
end
/-! the fields of the four answers -/
theorem ne_of_beq_false {a b : Str} (h : (a == b) = false) : a ≠ b := fun e => by
  rw [e] at h
  simp at h
theorem n_sf : (("second" : Str) == "first") = false := by decide +kernel
theorem n_mf : (("many" : Str) == "first") = false := by decide +kernel
theorem n_ms : (("many" : Str) == "second") = false := by decide +kernel
theorem n_pb : (("places" : Str) == "beats") = false := by decide +kernel
theorem n_sb : (("shift" : Str) == "beats") = false := by decide +kernel
theorem n_sp : (("shift" : Str) == "places") = false := by decide +kernel
theorem lk_1 {a : Str} (x : V) : List.lookup a [(a, x)] = some x := by simp [List.lookup]
theorem lk_3a {a b c : Str} (x y z : V) : List.lookup a [(a, x), (b, y), (c, z)] = some x := by simp [List.lookup]
theorem lk_3b {a b c : Str} (h : (b == a) = false) (x y z : V) : List.lookup b [(a, x), (b, y), (c, z)] = some y := by simp [List.lookup, h]
theorem lk_3c {a b c : Str} (h : (c == a) = false) (h2 : (c == b) = false) (x y z : V) : List.lookup c [(a, x), (b, y), (c, z)] = some z := by simp [List.lookup, h, h2]
theorem lk_n1 {a m : Str} (h : (m == a) = false) (x : V) : List.lookup m [(a, x)] = none := by simp [List.lookup, h]
theorem lk_n3 {a b c m : Str} (h1 : (m == a) = false) (h2 : (m == b) = false) (h3 : (m == c) = false) (x y z : V) : List.lookup m [(a, x), (b, y), (c, z)] = none := by simp [List.lookup, h1, h2, h3]
theorem put_0 (a : Str) (x : V) : putF a x [] = [(a, x)] := rfl
theorem put_1 {a b : Str} (h : ¬ a = b) (x y : V) : putF b y [(a, x)] = [(a, x), (b, y)] := by
  show (if a = b then _ else _) = _
  rw [if_neg h]
  rfl
theorem put_2 {a b c : Str} (h : ¬ a = c) (h2 : ¬ b = c) (x y z : V) : putF c z [(a, x), (b, y)] = [(a, x), (b, y), (c, z)] := by
  show (if a = c then _ else _ :: (if b = c then _ else _)) = _
  rw [if_neg h, if_neg h2]
  rfl
end Eb
namespace Eb
open PySem L2
structure Cz (K : PySem.W.Frag) (mg : Str → Option Value) (cAnswer cEven cApart : Addr) : Prop where
  m_Answer : mg "Answer" = some (.ref cAnswer)
  m_Even : mg "Even" = some (.ref cEven)
  m_Apart : mg "Apart" = some (.ref cApart)
  k_Even : Kl K cEven
  n_Even_turn : NoAttr K cEven "turn"
  i_Even_Answer : PySem.W.kitOne K (.ref cEven) (.ref cAnswer) = some true
  i_Even_Even : PySem.W.kitOne K (.ref cEven) (.ref cEven) = some true
  i_Even_Apart : PySem.W.kitOne K (.ref cEven) (.ref cApart) = some false
  k_Apart : Kl K cApart
  n_Apart_first : NoAttr K cApart "first"
  n_Apart_second : NoAttr K cApart "second"
  n_Apart_many : NoAttr K cApart "many"
  i_Apart_Answer : PySem.W.kitOne K (.ref cApart) (.ref cAnswer) = some true
  i_Apart_Even : PySem.W.kitOne K (.ref cApart) (.ref cEven) = some false
  i_Apart_Apart : PySem.W.kitOne K (.ref cApart) (.ref cApart) = some true
theorem lk_Even_turn (x : V) : List.lookup ("turn" : Str) [(("turn" : Str), x)] = some x := lk_1 x
theorem lk_Even_shows (x : V) : List.lookup ("shows" : Str) [(("turn" : Str), x)] = none := lk_n1 (by decide +kernel) x
theorem lk_Apart_first (x y z : V) : List.lookup ("first" : Str) [(("first" : Str), x), (("second" : Str), y), (("many" : Str), z)] = some x := lk_3a  x y z
theorem lk_Apart_second (x y z : V) : List.lookup ("second" : Str) [(("first" : Str), x), (("second" : Str), y), (("many" : Str), z)] = some y := lk_3b n_sf x y z
theorem lk_Apart_many (x y z : V) : List.lookup ("many" : Str) [(("first" : Str), x), (("second" : Str), y), (("many" : Str), z)] = some z := lk_3c n_mf n_ms x y z
theorem lk_Apart_shows (x y z : V) : List.lookup ("shows" : Str) [(("first" : Str), x), (("second" : Str), y), (("many" : Str), z)] = none := lk_n3 (by decide +kernel) (by decide +kernel) (by decide +kernel) x y z
end Eb
namespace Eb
open PySem L2
def topS (i : Nat) : Stmt := PySem.Challenge.pw_evenbeats_k03_whole_turned.main.body.getD i (.Pass ⟨0, 0, 0, 0⟩)
end Eb
namespace Eb
open PySem PySem.Spec PyProof.Rows L2 TL Evl
abbrev sApartInit : Stmt := inClass (topS 21) 0
theorem scApartInit : FnScope ["self", "first", "second", "many"] ["self", "first", "second", "many"] (defScope sApartInit) := ⟨rfl, rfl, rfl, by decide +kernel, rfl, by decide +kernel, by decide +kernel⟩
section
variable {P : Program} {w : World} {K : PySem.W.Frag} {mg : Str → Option Value} {base : Heap} {cAnswer cEven cApart : Addr}
theorem ok_Apart_init (D : InitAt K cApart "Apart.__init__" sApartInit) (Z : Cz K mg cAnswer cEven cApart) : C8.Mak P w K mg base 1 "Apart" cApart (spI cApart ["first", "second", "many"]) [] := by
  refine mak_of D Z.m_Apart (fun _ _ _ _ _ _ us hl => match us, hl with | [_, _, _, _], _ => rfl) scApartInit (fun vs H Q E h => ?_) (fun f cdv A outer s H vs Q E hr h => ?_)
  · obtain ⟨x, dx, us, rfl, hl, _⟩ := h
    exact congrArg Nat.succ hl
  · obtain ⟨x, dx, us, rfl, hl, ho, k⟩ := h
    obtain ⟨v1, v2, v3, rfl⟩ : ∃ v1 v2 v3, us = [v1, v2, v3] := match us, hl with | [a, b, c], _ => ⟨a, b, c, rfl⟩
    refine ⟨_, (pss_cons (ps_fld (pv 0) (pv 1) rfl)
      (pss_cons (ps_fld (pv 0) (pv 2) rfl)
      (pss_one (ps_fld (pv 0) (pv 3) rfl)))), ?_⟩
    refine q_fld (ev_var rfl) (ev_var rfl) ho Z.k_Apart.cl Z.n_Apart_first (by simp) fun H1 e1 => ?_
    rw [put_0]
    refine q_fld (ev_var rfl) (ev_var rfl) upd_same Z.k_Apart.cl Z.n_Apart_second (by simp) fun H2 e2 => ?_
    rw [put_1 (ne_of_beq_false n_sf).symm]
    refine s_fld (ev_var rfl) (ev_var rfl) upd_same Z.k_Apart.cl Z.n_Apart_many (by simp) fun H3 e3 => ?_
    rw [put_2 (ne_of_beq_false n_mf).symm (ne_of_beq_false n_ms).symm]
    exact k _ ((((KeepBut.refl _ _).ex e1).put.ex e2).put.ex e3).put upd_same
end
end Eb
namespace Eb
open PySem PySem.Spec PyProof.Rows L2 TL Evl
abbrev sEvenInit : Stmt := inClass (topS 20) 0
theorem scEvenInit : FnScope ["self", "turn"] ["self", "turn"] (defScope sEvenInit) := ⟨rfl, rfl, rfl, by decide +kernel, rfl, by decide +kernel, by decide +kernel⟩
section
variable {P : Program} {w : World} {K : PySem.W.Frag} {mg : Str → Option Value} {base : Heap} {cAnswer cEven cApart : Addr}
theorem ok_Even_init (D : InitAt K cEven "Even.__init__" sEvenInit) (Z : Cz K mg cAnswer cEven cApart) : C8.Mak P w K mg base 1 "Even" cEven (spI cEven ["turn"]) [] := by
  refine mak_of D Z.m_Even (fun _ _ _ _ _ _ us hl => match us, hl with | [_, _], _ => rfl) scEvenInit (fun vs H Q E h => ?_) (fun f cdv A outer s H vs Q E hr h => ?_)
  · obtain ⟨x, dx, us, rfl, hl, _⟩ := h
    exact congrArg Nat.succ hl
  · obtain ⟨x, dx, us, rfl, hl, ho, k⟩ := h
    obtain ⟨v1, rfl⟩ : ∃ v1, us = [v1] := match us, hl with | [a], _ => ⟨a, rfl⟩
    refine ⟨_, (pss_one (ps_fld (pv 0) (pv 1) rfl)), ?_⟩
    refine s_fld (ev_var rfl) (ev_var rfl) ho Z.k_Even.cl Z.n_Even_turn (by simp) fun H1 e1 => ?_
    rw [put_0]
    exact k _ ((KeepBut.refl _ _).ex e1).put upd_same
end
end Eb
/-! ### reckoned rows, the sums of a row -/
namespace Eb
def reck (b p s : Int) (n : Nat) : List Bool := (List.range n).map fun (i : Nat) => decide ((s + (i : Int) * b) % p < b)
theorem reck_len (b p s : Int) (n : Nat) : (reck b p s n).length = n := by
  unfold reck
  rw [List.length_map, List.length_range]
theorem reck_succ (b p s : Int) (n : Nat) : reck b p s (n + 1) = reck b p s n ++ [decide ((s + (n : Int) * b) % p < b)] := by
  unfold reck
  rw [List.range_succ, List.map_append]
  rfl
theorem rest_succ (b p s : Int) (n : Nat) : ((s + (n : Int) * b) % p + b) % p = (s + ((n + 1 : Nat) : Int) * b) % p := by
  rw [Int.emod_add_emod]
  congr 1
  rw [Int.natCast_succ, Int.add_mul]
  omega
def sums (bs : List Bool) : List Int := (List.range (bs.length + 1)).map fun (i : Nat) => (((bs.take i).count true : Nat) : Int)
theorem sums_len (bs : List Bool) : (sums bs).length = bs.length + 1 := by
  unfold sums
  rw [List.length_map, List.length_range]
def sumsTo (bs : List Bool) (n : Nat) : List Int := (List.range (n + 1)).map fun (i : Nat) => (((bs.take i).count true : Nat) : Int)
theorem sumsTo_len (bs : List Bool) (n : Nat) : (sumsTo bs n).length = n + 1 := by
  unfold sumsTo
  rw [List.length_map, List.length_range]
theorem sumsTo_succ {bs : List Bool} {n : Nat} {b : Bool} (h : bs[n]? = some b) : sumsTo bs (n + 1) = sumsTo bs n ++ [(sumsTo bs n).getLast?.getD 0 + (if (decide ([b] = [true])) = true then 1 else 0)] := by
  have e : (sumsTo bs n).getLast?.getD 0 = (((bs.take n).count true : Nat) : Int) := by
    unfold sumsTo
    rw [List.range_succ, List.map_append, List.map_singleton, List.getLast?_append]
    rfl
  rw [e]
  unfold sumsTo
  rw [List.range_succ (n := n + 1), List.map_append, List.map_singleton, List.take_add_one, h, List.count_append]
  congr 2
  cases b <;> simp
end Eb
namespace Eb
open PySem PySem.Spec PyProof.Rows L2 TL Evl
abbrev sLawReckoned : Stmt := topS 27
theorem scLawReckoned : FnScope ["_law_beats", "_law_places", "_law_shift", "_law_many", "_law_rest", "_law_signs", "_law_at"] ["_law_beats", "_law_places", "_law_shift", "_law_many"] (defScope sLawReckoned) := ⟨rfl, rfl, rfl, by decide +kernel, rfl, by decide +kernel, by decide +kernel⟩
def spLawReckoned (_ : PySem.W.Frag) : Sp := fun vs H Q _ => ∃ b p s m : Int, vs = [.int b, .int p, .int s, .int m] ∧ (0 < p ∧ 0 ≤ m ∧ m ≤ 1000) ∧ RetV (.str (enc (reck b p s m.toNat))) H Q
theorem spv__law_reckoned {K : PySem.W.Frag} {H : Hp} {b p s m : Int} (h : 0 < p ∧ 0 ≤ m ∧ m ≤ 1000) : SpV (spLawReckoned K) [.int b, .int p, .int s, .int m] H (.str (enc (reck b p s m.toNat))) := fun _ _ _ q _ => ⟨b, p, s, m, rfl, h, q⟩
section
variable {P : Program} {w : World} {K : PySem.W.Frag} {mg : Str → Option Value} {base : Heap}
theorem ok__law_reckoned (D : DefAt K mg "_law_reckoned" sLawReckoned) (B : Bn mg) : C8.Cal P w K mg base 1 "_law_reckoned" (spLawReckoned K) [] := by
  refine cal_of D (fun _ _ _ _ _ _ us hl => match us, hl with | [_, _, _, _], _ => rfl) scLawReckoned (fun vs H Q E h => ?_) (fun f cdv A outer s H vs Q E hr h => ?_)
  · obtain ⟨b, p, s, m, rfl, _⟩ := h
    rfl
  · obtain ⟨b, p, s, m, rfl, ⟨h1, h2, h3⟩, k⟩ := h
    refine ⟨_, (pss_cons (ps_set (i := 4) scLawReckoned.nd rfl (Or.inl rfl) (pe_op op_mod (pv 2) (pv 1)))
      (pss_cons (ps_set (i := 5) scLawReckoned.nd rfl (Or.inl rfl) (pe_lst pa_nil))
      (pss_cons (ps_for PassesOwn.never rfl (pi_range1 rfl B.range_ (pa_cons (pv 3) pa_nil)) (pg_name (i := 6) scLawReckoned.nd rfl (Or.inl rfl))
      (pss_cons (ps_expr (pe_bm PySem.F.plainAttrs_list PySem.F.slot_list_append PySem.F.type_list_append mt_append (pv 5) (pa_cons (pe_ifExp (pt_cmp (pc_lt (pv 4) (pv 0))) pe_sx pe_sd) pa_nil)))
      (pss_one (ps_set (i := 4) scLawReckoned.nd rfl (Or.inl rfl) (pe_op op_mod (pe_op op_add (pv 4) (pv 0)) (pv 1))))))
      (pss_one (ps_ret (pe_join pe_s0 (pv 5))))))), ?_⟩
    refine q_asg (ev_op (ev_var rfl) (ev_var rfl) (rv_I (by walk_at "pos"))) fun H1 e1 => ?_
    refine q_asgL (el_lst ea_nil (by walk_at "sz")) fun l H2 hl e2 x2 => ?_
    have hl0 : H l = none := fresh_back e1 hl
    have e02 := e1.trans e2
    refine q_forR1 (ea_cons (ev_var rfl) ea_nil) ⟨h2, by omega⟩ (fun i σ' H' => ∃ z, σ' = [some (.int b), some (.int p), some (.int s), some (.int m), some (.int ((s + (i : Int) * b) % p)), some (.ref l), z] ∧ Ex H H' ∧ H' l = some (.lst ((reck b p s i).map fun c => V.str (enc [c]))))
      (fun H3 e3 => ⟨none, by
        rw [show s + ((0 : Nat) : Int) * b = s by simp]
        rfl, e02.trans e3, e3 _ _ x2⟩) (fun i σ' H' hi hp => ?_) (fun σ' H' hp => ?_)
    · obtain ⟨z, rfl, ex, hx⟩ := hp
      refine q_app hx (ev_var rfl) (ev_ifS (et_B (ev_cmp (ev_var rfl) (ev_var rfl))) ev_c ev_c) (by
        rw [List.length_map, reck_len]
        omega) fun H3 e3 => ?_
      refine s_asg (ev_op (ev_op (ev_var rfl) (ev_var rfl) rv_I0) (ev_var rfl) (rv_I (by walk_at "pos"))) fun H4 e4 => ?_
      refine ⟨some (.int (i : Int)), ?_, (Ex.mut (ex.trans e3) hl0).trans e4, e4 _ _ ?_⟩
      · rw [rest_succ]
        rfl
      · rw [upd_same, reck_succ, List.map_append]
        rfl
    · obtain ⟨z, rfl, ex, hx⟩ := hp
      have hz := reck_len b p s m.toNat
      exact s_ret (ev_join1L ev_c (ev_var rfl) (by walk_at "lst") (by walk_at "sz")) fun H3 e3 => k.go (ex.trans e3)
end
end Eb
/-! ### beats laid by a reckoning, counted -/
namespace Eb
/-- how many beats there are ahead of a place -/
def cbt (bs : List Bool) (i : Nat) : Int := (((bs.take i).count true : Nat) : Int)
theorem cbt_zero (bs : List Bool) : cbt bs 0 = 0 := by
  unfold cbt
  rw [List.take_zero]
  rfl
theorem cbt_all {bs : List Bool} {i : Nat} (h : bs.length ≤ i) : cbt bs i = ((bs.count true : Nat) : Int) := by
  unfold cbt
  rw [List.take_of_length_le h]
theorem cbt_succ {bs : List Bool} {i : Nat} (h : i < bs.length) : cbt bs (i + 1) = cbt bs i + (if bs[i] then 1 else 0) := by
  unfold cbt
  rw [List.take_add_one, List.getElem?_eq_getElem h, List.count_append]
  cases bs[i] <;> simp
theorem beat_floor {x p b : Int} (hp : 0 < p) (h0 : 0 ≤ b) (h1 : b ≤ p) : (if x % p < b then (1 : Int) else 0) = x / p - (x - b) / p := by
  have e : x = x % p + p * (x / p) := by
    have := Int.emod_add_mul_ediv x p
    omega
  have r0 := Int.emod_nonneg x (by omega : p ≠ 0)
  have r1 := Int.emod_lt_of_pos x hp
  generalize x / p = q at *
  generalize x % p = r at *
  by_cases h : r < b
  · rw [if_pos h]
    have e2 : x - b = (r - b + p) + p * (q - 1) := by
      rw [e, Int.mul_sub]
      omega
    rw [e2, Int.add_mul_ediv_left _ _ (by omega), Int.ediv_eq_zero_of_lt (by omega) (by omega)]
    omega
  · rw [if_neg h]
    have e2 : x - b = (r - b) + p * q := by
      rw [e]
      omega
    rw [e2, Int.add_mul_ediv_left _ _ (by omega), Int.ediv_eq_zero_of_lt (by omega) (by omega)]
    omega
theorem reck_get {b p s : Int} {n i : Nat} (h : i < n) : (reck b p s n)[i]? = some (decide ((s + (i : Int) * b) % p < b)) := by
  unfold reck
  rw [List.getElem?_map, List.getElem?_range h]
  rfl
theorem reck_take {b p s : Int} {n i : Nat} (h : i ≤ n) : (reck b p s n).take i = reck b p s i := by
  unfold reck
  rw [← List.map_take, List.take_range, Nat.min_eq_left h]
theorem cbt_reck {b p s : Int} (hp : 0 < p) (h0 : 0 ≤ b) (h1 : b ≤ p) {n : Nat} : ∀ {i : Nat}, i ≤ n → cbt (reck b p s n) i = (s - b + (i : Int) * b) / p - (s - b) / p
  | 0, _ => by
    rw [cbt_zero]
    simp
  | i + 1, hi => by
    have hl : i < (reck b p s n).length := by
      rw [reck_len]
      exact hi
    rw [cbt_succ hl, cbt_reck hp h0 h1 (by omega : i ≤ n)]
    have g : (reck b p s n)[i] = decide ((s + (i : Int) * b) % p < b) := by
      have := reck_get (b := b) (p := p) (s := s) (n := n) (i := i) hi
      rw [List.getElem?_eq_getElem hl] at this
      exact Option.some.inj this
    rw [g]
    have f := beat_floor (x := s + (i : Int) * b) hp h0 h1
    have e1 : s - b + ((i + 1 : Nat) : Int) * b = s + (i : Int) * b := by
      rw [Int.natCast_succ, Int.add_mul]
      omega
    have e2 : s + (i : Int) * b - b = s - b + (i : Int) * b := by omega
    rw [e1, ← e2]
    by_cases hd : (s + (i : Int) * b) % p < b
    · rw [if_pos hd] at f
      simp only [decide_eq_true hd, if_true]
      omega
    · rw [if_neg hd] at f
      simp only [decide_eq_false hd]
      simp
      omega
/-! sums over a range -/
def smr (n : Nat) (f : Nat → Int) : Int := ((List.range n).map f).sum
theorem smr_zero (f : Nat → Int) : smr 0 f = 0 := rfl
theorem smr_succ (n : Nat) (f : Nat → Int) : smr (n + 1) f = smr n f + f n := by
  unfold smr
  rw [List.range_succ, List.map_append, List.sum_append]
  simp
theorem smr_shift (f : Nat → Int) : ∀ n, smr n (fun i => f (i + 1)) - smr n f = f n - f 0
  | 0 => by
    rw [smr_zero, smr_zero]
    omega
  | n + 1 => by
    have := smr_shift f n
    rw [smr_succ, smr_succ]
    omega
theorem smr_le {f g : Nat → Int} : ∀ n, (∀ i, i < n → f i ≤ g i) → smr n f ≤ smr n g
  | 0, _ => Int.le_refl _
  | n + 1, h => by
    have h1 := smr_le n fun i hi => h i (by omega)
    have h2 := h n (by omega)
    rw [smr_succ, smr_succ]
    omega
theorem smr_const (c : Int) : ∀ n, smr n (fun _ => c) = (n : Int) * c
  | 0 => by
    rw [smr_zero]
    simp
  | n + 1 => by
    rw [smr_succ, smr_const c n, Int.natCast_succ, Int.add_mul]
    omega
theorem smr_lt {f : Nat → Int} {c : Int} {k : Nat} : ∀ n, (∀ i, i < n → c ≤ f i) → k < n → c < f k → (n : Int) * c < smr n f
  | 0, _, hk, _ => absurd hk (Nat.not_lt_zero _)
  | n + 1, h, hk, hc => by
    rw [smr_succ, Int.natCast_succ, Int.add_mul]
    by_cases e : k = n
    · subst e
      have h1 := smr_le k (f := fun _ => c) (g := f) fun i hi => h i (by omega)
      rw [smr_const] at h1
      omega
    · have h1 := smr_lt n (fun i hi => h i (by omega)) (by omega : k < n) hc
      have h2 := h n (by omega)
      omega
/-! a ring told twice: heights -/
section
variable {bs : List Bool}
def crn (bs : List Bool) (i : Nat) : Int := cbt (bs ++ bs) i
theorem crn_low {i : Nat} (h : i ≤ bs.length) : crn bs i = cbt bs i := by
  unfold crn cbt
  rw [List.take_append_of_le_length h]
theorem crn_high (j : Nat) : crn bs (bs.length + j) = cbt bs bs.length + cbt bs j := by
  unfold crn cbt
  rw [List.take_length_add_append, List.count_append, List.take_length]
  omega
/-- how much a place stands above the even line, in parts of the count of places -/
def hgt (bs : List Bool) (i : Nat) : Int := (bs.length : Int) * crn bs i - (i : Int) * cbt bs bs.length
theorem hgt_wrap {j : Nat} (h : j ≤ bs.length) : hgt bs (bs.length + j) = hgt bs j := by
  unfold hgt
  rw [crn_high, crn_low h]
  grind
theorem hgt_mod {i : Nat} (h : i < 2 * bs.length) : hgt bs i = hgt bs (i % bs.length) := by
  by_cases hi : i < bs.length
  · rw [Nat.mod_eq_of_lt hi]
  · have e : i = bs.length + (i - bs.length) := by omega
    rw [e, hgt_wrap (by omega), Nat.add_mod_left, Nat.mod_eq_of_lt (by omega)]
/-- beats in a stretch -/
def stc (bs : List Bool) (i m : Nat) : Int := crn bs (i + m) - crn bs i
theorem stc_ht (i m : Nat) : (bs.length : Int) * stc bs i m = (m : Int) * cbt bs bs.length + (hgt bs (i + m) - hgt bs i) := by
  unfold stc hgt
  grind
theorem stc_sum (bs : List Bool) : ∀ m, m ≤ bs.length → smr bs.length (fun i => stc bs i m) = (m : Int) * cbt bs bs.length
  | 0, _ => by
    have e : smr bs.length (fun i => stc bs i 0) = smr bs.length (fun _ => 0) := by
      unfold smr
      congr 1
      refine List.map_congr_left fun i _ => ?_
      unfold stc
      rw [Nat.add_zero]
      omega
    rw [e, smr_const]
    simp
  | m + 1, h => by
    have ih := stc_sum bs m (by omega)
    have t := smr_shift (fun i => crn bs (i + m)) bs.length
    have e1 : smr bs.length (fun i => stc bs i (m + 1)) - smr bs.length (fun i => stc bs i m) = smr bs.length (fun i => crn bs (i + 1 + m)) - smr bs.length (fun i => crn bs (i + m)) := by
      have gen : ∀ n, smr n (fun i => stc bs i (m + 1)) - smr n (fun i => stc bs i m) = smr n (fun i => crn bs (i + 1 + m)) - smr n (fun i => crn bs (i + m)) := by
        intro n
        induction n with
        | zero => rfl
        | succ n ih =>
          rw [smr_succ, smr_succ, smr_succ, smr_succ]
          have e2 : n + (m + 1) = n + 1 + m := by omega
          unfold stc at ih ⊢
          rw [e2]
          omega
      exact gen _
    have e3 : crn bs (bs.length + m) - crn bs (0 + m) = cbt bs bs.length := by
      rw [crn_high, Nat.zero_add, crn_low (by omega)]
      omega
    rw [Int.natCast_succ, Int.add_mul]
    omega
/-- of any two stretches of as many places the one has at most one beat more -/
def EvenR (bs : List Bool) : Prop := ∀ m i j, m < bs.length → i < bs.length → j < bs.length → stc bs i m ≤ stc bs j m + 1
/-- no two places stand apart by as many parts as there are places -/
def Flat (bs : List Bool) : Prop := ∀ i j, i < bs.length → j < bs.length → hgt bs i - hgt bs j < bs.length
theorem flat_even (h : Flat bs) : EvenR bs := by
  intro m i j hm hi hj
  have h1 := stc_ht (bs := bs) i m
  have h2 := stc_ht (bs := bs) j m
  have h3 := h ((i + m) % bs.length) ((j + m) % bs.length) (Nat.mod_lt _ (by omega)) (Nat.mod_lt _ (by omega))
  rw [← hgt_mod (by omega), ← hgt_mod (by omega)] at h3
  have h4 := h j i hj hi
  have h5 : (bs.length : Int) * (stc bs i m - stc bs j m) < (bs.length : Int) * 2 := by
    rw [Int.mul_sub]
    omega
  have h6 := Int.lt_of_mul_lt_mul_left h5 (by omega)
  omega
/-- two places that stand apart: the stretch from the low one on has one beat more than its share -/
theorem apart_more {p q : Nat} (hp : p < bs.length) (hq : q < bs.length) (h : (bs.length : Int) ≤ hgt bs p - hgt bs q) :
    ∃ m, m = (((p : Int) - (q : Int)) % (bs.length : Int)).toNat ∧ 0 < m ∧ m < bs.length ∧ (m : Int) * cbt bs bs.length + (bs.length : Int) ≤ (bs.length : Int) * stc bs q m := by
  have hn : (0 : Int) < bs.length := by omega
  have m0 := Int.emod_nonneg ((p : Int) - (q : Int)) (by omega : (bs.length : Int) ≠ 0)
  have m1 := Int.emod_lt_of_pos ((p : Int) - (q : Int)) hn
  have key : q + (((p : Int) - (q : Int)) % (bs.length : Int)).toNat = p ∨ q + (((p : Int) - (q : Int)) % (bs.length : Int)).toNat = bs.length + p := by
    by_cases hpq : q ≤ p
    · left
      rw [Int.emod_eq_of_lt (by omega) (by omega)]
      omega
    · right
      have e : ((p : Int) - (q : Int)) % (bs.length : Int) = (p : Int) - (q : Int) + bs.length := by
        rw [← Int.add_emod_right, Int.emod_eq_of_lt (by omega) (by omega)]
      rw [e]
      omega
  refine ⟨_, rfl, ?_, ?_, ?_⟩
  · rcases Nat.eq_zero_or_pos (((p : Int) - (q : Int)) % (bs.length : Int)).toNat with z | z
    · rw [z] at key
      have e : p = q := by omega
      subst e
      omega
    · exact z
  · omega
  · rw [stc_ht]
    have e : hgt bs (q + (((p : Int) - (q : Int)) % (bs.length : Int)).toNat) = hgt bs p := by
      rcases key with k | k
      · rw [k]
      · rw [k, hgt_wrap (by omega)]
    rw [e]
    omega
theorem more_apart {q m : Nat} (hq : q < bs.length) (hm : m < bs.length) (h : (m : Int) * cbt bs bs.length + (bs.length : Int) ≤ (bs.length : Int) * stc bs q m) : ∃ j, j < bs.length ∧ stc bs j m + 2 ≤ stc bs q m := by
  refine Classical.byContradiction fun hno => ?_
  have hall : ∀ i, i < bs.length → stc bs q m - 1 ≤ stc bs i m := fun i hi => by
    refine Classical.byContradiction fun hc => hno ⟨i, hi, ?_⟩
    omega
  have s1 := smr_lt (f := fun i => stc bs i m) (c := stc bs q m - 1) (k := q) bs.length hall hq (by omega)
  rw [stc_sum bs m (by omega), Int.mul_sub] at s1
  omega
theorem even_flat (h : EvenR bs) : Flat bs := by
  intro p q hp hq
  refine Classical.byContradiction fun hc => ?_
  obtain ⟨m, _, hm0, hm, hs⟩ := apart_more hp hq (by omega)
  obtain ⟨j, hj, h2⟩ := more_apart hq hm hs
  have := h m q j hm hq hj
  omega
theorem even_iff : EvenR bs ↔ Flat bs := ⟨even_flat, flat_even⟩
end
end Eb
/-! ### reckoned rows are even; even ones are reckoned -/
namespace Eb
theorem reck_count {b p s : Int} {n : Nat} (hp : 0 < p) (h0 : 0 ≤ b) (h1 : b ≤ p) (hn : (n : Int) = p) : cbt (reck b p s n) n = b := by
  rw [cbt_reck hp h0 h1 (Nat.le_refl n), hn]
  have e : s - b + p * b = s - b + p * b := rfl
  rw [Int.add_mul_ediv_left _ _ (by omega)]
  omega
theorem reck_cnt {b p s : Int} {n : Nat} (hp : 0 < p) (h0 : 0 ≤ b) (h1 : b ≤ p) (hn : (n : Int) = p) : (((reck b p s n).count true : Nat) : Int) = b := by
  have h := reck_count (s := s) hp h0 h1 hn
  rw [cbt_all (by rw [reck_len]; exact Nat.le_refl n)] at h
  exact h
theorem reck_ht {b p s : Int} {n : Nat} (hp : 0 < p) (h0 : 0 ≤ b) (h1 : b ≤ p) (hn : (n : Int) = p) {i : Nat} (hi : i < n) : hgt (reck b p s n) i = (s - b) - p * ((s - b) / p) - (s - b + (i : Int) * b) % p := by
  unfold hgt
  rw [reck_len, crn_low (by rw [reck_len]; omega), reck_count hp h0 h1 hn, cbt_reck hp h0 h1 (by omega), hn, Int.mul_sub]
  have := Int.emod_add_mul_ediv (s - b + (i : Int) * b) p
  omega
theorem reck_flat {b p s : Int} {n : Nat} (hp : 0 < p) (h0 : 0 ≤ b) (h1 : b ≤ p) (hn : (n : Int) = p) : Flat (reck b p s n) := by
  intro i j hi hj
  rw [reck_len] at hi hj ⊢
  rw [reck_ht hp h0 h1 hn hi, reck_ht hp h0 h1 hn hj]
  have a1 := Int.emod_nonneg (s - b + (i : Int) * b) (by omega : p ≠ 0)
  have a2 := Int.emod_lt_of_pos (s - b + (j : Int) * b) hp
  omega
theorem reck_mod {b p s t : Int} (n : Nat) (h : s % p = t % p) : reck b p s n = reck b p t n := by
  unfold reck
  refine List.map_congr_left fun i _ => ?_
  rw [Int.add_emod s, Int.add_emod t, h]
/-- heights of a row -/
theorem row_reck {bs : List Bool} {p b M : Int} (hp : 0 < p) (h0 : 0 ≤ b) (h1 : b ≤ p) (hu : ∀ i, i ≤ bs.length → p * cbt bs i - (i : Int) * b ≤ M) (hl : ∀ i, i ≤ bs.length → M - p < p * cbt bs i - (i : Int) * b) :
    bs = reck b p (M + b) bs.length := by
  apply List.ext_getElem?
  intro i
  by_cases hi : i < bs.length
  · rw [reck_get hi, List.getElem?_eq_getElem hi]
    congr 1
    have u0 := hu i (by omega)
    have l0 := hl i (by omega)
    have u1 := hu (i + 1) (by omega)
    have l1 := hl (i + 1) (by omega)
    rw [cbt_succ hi] at u1 l1
    rw [Int.natCast_succ, Int.add_mul, Int.mul_add] at u1 l1
    generalize hd : M - (p * cbt bs i - (i : Int) * b) = d at *
    have e : M + b + (i : Int) * b = (d + b) + p * cbt bs i := by omega
    rw [e, Int.add_mul_emod_self_left]
    cases hb : bs[i] with
    | true =>
      rw [hb] at u1 l1
      simp only [if_true] at u1 l1
      have e2 : (d + b) % p = d + b - p := by
        rw [← Int.sub_emod_right, Int.emod_eq_of_lt (by omega) (by omega)]
      rw [e2]
      exact (decide_eq_true (by omega)).symm
    | false =>
      rw [hb] at u1 l1
      simp at u1 l1
      have e2 : (d + b) % p = d + b := Int.emod_eq_of_lt (by omega) (by omega)
      rw [e2]
      exact (decide_eq_false (by omega)).symm
  · rw [List.getElem?_eq_none (by omega), List.getElem?_eq_none (by rw [reck_len]; omega)]
theorem cbt_le (bs : List Bool) (i : Nat) : 0 ≤ cbt bs i ∧ cbt bs i ≤ i := by
  unfold cbt
  have h1 := List.count_le_length (a := true) (l := bs.take i)
  rw [List.length_take] at h1
  omega
theorem cnt_le (bs : List Bool) : bs.count true ≤ bs.length := List.count_le_length
/-- the greatest of the heights -/
theorem top_at (f : Nat → Int) : ∀ n, ∃ q, q ≤ n ∧ ∀ i, i ≤ n → f i ≤ f q
  | 0 => ⟨0, Nat.le_refl _, fun i hi => by
    have : i = 0 := by omega
    rw [this]
    exact Int.le_refl _⟩
  | n + 1 => by
    obtain ⟨q, hq, h⟩ := top_at f n
    by_cases c : f q ≤ f (n + 1)
    · refine ⟨n + 1, Nat.le_refl _, fun i hi => ?_⟩
      by_cases hi2 : i ≤ n
      · exact Int.le_trans (h i hi2) c
      · have : i = n + 1 := by omega
        rw [this]
        exact Int.le_refl _
    · refine ⟨q, by omega, fun i hi => ?_⟩
      by_cases hi2 : i ≤ n
      · exact h i hi2
      · have : i = n + 1 := by omega
        rw [this]
        omega
theorem hgt_low {bs : List Bool} {i : Nat} (h : i ≤ bs.length) : hgt bs i = (bs.length : Int) * cbt bs i - (i : Int) * ((bs.count true : Nat) : Int) := by
  unfold hgt
  rw [crn_low h, cbt_all (Nat.le_refl _)]
/-- an even ring is reckoned from a turn on -/
theorem flat_turn {bs : List Bool} (hn : 0 < bs.length) (h : Flat bs) : ∃ t : Nat, t < bs.length ∧ bs = reck (bs.count true : Nat) bs.length ((t : Int) * (bs.count true : Nat)) bs.length := by
  obtain ⟨q, hq, hmax⟩ := top_at (hgt bs) (bs.length - 1)
  have hfl : ∀ i, i ≤ bs.length → hgt bs i ≤ hgt bs q ∧ hgt bs q - bs.length < hgt bs i := fun i hi => by
    by_cases c : i < bs.length
    · have h1 := hmax i (by omega)
      have h2 := h q i (by omega) c
      omega
    · have e : i = bs.length + 0 := by omega
      rw [e, hgt_wrap (Nat.zero_le _)]
      have h1 := hmax 0 (Nat.zero_le _)
      have h2 := h q 0 (by omega) hn
      omega
  have r := row_reck (bs := bs) (p := bs.length) (b := (bs.count true : Nat)) (M := hgt bs q) (by omega) (by omega) (by have := cnt_le bs; omega)
    (fun i hi => by
      rw [← hgt_low hi]
      exact (hfl i hi).1)
    (fun i hi => by
      rw [← hgt_low hi]
      exact (hfl i hi).2)
  refine ⟨((1 - (q : Int)) % (bs.length : Int)).toNat, ?_, ?_⟩
  · have := Int.emod_lt_of_pos (1 - (q : Int)) (by omega : (0 : Int) < bs.length)
    omega
  · refine r.trans (reck_mod _ ?_)
    have nn := Int.emod_nonneg (1 - (q : Int)) (by omega : (bs.length : Int) ≠ 0)
    rw [Int.toNat_of_nonneg nn, hgt_low (by omega), Int.mul_emod ((1 - (q : Int)) % _), Int.emod_emod, ← Int.mul_emod]
    have e : (bs.length : Int) * cbt bs q - (q : Int) * ((bs.count true : Nat) : Int) + ((bs.count true : Nat) : Int) = (1 - (q : Int)) * ((bs.count true : Nat) : Int) + (bs.length : Int) * cbt bs q := by
      rw [Int.sub_mul]
      omega
    rw [e, Int.add_mul_emod_self_left]
theorem turn_flat {bs : List Bool} {s : Int} (hn : 0 < bs.length) (h : bs = reck (bs.count true : Nat) bs.length s bs.length) : Flat bs := by
  rw [h]
  exact reck_flat (by omega) (by omega) (by have := cnt_le bs; omega) rfl
theorem reck_drop (b p s : Int) (k n : Nat) : (reck b p s (k + n)).drop k = reck b p (s + (k : Int) * b) n := by
  apply List.ext_getElem?
  intro i
  rw [List.getElem?_drop]
  by_cases hi : i < n
  · rw [reck_get (by omega), reck_get hi]
    congr 2
    rw [show s + ((k + i : Nat) : Int) * b = s + (k : Int) * b + (i : Int) * b by
      rw [Int.natCast_add, Int.add_mul]
      omega]
  · rw [List.getElem?_eq_none (by rw [reck_len]; omega), List.getElem?_eq_none (by rw [reck_len]; omega)]
theorem reck_app (b p s : Int) (k n : Nat) : reck b p s (k + n) = reck b p s k ++ reck b p (s + (k : Int) * b) n := by
  rw [← reck_drop, ← reck_take (by omega : k ≤ k + n), List.take_append_drop]
theorem reck_twice {b p : Int} {n : Nat} (hn : (n : Int) = p) : reck b p 0 n ++ reck b p 0 n = reck b p 0 (n + n) := by
  rw [reck_app]
  congr 1
  refine reck_mod _ ?_
  rw [Int.zero_add, hn, Int.mul_emod_right]
  rfl
/-- the ring of so many places from one on, in the ring told twice -/
theorem reck_part {b p : Int} {n k : Nat} (hn : (n : Int) = p) (hk : k ≤ n) : ((reck b p 0 n ++ reck b p 0 n).drop k).take n = reck b p ((k : Int) * b) n := by
  rw [reck_twice hn, show n + n = k + (n + n - k) by omega, reck_drop, reck_take (by omega), Int.zero_add]
end Eb
/-! ### the sums of a row; evenness as the law asks it -/
namespace Eb
open L2
theorem sums_get {bs : List Bool} {k : Nat} (h : k ≤ bs.length) : (sums bs).getD k 0 = cbt bs k := by
  unfold sums
  rw [List.getD_eq_getElem?_getD, List.getElem?_map, List.getElem?_range (by omega)]
  rfl
def cnts (bs : List Bool) (m : Nat) : List Int := (List.range bs.length).map fun i => stc bs i m
theorem cnts_len (bs : List Bool) (m : Nat) : (cnts bs m).length = bs.length := by
  unfold cnts
  rw [List.length_map, List.length_range]
theorem cnts_get {bs : List Bool} {m i : Nat} (h : i < bs.length) : (cnts bs m).getD i 0 = stc bs i m := by
  unfold cnts
  rw [List.getD_eq_getElem?_getD, List.getElem?_map, List.getElem?_range h]
  rfl
theorem cnts_mem {bs : List Bool} {m i : Nat} (h : i < bs.length) : stc bs i m ∈ cnts bs m := List.mem_map.mpr ⟨i, List.mem_range.mpr h, rfl⟩
theorem mem_cnts {bs : List Bool} {m : Nat} {z : Int} (h : z ∈ cnts bs m) : ∃ i, i < bs.length ∧ stc bs i m = z := by
  obtain ⟨i, hi, e⟩ := List.mem_map.mp h
  exact ⟨i, List.mem_range.mp hi, e⟩
def okW (bs : List Bool) (m : Nat) : Bool := decide (mx (cnts bs m) ≤ mn (cnts bs m) + 1)
theorem okW_iff {bs : List Bool} {m : Nat} (hn : 0 < bs.length) : okW bs m = true ↔ ∀ i j, i < bs.length → j < bs.length → stc bs i m ≤ stc bs j m + 1 := by
  have hl : 0 < (cnts bs m).length := by
    rw [cnts_len]
    exact hn
  obtain ⟨a1, a2⟩ := mx_mem hl
  obtain ⟨b1, b2⟩ := mn_mem hl
  unfold okW
  rw [decide_eq_true_eq]
  constructor
  · intro h i j hi hj
    have h1 := a2 _ (cnts_mem (m := m) hi)
    have h2 := b2 _ (cnts_mem (m := m) hj)
    omega
  · intro h
    obtain ⟨i, hi, e1⟩ := mem_cnts a1
    obtain ⟨j, hj, e2⟩ := mem_cnts b1
    have := h i j hi hj
    omega
def isEv (bs : List Bool) : Bool := (List.range (bs.length - 1)).all fun k => okW bs (k + 1)
theorem isEv_iff {bs : List Bool} (hn : 0 < bs.length) : isEv bs = true ↔ EvenR bs := by
  unfold isEv EvenR
  rw [List.all_eq_true]
  constructor
  · intro h m i j hm hi hj
    cases m with
    | zero =>
      unfold stc
      rw [Nat.add_zero, Nat.add_zero]
      omega
    | succ m =>
      exact (okW_iff hn).mp (h m (List.mem_range.mpr (by omega))) i j hi hj
  · intro h k hk
    have hk2 := List.mem_range.mp hk
    exact (okW_iff hn).mpr fun i j hi hj => h (k + 1) i j (by omega) hi hj
theorem isEv_flat {bs : List Bool} (hn : 0 < bs.length) : isEv bs = true ↔ Flat bs := (isEv_iff hn).trans even_iff
/-- the counts as they are reckoned from the sums of the ring told twice -/
theorem cnts_eq {bs : List Bool} {m : Int} (h0 : 0 ≤ m) (h1 : m ≤ bs.length) : ((List.range ((bs.length : Nat) : Int).toNat).map fun (i : Nat) => V.int ((sums (bs ++ bs)).getD ((i : Int) + m).toNat 0 - (sums (bs ++ bs)).getD ((i : Int)).toNat 0)) = (cnts bs m.toNat).map V.int := by
  unfold cnts
  rw [List.map_map, Int.toNat_natCast]
  refine List.map_congr_left fun i hi => ?_
  have hi2 := List.mem_range.mp hi
  show V.int _ = V.int _
  rw [sums_get (by rw [List.length_append]; omega), sums_get (by rw [List.length_append]; omega)]
  have e1 : ((i : Int) + m).toNat = i + m.toNat := by omega
  rw [e1, Int.toNat_natCast]
  rfl
end Eb
/-! ### stretches counted; the heights as a list; places of the least and the greatest -/
namespace Eb
open L2
theorem cut_count {l : List Bool} {f m : Int} (h0 : 0 ≤ f) (h1 : 0 ≤ m) : (((cutL l (some f) (some (f + m))).count true : Nat) : Int) = cbt l (f + m).toNat - cbt l f.toNat := by
  obtain ⟨a, rfl⟩ := Int.eq_ofNat_of_zero_le h0
  obtain ⟨b, rfl⟩ := Int.eq_ofNat_of_zero_le h1
  have e : ((a : Int) + (b : Int)) = ((a + b : Nat) : Int) := by omega
  rw [e, cutL_mid, Int.toNat_natCast, Int.toNat_natCast]
  unfold cbt
  have e2 : a + b - a = b := by omega
  rw [e2, ← List.take_append_drop a (l.take (a + b)), List.count_append, List.take_take, List.drop_take, Nat.min_eq_left (by omega), e2]
  omega
theorem crn_succ {bs : List Bool} {k : Nat} (h : k < 2 * bs.length) : crn bs (k + 1) = crn bs k + (if bs.getD (k % bs.length) false then 1 else 0) := by
  unfold crn
  have hl : k < (bs ++ bs).length := by
    rw [List.length_append]
    omega
  rw [cbt_succ hl]
  congr 2
  have e : (bs ++ bs)[k] = bs.getD (k % bs.length) false := by
    rw [List.getD_eq_getElem?_getD]
    by_cases c : k < bs.length
    · rw [List.getElem_append_left c, Nat.mod_eq_of_lt c, List.getElem?_eq_getElem c]
      rfl
    · rw [List.getElem_append_right (by omega)]
      have e2 : k % bs.length = k - bs.length := by
        rw [Nat.mod_eq_sub_mod (by omega), Nat.mod_eq_of_lt (by omega)]
      rw [e2, List.getElem?_eq_getElem (by omega)]
      rfl
  rw [e]
/-- a stretch of a ring, walked around it -/
theorem cyc_count {bs : List Bool} {f : Nat} (hf : f < bs.length) : ∀ {m : Nat}, m ≤ bs.length → ((((List.range m).map fun i => bs.getD ((f + i) % bs.length) false).count true : Nat) : Int) = stc bs f m
  | 0, _ => by
    unfold stc
    simp
  | m + 1, h => by
    have ih := cyc_count hf (by omega : m ≤ bs.length)
    have s := crn_succ (bs := bs) (k := f + m) (by omega)
    unfold stc at ih ⊢
    rw [List.range_succ, List.map_append, List.count_append, List.map_singleton]
    rw [show f + (m + 1) = f + m + 1 by omega]
    generalize bs.getD ((f + m) % bs.length) false = b at s ⊢
    generalize (List.range m).map (fun i => bs.getD ((f + i) % bs.length) false) = l at ih ⊢
    cases b
    · rw [if_neg Bool.false_ne_true] at s
      have e : ([false] : List Bool).count true = 0 := rfl
      rw [e]
      omega
    · rw [if_pos rfl] at s
      have e : ([true] : List Bool).count true = 1 := rfl
      rw [e]
      omega
theorem nat_mod (a b n : Nat) : (((a : Int) + (b : Int)) % (n : Int)).toNat = (a + b) % n := by
  rw [← Int.natCast_add, ← Int.natCast_emod, Int.toNat_natCast]
/-- the signs of a stretch, as they are walked -/
theorem walk_eq (bs : List Bool) (f : Nat) (m : Int) : ((List.range m.toNat).map fun (i : Nat) => V.str (enc [bs.getD (((f : Int) + (i : Int)) % (bs.length : Int)).toNat false])) = ((List.range m.toNat).map fun (i : Nat) => bs.getD ((f + i) % bs.length) false).map fun b => V.str (enc [b]) := by
  rw [List.map_map]
  refine List.map_congr_left fun i _ => ?_
  show V.str _ = V.str _
  rw [nat_mod]
/-! the heights as they are reckoned -/
def hts (bs : List Bool) : List Int := (List.range bs.length).map fun i => hgt bs i
theorem hts_len (bs : List Bool) : (hts bs).length = bs.length := by
  unfold hts
  rw [List.length_map, List.length_range]
theorem hts_get {bs : List Bool} {i : Nat} (h : i < bs.length) : (hts bs)[i]? = some (hgt bs i) := by
  unfold hts
  rw [List.getElem?_map, List.getElem?_range h]
  rfl
theorem hts_eq (bs : List Bool) : ((List.range ((bs.length : Nat) : Int).toNat).map fun (i : Nat) => V.int ((sums bs).getD ((i : Int)).toNat 0 * ((bs.length : Nat) : Int) - (i : Int) * ((bs.count true : Nat) : Int))) = (hts bs).map V.int := by
  unfold hts
  rw [List.map_map, Int.toNat_natCast]
  refine List.map_congr_left fun i hi => ?_
  have hi2 := List.mem_range.mp hi
  show V.int _ = V.int (hgt bs i)
  rw [Int.toNat_natCast, sums_get (by omega), hgt_low (by omega), Int.mul_comm]
/-! first places -/
theorem idx_mem {ns : List Int} {k : Int} (h : k ∈ ns) : ns.idxOf k < ns.length ∧ ns[ns.idxOf k]? = some k := by
  have h1 := List.idxOf_lt_length_iff.mpr h
  refine ⟨h1, ?_⟩
  rw [List.getElem?_eq_getElem h1, List.getElem_idxOf h1]
theorem idx_first {ns : List Int} {k : Int} {m : Nat} {z : Int} (hm : m < ns.idxOf k) (hz : ns[m]? = some z) : z ≠ k := by
  intro e
  subst e
  obtain ⟨h1, h2⟩ := List.getElem?_eq_some_iff.mp hz
  have := List.not_of_lt_findIdx hm
  rw [h2] at this
  simp at this
/-- what apart tells -/
theorem apart_right {bs : List Bool} (hn : 0 < bs.length) (h : ¬ Flat bs) (f s : Nat) (m : Int)
    (em : m = (((hts bs).idxOf (mx (hts bs)) : Int) - ((hts bs).idxOf (mn (hts bs)) : Int)) % (bs.length : Int))
    (ef : f = (cnts bs m.toNat).idxOf (mx (cnts bs m.toNat))) (es : s = (cnts bs m.toNat).idxOf (mn (cnts bs m.toNat))) :
    f < bs.length ∧ s < bs.length ∧ 0 ≤ m ∧ m < bs.length ∧ stc bs s m.toNat + 2 ≤ stc bs f m.toNat := by
  have hl : 0 < (hts bs).length := by
    rw [hts_len]
    exact hn
  obtain ⟨a1, a2⟩ := mx_mem hl
  obtain ⟨b1, b2⟩ := mn_mem hl
  obtain ⟨p1, p2⟩ := idx_mem a1
  obtain ⟨q1, q2⟩ := idx_mem b1
  generalize (hts bs).idxOf (mx (hts bs)) = p at *
  generalize (hts bs).idxOf (mn (hts bs)) = q at *
  rw [hts_len] at p1 q1
  rw [hts_get p1] at p2
  rw [hts_get q1] at q2
  have e1 := Option.some.inj p2
  have e2 := Option.some.inj q2
  have hbig : (bs.length : Int) ≤ hgt bs p - hgt bs q := by
    refine Classical.byContradiction fun hc => h fun i j hi hj => ?_
    have h1 := a2 _ (List.mem_of_getElem? (hts_get hi))
    have h2 := b2 _ (List.mem_of_getElem? (hts_get hj))
    omega
  obtain ⟨m', em', m0, m1, hm⟩ := apart_more p1 q1 hbig
  have e3 : m.toNat = m' := by
    rw [em, em']
  have m2 := Int.emod_nonneg ((p : Int) - (q : Int)) (by omega : (bs.length : Int) ≠ 0)
  have m3 := Int.emod_lt_of_pos ((p : Int) - (q : Int)) (by omega : (0 : Int) < bs.length)
  rw [← em] at m2 m3
  rw [e3] at ef es ⊢
  obtain ⟨j, hj, hj2⟩ := more_apart q1 m1 hm
  have hcl : 0 < (cnts bs m').length := by
    rw [cnts_len]
    exact hn
  obtain ⟨c1, c2⟩ := mx_mem hcl
  obtain ⟨d1, d2⟩ := mn_mem hcl
  obtain ⟨r1, r2⟩ := idx_mem c1
  obtain ⟨t1, t2⟩ := idx_mem d1
  rw [← ef] at r1 r2
  rw [← es] at t1 t2
  rw [cnts_len] at r1 t1
  have g1 : stc bs f m' = mx (cnts bs m') := by
    rw [← cnts_get r1, List.getD_eq_getElem?_getD, r2]
    rfl
  have g2 : stc bs s m' = mn (cnts bs m') := by
    rw [← cnts_get t1, List.getD_eq_getElem?_getD, t2]
    rfl
  have h1 := c2 _ (cnts_mem (m := m') q1)
  have h2 := d2 _ (cnts_mem (m := m') hj)
  exact ⟨r1, t1, m2, m3, by omega⟩
end Eb
/-! ### more readings -/
namespace Eb
open PySem PySem.Spec PyProof.Rows L2 TL Evl
section
variable {K : PySem.W.Frag} {σ : L2.St} {H H' : Hp} {ta tb tc te : TE} {x y z v : V} {bs cs : List Bool} {i j k : Int}
theorem rv_isB {a b : Bool} : RV rIsB (.bl a) (.bl b) H (.bl (decide (a = b))) := fun H1 _ _ q => ⟨a, b, rfl, rfl, q H1 (Ex.refl H1)⟩
theorem rv_notB {a b : Bool} : RV rNotB (.bl a) (.bl b) H (.bl (!decide (a = b))) := fun H1 _ _ q => ⟨a, b, rfl, rfl, q H1 (Ex.refl H1)⟩
theorem flat_ints : ∀ ns : List Int, (ns.map V.int).all flatV = true
  | [] => rfl
  | _ :: r => flat_ints r
theorem eqV_int {a b : Int} : eqV (.int a) (.int b) = (a == b) := rfl
theorem ev_idxL {p : Addr} {ns : List Int} (h : Ev ta σ H (.ref p)) (hb : Ev tb σ H (.int k)) (hx : SqL K H p (ns.map V.int)) (hk : k ∈ ns) : Ev (tBM K "list" (rIndex K) ta (tCons tb tNil)) σ H (.int (ns.idxOf k : Nat)) := fun H1 e Q q =>
  h H1 e _ fun H2 e2 => ⟨.inl ⟨rfl, _, ex_l (e.trans e2) hx⟩, hb H2 (e.trans e2) _ fun H3 e3 => ⟨p, ns.map V.int, .int k, ns.idxOf k, .int k, rfl, rfl, ex_l ((e.trans e2).trans e3) hx, rfl, flat_ints ns, by
    rw [List.getElem?_map, (idx_mem hk).2]
    rfl, by
    rw [eqV_int]
    exact beq_self_eq_true k, fun m z' hm hz => by
    rw [List.getElem?_map] at hz
    cases hq : ns[m]? with
    | none =>
      rw [hq] at hz
      cases hz
    | some w =>
      rw [hq] at hz
      have e3 : V.int w = z' := Option.some.inj hz
      subst e3
      rw [eqV_int]
      exact beq_eq_false_iff_ne.mpr (idx_first hm hq), q H3 (e2.trans e3)⟩⟩
variable {D : Ends} {tz : TS}
/-- xs[i] = a sign, xs a list of signs just made -/
theorem q_setSg {l : Addr} {b : Bool} (hl : H l = some (.lst (bs.map fun b => V.str (enc [b])))) (h : Ev te σ H (.str (enc [b]))) (ho : Ev ta σ H (.ref l)) (hi : Ev tb σ H (.int i)) (h0 : 0 ≤ i) (h1 : i < bs.length)
    (k : ∀ H1, (∀ H0, H0 l = none → Ex H0 H → Ex H0 H1) → H1 l = some (.lst ((bs.set i.toNat b).map fun b => V.str (enc [b]))) → tz D σ H1) : tSeq (tAsg te (gSub ta tb rSetL)) tz D σ H := by
  have e : i = (i.toNat : Int) := by omega
  rw [e] at hi
  refine q_setL hl h ho hi (by
    rw [List.length_map]
    omega) fun H1 e1 => k _ (fun H0 h0 e0 => Ex.mut (e0.trans e1) h0) ?_
  rw [upd_same, List.map_set]
end
end Eb
namespace Eb
open PySem PySem.Spec PyProof.Rows L2 TL Evl
abbrev sLawDrawn : Stmt := topS 28
theorem scLawDrawn : FnScope ["_law_script", "_law_many", "_law_mixed", "_law_kind", "_law_beats", "_law_ring", "_law_one", "_law_other", "_law_signs", "_law_cell"] ["_law_script"] (defScope sLawDrawn) := ⟨rfl, rfl, rfl, by decide +kernel, rfl, by decide +kernel, by decide +kernel⟩
def spLawDrawn (K : PySem.W.Frag) : Sp := fun vs H Q _ => ∃ (a : Addr) (ns : List Int), vs = [.ref a] ∧ SqL K H a (ns.map V.int) ∧ (0 < ns.length ∧ ns.length ≤ 63) ∧ ∀ (bs : List Bool) H2, bs.length = ns.length → Ex H H2 → Q (.str (enc bs)) H2
section
variable {P : Program} {w : World} {K : PySem.W.Frag} {mg : Str → Option Value} {base : Heap}
theorem ok__law_drawn (D : DefAt K mg "_law_drawn" sLawDrawn) (B : Bn mg) (c__law_reckoned : C8.Cal P w K mg base 1 "_law_reckoned" (spLawReckoned K) []) : C8.Cal P w K mg base 2 "_law_drawn" (spLawDrawn K) [] := by
  refine cal_of D (fun _ _ _ _ _ _ us hl => match us, hl with | [_], _ => rfl) scLawDrawn (fun vs H Q E h => ?_) (fun f cdv A outer s H vs Q E hr h => ?_)
  · obtain ⟨a, ns, rfl, _⟩ := h
    rfl
  · obtain ⟨a, ns, rfl, hS, ⟨h0, h1⟩, k⟩ := h
    refine ⟨_, (pss_cons (ps_set (i := 1) scLawDrawn.nd rfl (Or.inl rfl) (pe_callB call_len_seq (by rfl) B.len_ PySem.boot_len (pa_cons (pv 0) pa_nil)))
      (pss_cons (ps_set (i := 2) scLawDrawn.nd rfl (Or.inl rfl) (pe_callB (cr_sum rfl) (by rfl) B.sum_ (by decide +kernel) (pa_cons (pv 0) pa_nil)))
      (pss_cons (ps_set (i := 3) scLawDrawn.nd rfl (Or.inl rfl) (pe_op op_mod (pv 2) pe_int))
      (pss_cons (ps_if (pt_cmp (pc_eqI (pv 3) pe_int))
      (pss_one (ps_ret (pe_join pe_s0 (pe_lc (own := [("_law_cell", 9)]) (g := gName 9) rfl scLawDrawn.nd (pi_list (pv 0)) (blkOk_by (own := [("_law_cell", 9)]) (N := ["_law_script", "_law_many", "_law_mixed", "_law_kind", "_law_beats", "_law_ring", "_law_one", "_law_other", "_law_signs", "_law_cell"]) (sc := defScope sLawDrawn) (by decide +kernel)) (fun _ _ _ _ _ => (pg_name (i := 9) scLawDrawn.nd rfl (Or.inl rfl))) (fun _ _ _ _ _ => pts_nil) (fun _ _ _ _ _ => (pe_ix ix_str pe_sdx (pe_op op_mod (pv 9) pe_int) (fun _ _ => rfl)))))))
      pss_nil)
      (pss_cons (ps_set (i := 4) scLawDrawn.nd rfl (Or.inl rfl) (pe_op op_mod (pe_ix (ix_listK (K := K) rfl) (pv 0) (pe_op op_mod (pe_op op_fdiv (pv 2) pe_int) (pv 1)) (fun _ _ => rfl)) (pe_op op_add (pv 1) pe_int)))
      (pss_cons (ps_set (i := 5) scLawDrawn.nd rfl (Or.inl rfl) (C8.pe_c c__law_reckoned hr (by decide) (by rfl) (pa_cons (pv 4) (pa_cons (pv 1) (pa_cons (pe_op op_mul (pe_op op_fdiv (pv 2) pe_int) (pv 4)) (pa_cons (pv 1) pa_nil))))))
      (pss_cons (ps_set (i := 6) scLawDrawn.nd rfl (Or.inl rfl) (pe_op op_mod (pe_ix (ix_listK (K := K) rfl) (pv 0) pe_int (fun _ _ => rfl)) (pv 1)))
      (pss_cons (ps_set (i := 7) scLawDrawn.nd rfl (Or.inl rfl) (pe_op op_mod (pe_op op_fdiv (pe_ix (ix_listK (K := K) rfl) (pv 0) (pe_un un_neg pe_int) (fun _ _ => rfl)) pe_int) (pv 1)))
      (pss_cons (ps_if (pt_cmp (pc_eqI (pv 3) pe_int))
      (pss_cons (ps_set (i := 8) scLawDrawn.nd rfl (Or.inl rfl) (pe_callTy (call_listS rfl) (by rfl) B.list_ (by decide +kernel) (pa_cons (pv 5) pa_nil)))
      (pss_cons (ps_asg (pe_ix ix_str (pv 5) (pv 7) (fun _ _ => rfl)) (pg_sub (pv 8) (pv 6) set_list))
      (pss_cons (ps_asg (pe_ix ix_str (pv 5) (pv 6) (fun _ _ => rfl)) (pg_sub (pv 8) (pv 7) set_list))
      (pss_one (ps_ret (pe_join pe_s0 (pv 8)))))))
      pss_nil)
      (pss_cons (ps_if (pt_cmp (pc_eqI (pv 3) pe_int))
      (pss_one (ps_ret (pe_op op_add_str (pe_op op_add_str (pe_slice sl_str (pv 5) po_none (po_some (pv 6))) pe_sx) (pe_slice sl_str (pv 5) (po_some (pe_op op_add (pv 6) pe_int)) po_none))))
      pss_nil)
      (pss_one (ps_ret (pv 5))))))))))))), ?_⟩
    refine q_asg (ev_cb (ea_cons (ev_var rfl) ea_nil) (rc_lenLi (by walk_at "lst"))) fun H1 e1 => ?_
    replace hS := ex_l e1 hS
    refine q_asg (ev_cb (ea_cons (ev_var rfl) ea_nil) (rc_sum (by walk_at "lst"))) fun H2 e2 => ?_
    replace hS := ex_l e2 hS
    generalize ns.sum = m
    refine q_asg (ev_op (ev_var rfl) ev_c (rv_I (by walk_at "pos"))) fun H3 e3 => ?_
    replace hS := ex_l e3 hS
    have e03 := (e1.trans e2).trans e3
    refine q_when (et_B (ev_cmp (ev_var rfl) ev_c)) (fun hb H4 e4 => ?_) (fun hb H4 e4 => ?_)
    · replace hS := ex_l e4 hS
      refine s_ret (ev_join1N ev_c (el_mapL (ev_var rfl) (by walk_at "lst") (by walk_at "sz") (fun _ => rfl) (fun i9 H9 e9 h9 => Ev.mono e9 (ev_op ev_c (ev_op (ev_var rfl) ev_c (rv_I (by walk_at "pos"))) (rv_ixSm (by walk_at "sz") (by walk_at "pos") (by walk_at "ix"))))) (by walk_at "sz")) fun H5 e5 => k _ H5 ?_ ((e03.trans e4).trans e5)
      rw [List.length_map]
    · replace hS := ex_l e4 hS
      have e04 := e03.trans e4
      have i0 := Int.emod_nonneg (m / 5) (by omega : (ns.length : Int) ≠ 0)
      have i1 := Int.emod_lt_of_pos (m / 5) (by omega : (0 : Int) < ns.length)
      refine q_asg (ev_op (ev_op (ev_var rfl) (ev_op (ev_op (ev_var rfl) ev_c (rv_I (by walk_at "div"))) (ev_var rfl) (rv_I (by walk_at "pos"))) (rv_ixLmod (by walk_at "lst") (by walk_at "pos") (by walk_at "ix"))) (ev_op (ev_var rfl) ev_c rv_I0) (rv_I (by walk_at "pos"))) fun H5 e5 => ?_
      replace hS := ex_l e5 hS
      have b0 := Int.emod_nonneg (ns.getD (m / 5 % (ns.length : Int)).toNat 0) (by omega : (ns.length : Int) + 1 ≠ 0)
      have b1 := Int.emod_lt_of_pos (ns.getD (m / 5 % (ns.length : Int)).toNat 0) (by omega : (0 : Int) < (ns.length : Int) + 1)
      generalize ns.getD (m / 5 % (ns.length : Int)).toNat 0 % ((ns.length : Int) + 1) = b at b0 b1
      refine q_asg (ev_call (ea_cons (ev_var rfl) (ea_cons (ev_var rfl) (ea_cons (ev_op (ev_op (ev_var rfl) ev_c (rv_I (by walk_at "div"))) (ev_var rfl) (rv_I (by walk_at "mul"))) (ea_cons (ev_var rfl) ea_nil)))) (spv__law_reckoned (by walk_at "pre"))) fun H6 e6 => ?_
      replace hS := ex_l e6 hS
      have hrl := reck_len b (ns.length : Int) (m / 5 * b) ((ns.length : Nat) : Int).toNat
      rw [Int.toNat_natCast] at hrl
      rw [Int.toNat_natCast]
      generalize reck b (ns.length : Int) (m / 5 * b) ns.length = r at hrl
      refine q_asg (ev_op (ev_op (ev_var rfl) ev_c (rv_ixLg (by walk_at "lst") (by walk_at "ix") (by walk_at "ix"))) (ev_var rfl) (rv_I (by walk_at "pos"))) fun H7 e7 => ?_
      replace hS := ex_l e7 hS
      refine q_asg (ev_op (ev_op (ev_op (ev_var rfl) (ev_un ev_c ru_neg) (rv_ixLm (by walk_at "lst") (by walk_at "ix"))) ev_c (rv_I (by walk_at "div"))) (ev_var rfl) (rv_I (by walk_at "pos"))) fun H8 e8 => ?_
      have e08 := (((e04.trans e5).trans e6).trans e7).trans e8
      have o0 := Int.emod_nonneg (ns.getD (0 : Int).toNat 0) (by omega : (ns.length : Int) ≠ 0)
      have o1 := Int.emod_lt_of_pos (ns.getD (0 : Int).toNat 0) (by omega : (0 : Int) < ns.length)
      generalize ns.getD (0 : Int).toNat 0 % (ns.length : Int) = one at o0 o1
      have t0 := Int.emod_nonneg (ns.getLast?.getD 0 / 3) (by omega : (ns.length : Int) ≠ 0)
      have t1 := Int.emod_lt_of_pos (ns.getLast?.getD 0 / 3) (by omega : (0 : Int) < ns.length)
      generalize ns.getLast?.getD 0 / 3 % (ns.length : Int) = oth at t0 t1
      refine q_when (et_B (ev_cmp (ev_var rfl) ev_c)) (fun hb3 H9 e9 => ?_) (fun hb3 H9 e9 => ?_)
      · refine q_asgL (el_listS (ev_var rfl) (by walk_at "sz")) fun l H10 hl e10 x10 => ?_
        refine q_setSg x10 (ev_op (ev_var rfl) (ev_var rfl) (rv_ixSg (by walk_at "sz") (by walk_at "ix") (by walk_at "ix"))) (ev_var rfl) (ev_var rfl) o0 (by omega) fun H11 e11 x11 => ?_
        have hl2 : (r.set one.toNat (r.getD oth.toNat false)).length = ns.length := by
          rw [List.length_set]
          exact hrl
        refine q_setSg x11 (ev_op (ev_var rfl) (ev_var rfl) (rv_ixSg (by walk_at "sz") (by walk_at "ix") (by walk_at "ix"))) (ev_var rfl) (ev_var rfl) t0 (by omega) fun H12 e12 x12 => ?_
        have hl3 : ((r.set one.toNat (r.getD oth.toNat false)).set oth.toNat (r.getD one.toNat false)).length = ns.length := by
          rw [List.length_set]
          exact hl2
        refine s_ret (ev_join1L ev_c (ev_var rfl) (by walk_at "lst") (by walk_at "sz")) fun H13 e13 => k _ H13 hl3 ?_
        have hl0 : H l = none := fresh_back (e08.trans e9) hl
        exact (e12 H hl0 (e11 H hl0 ((e08.trans e9).trans e10))).trans e13
      · have c1 := cutL_len r none (some one)
        have c2 := cutL_len r (some (one + 1)) none
        refine q_when (et_B (ev_cmp (ev_var rfl) ev_c)) (fun hb4 H10 e10 => ?_) (fun hb4 H10 e10 => ?_)
        · refine s_ret (ev_op (ev_op (ev_slS (ev_var rfl) eo_none (eo_some (ev_var rfl)) (by walk_at "sz")) ev_c (rv_catS (by walk_at "sz") (by walk_at "sz"))) (ev_slS (ev_var rfl) (eo_some (ev_op (ev_var rfl) ev_c rv_I0)) eo_none (by walk_at "sz")) (rv_catS (by walk_at "sz") (by walk_at "sz"))) fun H11 e11 => k _ H11 ?_ (((e08.trans e9).trans e10).trans e11)
          obtain ⟨o, rfl⟩ := Int.eq_ofNat_of_zero_le o0
          rw [show ((o : Int) + 1) = ((o + 1 : Nat) : Int) by omega, cutL_to, cutL_from, List.length_append, List.length_append, List.length_take, List.length_drop, List.length_singleton]
          omega
        · exact s_ret (ev_var rfl) fun H11 e11 => k _ H11 hrl (((e08.trans e9).trans e10).trans e11)
end
end Eb
namespace Eb
open PySem PySem.Spec PyProof.Rows L2 TL Evl
abbrev sLawSums : Stmt := topS 29
theorem scLawSums : FnScope ["_law_row", "_law_found", "_law_sign"] ["_law_row"] (defScope sLawSums) := ⟨rfl, rfl, rfl, by decide +kernel, rfl, by decide +kernel, by decide +kernel⟩
def spLawSums (_ : PySem.W.Frag) : Sp := fun vs H Q _ => ∃ bs : List Bool, vs = [.str (enc bs)] ∧ bs.length ≤ 1000 ∧ RetL ((sums bs).map V.int) H Q
theorem spl__law_sums {K : PySem.W.Frag} {H : Hp} {bs : List Bool} (h : bs.length ≤ 1000) : SpL (spLawSums K) [.str (enc bs)] H ((sums bs).map V.int) := fun _ _ _ q _ => ⟨bs, rfl, h, q⟩
section
variable {P : Program} {w : World} {K : PySem.W.Frag} {mg : Str → Option Value} {base : Heap}
theorem ok__law_sums (D : DefAt K mg "_law_sums" sLawSums) : C8.Cal P w K mg base 1 "_law_sums" (spLawSums K) [] := by
  refine cal_of D (fun _ _ _ _ _ _ us hl => match us, hl with | [_], _ => rfl) scLawSums (fun vs H Q E h => ?_) (fun f cdv A outer s H vs Q E hr h => ?_)
  · obtain ⟨bs, rfl, _⟩ := h
    rfl
  · obtain ⟨bs, rfl, h1, k⟩ := h
    refine ⟨_, (pss_cons (ps_set (i := 1) scLawSums.nd rfl (Or.inl rfl) (pe_lst (pa_cons pe_int pa_nil)))
      (pss_cons (ps_for PassesOwn.never rfl (pi_str (pv 0)) (pg_name (i := 2) scLawSums.nd rfl (Or.inl rfl))
      (pss_one (ps_expr (pe_bm PySem.F.plainAttrs_list PySem.F.slot_list_append PySem.F.type_list_append mt_append (pv 1) (pa_cons (pe_op op_add (pe_ix (ix_listK (K := K) rfl) (pv 1) (pe_un un_neg pe_int) (fun _ _ => rfl)) (pe_ifExp (pt_cmpR op_eq (pv 2) pe_sx (nomark _)) pe_int pe_int)) pa_nil)))))
      (pss_one (ps_ret (pv 1))))), ?_⟩
    refine q_asgL (el_lst (ea_cons ev_c ea_nil) (by walk_at "sz")) fun l H1 hl e1 x1 => ?_
    refine q_forS (ev_var rfl) (fun i σ' H' => ∃ z, σ' = [some (.str (enc bs)), some (.ref l), z] ∧ Ex H H' ∧ H' l = some (.lst ((sumsTo bs i).map V.int)))
      (fun H2 e2 => ⟨none, rfl, e1.trans e2, e2 _ _ x1⟩) (fun i b σ' H' hi hp => ?_) (fun σ' H' hp => ?_)
    · obtain ⟨z, rfl, ex, hx⟩ := hp
      have hz := sumsTo_len bs i
      have hi2 := (List.getElem?_eq_some_iff.mp hi).1
      refine s_app hx (ev_var rfl) (ev_op (ev_op (ev_var rfl) (ev_un ev_c ru_neg) (rv_ixLm (by walk_at "lst") (by walk_at "ix"))) (ev_ifI (et_test (ev_op (ev_var rfl) ev_c rv_eqS)) ev_c ev_c) rv_I0) (by
        rw [List.length_map]
        omega) fun H3 e3 => ?_
      refine ⟨_, rfl, Ex.mut (ex.trans e3) hl, ?_⟩
      rw [upd_same, sumsTo_succ hi, List.map_append]
      rfl
    · obtain ⟨z, rfl, ex, hx⟩ := hp
      exact s_ret (ev_var rfl) fun H3 e3 => k.go (Ex.refl H) hl (ex.trans e3) (e3 _ _ hx)
end
end Eb
namespace Eb
open PySem PySem.Spec PyProof.Rows L2 TL Evl
abbrev sLawIsEven : Stmt := topS 30
theorem scLawIsEven : FnScope ["_law_ring", "_law_sums_here", "_law_many", "_law_counts", "_law_at"] ["_law_ring"] (defScope sLawIsEven) := ⟨rfl, rfl, rfl, by decide +kernel, rfl, by decide +kernel, by decide +kernel⟩
def spLawIsEven (_ : PySem.W.Frag) : Sp := fun vs H Q _ => ∃ bs : List Bool, vs = [.str (enc bs)] ∧ (0 < bs.length ∧ bs.length ≤ 400) ∧ RetV (.bl (isEv bs)) H Q
theorem spv__law_is_even {K : PySem.W.Frag} {H : Hp} {bs : List Bool} (h : 0 < bs.length ∧ bs.length ≤ 400) : SpV (spLawIsEven K) [.str (enc bs)] H (.bl (isEv bs)) := fun _ _ _ q _ => ⟨bs, rfl, h, q⟩
section
variable {P : Program} {w : World} {K : PySem.W.Frag} {mg : Str → Option Value} {base : Heap}
theorem ok__law_is_even (D : DefAt K mg "_law_is_even" sLawIsEven) (B : Bn mg) (c__law_sums : C8.Cal P w K mg base 1 "_law_sums" (spLawSums K) []) : C8.Cal P w K mg base 2 "_law_is_even" (spLawIsEven K) [] := by
  refine cal_of D (fun _ _ _ _ _ _ us hl => match us, hl with | [_], _ => rfl) scLawIsEven (fun vs H Q E h => ?_) (fun f cdv A outer s H vs Q E hr h => ?_)
  · obtain ⟨bs, rfl, _⟩ := h
    rfl
  · obtain ⟨bs, rfl, ⟨h0, h1⟩, k⟩ := h
    refine ⟨_, (pss_cons (ps_set (i := 1) scLawIsEven.nd rfl (Or.inr rfl) (C8.pe_c c__law_sums hr (by decide) (by rfl) (pa_cons (pe_op op_add_str (pv 0) (pv 0)) pa_nil)))
      (pss_cons (ps_for PassesOwn.never rfl (pi_range2 rfl B.range_ (pa_cons pe_int (pa_cons (pe_callB call_len_str (by rfl) B.len_ PySem.boot_len (pa_cons (pv 0) pa_nil)) pa_nil))) (pg_name (i := 2) scLawIsEven.nd rfl (Or.inr rfl))
      (pss_cons (ps_setLc (i := 3) (own := [("_law_at", 4)]) (g := gName 4) rfl scLawIsEven.nd rfl rfl (sw_true rfl rfl rfl (by decide +kernel)) (pi_range1 rfl B.range_ (pa_cons (pe_callB call_len_str (by rfl) B.len_ PySem.boot_len (pa_cons (pv 0) pa_nil)) pa_nil)) (blkOk_by (own := [("_law_at", 4)]) (N := ["_law_ring", "_law_sums_here", "_law_many", "_law_counts", "_law_at"]) (sc := defScope sLawIsEven) (by decide +kernel)) (fun _ _ _ _ _ => (pg_name (i := 4) scLawIsEven.nd rfl (Or.inl rfl))) (fun _ _ _ _ _ => pts_nil) (fun _ _ _ _ _ => (pe_op op_sub (pe_ix (ix_listK (K := K) rfl) (pv 1) (pe_op op_add (pv 4) (pv 2)) (fun _ _ => rfl)) (pe_ix (ix_listK (K := K) rfl) (pv 1) (pv 4) (fun _ _ => rfl)))))
      (pss_one (ps_if (pt_cmp (pc_gt (pe_callB (cr_maxK (K := K) rfl rfl) (by rfl) B.max_ (by decide +kernel) (pa_cons (pv 3) pa_nil)) (pe_op op_add (pe_callB (cr_minK (K := K) rfl rfl) (by rfl) B.min_ (by decide +kernel) (pa_cons (pv 3) pa_nil)) pe_int)))
      (pss_one (ps_ret pe_bl))
      pss_nil))))
      (pss_one (ps_ret pe_bl)))), ?_⟩
    refine q_asgL (el_call (ea_cons (ev_op (ev_var rfl) (ev_var rfl) (rv_catS (by walk_at "sz") (by walk_at "sz"))) ea_nil) (spl__law_sums (by walk_at "pre"))) fun p H1 hp e1 x1 => ?_
    have hsl := sums_len (bs ++ bs)
    rw [List.length_append] at hsl
    refine q_forR2 (ea_cons ev_c (ea_cons (ev_cb (ea_cons (ev_var rfl) ea_nil) (rc_lenS (by walk_at "sz"))) ea_nil)) ⟨by decide, by decide, by omega, by omega⟩ (fun i σ' H' => ∃ z1 z2 z3, σ' = [some (.str (enc bs)), some (.ref p), z1, z2, z3] ∧ Ex H1 H' ∧ ((List.range i).all fun k => okW bs (k + 1)) = true)
      (fun H2 e2 => ⟨none, none, none, rfl, e2, rfl⟩) (fun i σ' H' hi hp => ?_) (fun σ' H' hp => ?_)
    · obtain ⟨z1, z2, z3, rfl, ex, hall⟩ := hp
      have hx : SqL K H' p ((sums (bs ++ bs)).map V.int) := ex_l ex (sq_of x1)
      refine q_asgL (el_eq (el_mapRi _ (ea_cons (ev_cb (ea_cons (ev_var rfl) ea_nil) (rc_lenS (by walk_at "sz"))) ea_nil) (by walk_at "rg") (fun _ => rfl) (fun i9 H9 e9 h9 => Ev.mono e9 (ev_op (ev_op (ev_var rfl) (ev_op (ev_var rfl) (ev_var rfl) rv_I0) (rv_ixLg (by walk_at "lst") (by walk_at "ix") (by walk_at "ix"))) (ev_op (ev_var rfl) (ev_var rfl) (rv_ixLg (by walk_at "lst") (by walk_at "ix") (by walk_at "ix"))) rv_I0))) (cnts_eq (by omega) (by omega))) fun c H2 hc e2 x2 => ?_
      have hcl := cnts_len bs (1 + (i : Int)).toNat
      have e3 : (1 + (i : Int)).toNat = i + 1 := by omega
      rw [e3] at x2 hcl
      refine s_when (et_B (ev_cmp (ev_cb (ea_cons (ev_var rfl) ea_nil) (rc_max (by walk_at "lst") (by walk_at "ln"))) (ev_op (ev_cb (ea_cons (ev_var rfl) ea_nil) (rc_min (by walk_at "lst") (by walk_at "ln"))) ev_c rv_I0))) (fun hb H3 e3 => ?_) (fun hb H3 e3 => ?_)
      · refine s_ret ev_c fun H4 e4 => ?_
        have hf : isEv bs = false := by
          unfold isEv
          rw [List.all_eq_false]
          refine ⟨i, List.mem_range.mpr (by omega), ?_⟩
          unfold okW
          have := of_decide_eq_true hb
          rw [decide_eq_true_eq]
          omega
        rw [← hf]
        exact k.go ((((e1.trans ex).trans e2).trans e3).trans e4)
      · refine ⟨_, _, _, rfl, (ex.trans e2).trans e3, ?_⟩
        rw [List.range_succ, List.all_append, hall]
        simp only [List.all_cons, List.all_nil, Bool.and_true, Bool.true_and]
        unfold okW
        have := of_decide_eq_false hb
        exact decide_eq_true (by omega)
    · obtain ⟨z1, z2, z3, rfl, ex, hall⟩ := hp
      refine s_ret ev_c fun H4 e4 => ?_
      have hf : isEv bs = true := by
        unfold isEv
        have e3 : (((bs.length : Nat) : Int) - 1).toNat = bs.length - 1 := by omega
        rw [e3] at hall
        exact hall
      rw [← hf]
      exact k.go ((e1.trans ex).trans e4)
end
end Eb
namespace Eb
open PySem PySem.Spec PyProof.Rows L2 TL Evl
abbrev sAskedRow : Stmt := topS 9
theorem scAskedRow : FnScope ["row"] ["row"] (defScope sAskedRow) := ⟨rfl, rfl, rfl, by decide +kernel, rfl, by decide +kernel, by decide +kernel⟩
def spAskedRow (_ : PySem.W.Frag) : Sp := fun vs H Q _ => ∃ bs : List Bool, vs = [.str (enc bs)] ∧ bs.length ≤ 1000 ∧ RetV .non H Q
theorem spv_asked_row {K : PySem.W.Frag} {H : Hp} {bs : List Bool} (h : bs.length ≤ 1000) : SpV (spAskedRow K) [.str (enc bs)] H .non := fun _ _ _ q _ => ⟨bs, rfl, h, q⟩
section
variable {P : Program} {w : World} {K : PySem.W.Frag} {mg : Str → Option Value} {base : Heap}
theorem ok_asked_row (D : DefAt K mg "asked_row" sAskedRow) (B : Bn mg) (T : Tx mg) : C8.Cal P w K mg base 3 "asked_row" (spAskedRow K) [] := by
  refine cal_of D (fun _ _ _ _ _ _ us hl => match us, hl with | [_], _ => rfl) scAskedRow (fun vs H Q E h => ?_) (fun f cdv A outer s H vs Q E hr h => ?_)
  · obtain ⟨bs, rfl, _⟩ := h
    rfl
  · obtain ⟨bs, rfl, h1, k⟩ := h
    refine ⟨_, (pss_one (ps_if (PW.pt (pw_or (pt_not (pt_val (pe_callB (call_isiK1 (K := K) rfl) (by rfl) B.isinstance_ (by decide +kernel) (pa_cons (pv 0) (pa_cons (pe_bltn (v := .ty "str") (by rfl) B.str_ (by decide +kernel) rfl) pa_nil))))) (pw_or1 (pt_cmpR op_ne (pe_m1 PySem.F.slot_str_strip PySem.F.type_str_strip mt_stripChars (pv 0) (pe_op op_add_str (C8.pe_gc rfl T.beat) (C8.pe_gc rfl T.rest))) pe_s0 (nomark _)))))
      (pss_one ps_never)
      pss_nil)), ?_⟩
    exact s_when (et_or (et_not (et_B (ev_cb (ea_cons (ev_var rfl) (ea_cons ev_c ea_nil)) (rc_isiS (b := true) (by decide +kernel))))) (fun hb => (et_test (ev_op (ev_stripS (ev_var rfl) (ev_op ev_c ev_c (rv_catS (by walk_at "sz") (by walk_at "sz"))) (by walk_at "sz")) ev_c rv_neS)))) (fun hb => by
      exfalso
      simp at hb) (fun _ H1 e1 => k H1 e1)
end
end Eb
namespace Eb
open PySem PySem.Spec PyProof.Rows L2 TL Evl
abbrev sAskedRing : Stmt := topS 10
theorem scAskedRing : FnScope ["ring"] ["ring"] (defScope sAskedRing) := ⟨rfl, rfl, rfl, by decide +kernel, rfl, by decide +kernel, by decide +kernel⟩
def spAskedRing (_ : PySem.W.Frag) : Sp := fun vs H Q _ => ∃ bs : List Bool, vs = [.str (enc bs)] ∧ (0 < bs.length ∧ bs.length ≤ 1000) ∧ RetV .non H Q
theorem spv_asked_ring {K : PySem.W.Frag} {H : Hp} {bs : List Bool} (h : 0 < bs.length ∧ bs.length ≤ 1000) : SpV (spAskedRing K) [.str (enc bs)] H .non := fun _ _ _ q _ => ⟨bs, rfl, h, q⟩
section
variable {P : Program} {w : World} {K : PySem.W.Frag} {mg : Str → Option Value} {base : Heap}
theorem ok_asked_ring (D : DefAt K mg "asked_ring" sAskedRing) (c_asked_row : C8.Cal P w K mg base 3 "asked_row" (spAskedRow K) []) : C8.Cal P w K mg base 4 "asked_ring" (spAskedRing K) [] := by
  refine cal_of D (fun _ _ _ _ _ _ us hl => match us, hl with | [_], _ => rfl) scAskedRing (fun vs H Q E h => ?_) (fun f cdv A outer s H vs Q E hr h => ?_)
  · obtain ⟨bs, rfl, _⟩ := h
    rfl
  · obtain ⟨bs, rfl, ⟨h0, h1⟩, k⟩ := h
    refine ⟨_, (pss_cons (ps_expr (C8.pe_c c_asked_row hr (by decide) (by rfl) (pa_cons (pv 0) pa_nil)))
      (pss_one (ps_if (pt_cmpR op_eq (pv 0) pe_s0 (nomark _))
      (pss_one ps_never)
      pss_nil))), ?_⟩
    refine q_drop (ev_call (ea_cons (ev_var rfl) ea_nil) (spv_asked_row (by walk_at "pre"))) fun H1 e1 => ?_
    exact s_when (et_test (ev_op (ev_var rfl) ev_c rv_eqS)) (fun hb => by
      exfalso
      have e := of_decide_eq_true hb
      rw [e] at h0
      exact absurd h0 (Nat.lt_irrefl _)) (fun _ H2 e2 => k.go (e1.trans e2))
end
end Eb
/-! ### a row told backwards; a written dict of two signs -/
namespace Eb
open PySem PySem.Spec PyProof.Rows L2 TL Evl Builtin Builtin.Str
theorem rev_enc (bs : List Bool) : (⟨((strSliceIndices none none (-1) (enc bs).length).filterMap ((enc bs).cps[·]?)).toArray⟩ : Str) = enc bs.reverse := by
  refine ext_tl ?_
  have h1 : (enc bs).length = (enc bs).cps.size := rfl
  have h2 : strSliceIndices none none (-1) (enc bs).length = (List.range (enc bs).cps.size).reverse := by
    rw [← PySem.W.krv_range, ← PySem.W.krv_sliceRange, h1]
    rfl
  rw [h2, List.filterMap_reverse, PySem.W.krv_all]
  show (enc bs).cps.toList.reverse = _
  rw [cps_enc, tl_enc, List.map_reverse]
def tRevS (te : TE) : TE := fun σ H Q => te σ H fun x H1 => ∃ bs : List Bool, x = .str (enc bs) ∧ bs.length ≤ 100000 ∧ Q (.str (enc bs.reverse)) H1
theorem pe_revS {X : Cx} {e : Expr} {te : TE} {k : Nat} {p1 p2 p3 pos : Pos} (he : PE X e te) : PE X (.Subscript e (.Slice none none (some (.UnaryOp .USub (.Constant (.int 1) k p1) p2)) p3) pos) (tRevS te) := by
  refine ⟨fun pins s σ H Q I h => ?_⟩
  refine Subscript_ (thn (he.run pins s σ H _ I h) fun v s1 ⟨x, H1, I1, r1, q1⟩ => ?_)
  obtain ⟨bs, ex, hz, q⟩ := q1
  subst ex
  obtain ⟨t, rfl⟩ := r1
  have hst : PO X (some (.UnaryOp .USub (.Constant (.int 1) k p1) p2)) (tPart (tUn (rU fun i => .int (-i)) (tC (.int 1)))) := po_some (pe_un un_neg pe_int)
  refine wpAny_Slice (thn (po_none.run pins s1 σ H1 (fun o H2 => o = none ∧ H2 = H1) I1 ⟨rfl, rfl⟩) fun vl s2 ⟨l, H2, I2, pl, el, e2⟩ => ?_)
  subst el e2
  refine thn (po_none.run pins s2 σ H2 (fun o H3 => o = none ∧ H3 = H2) I2 ⟨rfl, rfl⟩) fun vu s3 ⟨u, H3, I3, pu, eu, e3⟩ => ?_
  subst eu e3
  refine thn (hst.run pins s3 σ H3 (fun o H4 => o = some (-1) ∧ H4 = H3) I3 ⟨1, rfl, -1, rfl, rfl, rfl⟩) fun vs s4 ⟨o, H4, I4, ps, eo, e4⟩ => ?_
  subst eo e4
  have I5 : Inv X pins σ H4 { s4 with heap := s4.heap.push { cls := .type "slice", data := .fields #[vl, vu, vs] } } := I4.kept (t' := s4.toks) fun b ob q => Heap.get?_push_of_some _ q
  obtain ⟨l', rfl, el⟩ := IsPart.raw pl
  obtain ⟨u', rfl, eu⟩ := IsPart.raw pu
  obtain ⟨st', rfl, es⟩ := IsPart.raw ps
  cases l' with
  | some z => cases el
  | none =>
  cases u' with
  | some z => cases eu
  | none =>
  cases st' with
  | none => cases es
  | some z =>
  obtain ⟨z, tz⟩ := z
  have ez : z = -1 := Option.some.inj es
  subst ez
  show wpAny (model X.prog X.w) X.A (subscriptTail e (.Slice none none (some (.UnaryOp .USub (.Constant (.int 1) k p1) p2)) p3) (.str (enc bs) t) (.ref s4.heap.objs.size)) (EP X pins σ Q) X.xe _
  refine tail_any (ops := [.ref s4.heap.objs.size, .str (enc bs) t]) (typeIs_str _ _ _) PySem.F.slot_str_getitem.lookup ?_ (by with_unfolding_all rfl)
  refine wpAny_getItem_str_slice (l := none) (u := none) (st := some (-1, tz)) ⟨_, Heap.get?_push_size _ rfl, rfl, rfl⟩ rfl ?_
  show Made.post (if (((some ((-1 : Int), tz)).map (·.1)).getD 1 == 1 && (strSliceIndices none none (-1) (enc bs).length).length == (enc bs).length) = true then Made.val (.str (enc bs) t)
    else Made.str ⟨((strSliceIndices none none (-1) (enc bs).length).filterMap ((enc bs).cps[·]?)).toArray⟩) (EP X pins σ Q) _
  rw [if_neg (by
    show ¬ (((-1 : Int) == 1) && _) = true
    rw [show ((-1 : Int) == 1) = false by decide, Bool.false_and]
    exact Bool.false_ne_true), rev_enc]
  refine ⟨?_, .str (enc bs.reverse), H4, I5.tok _, ⟨_, rfl⟩, q⟩
  rw [len_enc, List.length_reverse]
  exact sz hz
section
variable {K : PySem.W.Frag} {σ : L2.St} {H H' : Hp} {ta tb tc te : TE} {x y z v : V} {bs cs : List Bool} {i j k : Int}
theorem ev_revS (h : Ev te σ H (.str (enc bs))) (hl : bs.length ≤ 100000) : Ev (tRevS te) σ H (.str (enc bs.reverse)) := fun H1 e Q q => h H1 e _ fun H2 e2 => ⟨bs, rfl, hl, q H2 e2⟩
theorem keys_ne : ¬ ((Sum.inr (enc [true]) : Key) = Sum.inr (enc [false])) := fun h => by
  injection h with h
  have := enc_inj h
  cases this
theorem put_e (k : Key) (x : V) : putK ([] : List (Key × V)) k x = [(k, x)] := by
  unfold putK
  rw [if_neg (by simp)]
  rfl
theorem put_s {a b : Key} (h : ¬ a = b) (x y : V) : putK [(a, x)] b y = [(a, x), (b, y)] := by
  unfold putK
  rw [if_neg (by simp [h])]
  rfl
theorem ev_dict2 {u w : List Bool} {b : Bool} (h1 : Ev ta σ H (.str (enc u))) (h2 : Ev tb σ H (.str (enc w))) (hi : Ev te σ H (.str (enc [b]))) :
    Ev (tDGet (tDisp [(tC (.str (enc [true])), ta), (tC (.str (enc [false])), tb)]) te) σ H (.str (enc (if b then u else w))) := fun H1 e Q q p hp =>
  h1 (upd H1 p (.dK [])) (e.trans (Ex.new hp)) _ fun H2 e2 => h2 H2 ((e.trans (Ex.new hp)).trans e2) _ fun H3 e3 => ⟨e3 _ _ (e2 _ _ upd_same), [(Sum.inr (enc [true]), .str (enc u)), (Sum.inr (enc [false]), .str (enc w))], rfl, (show 2 ≤ 15 by decide), by
    have e4 : Ex H1 (upd H3 p (.dK (mergeK [] [(Sum.inr (enc [true]), V.str (enc u)), (Sum.inr (enc [false]), V.str (enc w))]))) := Ex.mut (((Ex.new hp).trans e2).trans e3) hp
    refine hi _ (e.trans e4) _ fun H5 e5 => ⟨p, .str (enc (if b then u else w)), rfl, ?_, q H5 (e4.trans e5)⟩
    have em : mergeK [] [(Sum.inr (enc [true]), V.str (enc u)), (Sum.inr (enc [false]), V.str (enc w))] = [(Sum.inr (enc [true]), V.str (enc u)), (Sum.inr (enc [false]), V.str (enc w))] := by
      unfold mergeK
      rw [List.foldl_cons, List.foldl_cons, List.foldl_nil]
      rw [put_e, put_s keys_ne]
    have hd := e5 _ _ (upd_same : (upd H3 p (.dK (mergeK [] [(Sum.inr (enc [true]), V.str (enc u)), (Sum.inr (enc [false]), V.str (enc w))]))) p = _)
    rw [em] at hd
    have g := DGet.k (k := Sum.inr (enc [b])) hd
    have ev : valV [((Sum.inr (enc [true]) : Key), V.str (enc u)), (Sum.inr (enc [false]), V.str (enc w))] (Sum.inr (enc [b])) = some (.str (enc (if b then u else w))) := by
      cases b
      · rw [valV_neg keys_ne, valV_pos rfl]
        rfl
      · rw [valV_pos rfl]
        rfl
    rw [ev] at g
    exact g⟩
end
end Eb
namespace Eb
open PySem PySem.Spec PyProof.Rows L2 TL Evl
abbrev sAbout : Stmt := topS 16
theorem scAbout : FnScope ["ring"] ["ring"] (defScope sAbout) := ⟨rfl, rfl, rfl, by decide +kernel, rfl, by decide +kernel, by decide +kernel⟩
def spAbout (_ : PySem.W.Frag) : Sp := fun vs H Q _ => ∃ (bs : List Bool), vs = [.str (enc bs)] ∧ (0 < bs.length ∧ bs.length ≤ 1000) ∧ RetV (.str (enc bs.reverse)) H Q
theorem spv_about {K : PySem.W.Frag} {H : Hp} {bs : List Bool} (h : 0 < bs.length ∧ bs.length ≤ 1000) : SpV (spAbout K) [.str (enc bs)] H (.str (enc bs.reverse)) := fun _ _ _ q _ => ⟨bs, rfl, h, q⟩
section
variable {P : Program} {w : World} {K : PySem.W.Frag} {mg : Str → Option Value} {base : Heap}
theorem ok_about (D : DefAt K mg "about" sAbout) (c_asked_ring : C8.Cal P w K mg base 4 "asked_ring" (spAskedRing K) []) : C8.Cal P w K mg base 5 "about" (spAbout K) [] := by
  refine cal_of D (fun _ _ _ _ _ _ us hl => match us, hl with | [_], _ => rfl) scAbout (fun vs H Q E h => ?_) (fun f cdv A outer s H vs Q E hr h => ?_)
  · obtain ⟨bs, rfl, _⟩ := h
    rfl
  · obtain ⟨bs, rfl, ⟨h0, h1⟩, k⟩ := h
    refine ⟨_, (pss_cons (ps_expr (C8.pe_c c_asked_ring hr (by decide) (by rfl) (pa_cons (pv 0) pa_nil)))
      (pss_one (ps_ret (pe_revS (pv 0))))), ?_⟩
    refine q_drop (ev_call (ea_cons (ev_var rfl) ea_nil) (spv_asked_ring (by walk_at "pre"))) fun H1 e1 => ?_
    exact s_ret (ev_revS (ev_var rfl) (by walk_at "sz")) fun H2 e2 => k.go (e1.trans e2)
end
end Eb
namespace Eb
open PySem PySem.Spec PyProof.Rows L2 TL Evl
abbrev sSummed : Stmt := topS 17
theorem scSummed : FnScope ["row", "found", "sign"] ["row"] (defScope sSummed) := ⟨rfl, rfl, rfl, by decide +kernel, rfl, by decide +kernel, by decide +kernel⟩
def spSummed (_ : PySem.W.Frag) : Sp := fun vs H Q _ => ∃ bs : List Bool, vs = [.str (enc bs)] ∧ bs.length ≤ 1000 ∧ RetL ((sums bs).map V.int) H Q
theorem spl_summed {K : PySem.W.Frag} {H : Hp} {bs : List Bool} (h : bs.length ≤ 1000) : SpL (spSummed K) [.str (enc bs)] H ((sums bs).map V.int) := fun _ _ _ q _ => ⟨bs, rfl, h, q⟩
section
variable {P : Program} {w : World} {K : PySem.W.Frag} {mg : Str → Option Value} {base : Heap}
theorem ok_summed (D : DefAt K mg "summed" sSummed) (T : Tx mg) : C8.Cal P w K mg base 1 "summed" (spSummed K) [] := by
  refine cal_of D (fun _ _ _ _ _ _ us hl => match us, hl with | [_], _ => rfl) scSummed (fun vs H Q E h => ?_) (fun f cdv A outer s H vs Q E hr h => ?_)
  · obtain ⟨bs, rfl, _⟩ := h
    rfl
  · obtain ⟨bs, rfl, h1, k⟩ := h
    refine ⟨_, (pss_cons (ps_set (i := 1) scSummed.nd rfl (Or.inl rfl) (pe_lst (pa_cons pe_int pa_nil)))
      (pss_cons (ps_for PassesOwn.never rfl (pi_str (pv 0)) (pg_name (i := 2) scSummed.nd rfl (Or.inl rfl))
      (pss_one (ps_expr (pe_bm PySem.F.plainAttrs_list PySem.F.slot_list_append PySem.F.type_list_append mt_append (pv 1) (pa_cons (pe_op op_add (pe_ix (ix_listK (K := K) rfl) (pv 1) (pe_un un_neg pe_int) (fun _ _ => rfl)) (pe_ifExp (pt_cmpR op_eq (pv 2) (C8.pe_gc rfl T.beat) (nomark _)) pe_int pe_int)) pa_nil)))))
      (pss_one (ps_ret (pv 1))))), ?_⟩
    refine q_asgL (el_lst (ea_cons ev_c ea_nil) (by walk_at "sz")) fun l H1 hl e1 x1 => ?_
    refine q_forS (ev_var rfl) (fun i σ' H' => ∃ z, σ' = [some (.str (enc bs)), some (.ref l), z] ∧ Ex H H' ∧ H' l = some (.lst ((sumsTo bs i).map V.int)))
      (fun H2 e2 => ⟨none, rfl, e1.trans e2, e2 _ _ x1⟩) (fun i b σ' H' hi hp => ?_) (fun σ' H' hp => ?_)
    · obtain ⟨z, rfl, ex, hx⟩ := hp
      have hz := sumsTo_len bs i
      have hi2 := (List.getElem?_eq_some_iff.mp hi).1
      refine s_app hx (ev_var rfl) (ev_op (ev_op (ev_var rfl) (ev_un ev_c ru_neg) (rv_ixLm (by walk_at "lst") (by walk_at "ix"))) (ev_ifI (et_test (ev_op (ev_var rfl) ev_c rv_eqS)) ev_c ev_c) rv_I0) (by
        rw [List.length_map]
        omega) fun H3 e3 => ?_
      refine ⟨_, rfl, Ex.mut (ex.trans e3) hl, ?_⟩
      rw [upd_same, sumsTo_succ hi, List.map_append]
      rfl
    · obtain ⟨z, rfl, ex, hx⟩ := hp
      exact s_ret (ev_var rfl) fun H3 e3 => k.go (Ex.refl H) hl (ex.trans e3) (e3 _ _ hx)
end
end Eb
namespace Eb
open PySem PySem.Spec PyProof.Rows L2 TL Evl
abbrev sStretchCounts : Stmt := topS 23
theorem scStretchCounts : FnScope ["ring", "many", "sums", "first"] ["ring", "many"] (defScope sStretchCounts) := ⟨rfl, rfl, rfl, by decide +kernel, rfl, by decide +kernel, by decide +kernel⟩
def spStretchCounts (_ : PySem.W.Frag) : Sp := fun vs H Q _ => ∃ (bs : List Bool) (m : Int), vs = [.str (enc bs), .int m] ∧ (0 ≤ m ∧ m ≤ bs.length ∧ bs.length ≤ 400) ∧ RetL ((cnts bs m.toNat).map V.int) H Q
theorem spl_stretch_counts {K : PySem.W.Frag} {H : Hp} {bs : List Bool} {m : Int} (h : 0 ≤ m ∧ m ≤ bs.length ∧ bs.length ≤ 400) : SpL (spStretchCounts K) [.str (enc bs), .int m] H ((cnts bs m.toNat).map V.int) := fun _ _ _ q _ => ⟨bs, m, rfl, h, q⟩
section
variable {P : Program} {w : World} {K : PySem.W.Frag} {mg : Str → Option Value} {base : Heap}
theorem ok_stretch_counts (D : DefAt K mg "stretch_counts" sStretchCounts) (B : Bn mg) (c_summed : C8.Cal P w K mg base 1 "summed" (spSummed K) []) : C8.Cal P w K mg base 2 "stretch_counts" (spStretchCounts K) [] := by
  refine cal_of D (fun _ _ _ _ _ _ us hl => match us, hl with | [_, _], _ => rfl) scStretchCounts (fun vs H Q E h => ?_) (fun f cdv A outer s H vs Q E hr h => ?_)
  · obtain ⟨bs, m, rfl, _⟩ := h
    rfl
  · obtain ⟨bs, m, rfl, ⟨h0, h1, h2⟩, k⟩ := h
    refine ⟨_, (pss_cons (ps_set (i := 2) scStretchCounts.nd rfl (Or.inr rfl) (C8.pe_c c_summed hr (by decide) (by rfl) (pa_cons (pe_op op_add_str (pv 0) (pv 0)) pa_nil)))
      (pss_one (ps_ret (pe_lc (own := [("first", 3)]) (g := gName 3) rfl scStretchCounts.nd (pi_range1 rfl B.range_ (pa_cons (pe_callB call_len_str (by rfl) B.len_ PySem.boot_len (pa_cons (pv 0) pa_nil)) pa_nil)) (blkOk_by (own := [("first", 3)]) (N := ["ring", "many", "sums", "first"]) (sc := defScope sStretchCounts) (by decide +kernel)) (fun _ _ _ _ _ => (pg_name (i := 3) scStretchCounts.nd rfl (Or.inl rfl))) (fun _ _ _ _ _ => pts_nil) (fun _ _ _ _ _ => (pe_op op_sub (pe_ix (ix_listK (K := K) rfl) (pv 2) (pe_op op_add (pv 3) (pv 1)) (fun _ _ => rfl)) (pe_ix (ix_listK (K := K) rfl) (pv 2) (pv 3) (fun _ _ => rfl)))))))), ?_⟩
    refine q_asgL (el_call (ea_cons (ev_op (ev_var rfl) (ev_var rfl) (rv_catS (by walk_at "sz") (by walk_at "sz"))) ea_nil) (spl_summed (by walk_at "pre"))) fun p H1 hp e1 x1 => ?_
    have hsl := sums_len (bs ++ bs)
    rw [List.length_append] at hsl
    exact s_retL (el_eq (el_mapRi _ (ea_cons (ev_cb (ea_cons (ev_var rfl) ea_nil) (rc_lenS (by walk_at "sz"))) ea_nil) (by walk_at "rg") (fun _ => rfl) (fun i9 H9 e9 h9 => Ev.mono e9 (ev_op (ev_op (ev_var rfl) (ev_op (ev_var rfl) (ev_var rfl) rv_I0) (rv_ixLg (by walk_at "lst") (by walk_at "ix") (by walk_at "ix"))) (ev_op (ev_var rfl) (ev_var rfl) (rv_ixLg (by walk_at "lst") (by walk_at "ix") (by walk_at "ix"))) rv_I0))) (cnts_eq h0 h1)) fun q H2 hq e2 x2 => k.go e1 hq e2 x2
end
end Eb
namespace Eb
open PySem PySem.Spec PyProof.Rows L2 TL Evl
abbrev sApart : Stmt := topS 24
theorem scApart : FnScope ["ring", "beats", "sums", "heights", "low", "high", "counts", "at"] ["ring"] (defScope sApart) := ⟨rfl, rfl, rfl, by decide +kernel, rfl, by decide +kernel, by decide +kernel⟩
def RetApart (C : Addr) (bs : List Bool) (H : Hp) (Q : VK) : Prop := ∀ (p dx : Addr) (f s : Nat) (m : Int) H2, H p = none → Ex H H2 → H2 p = some (.ins C dx [("first", .int (f : Int)), ("second", .int (s : Int)), ("many", .int m)]) → (f < bs.length ∧ s < bs.length ∧ 0 ≤ m ∧ m < bs.length ∧ stc bs s m.toNat + 2 ≤ stc bs f m.toNat) → Q (.ref p) H2
def spApartC (C : Addr) : Sp := fun vs H Q _ => ∃ (bs : List Bool), vs = [.str (enc bs)] ∧ (0 < bs.length ∧ bs.length ≤ 400 ∧ ¬ Flat bs) ∧ RetApart C bs H Q
section
variable {P : Program} {w : World} {K : PySem.W.Frag} {mg : Str → Option Value} {base : Heap}
variable {cAnswer cEven cApart : Addr}
theorem ok_apart (D : DefAt K mg "apart" sApart) (Z : Cz K mg cAnswer cEven cApart) (B : Bn mg) (c_summed : C8.Cal P w K mg base 1 "summed" (spSummed K) []) (c_stretch_counts : C8.Cal P w K mg base 2 "stretch_counts" (spStretchCounts K) []) (k_Apart : C8.Mak P w K mg base 1 "Apart" cApart (spI cApart ["first", "second", "many"]) []) : C8.Cal P w K mg base 3 "apart" (spApartC cApart) [] := by
  refine cal_of D (fun _ _ _ _ _ _ us hl => match us, hl with | [_], _ => rfl) scApart (fun vs H Q E h => ?_) (fun f cdv A outer s H vs Q E hr h => ?_)
  · obtain ⟨bs, rfl, _⟩ := h
    rfl
  · obtain ⟨bs, rfl, ⟨h0, h1, hf⟩, k⟩ := h
    refine ⟨_, (pss_cons (ps_set (i := 1) scApart.nd rfl (Or.inr rfl) (pe_m1 PySem.F.slot_str_count PySem.F.type_str_count mt_count (pv 0) pe_sx))
      (pss_cons (ps_set (i := 2) scApart.nd rfl (Or.inr rfl) (C8.pe_c c_summed hr (by decide) (by rfl) (pa_cons (pv 0) pa_nil)))
      (pss_cons (ps_setLc (i := 3) (own := [("at", 7)]) (g := gName 7) rfl scApart.nd rfl rfl (sw_true rfl rfl rfl (by decide +kernel)) (pi_range1 rfl B.range_ (pa_cons (pe_callB call_len_str (by rfl) B.len_ PySem.boot_len (pa_cons (pv 0) pa_nil)) pa_nil)) (blkOk_by (own := [("at", 7)]) (N := ["ring", "beats", "sums", "heights", "low", "high", "counts", "at"]) (sc := defScope sApart) (by decide +kernel)) (fun _ _ _ _ _ => (pg_name (i := 7) scApart.nd rfl (Or.inl rfl))) (fun _ _ _ _ _ => pts_nil) (fun _ _ _ _ _ => (pe_op op_sub (pe_op op_mul (pe_ix (ix_listK (K := K) rfl) (pv 2) (pv 7) (fun _ _ => rfl)) (pe_callB call_len_str (by rfl) B.len_ PySem.boot_len (pa_cons (pv 0) pa_nil))) (pe_op op_mul (pv 7) (pv 1)))))
      (pss_cons (ps_set (i := 4) scApart.nd rfl (Or.inl rfl) (pe_bm PySem.F.plainAttrs_list PySem.F.slot_list_index PySem.F.type_list_index mt_index (pv 3) (pa_cons (pe_callB (cr_minK (K := K) rfl rfl) (by rfl) B.min_ (by decide +kernel) (pa_cons (pv 3) pa_nil)) pa_nil)))
      (pss_cons (ps_set (i := 5) scApart.nd rfl (Or.inl rfl) (pe_bm PySem.F.plainAttrs_list PySem.F.slot_list_index PySem.F.type_list_index mt_index (pv 3) (pa_cons (pe_callB (cr_maxK (K := K) rfl rfl) (by rfl) B.max_ (by decide +kernel) (pa_cons (pv 3) pa_nil)) pa_nil)))
      (pss_cons (ps_set (i := 6) scApart.nd rfl (Or.inl rfl) (C8.pe_c c_stretch_counts hr (by decide) (by rfl) (pa_cons (pv 0) (pa_cons (pe_op op_mod (pe_op op_sub (pv 5) (pv 4)) (pe_callB call_len_str (by rfl) B.len_ PySem.boot_len (pa_cons (pv 0) pa_nil))) pa_nil))))
      (pss_one (ps_ret (C8.pe_mk k_Apart hr (by decide) (by rfl) (pa_cons (pe_bm PySem.F.plainAttrs_list PySem.F.slot_list_index PySem.F.type_list_index mt_index (pv 6) (pa_cons (pe_callB (cr_maxK (K := K) rfl rfl) (by rfl) B.max_ (by decide +kernel) (pa_cons (pv 6) pa_nil)) pa_nil)) (pa_cons (pe_bm PySem.F.plainAttrs_list PySem.F.slot_list_index PySem.F.type_list_index mt_index (pv 6) (pa_cons (pe_callB (cr_minK (K := K) rfl rfl) (by rfl) B.min_ (by decide +kernel) (pa_cons (pv 6) pa_nil)) pa_nil)) (pa_cons (pe_op op_mod (pe_op op_sub (pv 5) (pv 4)) (pe_callB call_len_str (by rfl) B.len_ PySem.boot_len (pa_cons (pv 0) pa_nil))) pa_nil)))))))))))), ?_⟩
    have hcn := cnt_le bs
    refine q_asg (ev_cntS (ev_var rfl) ev_c) fun H1 e1 => ?_
    refine q_asgL (el_call (ea_cons (ev_var rfl) ea_nil) (spl_summed (by walk_at "pre"))) fun p H2 hp e2 x2 => ?_
    have hsl := sums_len bs
    refine q_asgL (el_eq (el_mapRi _ (ea_cons (ev_cb (ea_cons (ev_var rfl) ea_nil) (rc_lenS (by walk_at "sz"))) ea_nil) (by walk_at "rg") (fun _ => rfl) (fun i9 H9 e9 h9 => Ev.mono e9 (ev_op (ev_op (ev_op (ev_var rfl) (ev_var rfl) (rv_ixLg (by walk_at "lst") (by walk_at "ix") (by walk_at "ix"))) (ev_cb (ea_cons (ev_var rfl) ea_nil) (rc_lenS (by walk_at "sz"))) (rv_I (by walk_at "mul"))) (ev_op (ev_var rfl) (ev_var rfl) (rv_I (by walk_at "mul"))) rv_I0))) (hts_eq bs)) fun q H3 hq e3 x3 => ?_
    have hhl := hts_len bs
    have x2' := e3 _ _ x2
    obtain ⟨a1, a2⟩ := mx_mem (ns := hts bs) (by omega)
    obtain ⟨b1, b2⟩ := mn_mem (ns := hts bs) (by omega)
    refine q_asg (ev_idxL (ev_var rfl) (ev_cb (ea_cons (ev_var rfl) ea_nil) (rc_min (by walk_at "lst") (by walk_at "ln"))) (by walk_at "lst") (by walk_at "pre")) fun H4 e4 => ?_
    replace x3 := e4 _ _ x3
    refine q_asg (ev_idxL (ev_var rfl) (ev_cb (ea_cons (ev_var rfl) ea_nil) (rc_max (by walk_at "lst") (by walk_at "ln"))) (by walk_at "lst") (by walk_at "pre")) fun H5 e5 => ?_
    replace x3 := e5 _ _ x3
    have m0 := Int.emod_nonneg (((hts bs).idxOf (mx (hts bs)) : Int) - ((hts bs).idxOf (mn (hts bs)) : Int)) (by omega : (bs.length : Int) ≠ 0)
    have m1 := Int.emod_lt_of_pos (((hts bs).idxOf (mx (hts bs)) : Int) - ((hts bs).idxOf (mn (hts bs)) : Int)) (by omega : (0 : Int) < bs.length)
    refine q_asgL (el_call (ea_cons (ev_var rfl) (ea_cons (ev_op (ev_op (ev_var rfl) (ev_var rfl) rv_I0) (ev_cb (ea_cons (ev_var rfl) ea_nil) (rc_lenS (by walk_at "sz"))) (rv_I (by walk_at "pos"))) ea_nil)) (spl_stretch_counts (by walk_at "pre"))) fun r H6 hr6 e6 x6 => ?_
    have hcl := cnts_len bs ((((hts bs).idxOf (mx (hts bs)) : Int) - ((hts bs).idxOf (mn (hts bs)) : Int)) % (bs.length : Int)).toNat
    obtain ⟨c1, c2⟩ := mx_mem (ns := cnts bs ((((hts bs).idxOf (mx (hts bs)) : Int) - ((hts bs).idxOf (mn (hts bs)) : Int)) % (bs.length : Int)).toNat) (by omega)
    obtain ⟨d1, d2⟩ := mn_mem (ns := cnts bs ((((hts bs).idxOf (mx (hts bs)) : Int) - ((hts bs).idxOf (mn (hts bs)) : Int)) % (bs.length : Int)).toNat) (by omega)
    refine s_retN (en_make (ea_cons (ev_idxL (ev_var rfl) (ev_cb (ea_cons (ev_var rfl) ea_nil) (rc_max (by walk_at "lst") (by walk_at "ln"))) (by walk_at "lst") (by walk_at "pre")) (ea_cons (ev_idxL (ev_var rfl) (ev_cb (ea_cons (ev_var rfl) ea_nil) (rc_min (by walk_at "lst") (by walk_at "ln"))) (by walk_at "lst") (by walk_at "pre")) (ea_cons (ev_op (ev_op (ev_var rfl) (ev_var rfl) rv_I0) (ev_cb (ea_cons (ev_var rfl) ea_nil) (rc_lenS (by walk_at "sz"))) (rv_I (by walk_at "pos"))) ea_nil))) rfl) fun o dx H7 ho e7 x7 => ?_
    have e06 := ((((e1.trans e2).trans e3).trans e4).trans e5).trans e6
    exact k o dx _ _ _ H7 (fresh_back e06 ho) (e06.trans e7) x7 (apart_right h0 hf _ _ _ rfl rfl rfl)
end
end Eb
namespace Eb
open PySem PySem.Spec PyProof.Rows L2 TL Evl
abbrev sIsNumber : Stmt := topS 8
theorem scIsNumber : FnScope ["thing"] ["thing"] (defScope sIsNumber) := ⟨rfl, rfl, rfl, by decide +kernel, rfl, by decide +kernel, by decide +kernel⟩
def spIsNumber (K : PySem.W.Frag) : Sp := fun vs H Q _ => ∃ (x : V) (t : Value) (b c : Bool), vs = [x] ∧ (∀ H1, Ex H H1 → TyX K H1 x t) ∧ PySem.W.kitOne K t (.type "int") = some b ∧ PySem.W.kitOne K t (.type "bool") = some c ∧ RetV (.bl (b && !c)) H Q
theorem spv_is_number {K : PySem.W.Frag} {H : Hp} {i : Int} (_ : True) : SpV (spIsNumber K) [.int i] H (.bl true) := fun _ _ _ q _ => ⟨.int i, .type "int", true, false, rfl, fun _ _ => .base (.int i), kit_ty (by decide +kernel), kit_ty (by decide +kernel), q⟩
section
variable {P : Program} {w : World} {K : PySem.W.Frag} {mg : Str → Option Value} {base : Heap}
theorem ok_is_number (D : DefAt K mg "is_number" sIsNumber) (B : Bn mg) : C8.Cal P w K mg base 1 "is_number" (spIsNumber K) [] := by
  refine cal_of D (fun _ _ _ _ _ _ us hl => match us, hl with | [_], _ => rfl) scIsNumber (fun vs H Q E h => ?_) (fun f cdv A outer s H vs Q E hr h => ?_)
  · obtain ⟨x, t, b, c, rfl, _⟩ := h
    rfl
  · obtain ⟨x, t, b, c, rfl, hgt, h1, h2, k⟩ := h
    refine ⟨_, (pss_one (ps_ret (pe_and (pe_callB (call_isiK1 (K := K) rfl) (by rfl) B.isinstance_ (by decide +kernel) (pa_cons (pv 0) (pa_cons (pe_bltn (v := .ty "int") (by rfl) B.int_ (by decide +kernel) rfl) pa_nil))) (pe_one (pe_not (pe_callB (call_isiK1 (K := K) rfl) (by rfl) B.isinstance_ (by decide +kernel) (pa_cons (pv 0) (pa_cons (pe_bltn (v := .ty "bool") (by rfl) B.bool_ (by decide +kernel) rfl) pa_nil)))))))), ?_⟩
    exact s_ret (ev_andV (ev_cb (ea_cons (ev_var rfl) (ea_cons ev_c ea_nil)) (rc_isi (.ty _) hgt h1)) (fun _ => ev_notV (ev_cb (ea_cons (ev_var rfl) (ea_cons ev_c ea_nil)) (rc_isi (.ty _) hgt h2)))) k
end
end Eb
namespace Eb
open PySem PySem.Spec PyProof.Rows L2 TL Evl
abbrev sReckonedPlaces : Stmt := topS 11
theorem scReckonedPlaces : FnScope ["beats", "places", "shift", "many", "at"] ["beats", "places", "shift", "many"] (defScope sReckonedPlaces) := ⟨rfl, rfl, rfl, by decide +kernel, rfl, by decide +kernel, by decide +kernel⟩
def spReckonedPlaces (_ : PySem.W.Frag) : Sp := fun vs H Q _ => ∃ b p s m : Int, vs = [.int b, .int p, .int s, .int m] ∧ (0 < p ∧ 0 ≤ m ∧ m ≤ 1000) ∧ RetV (.str (enc (reck b p s m.toNat))) H Q
theorem spv_reckoned_places {K : PySem.W.Frag} {H : Hp} {b p s m : Int} (h : 0 < p ∧ 0 ≤ m ∧ m ≤ 1000) : SpV (spReckonedPlaces K) [.int b, .int p, .int s, .int m] H (.str (enc (reck b p s m.toNat))) := fun _ _ _ q _ => ⟨b, p, s, m, rfl, h, q⟩
section
variable {P : Program} {w : World} {K : PySem.W.Frag} {mg : Str → Option Value} {base : Heap}
theorem ok_reckoned_places (D : DefAt K mg "reckoned_places" sReckonedPlaces) (B : Bn mg) (T : Tx mg) : C8.Cal P w K mg base 1 "reckoned_places" (spReckonedPlaces K) [] := by
  refine cal_of D (fun _ _ _ _ _ _ us hl => match us, hl with | [_, _, _, _], _ => rfl) scReckonedPlaces (fun vs H Q E h => ?_) (fun f cdv A outer s H vs Q E hr h => ?_)
  · obtain ⟨b, p, s, m, rfl, _⟩ := h
    rfl
  · obtain ⟨b, p, s, m, rfl, ⟨h1, h2, h3⟩, k⟩ := h
    refine ⟨_, (pss_one (ps_ret (pe_join pe_s0 (pe_lc (own := [("at", 4)]) (g := gName 4) rfl scReckonedPlaces.nd (pi_range1 rfl B.range_ (pa_cons (pv 3) pa_nil)) (blkOk_by (own := [("at", 4)]) (N := ["beats", "places", "shift", "many", "at"]) (sc := defScope sReckonedPlaces) (by decide +kernel)) (fun _ _ _ _ _ => (pg_name (i := 4) scReckonedPlaces.nd rfl (Or.inl rfl))) (fun _ _ _ _ _ => pts_nil) (fun _ _ _ _ _ => (pe_ifExp (pt_cmp (pc_lt (pe_op op_mod (pe_op op_add (pv 2) (pe_op op_mul (pv 4) (pv 0))) (pv 1)) (pv 0))) (C8.pe_gc rfl T.beat) (C8.pe_gc rfl T.rest))))))), ?_⟩
    exact s_ret (ev_join1N ev_c (el_mapRi _ (ea_cons (ev_var rfl) ea_nil) (by walk_at "rg") (fun _ => rfl) (fun i9 H9 e9 h9 => Ev.mono e9 (ev_ifS (et_B (ev_cmp (ev_op (ev_op (ev_var rfl) (ev_op (ev_var rfl) (ev_var rfl) (rv_I (by walk_at "mul"))) rv_I0) (ev_var rfl) (rv_I (by walk_at "pos"))) (ev_var rfl))) ev_c ev_c))) (by walk_at "sz")) k
end
end Eb
namespace Eb
open PySem PySem.Spec PyProof.Rows L2 TL Evl
abbrev sReckoned : Stmt := topS 12
theorem scReckoned : FnScope ["beats", "places", "shift", "many"] ["beats", "places", "shift", "many"] (defScope sReckoned) := ⟨rfl, rfl, rfl, by decide +kernel, rfl, by decide +kernel, by decide +kernel⟩
def PreReck (b p m : Int) : Prop := 0 < p ∧ 0 ≤ b ∧ b ≤ p ∧ 0 ≤ m ∧ m ≤ 1000
def spReckoned (_ : PySem.W.Frag) : Sp := fun vs H Q _ => ∃ b p s m : Int, vs = [.int b, .int p, .int s, .int m] ∧ PreReck b p m ∧ RetV (.str (enc (reck b p s m.toNat))) H Q
theorem spv_reckoned {K : PySem.W.Frag} {H : Hp} {b p s m : Int} (h : PreReck b p m) : SpV (spReckoned K) [.int b, .int p, .int s, .int m] H (.str (enc (reck b p s m.toNat))) := fun _ _ _ q _ => ⟨b, p, s, m, rfl, h, q⟩
section
variable {P : Program} {w : World} {K : PySem.W.Frag} {mg : Str → Option Value} {base : Heap}
theorem ok_reckoned (D : DefAt K mg "reckoned" sReckoned) (c_is_number : C8.Cal P w K mg base 1 "is_number" (spIsNumber K) []) (c_reckoned_places : C8.Cal P w K mg base 1 "reckoned_places" (spReckonedPlaces K) []) : C8.Cal P w K mg base 3 "reckoned" (spReckoned K) [] := by
  refine cal_of D (fun _ _ _ _ _ _ us hl => match us, hl with | [_, _, _, _], _ => rfl) scReckoned (fun vs H Q E h => ?_) (fun f cdv A outer s H vs Q E hr h => ?_)
  · obtain ⟨b, p, s, m, rfl, _⟩ := h
    rfl
  · obtain ⟨b, p, s, m, rfl, ⟨h1, h2, h3, h4, h5⟩, k⟩ := h
    refine ⟨_, (pss_cons (ps_if (PW.pt (pw_or (pt_not (pt_val (C8.pe_c c_is_number hr (by decide) (by rfl) (pa_cons (pv 1) pa_nil)))) (pw_or (pt_cmp (pc_lt (pv 1) pe_int)) (pw_or (pt_not (pt_val (C8.pe_c c_is_number hr (by decide) (by rfl) (pa_cons (pv 0) pa_nil)))) (pw_or1 (pt_not (pt_chain op_le op_le pe_int (pv 0) (pv 1))))))))
      (pss_one ps_never)
      pss_nil)
      (pss_cons (ps_if (PW.pt (pw_or (pt_not (pt_val (C8.pe_c c_is_number hr (by decide) (by rfl) (pa_cons (pv 2) pa_nil)))) (pw_or (pt_not (pt_val (C8.pe_c c_is_number hr (by decide) (by rfl) (pa_cons (pv 3) pa_nil)))) (pw_or1 (pt_cmp (pc_lt (pv 3) pe_int))))))
      (pss_one ps_never)
      pss_nil)
      (pss_one (ps_ret (C8.pe_c c_reckoned_places hr (by decide) (by rfl) (pa_cons (pv 0) (pa_cons (pv 1) (pa_cons (pv 2) (pa_cons (pv 3) pa_nil))))))))), ?_⟩
    refine q_when (et_or (et_not (et_B (ev_call (ea_cons (ev_var rfl) ea_nil) (spv_is_number (by walk_at "pre"))))) (fun hb => (et_or (et_B (ev_cmp (ev_var rfl) ev_c)) (fun hb => (et_or (et_not (et_B (ev_call (ea_cons (ev_var rfl) ea_nil) (spv_is_number (by walk_at "pre"))))) (fun hb => (et_not (et_test (ev_chain ev_c (ev_var rfl) (ev_var rfl)))))))))) (fun hb => by
      exfalso
      simp at hb
      omega) (fun _ H1 e1 => ?_)
    refine q_when (et_or (et_not (et_B (ev_call (ea_cons (ev_var rfl) ea_nil) (spv_is_number (by walk_at "pre"))))) (fun hb => (et_or (et_not (et_B (ev_call (ea_cons (ev_var rfl) ea_nil) (spv_is_number (by walk_at "pre"))))) (fun hb => (et_B (ev_cmp (ev_var rfl) ev_c)))))) (fun hb => by
      exfalso
      simp at hb
      omega) (fun _ H2 e2 => ?_)
    exact s_ret (ev_call (ea_cons (ev_var rfl) (ea_cons (ev_var rfl) (ea_cons (ev_var rfl) (ea_cons (ev_var rfl) ea_nil)))) (spv_reckoned_places (by walk_at "pre"))) fun H3 e3 => k.go ((e1.trans e2).trans e3)
end
end Eb
namespace Eb
open PySem PySem.Spec PyProof.Rows L2 TL Evl
abbrev sLaid : Stmt := topS 13
theorem scLaid : FnScope ["beats", "places"] ["beats", "places"] (defScope sLaid) := ⟨rfl, rfl, rfl, by decide +kernel, rfl, by decide +kernel, by decide +kernel⟩
def PreLaid (b p : Int) : Prop := 0 < p ∧ 0 ≤ b ∧ b ≤ p ∧ p ≤ 1000
def spLaid (_ : PySem.W.Frag) : Sp := fun vs H Q _ => ∃ b p : Int, vs = [.int b, .int p] ∧ PreLaid b p ∧ RetV (.str (enc (reck b p 0 p.toNat))) H Q
theorem spv_laid {K : PySem.W.Frag} {H : Hp} {b p : Int} (h : PreLaid b p) : SpV (spLaid K) [.int b, .int p] H (.str (enc (reck b p 0 p.toNat))) := fun _ _ _ q _ => ⟨b, p, rfl, h, q⟩
section
variable {P : Program} {w : World} {K : PySem.W.Frag} {mg : Str → Option Value} {base : Heap}
theorem ok_laid (D : DefAt K mg "laid" sLaid) (c_reckoned : C8.Cal P w K mg base 3 "reckoned" (spReckoned K) []) : C8.Cal P w K mg base 4 "laid" (spLaid K) [] := by
  refine cal_of D (fun _ _ _ _ _ _ us hl => match us, hl with | [_, _], _ => rfl) scLaid (fun vs H Q E h => ?_) (fun f cdv A outer s H vs Q E hr h => ?_)
  · obtain ⟨b, p, rfl, _⟩ := h
    rfl
  · obtain ⟨b, p, rfl, ⟨h1, h2, h3, h4⟩, k⟩ := h
    refine ⟨_, (pss_one (ps_ret (C8.pe_c c_reckoned hr (by decide) (by rfl) (pa_cons (pv 0) (pa_cons (pv 1) (pa_cons pe_int (pa_cons (pv 1) pa_nil))))))), ?_⟩
    exact s_ret (ev_call (ea_cons (ev_var rfl) (ea_cons (ev_var rfl) (ea_cons ev_c (ea_cons (ev_var rfl) ea_nil)))) (spv_reckoned (by walk_at "pre"))) k
end
end Eb
namespace Eb
open PySem PySem.Spec PyProof.Rows L2 TL Evl
abbrev sEven : Stmt := topS 25
theorem scEven : FnScope ["ring", "whole", "turn"] ["ring"] (defScope sEven) := ⟨rfl, rfl, rfl, by decide +kernel, rfl, by decide +kernel, by decide +kernel⟩
def EvenAns (CE CA : Addr) (bs : List Bool) (H : Hp) (p : Addr) : Prop :=
  (∃ (dx : Addr) (t : Nat), H p = some (.ins CE dx [("turn", .int (t : Int))]) ∧ t < bs.length ∧ bs = reck (bs.count true : Nat) bs.length ((t : Int) * (bs.count true : Nat)) bs.length) ∨
  (¬ Flat bs ∧ ∃ (dx : Addr) (f s : Nat) (m : Int), H p = some (.ins CA dx [("first", .int (f : Int)), ("second", .int (s : Int)), ("many", .int m)]) ∧ (f < bs.length ∧ s < bs.length ∧ 0 ≤ m ∧ m < bs.length ∧ stc bs s m.toNat + 2 ≤ stc bs f m.toNat))
theorem EvenAns.mono {CE CA : Addr} {bs : List Bool} {H H1 : Hp} {p : Addr} (e : Ex H H1) (h : EvenAns CE CA bs H p) : EvenAns CE CA bs H1 p := by
  rcases h with ⟨dx, t, h, r⟩ | ⟨hf, dx, f, s, m, h, r⟩
  · exact .inl ⟨dx, t, e _ _ h, r⟩
  · exact .inr ⟨hf, dx, f, s, m, e _ _ h, r⟩
def spEvenC (CE CA : Addr) : Sp := fun vs H Q _ => ∃ (bs : List Bool), vs = [.str (enc bs)] ∧ (0 < bs.length ∧ bs.length ≤ 400) ∧ ∀ p H2, H p = none → Ex H H2 → EvenAns CE CA bs H2 p → Q (.ref p) H2
/-- isinstance(even(ring), Even) -/
theorem ev_isEven {K : PySem.W.Frag} {CE CA CX : Addr} {bs : List Bool} {t : TA} {σ : L2.St} {H : Hp} {E : XK} (kE : Kl K CE) (kA : Kl K CA) (i1 : PySem.W.kitOne K (.ref CE) (.ref CX) = some true) (i2 : PySem.W.kitOne K (.ref CA) (.ref CX) = some false)
    (ht : EvA t σ H [.str (enc bs)]) (h : 0 < bs.length ∧ bs.length ≤ 400) : Ev (tCB (rIsi K) (tCons (tCall (spEvenC CE CA) [] E t) (tCons (tC (.ref CX)) tNil))) σ H (.bl (isEv bs)) := fun H5 e5 Q' hq => ht H5 e5 _ fun H6 e6 => by
  refine ⟨_, rfl, h, fun p H7 hp7 e7 ha => ?_⟩
  rcases ha with ⟨dx, t, ho, ht, hr⟩ | ⟨hnf, dx, f, s, m, ho, _⟩
  · rw [(isEv_flat h.1).mpr (turn_flat h.1 hr)] at hq
    exact rc_isO kE ho i1 H7 (Ex.refl H7) Q' fun H8 e8 => hq H8 ((e6.trans e7).trans e8)
  · have hf : isEv bs = false := by
      rw [← Bool.not_eq_true]
      exact fun c => hnf ((isEv_flat h.1).mp c)
    rw [hf] at hq
    exact rc_isO kA ho i2 H7 (Ex.refl H7) Q' fun H8 e8 => hq H8 ((e6.trans e7).trans e8)
section
variable {P : Program} {w : World} {K : PySem.W.Frag} {mg : Str → Option Value} {base : Heap}
variable {cAnswer cEven cApart : Addr}
theorem ok_even (D : DefAt K mg "even" sEven) (Z : Cz K mg cAnswer cEven cApart) (B : Bn mg) (c_asked_ring : C8.Cal P w K mg base 4 "asked_ring" (spAskedRing K) []) (c_laid : C8.Cal P w K mg base 4 "laid" (spLaid K) []) (c_apart : C8.Cal P w K mg base 3 "apart" (spApartC cApart) []) (k_Even : C8.Mak P w K mg base 1 "Even" cEven (spI cEven ["turn"]) []) : C8.Cal P w K mg base 5 "even" (spEvenC cEven cApart) [] := by
  refine cal_of D (fun _ _ _ _ _ _ us hl => match us, hl with | [_], _ => rfl) scEven (fun vs H Q E h => ?_) (fun f cdv A outer s H vs Q E hr h => ?_)
  · obtain ⟨bs, rfl, _⟩ := h
    rfl
  · obtain ⟨bs, rfl, ⟨h0, h1⟩, k⟩ := h
    refine ⟨_, (pss_cons (ps_expr (C8.pe_c c_asked_ring hr (by decide) (by rfl) (pa_cons (pv 0) pa_nil)))
      (pss_cons (ps_set (i := 1) scEven.nd rfl (Or.inl rfl) (C8.pe_c c_laid hr (by decide) (by rfl) (pa_cons (pe_m1 PySem.F.slot_str_count PySem.F.type_str_count mt_count (pv 0) pe_sx) (pa_cons (pe_callB call_len_str (by rfl) B.len_ PySem.boot_len (pa_cons (pv 0) pa_nil)) pa_nil))))
      (pss_cons (ps_set (i := 2) scEven.nd rfl (Or.inl rfl) (pe_m1 PySem.F.slot_str_find PySem.F.type_str_find mt_find (pe_op op_add_str (pv 1) (pv 1)) (pv 0)))
      (pss_cons (ps_if (pt_cmp (pc_ge (pv 2) pe_int))
      (pss_one (ps_ret (C8.pe_mk k_Even hr (by decide) (by rfl) (pa_cons (pv 2) pa_nil))))
      pss_nil)
      (pss_one (ps_ret (C8.pe_c c_apart hr (by decide) (by rfl) (pa_cons (pv 0) pa_nil)))))))), ?_⟩
    have hcn := cnt_le bs
    refine q_drop (ev_call (ea_cons (ev_var rfl) ea_nil) (spv_asked_ring (by walk_at "pre"))) fun H1 e1 => ?_
    refine q_asg (ev_call (ea_cons (ev_cntS (ev_var rfl) ev_c) (ea_cons (ev_cb (ea_cons (ev_var rfl) ea_nil) (rc_lenS (by walk_at "sz"))) ea_nil)) (spv_laid (by walk_at "pre"))) fun H2 e2 => ?_
    have hwl := reck_len ((bs.count true : Nat) : Int) (bs.length : Int) 0 ((bs.length : Nat) : Int).toNat
    refine q_asg (ev_findS (ev_op (ev_var rfl) (ev_var rfl) (rv_catS (by walk_at "sz") (by walk_at "sz"))) (ev_var rfl)) fun H3 e3 => ?_
    have hfind := find_enc (reck ((bs.count true : Nat) : Int) (bs.length : Int) 0 ((bs.length : Nat) : Int).toNat ++ reck ((bs.count true : Nat) : Int) (bs.length : Int) 0 ((bs.length : Nat) : Int).toNat) bs
    generalize hfd : Txt.find (enc (reck ((bs.count true : Nat) : Int) (bs.length : Int) 0 ((bs.length : Nat) : Int).toNat ++ reck ((bs.count true : Nat) : Int) (bs.length : Int) 0 ((bs.length : Nat) : Int).toNat)) (enc bs) = t at hfind
    rw [Int.toNat_natCast] at hfind hwl
    refine q_when (et_B (ev_cmp (ev_var rfl) ev_c)) (fun hb H4 e4 => ?_) (fun hb H4 e4 => ?_)
    · have ht := of_decide_eq_true hb
      rcases hfind with ⟨z, _⟩ | ⟨i, hi, hle, htk, hno⟩
      · omega
      · refine s_retN (en_make (ea_cons (ev_var rfl) ea_nil) rfl) fun p dx H5 hp e5 x5 => ?_
        have e05 := ((e1.trans e2).trans e3).trans e4
        have hle2 : i ≤ bs.length := by
          rw [List.length_append, hwl] at hle
          omega
        have hpart := reck_part (b := ((bs.count true : Nat) : Int)) (p := (bs.length : Int)) (n := bs.length) rfl hle2
        rw [htk] at hpart
        refine k p H5 (fresh_back e05 hp) (e05.trans e5) (.inl ⟨dx, i, ?_, ?_, hpart⟩)
        · rw [hi] at x5
          exact x5
        · rcases Nat.lt_or_ge i bs.length with c | c
          · exact c
          · exfalso
            have ei : i = bs.length := by omega
            refine hno 0 (by omega) ⟨by
              rw [List.length_append, hwl]
              omega, ?_⟩
            rw [reck_part rfl (Nat.zero_le _)]
            rw [ei] at hpart
            refine Eq.trans (reck_mod _ ?_) hpart.symm
            rw [Int.mul_emod_right]
            simp
    · have ht := of_decide_eq_false hb
      have hnf : ¬ Flat bs := fun hfl => by
        obtain ⟨t', ht', hr'⟩ := flat_turn h0 hfl
        rcases hfind with ⟨_, hno⟩ | ⟨i, hi, _⟩
        · refine hno t' ⟨by
            rw [List.length_append, hwl]
            omega, ?_⟩
          rw [reck_part rfl (by omega)]
          exact hr'.symm
        · omega
      refine s_retC (ea_cons (ev_var rfl) ea_nil) fun H5 e5 => ?_
      have e05 := (((e1.trans e2).trans e3).trans e4).trans e5
      exact ⟨bs, rfl, ⟨h0, h1, hnf⟩, fun p dx f s m H6 hp e6 x6 hr6 => k p H6 (fresh_back e05 hp) (e05.trans e6) (.inr ⟨hnf, dx, f, s, m, x6, hr6⟩)⟩
end
end Eb
/-! ### even rings, turned, told backwards, exchanged -/
namespace Eb
def flip (bs : List Bool) : List Bool := bs.map not
theorem flip_flip (bs : List Bool) : flip (flip bs) = bs := by
  unfold flip
  rw [List.map_map]
  have : (not ∘ not) = id := by
    funext b
    cases b <;> rfl
  rw [this, List.map_id]
theorem cnt_flip : ∀ bs : List Bool, ((bs.map not).count true : Int) = bs.length - bs.count true
  | [] => rfl
  | true :: r => by
    have ih := cnt_flip r
    rw [List.map_cons, List.count_cons, List.count_cons, List.length_cons]
    simp
    omega
  | false :: r => by
    have ih := cnt_flip r
    rw [List.map_cons, List.count_cons, List.count_cons, List.length_cons]
    simp
    omega
theorem cbt_flip (bs : List Bool) {i : Nat} (h : i ≤ bs.length) : cbt (flip bs) i = i - cbt bs i := by
  unfold cbt flip
  rw [← List.map_take, cnt_flip, List.length_take, Nat.min_eq_left h]
theorem hgt_flip (bs : List Bool) {i : Nat} (h : i ≤ bs.length) : hgt (flip bs) i = - hgt bs i := by
  have hl : (flip bs).length = bs.length := by
    unfold flip
    rw [List.length_map]
  rw [hgt_low (by omega), hgt_low h, hl, cbt_flip bs h]
  unfold flip
  rw [cnt_flip]
  grind
theorem flat_flip {bs : List Bool} (h : Flat bs) : Flat (flip bs) := by
  have hl : (flip bs).length = bs.length := by
    unfold flip
    rw [List.length_map]
  intro i j hi hj
  rw [hl] at hi hj ⊢
  rw [hgt_flip bs (by omega), hgt_flip bs (by omega)]
  have := h j i hj hi
  omega
theorem flat_flip_iff (bs : List Bool) : Flat (flip bs) ↔ Flat bs := ⟨fun h => by
  have := flat_flip h
  rw [flip_flip] at this
  exact this, flat_flip⟩
theorem cbt_rev (bs : List Bool) {i : Nat} (h : i ≤ bs.length) : cbt bs.reverse i = ((bs.count true : Nat) : Int) - cbt bs (bs.length - i) := by
  unfold cbt
  rw [List.take_reverse, List.count_reverse]
  have e := List.take_append_drop (bs.length - i) bs
  have e2 := congrArg (List.count true) e
  rw [List.count_append] at e2
  omega
theorem hgt_full (bs : List Bool) : hgt bs bs.length = hgt bs 0 := by
  have := hgt_wrap (bs := bs) (j := 0) (Nat.zero_le _)
  rw [Nat.add_zero] at this
  exact this
theorem flat_rev {bs : List Bool} (h : Flat bs) : Flat bs.reverse := by
  have hh : ∀ i, i < bs.length → ∃ k, k < bs.length ∧ hgt bs.reverse i = - hgt bs k := fun i hi => by
    have e : hgt bs.reverse i = - hgt bs (bs.length - i) := by
      rw [hgt_low (by rw [List.length_reverse]; omega), hgt_low (by omega), List.length_reverse, List.count_reverse, cbt_rev bs (by omega)]
      have e2 : ((bs.length - i : Nat) : Int) = bs.length - i := by omega
      rw [e2]
      grind
    cases i with
    | zero =>
      refine ⟨0, hi, ?_⟩
      rw [e, Nat.sub_zero, hgt_full]
    | succ i => exact ⟨bs.length - (i + 1), by omega, e⟩
  intro i j hi hj
  rw [List.length_reverse] at hi hj ⊢
  obtain ⟨a, ha, e1⟩ := hh i hi
  obtain ⟨b, hb, e2⟩ := hh j hj
  rw [e1, e2]
  have := h b a hb ha
  omega
theorem flat_rev_iff (bs : List Bool) : Flat bs.reverse ↔ Flat bs := ⟨fun h => by
  have := flat_rev h
  rw [List.reverse_reverse] at this
  exact this, flat_rev⟩
def rot (bs : List Bool) (k : Nat) : List Bool := bs.drop k ++ bs.take k
theorem rot_len {bs : List Bool} {k : Nat} (h : k ≤ bs.length) : (rot bs k).length = bs.length := by
  unfold rot
  rw [List.length_append, List.length_drop, List.length_take]
  omega
theorem rot_cbt {bs : List Bool} {k i : Nat} (h : k ≤ bs.length) (hi : i ≤ bs.length) : cbt (rot bs k) i = crn bs (k + i) - crn bs k := by
  have e : (rot bs k).take i = ((bs ++ bs).drop k).take i := by
    unfold rot
    rw [List.drop_append_of_le_length h, List.take_append, List.take_append, List.take_take]
    rw [List.length_drop, Nat.min_eq_left (by omega)]
  unfold cbt crn cbt
  rw [e]
  have e2 := List.take_append_drop k ((bs ++ bs).take (k + i))
  have e3 := congrArg (List.count true) e2
  rw [List.count_append, List.take_take, List.drop_take, Nat.min_eq_left (by omega), Nat.add_sub_cancel_left] at e3
  omega
theorem rot_cnt {bs : List Bool} {k : Nat} (h : k ≤ bs.length) : (rot bs k).count true = bs.count true := by
  unfold rot
  rw [List.count_append]
  have e := congrArg (List.count true) (List.take_append_drop k bs)
  rw [List.count_append] at e
  omega
theorem rot_hgt {bs : List Bool} {k i : Nat} (h : k ≤ bs.length) (hi : i ≤ bs.length) : hgt (rot bs k) i = hgt bs (k + i) - hgt bs k := by
  rw [hgt_low (by rw [rot_len h]; exact hi), rot_len h, rot_cbt h hi, rot_cnt h]
  unfold hgt
  rw [cbt_all (Nat.le_refl _)]
  have e : ((k + i : Nat) : Int) = k + i := by omega
  rw [e]
  grind
theorem flat_rot {bs : List Bool} {k : Nat} (h : k ≤ bs.length) (hf : Flat bs) : Flat (rot bs k) := by
  intro i j hi hj
  rw [rot_len h] at hi hj ⊢
  rw [rot_hgt h (by omega), rot_hgt h (by omega)]
  have e : ∀ x, x < bs.length → ∃ y, y < bs.length ∧ hgt bs (k + x) = hgt bs y := fun x hx => by
    rcases Nat.lt_or_ge (k + x) (2 * bs.length) with c | c
    · exact ⟨(k + x) % bs.length, Nat.mod_lt _ (by omega), hgt_mod c⟩
    · omega
  obtain ⟨a, ha, e1⟩ := e i hi
  obtain ⟨b, hb, e2⟩ := e j hj
  rw [e1, e2]
  have := hf a b ha hb
  omega
theorem rot_rot {bs : List Bool} {k : Nat} (h : k ≤ bs.length) : rot (rot bs k) (bs.length - k) = bs := by
  have hl : (bs.drop k).length = bs.length - k := List.length_drop
  unfold rot
  rw [← hl, List.drop_left, List.take_left, List.take_append_drop]
theorem flat_rot_iff {bs : List Bool} {k : Nat} (h : k ≤ bs.length) : Flat (rot bs k) ↔ Flat bs := ⟨fun hf => by
  have := flat_rot (bs := rot bs k) (k := bs.length - k) (by rw [rot_len h]; omega) hf
  rw [rot_rot h] at this
  exact this, flat_rot h⟩
/-- place by place -/
theorem rot_eq {bs : List Bool} (hn : 0 < bs.length) (y : Int) : rot bs (y % (bs.length : Int)).toNat = (List.range bs.length).map fun (i : Nat) => bs.getD (((i : Int) + y) % (bs.length : Int)).toNat false := by
  have y0 := Int.emod_nonneg y (by omega : (bs.length : Int) ≠ 0)
  have y1 := Int.emod_lt_of_pos y (by omega : (0 : Int) < bs.length)
  obtain ⟨k, hk⟩ := Int.eq_ofNat_of_zero_le y0
  have hk2 : (y % (bs.length : Int)).toNat = k := by omega
  rw [hk2]
  apply List.ext_getElem?
  intro i
  by_cases hi : i < bs.length
  · rw [List.getElem?_map, List.getElem?_range hi]
    have e : (((i : Int) + y) % (bs.length : Int)).toNat = (i + k) % bs.length := by
      rw [← Int.add_emod_emod, hk, nat_mod]
    show _ = some (bs.getD (((i : Int) + y) % (bs.length : Int)).toNat false)
    rw [e]
    unfold rot
    rw [List.getElem?_append, List.length_drop]
    split
    · rename_i c
      rw [List.getElem?_drop, Nat.mod_eq_of_lt (by omega), List.getD_eq_getElem?_getD, List.getElem?_eq_getElem (by omega), List.getElem?_eq_getElem (by omega)]
      show some _ = some _
      congr 1
      congr 1
      omega
    · rename_i c
      rw [Nat.mod_eq_sub_mod (by omega), Nat.mod_eq_of_lt (by omega), List.getElem?_take, if_pos (by omega), List.getD_eq_getElem?_getD, List.getElem?_eq_getElem (by omega), List.getElem?_eq_getElem (by omega)]
      show some _ = some _
      congr 1
      congr 1
      omega
  · rw [List.getElem?_eq_none (by rw [rot_len (by omega)]; omega), List.getElem?_eq_none (by rw [List.length_map, List.length_range]; omega)]
/-- turned further it comes back -/
theorem rot_back {bs : List Bool} (hn : 0 < bs.length) (y : Int) : rot (rot bs (y % (bs.length : Int)).toNat) (-y % (bs.length : Int)).toNat = bs := by
  have y0 := Int.emod_nonneg y (by omega : (bs.length : Int) ≠ 0)
  have y1 := Int.emod_lt_of_pos y (by omega : (0 : Int) < bs.length)
  have e : -y % (bs.length : Int) = -(y % (bs.length : Int)) % (bs.length : Int) := by
    have q : -y = -(y % (bs.length : Int)) + (bs.length : Int) * (-(y / (bs.length : Int))) := by
      have := Int.emod_add_mul_ediv y (bs.length : Int)
      rw [Int.mul_neg]
      omega
    conv => lhs; rw [q]
    rw [Int.add_mul_emod_self_left]
  by_cases c : y % (bs.length : Int) = 0
  · rw [e, c]
    have e2 : (-(0 : Int) % (bs.length : Int)).toNat = 0 := by simp
    rw [e2]
    simp [rot]
  · have e2 : -(y % (bs.length : Int)) % (bs.length : Int) = bs.length - y % (bs.length : Int) := by
      rw [← Int.add_emod_right, Int.emod_eq_of_lt (by omega) (by omega)]
      omega
    have e3 : (-y % (bs.length : Int)).toNat = bs.length - (y % (bs.length : Int)).toNat := by
      rw [e, e2]
      omega
    rw [e3]
    exact rot_rot (by omega)
end Eb
namespace Eb
open PySem PySem.Spec PyProof.Rows L2 TL Evl
abbrev sExchanged : Stmt := topS 15
theorem scExchanged : FnScope ["ring", "sign"] ["ring"] (defScope sExchanged) := ⟨rfl, rfl, rfl, by decide +kernel, rfl, by decide +kernel, by decide +kernel⟩
def spExchanged (_ : PySem.W.Frag) : Sp := fun vs H Q _ => ∃ (bs : List Bool), vs = [.str (enc bs)] ∧ (0 < bs.length ∧ bs.length ≤ 1000) ∧ RetV (.str (enc (flip bs))) H Q
theorem spv_exchanged {K : PySem.W.Frag} {H : Hp} {bs : List Bool} (h : 0 < bs.length ∧ bs.length ≤ 1000) : SpV (spExchanged K) [.str (enc bs)] H (.str (enc (flip bs))) := fun _ _ _ q _ => ⟨bs, rfl, h, q⟩
section
variable {P : Program} {w : World} {K : PySem.W.Frag} {mg : Str → Option Value} {base : Heap}
theorem ok_exchanged (D : DefAt K mg "exchanged" sExchanged) (T : Tx mg) (c_asked_ring : C8.Cal P w K mg base 4 "asked_ring" (spAskedRing K) []) : C8.Cal P w K mg base 5 "exchanged" (spExchanged K) [] := by
  refine cal_of D (fun _ _ _ _ _ _ us hl => match us, hl with | [_], _ => rfl) scExchanged (fun vs H Q E h => ?_) (fun f cdv A outer s H vs Q E hr h => ?_)
  · obtain ⟨bs, rfl, _⟩ := h
    rfl
  · obtain ⟨bs, rfl, ⟨h0, h1⟩, k⟩ := h
    refine ⟨_, (pss_cons (ps_expr (C8.pe_c c_asked_ring hr (by decide) (by rfl) (pa_cons (pv 0) pa_nil)))
      (pss_one (ps_ret (pe_join pe_s0 (pe_lc (own := [("sign", 1)]) (g := gName 1) rfl scExchanged.nd (pi_str (pv 0)) (blkOk_by (own := [("sign", 1)]) (N := ["ring", "sign"]) (sc := defScope sExchanged) (by decide +kernel)) (fun _ _ _ _ _ => (pg_name (i := 1) scExchanged.nd rfl (Or.inl rfl))) (fun _ _ _ _ _ => pts_nil) (fun _ _ _ _ _ => (pe_ifExp (pt_cmpR op_eq (pv 1) (C8.pe_gc rfl T.beat) (nomark _)) (C8.pe_gc rfl T.rest) (C8.pe_gc rfl T.beat)))))))), ?_⟩
    refine q_drop (ev_call (ea_cons (ev_var rfl) ea_nil) (spv_asked_ring (by walk_at "pre"))) fun H1 e1 => ?_
    refine s_ret (ev_eq (ev_join1N ev_c (el_mapS (ev_var rfl) (by walk_at "sz") (fun _ => rfl) (fun i9 H9 e9 h9 => Ev.mono e9 (ev_ifN (et_test (ev_op (ev_var rfl) ev_c rv_eqS)) ev_c ev_c))) (by walk_at "sz")) ?_) fun H2 e2 => k.go (e1.trans e2)
    unfold flip
    congr 2
    refine List.map_congr_left fun b _ => ?_
    cases b <;> rfl
end
end Eb
namespace Eb
open PySem PySem.Spec PyProof.Rows L2 TL Evl
abbrev sTurned : Stmt := topS 14
theorem scTurned : FnScope ["ring", "by", "first"] ["ring", "by"] (defScope sTurned) := ⟨rfl, rfl, rfl, by decide +kernel, rfl, by decide +kernel, by decide +kernel⟩
def PreTurned (bs : List Bool) : Prop := 0 < bs.length ∧ bs.length ≤ 1000
def spTurned (_ : PySem.W.Frag) : Sp := fun vs H Q _ => ∃ (bs : List Bool) (y : Int), vs = [.str (enc bs), .int y] ∧ PreTurned bs ∧ RetV (.str (enc (rot bs (y % (bs.length : Int)).toNat))) H Q
theorem spv_turned {K : PySem.W.Frag} {H : Hp} {bs : List Bool} {y : Int} (h : PreTurned bs) : SpV (spTurned K) [.str (enc bs), .int y] H (.str (enc (rot bs (y % (bs.length : Int)).toNat))) := fun _ _ _ q _ => ⟨bs, y, rfl, h, q⟩
section
variable {P : Program} {w : World} {K : PySem.W.Frag} {mg : Str → Option Value} {base : Heap}
theorem ok_turned (D : DefAt K mg "turned" sTurned) (B : Bn mg) (c_asked_ring : C8.Cal P w K mg base 4 "asked_ring" (spAskedRing K) []) (c_is_number : C8.Cal P w K mg base 1 "is_number" (spIsNumber K) []) : C8.Cal P w K mg base 5 "turned" (spTurned K) [] := by
  refine cal_of D (fun _ _ _ _ _ _ us hl => match us, hl with | [_, _], _ => rfl) scTurned (fun vs H Q E h => ?_) (fun f cdv A outer s H vs Q E hr h => ?_)
  · obtain ⟨bs, y, rfl, _⟩ := h
    rfl
  · obtain ⟨bs, y, rfl, ⟨h0, h1⟩, k⟩ := h
    refine ⟨_, (pss_cons (ps_expr (C8.pe_c c_asked_ring hr (by decide) (by rfl) (pa_cons (pv 0) pa_nil)))
      (pss_cons (ps_if (pt_not (pt_val (C8.pe_c c_is_number hr (by decide) (by rfl) (pa_cons (pv 1) pa_nil))))
      (pss_one ps_never)
      pss_nil)
      (pss_cons (ps_set (i := 2) scTurned.nd rfl (Or.inl rfl) (pe_op op_mod (pv 1) (pe_callB call_len_str (by rfl) B.len_ PySem.boot_len (pa_cons (pv 0) pa_nil))))
      (pss_one (ps_ret (pe_op op_add_str (pe_slice sl_str (pv 0) (po_some (pv 2)) po_none) (pe_slice sl_str (pv 0) po_none (po_some (pv 2))))))))), ?_⟩
    refine q_drop (ev_call (ea_cons (ev_var rfl) ea_nil) (spv_asked_ring (by walk_at "pre"))) fun H1 e1 => ?_
    refine q_when (et_not (et_B (ev_call (ea_cons (ev_var rfl) ea_nil) (spv_is_number (by walk_at "pre"))))) (fun hb => by cases hb) (fun _ H2 e2 => ?_)
    refine q_asg (ev_op (ev_var rfl) (ev_cb (ea_cons (ev_var rfl) ea_nil) (rc_lenS (by walk_at "sz"))) (rv_I (by walk_at "pos"))) fun H3 e3 => ?_
    have y0 := Int.emod_nonneg y (by omega : (bs.length : Int) ≠ 0)
    obtain ⟨n, hn⟩ := Int.eq_ofNat_of_zero_le y0
    have c1 := cutL_len bs (some (y % (bs.length : Int))) none
    have c2 := cutL_len bs none (some (y % (bs.length : Int)))
    refine s_ret (ev_eq (ev_op (ev_slS (ev_var rfl) (eo_some (ev_var rfl)) eo_none (by walk_at "sz")) (ev_slS (ev_var rfl) eo_none (eo_some (ev_var rfl)) (by walk_at "sz")) (rv_catS (by walk_at "sz") (by walk_at "sz"))) ?_) fun H4 e4 => k.go (((e1.trans e2).trans e3).trans e4)
    rw [hn, cutL_from, cutL_to]
    rfl
end
end Eb
/-! ### == of lists of numbers, of truth values, of rows -/
namespace Eb
open PySem PySem.Spec PyProof.Rows L2 TL Evl
structure FlatE {α : Type} [DecidableEq α] (f : α → V) (g : α → PyData) : Prop where
  dp : ∀ (K : PySem.W.Frag) (H : Hp) (a : α), Dp K H (f a) (g a)
  can : ∀ a, (g a).canLay0 = true
  dep : ∀ a, (g a).depth = 0
  eq : ∀ a b, PyData.eqv (g a) (g b) = decide (a = b)
theorem fe_int : FlatE V.int PyData.int := ⟨fun _ _ a => .int a, fun a => by rw [PyData.canLay0], fun a => by rw [PyData.depth], fun a b => by
  rw [PyData.eqv]
  rfl⟩
theorem fe_bool : FlatE V.bl PyData.bool := ⟨fun _ _ a => .bl a, fun a => by rw [PyData.canLay0], fun a => by rw [PyData.depth], fun a b => by
  rw [PyData.eqv]
  cases a <;> cases b <;> rfl⟩
theorem strok_enc (bs : List Bool) : PyData.strOk (enc bs) = true := by
  unfold PyData.strOk
  rw [← Array.all_toList, cps_enc, List.all_eq_true]
  intro c hc
  obtain ⟨b, _, rfl⟩ := List.mem_map.mp hc
  cases b <;> decide
theorem fe_row : FlatE (fun l : List Bool => V.str (enc l)) (fun l => PyData.str (enc l)) := ⟨fun _ _ a => .str _, fun a => by
  rw [PyData.canLay0]
  exact strok_enc a, fun a => by rw [PyData.depth], fun a b => by
  rw [PyData.eqv]
  by_cases h : a = b
  · subst h
    rw [decide_eq_true rfl]
    exact beq_self_eq_true _
  · rw [decide_eq_false h]
    exact beq_eq_false_iff_ne.mpr fun q => h (enc_inj q)⟩
section
variable {α : Type} [DecidableEq α] {f : α → V} {g : α → PyData} {K : PySem.W.Frag} {σ : L2.St} {H : Hp} {ta tb : TE}
theorem FlatE.all (F : FlatE f g) : ∀ xs : List α, DpAll K H (xs.map f) (xs.map g)
  | [] => .nil
  | a :: r => .cons (F.dp K H a) (F.all r)
theorem FlatE.canAll (F : FlatE f g) : ∀ xs : List α, PyData.canLayAll0 (xs.map g) = true
  | [] => by rw [List.map_nil, PyData.canLayAll0]
  | a :: r => by
    rw [List.map_cons, PyData.canLayAll0, F.can a, F.canAll r]
    rfl
theorem FlatE.depAll (F : FlatE f g) : ∀ xs : List α, PyData.depthAll (xs.map g) = 0
  | [] => by rw [List.map_nil, PyData.depthAll]
  | a :: r => by
    rw [List.map_cons, PyData.depthAll, F.dep a, F.depAll r]
    rfl
theorem FlatE.eqAll (F : FlatE f g) : ∀ xs ys : List α, PyData.eqvAll (xs.map g) (ys.map g) = decide (xs = ys)
  | [], [] => by
    rw [List.map_nil, PyData.eqvAll]
    rfl
  | [], _ :: _ => by
    rw [List.map_nil, List.map_cons, PyData.eqvAll]
    rfl
  | _ :: _, [] => by
    rw [List.map_nil, List.map_cons, PyData.eqvAll]
    rfl
  | a :: r, b :: t => by
    rw [List.map_cons, List.map_cons, PyData.eqvAll, F.eq a b, F.eqAll r t]
    by_cases h1 : a = b
    · subst h1
      by_cases h2 : r = t
      · subst h2
        simp
      · simp [h2]
    · simp [h1]
theorem FlatE.shapedL (F : FlatE f g) (xs : List α) : SeqAt.shaped (.list (xs.map g)) = true := by
  unfold SeqAt.shaped
  rw [PyData.canLay0, F.canAll xs, PyData.depth, F.depAll xs]
  rfl
theorem FlatE.shapedT (F : FlatE f g) (xs : List α) : SeqAt.shaped (.tuple (xs.map g)) = true := by
  unfold SeqAt.shaped
  rw [PyData.canLay0, F.canAll xs, PyData.depth, F.depAll xs]
  rfl
theorem rv_eqLst (F : FlatE f g) {p q : Addr} {xs ys : List α} (hx : SqL K H p (xs.map f)) (hy : SqL K H q (ys.map f)) : RV (rEqD K) (.ref p) (.ref q) H (.bl (decide (xs = ys))) := fun H1 e _ k =>
  ⟨.list (xs.map g), .list (ys.map g), .lst (ex_l e hx) (F.all xs), .lst (ex_l e hy) (F.all ys), F.shapedL xs, F.shapedL ys, by
    rw [PyData.eqv, F.eqAll]
    exact k H1 (Ex.refl H1)⟩
theorem rv_neLst (F : FlatE f g) {p q : Addr} {xs ys : List α} (hx : SqL K H p (xs.map f)) (hy : SqL K H q (ys.map f)) : RV (rNeD K) (.ref p) (.ref q) H (.bl (!decide (xs = ys))) := fun H1 e _ k =>
  ⟨.list (xs.map g), .list (ys.map g), .lst (ex_l e hx) (F.all xs), .lst (ex_l e hy) (F.all ys), F.shapedL xs, F.shapedL ys, by
    rw [PyData.eqv, F.eqAll]
    exact k H1 (Ex.refl H1)⟩
theorem rv_eqTup (F : FlatE f g) {p q : Addr} {xs ys : List α} (hx : SqT K H p (xs.map f)) (hy : SqT K H q (ys.map f)) : RV (rEqD K) (.ref p) (.ref q) H (.bl (decide (xs = ys))) := fun H1 e _ k =>
  ⟨.tuple (xs.map g), .tuple (ys.map g), .tup (ex_t e hx) (F.all xs), .tup (ex_t e hy) (F.all ys), F.shapedT xs, F.shapedT ys, by
    rw [PyData.eqv, F.eqAll]
    exact k H1 (Ex.refl H1)⟩
theorem rv_neTup (F : FlatE f g) {p q : Addr} {xs ys : List α} (hx : SqT K H p (xs.map f)) (hy : SqT K H q (ys.map f)) : RV (rNeD K) (.ref p) (.ref q) H (.bl (!decide (xs = ys))) := fun H1 e _ k =>
  ⟨.tuple (xs.map g), .tuple (ys.map g), .tup (ex_t e hx) (F.all xs), .tup (ex_t e hy) (F.all ys), F.shapedT xs, F.shapedT ys, by
    rw [PyData.eqv, F.eqAll]
    exact k H1 (Ex.refl H1)⟩
end
/-- xs == [] -/
theorem ev_eqLE {K : PySem.W.Frag} {σ : L2.St} {H : Hp} {ta : TE} {p : Addr} {ns : List Int} (h : Ev ta σ H (.ref p)) (hx : SqL K H p (ns.map V.int)) : Ev (tOp (rEqD K) ta (tLst tNil)) σ H (.bl (decide (ns = []))) :=
  ev_opL h (el_lst ea_nil (by decide)) fun q H1 hq e => rv_eqLst fe_int (ex_l e hx) (ys := []) (sq_of hq)
end Eb
namespace Eb
open PySem PySem.Spec PyProof.Rows L2 TL Evl
abbrev sLaw : Stmt := topS 31
theorem scLaw : FnScope ["_law_script", "_law_ring", "_law_many", "_law_mixed", "_law_due", "_law_other", "_law_back", "_law_at", "_law_some", "_law_by"] ["_law_script"] (defScope sLaw) := ⟨rfl, rfl, rfl, by decide +kernel, rfl, by decide +kernel, by decide +kernel⟩
def spLaw (K : PySem.W.Frag) : Sp := fun vs H Q _ => ∃ (a : Addr) (ns : List Int), vs = [.ref a] ∧ SqL K H a (ns.map V.int) ∧ ns.length ≤ 63 ∧ (∀ z ∈ ns, Builtin.Int.intBits z ≤ 1048576) ∧ ∀ H', Q (.bl true) H'
theorem isEv_eq {a b : List Bool} (ha : 0 < a.length) (hb : 0 < b.length) (h : Flat a ↔ Flat b) : isEv a = isEv b := by
  have h1 := isEv_flat ha
  have h2 := isEv_flat hb
  rw [Bool.eq_iff_iff, h1, h2]
  exact h
theorem flip_len (bs : List Bool) : (flip bs).length = bs.length := by
  unfold flip
  rw [List.length_map]
section
variable {P : Program} {w : World} {K : PySem.W.Frag} {mg : Str → Option Value} {base : Heap}
variable {cAnswer cEven cApart : Addr}
theorem ok_law {f : Addr} {fd : FuncData} (F : Fun K "law" "law" sLaw f fd) (Z : Cz K mg cAnswer cEven cApart) (B : Bn mg) (c__law_drawn : C8.Cal P w K mg base 2 "_law_drawn" (spLawDrawn K) []) (c__law_is_even : C8.Cal P w K mg base 2 "_law_is_even" (spLawIsEven K) []) (c_even : C8.Cal P w K mg base 5 "even" (spEvenC cEven cApart) []) (c_turned : C8.Cal P w K mg base 5 "turned" (spTurned K) []) (c_exchanged : C8.Cal P w K mg base 5 "exchanged" (spExchanged K) []) (c_about : C8.Cal P w K mg base 5 "about" (spAbout K) []) : FnOk P w K mg base CX0 6 f fd ["_law_script"] (spLaw K) := by
  refine F.ok scLaw (fun vs H Q E h => ?_) (fun cdv A outer s H vs Q E hr h => ?_)
  · obtain ⟨a, ns, rfl, _⟩ := h
    rfl
  · obtain ⟨a, ns, rfl, hS, hl, hbits, k⟩ := h
    refine ⟨_, (pss_cons (ps_if (pt_cmpR (op_eqD (hu64 hr)) (pv 0) (pe_lst pa_nil) (nomark _))
      (pss_one (ps_ret pe_bl))
      pss_nil)
      (pss_cons (ps_set (i := 1) scLaw.nd rfl (Or.inr rfl) (C8.pe_c c__law_drawn hr (by decide) (by rfl) (pa_cons (pv 0) pa_nil)))
      (pss_cons (ps_set (i := 2) scLaw.nd rfl (Or.inr rfl) (pe_callB call_len_str (by rfl) B.len_ PySem.boot_len (pa_cons (pv 1) pa_nil)))
      (pss_cons (ps_set (i := 3) scLaw.nd rfl (Or.inl rfl) (pe_callB (cr_sum rfl) (by rfl) B.sum_ (by decide +kernel) (pa_cons (pv 0) pa_nil)))
      (pss_cons (ps_set (i := 4) scLaw.nd rfl (Or.inl rfl) (C8.pe_c c__law_is_even hr (by decide) (by rfl) (pa_cons (pv 1) pa_nil)))
      (pss_cons (ps_set (i := 5) scLaw.nd rfl (Or.inl rfl) (C8.pe_c c_exchanged hr (by decide) (by rfl) (pa_cons (pv 1) pa_nil)))
      (pss_cons (ps_set (i := 6) scLaw.nd rfl (Or.inl rfl) (C8.pe_c c_about hr (by decide) (by rfl) (pa_cons (pv 1) pa_nil)))
      (pss_cons (ps_if (PW.pt (pw_or (pt_not (pt_val (pe_callB (call_isiK1 (K := K) rfl) (by rfl) B.isinstance_ (by decide +kernel) (pa_cons (pv 5) (pa_cons (pe_bltn (v := .ty "str") (by rfl) B.str_ (by decide +kernel) rfl) pa_nil))))) (pw_or (pt_not (pt_val (pe_callB (call_isiK1 (K := K) rfl) (by rfl) B.isinstance_ (by decide +kernel) (pa_cons (pv 6) (pa_cons (pe_bltn (v := .ty "str") (by rfl) B.str_ (by decide +kernel) rfl) pa_nil))))) (pw_or (pt_cmp (pc_neI (pe_callB call_len_str (by rfl) B.len_ PySem.boot_len (pa_cons (pv 5) pa_nil)) (pv 2))) (pw_or1 (pt_cmp (pc_neI (pe_callB call_len_str (by rfl) B.len_ PySem.boot_len (pa_cons (pv 6) pa_nil)) (pv 2))))))))
      (pss_one (ps_ret pe_bl))
      pss_nil)
      (pss_cons (ps_for PassesOwn.never rfl (pi_range1 rfl B.range_ (pa_cons (pv 2) pa_nil)) (pg_name (i := 7) scLaw.nd rfl (Or.inl rfl))
      (pss_one (ps_if (PW.pt (pw_or (pt_cmpR op_ne (pe_ix ix_str (pv 5) (pv 7) (fun _ _ => rfl)) (pe_dget (hu1 hr) (pe_disp (pps_cons pe_sx pe_sd (pps_cons pe_sd pe_sx pps_nil)) (by rfl) (by rfl) (fun z => by cases z) (by decide)) (pe_ix ix_str (pv 1) (pv 7) (fun _ _ => rfl)) (fun _ _ => rfl)) (nomark _)) (pw_or1 (pt_cmpR op_ne (pe_ix ix_str (pv 6) (pv 7) (fun _ _ => rfl)) (pe_ix ix_str (pv 1) (pe_op op_sub (pe_op op_sub (pv 2) pe_int) (pv 7)) (fun _ _ => rfl)) (nomark _)))))
      (pss_one (ps_ret pe_bl))
      pss_nil)))
      (pss_cons (ps_for PassesOwn.never rfl (pi_list (pe_lst (pa_cons (pv 1) (pa_cons (pv 5) (pa_cons (pv 6) pa_nil))))) (pg_name (i := 8) scLaw.nd rfl (Or.inl rfl))
      (pss_one (ps_if (pt_cmpR op_ne (pe_callB (call_isiK1 (K := K) rfl) (by rfl) B.isinstance_ (by decide +kernel) (pa_cons (C8.pe_c c_even hr (by decide) (by rfl) (pa_cons (pv 8) pa_nil)) (pa_cons (C8.pe_gc (v := .ref cEven) rfl ⟨_, Z.m_Even, rfl⟩) pa_nil))) (pv 4) (nomark _))
      (pss_one (ps_ret pe_bl))
      pss_nil)))
      (pss_cons (ps_for PassesOwn.never rfl (pi_list (pe_lst (pa_cons (pv 3) (pa_cons pe_int (pa_cons (pe_un un_neg pe_int) (pa_cons (pv 2) (pa_cons (pe_ix (ix_listK (K := K) rfl) (pv 0) pe_int (fun _ _ => rfl)) (pa_cons (pe_un un_neg (pe_ix (ix_listK (K := K) rfl) (pv 0) (pe_un un_neg pe_int) (fun _ _ => rfl))) pa_nil)))))))) (pg_name (i := 9) scLaw.nd rfl (Or.inr rfl))
      (pss_cons (ps_set (i := 8) scLaw.nd rfl (Or.inl rfl) (C8.pe_c c_turned hr (by decide) (by rfl) (pa_cons (pv 1) (pa_cons (pv 9) pa_nil))))
      (pss_cons (ps_if (PW.pt (pw_or (pt_not (pt_val (pe_callB (call_isiK1 (K := K) rfl) (by rfl) B.isinstance_ (by decide +kernel) (pa_cons (pv 8) (pa_cons (pe_bltn (v := .ty "str") (by rfl) B.str_ (by decide +kernel) rfl) pa_nil))))) (pw_or1 (pt_cmpR op_ne (pv 8) (pe_join pe_s0 (pe_lc (own := [("_law_at", 7)]) (g := gName 7) rfl scLaw.nd (pi_range1 rfl B.range_ (pa_cons (pv 2) pa_nil)) (blkOk_by (own := [("_law_at", 7)]) (N := ["_law_script", "_law_ring", "_law_many", "_law_mixed", "_law_due", "_law_other", "_law_back", "_law_at", "_law_some", "_law_by"]) (sc := defScope sLaw) (by decide +kernel)) (fun _ _ _ _ _ => (pg_name (i := 7) scLaw.nd rfl (Or.inl rfl))) (fun _ _ _ _ _ => pts_nil) (fun _ _ _ _ _ => (pe_ix ix_str (pv 1) (pe_op op_mod (pe_op op_add (pv 7) (pv 9)) (pv 2)) (fun _ _ => rfl))))) (nomark _)))))
      (pss_one (ps_ret pe_bl))
      pss_nil)
      (pss_one (ps_if (PW.pt (pw_or (pt_cmpR op_ne (pe_callB (call_isiK1 (K := K) rfl) (by rfl) B.isinstance_ (by decide +kernel) (pa_cons (C8.pe_c c_even hr (by decide) (by rfl) (pa_cons (pv 8) pa_nil)) (pa_cons (C8.pe_gc (v := .ref cEven) rfl ⟨_, Z.m_Even, rfl⟩) pa_nil))) (pv 4) (nomark _)) (pw_or1 (pt_cmpR op_ne (C8.pe_c c_turned hr (by decide) (by rfl) (pa_cons (pv 8) (pa_cons (pe_un un_neg (pv 9)) pa_nil))) (pv 1) (nomark _)))))
      (pss_one (ps_ret pe_bl))
      pss_nil)))))
      (pss_one (ps_ret pe_bl))))))))))))), ?_⟩
    refine q_when (et_test (ev_eqLE (ev_var rfl) hS)) (fun _ H1 e1 => s_ret ev_c fun H2 _ => k H2) (fun hb H1 e1 => ?_)
    replace hS := ex_l e1 hS
    have h0 : 0 < ns.length := by
      have := of_decide_eq_false hb
      cases ns with
      | nil => exact absurd rfl this
      | cons a r => exact Nat.succ_pos _
    refine q_asgC (ea_cons (ev_var rfl) ea_nil) fun H2 e2 => ⟨a, ns, rfl, ex_l e2 hS, ⟨h0, hl⟩, fun bs H3 hbl e3 => ?_⟩
    replace hS := ex_l (e2.trans e3) hS
    have hfl := flip_len bs
    have hrl : bs.reverse.length = bs.length := List.length_reverse
    refine q_asg (ev_cb (ea_cons (ev_var rfl) ea_nil) (rc_lenS (by walk_at "sz"))) fun H4 e4 => ?_
    replace hS := ex_l e4 hS
    refine q_asg (ev_cb (ea_cons (ev_var rfl) ea_nil) (rc_sum (by walk_at "lst"))) fun H5 e5 => ?_
    replace hS := ex_l e5 hS
    generalize ns.sum = mixed
    refine q_asg (ev_call (ea_cons (ev_var rfl) ea_nil) (spv__law_is_even (by walk_at "pre"))) fun H6 e6 => ?_
    refine q_asg (ev_call (ea_cons (ev_var rfl) ea_nil) (spv_exchanged (by walk_at "pre"))) fun H7 e7 => ?_
    refine q_asg (ev_call (ea_cons (ev_var rfl) ea_nil) (spv_about (by walk_at "pre"))) fun H8 e8 => ?_
    refine q_when (et_or (et_not (et_B (ev_cb (ea_cons (ev_var rfl) (ea_cons ev_c ea_nil)) (rc_isiS (b := true) (by decide +kernel))))) (fun hb => (et_or (et_not (et_B (ev_cb (ea_cons (ev_var rfl) (ea_cons ev_c ea_nil)) (rc_isiS (b := true) (by decide +kernel))))) (fun hb => (et_or (et_B (ev_cmp (ev_cb (ea_cons (ev_var rfl) ea_nil) (rc_lenS (by walk_at "sz"))) (ev_var rfl))) (fun hb => (et_B (ev_cmp (ev_cb (ea_cons (ev_var rfl) ea_nil) (rc_lenS (by walk_at "sz"))) (ev_var rfl))))))))) (fun hb => by
      exfalso
      rw [hfl, hrl] at hb
      simp at hb) (fun _ H9 e9 => ?_)
    replace hS := ex_l (((e6.trans e7).trans e8).trans e9) hS
    -- place by place
    refine q_forR1 (ea_cons (ev_var rfl) ea_nil) ⟨by omega, by omega⟩ (fun i σ' H' => ∃ z1 z2 z3, σ' = [some (.ref a), some (.str (enc bs)), some (.int (bs.length : Int)), some (.int mixed), some (.bl (isEv bs)), some (.str (enc (flip bs))), some (.str (enc bs.reverse)), z1, z2, z3] ∧ Ex H9 H')
      (fun H10 e10 => ⟨none, none, none, rfl, e10⟩) (fun i σ' H' hi hp => ?_) (fun σ' H' hp => ?_)
    · obtain ⟨z1, z2, z3, rfl, ex⟩ := hp
      refine s_when (et_or (et_test (ev_op (ev_op (ev_var rfl) (ev_var rfl) (rv_ixSg (by walk_at "sz") (by walk_at "ix") (by walk_at "ix"))) (ev_dict2 ev_c ev_c (ev_op (ev_var rfl) (ev_var rfl) (rv_ixSg (by walk_at "sz") (by walk_at "ix") (by walk_at "ix")))) rv_neS)) (fun hb => (et_test (ev_op (ev_op (ev_var rfl) (ev_var rfl) (rv_ixSg (by walk_at "sz") (by walk_at "ix") (by walk_at "ix"))) (ev_op (ev_var rfl) (ev_op (ev_op (ev_var rfl) ev_c rv_I0) (ev_var rfl) rv_I0) (rv_ixSg (by walk_at "sz") (by walk_at "ix") (by walk_at "ix"))) rv_neS)))) (fun hb => by
        exfalso
        have hi2 : i < bs.length := by omega
        have g1 : ((i : Int)).toNat = i := by omega
        have g2 : ((bs.length : Int) - 1 - (i : Int)).toNat = bs.length - 1 - i := by omega
        rw [g1, g2] at hb
        have f1 : (flip bs).getD i false = !bs.getD i false := by
          unfold flip
          rw [List.getD_eq_getElem?_getD, List.getElem?_map, List.getD_eq_getElem?_getD, List.getElem?_eq_getElem hi2]
          rfl
        have f2 : bs.reverse.getD i false = bs.getD (bs.length - 1 - i) false := by
          rw [List.getD_eq_getElem?_getD, List.getElem?_reverse hi2, List.getD_eq_getElem?_getD]
        rw [f1, f2] at hb
        revert hb
        generalize bs.getD i false = b1
        generalize bs.getD (bs.length - 1 - i) false = b2
        cases b1 <;> cases b2 <;> decide) (fun _ H10 e10 => ⟨_, _, _, rfl, ex.trans e10⟩)
    · obtain ⟨z1, z2, z3, rfl, ex⟩ := hp
      replace hS := ex_l ex hS
      have hE := fun {cs : List Bool} {t : TA} {σ' : L2.St} {H' : Hp} (ht : EvA t σ' H' [.str (enc cs)]) (h : 0 < cs.length ∧ cs.length ≤ 400) => ev_isEven (K := K) (E := E0) Z.k_Even Z.k_Apart Z.i_Even_Even Z.i_Apart_Even ht h
      -- the three
      refine q_forNLn (el_lst (ea_cons (ev_var rfl) (ea_cons (ev_var rfl) (ea_cons (ev_var rfl) ea_nil))) (by walk_at "sz")) (fun q i σ' H' => ∃ z1 z2 z3, σ' = [some (.ref a), some (.str (enc bs)), some (.int (bs.length : Int)), some (.int mixed), some (.bl (isEv bs)), some (.str (enc (flip bs))), some (.str (enc bs.reverse)), z1, z2, z3] ∧ SqL K H' a (ns.map V.int) ∧ SqL K H' q [.str (enc bs), .str (enc (flip bs)), .str (enc bs.reverse)])
        (fun q H10 _ e10 x10 => ⟨_, _, _, rfl, ex_l e10 hS, sq_of x10⟩) (fun q i σ' H' _ hp => by
          obtain ⟨_, _, _, _, _, hx⟩ := hp
          exact hx) (fun q i x σ' H' hi hp => ?_) (fun q σ' H' hp => ?_)
      · obtain ⟨z1, z2, z3, rfl, ha, hx⟩ := hp
        obtain ⟨cs, rfl, hcl, hcf⟩ : ∃ cs : List Bool, x = .str (enc cs) ∧ cs.length = bs.length ∧ (Flat cs ↔ Flat bs) := by
          match i, hi with
          | 0, hi => exact ⟨bs, (Option.some.inj hi).symm, rfl, Iff.rfl⟩
          | 1, hi => exact ⟨_, (Option.some.inj hi).symm, hfl, flat_flip_iff bs⟩
          | 2, hi => exact ⟨_, (Option.some.inj hi).symm, hrl, flat_rev_iff bs⟩
        have heq := isEv_eq (a := cs) (b := bs) (by omega) (by omega) hcf
        refine s_when (et_test (ev_op (hE (ea_cons (ev_var rfl) ea_nil) (by walk_at "pre")) (ev_var rfl) rv_neB)) (fun hb => by
          exfalso
          rw [heq] at hb
          simp at hb) (fun _ H10 e10 => ⟨_, _, _, rfl, ex_l e10 ha, ex_l e10 hx⟩)
      · obtain ⟨z1, z2, z3, rfl, hS, _⟩ := hp
        -- turned
        refine q_forNLn (el_lst (ea_cons (ev_var rfl) (ea_cons ev_c (ea_cons (ev_un ev_c ru_neg) (ea_cons (ev_var rfl) (ea_cons (ev_op (ev_var rfl) ev_c (rv_ixLg (by walk_at "lst") (by walk_at "ix") (by walk_at "ix"))) (ea_cons (ev_un (ev_op (ev_var rfl) (ev_un ev_c ru_neg) (rv_ixLm (by walk_at "lst") (by walk_at "ix"))) ru_neg) ea_nil)))))) (by walk_at "sz")) (fun q i σ' H' => ∃ z1 z2 z3, σ' = [some (.ref a), some (.str (enc bs)), some (.int (bs.length : Int)), some (.int mixed), some (.bl (isEv bs)), some (.str (enc (flip bs))), some (.str (enc bs.reverse)), z1, z2, z3] ∧ SqL K H' q ([mixed, 1, -1, (bs.length : Int), ns.getD (0 : Int).toNat 0, -ns.getLast?.getD 0].map V.int))
          (fun q H10 _ e10 x10 => ⟨_, _, _, rfl, sq_of x10⟩) (fun q i σ' H' _ hp => by
            obtain ⟨_, _, _, _, hx⟩ := hp
            exact hx) (fun q i x σ' H' hi hp => ?_) (fun q σ' H' hp => ?_)
        · obtain ⟨z1, z2, z3, rfl, hx⟩ := hp
          have hi' : ([mixed, 1, -1, (bs.length : Int), ns.getD (0 : Int).toNat 0, -ns.getLast?.getD 0].map V.int)[i]? = some x := hi
          obtain ⟨y, _, rfl⟩ := List.mem_map.mp (List.mem_of_getElem? hi')
          have y0 := Int.emod_nonneg y (by omega : (bs.length : Int) ≠ 0)
          have y1 := Int.emod_lt_of_pos y (by omega : (0 : Int) < bs.length)
          have hrot := rot_len (bs := bs) (k := (y % (bs.length : Int)).toNat) (by omega)
          refine q_asg (ev_call (ea_cons (ev_var rfl) (ea_cons (ev_var rfl) ea_nil)) (spv_turned (by walk_at "pre"))) fun H10 e10 => ?_
          refine q_when (et_or (et_not (et_B (ev_cb (ea_cons (ev_var rfl) (ea_cons ev_c ea_nil)) (rc_isiS (b := true) (by decide +kernel))))) (fun hb => (et_test (ev_op (ev_var rfl) (ev_join1N ev_c (el_mapRi _ (ea_cons (ev_var rfl) ea_nil) (by walk_at "rg") (fun _ => rfl) (fun i9 H9 e9 h9 => Ev.mono e9 (ev_op (ev_var rfl) (ev_op (ev_op (ev_var rfl) (ev_var rfl) rv_I0) (ev_var rfl) (rv_I (by walk_at "pos"))) (rv_ixSm (by walk_at "sz") (by walk_at "pos") (by walk_at "ix"))))) (by walk_at "sz")) rv_neS)))) (fun hb => by
            exfalso
            rw [Int.toNat_natCast, ← rot_eq (by omega) y] at hb
            simp at hb) (fun _ H11 e11 => ?_)
          have heq := isEv_eq (a := rot bs (y % (bs.length : Int)).toNat) (b := bs) (by omega) (by omega) (flat_rot_iff (by omega))
          have hback := rot_back (bs := bs) (by omega) y
          refine s_when (et_or (et_test (ev_op (hE (ea_cons (ev_var rfl) ea_nil) (by walk_at "pre")) (ev_var rfl) rv_neB)) (fun hb => (et_test (ev_op (ev_call (ea_cons (ev_var rfl) (ea_cons (ev_un (ev_var rfl) ru_neg) ea_nil)) (spv_turned (by walk_at "pre"))) (ev_var rfl) rv_neS)))) (fun hb => by
            exfalso
            rw [heq, hrot, hback] at hb
            simp at hb) (fun _ H12 e12 => ⟨_, _, _, rfl, ex_l ((e10.trans e11).trans e12) hx⟩)
        · obtain ⟨z1, z2, z3, rfl, _⟩ := hp
          exact s_ret ev_c fun H10 _ => k H10
end
end Eb
namespace Eb
open PySem PySem.Spec PyProof.Rows L2 TL Evl
theorem all_mk {l : PySem.W.OpenLaw} {w : World} {K : PySem.W.Frag} {h : Heap} {mg : Str → Option Value} {fa : Addr} (X : K.In h) (G : h.Ns mainGlobals mg) (hfa : mg "law" = some (.ref fa))
    {f1 : Addr} {od1 an1 : Option Addr} {sl1 : Array (Option Value)} {oc1 kV1 dc1 pm1 cd1 ct1 : Value}
    {f2 : Addr} {od2 an2 : Option Addr} {sl2 : Array (Option Value)} {oc2 kV2 dc2 pm2 cd2 ct2 : Value}
    {f3 : Addr} {od3 an3 : Option Addr} {sl3 : Array (Option Value)} {oc3 kV3 dc3 pm3 cd3 ct3 : Value}
    {f4 : Addr} {od4 an4 : Option Addr} {sl4 : Array (Option Value)} {oc4 kV4 dc4 pm4 cd4 ct4 : Value}
    {f5 : Addr} {od5 an5 : Option Addr} {sl5 : Array (Option Value)} {oc5 kV5 dc5 pm5 cd5 ct5 : Value}
    {f6 : Addr} {od6 an6 : Option Addr} {sl6 : Array (Option Value)} {oc6 kV6 dc6 pm6 cd6 ct6 : Value}
    {f7 : Addr} {od7 an7 : Option Addr} {sl7 : Array (Option Value)} {oc7 kV7 dc7 pm7 cd7 ct7 : Value}
    {f8 : Addr} {od8 an8 : Option Addr} {sl8 : Array (Option Value)} {oc8 kV8 dc8 pm8 cd8 ct8 : Value}
    {f9 : Addr} {od9 an9 : Option Addr} {sl9 : Array (Option Value)} {oc9 kV9 dc9 pm9 cd9 ct9 : Value}
    {f10 : Addr} {od10 an10 : Option Addr} {sl10 : Array (Option Value)} {oc10 kV10 dc10 pm10 cd10 ct10 : Value}
    {f11 : Addr} {od11 an11 : Option Addr} {sl11 : Array (Option Value)} {oc11 kV11 dc11 pm11 cd11 ct11 : Value}
    {f12 : Addr} {od12 an12 : Option Addr} {sl12 : Array (Option Value)} {oc12 kV12 dc12 pm12 cd12 ct12 : Value}
    {f13 : Addr} {od13 an13 : Option Addr} {sl13 : Array (Option Value)} {oc13 kV13 dc13 pm13 cd13 ct13 : Value}
    {f14 : Addr} {od14 an14 : Option Addr} {sl14 : Array (Option Value)} {oc14 kV14 dc14 pm14 cd14 ct14 : Value}
    {f15 : Addr} {od15 an15 : Option Addr} {sl15 : Array (Option Value)} {oc15 kV15 dc15 pm15 cd15 ct15 : Value}
    {f16 : Addr} {od16 an16 : Option Addr} {sl16 : Array (Option Value)} {oc16 kV16 dc16 pm16 cd16 ct16 : Value}
    {f17 : Addr} {od17 an17 : Option Addr} {sl17 : Array (Option Value)} {oc17 kV17 dc17 pm17 cd17 ct17 : Value}
    {f18 : Addr} {od18 an18 : Option Addr} {sl18 : Array (Option Value)} {oc18 kV18 dc18 pm18 cd18 ct18 : Value}
    {cAnswer : Addr}
    {cEven : Addr}
    {cApart : Addr}
    {f_Even_init : Addr} {od_Even_init an_Even_init : Option Addr} {sl_Even_init : Array (Option Value)} {oc_Even_init kV_Even_init dc_Even_init pm_Even_init cd_Even_init ct_Even_init : Value}
    {f_Apart_init : Addr} {od_Apart_init an_Apart_init : Option Addr} {sl_Apart_init : Array (Option Value)} {oc_Apart_init kV_Apart_init dc_Apart_init pm_Apart_init cd_Apart_init ct_Apart_init : Value}
    {tb tr : Tok}
    (a1 : PySem.W.nsIn K mainGlobals "is_number" = some (some (.ref f1))) (l1 : K.lookup f1 = some ⟨oc1, od1, .func (PySem.W.fnOf "is_number" "is_number" (defArgs sIsNumber) (defBody sIsNumber) (defScope sIsNumber) .none kV1 dc1 pm1 an1 cd1 ct1), sl1⟩) (c1 : PySem.W.codeIn K cd1 "is_number" = true) (k1 : PySem.W.keepIn K (.ref f1) = true)
    (a2 : PySem.W.nsIn K mainGlobals "asked_row" = some (some (.ref f2))) (l2 : K.lookup f2 = some ⟨oc2, od2, .func (PySem.W.fnOf "asked_row" "asked_row" (defArgs sAskedRow) (defBody sAskedRow) (defScope sAskedRow) .none kV2 dc2 pm2 an2 cd2 ct2), sl2⟩) (c2 : PySem.W.codeIn K cd2 "asked_row" = true) (k2 : PySem.W.keepIn K (.ref f2) = true)
    (a3 : PySem.W.nsIn K mainGlobals "asked_ring" = some (some (.ref f3))) (l3 : K.lookup f3 = some ⟨oc3, od3, .func (PySem.W.fnOf "asked_ring" "asked_ring" (defArgs sAskedRing) (defBody sAskedRing) (defScope sAskedRing) .none kV3 dc3 pm3 an3 cd3 ct3), sl3⟩) (c3 : PySem.W.codeIn K cd3 "asked_ring" = true) (k3 : PySem.W.keepIn K (.ref f3) = true)
    (a4 : PySem.W.nsIn K mainGlobals "reckoned_places" = some (some (.ref f4))) (l4 : K.lookup f4 = some ⟨oc4, od4, .func (PySem.W.fnOf "reckoned_places" "reckoned_places" (defArgs sReckonedPlaces) (defBody sReckonedPlaces) (defScope sReckonedPlaces) .none kV4 dc4 pm4 an4 cd4 ct4), sl4⟩) (c4 : PySem.W.codeIn K cd4 "reckoned_places" = true) (k4 : PySem.W.keepIn K (.ref f4) = true)
    (a5 : PySem.W.nsIn K mainGlobals "reckoned" = some (some (.ref f5))) (l5 : K.lookup f5 = some ⟨oc5, od5, .func (PySem.W.fnOf "reckoned" "reckoned" (defArgs sReckoned) (defBody sReckoned) (defScope sReckoned) .none kV5 dc5 pm5 an5 cd5 ct5), sl5⟩) (c5 : PySem.W.codeIn K cd5 "reckoned" = true) (k5 : PySem.W.keepIn K (.ref f5) = true)
    (a6 : PySem.W.nsIn K mainGlobals "laid" = some (some (.ref f6))) (l6 : K.lookup f6 = some ⟨oc6, od6, .func (PySem.W.fnOf "laid" "laid" (defArgs sLaid) (defBody sLaid) (defScope sLaid) .none kV6 dc6 pm6 an6 cd6 ct6), sl6⟩) (c6 : PySem.W.codeIn K cd6 "laid" = true) (k6 : PySem.W.keepIn K (.ref f6) = true)
    (a7 : PySem.W.nsIn K mainGlobals "turned" = some (some (.ref f7))) (l7 : K.lookup f7 = some ⟨oc7, od7, .func (PySem.W.fnOf "turned" "turned" (defArgs sTurned) (defBody sTurned) (defScope sTurned) .none kV7 dc7 pm7 an7 cd7 ct7), sl7⟩) (c7 : PySem.W.codeIn K cd7 "turned" = true) (k7 : PySem.W.keepIn K (.ref f7) = true)
    (a8 : PySem.W.nsIn K mainGlobals "exchanged" = some (some (.ref f8))) (l8 : K.lookup f8 = some ⟨oc8, od8, .func (PySem.W.fnOf "exchanged" "exchanged" (defArgs sExchanged) (defBody sExchanged) (defScope sExchanged) .none kV8 dc8 pm8 an8 cd8 ct8), sl8⟩) (c8 : PySem.W.codeIn K cd8 "exchanged" = true) (k8 : PySem.W.keepIn K (.ref f8) = true)
    (a9 : PySem.W.nsIn K mainGlobals "about" = some (some (.ref f9))) (l9 : K.lookup f9 = some ⟨oc9, od9, .func (PySem.W.fnOf "about" "about" (defArgs sAbout) (defBody sAbout) (defScope sAbout) .none kV9 dc9 pm9 an9 cd9 ct9), sl9⟩) (c9 : PySem.W.codeIn K cd9 "about" = true) (k9 : PySem.W.keepIn K (.ref f9) = true)
    (a10 : PySem.W.nsIn K mainGlobals "summed" = some (some (.ref f10))) (l10 : K.lookup f10 = some ⟨oc10, od10, .func (PySem.W.fnOf "summed" "summed" (defArgs sSummed) (defBody sSummed) (defScope sSummed) .none kV10 dc10 pm10 an10 cd10 ct10), sl10⟩) (c10 : PySem.W.codeIn K cd10 "summed" = true) (k10 : PySem.W.keepIn K (.ref f10) = true)
    (a11 : PySem.W.nsIn K mainGlobals "stretch_counts" = some (some (.ref f11))) (l11 : K.lookup f11 = some ⟨oc11, od11, .func (PySem.W.fnOf "stretch_counts" "stretch_counts" (defArgs sStretchCounts) (defBody sStretchCounts) (defScope sStretchCounts) .none kV11 dc11 pm11 an11 cd11 ct11), sl11⟩) (c11 : PySem.W.codeIn K cd11 "stretch_counts" = true) (k11 : PySem.W.keepIn K (.ref f11) = true)
    (a12 : PySem.W.nsIn K mainGlobals "apart" = some (some (.ref f12))) (l12 : K.lookup f12 = some ⟨oc12, od12, .func (PySem.W.fnOf "apart" "apart" (defArgs sApart) (defBody sApart) (defScope sApart) .none kV12 dc12 pm12 an12 cd12 ct12), sl12⟩) (c12 : PySem.W.codeIn K cd12 "apart" = true) (k12 : PySem.W.keepIn K (.ref f12) = true)
    (a13 : PySem.W.nsIn K mainGlobals "even" = some (some (.ref f13))) (l13 : K.lookup f13 = some ⟨oc13, od13, .func (PySem.W.fnOf "even" "even" (defArgs sEven) (defBody sEven) (defScope sEven) .none kV13 dc13 pm13 an13 cd13 ct13), sl13⟩) (c13 : PySem.W.codeIn K cd13 "even" = true) (k13 : PySem.W.keepIn K (.ref f13) = true)
    (a14 : PySem.W.nsIn K mainGlobals "_law_reckoned" = some (some (.ref f14))) (l14 : K.lookup f14 = some ⟨oc14, od14, .func (PySem.W.fnOf "_law_reckoned" "_law_reckoned" (defArgs sLawReckoned) (defBody sLawReckoned) (defScope sLawReckoned) .none kV14 dc14 pm14 an14 cd14 ct14), sl14⟩) (c14 : PySem.W.codeIn K cd14 "_law_reckoned" = true) (k14 : PySem.W.keepIn K (.ref f14) = true)
    (a15 : PySem.W.nsIn K mainGlobals "_law_drawn" = some (some (.ref f15))) (l15 : K.lookup f15 = some ⟨oc15, od15, .func (PySem.W.fnOf "_law_drawn" "_law_drawn" (defArgs sLawDrawn) (defBody sLawDrawn) (defScope sLawDrawn) .none kV15 dc15 pm15 an15 cd15 ct15), sl15⟩) (c15 : PySem.W.codeIn K cd15 "_law_drawn" = true) (k15 : PySem.W.keepIn K (.ref f15) = true)
    (a16 : PySem.W.nsIn K mainGlobals "_law_sums" = some (some (.ref f16))) (l16 : K.lookup f16 = some ⟨oc16, od16, .func (PySem.W.fnOf "_law_sums" "_law_sums" (defArgs sLawSums) (defBody sLawSums) (defScope sLawSums) .none kV16 dc16 pm16 an16 cd16 ct16), sl16⟩) (c16 : PySem.W.codeIn K cd16 "_law_sums" = true) (k16 : PySem.W.keepIn K (.ref f16) = true)
    (a17 : PySem.W.nsIn K mainGlobals "_law_is_even" = some (some (.ref f17))) (l17 : K.lookup f17 = some ⟨oc17, od17, .func (PySem.W.fnOf "_law_is_even" "_law_is_even" (defArgs sLawIsEven) (defBody sLawIsEven) (defScope sLawIsEven) .none kV17 dc17 pm17 an17 cd17 ct17), sl17⟩) (c17 : PySem.W.codeIn K cd17 "_law_is_even" = true) (k17 : PySem.W.keepIn K (.ref f17) = true)
    (a18 : PySem.W.nsIn K mainGlobals "law" = some (some (.ref f18))) (l18 : K.lookup f18 = some ⟨oc18, od18, .func (PySem.W.fnOf "law" "law" (defArgs sLaw) (defBody sLaw) (defScope sLaw) .none kV18 dc18 pm18 an18 cd18 ct18), sl18⟩) (c18 : PySem.W.codeIn K cd18 "law" = true) (k18 : PySem.W.keepIn K (.ref f18) = true)
    (g_Answer : PySem.W.nsIn K mainGlobals "Answer" = some (some (.ref cAnswer)))
    (g_Even : PySem.W.nsIn K mainGlobals "Even" = some (some (.ref cEven)))
    (g_Apart : PySem.W.nsIn K mainGlobals "Apart" = some (some (.ref cApart)))
    (pg_Even : PySem.W.plainGet K cEven Str.empty = true) (hd_Even : PySem.W.hasDictIn K cEven = true) (po_Even : PySem.W.plainOver K cEven = true) (sa_Even : PySem.W.findIn K (.ref cEven) "__setattr__" = some (some (.builtin "object.__setattr__"))) (ha_Even : PySem.W.findIn K (.ref cEven) "__class__" = some (some (.builtin "object.__class__"))) (hm_Even : PySem.W.mroIn K cEven (.type "object") = some true)
    (n_Even_turn : PySem.W.findIn K (.ref cEven) "turn" = some none)
    (i_Even_Answer : PySem.W.kitOne K (.ref cEven) (.ref cAnswer) = some true)
    (i_Even_Even : PySem.W.kitOne K (.ref cEven) (.ref cEven) = some true)
    (i_Even_Apart : PySem.W.kitOne K (.ref cEven) (.ref cApart) = some false)
    (pg_Apart : PySem.W.plainGet K cApart Str.empty = true) (hd_Apart : PySem.W.hasDictIn K cApart = true) (po_Apart : PySem.W.plainOver K cApart = true) (sa_Apart : PySem.W.findIn K (.ref cApart) "__setattr__" = some (some (.builtin "object.__setattr__"))) (ha_Apart : PySem.W.findIn K (.ref cApart) "__class__" = some (some (.builtin "object.__class__"))) (hm_Apart : PySem.W.mroIn K cApart (.type "object") = some true)
    (n_Apart_first : PySem.W.findIn K (.ref cApart) "first" = some none)
    (n_Apart_second : PySem.W.findIn K (.ref cApart) "second" = some none)
    (n_Apart_many : PySem.W.findIn K (.ref cApart) "many" = some none)
    (i_Apart_Answer : PySem.W.kitOne K (.ref cApart) (.ref cAnswer) = some true)
    (i_Apart_Even : PySem.W.kitOne K (.ref cApart) (.ref cEven) = some false)
    (i_Apart_Apart : PySem.W.kitOne K (.ref cApart) (.ref cApart) = some true)
    (hn_o : PySem.W.specialIn K (.builtin "object.__class__") "__get__" = some (some (.builtin "getset_descriptor.__get__"))) (ht_o : PySem.W.takesIn K (.builtin "object.__class__") = some true)
    (a_Even_init : PySem.W.findIn K (.ref cEven) "__init__" = some (some (.ref f_Even_init))) (b_Even_init : PySem.W.isFn K (.ref f_Even_init) = true) (l_Even_init : K.lookup f_Even_init = some ⟨oc_Even_init, od_Even_init, .func (PySem.W.fnOf "__init__" "Even.__init__" (defArgs sEvenInit) (defBody sEvenInit) (defScope sEvenInit) .none kV_Even_init dc_Even_init pm_Even_init an_Even_init cd_Even_init ct_Even_init), sl_Even_init⟩) (c_Even_init : PySem.W.codeIn K cd_Even_init "Even.__init__" = true) (k_Even_init : PySem.W.keepIn K (.ref f_Even_init) = true)
    (a_Apart_init : PySem.W.findIn K (.ref cApart) "__init__" = some (some (.ref f_Apart_init))) (b_Apart_init : PySem.W.isFn K (.ref f_Apart_init) = true) (l_Apart_init : K.lookup f_Apart_init = some ⟨oc_Apart_init, od_Apart_init, .func (PySem.W.fnOf "__init__" "Apart.__init__" (defArgs sApartInit) (defBody sApartInit) (defScope sApartInit) .none kV_Apart_init dc_Apart_init pm_Apart_init an_Apart_init cd_Apart_init ct_Apart_init), sl_Apart_init⟩) (c_Apart_init : PySem.W.codeIn K cd_Apart_init "Apart.__init__" = true) (k_Apart_init : PySem.W.keepIn K (.ref f_Apart_init) = true)
    (mk_Even : PySem.W.makesIn K cEven = true) (kc_Even : PySem.W.keepIn K (.ref cEven) = true)
    (mk_Apart : PySem.W.makesIn K cApart = true) (kc_Apart : PySem.W.keepIn K (.ref cApart) = true)
    (z_len : PySem.W.nsIn K mainGlobals "len" = some none)
    (z_range : PySem.W.nsIn K mainGlobals "range" = some none)
    (z_max : PySem.W.nsIn K mainGlobals "max" = some none)
    (z_min : PySem.W.nsIn K mainGlobals "min" = some none)
    (z_isinstance : PySem.W.nsIn K mainGlobals "isinstance" = some none)
    (z_sum : PySem.W.nsIn K mainGlobals "sum" = some none)
    (z_any : PySem.W.nsIn K mainGlobals "any" = some none)
    (z_all : PySem.W.nsIn K mainGlobals "all" = some none)
    (z_int : PySem.W.nsIn K mainGlobals "int" = some none)
    (z_str : PySem.W.nsIn K mainGlobals "str" = some none)
    (z_bool : PySem.W.nsIn K mainGlobals "bool" = some none)
    (z_list : PySem.W.nsIn K mainGlobals "list" = some none)
    (z_enumerate : PySem.W.nsIn K mainGlobals "enumerate" = some none)
    (gB : PySem.W.nsIn K mainGlobals "BEAT" = some (some (.str "x" tb))) (gR : PySem.W.nsIn K mainGlobals "REST" = some (some (.str "." tr))) :
    ∃ fd : FuncData, (∀ (s : Shared) (v : Value), BindsTo s fd ⟨[v], []⟩ [("_law_script", v)]) ∧ ∀ base : Heap, K.In base → base.Ns mainGlobals mg → FnOk l.prog w K mg base CX0 6 fa fd ["_law_script"] (spLaw K) := by
  have e := hfa.symm.trans (PySem.W.mg_of X G a18)
  cases e
  have B : Bn mg := ⟨PySem.W.mg_none_of X G z_len, PySem.W.mg_none_of X G z_range, PySem.W.mg_none_of X G z_max, PySem.W.mg_none_of X G z_min, PySem.W.mg_none_of X G z_isinstance, PySem.W.mg_none_of X G z_sum, PySem.W.mg_none_of X G z_any, PySem.W.mg_none_of X G z_all, PySem.W.mg_none_of X G z_int, PySem.W.mg_none_of X G z_str, PySem.W.mg_none_of X G z_bool, PySem.W.mg_none_of X G z_list, PySem.W.mg_none_of X G z_enumerate⟩
  have T : Tx mg := ⟨⟨_, PySem.W.mg_of X G gB, tx_x⟩, ⟨_, PySem.W.mg_of X G gR, tx_d⟩⟩
  have D1 : DefAt K mg "is_number" sIsNumber := ⟨_, _, fun_mk l1 c1 k1, PySem.W.mg_of X G a1⟩
  have D2 : DefAt K mg "asked_row" sAskedRow := ⟨_, _, fun_mk l2 c2 k2, PySem.W.mg_of X G a2⟩
  have D3 : DefAt K mg "asked_ring" sAskedRing := ⟨_, _, fun_mk l3 c3 k3, PySem.W.mg_of X G a3⟩
  have D4 : DefAt K mg "reckoned_places" sReckonedPlaces := ⟨_, _, fun_mk l4 c4 k4, PySem.W.mg_of X G a4⟩
  have D5 : DefAt K mg "reckoned" sReckoned := ⟨_, _, fun_mk l5 c5 k5, PySem.W.mg_of X G a5⟩
  have D6 : DefAt K mg "laid" sLaid := ⟨_, _, fun_mk l6 c6 k6, PySem.W.mg_of X G a6⟩
  have D7 : DefAt K mg "turned" sTurned := ⟨_, _, fun_mk l7 c7 k7, PySem.W.mg_of X G a7⟩
  have D8 : DefAt K mg "exchanged" sExchanged := ⟨_, _, fun_mk l8 c8 k8, PySem.W.mg_of X G a8⟩
  have D9 : DefAt K mg "about" sAbout := ⟨_, _, fun_mk l9 c9 k9, PySem.W.mg_of X G a9⟩
  have D10 : DefAt K mg "summed" sSummed := ⟨_, _, fun_mk l10 c10 k10, PySem.W.mg_of X G a10⟩
  have D11 : DefAt K mg "stretch_counts" sStretchCounts := ⟨_, _, fun_mk l11 c11 k11, PySem.W.mg_of X G a11⟩
  have D12 : DefAt K mg "apart" sApart := ⟨_, _, fun_mk l12 c12 k12, PySem.W.mg_of X G a12⟩
  have D13 : DefAt K mg "even" sEven := ⟨_, _, fun_mk l13 c13 k13, PySem.W.mg_of X G a13⟩
  have D14 : DefAt K mg "_law_reckoned" sLawReckoned := ⟨_, _, fun_mk l14 c14 k14, PySem.W.mg_of X G a14⟩
  have D15 : DefAt K mg "_law_drawn" sLawDrawn := ⟨_, _, fun_mk l15 c15 k15, PySem.W.mg_of X G a15⟩
  have D16 : DefAt K mg "_law_sums" sLawSums := ⟨_, _, fun_mk l16 c16 k16, PySem.W.mg_of X G a16⟩
  have D17 : DefAt K mg "_law_is_even" sLawIsEven := ⟨_, _, fun_mk l17 c17 k17, PySem.W.mg_of X G a17⟩
  have Z : Cz K mg cAnswer cEven cApart := ⟨PySem.W.mg_of X G g_Answer, PySem.W.mg_of X G g_Even, PySem.W.mg_of X G g_Apart, ⟨⟨pg_Even, hd_Even, po_Even, sa_Even⟩, ha_Even, hn_o, ht_o, hm_Even⟩, n_Even_turn, i_Even_Answer, i_Even_Even, i_Even_Apart, ⟨⟨pg_Apart, hd_Apart, po_Apart, sa_Apart⟩, ha_Apart, hn_o, ht_o, hm_Apart⟩, n_Apart_first, n_Apart_second, n_Apart_many, i_Apart_Answer, i_Apart_Even, i_Apart_Apart⟩
  refine ⟨PySem.W.fnOf "law" "law" (defArgs sLaw) (defBody sLaw) (defScope sLaw) .none kV18 dc18 pm18 an18 cd18 ct18, fun s v => .of_eq rfl, fun base _ _ => ?_⟩
  have k_Even : C8.Mak l.prog w K mg base 1 "Even" cEven (spI cEven ["turn"]) [] := ok_Even_init ⟨_, _, fun_mk l_Even_init c_Even_init k_Even_init, ⟨mk_Even, a_Even_init, b_Even_init, kc_Even⟩⟩ Z
  have k_Apart : C8.Mak l.prog w K mg base 1 "Apart" cApart (spI cApart ["first", "second", "many"]) [] := ok_Apart_init ⟨_, _, fun_mk l_Apart_init c_Apart_init k_Apart_init, ⟨mk_Apart, a_Apart_init, b_Apart_init, kc_Apart⟩⟩ Z
  have c_is_number : C8.Cal l.prog w K mg base 1 "is_number" (spIsNumber K) [] := ok_is_number D1 B
  have c_asked_row : C8.Cal l.prog w K mg base 3 "asked_row" (spAskedRow K) [] := ok_asked_row D2 B T
  have c_asked_ring : C8.Cal l.prog w K mg base 4 "asked_ring" (spAskedRing K) [] := ok_asked_ring D3 c_asked_row
  have c_reckoned_places : C8.Cal l.prog w K mg base 1 "reckoned_places" (spReckonedPlaces K) [] := ok_reckoned_places D4 B T
  have c_reckoned : C8.Cal l.prog w K mg base 3 "reckoned" (spReckoned K) [] := ok_reckoned D5 c_is_number c_reckoned_places
  have c_laid : C8.Cal l.prog w K mg base 4 "laid" (spLaid K) [] := ok_laid D6 c_reckoned
  have c_turned : C8.Cal l.prog w K mg base 5 "turned" (spTurned K) [] := ok_turned D7 B c_asked_ring c_is_number
  have c_exchanged : C8.Cal l.prog w K mg base 5 "exchanged" (spExchanged K) [] := ok_exchanged D8 T c_asked_ring
  have c_about : C8.Cal l.prog w K mg base 5 "about" (spAbout K) [] := ok_about D9 c_asked_ring
  have c_summed : C8.Cal l.prog w K mg base 1 "summed" (spSummed K) [] := ok_summed D10 T
  have c_stretch_counts : C8.Cal l.prog w K mg base 2 "stretch_counts" (spStretchCounts K) [] := ok_stretch_counts D11 B c_summed
  have c_apart : C8.Cal l.prog w K mg base 3 "apart" (spApartC cApart) [] := ok_apart D12 Z B c_summed c_stretch_counts k_Apart
  have c_even : C8.Cal l.prog w K mg base 5 "even" (spEvenC cEven cApart) [] := ok_even D13 Z B c_asked_ring c_laid c_apart k_Even
  have c__law_reckoned : C8.Cal l.prog w K mg base 1 "_law_reckoned" (spLawReckoned K) [] := ok__law_reckoned D14 B
  have c__law_drawn : C8.Cal l.prog w K mg base 2 "_law_drawn" (spLawDrawn K) [] := ok__law_drawn D15 B c__law_reckoned
  have c__law_sums : C8.Cal l.prog w K mg base 1 "_law_sums" (spLawSums K) [] := ok__law_sums D16
  have c__law_is_even : C8.Cal l.prog w K mg base 2 "_law_is_even" (spLawIsEven K) [] := ok__law_is_even D17 B c__law_sums
  exact ok_law (fun_mk l18 c18 k18) Z B c__law_drawn c__law_is_even c_even c_turned c_exchanged c_about
end Eb
open PySem PySem.W PyProof.Rows
set_option maxHeartbeats 0 in
theorem PySem.Challenge.cw_evenbeats_k03_whole_turned_holds : PySem.Challenge.rw_evenbeats_k03_whole_turned.Holds := by
  w_on; o_law; k_head; (case hw => w_witness2)
  k_fill
  refine L2.walk_ofB (l := PySem.Challenge.rw_evenbeats_k03_whole_turned) (n := 63) (k := 6) (x := "_law_script") (CX := fun _ => L2.CX0) (sp := fun w => Eb.spLaw _) rfl (by decide) rfl ⟨rfl, by decide, by decide⟩ (fun w h Y => PySem.W.kIn_of Y) ?F (fun _ _ a ns hl hb _ hS => ⟨a, ns, rfl, hS, hl, hb, fun _ => rfl⟩) (fun _ _ _ _ _ h => h)
  case F =>
    intro w mg fa h KX G hmg
    refine' Eb.all_mk KX G hmg ?a1 ?l1 ?c1 ?k1 ?a2 ?l2 ?c2 ?k2 ?a3 ?l3 ?c3 ?k3 ?a4 ?l4 ?c4 ?k4 ?a5 ?l5 ?c5 ?k5 ?a6 ?l6 ?c6 ?k6 ?a7 ?l7 ?c7 ?k7 ?a8 ?l8 ?c8 ?k8 ?a9 ?l9 ?c9 ?k9 ?a10 ?l10 ?c10 ?k10 ?a11 ?l11 ?c11 ?k11 ?a12 ?l12 ?c12 ?k12 ?a13 ?l13 ?c13 ?k13 ?a14 ?l14 ?c14 ?k14 ?a15 ?l15 ?c15 ?k15 ?a16 ?l16 ?c16 ?k16 ?a17 ?l17 ?c17 ?k17 ?a18 ?l18 ?c18 ?k18 ?g_Answer ?g_Even ?g_Apart ?pg_Even ?hd_Even ?po_Even ?sa_Even ?ha_Even ?hm_Even ?n_Even_turn ?i_Even_Answer ?i_Even_Even ?i_Even_Apart ?pg_Apart ?hd_Apart ?po_Apart ?sa_Apart ?ha_Apart ?hm_Apart ?n_Apart_first ?n_Apart_second ?n_Apart_many ?i_Apart_Answer ?i_Apart_Even ?i_Apart_Apart ?hn_o ?ht_o ?a_Even_init ?b_Even_init ?l_Even_init ?c_Even_init ?k_Even_init ?a_Apart_init ?b_Apart_init ?l_Apart_init ?c_Apart_init ?k_Apart_init ?mk_Even ?kc_Even ?mk_Apart ?kc_Apart ?z_len ?z_range ?z_max ?z_min ?z_isinstance ?z_sum ?z_any ?z_all ?z_int ?z_str ?z_bool ?z_list ?z_enumerate ?gB ?gR
    (case a1 => k_is); (case l1 => k_is); (case c1 => k_is); (case k1 => k_is); (case a2 => k_is); (case l2 => k_is); (case c2 => k_is); (case k2 => k_is)
    (case a3 => k_is); (case l3 => k_is); (case c3 => k_is); (case k3 => k_is); (case a4 => k_is); (case l4 => k_is); (case c4 => k_is); (case k4 => k_is)
    (case a5 => k_is); (case l5 => k_is); (case c5 => k_is); (case k5 => k_is); (case a6 => k_is); (case l6 => k_is); (case c6 => k_is); (case k6 => k_is)
    (case a7 => k_is); (case l7 => k_is); (case c7 => k_is); (case k7 => k_is); (case a8 => k_is); (case l8 => k_is); (case c8 => k_is); (case k8 => k_is)
    (case a9 => k_is); (case l9 => k_is); (case c9 => k_is); (case k9 => k_is); (case a10 => k_is); (case l10 => k_is); (case c10 => k_is); (case k10 => k_is)
    (case a11 => k_is); (case l11 => k_is); (case c11 => k_is); (case k11 => k_is); (case a12 => k_is); (case l12 => k_is); (case c12 => k_is); (case k12 => k_is)
    (case a13 => k_is); (case l13 => k_is); (case c13 => k_is); (case k13 => k_is); (case a14 => k_is); (case l14 => k_is); (case c14 => k_is); (case k14 => k_is)
    (case a15 => k_is); (case l15 => k_is); (case c15 => k_is); (case k15 => k_is); (case a16 => k_is); (case l16 => k_is); (case c16 => k_is); (case k16 => k_is)
    (case a17 => k_is); (case l17 => k_is); (case c17 => k_is); (case k17 => k_is); (case a18 => k_is); (case l18 => k_is); (case c18 => k_is); (case k18 => k_is)
    (case g_Answer => k_is); (case g_Even => k_is); (case g_Apart => k_is); (case pg_Even => k_is); (case hd_Even => k_is); (case po_Even => k_is); (case sa_Even => k_is); (case ha_Even => k_is)
    (case hm_Even => k_is); (case n_Even_turn => k_is); (case i_Even_Answer => kit_is); (case i_Even_Even => kit_is); (case i_Even_Apart => kit_is); (case pg_Apart => k_is); (case hd_Apart => k_is); (case po_Apart => k_is)
    (case sa_Apart => k_is); (case ha_Apart => k_is); (case hm_Apart => k_is); (case n_Apart_first => k_is); (case n_Apart_second => k_is); (case n_Apart_many => k_is); (case i_Apart_Answer => kit_is); (case i_Apart_Even => kit_is)
    (case i_Apart_Apart => kit_is); (case hn_o => k_is); (case ht_o => k_is); (case a_Even_init => k_is); (case b_Even_init => k_is); (case l_Even_init => k_is); (case c_Even_init => k_is); (case k_Even_init => k_is)
    (case a_Apart_init => k_is); (case b_Apart_init => k_is); (case l_Apart_init => k_is); (case c_Apart_init => k_is); (case k_Apart_init => k_is); (case mk_Even => k_is); (case kc_Even => k_is); (case mk_Apart => k_is)
    (case kc_Apart => k_is); (case z_len => k_is); (case z_range => k_is); (case z_max => k_is); (case z_min => k_is); (case z_isinstance => k_is); (case z_sum => k_is); (case z_any => k_is)
    (case z_all => k_is); (case z_int => k_is); (case z_str => k_is); (case z_bool => k_is); (case z_list => k_is); (case z_enumerate => k_is); (case gB => k_is); (case gR => k_is)
