import PyProof.Rows.All
import Wide.All
import OpenK.AllK
import Wide.FinOn
import HandS.ForMost
import HandS.ForExc
import HandS.Evl
import HandS.StrMore
import HandS.Style
import HandS.IsInst
import HandS.Wide
import HandS.WideBits
import HandS.EndBits
import HandS.Walk
import HandS.Codes
import HandS.TryOnly
import HandS.ExcOwn
import HandS.ExcIs
import HandS.CallLocal
import HandS.SetFor
import HandS.Replace
import HandS.NoneIn
import PyProof.StrLawsFirst
import PyProof.StrOps2
import PyProof.MaxThree
import PySem.Challenge.RW_evenbeats_k01_whole_laid
set_option Elab.async false
set_option linter.all false
set_option maxRecDepth 100000
set_option maxHeartbeats 4000000
/-! ### rows of beats and rests as texts -/
namespace Eb
open PySem L2 TL Builtin Builtin.Str
def sg (b : Bool) : Nat := if b then 120 else 46
theorem sg_inj : ∀ {a b : Bool}, sg a = sg b → a = b
  | true, true, _ => rfl
  | false, false, _ => rfl
  | true, false, h => by cases h
  | false, true, h => by cases h
def enc (bs : List Bool) : Str := ⟨(bs.map sg).toArray⟩
theorem tl_enc (bs : List Bool) : tl (enc bs) = bs.map sg := rfl
theorem cps_enc (bs : List Bool) : (enc bs).cps.toList = bs.map sg := rfl
theorem len_enc (bs : List Bool) : (enc bs).length = bs.length := by
  rw [len_tl, tl_enc, List.length_map]
theorem map_sg_inj : ∀ {a b : List Bool}, a.map sg = b.map sg → a = b
  | [], [], _ => rfl
  | [], _ :: _, h => by cases h
  | _ :: _, [], h => by cases h
  | x :: a, y :: b, h => by
    rw [List.map_cons, List.map_cons] at h
    injection h with h1 h2
    rw [sg_inj h1, map_sg_inj h2]
theorem enc_inj {a b : List Bool} (h : enc a = enc b) : a = b := by
  have h2 := congrArg tl h
  rw [tl_enc, tl_enc] at h2
  exact map_sg_inj h2
theorem enc_app (a b : List Bool) : enc a ++ enc b = enc (a ++ b) := ext_tl (by rw [tl_append, tl_enc, tl_enc, tl_enc, List.map_append])
theorem enc_x : ("x" : Str) = enc [true] := by decide +kernel
theorem enc_d : ("." : Str) = enc [false] := by decide +kernel
theorem enc_0 : ("" : Str) = enc [] := by decide +kernel
theorem enc_dx : (".x" : Str) = enc [false, true] := by decide +kernel
theorem enc_emp : Str.empty = enc [] := rfl
theorem dec_str (a b : List Bool) : decide (V.str (enc a) = V.str (enc b)) = decide (a = b) := by
  by_cases h : a = b
  · subst h
    rw [decide_eq_true rfl, decide_eq_true rfl]
  · rw [decide_eq_false h, decide_eq_false]
    intro q
    injection q with q2
    exact h (enc_inj q2)
theorem dec_int (a b : Int) : decide (V.int a = V.int b) = decide (a = b) := by
  by_cases h : a = b
  · subst h
    rw [decide_eq_true rfl, decide_eq_true rfl]
  · rw [decide_eq_false h, decide_eq_false]
    intro q
    injection q with q2
    exact h q2
theorem dec_bl (a b : Bool) : decide (V.bl a = V.bl b) = (a == b) := by
  cases a <;> cases b <;> decide
/-! join -/
theorem joinL0 : ∀ ls : List (List Bool), joinL [] ((ls.map enc).map tl) = ls.flatten.map sg
  | [] => rfl
  | [a] => by
    rw [List.flatten_cons, List.flatten_nil, List.append_nil]
    rfl
  | a :: b :: r => by
    rw [List.flatten_cons, List.map_append, ← joinL0 (b :: r)]
    rfl
theorem join0 (ls : List (List Bool)) : Txt.join (enc []) (ls.map enc) = enc ls.flatten := by
  rw [join_eq]
  refine ext_tl ?_
  rw [tl_join]
  exact joinL0 ls
theorem flat_one : ∀ r : List Bool, (List.map (fun b => [b]) r).flatten = r
  | [] => rfl
  | a :: r => by
    rw [List.map_cons, List.flatten_cons, flat_one r]
    rfl
theorem join_one (bs : List Bool) : Txt.join (enc []) (bs.map fun b => enc [b]) = enc bs := by
  have h := join0 (bs.map fun b => [b])
  rw [List.map_map] at h
  refine h.trans ?_
  rw [flat_one]
/-! count -/
theorem cnt_run (x : Str) (c : Nat) : ∀ (n a : Nat) (st : Array Nat × Nat), a + n = x.length + 1 → st.2 ≤ a → st.1.size ≤ a →
    (forIn (List.range' a n) st (StrLaws.occBody x ⟨#[c]⟩ x.length (x.length + 1))).run.fst.toList.length = st.1.size + ((tl x).drop a).count c := by
  intro n
  induction n with
  | zero =>
    intro a st h _ _
    rw [List.drop_eq_nil_of_le (by rw [← len_tl]; omega)]
    simp
  | succ n ih =>
    intro a st h h2 h3
    rw [List.range'_succ, List.forIn_cons]
    unfold StrLaws.occBody
    have key := StrLaws.subAt_one x c a
    by_cases hx : (tl x)[a]? = some c
    · have k2 := key.mpr hx
      have c1 : ((st.fst.size < x.length + 1 ∧ st.snd ≤ a) ∧ a + (⟨#[c]⟩ : Str).length ≤ x.length) ∧ subAt x ⟨#[c]⟩ a = true := by
        refine ⟨⟨⟨?_, h2⟩, k2.1⟩, k2.2⟩
        have := k2.1
        omega
      rw [if_pos c1]
      have e := ih (a + 1) (st.fst.push a, a + (⟨#[c]⟩ : Str).length) (by omega) (Nat.le_refl _) (by rw [Array.size_push]; omega)
      refine e.trans ?_
      obtain ⟨hlt, hv⟩ := List.getElem?_eq_some_iff.mp hx
      rw [Array.size_push, List.drop_eq_getElem_cons hlt, hv, List.count_cons_self]
      omega
    · have c2 : ¬ (((st.fst.size < x.length + 1 ∧ st.snd ≤ a) ∧ a + (⟨#[c]⟩ : Str).length ≤ x.length) ∧ subAt x ⟨#[c]⟩ a = true) := fun q => hx (key.mp ⟨q.1.2, q.2⟩)
      rw [if_neg c2]
      have e := ih (a + 1) (st.fst, st.snd) (by omega) (by show st.snd ≤ a + 1; omega) (by show st.fst.size ≤ a + 1; omega)
      refine e.trans ?_
      by_cases hlt : a < (tl x).length
      · rw [List.drop_eq_getElem_cons hlt, List.count_cons_of_ne]
        intro q
        exact hx (by rw [List.getElem?_eq_getElem hlt, ← q])
      · rw [List.drop_eq_nil_of_le (by omega), List.drop_eq_nil_of_le (by omega)]
theorem count_one (x : Str) (c : Nat) : Txt.count x ⟨#[c]⟩ = ((tl x).count c : Nat) := by
  unfold Txt.count
  rw [StrLaws.occ_eq, cnt_run x c (x.length + 1 - 0) 0 (#[], 0) (by omega) (Nat.le_refl _) (Nat.zero_le _)]
  simp
theorem count_sg : ∀ (bs : List Bool), (bs.map sg).count 120 = bs.count true
  | [] => rfl
  | true :: r => by
    rw [List.map_cons, List.count_cons_self, ← count_sg r]
    exact List.count_cons_self
  | false :: r => by
    rw [List.map_cons, List.count_cons_of_ne (by decide), count_sg r]
    exact (List.count_cons_of_ne (by decide)).symm
theorem count_enc (bs : List Bool) : Txt.count (enc bs) (enc [true]) = (bs.count true : Nat) := by
  show Txt.count (enc bs) ⟨#[120]⟩ = _
  rw [count_one, tl_enc, count_sg]
/-! find -/
theorem at_enc (ws bs : List Bool) (i : Nat) : StrLaws.At (enc ws) (enc bs) (enc ws).length i ↔ i + bs.length ≤ ws.length ∧ (ws.drop i).take bs.length = bs := by
  unfold StrLaws.At
  rw [StrLaws.subAt_eq, beq_iff_eq, len_enc, len_enc]
  show _ ∧ ((ws.map sg).drop i).take bs.length = bs.map sg ↔ _
  rw [← List.map_drop, ← List.map_take]
  exact ⟨fun h => ⟨h.1, map_sg_inj h.2⟩, fun h => ⟨h.1, congrArg _ h.2⟩⟩
theorem find_enc (ws bs : List Bool) : (Txt.find (enc ws) (enc bs) = -1 ∧ ∀ i, ¬ (i + bs.length ≤ ws.length ∧ (ws.drop i).take bs.length = bs)) ∨
    ∃ i : Nat, Txt.find (enc ws) (enc bs) = (i : Int) ∧ i + bs.length ≤ ws.length ∧ (ws.drop i).take bs.length = bs ∧ ∀ k, k < i → ¬ (k + bs.length ≤ ws.length ∧ (ws.drop k).take bs.length = bs) := by
  rcases StrLaws.occ_head (enc ws) (enc bs) 1 (Nat.le_refl _) with ⟨h, hn⟩ | ⟨i, r, h, ha, hn⟩
  · refine .inl ⟨by unfold Txt.find; rw [h], fun i q => hn i ((at_enc ws bs i).mpr q)⟩
  · have h1 := (at_enc ws bs i).mp ha
    exact .inr ⟨i, by unfold Txt.find; rw [h], h1.1, h1.2, fun k hk q => hn k hk ((at_enc ws bs k).mpr q)⟩
/-! slices, signs -/
def cutL (bs : List Bool) (lo hi : Option Int) : List Bool := (bs.drop (HT.sIx bs.length 0 lo)).take (HT.sIx bs.length bs.length hi - HT.sIx bs.length 0 lo)
theorem cut_enc (bs : List Bool) (lo hi : Option Int) : cutS (enc bs) lo hi = enc (cutL bs lo hi) := by
  refine ext_tl ?_
  show (((bs.map sg).drop (HT.sIx (enc bs).length 0 lo)).take _) = _
  rw [len_enc, ← List.map_drop, ← List.map_take]
  rfl
theorem cutL_len (bs : List Bool) (lo hi : Option Int) : (cutL bs lo hi).length ≤ bs.length := by
  unfold cutL
  rw [List.length_take, List.length_drop]
  omega
theorem sIx_nn (n : Nat) (d : Nat) (i : Nat) : HT.sIx n d (some (i : Int)) = min i n := HT.sIx_nat n d i
theorem cutL_to (bs : List Bool) (i : Nat) : cutL bs none (some (i : Int)) = bs.take i := by
  unfold cutL
  rw [HT.sIx_none, sIx_nn, List.drop_zero, Nat.sub_zero]
  rcases Nat.le_total i bs.length with h | h
  · rw [Nat.min_eq_left h]
  · rw [Nat.min_eq_right h, List.take_length, List.take_of_length_le h]
theorem cutL_from (bs : List Bool) (i : Nat) : cutL bs (some (i : Int)) none = bs.drop i := by
  unfold cutL
  rw [HT.sIx_none, sIx_nn]
  rcases Nat.le_total i bs.length with h | h
  · rw [Nat.min_eq_left h, List.take_of_length_le (by rw [List.length_drop]; omega)]
  · rw [Nat.min_eq_right h, List.drop_length, List.drop_eq_nil_of_le h, List.take_nil]
theorem cutL_mid (bs : List Bool) (i j : Nat) : cutL bs (some (i : Int)) (some (j : Int)) = (bs.drop i).take (j - i) := by
  unfold cutL
  rw [sIx_nn, sIx_nn]
  rcases Nat.le_total i bs.length with h | h
  · rw [Nat.min_eq_left h]
    rcases Nat.le_total j bs.length with h2 | h2
    · rw [Nat.min_eq_left h2]
    · rw [Nat.min_eq_right h2, List.take_of_length_le (by rw [List.length_drop]; omega), List.take_of_length_le (by rw [List.length_drop]; omega)]
  · rw [Nat.min_eq_right h, List.drop_length, List.drop_eq_nil_of_le h, List.take_nil, List.take_nil]
theorem mem_enc (bs : List Bool) : decide (120 ∈ (enc bs).cps.toList) = bs.contains true := by
  rw [cps_enc]
  induction bs with
  | nil => rfl
  | cons a r ih =>
    rw [List.map_cons, List.contains_cons, ← ih]
    cases a <;> simp [sg]
theorem mem_encF (bs : List Bool) : decide (46 ∈ (enc bs).cps.toList) = bs.contains false := by
  rw [cps_enc]
  induction bs with
  | nil => rfl
  | cons a r ih =>
    rw [List.map_cons, List.contains_cons, ← ih]
    cases a <;> simp [sg]
end Eb
/-! ### what the readings give, over rows -/
local macro_rules | `(tactic| walk_at "sz") => `(tactic| first | assumption | omega | decide | (simp only [List.length_append, List.length_cons, List.length_nil, List.length_map, List.length_replicate, List.length_range, List.length_reverse] at *; omega))
namespace Eb
open PySem L2 TL Evl Builtin Builtin.Str
theorem sz {n : Nat} (h : n ≤ 100000) : n ≤ sizeLine := sz_of h
section
variable {K : PySem.W.Frag} {σ : L2.St} {H H' : Hp} {ta tb tc te : TE} {x y z v : V} {bs cs : List Bool} {i j k : Int}
theorem ev_eq (h : Ev te σ H v) (e : v = z) : Ev te σ H z := e ▸ h
theorem et_eq {t : TT} {a b : Bool} (h : EvT t σ H a) (e : a = b) : EvT t σ H b := e ▸ h
theorem ev_cmp {p : Int → Int → Bool} (ha : Ev ta σ H (.int i)) (hb : Ev tb σ H (.int j)) : Ev (tCmp p ta tb) σ H (.bl (p i j)) := fun H1 e Q q =>
  ha H1 e _ fun H2 e2 => hb H2 (e.trans e2) _ fun H3 e3 => ⟨i, j, rfl, rfl, q H3 (e2.trans e3)⟩
theorem et_cmp {p : Int → Int → Bool} (ha : Ev ta σ H (.int i)) (hb : Ev tb σ H (.int j)) : EvT (tB (tCmp p ta tb)) σ H (p i j) := et_B (ev_cmp ha hb)
theorem rv_eqS {a b : List Bool} : RV rEq (.str (enc a)) (.str (enc b)) H (.bl (decide (a = b))) := fun H1 _ _ q => ⟨rfl, by rw [dec_str]; exact q H1 (Ex.refl H1)⟩
theorem rv_neS {a b : List Bool} : RV rNe (.str (enc a)) (.str (enc b)) H (.bl (!decide (a = b))) := fun H1 _ _ q => ⟨rfl, by rw [dec_str]; exact q H1 (Ex.refl H1)⟩
theorem rv_eqB {a b : Bool} : RV rEq (.bl a) (.bl b) H (.bl (a == b)) := fun H1 _ _ q => ⟨rfl, by rw [Eb.dec_bl]; exact q H1 (Ex.refl H1)⟩
theorem rv_neB {a b : Bool} : RV rNe (.bl a) (.bl b) H (.bl (!(a == b))) := fun H1 _ _ q => ⟨rfl, by rw [Eb.dec_bl]; exact q H1 (Ex.refl H1)⟩
theorem ev_chain {p q : Int → Int → Bool} (ha : Ev ta σ H (.int i)) (hb : Ev tb σ H (.int j)) (hc : Ev tc σ H (.int k)) :
    Ev (tChain (rI0 fun i j => .bl (p i j)) (rI0 fun i j => .bl (q i j)) ta tb tc) σ H (.bl (p i j && q j k)) := fun H1 e Q w =>
  ha H1 e _ fun H2 e2 => hb H2 (e.trans e2) _ fun H3 e3 => ⟨i, j, rfl, rfl, p i j, rfl, by
    cases hp : p i j with
    | true =>
      rw [hp] at w
      rw [if_pos rfl]
      exact hc H3 ((e.trans e2).trans e3) _ fun H4 e4 => ⟨j, k, rfl, rfl, w H4 ((e2.trans e3).trans e4)⟩
    | false =>
      rw [hp] at w
      rw [if_neg Bool.false_ne_true]
      exact w H3 (e2.trans e3)⟩
theorem et_test' {b : Bool} (h : Ev te σ H (.bl b)) : EvT (tTest te) σ H b := et_test h
theorem rv_mul (h : CMul i j) : RV (rI CMul fun i j => .int (i * j)) (.int i) (.int j) H (.int (i * j)) := rv_I h
theorem mul_l (h1 : -18446744073709551616 < i) (h2 : i < 18446744073709551616) : CMul i j := .inl ⟨h1, h2⟩
theorem mul_r (h1 : -18446744073709551616 < j) (h2 : j < 18446744073709551616) : CMul i j := .inr ⟨h1, h2⟩
/-! texts -/
theorem rv_catS (ha : bs.length ≤ 100000) (hb : cs.length ≤ 100000) : RV (fun x y H Q => ∃ i j, x = .str i ∧ y = .str j ∧ i.length + j.length ≤ sizeLine ∧ Q (.str (i ++ j)) H) (.str (enc bs)) (.str (enc cs)) H (.str (enc (bs ++ cs))) :=
  fun H1 _ _ q => ⟨_, _, rfl, rfl, by
    rw [len_enc, len_enc]
    exact Nat.le_trans (Nat.add_le_add ha hb) (by decide), by
    rw [enc_app]
    exact q H1 (Ex.refl H1)⟩
theorem rc_lenS (h : bs.length ≤ 100000) : RC (fun xs H Q => ∃ z, xs = [.str z] ∧ z.length ≤ sizeLine ∧ Q (.int z.length) H) [.str (enc bs)] H (.int (bs.length : Int)) := fun H1 _ _ q =>
  ⟨_, rfl, by
    rw [len_enc]
    exact sz h, by
    rw [len_enc]
    exact q H1 (Ex.refl H1)⟩
theorem rc_lenL {p : Addr} {xs : List V} (h : SqL K H p xs) : RC (fun xs H Q => ∃ p ys, xs = [.ref p] ∧ (SqL K H p ys ∨ SqT K H p ys) ∧ Q (.int ys.length) H) [.ref p] H (.int (xs.length : Int)) := fun H1 e _ q =>
  ⟨p, xs, rfl, .inl (ex_l e h), q H1 (Ex.refl H1)⟩
theorem at_enc1 {n : Nat} {b : Bool} (h : bs[n]? = some b) : atI (enc bs).cps.toList (n : Int) = some (sg b) := by
  refine atI_nat ?_
  rw [cps_enc, List.getElem?_map, h]
  rfl
theorem rv_ixSn {n : Nat} {b : Bool} (hl : bs.length ≤ 100000) (h : bs[n]? = some b) : RV rIxS (.str (enc bs)) (.int (n : Int)) H (.str (enc [b])) := rv_ixS (by rw [len_enc]; exact hl) (at_enc1 h)
theorem rv_ixSi {n : Nat} {b : Bool} (hl : bs.length ≤ 100000) (hi : i = (n : Int)) (h : bs[n]? = some b) : RV rIxS (.str (enc bs)) (.int i) H (.str (enc [b])) := by
  rw [hi]
  exact rv_ixSn hl h
theorem ev_slS {tl th : TO} {lo hi : Option Int} (h : Ev te σ H (.str (enc bs))) (h1 : EvO tl σ H lo) (h2 : EvO th σ H hi) (hl : bs.length ≤ 100000) : Ev (tSl rSlS te tl th) σ H (.str (enc (cutL bs lo hi))) := fun H1 e _ q =>
  h H1 e _ fun H2 e2 => h1 H2 (e.trans e2) _ fun H3 e3 => h2 H3 ((e.trans e2).trans e3) _ fun H4 e4 =>
    ⟨_, rfl, by
      rw [len_enc]
      exact sz hl, by
      rw [cut_enc]
      exact q H4 ((e2.trans e3).trans e4)⟩
/-! a text's methods: one argument -/
theorem ev_m1 {r : V → List V → Hp → VK → Prop} {a : Str} (h : Ev ta σ H (.str a)) (hb : Ev tb σ H y) (hr : ∀ H1, Ex H H1 → ∀ Q : VK, (∀ H2, Ex H1 H2 → Q z H2) → r (.str a) [y] H1 Q) : Ev (tM1 r ta tb) σ H z := fun H1 e Q q =>
  h H1 e _ fun H2 e2 => ⟨⟨a, rfl⟩, hb H2 (e.trans e2) _ fun H3 e3 => hr H3 ((e.trans e2).trans e3) Q fun H4 e4 => q H4 ((e2.trans e3).trans e4)⟩
theorem ev_cntS (h : Ev ta σ H (.str (enc bs))) (hb : Ev tb σ H (.str (enc [true]))) : Ev (tM1 (fun x xs H Q => ∃ a b, x = .str a ∧ xs = [.str b] ∧ Q (.int (Txt.count a b)) H) ta tb) σ H (.int (bs.count true : Nat)) :=
  ev_m1 h hb fun H1 _ _ q => ⟨_, _, rfl, rfl, by
    rw [count_enc]
    exact q H1 (Ex.refl H1)⟩
theorem ev_findS (h : Ev ta σ H (.str (enc bs))) (hb : Ev tb σ H (.str (enc cs))) : Ev (tM1 (fun x xs H Q => ∃ a b, x = .str a ∧ xs = [.str b] ∧ Q (.int (Txt.find a b)) H) ta tb) σ H (.int (Txt.find (enc bs) (enc cs))) :=
  ev_m1 h hb fun H1 _ _ q => ⟨_, _, rfl, rfl, q H1 (Ex.refl H1)⟩
/-- glue.join(a new list of rows) -/
theorem ev_joinN {ls : List (List Bool)} (h : Ev ta σ H (.str (enc []))) (hb : EvL tb σ H (ls.map fun l => V.str (enc l))) (hl : ls.length ≤ 100000) (h1 : ∀ l ∈ ls, l.length ≤ 100) :
    Ev (tM1 (fun x xs H Q => ∃ a p, ∃ ys : List Str, x = .str a ∧ xs = [.ref p] ∧ (SqL K H p (ys.map V.str) ∨ SqT K H p (ys.map V.str)) ∧ (ys.map (·.length)).sum + ys.length * a.length ≤ 16777216 ∧ Q (.str (Txt.join a ys)) H) ta tb) σ H (.str (enc ls.flatten)) := fun H1 e Q q =>
  h H1 e _ fun H2 e2 => ⟨⟨_, rfl⟩, hb H2 (e.trans e2) _ fun p H3 hp e3 hx => ⟨enc [], p, ls.map enc, rfl, rfl, .inl (.inl (.inl (by
      rw [List.map_map]
      exact hx))), by
      have hs : ∀ ls : List (List Bool), (∀ l ∈ ls, l.length ≤ 100) → ((ls.map enc).map (·.length)).sum ≤ 100 * ls.length := by
        intro ls
        induction ls with
        | nil => exact fun _ => Nat.le_refl _
        | cons a r ih =>
          intro h
          have h2 := h a List.mem_cons_self
          have h3 := ih fun l hm => h l (List.mem_cons_of_mem _ hm)
          rw [List.map_cons, List.map_cons, List.sum_cons, len_enc, List.length_cons]
          omega
      have h2 := hs ls h1
      rw [List.length_map, len_enc]
      simp only [List.length_nil, Nat.mul_zero, Nat.add_zero]
      omega, by
      rw [join0]
      exact q H3 (e2.trans e3)⟩⟩
/-- .. of a list that stands -/
theorem ev_joinL {ls : List (List Bool)} {p : Addr} (h : Ev ta σ H (.str (enc []))) (hb : Ev tb σ H (.ref p)) (hx : SqL K H p (ls.map fun l => V.str (enc l))) (hl : ls.length ≤ 100000) (h1 : ∀ l ∈ ls, l.length ≤ 100) :
    Ev (tM1 (fun x xs H Q => ∃ a p, ∃ ys : List Str, x = .str a ∧ xs = [.ref p] ∧ (SqL K H p (ys.map V.str) ∨ SqT K H p (ys.map V.str)) ∧ (ys.map (·.length)).sum + ys.length * a.length ≤ 16777216 ∧ Q (.str (Txt.join a ys)) H) ta tb) σ H (.str (enc ls.flatten)) := fun H1 e Q q =>
  h H1 e _ fun H2 e2 => ⟨⟨_, rfl⟩, hb H2 (e.trans e2) _ fun H3 e3 => ⟨enc [], p, ls.map enc, rfl, rfl, .inl (by
      rw [List.map_map]
      exact ex_l ((e.trans e2).trans e3) hx), by
      have hs : ∀ ls : List (List Bool), (∀ l ∈ ls, l.length ≤ 100) → ((ls.map enc).map (·.length)).sum ≤ 100 * ls.length := by
        intro ls
        induction ls with
        | nil => exact fun _ => Nat.le_refl _
        | cons a r ih =>
          intro h
          have h2 := h a List.mem_cons_self
          have h3 := ih fun l hm => h l (List.mem_cons_of_mem _ hm)
          rw [List.map_cons, List.map_cons, List.sum_cons, len_enc, List.length_cons]
          omega
      have h2 := hs ls h1
      rw [List.length_map, len_enc]
      simp only [List.length_nil, Nat.mul_zero, Nat.add_zero]
      omega, by
      rw [join0]
      exact q H3 (e2.trans e3)⟩⟩
/-! isinstance -/
theorem rc_isi {c : V} {t u : Value} {b : Bool} (hc : ClsV c u) (ht : ∀ H1, Ex H H1 → TyX K H1 x t) (hk : PySem.W.kitOne K t u = some b) : RC (rIsi K) [x, c] H (.bl b) := fun H1 e _ q => ⟨x, c, t, u, b, rfl, hc, ht H1 e, hk, q H1 (Ex.refl H1)⟩
theorem rc_isiI {n : String} {b : Bool} (hk : kitB "int" n = some b) : RC (rIsi K) [.int i, .ty n] H (.bl b) := rc_isi (.ty n) (fun _ _ => .base (.int i)) (kit_ty hk)
theorem rc_isiB {n : String} {b c : Bool} (hk : kitB "bool" n = some b) : RC (rIsi K) [.bl c, .ty n] H (.bl b) := rc_isi (.ty n) (fun _ _ => .base (.bl c)) (kit_ty hk)
theorem rc_isiS {n : String} {s : Str} {b : Bool} (hk : kitB "str" n = some b) : RC (rIsi K) [.str s, .ty n] H (.bl b) := rc_isi (.ty n) (fun _ _ => .base (.str s)) (kit_ty hk)
/-! sums, the greatest, the least -/
def mx (ns : List Int) : Int := ns.max?.getD 0
def mn (ns : List Int) : Int := ns.min?.getD 0
theorem mx_of {ns : List Int} {m : Int} (h1 : m ∈ ns) (h2 : ∀ y, y ∈ ns → y ≤ m) : m = mx ns := by
  unfold mx
  rw [List.max?_eq_some_iff.mpr ⟨h1, h2⟩]
  rfl
theorem mn_of {ns : List Int} {m : Int} (h1 : m ∈ ns) (h2 : ∀ y, y ∈ ns → m ≤ y) : m = mn ns := by
  unfold mn
  rw [List.min?_eq_some_iff.mpr ⟨h1, h2⟩]
  rfl
theorem mx_mem {ns : List Int} (h : 0 < ns.length) : mx ns ∈ ns ∧ ∀ y ∈ ns, y ≤ mx ns := by
  cases hm : ns.max? with
  | none =>
    rw [List.max?_eq_none_iff] at hm
    subst hm
    exact absurd h (Nat.lt_irrefl _)
  | some m =>
    have e : mx ns = m := by
      unfold mx
      rw [hm]
      rfl
    rw [e]
    exact List.max?_eq_some_iff.mp hm
theorem mn_mem {ns : List Int} (h : 0 < ns.length) : mn ns ∈ ns ∧ ∀ y ∈ ns, mn ns ≤ y := by
  cases hm : ns.min? with
  | none =>
    rw [List.min?_eq_none_iff] at hm
    subst hm
    exact absurd h (Nat.lt_irrefl _)
  | some m =>
    have e : mn ns = m := by
      unfold mn
      rw [hm]
      rfl
    rw [e]
    exact List.min?_eq_some_iff.mp hm
theorem rc_sum {p : Addr} {ns : List Int} (h : SqL K H p (ns.map V.int)) : RC (rSum K) [.ref p] H (.int ns.sum) := fun H1 e _ q => ⟨p, ns, rfl, ex_l e h, q H1 (Ex.refl H1)⟩
theorem rc_max {p : Addr} {ns : List Int} (h : SqL K H p (ns.map V.int)) (h0 : 0 < ns.length) : RC (rMax K) [.ref p] H (.int (mx ns)) := fun H1 e _ q => ⟨p, ns, rfl, ex_l e h, h0, fun m h1 h2 => by
  rw [mx_of h1 h2]
  exact q H1 (Ex.refl H1)⟩
theorem rc_min {p : Addr} {ns : List Int} (h : SqL K H p (ns.map V.int)) (h0 : 0 < ns.length) : RC (rMin K) [.ref p] H (.int (mn ns)) := fun H1 e _ q => ⟨p, ns, rfl, ex_l e h, h0, fun m h1 h2 => by
  rw [mn_of h1 h2]
  exact q H1 (Ex.refl H1)⟩
/-- of a list just made -/
theorem ev_maxN {ns : List Int} (h : EvL te σ H (ns.map V.int)) (h0 : 0 < ns.length) : Ev (tCB (rMax K) (tCons te tNil)) σ H (.int (mx ns)) := fun H1 e _ q =>
  h H1 e _ fun p H2 _ e2 hp => ⟨p, ns, rfl, sq_of hp, h0, fun m h1 h2 => by
    rw [mx_of h1 h2]
    exact q H2 e2⟩
/-! a place in a list of numbers -/
theorem rv_ixLi {p : Addr} {ns : List Int} {n : Nat} {m : Int} (h : SqL K H p (ns.map V.int)) (hi : i = (n : Int)) (hm : ns[n]? = some m) : RV (rIxL K) (.ref p) (.int i) H (.int m) := by
  rw [hi]
  exact rv_ixL h (atI_nat (by
    rw [List.getElem?_map, hm]
    rfl))
theorem rv_ixLlast {p : Addr} {xs : List V} (h : SqL K H p (xs ++ [v])) : RV (rIxL K) (.ref p) (.int (-1)) H v := rv_ixL h (atI_last _ _)
/-! comprehensions without tests -/
theorem given_all (n : Nat) (v : Nat → V) : given n (fun _ => true) v = (List.range n).map v := by
  unfold given
  rw [List.filter_eq_self.mpr (fun _ _ => rfl)]
theorem et_yes : EvT tYes σ H true := fun H1 _ _ q => q H1 (Ex.refl H1)
theorem el_mapR {t1 : TA} {j : Nat} {vs : List Nat} {n : Nat} (g : Nat → V) (h : EvA t1 σ H [.int (n : Int)]) (hn : n ≤ 40000) (hw : ∀ x, wipe ((wipe σ vs).set j (some x)) vs = wipe σ vs)
    (he : ∀ (i : Nat) H1, Ex H H1 → i < n → Ev te ((wipe σ vs).set j (some (.int (i : Int)))) H1 (g i)) : EvL (tLc (iRng1 t1) (gName j) tYes te vs) σ H ((List.range n).map g) := by
  have q := el_lcR1 (t := tYes) (te := te) (fun _ => true) g h (by omega) hw (fun _ _ _ _ => et_yes) (fun i H1 e hi _ => he i H1 e (by omega))
  rw [given_all] at q
  exact q
theorem el_mapL {α : Type} {a : Addr} {xs : List α} {f g : α → V} {tl : TE} {j : Nat} {vs : List Nat} (h : Ev tl σ H (.ref a)) (hx : SqL K H a (xs.map f)) (hz : xs.length ≤ 40000) (hw : ∀ x, wipe ((wipe σ vs).set j (some x)) vs = wipe σ vs)
    (he : ∀ (y : α) H1, Ex H H1 → y ∈ xs → Ev te ((wipe σ vs).set j (some (f y))) H1 (g y)) : EvL (tLc (iList K tl) (gName j) tYes te vs) σ H (xs.map g) := by
  cases hxs : xs with
  | nil =>
    have q := el_lcL (t := tYes) (te := te) (fun _ => true) (fun _ => V.non) h hx (by rw [List.length_map]; exact hz) hw (fun _ _ _ _ _ => et_yes) (fun i y H1 e hi _ => by
      rw [hxs] at hi
      simp at hi)
    rw [given_all, List.length_map, hxs] at q
    exact q
  | cons x0 r =>
    have q := el_lcL (t := tYes) (te := te) (fun _ => true) (fun i => g (xs.getD i x0)) h hx (by rw [List.length_map]; exact hz) hw (fun _ _ _ _ _ => et_yes) (fun i y H1 e hi _ => by
      rw [List.getElem?_map] at hi
      cases hq : xs[i]? with
      | none =>
        rw [hq] at hi
        cases hi
      | some w =>
        rw [hq] at hi
        have e2 : f w = y := Option.some.inj hi
        subst e2
        have e3 : xs.getD i x0 = w := by
          rw [List.getD_eq_getElem?_getD, hq]
          rfl
        rw [e3]
        exact he w H1 e (List.mem_of_getElem? hq))
    rw [given_all, List.length_map] at q
    have e : (List.range xs.length).map (fun i => g (xs.getD i x0)) = xs.map g := by
      apply List.ext_getElem?
      intro i
      rw [List.getElem?_map, List.getElem?_map]
      by_cases hi : i < xs.length
      · rw [List.getElem?_range hi, List.getElem?_eq_getElem hi]
        show some (g (xs.getD i x0)) = some (g xs[i])
        rw [List.getD_eq_getElem?_getD, List.getElem?_eq_getElem hi]
        rfl
      · rw [List.getElem?_eq_none (by rw [List.length_range]; omega), List.getElem?_eq_none (by omega)]
        rfl
    rw [e, hxs] at q
    exact q
/-- over a row, sign by sign -/
theorem el_mapS {g : Bool → V} {tl : TE} {j : Nat} {vs : List Nat} (h : Ev tl σ H (.str (enc bs))) (hz : bs.length ≤ 40000) (hw : ∀ x, wipe ((wipe σ vs).set j (some x)) vs = wipe σ vs)
    (he : ∀ (b : Bool) H1, Ex H H1 → b ∈ bs → Ev te ((wipe σ vs).set j (some (.str (enc [b])))) H1 (g b)) : EvL (tLc (iStr tl) (gName j) tYes te vs) σ H (bs.map g) := fun H0 e Q q => h H0 e _ fun H1 e1 => ⟨enc bs, rfl, fun Dl hD =>
  lc_it walk_str (fun i H' => H1 Dl = none ∧ Ex H1 H' ∧ H' Dl = some (.lst ((bs.take i).map g))) ⟨hD, Ex.new hD, upd_same⟩ (fun _ _ _ _ => trivial)
    (fun i x Ha Hb hi p y => by
      obtain ⟨rfl, c, hc, rfl⟩ := y
      obtain ⟨p1, p2, p3⟩ := p
      have hb : ∃ b, bs[i]? = some b ∧ sg b = c := by
        have h2 : (enc bs).cps.toList[i]? = some c := by
          rw [Array.getElem?_toList]
          exact hc
        rw [cps_enc, List.getElem?_map] at h2
        cases hq : bs[i]? with
        | none =>
          rw [hq] at h2
          cases h2
        | some b =>
          rw [hq] at h2
          exact ⟨b, rfl, Option.some.inj h2⟩
      obtain ⟨b, hb, rfl⟩ := hb
      refine ⟨hw _, ?_⟩
      show te (List.set (wipe σ vs) j (some (V.str (enc [b])))) Hb fun y H4 => ∃ acc, H4 Dl = some (.lst acc) ∧ acc.length < sizeLine ∧ (H1 Dl = none ∧ Ex H1 (upd H4 Dl (.lst (acc ++ [y]))) ∧ (upd H4 Dl (.lst (acc ++ [y]))) Dl = some (.lst ((bs.take (i + 1)).map g)))
      refine he b H1 (e.trans e1) (List.mem_of_getElem? hb) Hb p2 _ fun H4 e4 => ⟨(bs.take i).map g, e4 Dl _ p3, ?_, p1, Ex.mut (p2.trans e4) p1, ?_⟩
      · rw [List.length_map, List.length_take]
        exact sz_lt (by omega)
      · rw [upd_same, List.take_add_one, hb, List.map_append]
        rfl) (fun H' p => q Dl H' (fresh_back e1 p.1) (e1.trans p.2.1) (by
          have h3 := p.2.2
          rw [List.take_of_length_le (by
            have h4 := len_enc bs
            have h5 : (enc bs).length = (enc bs).cps.size := rfl
            omega)] at h3
          exact h3))⟩
end
end Eb
/-! ### more readings; the built-in names; defs by name -/
namespace Eb
open PySem PySem.Spec PyProof.Rows L2 TL Evl Builtin Builtin.Str
theorem hu64 {A : Around} {k : Nat} (hr : Room k A) : A.units + 64 < cLine := by
  have := hr.un
  omega
theorem hu1 {A : Around} {k : Nat} (hr : Room k A) : A.units + 1 < cLine := by
  have := hr.un
  omega
theorem mulx20 {c : Int} (h : Builtin.Int.intBits c ≤ 1048576) : CMulX c (10 ^ (20 : Int).toNat) := by
  have h2 : Builtin.Int.intBits (10 ^ (20 : Int).toNat) ≤ 67 := by decide +kernel
  unfold CMulX
  omega
section
variable {X : Cx} {j : Nat} {pos : Pos}
theorem pe_sx : PE X (.Constant (.str "x") j pos) (tC (.str (enc [true]))) := by
  rw [← enc_x]
  exact pe_str
theorem pe_sd : PE X (.Constant (.str ".") j pos) (tC (.str (enc [false]))) := by
  rw [← enc_d]
  exact pe_str
theorem pe_s0 : PE X (.Constant (.str "") j pos) (tC (.str (enc []))) := by
  rw [← enc_0]
  exact pe_str
theorem pe_sdx : PE X (.Constant (.str ".x") j pos) (tC (.str (enc [false, true]))) := by
  rw [← enc_dx]
  exact pe_str
end
section
variable {K : PySem.W.Frag} {σ : L2.St} {H H' : Hp} {ta tb tc te : TE} {x y z v : V} {bs cs : List Bool} {i j k : Int}
theorem ev_ifV {t : TT} {b : Bool} {u w : V} (h : EvT t σ H b) (ha : Ev ta σ H u) (hb : Ev tb σ H w) : Ev (tIf t ta tb) σ H (if b then u else w) := by
  refine ev_if h (fun e => ?_) (fun e => ?_)
  · subst e
    exact ha
  · subst e
    exact hb
theorem ev_ifS {t : TT} {b : Bool} (h : EvT t σ H b) (ha : Ev ta σ H (.str (enc [true]))) (hb : Ev tb σ H (.str (enc [false]))) : Ev (tIf t ta tb) σ H (.str (enc [b])) :=
  ev_eq (ev_ifV h ha hb) (by cases b <;> rfl)
theorem ev_ifN {t : TT} {b : Bool} (h : EvT t σ H b) (ha : Ev ta σ H (.str (enc [false]))) (hb : Ev tb σ H (.str (enc [true]))) : Ev (tIf t ta tb) σ H (.str (enc [!b])) :=
  ev_eq (ev_ifV h ha hb) (by cases b <;> rfl)
theorem ev_ifD {t : TT} {b : Bool} (h : EvT t σ H b) (ha : Ev ta σ H (.str (enc bs))) (hb : Ev tb σ H (.str (enc cs))) : Ev (tIf t ta tb) σ H (.str (enc (if b then bs else cs))) :=
  ev_eq (ev_ifV h ha hb) (by cases b <;> rfl)
theorem ev_ifI {t : TT} {b : Bool} (h : EvT t σ H b) (ha : Ev ta σ H (.int i)) (hb : Ev tb σ H (.int j)) : Ev (tIf t ta tb) σ H (.int (if b then i else j)) :=
  ev_eq (ev_ifV h ha hb) (by cases b <;> rfl)
theorem getD_some {α : Type} {l : List α} {n : Nat} {d : α} (h : n < l.length) : l[n]? = some (l.getD n d) := by
  rw [List.getD_eq_getElem?_getD, List.getElem?_eq_getElem h]
  rfl
theorem rv_ixSg (hl : bs.length ≤ 100000) (h0 : 0 ≤ i) (h1 : i < bs.length) : RV rIxS (.str (enc bs)) (.int i) H (.str (enc [bs.getD i.toNat false])) :=
  rv_ixSi hl (by omega : i = (i.toNat : Int)) (getD_some (by omega))
theorem rv_ixLg {p : Addr} {ns : List Int} (h : SqL K H p (ns.map V.int)) (h0 : 0 ≤ i) (h1 : i < ns.length) : RV (rIxL K) (.ref p) (.int i) H (.int (ns.getD i.toNat 0)) :=
  rv_ixLi h (by omega : i = (i.toNat : Int)) (getD_some (by omega))
theorem rv_ixLm {p : Addr} {ns : List Int} (h : SqL K H p (ns.map V.int)) (h1 : 0 < ns.length) : RV (rIxL K) (.ref p) (.int (-1)) H (.int (ns.getLast?.getD 0)) := by
  rcases List.eq_nil_or_concat ns with e | ⟨r, a, e⟩
  · subst e
    exact absurd h1 (Nat.lt_irrefl _)
  · rw [List.concat_eq_append] at e
    subst e
    rw [List.map_append] at h
    rw [List.getLast?_append]
    exact rv_ixLlast h
theorem rv_inX : RV (fun x y H Q => ∃ (c : Nat) (z : Str), x = .str ⟨#[c]⟩ ∧ y = .str z ∧ Q (.bl (decide (c ∈ z.cps.toList))) H) (.str (enc [true])) (.str (enc bs)) H (.bl (bs.contains true)) := fun H1 _ _ q => ⟨120, _, rfl, rfl, by
  rw [mem_enc]
  exact q H1 (Ex.refl H1)⟩
theorem rv_notInX : RV (fun x y H Q => ∃ (c : Nat) (z : Str), x = .str ⟨#[c]⟩ ∧ y = .str z ∧ Q (.bl (!decide (c ∈ z.cps.toList))) H) (.str (enc [true])) (.str (enc bs)) H (.bl (!bs.contains true)) := fun H1 _ _ q => ⟨120, _, rfl, rfl, by
  rw [mem_enc]
  exact q H1 (Ex.refl H1)⟩
theorem rv_notInXD : RV (fun x y H Q => ∃ (c : Nat) (z : Str), x = .str ⟨#[c]⟩ ∧ y = .str z ∧ Q (.bl (!decide (c ∈ z.cps.toList))) H) (.str (enc [false])) (.str (enc bs)) H (.bl (!bs.contains false)) := fun H1 _ _ q => ⟨46, _, rfl, rfl, by
  rw [mem_encF]
  exact q H1 (Ex.refl H1)⟩
theorem ev_minN {ns : List Int} (h : EvL te σ H (ns.map V.int)) (h0 : 0 < ns.length) : Ev (tCB (rMin K) (tCons te tNil)) σ H (.int (mn ns)) := fun H1 e _ q =>
  h H1 e _ fun p H2 _ e2 hp => ⟨p, ns, rfl, sq_of hp, h0, fun m h1 h2 => by
    rw [mn_of h1 h2]
    exact q H2 e2⟩
theorem rc_max2 : RC (fun xs H Q => ∃ i j, xs = [.int i, .int j] ∧ Q (.int (if j > i then j else i)) H) [.int i, .int j] H (.int (if j > i then j else i)) := fun H1 _ _ q => ⟨i, j, rfl, q H1 (Ex.refl H1)⟩
/-- glue.join of a new list: one sign each; a row each -/
theorem ev_joinMN {α : Type} {xs : List α} {f : α → List Bool} (h : Ev ta σ H (.str (enc []))) (hb : EvL tb σ H (xs.map fun a => V.str (enc (f a)))) (hl : xs.length ≤ 100000) (h1 : ∀ a ∈ xs, (f a).length ≤ 100) :
    Ev (tM1 (fun x xs H Q => ∃ a p, ∃ ys : List Str, x = .str a ∧ xs = [.ref p] ∧ (SqL K H p (ys.map V.str) ∨ SqT K H p (ys.map V.str)) ∧ (ys.map (·.length)).sum + ys.length * a.length ≤ 16777216 ∧ Q (.str (Txt.join a ys)) H) ta tb) σ H (.str (enc (xs.map f).flatten)) :=
  ev_joinN (ls := xs.map f) h (by
    rw [List.map_map]
    exact hb) (by
    rw [List.length_map]
    exact hl) (fun l hm => by
    obtain ⟨a, ha, rfl⟩ := List.mem_map.mp hm
    exact h1 a ha)
theorem flat_sing {α : Type} (f : α → Bool) : ∀ xs : List α, (xs.map fun a => [f a]).flatten = xs.map f
  | [] => rfl
  | a :: r => by
    rw [List.map_cons, List.flatten_cons, flat_sing f r]
    rfl
theorem ev_join1N {α : Type} {xs : List α} {f : α → Bool} (h : Ev ta σ H (.str (enc []))) (hb : EvL tb σ H (xs.map fun a => V.str (enc [f a]))) (hl : xs.length ≤ 100000) :
    Ev (tM1 (fun x xs H Q => ∃ a p, ∃ ys : List Str, x = .str a ∧ xs = [.ref p] ∧ (SqL K H p (ys.map V.str) ∨ SqT K H p (ys.map V.str)) ∧ (ys.map (·.length)).sum + ys.length * a.length ≤ 16777216 ∧ Q (.str (Txt.join a ys)) H) ta tb) σ H (.str (enc (xs.map f))) := by
  have q := ev_joinMN (K := K) (f := fun a => [f a]) h hb hl (fun _ _ => Nat.le_of_ble_eq_true rfl)
  rw [flat_sing] at q
  exact q
theorem ev_join1L {bs : List Bool} {p : Addr} (h : Ev ta σ H (.str (enc []))) (hb : Ev tb σ H (.ref p)) (hx : SqL K H p (bs.map fun b => V.str (enc [b]))) (hl : bs.length ≤ 100000) :
    Ev (tM1 (fun x xs H Q => ∃ a p, ∃ ys : List Str, x = .str a ∧ xs = [.ref p] ∧ (SqL K H p (ys.map V.str) ∨ SqT K H p (ys.map V.str)) ∧ (ys.map (·.length)).sum + ys.length * a.length ≤ 16777216 ∧ Q (.str (Txt.join a ys)) H) ta tb) σ H (.str (enc bs)) := by
  have q := ev_joinL (K := K) (ls := bs.map fun b => [b]) h hb (by
    rw [List.map_map]
    exact hx) (by
    rw [List.length_map]
    exact hl) (fun l hm => by
    obtain ⟨a, _, rfl⟩ := List.mem_map.mp hm
    exact (by decide : 1 ≤ 100))
  rw [flat_one] at q
  exact q
end
/-! rules whose reading names the written part K outright (so that a comprehension's block may use them) -/
section
variable {X : Cx}
theorem ix_listK {K : PySem.W.Frag} (h : X.K = K) : IxR X (rIxL K) := h ▸ ix_list
theorem ix_tupK {K : PySem.W.Frag} (h : X.K = K) : IxR X (rIxT K) := h ▸ ix_tup
theorem cr_maxK {K : PySem.W.Frag} (h : X.K = K) (hc : X.calm = true) : CallR X (.builtin "max") (rMax K) := h ▸ cr_max hc
theorem cr_minK {K : PySem.W.Frag} (h : X.K = K) (hc : X.calm = true) : CallR X (.builtin "min") (rMin K) := h ▸ cr_min hc
theorem call_isiK1 {K : PySem.W.Frag} (h : X.K = K) : CallR X (.builtin "isinstance") (rIsi K) := h ▸ call_isi
end
/-! the built-in names that no module binds -/
structure Bn (mg : Str → Option Value) : Prop where
  len_ : mg "len" = none
  range_ : mg "range" = none
  max_ : mg "max" = none
  min_ : mg "min" = none
  isinstance_ : mg "isinstance" = none
  sum_ : mg "sum" = none
  any_ : mg "any" = none
  all_ : mg "all" = none
  int_ : mg "int" = none
  str_ : mg "str" = none
  bool_ : mg "bool" = none
  list_ : mg "list" = none
  enumerate_ : mg "enumerate" = none
structure Tx (mg : Str → Option Value) : Prop where
  beat : ∃ u, mg "BEAT" = some u ∧ RelV (.str (enc [true])) u
  rest : ∃ u, mg "REST" = some u ∧ RelV (.str (enc [false])) u
theorem tx_x {t : Tok} : RelV (.str (enc [true])) (.str "x" t) := ⟨t, by rw [enc_x]⟩
theorem tx_d {t : Tok} : RelV (.str (enc [false])) (.str "." t) := ⟨t, by rw [enc_d]⟩
/-- a def of the module, as the top leaves it -/
structure DefAt (K : PySem.W.Frag) (mg : Str → Option Value) (x : Str) (st : Stmt) : Prop where
  ex : ∃ f fd, Fun K x x st f fd ∧ mg x = some (.ref f)
section
variable {P : Program} {w : World} {K : PySem.W.Frag} {mg : Str → Option Value} {base : Heap}
theorem cal_of {x : Str} {st : Stmt} {N ps : List Str} {k : Nat} {sp : Sp} (D : DefAt K mg x st)
    (b : ∀ (kV doc pm : Value) (an : Option Addr) (cdv ct : Value) (us : List Value), us.length = ps.length → bindArgs (PySem.W.fnOf x x (defArgs st) (defBody st) (defScope st) .none kV doc pm an cdv ct) ⟨us, []⟩ = pure (ps.zip us))
    (S : FnScope N ps (defScope st)) (len : ∀ vs H Q E, sp vs H Q E → vs.length = ps.length)
    (hbody : ∀ (f : Addr) (cdv : Value) (A : Around) (outer : List Env) (s : Shared) (H : Hp) (vs : List V) (Q : VK) (E : XK), Room k (A.deeper (envOfC x (defScope st) s.heap.objs.size f cdv)) → sp vs H Q E →
      ∃ t, PSs (cxOf CX0 P w K mg base N x (defScope st) f cdv A outer s H E).nox (defBody st) t ∧ t { nx := fun _ H' => Q .non H', rt := Q } (start N vs) H) : C8.Cal P w K mg base (k + 1) x sp [] := by
  obtain ⟨f, fd, F, g⟩ := D.ex
  exact ⟨f, fd, ps, [], F.ok S len (hbody f), g, F.kp, F.binds b, .nil⟩
/-- a def that may raise -/
structure CalX (P : Program) (w : World) (K : PySem.W.Frag) (mg : Str → Option Value) (base : Heap) (k : Nat) (x : Str) (sp : Sp) (dvs : List V) : Prop where
  ex : ∃ (f : Addr) (fd : FuncData) (ps : List Str), FnOk P w K mg base (L2.CX P w) k f fd ps sp ∧ mg x = some (.ref f) ∧ PySem.W.keepIn K (.ref f) = true ∧ Binds K fd ps []
theorem calx_of {x : Str} {st : Stmt} {N ps : List Str} {k : Nat} {sp : Sp} (D : DefAt K mg x st)
    (b : ∀ (kV doc pm : Value) (an : Option Addr) (cdv ct : Value) (us : List Value), us.length = ps.length → bindArgs (PySem.W.fnOf x x (defArgs st) (defBody st) (defScope st) .none kV doc pm an cdv ct) ⟨us, []⟩ = pure (ps.zip us))
    (S : FnScope N ps (defScope st)) (len : ∀ vs H Q E, sp vs H Q E → vs.length = ps.length)
    (hbody : ∀ (f : Addr) (cdv : Value) (A : Around) (outer : List Env) (s : Shared) (H : Hp) (vs : List V) (Q : VK) (E : XK), Room k (A.deeper (envOfC x (defScope st) s.heap.objs.size f cdv)) → sp vs H Q E →
      ∃ t, PSs (cxOf (L2.CX P w) P w K mg base N x (defScope st) f cdv A outer s H E) (defBody st) t ∧ t { nx := fun _ H' => Q .non H', rt := Q } (start N vs) H) : CalX P w K mg base (k + 1) x sp [] := by
  obtain ⟨f, fd, F, g⟩ := D.ex
  exact ⟨f, fd, ps, F.okX S len (hbody f), g, F.kp, F.binds b⟩
end
/-- f(e, ..), f a def that may raise -/
theorem pe_cx {X : Cx} {k j : Nat} {x : Str} {sp : Sp} {dvs : List V} {E : XK} {p pos : Pos} {e : Expr} {es : List Expr} {t : TA} (hx : Passes (L2.CX X.prog X.w) X E) (c : CalX X.prog X.w X.K X.mg X.base k x sp dvs) (hr : Room j X.A) (hk : k ≤ j) (hg : Gl X x) (ha : PA X (e :: es) t)
    (hdb : (x == ("__debug__" : Str)) = false := by decide) (he : starEach (e :: es) X.env = (false, eval e X.env) :: starEach es X.env := by rfl) (hpl : (backTo pos (starEach es X.env)).any (·.1) = false := by rfl) :
    PE X (.Call (.Name x p) (e :: es) [] pos) (tCall sp [] E t) := by
  obtain ⟨f, fd, ps, F, hm, kp, b⟩ := c.ex
  exact pe_call F (hr.mono hk) hg hm kp b .nil hx ha hdb he hpl
section
variable {K : PySem.W.Frag} {σ : L2.St} {H H' : Hp} {ta tb tc te : TE} {x y z v : V} {bs cs : List Bool} {i j k : Int}
theorem el_eq {xs ys : List V} (h : EvL te σ H xs) (e : xs = ys) : EvL te σ H ys := e ▸ h
theorem el_mapRi {t1 : TA} {j : Nat} {vs : List Nat} {n : Int} (g : Nat → V) (h : EvA t1 σ H [.int n]) (hn : 0 ≤ n ∧ n ≤ 40000) (hw : ∀ x, wipe ((wipe σ vs).set j (some x)) vs = wipe σ vs)
    (he : ∀ (i : Nat) H1, Ex H H1 → i < n.toNat → Ev te ((wipe σ vs).set j (some (.int (i : Int)))) H1 (g i)) : EvL (tLc (iRng1 t1) (gName j) tYes te vs) σ H ((List.range n.toNat).map g) := by
  have e : n = (n.toNat : Int) := by omega
  rw [e] at h
  exact el_mapR g h (by omega) hw he
variable {D : Ends} {tu tz : TS}
/-- for sign in a row -/
theorem q_forS {tl : TE} {j : Nat} (h : Ev tl σ H (.str (enc bs))) (Pv : Nat → L2.St → Hp → Prop) (h0 : ∀ H1, Ex H H1 → Pv 0 σ H1)
    (hs : ∀ i b σ' H', bs[i]? = some b → Pv i σ' H' → tu { D with nx := Pv (i + 1), ct := Pv (i + 1), bk := tz D } (σ'.set j (some (.str (enc [b])))) H') (hd : ∀ σ' H', Pv bs.length σ' H' → tz D σ' H') :
    tSeq (tFor (iStr tl) (gName j) tu) tz D σ H := h H (Ex.refl H) _ fun H1 e => ⟨enc bs, rfl, for_it walk_str Pv (h0 H1 e) (fun _ _ _ _ _ => trivial) (fun i x σ' Ha Hb hi p y => by
      obtain ⟨rfl, c, hc, rfl⟩ := y
      have h2 : (enc bs).cps.toList[i]? = some c := by
        rw [Array.getElem?_toList]
        exact hc
      rw [cps_enc, List.getElem?_map] at h2
      cases hq : bs[i]? with
      | none =>
        rw [hq] at h2
        cases h2
      | some b =>
        rw [hq] at h2
        have e2 : sg b = c := Option.some.inj h2
        subst e2
        exact hs i b σ' Hb hq p) (fun σ' H' p => hd σ' H' (by
      have h4 := len_enc bs
      have h5 : (enc bs).length = (enc bs).cps.size := rfl
      have h6 : (enc bs).cps.size = bs.length := by omega
      rw [h6] at p
      exact p))⟩
end
end Eb
local macro_rules | `(tactic| walk_at "sz") => `(tactic| first | assumption | omega | decide | (simp only [List.length_append, List.length_cons, List.length_nil, List.length_map, List.length_replicate, List.length_range, List.length_reverse, Int.toNat_natCast]; omega))
local macro_rules | `(tactic| walk_at "pos") => `(tactic| first | assumption | omega | decide)
local macro_rules | `(tactic| walk_at "ix") => `(tactic| first | assumption | omega | decide | (simp only [List.length_append, List.length_cons, List.length_nil, List.length_map, List.length_replicate, List.length_range, List.length_reverse, Int.toNat_natCast]; omega))
local macro_rules | `(tactic| walk_at "div") => `(tactic| (refine ⟨?_, ?_⟩ <;> first | assumption | omega | decide))
local macro_rules | `(tactic| walk_at "mul") => `(tactic| first | exact Eb.mul_l (by omega) (by omega) | exact Eb.mul_r (by omega) (by omega) | exact Eb.mulx20 (by assumption) | assumption)
local macro_rules | `(tactic| walk_at "pow") => `(tactic| exact ⟨by decide, by decide, by decide⟩)
local macro_rules | `(tactic| walk_at "lst") => `(tactic| first | assumption | exact Evl.sq_of (by assumption) | exact Evl.st_of (by assumption))
local macro_rules | `(tactic| walk_at "ln") => `(tactic| first | assumption | omega | (simp only [List.length_append, List.length_cons, List.length_nil, List.length_map, List.length_replicate, List.length_range, List.length_reverse, Int.toNat_natCast]; omega))
local macro_rules | `(tactic| walk_at "pre") => `(tactic| first | assumption | omega | decide | exact Evl.sq_of (by assumption) | (simp only [List.length_append, List.length_cons, List.length_nil, List.length_map, List.length_replicate, List.length_range, List.length_reverse, Int.toNat_natCast]; omega) | (refine ⟨?_, ?_⟩ <;> walk_at "pre"))
local macro_rules | `(tactic| walk_at "rg") => `(tactic| (refine ⟨?_, ?_⟩ <;> first | assumption | omega | decide))
namespace Eb
open PySem L2
def topS (i : Nat) : Stmt := PySem.Challenge.pw_evenbeats_k01_whole_laid.main.body.getD i (.Pass ⟨0, 0, 0, 0⟩)
end Eb
namespace Eb
open PySem PySem.Spec PyProof.Rows L2 TL Evl
abbrev sLawSums : Stmt := topS 12
theorem scLawSums : FnScope ["_law_row", "_law_found", "_law_sign"] ["_law_row"] (defScope sLawSums) := ⟨rfl, rfl, rfl, by decide +kernel, rfl, by decide +kernel, by decide +kernel⟩
def sums (bs : List Bool) : List Int := (List.range (bs.length + 1)).map fun (i : Nat) => (((bs.take i).count true : Nat) : Int)
theorem sums_len (bs : List Bool) : (sums bs).length = bs.length + 1 := by
  unfold sums
  rw [List.length_map, List.length_range]
def sumsTo (bs : List Bool) (n : Nat) : List Int := (List.range (n + 1)).map fun (i : Nat) => (((bs.take i).count true : Nat) : Int)
theorem sumsTo_len (bs : List Bool) (n : Nat) : (sumsTo bs n).length = n + 1 := by
  unfold sumsTo
  rw [List.length_map, List.length_range]
theorem sumsTo_succ {bs : List Bool} {n : Nat} {b : Bool} (h : bs[n]? = some b) : sumsTo bs (n + 1) = sumsTo bs n ++ [(sumsTo bs n).getLast?.getD 0 + (if (decide ([b] = [true])) = true then 1 else 0)] := by
  have e : (sumsTo bs n).getLast?.getD 0 = (((bs.take n).count true : Nat) : Int) := by
    unfold sumsTo
    rw [List.range_succ, List.map_append, List.map_singleton, List.getLast?_append]
    rfl
  rw [e]
  unfold sumsTo
  rw [List.range_succ (n := n + 1), List.map_append, List.map_singleton, List.take_add_one, h, List.count_append]
  congr 2
  cases b <;> simp
def spLawSums (_ : PySem.W.Frag) : Sp := fun vs H Q _ => ∃ bs : List Bool, vs = [.str (enc bs)] ∧ bs.length ≤ 1000 ∧ RetL ((sums bs).map V.int) H Q
theorem spl__law_sums {K : PySem.W.Frag} {H : Hp} {bs : List Bool} (h : bs.length ≤ 1000) : SpL (spLawSums K) [.str (enc bs)] H ((sums bs).map V.int) := fun _ _ _ q _ => ⟨bs, rfl, h, q⟩
section
variable {P : Program} {w : World} {K : PySem.W.Frag} {mg : Str → Option Value} {base : Heap}
theorem ok__law_sums (D : DefAt K mg "_law_sums" sLawSums) : C8.Cal P w K mg base 1 "_law_sums" (spLawSums K) [] := by
  refine cal_of D (fun _ _ _ _ _ _ us hl => match us, hl with | [_], _ => rfl) scLawSums (fun vs H Q E h => ?_) (fun f cdv A outer s H vs Q E hr h => ?_)
  · obtain ⟨bs, rfl, _⟩ := h
    rfl
  · obtain ⟨bs, rfl, h1, k⟩ := h
    refine ⟨_, (pss_cons (ps_set (i := 1) scLawSums.nd rfl (Or.inl rfl) (pe_lst (pa_cons pe_int pa_nil)))
      (pss_cons (ps_for PassesOwn.never rfl (pi_str (pv 0)) (pg_name (i := 2) scLawSums.nd rfl (Or.inl rfl))
      (pss_one (ps_expr (pe_bm PySem.F.plainAttrs_list PySem.F.slot_list_append PySem.F.type_list_append mt_append (pv 1) (pa_cons (pe_op op_add (pe_ix (ix_listK (K := K) rfl) (pv 1) (pe_un un_neg pe_int) (fun _ _ => rfl)) (pe_ifExp (pt_cmpR op_eq (pv 2) pe_sx (nomark _)) pe_int pe_int)) pa_nil)))))
      (pss_one (ps_ret (pv 1))))), ?_⟩
    refine q_asgL (el_lst (ea_cons ev_c ea_nil) (by walk_at "sz")) fun l H1 hl e1 x1 => ?_
    refine q_forS (ev_var rfl) (fun i σ' H' => ∃ z, σ' = [some (.str (enc bs)), some (.ref l), z] ∧ Ex H H' ∧ H' l = some (.lst ((sumsTo bs i).map V.int)))
      (fun H2 e2 => ⟨none, rfl, e1.trans e2, e2 _ _ x1⟩) (fun i b σ' H' hi hp => ?_) (fun σ' H' hp => ?_)
    · obtain ⟨z, rfl, ex, hx⟩ := hp
      have hz := sumsTo_len bs i
      have hi2 := (List.getElem?_eq_some_iff.mp hi).1
      refine s_app hx (ev_var rfl) (ev_op (ev_op (ev_var rfl) (ev_un ev_c ru_neg) (rv_ixLm (by walk_at "lst") (by walk_at "ix"))) (ev_ifI (et_test (ev_op (ev_var rfl) ev_c rv_eqS)) ev_c ev_c) rv_I0) (by
        rw [List.length_map]
        omega) fun H3 e3 => ?_
      refine ⟨_, rfl, Ex.mut (ex.trans e3) hl, ?_⟩
      rw [upd_same, sumsTo_succ hi, List.map_append]
      rfl
    · obtain ⟨z, rfl, ex, hx⟩ := hp
      exact s_ret (ev_var rfl) fun H3 e3 => k.go (Ex.refl H) hl (ex.trans e3) (e3 _ _ hx)
end
end Eb
namespace Eb
open PySem PySem.Spec PyProof.Rows L2 TL Evl
abbrev sReckonedPlaces : Stmt := topS 7
theorem scReckonedPlaces : FnScope ["beats", "places", "shift", "many", "at"] ["beats", "places", "shift", "many"] (defScope sReckonedPlaces) := ⟨rfl, rfl, rfl, by decide +kernel, rfl, by decide +kernel, by decide +kernel⟩
def reck (b p s : Int) (n : Nat) : List Bool := (List.range n).map fun (i : Nat) => decide ((s + (i : Int) * b) % p < b)
theorem reck_len (b p s : Int) (n : Nat) : (reck b p s n).length = n := by
  unfold reck
  rw [List.length_map, List.length_range]
def spReckonedPlaces (_ : PySem.W.Frag) : Sp := fun vs H Q _ => ∃ b p s m : Int, vs = [.int b, .int p, .int s, .int m] ∧ (0 < p ∧ 0 ≤ m ∧ m ≤ 1000) ∧ RetV (.str (enc (reck b p s m.toNat))) H Q
theorem spv_reckoned_places {K : PySem.W.Frag} {H : Hp} {b p s m : Int} (h : 0 < p ∧ 0 ≤ m ∧ m ≤ 1000) : SpV (spReckonedPlaces K) [.int b, .int p, .int s, .int m] H (.str (enc (reck b p s m.toNat))) := fun _ _ _ q _ => ⟨b, p, s, m, rfl, h, q⟩
section
variable {P : Program} {w : World} {K : PySem.W.Frag} {mg : Str → Option Value} {base : Heap}
theorem ok_reckoned_places (D : DefAt K mg "reckoned_places" sReckonedPlaces) (B : Bn mg) (T : Tx mg) : C8.Cal P w K mg base 1 "reckoned_places" (spReckonedPlaces K) [] := by
  refine cal_of D (fun _ _ _ _ _ _ us hl => match us, hl with | [_, _, _, _], _ => rfl) scReckonedPlaces (fun vs H Q E h => ?_) (fun f cdv A outer s H vs Q E hr h => ?_)
  · obtain ⟨b, p, s, m, rfl, _⟩ := h
    rfl
  · obtain ⟨b, p, s, m, rfl, ⟨h1, h2, h3⟩, k⟩ := h
    refine ⟨_, (pss_one (ps_ret (pe_join pe_s0 (pe_lc (own := [("at", 4)]) (g := gName 4) rfl scReckonedPlaces.nd (pi_range1 rfl B.range_ (pa_cons (pv 3) pa_nil)) (blkOk_by (own := [("at", 4)]) (N := ["beats", "places", "shift", "many", "at"]) (sc := defScope sReckonedPlaces) (by decide +kernel)) (fun _ _ _ _ _ => (pg_name (i := 4) scReckonedPlaces.nd rfl (Or.inl rfl))) (fun _ _ _ _ _ => pts_nil) (fun _ _ _ _ _ => (pe_ifExp (pt_cmp (pc_lt (pe_op op_mod (pe_op op_add (pv 2) (pe_op op_mul (pv 4) (pv 0))) (pv 1)) (pv 0))) (C8.pe_gc rfl T.beat) (C8.pe_gc rfl T.rest))))))), ?_⟩
    exact s_ret (ev_join1N ev_c (el_mapRi _ (ea_cons (ev_var rfl) ea_nil) (by walk_at "rg") (fun _ => rfl) (fun i9 H9 e9 h9 => Ev.mono e9 (ev_ifS (et_B (ev_cmp (ev_op (ev_op (ev_var rfl) (ev_op (ev_var rfl) (ev_var rfl) (rv_I (by walk_at "mul"))) rv_I0) (ev_var rfl) (rv_I (by walk_at "pos"))) (ev_var rfl))) ev_c ev_c))) (by walk_at "sz")) k
end
end Eb
/-! ### beats laid by a reckoning, counted -/
namespace Eb
/-- how many beats there are ahead of a place -/
def cbt (bs : List Bool) (i : Nat) : Int := (((bs.take i).count true : Nat) : Int)
theorem cbt_zero (bs : List Bool) : cbt bs 0 = 0 := by
  unfold cbt
  rw [List.take_zero]
  rfl
theorem cbt_all {bs : List Bool} {i : Nat} (h : bs.length ≤ i) : cbt bs i = ((bs.count true : Nat) : Int) := by
  unfold cbt
  rw [List.take_of_length_le h]
theorem cbt_succ {bs : List Bool} {i : Nat} (h : i < bs.length) : cbt bs (i + 1) = cbt bs i + (if bs[i] then 1 else 0) := by
  unfold cbt
  rw [List.take_add_one, List.getElem?_eq_getElem h, List.count_append]
  cases bs[i] <;> simp
theorem beat_floor {x p b : Int} (hp : 0 < p) (h0 : 0 ≤ b) (h1 : b ≤ p) : (if x % p < b then (1 : Int) else 0) = x / p - (x - b) / p := by
  have e : x = x % p + p * (x / p) := by
    have := Int.emod_add_mul_ediv x p
    omega
  have r0 := Int.emod_nonneg x (by omega : p ≠ 0)
  have r1 := Int.emod_lt_of_pos x hp
  generalize x / p = q at *
  generalize x % p = r at *
  by_cases h : r < b
  · rw [if_pos h]
    have e2 : x - b = (r - b + p) + p * (q - 1) := by
      rw [e, Int.mul_sub]
      omega
    rw [e2, Int.add_mul_ediv_left _ _ (by omega), Int.ediv_eq_zero_of_lt (by omega) (by omega)]
    omega
  · rw [if_neg h]
    have e2 : x - b = (r - b) + p * q := by
      rw [e]
      omega
    rw [e2, Int.add_mul_ediv_left _ _ (by omega), Int.ediv_eq_zero_of_lt (by omega) (by omega)]
    omega
theorem reck_get {b p s : Int} {n i : Nat} (h : i < n) : (reck b p s n)[i]? = some (decide ((s + (i : Int) * b) % p < b)) := by
  unfold reck
  rw [List.getElem?_map, List.getElem?_range h]
  rfl
theorem reck_take {b p s : Int} {n i : Nat} (h : i ≤ n) : (reck b p s n).take i = reck b p s i := by
  unfold reck
  rw [← List.map_take, List.take_range, Nat.min_eq_left h]
theorem cbt_reck {b p s : Int} (hp : 0 < p) (h0 : 0 ≤ b) (h1 : b ≤ p) {n : Nat} : ∀ {i : Nat}, i ≤ n → cbt (reck b p s n) i = (s - b + (i : Int) * b) / p - (s - b) / p
  | 0, _ => by
    rw [cbt_zero]
    simp
  | i + 1, hi => by
    have hl : i < (reck b p s n).length := by
      rw [reck_len]
      exact hi
    rw [cbt_succ hl, cbt_reck hp h0 h1 (by omega : i ≤ n)]
    have g : (reck b p s n)[i] = decide ((s + (i : Int) * b) % p < b) := by
      have := reck_get (b := b) (p := p) (s := s) (n := n) (i := i) hi
      rw [List.getElem?_eq_getElem hl] at this
      exact Option.some.inj this
    rw [g]
    have f := beat_floor (x := s + (i : Int) * b) hp h0 h1
    have e1 : s - b + ((i + 1 : Nat) : Int) * b = s + (i : Int) * b := by
      rw [Int.natCast_succ, Int.add_mul]
      omega
    have e2 : s + (i : Int) * b - b = s - b + (i : Int) * b := by omega
    rw [e1, ← e2]
    by_cases hd : (s + (i : Int) * b) % p < b
    · rw [if_pos hd] at f
      simp only [decide_eq_true hd, if_true]
      omega
    · rw [if_neg hd] at f
      simp only [decide_eq_false hd]
      simp
      omega
/-! sums over a range -/
def smr (n : Nat) (f : Nat → Int) : Int := ((List.range n).map f).sum
theorem smr_zero (f : Nat → Int) : smr 0 f = 0 := rfl
theorem smr_succ (n : Nat) (f : Nat → Int) : smr (n + 1) f = smr n f + f n := by
  unfold smr
  rw [List.range_succ, List.map_append, List.sum_append]
  simp
theorem smr_shift (f : Nat → Int) : ∀ n, smr n (fun i => f (i + 1)) - smr n f = f n - f 0
  | 0 => by
    rw [smr_zero, smr_zero]
    omega
  | n + 1 => by
    have := smr_shift f n
    rw [smr_succ, smr_succ]
    omega
theorem smr_le {f g : Nat → Int} : ∀ n, (∀ i, i < n → f i ≤ g i) → smr n f ≤ smr n g
  | 0, _ => Int.le_refl _
  | n + 1, h => by
    have h1 := smr_le n fun i hi => h i (by omega)
    have h2 := h n (by omega)
    rw [smr_succ, smr_succ]
    omega
theorem smr_const (c : Int) : ∀ n, smr n (fun _ => c) = (n : Int) * c
  | 0 => by
    rw [smr_zero]
    simp
  | n + 1 => by
    rw [smr_succ, smr_const c n, Int.natCast_succ, Int.add_mul]
    omega
theorem smr_lt {f : Nat → Int} {c : Int} {k : Nat} : ∀ n, (∀ i, i < n → c ≤ f i) → k < n → c < f k → (n : Int) * c < smr n f
  | 0, _, hk, _ => absurd hk (Nat.not_lt_zero _)
  | n + 1, h, hk, hc => by
    rw [smr_succ, Int.natCast_succ, Int.add_mul]
    by_cases e : k = n
    · subst e
      have h1 := smr_le k (f := fun _ => c) (g := f) fun i hi => h i (by omega)
      rw [smr_const] at h1
      omega
    · have h1 := smr_lt n (fun i hi => h i (by omega)) (by omega : k < n) hc
      have h2 := h n (by omega)
      omega
/-! a ring told twice: heights -/
section
variable {bs : List Bool}
def crn (bs : List Bool) (i : Nat) : Int := cbt (bs ++ bs) i
theorem crn_low {i : Nat} (h : i ≤ bs.length) : crn bs i = cbt bs i := by
  unfold crn cbt
  rw [List.take_append_of_le_length h]
theorem crn_high (j : Nat) : crn bs (bs.length + j) = cbt bs bs.length + cbt bs j := by
  unfold crn cbt
  rw [List.take_length_add_append, List.count_append, List.take_length]
  omega
/-- how much a place stands above the even line, in parts of the count of places -/
def hgt (bs : List Bool) (i : Nat) : Int := (bs.length : Int) * crn bs i - (i : Int) * cbt bs bs.length
theorem hgt_wrap {j : Nat} (h : j ≤ bs.length) : hgt bs (bs.length + j) = hgt bs j := by
  unfold hgt
  rw [crn_high, crn_low h]
  grind
theorem hgt_mod {i : Nat} (h : i < 2 * bs.length) : hgt bs i = hgt bs (i % bs.length) := by
  by_cases hi : i < bs.length
  · rw [Nat.mod_eq_of_lt hi]
  · have e : i = bs.length + (i - bs.length) := by omega
    rw [e, hgt_wrap (by omega), Nat.add_mod_left, Nat.mod_eq_of_lt (by omega)]
/-- beats in a stretch -/
def stc (bs : List Bool) (i m : Nat) : Int := crn bs (i + m) - crn bs i
theorem stc_ht (i m : Nat) : (bs.length : Int) * stc bs i m = (m : Int) * cbt bs bs.length + (hgt bs (i + m) - hgt bs i) := by
  unfold stc hgt
  grind
theorem stc_sum (bs : List Bool) : ∀ m, m ≤ bs.length → smr bs.length (fun i => stc bs i m) = (m : Int) * cbt bs bs.length
  | 0, _ => by
    have e : smr bs.length (fun i => stc bs i 0) = smr bs.length (fun _ => 0) := by
      unfold smr
      congr 1
      refine List.map_congr_left fun i _ => ?_
      unfold stc
      rw [Nat.add_zero]
      omega
    rw [e, smr_const]
    simp
  | m + 1, h => by
    have ih := stc_sum bs m (by omega)
    have t := smr_shift (fun i => crn bs (i + m)) bs.length
    have e1 : smr bs.length (fun i => stc bs i (m + 1)) - smr bs.length (fun i => stc bs i m) = smr bs.length (fun i => crn bs (i + 1 + m)) - smr bs.length (fun i => crn bs (i + m)) := by
      have gen : ∀ n, smr n (fun i => stc bs i (m + 1)) - smr n (fun i => stc bs i m) = smr n (fun i => crn bs (i + 1 + m)) - smr n (fun i => crn bs (i + m)) := by
        intro n
        induction n with
        | zero => rfl
        | succ n ih =>
          rw [smr_succ, smr_succ, smr_succ, smr_succ]
          have e2 : n + (m + 1) = n + 1 + m := by omega
          unfold stc at ih ⊢
          rw [e2]
          omega
      exact gen _
    have e3 : crn bs (bs.length + m) - crn bs (0 + m) = cbt bs bs.length := by
      rw [crn_high, Nat.zero_add, crn_low (by omega)]
      omega
    rw [Int.natCast_succ, Int.add_mul]
    omega
/-- of any two stretches of as many places the one has at most one beat more -/
def EvenR (bs : List Bool) : Prop := ∀ m i j, m < bs.length → i < bs.length → j < bs.length → stc bs i m ≤ stc bs j m + 1
/-- no two places stand apart by as many parts as there are places -/
def Flat (bs : List Bool) : Prop := ∀ i j, i < bs.length → j < bs.length → hgt bs i - hgt bs j < bs.length
theorem flat_even (h : Flat bs) : EvenR bs := by
  intro m i j hm hi hj
  have h1 := stc_ht (bs := bs) i m
  have h2 := stc_ht (bs := bs) j m
  have h3 := h ((i + m) % bs.length) ((j + m) % bs.length) (Nat.mod_lt _ (by omega)) (Nat.mod_lt _ (by omega))
  rw [← hgt_mod (by omega), ← hgt_mod (by omega)] at h3
  have h4 := h j i hj hi
  have h5 : (bs.length : Int) * (stc bs i m - stc bs j m) < (bs.length : Int) * 2 := by
    rw [Int.mul_sub]
    omega
  have h6 := Int.lt_of_mul_lt_mul_left h5 (by omega)
  omega
/-- two places that stand apart: the stretch from the low one on has one beat more than its share -/
theorem apart_more {p q : Nat} (hp : p < bs.length) (hq : q < bs.length) (h : (bs.length : Int) ≤ hgt bs p - hgt bs q) :
    ∃ m, m = (((p : Int) - (q : Int)) % (bs.length : Int)).toNat ∧ 0 < m ∧ m < bs.length ∧ (m : Int) * cbt bs bs.length + (bs.length : Int) ≤ (bs.length : Int) * stc bs q m := by
  have hn : (0 : Int) < bs.length := by omega
  have m0 := Int.emod_nonneg ((p : Int) - (q : Int)) (by omega : (bs.length : Int) ≠ 0)
  have m1 := Int.emod_lt_of_pos ((p : Int) - (q : Int)) hn
  have key : q + (((p : Int) - (q : Int)) % (bs.length : Int)).toNat = p ∨ q + (((p : Int) - (q : Int)) % (bs.length : Int)).toNat = bs.length + p := by
    by_cases hpq : q ≤ p
    · left
      rw [Int.emod_eq_of_lt (by omega) (by omega)]
      omega
    · right
      have e : ((p : Int) - (q : Int)) % (bs.length : Int) = (p : Int) - (q : Int) + bs.length := by
        rw [← Int.add_emod_right, Int.emod_eq_of_lt (by omega) (by omega)]
      rw [e]
      omega
  refine ⟨_, rfl, ?_, ?_, ?_⟩
  · rcases Nat.eq_zero_or_pos (((p : Int) - (q : Int)) % (bs.length : Int)).toNat with z | z
    · rw [z] at key
      have e : p = q := by omega
      subst e
      omega
    · exact z
  · omega
  · rw [stc_ht]
    have e : hgt bs (q + (((p : Int) - (q : Int)) % (bs.length : Int)).toNat) = hgt bs p := by
      rcases key with k | k
      · rw [k]
      · rw [k, hgt_wrap (by omega)]
    rw [e]
    omega
theorem more_apart {q m : Nat} (hq : q < bs.length) (hm : m < bs.length) (h : (m : Int) * cbt bs bs.length + (bs.length : Int) ≤ (bs.length : Int) * stc bs q m) : ∃ j, j < bs.length ∧ stc bs j m + 2 ≤ stc bs q m := by
  refine Classical.byContradiction fun hno => ?_
  have hall : ∀ i, i < bs.length → stc bs q m - 1 ≤ stc bs i m := fun i hi => by
    refine Classical.byContradiction fun hc => hno ⟨i, hi, ?_⟩
    omega
  have s1 := smr_lt (f := fun i => stc bs i m) (c := stc bs q m - 1) (k := q) bs.length hall hq (by omega)
  rw [stc_sum bs m (by omega), Int.mul_sub] at s1
  omega
theorem even_flat (h : EvenR bs) : Flat bs := by
  intro p q hp hq
  refine Classical.byContradiction fun hc => ?_
  obtain ⟨m, _, hm0, hm, hs⟩ := apart_more hp hq (by omega)
  obtain ⟨j, hj, h2⟩ := more_apart hq hm hs
  have := h m q j hm hq hj
  omega
theorem even_iff : EvenR bs ↔ Flat bs := ⟨even_flat, flat_even⟩
end
end Eb
/-! ### the sums of a row; evenness as the law asks it -/
namespace Eb
open L2
theorem sums_get {bs : List Bool} {k : Nat} (h : k ≤ bs.length) : (sums bs).getD k 0 = cbt bs k := by
  unfold sums
  rw [List.getD_eq_getElem?_getD, List.getElem?_map, List.getElem?_range (by omega)]
  rfl
def cnts (bs : List Bool) (m : Nat) : List Int := (List.range bs.length).map fun i => stc bs i m
theorem cnts_len (bs : List Bool) (m : Nat) : (cnts bs m).length = bs.length := by
  unfold cnts
  rw [List.length_map, List.length_range]
theorem cnts_get {bs : List Bool} {m i : Nat} (h : i < bs.length) : (cnts bs m).getD i 0 = stc bs i m := by
  unfold cnts
  rw [List.getD_eq_getElem?_getD, List.getElem?_map, List.getElem?_range h]
  rfl
theorem cnts_mem {bs : List Bool} {m i : Nat} (h : i < bs.length) : stc bs i m ∈ cnts bs m := List.mem_map.mpr ⟨i, List.mem_range.mpr h, rfl⟩
theorem mem_cnts {bs : List Bool} {m : Nat} {z : Int} (h : z ∈ cnts bs m) : ∃ i, i < bs.length ∧ stc bs i m = z := by
  obtain ⟨i, hi, e⟩ := List.mem_map.mp h
  exact ⟨i, List.mem_range.mp hi, e⟩
def okW (bs : List Bool) (m : Nat) : Bool := decide (mx (cnts bs m) ≤ mn (cnts bs m) + 1)
theorem okW_iff {bs : List Bool} {m : Nat} (hn : 0 < bs.length) : okW bs m = true ↔ ∀ i j, i < bs.length → j < bs.length → stc bs i m ≤ stc bs j m + 1 := by
  have hl : 0 < (cnts bs m).length := by
    rw [cnts_len]
    exact hn
  obtain ⟨a1, a2⟩ := mx_mem hl
  obtain ⟨b1, b2⟩ := mn_mem hl
  unfold okW
  rw [decide_eq_true_eq]
  constructor
  · intro h i j hi hj
    have h1 := a2 _ (cnts_mem (m := m) hi)
    have h2 := b2 _ (cnts_mem (m := m) hj)
    omega
  · intro h
    obtain ⟨i, hi, e1⟩ := mem_cnts a1
    obtain ⟨j, hj, e2⟩ := mem_cnts b1
    have := h i j hi hj
    omega
def isEv (bs : List Bool) : Bool := (List.range (bs.length - 1)).all fun k => okW bs (k + 1)
theorem isEv_iff {bs : List Bool} (hn : 0 < bs.length) : isEv bs = true ↔ EvenR bs := by
  unfold isEv EvenR
  rw [List.all_eq_true]
  constructor
  · intro h m i j hm hi hj
    cases m with
    | zero =>
      unfold stc
      rw [Nat.add_zero, Nat.add_zero]
      omega
    | succ m =>
      exact (okW_iff hn).mp (h m (List.mem_range.mpr (by omega))) i j hi hj
  · intro h k hk
    have hk2 := List.mem_range.mp hk
    exact (okW_iff hn).mpr fun i j hi hj => h (k + 1) i j (by omega) hi hj
theorem isEv_flat {bs : List Bool} (hn : 0 < bs.length) : isEv bs = true ↔ Flat bs := (isEv_iff hn).trans even_iff
/-- the counts as they are reckoned from the sums of the ring told twice -/
theorem cnts_eq {bs : List Bool} {m : Int} (h0 : 0 ≤ m) (h1 : m ≤ bs.length) : ((List.range ((bs.length : Nat) : Int).toNat).map fun (i : Nat) => V.int ((sums (bs ++ bs)).getD ((i : Int) + m).toNat 0 - (sums (bs ++ bs)).getD ((i : Int)).toNat 0)) = (cnts bs m.toNat).map V.int := by
  unfold cnts
  rw [List.map_map, Int.toNat_natCast]
  refine List.map_congr_left fun i hi => ?_
  have hi2 := List.mem_range.mp hi
  show V.int _ = V.int _
  rw [sums_get (by rw [List.length_append]; omega), sums_get (by rw [List.length_append]; omega)]
  have e1 : ((i : Int) + m).toNat = i + m.toNat := by omega
  rw [e1, Int.toNat_natCast]
  rfl
end Eb
namespace Eb
open PySem PySem.Spec PyProof.Rows L2 TL Evl
abbrev sLawIsEven : Stmt := topS 13
theorem scLawIsEven : FnScope ["_law_ring", "_law_sums_here", "_law_many", "_law_counts", "_law_at"] ["_law_ring"] (defScope sLawIsEven) := ⟨rfl, rfl, rfl, by decide +kernel, rfl, by decide +kernel, by decide +kernel⟩
def spLawIsEven (_ : PySem.W.Frag) : Sp := fun vs H Q _ => ∃ bs : List Bool, vs = [.str (enc bs)] ∧ (0 < bs.length ∧ bs.length ≤ 400) ∧ RetV (.bl (isEv bs)) H Q
theorem spv__law_is_even {K : PySem.W.Frag} {H : Hp} {bs : List Bool} (h : 0 < bs.length ∧ bs.length ≤ 400) : SpV (spLawIsEven K) [.str (enc bs)] H (.bl (isEv bs)) := fun _ _ _ q _ => ⟨bs, rfl, h, q⟩
section
variable {P : Program} {w : World} {K : PySem.W.Frag} {mg : Str → Option Value} {base : Heap}
theorem ok__law_is_even (D : DefAt K mg "_law_is_even" sLawIsEven) (B : Bn mg) (c__law_sums : C8.Cal P w K mg base 1 "_law_sums" (spLawSums K) []) : C8.Cal P w K mg base 2 "_law_is_even" (spLawIsEven K) [] := by
  refine cal_of D (fun _ _ _ _ _ _ us hl => match us, hl with | [_], _ => rfl) scLawIsEven (fun vs H Q E h => ?_) (fun f cdv A outer s H vs Q E hr h => ?_)
  · obtain ⟨bs, rfl, _⟩ := h
    rfl
  · obtain ⟨bs, rfl, ⟨h0, h1⟩, k⟩ := h
    refine ⟨_, (pss_cons (ps_set (i := 1) scLawIsEven.nd rfl (Or.inr rfl) (C8.pe_c c__law_sums hr (by decide) (by rfl) (pa_cons (pe_op op_add_str (pv 0) (pv 0)) pa_nil)))
      (pss_cons (ps_for PassesOwn.never rfl (pi_range2 rfl B.range_ (pa_cons pe_int (pa_cons (pe_callB call_len_str (by rfl) B.len_ PySem.boot_len (pa_cons (pv 0) pa_nil)) pa_nil))) (pg_name (i := 2) scLawIsEven.nd rfl (Or.inr rfl))
      (pss_cons (ps_setLc (i := 3) (own := [("_law_at", 4)]) (g := gName 4) rfl scLawIsEven.nd rfl rfl (sw_true rfl rfl rfl (by decide +kernel)) (pi_range1 rfl B.range_ (pa_cons (pe_callB call_len_str (by rfl) B.len_ PySem.boot_len (pa_cons (pv 0) pa_nil)) pa_nil)) (blkOk_by (own := [("_law_at", 4)]) (N := ["_law_ring", "_law_sums_here", "_law_many", "_law_counts", "_law_at"]) (sc := defScope sLawIsEven) (by decide +kernel)) (fun _ _ _ _ _ => (pg_name (i := 4) scLawIsEven.nd rfl (Or.inl rfl))) (fun _ _ _ _ _ => pts_nil) (fun _ _ _ _ _ => (pe_op op_sub (pe_ix (ix_listK (K := K) rfl) (pv 1) (pe_op op_add (pv 4) (pv 2)) (fun _ _ => rfl)) (pe_ix (ix_listK (K := K) rfl) (pv 1) (pv 4) (fun _ _ => rfl)))))
      (pss_one (ps_if (pt_cmp (pc_gt (pe_callB (cr_maxK (K := K) rfl rfl) (by rfl) B.max_ (by decide +kernel) (pa_cons (pv 3) pa_nil)) (pe_op op_add (pe_callB (cr_minK (K := K) rfl rfl) (by rfl) B.min_ (by decide +kernel) (pa_cons (pv 3) pa_nil)) pe_int)))
      (pss_one (ps_ret pe_bl))
      pss_nil))))
      (pss_one (ps_ret pe_bl)))), ?_⟩
    refine q_asgL (el_call (ea_cons (ev_op (ev_var rfl) (ev_var rfl) (rv_catS (by walk_at "sz") (by walk_at "sz"))) ea_nil) (spl__law_sums (by walk_at "pre"))) fun p H1 hp e1 x1 => ?_
    have hsl := sums_len (bs ++ bs)
    rw [List.length_append] at hsl
    refine q_forR2 (ea_cons ev_c (ea_cons (ev_cb (ea_cons (ev_var rfl) ea_nil) (rc_lenS (by walk_at "sz"))) ea_nil)) ⟨by decide, by decide, by omega, by omega⟩ (fun i σ' H' => ∃ z1 z2 z3, σ' = [some (.str (enc bs)), some (.ref p), z1, z2, z3] ∧ Ex H1 H' ∧ ((List.range i).all fun k => okW bs (k + 1)) = true)
      (fun H2 e2 => ⟨none, none, none, rfl, e2, rfl⟩) (fun i σ' H' hi hp => ?_) (fun σ' H' hp => ?_)
    · obtain ⟨z1, z2, z3, rfl, ex, hall⟩ := hp
      have hx : SqL K H' p ((sums (bs ++ bs)).map V.int) := ex_l ex (sq_of x1)
      refine q_asgL (el_eq (el_mapRi _ (ea_cons (ev_cb (ea_cons (ev_var rfl) ea_nil) (rc_lenS (by walk_at "sz"))) ea_nil) (by walk_at "rg") (fun _ => rfl) (fun i9 H9 e9 h9 => Ev.mono e9 (ev_op (ev_op (ev_var rfl) (ev_op (ev_var rfl) (ev_var rfl) rv_I0) (rv_ixLg (by walk_at "lst") (by walk_at "ix") (by walk_at "ix"))) (ev_op (ev_var rfl) (ev_var rfl) (rv_ixLg (by walk_at "lst") (by walk_at "ix") (by walk_at "ix"))) rv_I0))) (cnts_eq (by omega) (by omega))) fun c H2 hc e2 x2 => ?_
      have hcl := cnts_len bs (1 + (i : Int)).toNat
      have e3 : (1 + (i : Int)).toNat = i + 1 := by omega
      rw [e3] at x2 hcl
      refine s_when (et_B (ev_cmp (ev_cb (ea_cons (ev_var rfl) ea_nil) (rc_max (by walk_at "lst") (by walk_at "ln"))) (ev_op (ev_cb (ea_cons (ev_var rfl) ea_nil) (rc_min (by walk_at "lst") (by walk_at "ln"))) ev_c rv_I0))) (fun hb H3 e3 => ?_) (fun hb H3 e3 => ?_)
      · refine s_ret ev_c fun H4 e4 => ?_
        have hf : isEv bs = false := by
          unfold isEv
          rw [List.all_eq_false]
          refine ⟨i, List.mem_range.mpr (by omega), ?_⟩
          unfold okW
          have := of_decide_eq_true hb
          rw [decide_eq_true_eq]
          omega
        rw [← hf]
        exact k.go ((((e1.trans ex).trans e2).trans e3).trans e4)
      · refine ⟨_, _, _, rfl, (ex.trans e2).trans e3, ?_⟩
        rw [List.range_succ, List.all_append, hall]
        simp only [List.all_cons, List.all_nil, Bool.and_true, Bool.true_and]
        unfold okW
        have := of_decide_eq_false hb
        exact decide_eq_true (by omega)
    · obtain ⟨z1, z2, z3, rfl, ex, hall⟩ := hp
      refine s_ret ev_c fun H4 e4 => ?_
      have hf : isEv bs = true := by
        unfold isEv
        have e3 : (((bs.length : Nat) : Int) - 1).toNat = bs.length - 1 := by omega
        rw [e3] at hall
        exact hall
      rw [← hf]
      exact k.go ((e1.trans ex).trans e4)
end
end Eb
namespace Eb
open PySem PySem.Spec PyProof.Rows L2 TL Evl
abbrev sLawReckoned : Stmt := topS 11
theorem scLawReckoned : FnScope ["_law_beats", "_law_places", "_law_shift", "_law_many", "_law_rest", "_law_signs", "_law_at"] ["_law_beats", "_law_places", "_law_shift", "_law_many"] (defScope sLawReckoned) := ⟨rfl, rfl, rfl, by decide +kernel, rfl, by decide +kernel, by decide +kernel⟩
def spLawReckoned (_ : PySem.W.Frag) : Sp := fun vs H Q _ => ∃ b p s m : Int, vs = [.int b, .int p, .int s, .int m] ∧ (0 < p ∧ 0 ≤ m ∧ m ≤ 1000) ∧ RetV (.str (enc (reck b p s m.toNat))) H Q
theorem spv__law_reckoned {K : PySem.W.Frag} {H : Hp} {b p s m : Int} (h : 0 < p ∧ 0 ≤ m ∧ m ≤ 1000) : SpV (spLawReckoned K) [.int b, .int p, .int s, .int m] H (.str (enc (reck b p s m.toNat))) := fun _ _ _ q _ => ⟨b, p, s, m, rfl, h, q⟩
theorem reck_succ (b p s : Int) (n : Nat) : reck b p s (n + 1) = reck b p s n ++ [decide ((s + (n : Int) * b) % p < b)] := by
  unfold reck
  rw [List.range_succ, List.map_append]
  rfl
theorem rest_succ (b p s : Int) (n : Nat) : ((s + (n : Int) * b) % p + b) % p = (s + ((n + 1 : Nat) : Int) * b) % p := by
  rw [Int.emod_add_emod]
  congr 1
  rw [Int.natCast_succ, Int.add_mul]
  omega
section
variable {P : Program} {w : World} {K : PySem.W.Frag} {mg : Str → Option Value} {base : Heap}
theorem ok__law_reckoned (D : DefAt K mg "_law_reckoned" sLawReckoned) (B : Bn mg) : C8.Cal P w K mg base 1 "_law_reckoned" (spLawReckoned K) [] := by
  refine cal_of D (fun _ _ _ _ _ _ us hl => match us, hl with | [_, _, _, _], _ => rfl) scLawReckoned (fun vs H Q E h => ?_) (fun f cdv A outer s H vs Q E hr h => ?_)
  · obtain ⟨b, p, s, m, rfl, _⟩ := h
    rfl
  · obtain ⟨b, p, s, m, rfl, ⟨h1, h2, h3⟩, k⟩ := h
    refine ⟨_, (pss_cons (ps_set (i := 4) scLawReckoned.nd rfl (Or.inl rfl) (pe_op op_mod (pv 2) (pv 1)))
      (pss_cons (ps_set (i := 5) scLawReckoned.nd rfl (Or.inl rfl) (pe_lst pa_nil))
      (pss_cons (ps_for PassesOwn.never rfl (pi_range1 rfl B.range_ (pa_cons (pv 3) pa_nil)) (pg_name (i := 6) scLawReckoned.nd rfl (Or.inl rfl))
      (pss_cons (ps_expr (pe_bm PySem.F.plainAttrs_list PySem.F.slot_list_append PySem.F.type_list_append mt_append (pv 5) (pa_cons (pe_ifExp (pt_cmp (pc_lt (pv 4) (pv 0))) pe_sx pe_sd) pa_nil)))
      (pss_one (ps_set (i := 4) scLawReckoned.nd rfl (Or.inl rfl) (pe_op op_mod (pe_op op_add (pv 4) (pv 0)) (pv 1))))))
      (pss_one (ps_ret (pe_join pe_s0 (pv 5))))))), ?_⟩
    refine q_asg (ev_op (ev_var rfl) (ev_var rfl) (rv_I (by walk_at "pos"))) fun H1 e1 => ?_
    refine q_asgL (el_lst ea_nil (by walk_at "sz")) fun l H2 hl e2 x2 => ?_
    have hl0 : H l = none := fresh_back e1 hl
    have e02 := e1.trans e2
    refine q_forR1 (ea_cons (ev_var rfl) ea_nil) ⟨h2, by omega⟩ (fun i σ' H' => ∃ z, σ' = [some (.int b), some (.int p), some (.int s), some (.int m), some (.int ((s + (i : Int) * b) % p)), some (.ref l), z] ∧ Ex H H' ∧ H' l = some (.lst ((reck b p s i).map fun c => V.str (enc [c]))))
      (fun H3 e3 => ⟨none, by
        rw [show s + ((0 : Nat) : Int) * b = s by simp]
        rfl, e02.trans e3, e3 _ _ x2⟩) (fun i σ' H' hi hp => ?_) (fun σ' H' hp => ?_)
    · obtain ⟨z, rfl, ex, hx⟩ := hp
      refine q_app hx (ev_var rfl) (ev_ifS (et_B (ev_cmp (ev_var rfl) (ev_var rfl))) ev_c ev_c) (by
        rw [List.length_map, reck_len]
        omega) fun H3 e3 => ?_
      refine s_asg (ev_op (ev_op (ev_var rfl) (ev_var rfl) rv_I0) (ev_var rfl) (rv_I (by walk_at "pos"))) fun H4 e4 => ?_
      refine ⟨some (.int (i : Int)), ?_, (Ex.mut (ex.trans e3) hl0).trans e4, e4 _ _ ?_⟩
      · rw [rest_succ]
        rfl
      · rw [upd_same, reck_succ, List.map_append]
        rfl
    · obtain ⟨z, rfl, ex, hx⟩ := hp
      have hz := reck_len b p s m.toNat
      exact s_ret (ev_join1L ev_c (ev_var rfl) (by walk_at "lst") (by walk_at "sz")) fun H3 e3 => k.go (ex.trans e3)
end
end Eb
namespace Eb
open PySem PySem.Spec PyProof.Rows L2 TL Evl
abbrev sIsNumber : Stmt := topS 6
theorem scIsNumber : FnScope ["thing"] ["thing"] (defScope sIsNumber) := ⟨rfl, rfl, rfl, by decide +kernel, rfl, by decide +kernel, by decide +kernel⟩
def spIsNumber (K : PySem.W.Frag) : Sp := fun vs H Q _ => ∃ (x : V) (t : Value) (b c : Bool), vs = [x] ∧ (∀ H1, Ex H H1 → TyX K H1 x t) ∧ PySem.W.kitOne K t (.type "int") = some b ∧ PySem.W.kitOne K t (.type "bool") = some c ∧ RetV (.bl (b && !c)) H Q
theorem spv_is_number {K : PySem.W.Frag} {H : Hp} {i : Int} (_ : True) : SpV (spIsNumber K) [.int i] H (.bl true) := fun _ _ _ q _ => ⟨.int i, .type "int", true, false, rfl, fun _ _ => .base (.int i), kit_ty (by decide +kernel), kit_ty (by decide +kernel), q⟩
section
variable {P : Program} {w : World} {K : PySem.W.Frag} {mg : Str → Option Value} {base : Heap}
theorem ok_is_number (D : DefAt K mg "is_number" sIsNumber) (B : Bn mg) : C8.Cal P w K mg base 1 "is_number" (spIsNumber K) [] := by
  refine cal_of D (fun _ _ _ _ _ _ us hl => match us, hl with | [_], _ => rfl) scIsNumber (fun vs H Q E h => ?_) (fun f cdv A outer s H vs Q E hr h => ?_)
  · obtain ⟨x, t, b, c, rfl, _⟩ := h
    rfl
  · obtain ⟨x, t, b, c, rfl, hgt, h1, h2, k⟩ := h
    refine ⟨_, (pss_one (ps_ret (pe_and (pe_callB (call_isiK1 (K := K) rfl) (by rfl) B.isinstance_ (by decide +kernel) (pa_cons (pv 0) (pa_cons (pe_bltn (v := .ty "int") (by rfl) B.int_ (by decide +kernel) rfl) pa_nil))) (pe_one (pe_not (pe_callB (call_isiK1 (K := K) rfl) (by rfl) B.isinstance_ (by decide +kernel) (pa_cons (pv 0) (pa_cons (pe_bltn (v := .ty "bool") (by rfl) B.bool_ (by decide +kernel) rfl) pa_nil)))))))), ?_⟩
    exact s_ret (ev_andV (ev_cb (ea_cons (ev_var rfl) (ea_cons ev_c ea_nil)) (rc_isi (.ty _) hgt h1)) (fun _ => ev_notV (ev_cb (ea_cons (ev_var rfl) (ea_cons ev_c ea_nil)) (rc_isi (.ty _) hgt h2)))) k
end
end Eb
namespace Eb
open PySem PySem.Spec PyProof.Rows L2 TL Evl
abbrev sReckoned : Stmt := topS 8
theorem scReckoned : FnScope ["beats", "places", "shift", "many"] ["beats", "places", "shift", "many"] (defScope sReckoned) := ⟨rfl, rfl, rfl, by decide +kernel, rfl, by decide +kernel, by decide +kernel⟩
def PreReck (b p m : Int) : Prop := 0 < p ∧ 0 ≤ b ∧ b ≤ p ∧ 0 ≤ m ∧ m ≤ 1000
def spReckoned (_ : PySem.W.Frag) : Sp := fun vs H Q _ => ∃ b p s m : Int, vs = [.int b, .int p, .int s, .int m] ∧ PreReck b p m ∧ RetV (.str (enc (reck b p s m.toNat))) H Q
theorem spv_reckoned {K : PySem.W.Frag} {H : Hp} {b p s m : Int} (h : PreReck b p m) : SpV (spReckoned K) [.int b, .int p, .int s, .int m] H (.str (enc (reck b p s m.toNat))) := fun _ _ _ q _ => ⟨b, p, s, m, rfl, h, q⟩
section
variable {P : Program} {w : World} {K : PySem.W.Frag} {mg : Str → Option Value} {base : Heap}
theorem ok_reckoned (D : DefAt K mg "reckoned" sReckoned) (c_is_number : C8.Cal P w K mg base 1 "is_number" (spIsNumber K) []) (c_reckoned_places : C8.Cal P w K mg base 1 "reckoned_places" (spReckonedPlaces K) []) : C8.Cal P w K mg base 3 "reckoned" (spReckoned K) [] := by
  refine cal_of D (fun _ _ _ _ _ _ us hl => match us, hl with | [_, _, _, _], _ => rfl) scReckoned (fun vs H Q E h => ?_) (fun f cdv A outer s H vs Q E hr h => ?_)
  · obtain ⟨b, p, s, m, rfl, _⟩ := h
    rfl
  · obtain ⟨b, p, s, m, rfl, ⟨h1, h2, h3, h4, h5⟩, k⟩ := h
    refine ⟨_, (pss_cons (ps_if (PW.pt (pw_or (pt_not (pt_val (C8.pe_c c_is_number hr (by decide) (by rfl) (pa_cons (pv 1) pa_nil)))) (pw_or (pt_cmp (pc_lt (pv 1) pe_int)) (pw_or (pt_not (pt_val (C8.pe_c c_is_number hr (by decide) (by rfl) (pa_cons (pv 0) pa_nil)))) (pw_or1 (pt_not (pt_chain op_le op_le pe_int (pv 0) (pv 1))))))))
      (pss_one ps_never)
      pss_nil)
      (pss_cons (ps_if (PW.pt (pw_or (pt_not (pt_val (C8.pe_c c_is_number hr (by decide) (by rfl) (pa_cons (pv 2) pa_nil)))) (pw_or (pt_not (pt_val (C8.pe_c c_is_number hr (by decide) (by rfl) (pa_cons (pv 3) pa_nil)))) (pw_or1 (pt_cmp (pc_lt (pv 3) pe_int))))))
      (pss_one ps_never)
      pss_nil)
      (pss_one (ps_ret (C8.pe_c c_reckoned_places hr (by decide) (by rfl) (pa_cons (pv 0) (pa_cons (pv 1) (pa_cons (pv 2) (pa_cons (pv 3) pa_nil))))))))), ?_⟩
    refine q_when (et_or (et_not (et_B (ev_call (ea_cons (ev_var rfl) ea_nil) (spv_is_number (by walk_at "pre"))))) (fun hb => (et_or (et_B (ev_cmp (ev_var rfl) ev_c)) (fun hb => (et_or (et_not (et_B (ev_call (ea_cons (ev_var rfl) ea_nil) (spv_is_number (by walk_at "pre"))))) (fun hb => (et_not (et_test (ev_chain ev_c (ev_var rfl) (ev_var rfl)))))))))) (fun hb => by
      exfalso
      simp at hb
      omega) (fun _ H1 e1 => ?_)
    refine q_when (et_or (et_not (et_B (ev_call (ea_cons (ev_var rfl) ea_nil) (spv_is_number (by walk_at "pre"))))) (fun hb => (et_or (et_not (et_B (ev_call (ea_cons (ev_var rfl) ea_nil) (spv_is_number (by walk_at "pre"))))) (fun hb => (et_B (ev_cmp (ev_var rfl) ev_c)))))) (fun hb => by
      exfalso
      simp at hb
      omega) (fun _ H2 e2 => ?_)
    exact s_ret (ev_call (ea_cons (ev_var rfl) (ea_cons (ev_var rfl) (ea_cons (ev_var rfl) (ea_cons (ev_var rfl) ea_nil)))) (spv_reckoned_places (by walk_at "pre"))) fun H3 e3 => k.go ((e1.trans e2).trans e3)
end
end Eb
namespace Eb
open PySem PySem.Spec PyProof.Rows L2 TL Evl
abbrev sLaid : Stmt := topS 9
theorem scLaid : FnScope ["beats", "places"] ["beats", "places"] (defScope sLaid) := ⟨rfl, rfl, rfl, by decide +kernel, rfl, by decide +kernel, by decide +kernel⟩
def PreLaid (b p : Int) : Prop := 0 < p ∧ 0 ≤ b ∧ b ≤ p ∧ p ≤ 1000
def spLaid (_ : PySem.W.Frag) : Sp := fun vs H Q _ => ∃ b p : Int, vs = [.int b, .int p] ∧ PreLaid b p ∧ RetV (.str (enc (reck b p 0 p.toNat))) H Q
theorem spv_laid {K : PySem.W.Frag} {H : Hp} {b p : Int} (h : PreLaid b p) : SpV (spLaid K) [.int b, .int p] H (.str (enc (reck b p 0 p.toNat))) := fun _ _ _ q _ => ⟨b, p, rfl, h, q⟩
section
variable {P : Program} {w : World} {K : PySem.W.Frag} {mg : Str → Option Value} {base : Heap}
theorem ok_laid (D : DefAt K mg "laid" sLaid) (c_reckoned : C8.Cal P w K mg base 3 "reckoned" (spReckoned K) []) : C8.Cal P w K mg base 4 "laid" (spLaid K) [] := by
  refine cal_of D (fun _ _ _ _ _ _ us hl => match us, hl with | [_, _], _ => rfl) scLaid (fun vs H Q E h => ?_) (fun f cdv A outer s H vs Q E hr h => ?_)
  · obtain ⟨b, p, rfl, _⟩ := h
    rfl
  · obtain ⟨b, p, rfl, ⟨h1, h2, h3, h4⟩, k⟩ := h
    refine ⟨_, (pss_one (ps_ret (C8.pe_c c_reckoned hr (by decide) (by rfl) (pa_cons (pv 0) (pa_cons (pv 1) (pa_cons pe_int (pa_cons (pv 1) pa_nil))))))), ?_⟩
    exact s_ret (ev_call (ea_cons (ev_var rfl) (ea_cons (ev_var rfl) (ea_cons ev_c (ea_cons (ev_var rfl) ea_nil)))) (spv_reckoned (by walk_at "pre"))) k
end
end Eb
/-! ### reckoned rows are even; even ones are reckoned -/
namespace Eb
theorem reck_count {b p s : Int} {n : Nat} (hp : 0 < p) (h0 : 0 ≤ b) (h1 : b ≤ p) (hn : (n : Int) = p) : cbt (reck b p s n) n = b := by
  rw [cbt_reck hp h0 h1 (Nat.le_refl n), hn]
  have e : s - b + p * b = s - b + p * b := rfl
  rw [Int.add_mul_ediv_left _ _ (by omega)]
  omega
theorem reck_cnt {b p s : Int} {n : Nat} (hp : 0 < p) (h0 : 0 ≤ b) (h1 : b ≤ p) (hn : (n : Int) = p) : (((reck b p s n).count true : Nat) : Int) = b := by
  have h := reck_count (s := s) hp h0 h1 hn
  rw [cbt_all (by rw [reck_len]; exact Nat.le_refl n)] at h
  exact h
theorem reck_ht {b p s : Int} {n : Nat} (hp : 0 < p) (h0 : 0 ≤ b) (h1 : b ≤ p) (hn : (n : Int) = p) {i : Nat} (hi : i < n) : hgt (reck b p s n) i = (s - b) - p * ((s - b) / p) - (s - b + (i : Int) * b) % p := by
  unfold hgt
  rw [reck_len, crn_low (by rw [reck_len]; omega), reck_count hp h0 h1 hn, cbt_reck hp h0 h1 (by omega), hn, Int.mul_sub]
  have := Int.emod_add_mul_ediv (s - b + (i : Int) * b) p
  omega
theorem reck_flat {b p s : Int} {n : Nat} (hp : 0 < p) (h0 : 0 ≤ b) (h1 : b ≤ p) (hn : (n : Int) = p) : Flat (reck b p s n) := by
  intro i j hi hj
  rw [reck_len] at hi hj ⊢
  rw [reck_ht hp h0 h1 hn hi, reck_ht hp h0 h1 hn hj]
  have a1 := Int.emod_nonneg (s - b + (i : Int) * b) (by omega : p ≠ 0)
  have a2 := Int.emod_lt_of_pos (s - b + (j : Int) * b) hp
  omega
theorem reck_mod {b p s t : Int} (n : Nat) (h : s % p = t % p) : reck b p s n = reck b p t n := by
  unfold reck
  refine List.map_congr_left fun i _ => ?_
  rw [Int.add_emod s, Int.add_emod t, h]
/-- heights of a row -/
theorem row_reck {bs : List Bool} {p b M : Int} (hp : 0 < p) (h0 : 0 ≤ b) (h1 : b ≤ p) (hu : ∀ i, i ≤ bs.length → p * cbt bs i - (i : Int) * b ≤ M) (hl : ∀ i, i ≤ bs.length → M - p < p * cbt bs i - (i : Int) * b) :
    bs = reck b p (M + b) bs.length := by
  apply List.ext_getElem?
  intro i
  by_cases hi : i < bs.length
  · rw [reck_get hi, List.getElem?_eq_getElem hi]
    congr 1
    have u0 := hu i (by omega)
    have l0 := hl i (by omega)
    have u1 := hu (i + 1) (by omega)
    have l1 := hl (i + 1) (by omega)
    rw [cbt_succ hi] at u1 l1
    rw [Int.natCast_succ, Int.add_mul, Int.mul_add] at u1 l1
    generalize hd : M - (p * cbt bs i - (i : Int) * b) = d at *
    have e : M + b + (i : Int) * b = (d + b) + p * cbt bs i := by omega
    rw [e, Int.add_mul_emod_self_left]
    cases hb : bs[i] with
    | true =>
      rw [hb] at u1 l1
      simp only [if_true] at u1 l1
      have e2 : (d + b) % p = d + b - p := by
        rw [← Int.sub_emod_right, Int.emod_eq_of_lt (by omega) (by omega)]
      rw [e2]
      exact (decide_eq_true (by omega)).symm
    | false =>
      rw [hb] at u1 l1
      simp at u1 l1
      have e2 : (d + b) % p = d + b := Int.emod_eq_of_lt (by omega) (by omega)
      rw [e2]
      exact (decide_eq_false (by omega)).symm
  · rw [List.getElem?_eq_none (by omega), List.getElem?_eq_none (by rw [reck_len]; omega)]
theorem cbt_le (bs : List Bool) (i : Nat) : 0 ≤ cbt bs i ∧ cbt bs i ≤ i := by
  unfold cbt
  have h1 := List.count_le_length (a := true) (l := bs.take i)
  rw [List.length_take] at h1
  omega
theorem cnt_le (bs : List Bool) : bs.count true ≤ bs.length := List.count_le_length
/-- the greatest of the heights -/
theorem top_at (f : Nat → Int) : ∀ n, ∃ q, q ≤ n ∧ ∀ i, i ≤ n → f i ≤ f q
  | 0 => ⟨0, Nat.le_refl _, fun i hi => by
    have : i = 0 := by omega
    rw [this]
    exact Int.le_refl _⟩
  | n + 1 => by
    obtain ⟨q, hq, h⟩ := top_at f n
    by_cases c : f q ≤ f (n + 1)
    · refine ⟨n + 1, Nat.le_refl _, fun i hi => ?_⟩
      by_cases hi2 : i ≤ n
      · exact Int.le_trans (h i hi2) c
      · have : i = n + 1 := by omega
        rw [this]
        exact Int.le_refl _
    · refine ⟨q, by omega, fun i hi => ?_⟩
      by_cases hi2 : i ≤ n
      · exact h i hi2
      · have : i = n + 1 := by omega
        rw [this]
        omega
theorem hgt_low {bs : List Bool} {i : Nat} (h : i ≤ bs.length) : hgt bs i = (bs.length : Int) * cbt bs i - (i : Int) * ((bs.count true : Nat) : Int) := by
  unfold hgt
  rw [crn_low h, cbt_all (Nat.le_refl _)]
/-- an even ring is reckoned from a turn on -/
theorem flat_turn {bs : List Bool} (hn : 0 < bs.length) (h : Flat bs) : ∃ t : Nat, t < bs.length ∧ bs = reck (bs.count true : Nat) bs.length ((t : Int) * (bs.count true : Nat)) bs.length := by
  obtain ⟨q, hq, hmax⟩ := top_at (hgt bs) (bs.length - 1)
  have hfl : ∀ i, i ≤ bs.length → hgt bs i ≤ hgt bs q ∧ hgt bs q - bs.length < hgt bs i := fun i hi => by
    by_cases c : i < bs.length
    · have h1 := hmax i (by omega)
      have h2 := h q i (by omega) c
      omega
    · have e : i = bs.length + 0 := by omega
      rw [e, hgt_wrap (Nat.zero_le _)]
      have h1 := hmax 0 (Nat.zero_le _)
      have h2 := h q 0 (by omega) hn
      omega
  have r := row_reck (bs := bs) (p := bs.length) (b := (bs.count true : Nat)) (M := hgt bs q) (by omega) (by omega) (by have := cnt_le bs; omega)
    (fun i hi => by
      rw [← hgt_low hi]
      exact (hfl i hi).1)
    (fun i hi => by
      rw [← hgt_low hi]
      exact (hfl i hi).2)
  refine ⟨((1 - (q : Int)) % (bs.length : Int)).toNat, ?_, ?_⟩
  · have := Int.emod_lt_of_pos (1 - (q : Int)) (by omega : (0 : Int) < bs.length)
    omega
  · refine r.trans (reck_mod _ ?_)
    have nn := Int.emod_nonneg (1 - (q : Int)) (by omega : (bs.length : Int) ≠ 0)
    rw [Int.toNat_of_nonneg nn, hgt_low (by omega), Int.mul_emod ((1 - (q : Int)) % _), Int.emod_emod, ← Int.mul_emod]
    have e : (bs.length : Int) * cbt bs q - (q : Int) * ((bs.count true : Nat) : Int) + ((bs.count true : Nat) : Int) = (1 - (q : Int)) * ((bs.count true : Nat) : Int) + (bs.length : Int) * cbt bs q := by
      rw [Int.sub_mul]
      omega
    rw [e, Int.add_mul_emod_self_left]
theorem turn_flat {bs : List Bool} {s : Int} (hn : 0 < bs.length) (h : bs = reck (bs.count true : Nat) bs.length s bs.length) : Flat bs := by
  rw [h]
  exact reck_flat (by omega) (by omega) (by have := cnt_le bs; omega) rfl
theorem reck_drop (b p s : Int) (k n : Nat) : (reck b p s (k + n)).drop k = reck b p (s + (k : Int) * b) n := by
  apply List.ext_getElem?
  intro i
  rw [List.getElem?_drop]
  by_cases hi : i < n
  · rw [reck_get (by omega), reck_get hi]
    congr 2
    rw [show s + ((k + i : Nat) : Int) * b = s + (k : Int) * b + (i : Int) * b by
      rw [Int.natCast_add, Int.add_mul]
      omega]
  · rw [List.getElem?_eq_none (by rw [reck_len]; omega), List.getElem?_eq_none (by rw [reck_len]; omega)]
theorem reck_app (b p s : Int) (k n : Nat) : reck b p s (k + n) = reck b p s k ++ reck b p (s + (k : Int) * b) n := by
  rw [← reck_drop, ← reck_take (by omega : k ≤ k + n), List.take_append_drop]
theorem reck_twice {b p : Int} {n : Nat} (hn : (n : Int) = p) : reck b p 0 n ++ reck b p 0 n = reck b p 0 (n + n) := by
  rw [reck_app]
  congr 1
  refine reck_mod _ ?_
  rw [Int.zero_add, hn, Int.mul_emod_right]
  rfl
/-- the ring of so many places from one on, in the ring told twice -/
theorem reck_part {b p : Int} {n k : Nat} (hn : (n : Int) = p) (hk : k ≤ n) : ((reck b p 0 n ++ reck b p 0 n).drop k).take n = reck b p ((k : Int) * b) n := by
  rw [reck_twice hn, show n + n = k + (n + n - k) by omega, reck_drop, reck_take (by omega), Int.zero_add]
end Eb
namespace Eb
open PySem PySem.Spec PyProof.Rows L2 TL Evl
abbrev sLaw : Stmt := topS 14
theorem scLaw : FnScope ["_law_script", "_law_mixed", "_law_places", "_law_beats", "_law_found", "_law_cell", "_law_wide", "_law_some", "_law_shift", "_law_row"] ["_law_script"] (defScope sLaw) := ⟨rfl, rfl, rfl, by decide +kernel, rfl, by decide +kernel, by decide +kernel⟩
def spLaw (K : PySem.W.Frag) : Sp := fun vs H Q _ => ∃ (a : Addr) (ns : List Int), vs = [.ref a] ∧ SqL K H a (ns.map V.int) ∧ ns.length ≤ 63 ∧ (∀ z ∈ ns, Builtin.Int.intBits z ≤ 1048576) ∧ ∀ H', Q (.bl true) H'
section
variable {P : Program} {w : World} {K : PySem.W.Frag} {mg : Str → Option Value} {base : Heap}
theorem ok_law {f : Addr} {fd : FuncData} (F : Fun K "law" "law" sLaw f fd) (B : Bn mg) (c_laid : C8.Cal P w K mg base 4 "laid" (spLaid K) []) (c_reckoned : C8.Cal P w K mg base 3 "reckoned" (spReckoned K) []) (c__law_reckoned : C8.Cal P w K mg base 1 "_law_reckoned" (spLawReckoned K) []) (c__law_is_even : C8.Cal P w K mg base 2 "_law_is_even" (spLawIsEven K) []) : FnOk P w K mg base CX0 5 f fd ["_law_script"] (spLaw K) := by
  refine F.ok scLaw (fun vs H Q E h => ?_) (fun cdv A outer s H vs Q E hr h => ?_)
  · obtain ⟨a, ns, rfl, _⟩ := h
    rfl
  · obtain ⟨a, ns, rfl, hS, hl, hbits, k⟩ := h
    have hl' : (ns.map V.int).length = ns.length := List.length_map _
    refine ⟨_, (pss_cons (ps_set (i := 1) scLaw.nd rfl (Or.inl rfl) (pe_callB (cr_sum rfl) (by rfl) B.sum_ (by decide +kernel) (pa_cons (pv 0) pa_nil)))
      (pss_cons (ps_set (i := 2) scLaw.nd rfl (Or.inl rfl) (pe_op op_add (pe_callB call_len_seq (by rfl) B.len_ PySem.boot_len (pa_cons (pv 0) pa_nil)) pe_int))
      (pss_cons (ps_set (i := 3) scLaw.nd rfl (Or.inl rfl) (pe_op op_mod (pv 1) (pe_op op_add (pv 2) pe_int)))
      (pss_cons (ps_set (i := 4) scLaw.nd rfl (Or.inl rfl) (C8.pe_c c_laid hr (by decide) (by rfl) (pa_cons (pv 3) (pa_cons (pv 2) pa_nil))))
      (pss_cons (ps_if (PW.pt (pw_or (pt_not (pt_val (pe_callB (call_isiK1 (K := K) rfl) (by rfl) B.isinstance_ (by decide +kernel) (pa_cons (pv 4) (pa_cons (pe_bltn (v := .ty "str") (by rfl) B.str_ (by decide +kernel) rfl) pa_nil))))) (pw_or1 (pt_cmpR op_ne (pv 4) (C8.pe_c c__law_reckoned hr (by decide) (by rfl) (pa_cons (pv 3) (pa_cons (pv 2) (pa_cons pe_int (pa_cons (pv 2) pa_nil))))) (nomark _)))))
      (pss_one (ps_ret pe_bl))
      pss_nil)
      (pss_cons (ps_if (PW.pt (pw_or (pt_cmp (pc_neI (pe_m1 PySem.F.slot_str_count PySem.F.type_str_count mt_count (pv 4) pe_sx) (pv 3))) (pw_or1 (pt_not (pt_val (C8.pe_c c__law_is_even hr (by decide) (by rfl) (pa_cons (pv 4) pa_nil)))))))
      (pss_one (ps_ret pe_bl))
      pss_nil)
      (pss_cons (ps_for PassesOwn.never rfl (pi_list (pv 0)) (pg_name (i := 5) scLaw.nd rfl (Or.inl rfl))
      (pss_cons (ps_set (i := 6) scLaw.nd rfl (Or.inl rfl) (pe_op op_add pe_int (pe_op op_mod (pe_op op_fdiv (pv 5) pe_int) pe_int)))
      (pss_cons (ps_set (i := 7) scLaw.nd rfl (Or.inl rfl) (pe_op op_mod (pe_op op_fdiv (pv 5) pe_int) (pe_op op_add (pv 6) pe_int)))
      (pss_cons (ps_set (i := 8) scLaw.nd rfl (Or.inl rfl) (pe_op op_sub (pe_op op_mod (pv 5) (pe_op op_pow pe_int pe_int)) (pe_op op_pow pe_int pe_int)))
      (pss_cons (ps_set (i := 9) scLaw.nd rfl (Or.inl rfl) (C8.pe_c c_reckoned hr (by decide) (by rfl) (pa_cons (pv 7) (pa_cons (pv 6) (pa_cons (pv 8) (pa_cons (pe_op op_add (pe_op op_mod (pv 5) pe_int) pe_int) pa_nil))))))
      (pss_one (ps_if (PW.pt (pw_or (pt_not (pt_val (pe_callB (call_isiK1 (K := K) rfl) (by rfl) B.isinstance_ (by decide +kernel) (pa_cons (pv 9) (pa_cons (pe_bltn (v := .ty "str") (by rfl) B.str_ (by decide +kernel) rfl) pa_nil))))) (pw_or1 (pt_cmpR op_ne (pv 9) (C8.pe_c c__law_reckoned hr (by decide) (by rfl) (pa_cons (pv 7) (pa_cons (pv 6) (pa_cons (pv 8) (pa_cons (pe_op op_add (pe_op op_mod (pv 5) pe_int) pe_int) pa_nil))))) (nomark _)))))
      (pss_one (ps_ret pe_bl))
      pss_nil)))))))
      (pss_cons (ps_for PassesOwn.never rfl (pi_list (pe_slice sl_list (pv 0) po_none (po_some pe_int))) (pg_name (i := 5) scLaw.nd rfl (Or.inl rfl))
      (pss_cons (ps_set (i := 6) scLaw.nd rfl (Or.inl rfl) (pe_op op_add pe_int (pe_op op_mod (pe_op op_add (pe_op op_mulX (pv 5) (pe_op op_pow pe_int pe_int)) pe_int) (pe_op op_pow pe_int pe_int))))
      (pss_cons (ps_set (i := 9) scLaw.nd rfl (Or.inl rfl) (C8.pe_c c_reckoned hr (by decide) (by rfl) (pa_cons (pe_op op_fdiv (pv 6) pe_int) (pa_cons (pv 6) (pa_cons (pe_op op_mod (pv 5) (pe_op op_pow pe_int pe_int)) (pa_cons pe_int pa_nil))))))
      (pss_one (ps_if (pt_cmpR op_ne (pv 9) (C8.pe_c c__law_reckoned hr (by decide) (by rfl) (pa_cons (pe_op op_fdiv (pv 6) pe_int) (pa_cons (pv 6) (pa_cons (pe_op op_mod (pv 5) (pe_op op_pow pe_int pe_int)) (pa_cons pe_int pa_nil))))) (nomark _))
      (pss_one (ps_ret pe_bl))
      pss_nil)))))
      (pss_cons (ps_set (i := 8) scLaw.nd rfl (Or.inl rfl) (pe_op op_mod (pv 1) (pe_op op_pow pe_int pe_int)))
      (pss_cons (ps_set (i := 9) scLaw.nd rfl (Or.inl rfl) (C8.pe_c c_reckoned hr (by decide) (by rfl) (pa_cons (pv 3) (pa_cons (pv 2) (pa_cons (pv 8) (pa_cons (pe_op op_mul pe_int (pv 2)) pa_nil))))))
      (pss_cons (ps_if (pt_cmpR op_ne (pv 9) (C8.pe_c c__law_reckoned hr (by decide) (by rfl) (pa_cons (pv 3) (pa_cons (pv 2) (pa_cons (pv 8) (pa_cons (pe_op op_mul pe_int (pv 2)) pa_nil))))) (nomark _))
      (pss_one (ps_ret pe_bl))
      pss_nil)
      (pss_one (ps_ret (pe_and (pe_cmpR op_eq (C8.pe_c c_reckoned hr (by decide) (by rfl) (pa_cons (pv 3) (pa_cons (pv 2) (pa_cons (pv 8) (pa_cons pe_int pa_nil))))) pe_s0 (nomark _)) (pe_and (pe_cmpR op_eq (C8.pe_c c_laid hr (by decide) (by rfl) (pa_cons pe_int (pa_cons pe_int pa_nil))) pe_sx (nomark _)) (pe_one (pe_cmpR op_eq (C8.pe_c c_laid hr (by decide) (by rfl) (pa_cons pe_int (pa_cons pe_int pa_nil))) pe_sd (nomark _)))))))))))))))))), ?_⟩
    refine q_asg (ev_cb (ea_cons (ev_var rfl) ea_nil) (rc_sum (by walk_at "lst"))) fun H1 e1 => ?_
    replace hS := ex_l e1 hS
    refine q_asg (ev_op (ev_cb (ea_cons (ev_var rfl) ea_nil) (rc_lenL (by walk_at "lst"))) ev_c rv_I0) fun H2 e2 => ?_
    replace hS := ex_l e2 hS
    generalize hp : (((ns.map V.int).length : Nat) : Int) + 1 = p
    refine q_asg (ev_op (ev_var rfl) (ev_op (ev_var rfl) ev_c rv_I0) (rv_I (by walk_at "pos"))) fun H3 e3 => ?_
    replace hS := ex_l e3 hS
    have b0 := Int.emod_nonneg ns.sum (by omega : p + 1 ≠ 0)
    have b1 := Int.emod_lt_of_pos ns.sum (by omega : 0 < p + 1)
    generalize ns.sum % (p + 1) = b at b0 b1
    generalize ns.sum = m
    refine q_asg (ev_call (ea_cons (ev_var rfl) (ea_cons (ev_var rfl) ea_nil)) (spv_laid (by walk_at "pre"))) fun H4 e4 => ?_
    replace hS := ex_l e4 hS
    have hlen := reck_len b p 0 p.toNat
    refine q_when (et_or (et_not (et_B (ev_cb (ea_cons (ev_var rfl) (ea_cons ev_c ea_nil)) (rc_isiS (b := true) (by decide +kernel))))) (fun hb => (et_test (ev_op (ev_var rfl) (ev_call (ea_cons (ev_var rfl) (ea_cons (ev_var rfl) (ea_cons ev_c (ea_cons (ev_var rfl) ea_nil)))) (spv__law_reckoned (by walk_at "pre"))) rv_neS)))) (fun hb => by
      exfalso
      simp at hb) (fun _ H5 e5 => ?_)
    replace hS := ex_l e5 hS
    refine q_when (et_or (et_B (ev_cmp (ev_cntS (ev_var rfl) ev_c) (ev_var rfl))) (fun hb => (et_not (et_B (ev_call (ea_cons (ev_var rfl) ea_nil) (spv__law_is_even (by walk_at "pre"))))))) (fun hb => by
      exfalso
      have c1 := reck_cnt (b := b) (p := p) (s := 0) (n := p.toNat) (by omega) (by omega) (by omega) (by omega)
      have c2 : isEv (reck b p 0 p.toNat) = true := (isEv_flat (by omega)).mpr (reck_flat (by omega) (by omega) (by omega) (by omega))
      rw [c1, c2] at hb
      simp at hb) (fun _ H6 e6 => ?_)
    replace hS := ex_l e6 hS
    -- the first loop
    refine q_forLn (ev_var rfl) hS (fun i σ' H' => ∃ z1 z2 z3 z4 z5, σ' = [some (.ref a), some (.int m), some (.int p), some (.int b), some (.str (enc (reck b p 0 p.toNat))), z1, z2, z3, z4, z5] ∧ Ex H6 H')
      (fun H7 e7 => ⟨none, none, none, none, none, rfl, e7⟩) (fun i σ' H' _ hp' => by
        obtain ⟨_, _, _, _, _, _, ex⟩ := hp'
        exact ex_l ex hS) (fun i x σ' H' hi hp' => ?_) (fun σ' H' hp' => ?_)
    · obtain ⟨z1, z2, z3, z4, z5, rfl, ex⟩ := hp'
      rw [List.getElem?_map] at hi
      obtain ⟨c, _, rfl⟩ : ∃ c, ns[i]? = some c ∧ V.int c = x := by
        cases hq : ns[i]? with
        | none =>
          rw [hq] at hi
          cases hi
        | some c =>
          rw [hq] at hi
          exact ⟨c, rfl, Option.some.inj hi⟩
      refine q_asg (ev_op ev_c (ev_op (ev_op (ev_var rfl) ev_c (rv_I (by walk_at "div"))) ev_c (rv_I (by walk_at "pos"))) rv_I0) fun H7 e7 => ?_
      refine q_asg (ev_op (ev_op (ev_var rfl) ev_c (rv_I (by walk_at "div"))) (ev_op (ev_var rfl) ev_c rv_I0) (rv_I (by walk_at "pos"))) fun H8 e8 => ?_
      have w0 := Int.emod_nonneg (c / 140) (by omega : 1 + c / 7 % 20 + 1 ≠ 0)
      have w1 := Int.emod_lt_of_pos (c / 140) (by omega : 0 < 1 + c / 7 % 20 + 1)
      refine q_asg (ev_op (ev_op (ev_var rfl) (ev_op ev_c ev_c (rv_I (by walk_at "pow"))) (rv_I (by walk_at "pos"))) (ev_op ev_c ev_c (rv_I (by walk_at "pow"))) rv_I0) fun H9 e9 => ?_
      generalize c % 10 ^ (25 : Int).toNat - 10 ^ (6 : Int).toNat = sh
      generalize c / 140 % (1 + c / 7 % 20 + 1) = so at w0 w1
      refine q_asg (ev_call (ea_cons (ev_var rfl) (ea_cons (ev_var rfl) (ea_cons (ev_var rfl) (ea_cons (ev_op (ev_op (ev_var rfl) ev_c (rv_I (by walk_at "pos"))) ev_c rv_I0) ea_nil)))) (spv_reckoned (by walk_at "pre"))) fun H10 e10 => ?_
      have hz := reck_len so (1 + c / 7 % 20) sh (c % 7 + 20).toNat
      refine s_when (et_or (et_not (et_B (ev_cb (ea_cons (ev_var rfl) (ea_cons ev_c ea_nil)) (rc_isiS (b := true) (by decide +kernel))))) (fun hb => (et_test (ev_op (ev_var rfl) (ev_call (ea_cons (ev_var rfl) (ea_cons (ev_var rfl) (ea_cons (ev_var rfl) (ea_cons (ev_op (ev_op (ev_var rfl) ev_c (rv_I (by walk_at "pos"))) ev_c rv_I0) ea_nil)))) (spv__law_reckoned (by walk_at "pre"))) rv_neS)))) (fun hb => by
        exfalso
        simp at hb) (fun _ H11 e11 => ?_)
      exact ⟨_, _, _, _, _, rfl, ((((ex.trans e7).trans e8).trans e9).trans e10).trans e11⟩
    · obtain ⟨z1, z2, z3, z4, z5, rfl, ex⟩ := hp'
      replace hS := ex_l ex hS
      -- the second loop
      refine q_forNLn (el_sl (ev_var rfl) eo_none (eo_some ev_c) (by walk_at "lst")) (fun q i σ' H' => ∃ z1 z2 z3 z4 z5, σ' = [some (.ref a), some (.int m), some (.int p), some (.int b), some (.str (enc (reck b p 0 p.toNat))), z1, z2, z3, z4, z5] ∧ SqL K H' q (cutV (ns.map V.int) none (some 5)))
        (fun q H7 _ e7 x7 => ⟨_, _, _, _, _, rfl, sq_of x7⟩) (fun q i σ' H' _ hp' => by
          obtain ⟨_, _, _, _, _, _, ex⟩ := hp'
          exact ex) (fun q i x σ' H' hi hp' => ?_) (fun q σ' H' hp' => ?_)
      · obtain ⟨z1, z2, z3, z4, z5, rfl, hq⟩ := hp'
        obtain ⟨c, hc, rfl⟩ : ∃ c, c ∈ ns ∧ V.int c = x := by
          have h1 := List.mem_of_getElem? hi
          have h2 : x ∈ ns.map V.int := by
            unfold cutV at h1
            exact List.mem_of_mem_drop (List.mem_of_mem_take h1)
          exact List.mem_map.mp h2
        have hcb := hbits c hc
        refine q_asg (ev_op ev_c (ev_op (ev_op (ev_op (ev_var rfl) (ev_op ev_c ev_c (rv_I (by walk_at "pow"))) (rv_I (by walk_at "mul"))) ev_c rv_I0) (ev_op ev_c ev_c (rv_I (by walk_at "pow"))) (rv_I (by walk_at "pos"))) rv_I0) fun H7 e7 => ?_
        have w0 := Int.emod_nonneg (c * 10 ^ (20 : Int).toNat + 7) (by decide : (10 : Int) ^ (30 : Int).toNat ≠ 0)
        generalize (c * 10 ^ (20 : Int).toNat + 7) % 10 ^ (30 : Int).toNat = wi at w0
        refine q_asg (ev_call (ea_cons (ev_op (ev_var rfl) ev_c (rv_I (by walk_at "div"))) (ea_cons (ev_var rfl) (ea_cons (ev_op (ev_var rfl) (ev_op ev_c ev_c (rv_I (by walk_at "pow"))) (rv_I (by walk_at "pos"))) (ea_cons ev_c ea_nil)))) (spv_reckoned (by walk_at "pre"))) fun H8 e8 => ?_
        have hz := reck_len ((1 + wi) / 3) (1 + wi) (c % 10 ^ (25 : Int).toNat) 40
        refine s_when (et_test (ev_op (ev_var rfl) (ev_call (ea_cons (ev_op (ev_var rfl) ev_c (rv_I (by walk_at "div"))) (ea_cons (ev_var rfl) (ea_cons (ev_op (ev_var rfl) (ev_op ev_c ev_c (rv_I (by walk_at "pow"))) (rv_I (by walk_at "pos"))) (ea_cons ev_c ea_nil)))) (spv__law_reckoned (by walk_at "pre"))) rv_neS)) (fun hb => by
          exfalso
          simp at hb) (fun _ H9 e9 => ?_)
        exact ⟨_, _, _, _, _, rfl, ex_l ((e7.trans e8).trans e9) hq⟩
      · obtain ⟨z1, z2, z3, z4, z5, rfl, hq⟩ := hp'
        refine q_asg (ev_op (ev_var rfl) (ev_op ev_c ev_c (rv_I (by walk_at "pow"))) (rv_I (by walk_at "pos"))) fun H7 e7 => ?_
        generalize m % 10 ^ (25 : Int).toNat = sh
        refine q_asg (ev_call (ea_cons (ev_var rfl) (ea_cons (ev_var rfl) (ea_cons (ev_var rfl) (ea_cons (ev_op ev_c (ev_var rfl) (rv_I (by walk_at "mul"))) ea_nil)))) (spv_reckoned (by walk_at "pre"))) fun H8 e8 => ?_
        refine q_when (et_test (ev_op (ev_var rfl) (ev_call (ea_cons (ev_var rfl) (ea_cons (ev_var rfl) (ea_cons (ev_var rfl) (ea_cons (ev_op ev_c (ev_var rfl) (rv_I (by walk_at "mul"))) ea_nil)))) (spv__law_reckoned (by walk_at "pre"))) rv_neS)) (fun hb => by
          exfalso
          simp at hb) (fun _ H9 e9 => ?_)
        refine s_ret (ev_eq (ev_andV (ev_op (ev_call (ea_cons (ev_var rfl) (ea_cons (ev_var rfl) (ea_cons (ev_var rfl) (ea_cons ev_c ea_nil)))) (spv_reckoned (by walk_at "pre"))) ev_c rv_eqS) (fun hb => (ev_andV (ev_op (ev_call (ea_cons ev_c (ea_cons ev_c ea_nil)) (spv_laid (by walk_at "pre"))) ev_c rv_eqS) (fun hb => (ev_op (ev_call (ea_cons ev_c (ea_cons ev_c ea_nil)) (spv_laid (by walk_at "pre"))) ev_c rv_eqS))))) ?_) fun H10 _ => k H10
        have r1 : reck b p sh (0 : Int).toNat = [] := rfl
        have r2 : reck 1 1 0 (1 : Int).toNat = [true] := by decide
        have r3 : reck 0 1 0 (1 : Int).toNat = [false] := by decide
        rw [r1, r2, r3]
        rfl
end
end Eb
namespace Eb
open PySem PySem.Spec PyProof.Rows L2 TL Evl
theorem all_mk {l : PySem.W.OpenLaw} {w : World} {K : PySem.W.Frag} {h : Heap} {mg : Str → Option Value} {fa : Addr} (X : K.In h) (G : h.Ns mainGlobals mg) (hfa : mg "law" = some (.ref fa))
    {f1 : Addr} {od1 an1 : Option Addr} {sl1 : Array (Option Value)} {oc1 kV1 dc1 pm1 cd1 ct1 : Value}
    {f2 : Addr} {od2 an2 : Option Addr} {sl2 : Array (Option Value)} {oc2 kV2 dc2 pm2 cd2 ct2 : Value}
    {f3 : Addr} {od3 an3 : Option Addr} {sl3 : Array (Option Value)} {oc3 kV3 dc3 pm3 cd3 ct3 : Value}
    {f4 : Addr} {od4 an4 : Option Addr} {sl4 : Array (Option Value)} {oc4 kV4 dc4 pm4 cd4 ct4 : Value}
    {f5 : Addr} {od5 an5 : Option Addr} {sl5 : Array (Option Value)} {oc5 kV5 dc5 pm5 cd5 ct5 : Value}
    {f6 : Addr} {od6 an6 : Option Addr} {sl6 : Array (Option Value)} {oc6 kV6 dc6 pm6 cd6 ct6 : Value}
    {f7 : Addr} {od7 an7 : Option Addr} {sl7 : Array (Option Value)} {oc7 kV7 dc7 pm7 cd7 ct7 : Value}
    {f8 : Addr} {od8 an8 : Option Addr} {sl8 : Array (Option Value)} {oc8 kV8 dc8 pm8 cd8 ct8 : Value}
    {tb tr : Tok}
    (a1 : PySem.W.nsIn K mainGlobals "is_number" = some (some (.ref f1))) (l1 : K.lookup f1 = some ⟨oc1, od1, .func (PySem.W.fnOf "is_number" "is_number" (defArgs sIsNumber) (defBody sIsNumber) (defScope sIsNumber) .none kV1 dc1 pm1 an1 cd1 ct1), sl1⟩) (c1 : PySem.W.codeIn K cd1 "is_number" = true) (k1 : PySem.W.keepIn K (.ref f1) = true)
    (a2 : PySem.W.nsIn K mainGlobals "reckoned_places" = some (some (.ref f2))) (l2 : K.lookup f2 = some ⟨oc2, od2, .func (PySem.W.fnOf "reckoned_places" "reckoned_places" (defArgs sReckonedPlaces) (defBody sReckonedPlaces) (defScope sReckonedPlaces) .none kV2 dc2 pm2 an2 cd2 ct2), sl2⟩) (c2 : PySem.W.codeIn K cd2 "reckoned_places" = true) (k2 : PySem.W.keepIn K (.ref f2) = true)
    (a3 : PySem.W.nsIn K mainGlobals "reckoned" = some (some (.ref f3))) (l3 : K.lookup f3 = some ⟨oc3, od3, .func (PySem.W.fnOf "reckoned" "reckoned" (defArgs sReckoned) (defBody sReckoned) (defScope sReckoned) .none kV3 dc3 pm3 an3 cd3 ct3), sl3⟩) (c3 : PySem.W.codeIn K cd3 "reckoned" = true) (k3 : PySem.W.keepIn K (.ref f3) = true)
    (a4 : PySem.W.nsIn K mainGlobals "laid" = some (some (.ref f4))) (l4 : K.lookup f4 = some ⟨oc4, od4, .func (PySem.W.fnOf "laid" "laid" (defArgs sLaid) (defBody sLaid) (defScope sLaid) .none kV4 dc4 pm4 an4 cd4 ct4), sl4⟩) (c4 : PySem.W.codeIn K cd4 "laid" = true) (k4 : PySem.W.keepIn K (.ref f4) = true)
    (a5 : PySem.W.nsIn K mainGlobals "_law_reckoned" = some (some (.ref f5))) (l5 : K.lookup f5 = some ⟨oc5, od5, .func (PySem.W.fnOf "_law_reckoned" "_law_reckoned" (defArgs sLawReckoned) (defBody sLawReckoned) (defScope sLawReckoned) .none kV5 dc5 pm5 an5 cd5 ct5), sl5⟩) (c5 : PySem.W.codeIn K cd5 "_law_reckoned" = true) (k5 : PySem.W.keepIn K (.ref f5) = true)
    (a6 : PySem.W.nsIn K mainGlobals "_law_sums" = some (some (.ref f6))) (l6 : K.lookup f6 = some ⟨oc6, od6, .func (PySem.W.fnOf "_law_sums" "_law_sums" (defArgs sLawSums) (defBody sLawSums) (defScope sLawSums) .none kV6 dc6 pm6 an6 cd6 ct6), sl6⟩) (c6 : PySem.W.codeIn K cd6 "_law_sums" = true) (k6 : PySem.W.keepIn K (.ref f6) = true)
    (a7 : PySem.W.nsIn K mainGlobals "_law_is_even" = some (some (.ref f7))) (l7 : K.lookup f7 = some ⟨oc7, od7, .func (PySem.W.fnOf "_law_is_even" "_law_is_even" (defArgs sLawIsEven) (defBody sLawIsEven) (defScope sLawIsEven) .none kV7 dc7 pm7 an7 cd7 ct7), sl7⟩) (c7 : PySem.W.codeIn K cd7 "_law_is_even" = true) (k7 : PySem.W.keepIn K (.ref f7) = true)
    (a8 : PySem.W.nsIn K mainGlobals "law" = some (some (.ref f8))) (l8 : K.lookup f8 = some ⟨oc8, od8, .func (PySem.W.fnOf "law" "law" (defArgs sLaw) (defBody sLaw) (defScope sLaw) .none kV8 dc8 pm8 an8 cd8 ct8), sl8⟩) (c8 : PySem.W.codeIn K cd8 "law" = true) (k8 : PySem.W.keepIn K (.ref f8) = true)
    (z_len : PySem.W.nsIn K mainGlobals "len" = some none)
    (z_range : PySem.W.nsIn K mainGlobals "range" = some none)
    (z_max : PySem.W.nsIn K mainGlobals "max" = some none)
    (z_min : PySem.W.nsIn K mainGlobals "min" = some none)
    (z_isinstance : PySem.W.nsIn K mainGlobals "isinstance" = some none)
    (z_sum : PySem.W.nsIn K mainGlobals "sum" = some none)
    (z_any : PySem.W.nsIn K mainGlobals "any" = some none)
    (z_all : PySem.W.nsIn K mainGlobals "all" = some none)
    (z_int : PySem.W.nsIn K mainGlobals "int" = some none)
    (z_str : PySem.W.nsIn K mainGlobals "str" = some none)
    (z_bool : PySem.W.nsIn K mainGlobals "bool" = some none)
    (z_list : PySem.W.nsIn K mainGlobals "list" = some none)
    (z_enumerate : PySem.W.nsIn K mainGlobals "enumerate" = some none)
    (gB : PySem.W.nsIn K mainGlobals "BEAT" = some (some (.str "x" tb))) (gR : PySem.W.nsIn K mainGlobals "REST" = some (some (.str "." tr))) :
    ∃ fd : FuncData, (∀ (s : Shared) (v : Value), BindsTo s fd ⟨[v], []⟩ [("_law_script", v)]) ∧ ∀ base : Heap, K.In base → base.Ns mainGlobals mg → FnOk l.prog w K mg base CX0 5 fa fd ["_law_script"] (spLaw K) := by
  have e := hfa.symm.trans (PySem.W.mg_of X G a8)
  cases e
  have B : Bn mg := ⟨PySem.W.mg_none_of X G z_len, PySem.W.mg_none_of X G z_range, PySem.W.mg_none_of X G z_max, PySem.W.mg_none_of X G z_min, PySem.W.mg_none_of X G z_isinstance, PySem.W.mg_none_of X G z_sum, PySem.W.mg_none_of X G z_any, PySem.W.mg_none_of X G z_all, PySem.W.mg_none_of X G z_int, PySem.W.mg_none_of X G z_str, PySem.W.mg_none_of X G z_bool, PySem.W.mg_none_of X G z_list, PySem.W.mg_none_of X G z_enumerate⟩
  have T : Tx mg := ⟨⟨_, PySem.W.mg_of X G gB, tx_x⟩, ⟨_, PySem.W.mg_of X G gR, tx_d⟩⟩
  have D1 : DefAt K mg "is_number" sIsNumber := ⟨_, _, fun_mk l1 c1 k1, PySem.W.mg_of X G a1⟩
  have D2 : DefAt K mg "reckoned_places" sReckonedPlaces := ⟨_, _, fun_mk l2 c2 k2, PySem.W.mg_of X G a2⟩
  have D3 : DefAt K mg "reckoned" sReckoned := ⟨_, _, fun_mk l3 c3 k3, PySem.W.mg_of X G a3⟩
  have D4 : DefAt K mg "laid" sLaid := ⟨_, _, fun_mk l4 c4 k4, PySem.W.mg_of X G a4⟩
  have D5 : DefAt K mg "_law_reckoned" sLawReckoned := ⟨_, _, fun_mk l5 c5 k5, PySem.W.mg_of X G a5⟩
  have D6 : DefAt K mg "_law_sums" sLawSums := ⟨_, _, fun_mk l6 c6 k6, PySem.W.mg_of X G a6⟩
  have D7 : DefAt K mg "_law_is_even" sLawIsEven := ⟨_, _, fun_mk l7 c7 k7, PySem.W.mg_of X G a7⟩
  refine ⟨PySem.W.fnOf "law" "law" (defArgs sLaw) (defBody sLaw) (defScope sLaw) .none kV8 dc8 pm8 an8 cd8 ct8, fun s v => .of_eq rfl, fun base _ _ => ?_⟩
  have c_is_number : C8.Cal l.prog w K mg base 1 "is_number" (spIsNumber K) [] := ok_is_number D1 B
  have c_reckoned_places : C8.Cal l.prog w K mg base 1 "reckoned_places" (spReckonedPlaces K) [] := ok_reckoned_places D2 B T
  have c_reckoned : C8.Cal l.prog w K mg base 3 "reckoned" (spReckoned K) [] := ok_reckoned D3 c_is_number c_reckoned_places
  have c_laid : C8.Cal l.prog w K mg base 4 "laid" (spLaid K) [] := ok_laid D4 c_reckoned
  have c__law_reckoned : C8.Cal l.prog w K mg base 1 "_law_reckoned" (spLawReckoned K) [] := ok__law_reckoned D5 B
  have c__law_sums : C8.Cal l.prog w K mg base 1 "_law_sums" (spLawSums K) [] := ok__law_sums D6
  have c__law_is_even : C8.Cal l.prog w K mg base 2 "_law_is_even" (spLawIsEven K) [] := ok__law_is_even D7 B c__law_sums
  exact ok_law (fun_mk l8 c8 k8) B c_laid c_reckoned c__law_reckoned c__law_is_even
end Eb
open PySem PySem.W PyProof.Rows
set_option maxHeartbeats 0 in
theorem PySem.Challenge.cw_evenbeats_k01_whole_laid_holds : PySem.Challenge.rw_evenbeats_k01_whole_laid.Holds := by
  w_on; o_law; k_head; (case hw => w_witness2)
  k_fill
  refine L2.walk_ofB (l := PySem.Challenge.rw_evenbeats_k01_whole_laid) (n := 63) (k := 5) (x := "_law_script") (CX := fun _ => L2.CX0) (sp := fun w => Eb.spLaw _) rfl (by decide) rfl ⟨rfl, by decide, by decide⟩ (fun w h Y => PySem.W.kIn_of Y) ?F (fun _ _ a ns hl hb _ hS => ⟨a, ns, rfl, hS, hl, hb, fun _ => rfl⟩) (fun _ _ _ _ _ h => h)
  case F =>
    intro w mg fa h KX G hmg
    refine' Eb.all_mk KX G hmg ?a1 ?l1 ?c1 ?k1 ?a2 ?l2 ?c2 ?k2 ?a3 ?l3 ?c3 ?k3 ?a4 ?l4 ?c4 ?k4 ?a5 ?l5 ?c5 ?k5 ?a6 ?l6 ?c6 ?k6 ?a7 ?l7 ?c7 ?k7 ?a8 ?l8 ?c8 ?k8 ?z_len ?z_range ?z_max ?z_min ?z_isinstance ?z_sum ?z_any ?z_all ?z_int ?z_str ?z_bool ?z_list ?z_enumerate ?gB ?gR
    (case a1 => k_is); (case l1 => k_is); (case c1 => k_is); (case k1 => k_is); (case a2 => k_is); (case l2 => k_is); (case c2 => k_is); (case k2 => k_is)
    (case a3 => k_is); (case l3 => k_is); (case c3 => k_is); (case k3 => k_is); (case a4 => k_is); (case l4 => k_is); (case c4 => k_is); (case k4 => k_is)
    (case a5 => k_is); (case l5 => k_is); (case c5 => k_is); (case k5 => k_is); (case a6 => k_is); (case l6 => k_is); (case c6 => k_is); (case k6 => k_is)
    (case a7 => k_is); (case l7 => k_is); (case c7 => k_is); (case k7 => k_is); (case a8 => k_is); (case l8 => k_is); (case c8 => k_is); (case k8 => k_is)
    (case z_len => k_is); (case z_range => k_is); (case z_max => k_is); (case z_min => k_is); (case z_isinstance => k_is); (case z_sum => k_is); (case z_any => k_is); (case z_all => k_is)
    (case z_int => k_is); (case z_str => k_is); (case z_bool => k_is); (case z_list => k_is); (case z_enumerate => k_is); (case gB => k_is); (case gR => k_is)
