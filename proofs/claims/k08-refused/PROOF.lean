import PyProof.Rows.All
import Wide.All
import OpenK.AllK
import Wide.FinOn
import HandS.ForMost
import HandS.ForExc
import HandS.Evl
import HandS.StrMore
import HandS.Style
import HandS.IsInst
import HandS.Wide
import HandS.WideBits
import HandS.EndBits
import HandS.Walk
import HandS.Codes
import HandS.TryOnly
import HandS.ExcOwn
import HandS.ExcIs
import HandS.CallLocal
import HandS.SetFor
import HandS.Replace
import HandS.NoneIn
import HandS.HotCalls
import HandS.WordsExc
import PyProof.StrLawsFirst
import PyProof.StrOps2
import PyProof.MaxThree
import PyProof.SliceStr2
import KE.KRevSl
import KE.RegKIsAll
import PySem.Challenge.RW_evenbeats_k08_refused
set_option Elab.async false
set_option linter.all false
set_option maxRecDepth 100000
set_option maxHeartbeats 4000000
/-! ### rows of beats and rests as texts -/
namespace Eb
open PySem L2 TL Builtin Builtin.Str
def sg (b : Bool) : Nat := if b then 120 else 46
theorem sg_inj : ∀ {a b : Bool}, sg a = sg b → a = b
  | true, true, _ => rfl
  | false, false, _ => rfl
  | true, false, h => by cases h
  | false, true, h => by cases h
def enc (bs : List Bool) : Str := ⟨(bs.map sg).toArray⟩
theorem tl_enc (bs : List Bool) : tl (enc bs) = bs.map sg := rfl
theorem cps_enc (bs : List Bool) : (enc bs).cps.toList = bs.map sg := rfl
theorem len_enc (bs : List Bool) : (enc bs).length = bs.length := by
  rw [len_tl, tl_enc, List.length_map]
theorem map_sg_inj : ∀ {a b : List Bool}, a.map sg = b.map sg → a = b
  | [], [], _ => rfl
  | [], _ :: _, h => by cases h
  | _ :: _, [], h => by cases h
  | x :: a, y :: b, h => by
    rw [List.map_cons, List.map_cons] at h
    injection h with h1 h2
    rw [sg_inj h1, map_sg_inj h2]
theorem enc_inj {a b : List Bool} (h : enc a = enc b) : a = b := by
  have h2 := congrArg tl h
  rw [tl_enc, tl_enc] at h2
  exact map_sg_inj h2
theorem enc_app (a b : List Bool) : enc a ++ enc b = enc (a ++ b) := ext_tl (by rw [tl_append, tl_enc, tl_enc, tl_enc, List.map_append])
theorem enc_x : ("x" : Str) = enc [true] := by decide +kernel
theorem enc_d : ("." : Str) = enc [false] := by decide +kernel
theorem enc_0 : ("" : Str) = enc [] := by decide +kernel
theorem enc_dx : (".x" : Str) = enc [false, true] := by decide +kernel
theorem enc_emp : Str.empty = enc [] := rfl
theorem dec_str (a b : List Bool) : decide (V.str (enc a) = V.str (enc b)) = decide (a = b) := by
  by_cases h : a = b
  · subst h
    rw [decide_eq_true rfl, decide_eq_true rfl]
  · rw [decide_eq_false h, decide_eq_false]
    intro q
    injection q with q2
    exact h (enc_inj q2)
theorem dec_int (a b : Int) : decide (V.int a = V.int b) = decide (a = b) := by
  by_cases h : a = b
  · subst h
    rw [decide_eq_true rfl, decide_eq_true rfl]
  · rw [decide_eq_false h, decide_eq_false]
    intro q
    injection q with q2
    exact h q2
theorem dec_bl (a b : Bool) : decide (V.bl a = V.bl b) = (a == b) := by
  cases a <;> cases b <;> decide
/-! join -/
theorem joinL0 : ∀ ls : List (List Bool), joinL [] ((ls.map enc).map tl) = ls.flatten.map sg
  | [] => rfl
  | [a] => by
    rw [List.flatten_cons, List.flatten_nil, List.append_nil]
    rfl
  | a :: b :: r => by
    rw [List.flatten_cons, List.map_append, ← joinL0 (b :: r)]
    rfl
theorem join0 (ls : List (List Bool)) : Txt.join (enc []) (ls.map enc) = enc ls.flatten := by
  rw [join_eq]
  refine ext_tl ?_
  rw [tl_join]
  exact joinL0 ls
theorem flat_one : ∀ r : List Bool, (List.map (fun b => [b]) r).flatten = r
  | [] => rfl
  | a :: r => by
    rw [List.map_cons, List.flatten_cons, flat_one r]
    rfl
theorem join_one (bs : List Bool) : Txt.join (enc []) (bs.map fun b => enc [b]) = enc bs := by
  have h := join0 (bs.map fun b => [b])
  rw [List.map_map] at h
  refine h.trans ?_
  rw [flat_one]
/-! count -/
theorem cnt_run (x : Str) (c : Nat) : ∀ (n a : Nat) (st : Array Nat × Nat), a + n = x.length + 1 → st.2 ≤ a → st.1.size ≤ a →
    (forIn (List.range' a n) st (StrLaws.occBody x ⟨#[c]⟩ x.length (x.length + 1))).run.fst.toList.length = st.1.size + ((tl x).drop a).count c := by
  intro n
  induction n with
  | zero =>
    intro a st h _ _
    rw [List.drop_eq_nil_of_le (by rw [← len_tl]; omega)]
    simp
  | succ n ih =>
    intro a st h h2 h3
    rw [List.range'_succ, List.forIn_cons]
    unfold StrLaws.occBody
    have key := StrLaws.subAt_one x c a
    by_cases hx : (tl x)[a]? = some c
    · have k2 := key.mpr hx
      have c1 : ((st.fst.size < x.length + 1 ∧ st.snd ≤ a) ∧ a + (⟨#[c]⟩ : Str).length ≤ x.length) ∧ subAt x ⟨#[c]⟩ a = true := by
        refine ⟨⟨⟨?_, h2⟩, k2.1⟩, k2.2⟩
        have := k2.1
        omega
      rw [if_pos c1]
      have e := ih (a + 1) (st.fst.push a, a + (⟨#[c]⟩ : Str).length) (by omega) (Nat.le_refl _) (by rw [Array.size_push]; omega)
      refine e.trans ?_
      obtain ⟨hlt, hv⟩ := List.getElem?_eq_some_iff.mp hx
      rw [Array.size_push, List.drop_eq_getElem_cons hlt, hv, List.count_cons_self]
      omega
    · have c2 : ¬ (((st.fst.size < x.length + 1 ∧ st.snd ≤ a) ∧ a + (⟨#[c]⟩ : Str).length ≤ x.length) ∧ subAt x ⟨#[c]⟩ a = true) := fun q => hx (key.mp ⟨q.1.2, q.2⟩)
      rw [if_neg c2]
      have e := ih (a + 1) (st.fst, st.snd) (by omega) (by show st.snd ≤ a + 1; omega) (by show st.fst.size ≤ a + 1; omega)
      refine e.trans ?_
      by_cases hlt : a < (tl x).length
      · rw [List.drop_eq_getElem_cons hlt, List.count_cons_of_ne]
        intro q
        exact hx (by rw [List.getElem?_eq_getElem hlt, ← q])
      · rw [List.drop_eq_nil_of_le (by omega), List.drop_eq_nil_of_le (by omega)]
theorem count_one (x : Str) (c : Nat) : Txt.count x ⟨#[c]⟩ = ((tl x).count c : Nat) := by
  unfold Txt.count
  rw [StrLaws.occ_eq, cnt_run x c (x.length + 1 - 0) 0 (#[], 0) (by omega) (Nat.le_refl _) (Nat.zero_le _)]
  simp
theorem count_sg : ∀ (bs : List Bool), (bs.map sg).count 120 = bs.count true
  | [] => rfl
  | true :: r => by
    rw [List.map_cons, List.count_cons_self, ← count_sg r]
    exact List.count_cons_self
  | false :: r => by
    rw [List.map_cons, List.count_cons_of_ne (by decide), count_sg r]
    exact (List.count_cons_of_ne (by decide)).symm
theorem count_enc (bs : List Bool) : Txt.count (enc bs) (enc [true]) = (bs.count true : Nat) := by
  show Txt.count (enc bs) ⟨#[120]⟩ = _
  rw [count_one, tl_enc, count_sg]
/-! find -/
theorem at_enc (ws bs : List Bool) (i : Nat) : StrLaws.At (enc ws) (enc bs) (enc ws).length i ↔ i + bs.length ≤ ws.length ∧ (ws.drop i).take bs.length = bs := by
  unfold StrLaws.At
  rw [StrLaws.subAt_eq, beq_iff_eq, len_enc, len_enc]
  show _ ∧ ((ws.map sg).drop i).take bs.length = bs.map sg ↔ _
  rw [← List.map_drop, ← List.map_take]
  exact ⟨fun h => ⟨h.1, map_sg_inj h.2⟩, fun h => ⟨h.1, congrArg _ h.2⟩⟩
theorem find_enc (ws bs : List Bool) : (Txt.find (enc ws) (enc bs) = -1 ∧ ∀ i, ¬ (i + bs.length ≤ ws.length ∧ (ws.drop i).take bs.length = bs)) ∨
    ∃ i : Nat, Txt.find (enc ws) (enc bs) = (i : Int) ∧ i + bs.length ≤ ws.length ∧ (ws.drop i).take bs.length = bs ∧ ∀ k, k < i → ¬ (k + bs.length ≤ ws.length ∧ (ws.drop k).take bs.length = bs) := by
  rcases StrLaws.occ_head (enc ws) (enc bs) 1 (Nat.le_refl _) with ⟨h, hn⟩ | ⟨i, r, h, ha, hn⟩
  · refine .inl ⟨by unfold Txt.find; rw [h], fun i q => hn i ((at_enc ws bs i).mpr q)⟩
  · have h1 := (at_enc ws bs i).mp ha
    exact .inr ⟨i, by unfold Txt.find; rw [h], h1.1, h1.2, fun k hk q => hn k hk ((at_enc ws bs k).mpr q)⟩
/-! slices, signs -/
def cutL (bs : List Bool) (lo hi : Option Int) : List Bool := (bs.drop (HT.sIx bs.length 0 lo)).take (HT.sIx bs.length bs.length hi - HT.sIx bs.length 0 lo)
theorem cut_enc (bs : List Bool) (lo hi : Option Int) : cutS (enc bs) lo hi = enc (cutL bs lo hi) := by
  refine ext_tl ?_
  show (((bs.map sg).drop (HT.sIx (enc bs).length 0 lo)).take _) = _
  rw [len_enc, ← List.map_drop, ← List.map_take]
  rfl
theorem cutL_len (bs : List Bool) (lo hi : Option Int) : (cutL bs lo hi).length ≤ bs.length := by
  unfold cutL
  rw [List.length_take, List.length_drop]
  omega
theorem sIx_nn (n : Nat) (d : Nat) (i : Nat) : HT.sIx n d (some (i : Int)) = min i n := HT.sIx_nat n d i
theorem cutL_to (bs : List Bool) (i : Nat) : cutL bs none (some (i : Int)) = bs.take i := by
  unfold cutL
  rw [HT.sIx_none, sIx_nn, List.drop_zero, Nat.sub_zero]
  rcases Nat.le_total i bs.length with h | h
  · rw [Nat.min_eq_left h]
  · rw [Nat.min_eq_right h, List.take_length, List.take_of_length_le h]
theorem cutL_from (bs : List Bool) (i : Nat) : cutL bs (some (i : Int)) none = bs.drop i := by
  unfold cutL
  rw [HT.sIx_none, sIx_nn]
  rcases Nat.le_total i bs.length with h | h
  · rw [Nat.min_eq_left h, List.take_of_length_le (by rw [List.length_drop]; omega)]
  · rw [Nat.min_eq_right h, List.drop_length, List.drop_eq_nil_of_le h, List.take_nil]
theorem cutL_mid (bs : List Bool) (i j : Nat) : cutL bs (some (i : Int)) (some (j : Int)) = (bs.drop i).take (j - i) := by
  unfold cutL
  rw [sIx_nn, sIx_nn]
  rcases Nat.le_total i bs.length with h | h
  · rw [Nat.min_eq_left h]
    rcases Nat.le_total j bs.length with h2 | h2
    · rw [Nat.min_eq_left h2]
    · rw [Nat.min_eq_right h2, List.take_of_length_le (by rw [List.length_drop]; omega), List.take_of_length_le (by rw [List.length_drop]; omega)]
  · rw [Nat.min_eq_right h, List.drop_length, List.drop_eq_nil_of_le h, List.take_nil, List.take_nil]
theorem mem_enc (bs : List Bool) : decide (120 ∈ (enc bs).cps.toList) = bs.contains true := by
  rw [cps_enc]
  induction bs with
  | nil => rfl
  | cons a r ih =>
    rw [List.map_cons, List.contains_cons, ← ih]
    cases a <;> simp [sg]
theorem mem_encF (bs : List Bool) : decide (46 ∈ (enc bs).cps.toList) = bs.contains false := by
  rw [cps_enc]
  induction bs with
  | nil => rfl
  | cons a r ih =>
    rw [List.map_cons, List.contains_cons, ← ih]
    cases a <;> simp [sg]
end Eb
/-! ### what the readings give, over rows -/
local macro_rules | `(tactic| walk_at "sz") => `(tactic| first | assumption | omega | decide | (simp only [List.length_append, List.length_cons, List.length_nil, List.length_map, List.length_replicate, List.length_range, List.length_reverse] at *; omega))
namespace Eb
open PySem L2 TL Evl Builtin Builtin.Str
theorem sz {n : Nat} (h : n ≤ 100000) : n ≤ sizeLine := sz_of h
section
variable {K : PySem.W.Frag} {σ : L2.St} {H H' : Hp} {ta tb tc te : TE} {x y z v : V} {bs cs : List Bool} {i j k : Int}
theorem ev_eq (h : Ev te σ H v) (e : v = z) : Ev te σ H z := e ▸ h
theorem et_eq {t : TT} {a b : Bool} (h : EvT t σ H a) (e : a = b) : EvT t σ H b := e ▸ h
theorem ev_cmp {p : Int → Int → Bool} (ha : Ev ta σ H (.int i)) (hb : Ev tb σ H (.int j)) : Ev (tCmp p ta tb) σ H (.bl (p i j)) := fun H1 e Q q =>
  ha H1 e _ fun H2 e2 => hb H2 (e.trans e2) _ fun H3 e3 => ⟨i, j, rfl, rfl, q H3 (e2.trans e3)⟩
theorem et_cmp {p : Int → Int → Bool} (ha : Ev ta σ H (.int i)) (hb : Ev tb σ H (.int j)) : EvT (tB (tCmp p ta tb)) σ H (p i j) := et_B (ev_cmp ha hb)
theorem rv_eqS {a b : List Bool} : RV rEq (.str (enc a)) (.str (enc b)) H (.bl (decide (a = b))) := fun H1 _ _ q => ⟨rfl, by rw [dec_str]; exact q H1 (Ex.refl H1)⟩
theorem rv_neS {a b : List Bool} : RV rNe (.str (enc a)) (.str (enc b)) H (.bl (!decide (a = b))) := fun H1 _ _ q => ⟨rfl, by rw [dec_str]; exact q H1 (Ex.refl H1)⟩
theorem rv_eqB {a b : Bool} : RV rEq (.bl a) (.bl b) H (.bl (a == b)) := fun H1 _ _ q => ⟨rfl, by rw [Eb.dec_bl]; exact q H1 (Ex.refl H1)⟩
theorem rv_neB {a b : Bool} : RV rNe (.bl a) (.bl b) H (.bl (!(a == b))) := fun H1 _ _ q => ⟨rfl, by rw [Eb.dec_bl]; exact q H1 (Ex.refl H1)⟩
theorem ev_chain {p q : Int → Int → Bool} (ha : Ev ta σ H (.int i)) (hb : Ev tb σ H (.int j)) (hc : Ev tc σ H (.int k)) :
    Ev (tChain (rI0 fun i j => .bl (p i j)) (rI0 fun i j => .bl (q i j)) ta tb tc) σ H (.bl (p i j && q j k)) := fun H1 e Q w =>
  ha H1 e _ fun H2 e2 => hb H2 (e.trans e2) _ fun H3 e3 => ⟨i, j, rfl, rfl, p i j, rfl, by
    cases hp : p i j with
    | true =>
      rw [hp] at w
      rw [if_pos rfl]
      exact hc H3 ((e.trans e2).trans e3) _ fun H4 e4 => ⟨j, k, rfl, rfl, w H4 ((e2.trans e3).trans e4)⟩
    | false =>
      rw [hp] at w
      rw [if_neg Bool.false_ne_true]
      exact w H3 (e2.trans e3)⟩
theorem et_test' {b : Bool} (h : Ev te σ H (.bl b)) : EvT (tTest te) σ H b := et_test h
theorem rv_mul (h : CMul i j) : RV (rI CMul fun i j => .int (i * j)) (.int i) (.int j) H (.int (i * j)) := rv_I h
theorem mul_l (h1 : -18446744073709551616 < i) (h2 : i < 18446744073709551616) : CMul i j := .inl ⟨h1, h2⟩
theorem mul_r (h1 : -18446744073709551616 < j) (h2 : j < 18446744073709551616) : CMul i j := .inr ⟨h1, h2⟩
/-! texts -/
theorem rv_catS (ha : bs.length ≤ 100000) (hb : cs.length ≤ 100000) : RV (fun x y H Q => ∃ i j, x = .str i ∧ y = .str j ∧ i.length + j.length ≤ sizeLine ∧ Q (.str (i ++ j)) H) (.str (enc bs)) (.str (enc cs)) H (.str (enc (bs ++ cs))) :=
  fun H1 _ _ q => ⟨_, _, rfl, rfl, by
    rw [len_enc, len_enc]
    exact Nat.le_trans (Nat.add_le_add ha hb) (by decide), by
    rw [enc_app]
    exact q H1 (Ex.refl H1)⟩
theorem rc_lenS (h : bs.length ≤ 100000) : RC (fun xs H Q => ∃ z, xs = [.str z] ∧ z.length ≤ sizeLine ∧ Q (.int z.length) H) [.str (enc bs)] H (.int (bs.length : Int)) := fun H1 _ _ q =>
  ⟨_, rfl, by
    rw [len_enc]
    exact sz h, by
    rw [len_enc]
    exact q H1 (Ex.refl H1)⟩
theorem rc_lenL {p : Addr} {xs : List V} (h : SqL K H p xs) : RC (fun xs H Q => ∃ p ys, xs = [.ref p] ∧ (SqL K H p ys ∨ SqT K H p ys) ∧ Q (.int ys.length) H) [.ref p] H (.int (xs.length : Int)) := fun H1 e _ q =>
  ⟨p, xs, rfl, .inl (ex_l e h), q H1 (Ex.refl H1)⟩
theorem at_enc1 {n : Nat} {b : Bool} (h : bs[n]? = some b) : atI (enc bs).cps.toList (n : Int) = some (sg b) := by
  refine atI_nat ?_
  rw [cps_enc, List.getElem?_map, h]
  rfl
theorem rv_ixSn {n : Nat} {b : Bool} (hl : bs.length ≤ 100000) (h : bs[n]? = some b) : RV rIxS (.str (enc bs)) (.int (n : Int)) H (.str (enc [b])) := rv_ixS (by rw [len_enc]; exact hl) (at_enc1 h)
theorem rv_ixSi {n : Nat} {b : Bool} (hl : bs.length ≤ 100000) (hi : i = (n : Int)) (h : bs[n]? = some b) : RV rIxS (.str (enc bs)) (.int i) H (.str (enc [b])) := by
  rw [hi]
  exact rv_ixSn hl h
theorem ev_slS {tl th : TO} {lo hi : Option Int} (h : Ev te σ H (.str (enc bs))) (h1 : EvO tl σ H lo) (h2 : EvO th σ H hi) (hl : bs.length ≤ 100000) : Ev (tSl rSlS te tl th) σ H (.str (enc (cutL bs lo hi))) := fun H1 e _ q =>
  h H1 e _ fun H2 e2 => h1 H2 (e.trans e2) _ fun H3 e3 => h2 H3 ((e.trans e2).trans e3) _ fun H4 e4 =>
    ⟨_, rfl, by
      rw [len_enc]
      exact sz hl, by
      rw [cut_enc]
      exact q H4 ((e2.trans e3).trans e4)⟩
/-! a text's methods: one argument -/
theorem ev_m1 {r : V → List V → Hp → VK → Prop} {a : Str} (h : Ev ta σ H (.str a)) (hb : Ev tb σ H y) (hr : ∀ H1, Ex H H1 → ∀ Q : VK, (∀ H2, Ex H1 H2 → Q z H2) → r (.str a) [y] H1 Q) : Ev (tM1 r ta tb) σ H z := fun H1 e Q q =>
  h H1 e _ fun H2 e2 => ⟨⟨a, rfl⟩, hb H2 (e.trans e2) _ fun H3 e3 => hr H3 ((e.trans e2).trans e3) Q fun H4 e4 => q H4 ((e2.trans e3).trans e4)⟩
theorem ev_cntS (h : Ev ta σ H (.str (enc bs))) (hb : Ev tb σ H (.str (enc [true]))) : Ev (tM1 (fun x xs H Q => ∃ a b, x = .str a ∧ xs = [.str b] ∧ Q (.int (Txt.count a b)) H) ta tb) σ H (.int (bs.count true : Nat)) :=
  ev_m1 h hb fun H1 _ _ q => ⟨_, _, rfl, rfl, by
    rw [count_enc]
    exact q H1 (Ex.refl H1)⟩
theorem ev_findS (h : Ev ta σ H (.str (enc bs))) (hb : Ev tb σ H (.str (enc cs))) : Ev (tM1 (fun x xs H Q => ∃ a b, x = .str a ∧ xs = [.str b] ∧ Q (.int (Txt.find a b)) H) ta tb) σ H (.int (Txt.find (enc bs) (enc cs))) :=
  ev_m1 h hb fun H1 _ _ q => ⟨_, _, rfl, rfl, q H1 (Ex.refl H1)⟩
/-- glue.join(a new list of rows) -/
theorem ev_joinN {ls : List (List Bool)} (h : Ev ta σ H (.str (enc []))) (hb : EvL tb σ H (ls.map fun l => V.str (enc l))) (hl : ls.length ≤ 100000) (h1 : ∀ l ∈ ls, l.length ≤ 100) :
    Ev (tM1 (fun x xs H Q => ∃ a p, ∃ ys : List Str, x = .str a ∧ xs = [.ref p] ∧ (SqL K H p (ys.map V.str) ∨ SqT K H p (ys.map V.str)) ∧ (ys.map (·.length)).sum + ys.length * a.length ≤ 16777216 ∧ Q (.str (Txt.join a ys)) H) ta tb) σ H (.str (enc ls.flatten)) := fun H1 e Q q =>
  h H1 e _ fun H2 e2 => ⟨⟨_, rfl⟩, hb H2 (e.trans e2) _ fun p H3 hp e3 hx => ⟨enc [], p, ls.map enc, rfl, rfl, .inl (.inl (.inl (by
      rw [List.map_map]
      exact hx))), by
      have hs : ∀ ls : List (List Bool), (∀ l ∈ ls, l.length ≤ 100) → ((ls.map enc).map (·.length)).sum ≤ 100 * ls.length := by
        intro ls
        induction ls with
        | nil => exact fun _ => Nat.le_refl _
        | cons a r ih =>
          intro h
          have h2 := h a List.mem_cons_self
          have h3 := ih fun l hm => h l (List.mem_cons_of_mem _ hm)
          rw [List.map_cons, List.map_cons, List.sum_cons, len_enc, List.length_cons]
          omega
      have h2 := hs ls h1
      rw [List.length_map, len_enc]
      simp only [List.length_nil, Nat.mul_zero, Nat.add_zero]
      omega, by
      rw [join0]
      exact q H3 (e2.trans e3)⟩⟩
/-- .. of a list that stands -/
theorem ev_joinL {ls : List (List Bool)} {p : Addr} (h : Ev ta σ H (.str (enc []))) (hb : Ev tb σ H (.ref p)) (hx : SqL K H p (ls.map fun l => V.str (enc l))) (hl : ls.length ≤ 100000) (h1 : ∀ l ∈ ls, l.length ≤ 100) :
    Ev (tM1 (fun x xs H Q => ∃ a p, ∃ ys : List Str, x = .str a ∧ xs = [.ref p] ∧ (SqL K H p (ys.map V.str) ∨ SqT K H p (ys.map V.str)) ∧ (ys.map (·.length)).sum + ys.length * a.length ≤ 16777216 ∧ Q (.str (Txt.join a ys)) H) ta tb) σ H (.str (enc ls.flatten)) := fun H1 e Q q =>
  h H1 e _ fun H2 e2 => ⟨⟨_, rfl⟩, hb H2 (e.trans e2) _ fun H3 e3 => ⟨enc [], p, ls.map enc, rfl, rfl, .inl (by
      rw [List.map_map]
      exact ex_l ((e.trans e2).trans e3) hx), by
      have hs : ∀ ls : List (List Bool), (∀ l ∈ ls, l.length ≤ 100) → ((ls.map enc).map (·.length)).sum ≤ 100 * ls.length := by
        intro ls
        induction ls with
        | nil => exact fun _ => Nat.le_refl _
        | cons a r ih =>
          intro h
          have h2 := h a List.mem_cons_self
          have h3 := ih fun l hm => h l (List.mem_cons_of_mem _ hm)
          rw [List.map_cons, List.map_cons, List.sum_cons, len_enc, List.length_cons]
          omega
      have h2 := hs ls h1
      rw [List.length_map, len_enc]
      simp only [List.length_nil, Nat.mul_zero, Nat.add_zero]
      omega, by
      rw [join0]
      exact q H3 (e2.trans e3)⟩⟩
/-! isinstance -/
theorem rc_isi {c : V} {t u : Value} {b : Bool} (hc : ClsV c u) (ht : ∀ H1, Ex H H1 → TyX K H1 x t) (hk : PySem.W.kitOne K t u = some b) : RC (rIsi K) [x, c] H (.bl b) := fun H1 e _ q => ⟨x, c, t, u, b, rfl, hc, ht H1 e, hk, q H1 (Ex.refl H1)⟩
theorem rc_isiI {n : String} {b : Bool} (hk : kitB "int" n = some b) : RC (rIsi K) [.int i, .ty n] H (.bl b) := rc_isi (.ty n) (fun _ _ => .base (.int i)) (kit_ty hk)
theorem rc_isiB {n : String} {b c : Bool} (hk : kitB "bool" n = some b) : RC (rIsi K) [.bl c, .ty n] H (.bl b) := rc_isi (.ty n) (fun _ _ => .base (.bl c)) (kit_ty hk)
theorem rc_isiS {n : String} {s : Str} {b : Bool} (hk : kitB "str" n = some b) : RC (rIsi K) [.str s, .ty n] H (.bl b) := rc_isi (.ty n) (fun _ _ => .base (.str s)) (kit_ty hk)
/-! sums, the greatest, the least -/
def mx (ns : List Int) : Int := ns.max?.getD 0
def mn (ns : List Int) : Int := ns.min?.getD 0
theorem mx_of {ns : List Int} {m : Int} (h1 : m ∈ ns) (h2 : ∀ y, y ∈ ns → y ≤ m) : m = mx ns := by
  unfold mx
  rw [List.max?_eq_some_iff.mpr ⟨h1, h2⟩]
  rfl
theorem mn_of {ns : List Int} {m : Int} (h1 : m ∈ ns) (h2 : ∀ y, y ∈ ns → m ≤ y) : m = mn ns := by
  unfold mn
  rw [List.min?_eq_some_iff.mpr ⟨h1, h2⟩]
  rfl
theorem mx_mem {ns : List Int} (h : 0 < ns.length) : mx ns ∈ ns ∧ ∀ y ∈ ns, y ≤ mx ns := by
  cases hm : ns.max? with
  | none =>
    rw [List.max?_eq_none_iff] at hm
    subst hm
    exact absurd h (Nat.lt_irrefl _)
  | some m =>
    have e : mx ns = m := by
      unfold mx
      rw [hm]
      rfl
    rw [e]
    exact List.max?_eq_some_iff.mp hm
theorem mn_mem {ns : List Int} (h : 0 < ns.length) : mn ns ∈ ns ∧ ∀ y ∈ ns, mn ns ≤ y := by
  cases hm : ns.min? with
  | none =>
    rw [List.min?_eq_none_iff] at hm
    subst hm
    exact absurd h (Nat.lt_irrefl _)
  | some m =>
    have e : mn ns = m := by
      unfold mn
      rw [hm]
      rfl
    rw [e]
    exact List.min?_eq_some_iff.mp hm
theorem rc_sum {p : Addr} {ns : List Int} (h : SqL K H p (ns.map V.int)) : RC (rSum K) [.ref p] H (.int ns.sum) := fun H1 e _ q => ⟨p, ns, rfl, ex_l e h, q H1 (Ex.refl H1)⟩
theorem rc_max {p : Addr} {ns : List Int} (h : SqL K H p (ns.map V.int)) (h0 : 0 < ns.length) : RC (rMax K) [.ref p] H (.int (mx ns)) := fun H1 e _ q => ⟨p, ns, rfl, ex_l e h, h0, fun m h1 h2 => by
  rw [mx_of h1 h2]
  exact q H1 (Ex.refl H1)⟩
theorem rc_min {p : Addr} {ns : List Int} (h : SqL K H p (ns.map V.int)) (h0 : 0 < ns.length) : RC (rMin K) [.ref p] H (.int (mn ns)) := fun H1 e _ q => ⟨p, ns, rfl, ex_l e h, h0, fun m h1 h2 => by
  rw [mn_of h1 h2]
  exact q H1 (Ex.refl H1)⟩
/-- of a list just made -/
theorem ev_maxN {ns : List Int} (h : EvL te σ H (ns.map V.int)) (h0 : 0 < ns.length) : Ev (tCB (rMax K) (tCons te tNil)) σ H (.int (mx ns)) := fun H1 e _ q =>
  h H1 e _ fun p H2 _ e2 hp => ⟨p, ns, rfl, sq_of hp, h0, fun m h1 h2 => by
    rw [mx_of h1 h2]
    exact q H2 e2⟩
/-! a place in a list of numbers -/
theorem rv_ixLi {p : Addr} {ns : List Int} {n : Nat} {m : Int} (h : SqL K H p (ns.map V.int)) (hi : i = (n : Int)) (hm : ns[n]? = some m) : RV (rIxL K) (.ref p) (.int i) H (.int m) := by
  rw [hi]
  exact rv_ixL h (atI_nat (by
    rw [List.getElem?_map, hm]
    rfl))
theorem rv_ixLlast {p : Addr} {xs : List V} (h : SqL K H p (xs ++ [v])) : RV (rIxL K) (.ref p) (.int (-1)) H v := rv_ixL h (atI_last _ _)
/-! comprehensions without tests -/
theorem given_all (n : Nat) (v : Nat → V) : given n (fun _ => true) v = (List.range n).map v := by
  unfold given
  rw [List.filter_eq_self.mpr (fun _ _ => rfl)]
theorem et_yes : EvT tYes σ H true := fun H1 _ _ q => q H1 (Ex.refl H1)
theorem el_mapR {t1 : TA} {j : Nat} {vs : List Nat} {n : Nat} (g : Nat → V) (h : EvA t1 σ H [.int (n : Int)]) (hn : n ≤ 40000) (hw : ∀ x, wipe ((wipe σ vs).set j (some x)) vs = wipe σ vs)
    (he : ∀ (i : Nat) H1, Ex H H1 → i < n → Ev te ((wipe σ vs).set j (some (.int (i : Int)))) H1 (g i)) : EvL (tLc (iRng1 t1) (gName j) tYes te vs) σ H ((List.range n).map g) := by
  have q := el_lcR1 (t := tYes) (te := te) (fun _ => true) g h (by omega) hw (fun _ _ _ _ => et_yes) (fun i H1 e hi _ => he i H1 e (by omega))
  rw [given_all] at q
  exact q
theorem el_mapL {α : Type} {a : Addr} {xs : List α} {f g : α → V} {tl : TE} {j : Nat} {vs : List Nat} (h : Ev tl σ H (.ref a)) (hx : SqL K H a (xs.map f)) (hz : xs.length ≤ 40000) (hw : ∀ x, wipe ((wipe σ vs).set j (some x)) vs = wipe σ vs)
    (he : ∀ (y : α) H1, Ex H H1 → y ∈ xs → Ev te ((wipe σ vs).set j (some (f y))) H1 (g y)) : EvL (tLc (iList K tl) (gName j) tYes te vs) σ H (xs.map g) := by
  cases hxs : xs with
  | nil =>
    have q := el_lcL (t := tYes) (te := te) (fun _ => true) (fun _ => V.non) h hx (by rw [List.length_map]; exact hz) hw (fun _ _ _ _ _ => et_yes) (fun i y H1 e hi _ => by
      rw [hxs] at hi
      simp at hi)
    rw [given_all, List.length_map, hxs] at q
    exact q
  | cons x0 r =>
    have q := el_lcL (t := tYes) (te := te) (fun _ => true) (fun i => g (xs.getD i x0)) h hx (by rw [List.length_map]; exact hz) hw (fun _ _ _ _ _ => et_yes) (fun i y H1 e hi _ => by
      rw [List.getElem?_map] at hi
      cases hq : xs[i]? with
      | none =>
        rw [hq] at hi
        cases hi
      | some w =>
        rw [hq] at hi
        have e2 : f w = y := Option.some.inj hi
        subst e2
        have e3 : xs.getD i x0 = w := by
          rw [List.getD_eq_getElem?_getD, hq]
          rfl
        rw [e3]
        exact he w H1 e (List.mem_of_getElem? hq))
    rw [given_all, List.length_map] at q
    have e : (List.range xs.length).map (fun i => g (xs.getD i x0)) = xs.map g := by
      apply List.ext_getElem?
      intro i
      rw [List.getElem?_map, List.getElem?_map]
      by_cases hi : i < xs.length
      · rw [List.getElem?_range hi, List.getElem?_eq_getElem hi]
        show some (g (xs.getD i x0)) = some (g xs[i])
        rw [List.getD_eq_getElem?_getD, List.getElem?_eq_getElem hi]
        rfl
      · rw [List.getElem?_eq_none (by rw [List.length_range]; omega), List.getElem?_eq_none (by omega)]
        rfl
    rw [e, hxs] at q
    exact q
/-- over a row, sign by sign -/
theorem el_mapS {g : Bool → V} {tl : TE} {j : Nat} {vs : List Nat} (h : Ev tl σ H (.str (enc bs))) (hz : bs.length ≤ 40000) (hw : ∀ x, wipe ((wipe σ vs).set j (some x)) vs = wipe σ vs)
    (he : ∀ (b : Bool) H1, Ex H H1 → b ∈ bs → Ev te ((wipe σ vs).set j (some (.str (enc [b])))) H1 (g b)) : EvL (tLc (iStr tl) (gName j) tYes te vs) σ H (bs.map g) := fun H0 e Q q => h H0 e _ fun H1 e1 => ⟨enc bs, rfl, fun Dl hD =>
  lc_it walk_str (fun i H' => H1 Dl = none ∧ Ex H1 H' ∧ H' Dl = some (.lst ((bs.take i).map g))) ⟨hD, Ex.new hD, upd_same⟩ (fun _ _ _ _ => trivial)
    (fun i x Ha Hb hi p y => by
      obtain ⟨rfl, c, hc, rfl⟩ := y
      obtain ⟨p1, p2, p3⟩ := p
      have hb : ∃ b, bs[i]? = some b ∧ sg b = c := by
        have h2 : (enc bs).cps.toList[i]? = some c := by
          rw [Array.getElem?_toList]
          exact hc
        rw [cps_enc, List.getElem?_map] at h2
        cases hq : bs[i]? with
        | none =>
          rw [hq] at h2
          cases h2
        | some b =>
          rw [hq] at h2
          exact ⟨b, rfl, Option.some.inj h2⟩
      obtain ⟨b, hb, rfl⟩ := hb
      refine ⟨hw _, ?_⟩
      show te (List.set (wipe σ vs) j (some (V.str (enc [b])))) Hb fun y H4 => ∃ acc, H4 Dl = some (.lst acc) ∧ acc.length < sizeLine ∧ (H1 Dl = none ∧ Ex H1 (upd H4 Dl (.lst (acc ++ [y]))) ∧ (upd H4 Dl (.lst (acc ++ [y]))) Dl = some (.lst ((bs.take (i + 1)).map g)))
      refine he b H1 (e.trans e1) (List.mem_of_getElem? hb) Hb p2 _ fun H4 e4 => ⟨(bs.take i).map g, e4 Dl _ p3, ?_, p1, Ex.mut (p2.trans e4) p1, ?_⟩
      · rw [List.length_map, List.length_take]
        exact sz_lt (by omega)
      · rw [upd_same, List.take_add_one, hb, List.map_append]
        rfl) (fun H' p => q Dl H' (fresh_back e1 p.1) (e1.trans p.2.1) (by
          have h3 := p.2.2
          rw [List.take_of_length_le (by
            have h4 := len_enc bs
            have h5 : (enc bs).length = (enc bs).cps.size := rfl
            omega)] at h3
          exact h3))⟩
end
end Eb
/-! ### rules that the layer lacks, over rows: row * n, list(row), signs counted in a list, the least of three -/
namespace Eb
open PySem PySem.Spec PyProof.Rows L2 TL Evl Builtin Builtin.Str
theorem foldl_app : ∀ (n : Nat) (a acc : Array Nat), ((List.replicate n a).foldl (· ++ ·) acc).toList = acc.toList ++ (List.replicate n a.toList).flatten
  | 0, a, acc => by simp
  | n + 1, a, acc => by
    rw [List.replicate_succ, List.foldl_cons, foldl_app n a (acc ++ a), List.replicate_succ, List.flatten_cons]
    simp
theorem rep_enc (bs : List Bool) (n : Nat) : (⟨(List.replicate n (enc bs).cps).foldl (· ++ ·) #[]⟩ : Str) = enc (List.replicate n bs).flatten := by
  refine ext_tl ?_
  show ((List.replicate n (enc bs).cps).foldl (· ++ ·) #[]).toList = _
  rw [foldl_app, tl_enc]
  show [] ++ (List.replicate n (bs.map sg)).flatten = _
  rw [List.nil_append, List.map_flatten, List.map_replicate]
theorem flat_rep1 (b : Bool) : ∀ n, (List.replicate n [b]).flatten = List.replicate n b
  | 0 => rfl
  | n + 1 => by
    rw [List.replicate_succ, List.flatten_cons, flat_rep1 b n, List.replicate_succ]
    rfl
def rMulS : R2 := fun x y H Q => ∃ (bs : List Bool) (n : Int), x = .str (enc bs) ∧ y = .int n ∧ (-1000 ≤ n ∧ n ≤ 1000 ∧ bs.length ≤ 1000) ∧ Q (.str (enc (List.replicate n.toNat bs).flatten)) H
section
variable {X : Cx}
theorem op_mulS : OpR X (binaryOp .Mult) rMulS := by
  intro pins s σ H x y v u Q I rx ry h
  obtain ⟨bs, n, rfl, rfl, ⟨h1, h2, h3⟩, q⟩ := h
  obtain ⟨t, rfl⟩ := rx
  obtain ⟨t', rfl⟩ := ry
  have hle : (enc bs).length = bs.length := len_enc bs
  refine PySem.P.mul_str (by
      have a1 : ¬ n < -(2 ^ 63 : Int) := by omega
      have a2 : ¬ n ≥ 2 ^ 63 := by omega
      rw [decide_eq_false a1, decide_eq_false a2]
      rfl) (fun c _ => by
      have : (1000 : Int) ≤ (2 ^ 63 - 1) / n := by
        rw [Int.le_ediv_iff_mul_le (by omega)]
        omega
      omega) (fun c _ => by
      rw [hle]
      unfold tooLong
      rw [decide_eq_false_iff_not]
      have : bs.length * n.toNat ≤ 1000 * 1000 := Nat.mul_le_mul h3 (by omega)
      have e2 : sizeLine = 16777216 := sizeLine_eq
      omega) ?_
  by_cases c : n < 1
  · rw [if_pos c]
    have e : n.toNat = 0 := by omega
    rw [e] at q
    exact ⟨by decide, V.str (enc []), H, I.tok _, ⟨_, rfl⟩, q⟩
  · rw [if_neg c]
    by_cases c2 : (n == 1 || (enc bs).length == 0) = true
    · rw [if_pos c2]
      have e : enc (List.replicate n.toNat bs).flatten = enc bs := by
        rw [Bool.or_eq_true, beq_iff_eq, beq_iff_eq, hle] at c2
        rcases c2 with z | z
        · rw [z]
          simp
        · have : bs = [] := List.eq_nil_of_length_eq_zero z
          rw [this]
          congr 1
          simp
      rw [e] at q
      exact ⟨V.str (enc bs), H, I, ⟨_, rfl⟩, q⟩
    · rw [if_neg c2, rep_enc]
      refine ⟨?_, V.str _, H, I.tok _, ⟨_, rfl⟩, q⟩
      rw [len_enc, List.length_flatten, List.map_replicate, List.sum_replicate_nat]
      have : n.toNat * bs.length ≤ 1000 * 1000 := Nat.mul_le_mul (by omega) h3
      exact Nat.le_trans this (by decide)
/-- list(row) -/
def rListS : List V → Hp → VK → Prop := fun xs H Q => ∃ bs : List Bool, xs = [V.str (enc bs)] ∧ bs.length ≤ 100000 ∧ ∀ l, H l = none → Q (.ref l) (upd H l (.lst (bs.map fun b => V.str (enc [b]))))
theorem call_listS (hc : X.calm = true) : CallR X (.type "list") rListS := by
  intro pins s σ H xs us Q I r h
  obtain ⟨bs, rfl, hl, q⟩ := h
  obtain ⟨u, rfl, rx⟩ := vals1 r
  obtain ⟨t, rfl⟩ := rx
  have hsz : (enc bs).cps.size = bs.length := len_enc bs
  refine call_list_str (I.ok.hd hc) (enc bs) t (fun h' tk acc' c' kp e it => ?_) (by
    rw [hsz]
    exact sz hl)
  refine ⟨.ref s.heap.objs.size, _, I.laid (t' := tk) kp (Nat.le_refl _) (show ObjOk X.prog X.w _ h' _ (.lst (bs.map fun b => V.str (enc [b]))) from ⟨?_, acc'.toList, c', ?_, e⟩), rfl, q _ (I.hok.fresh (Nat.le_refl _))⟩
  · rw [List.length_map]
    exact sz hl
  · have hs := it.1
    have hv := it.2
    rw [hsz] at hs
    have gen : ∀ (bs' : List Bool) (us : List Value) (n : Nat), us.length = bs'.length → (∀ (j : Nat) v, us[j]? = some v → ∃ b u, bs'[j]? = some b ∧ v = Value.str (enc [b]) u) → Vals (bs'.map fun b => V.str (enc [b])) us := by
      intro bs'
      induction bs' with
      | nil =>
        intro us _ hl' _
        cases us with
        | nil => exact .nil
        | cons a r => cases hl'
      | cons b r ih =>
        intro us n hl' hg
        cases us with
        | nil => cases hl'
        | cons a us =>
          obtain ⟨b', u, e1, e2⟩ := hg 0 a rfl
          have e3 : b = b' := Option.some.inj e1
          subst e3
          exact .cons ⟨u, e2⟩ (ih us n (by simpa using hl') fun j v hj => hg (j + 1) v hj)
    refine gen bs acc'.toList 0 (by
      rw [Array.length_toList]
      exact hs) fun j v hj => ?_
    rw [Array.getElem?_toList] at hj
    obtain ⟨c, u, h1, h2⟩ := hv j v hj
    have h3 : (enc bs).cps.toList[j]? = some c := by
      rw [Array.getElem?_toList]
      exact h1
    rw [cps_enc, List.getElem?_map] at h3
    cases hq : bs[j]? with
    | none =>
      rw [hq] at h3
      cases h3
    | some b =>
      rw [hq] at h3
      have e2 : sg b = c := Option.some.inj h3
      subst e2
      exact ⟨b, u, rfl, h2⟩
/-- xs.count("x"), xs a list of signs -/
def rCntS (K : PySem.W.Frag) : V → List V → Hp → VK → Prop := fun x xs H Q => ∃ (p : Addr) (bs : List Bool), x = .ref p ∧ xs = [.str (enc [true])] ∧ SqL K H p (bs.map fun b => V.str (enc [b])) ∧ Q (.int (bs.count true : Nat)) H
theorem cntin_enc : ∀ bs : List Bool, countIn (.str (enc [true])) ((bs.map fun b => enc [b]).map PyData.str) = ((bs.count true : Nat) : Int)
  | [] => rfl
  | b :: r => by
    have ih := cntin_enc r
    rw [List.map_cons, List.map_cons, countIn, ih]
    cases b
    · have e : same (.str (enc [false])) (.str (enc [true])) = false := by decide +kernel
      simp [e]
    · have e : same (.str (enc [true])) (.str (enc [true])) = true := by decide +kernel
      simp [e]
      omega
theorem mt_countS : MtR X "list.count" (rCntS X.K) := by
  intro pins s σ H x xs v us Q I rx rxs h
  obtain ⟨p, bs, rfl, rfl, hs, q⟩ := h
  cases rx
  obtain ⟨u, rfl, ru⟩ := rxs.one
  obtain ⟨t, rfl⟩ := ru
  obtain ⟨its, rv, pl, hlen⟩ := I.list hs
  have hst : StrsAre its (bs.map fun b => enc [b]) := strs_of_vals (by
    rw [List.map_map]
    exact rv)
  refine count_list_strs pl.isList hst ?_
  rw [cntin_enc]
  exact ⟨.int _, H, I.tok _, ⟨_, rfl⟩, q⟩
/-- the least of three numbers -/
theorem call_min3I (hc : X.calm = true) : CallR X (.builtin "min") (fun xs H Q => ∃ a b c : Int, xs = [.int a, .int b, .int c] ∧ Q (.int (mn [a, b, c])) H) := by
  intro pins s σ H xs us Q I r h
  obtain ⟨a, b, c, rfl, q⟩ := h
  cases r with
  | cons r1 r =>
    cases r with
    | cons r2 r =>
      cases r with
      | cons r3 r =>
        cases r
        obtain ⟨t1, rfl⟩ := r1
        obtain ⟨t2, rfl⟩ := r2
        obtain ⟨t3, rfl⟩ := r3
        refine PySem.min_three_ints (I.ok.hd hc) fun h' tk kp => ?_
        have hm : ∀ m, m ∈ [a, b, c] → (∀ y ∈ [a, b, c], m ≤ y) → Q (.int m) H := fun m h1 h2 => by
          rw [mn_of h1 h2]
          exact q
        have I' := I.kept (t' := tk) kp
        by_cases c1 : b < a <;> by_cases c2 : c < b <;> by_cases c3 : c < a <;> simp only [c1, c2, c3, if_true, if_false] <;>
          (refine ⟨.int (_ : Int), H, I', ⟨_, rfl⟩, hm _ (by simp) (by
            intro y hy
            simp only [List.mem_cons, List.not_mem_nil, or_false] at hy
            omega)⟩)
end
/-! their readings -/
section
variable {K : PySem.W.Frag} {σ : L2.St} {H H' : Hp} {ta tb tc te : TE} {x y z v : V} {bs cs : List Bool} {i j k : Int}
theorem rv_mulS (h : -1000 ≤ i ∧ i ≤ 1000 ∧ bs.length ≤ 1000) : RV rMulS (.str (enc bs)) (.int i) H (.str (enc (List.replicate i.toNat bs).flatten)) := fun H1 _ _ q => ⟨bs, i, rfl, rfl, h, q H1 (Ex.refl H1)⟩
theorem el_listS (h : Ev te σ H (.str (enc bs))) (hl : bs.length ≤ 100000) : EvL (tCB rListS (tCons te tNil)) σ H (bs.map fun b => V.str (enc [b])) := fun H1 e Q q =>
  h H1 e _ fun H2 e2 => ⟨bs, rfl, hl, fun l hl => q l _ (fresh_back e2 hl) (e2.trans (Ex.new hl)) upd_same⟩
theorem ev_cntL {p : Addr} (h : Ev ta σ H (.ref p)) (hb : Ev tb σ H (.str (enc [true]))) (hx : SqL K H p (bs.map fun b => V.str (enc [b]))) : Ev (tBM K "list" (rCntS K) ta (tCons tb tNil)) σ H (.int (bs.count true : Nat)) := fun H1 e Q q =>
  h H1 e _ fun H2 e2 => ⟨.inl ⟨rfl, _, ex_l (e.trans e2) hx⟩, hb H2 (e.trans e2) _ fun H3 e3 => ⟨p, bs, rfl, rfl, ex_l ((e.trans e2).trans e3) hx, q H3 (e2.trans e3)⟩⟩
theorem rc_min3 {a b c : Int} : RC (fun xs H Q => ∃ a b c : Int, xs = [.int a, .int b, .int c] ∧ Q (.int (mn [a, b, c])) H) [.int a, .int b, .int c] H (.int (mn [a, b, c])) := fun H1 _ _ q => ⟨a, b, c, rfl, q H1 (Ex.refl H1)⟩
theorem takeWhile_all {p : Nat → Bool} : ∀ l : List Nat, (∀ c ∈ l, p c = true) → l.takeWhile p = l
  | [], _ => rfl
  | a :: r, h => by
    rw [List.takeWhile_cons, h a List.mem_cons_self, if_pos rfl, takeWhile_all r fun c hc => h c (List.mem_cons_of_mem _ hc)]
theorem ite_self_of {α : Type} {c : Prop} [Decidable c] {a b : α} (h : a = b) : (if c then a else b) = b := by
  rw [h, ite_self]
/-- a row stripped of beats and rests -/
theorem strip_enc (bs : List Bool) : Txt.stripChars (enc bs) (enc ([true] ++ [false])) = enc [] := by
  have hgo : ∀ c ∈ (enc bs).cps.toList, (enc ([true] ++ [false])).cps.contains c = true := by
    intro c hc
    rw [cps_enc] at hc
    obtain ⟨b, _, rfl⟩ := List.mem_map.mp hc
    cases b <;> decide +kernel
  have hw : (enc bs).cps.toList.takeWhile (enc ([true] ++ [false])).cps.contains = (enc bs).cps.toList := takeWhile_all _ hgo
  have hlo : stripLo (enc ([true] ++ [false])).cps.contains true (enc bs) = bs.length := by
    unfold stripLo
    rw [if_pos rfl, hw, cps_enc, List.length_map]
  unfold Txt.stripChars Txt.stripBy
  cases bs with
  | nil =>
    by_cases hc : stripSame (enc ([true] ++ [false])).cps.contains true true (enc []) = true
    · rw [if_pos hc]
    · rw [if_neg hc]
      refine ext_tl ?_
      unfold stripped
      rw [tl_strSub, hlo, List.drop_eq_nil_of_le (by rw [tl_enc]; exact Nat.zero_le _), List.take_nil]
      rfl
  | cons b r =>
    have hs : stripSame (enc ([true] ++ [false])).cps.contains true true (enc (b :: r)) = false := by
      unfold stripSame
      rw [hlo]
      rfl
    rw [hs, if_neg Bool.false_ne_true]
    refine ext_tl ?_
    unfold stripped
    rw [tl_strSub, hlo, List.drop_eq_nil_of_le (by rw [tl_enc, List.length_map]; exact Nat.le_refl _), List.take_nil]
    rfl
theorem ev_stripS (h : Ev ta σ H (.str (enc bs))) (hb : Ev tb σ H (.str (enc ([true] ++ [false])))) (hl : bs.length ≤ 100000) :
    Ev (tM1 (fun x xs H Q => ∃ a b, x = .str a ∧ xs = [.str b] ∧ a.length ≤ sizeLine ∧ Q (.str (Txt.stripChars a b)) H) ta tb) σ H (.str (enc [])) :=
  ev_m1 h hb fun H1 _ _ q => ⟨_, _, rfl, rfl, by
    rw [len_enc]
    exact sz hl, by
    rw [strip_enc]
    exact q H1 (Ex.refl H1)⟩
end
end Eb
/-! ### more readings; the built-in names; defs by name -/
namespace Eb
open PySem PySem.Spec PyProof.Rows L2 TL Evl Builtin Builtin.Str
theorem hu64 {A : Around} {k : Nat} (hr : Room k A) : A.units + 64 < cLine := by
  have := hr.un
  omega
theorem hu1 {A : Around} {k : Nat} (hr : Room k A) : A.units + 1 < cLine := by
  have := hr.un
  omega
theorem mulx20 {c : Int} (h : Builtin.Int.intBits c ≤ 1048576) : CMulX c (10 ^ (20 : Int).toNat) := by
  have h2 : Builtin.Int.intBits (10 ^ (20 : Int).toNat) ≤ 67 := by decide +kernel
  unfold CMulX
  omega
section
variable {X : Cx} {j : Nat} {pos : Pos}
theorem pe_sx : PE X (.Constant (.str "x") j pos) (tC (.str (enc [true]))) := by
  rw [← enc_x]
  exact pe_str
theorem pe_sd : PE X (.Constant (.str ".") j pos) (tC (.str (enc [false]))) := by
  rw [← enc_d]
  exact pe_str
theorem pe_s0 : PE X (.Constant (.str "") j pos) (tC (.str (enc []))) := by
  rw [← enc_0]
  exact pe_str
theorem pe_sdx : PE X (.Constant (.str ".x") j pos) (tC (.str (enc [false, true]))) := by
  rw [← enc_dx]
  exact pe_str
end
section
variable {K : PySem.W.Frag} {σ : L2.St} {H H' : Hp} {ta tb tc te : TE} {x y z v : V} {bs cs : List Bool} {i j k : Int}
theorem ev_ifV {t : TT} {b : Bool} {u w : V} (h : EvT t σ H b) (ha : Ev ta σ H u) (hb : Ev tb σ H w) : Ev (tIf t ta tb) σ H (if b then u else w) := by
  refine ev_if h (fun e => ?_) (fun e => ?_)
  · subst e
    exact ha
  · subst e
    exact hb
theorem ev_ifS {t : TT} {b : Bool} (h : EvT t σ H b) (ha : Ev ta σ H (.str (enc [true]))) (hb : Ev tb σ H (.str (enc [false]))) : Ev (tIf t ta tb) σ H (.str (enc [b])) :=
  ev_eq (ev_ifV h ha hb) (by cases b <;> rfl)
theorem ev_ifN {t : TT} {b : Bool} (h : EvT t σ H b) (ha : Ev ta σ H (.str (enc [false]))) (hb : Ev tb σ H (.str (enc [true]))) : Ev (tIf t ta tb) σ H (.str (enc [!b])) :=
  ev_eq (ev_ifV h ha hb) (by cases b <;> rfl)
theorem ev_ifD {t : TT} {b : Bool} (h : EvT t σ H b) (ha : Ev ta σ H (.str (enc bs))) (hb : Ev tb σ H (.str (enc cs))) : Ev (tIf t ta tb) σ H (.str (enc (if b then bs else cs))) :=
  ev_eq (ev_ifV h ha hb) (by cases b <;> rfl)
theorem ev_ifI {t : TT} {b : Bool} (h : EvT t σ H b) (ha : Ev ta σ H (.int i)) (hb : Ev tb σ H (.int j)) : Ev (tIf t ta tb) σ H (.int (if b then i else j)) :=
  ev_eq (ev_ifV h ha hb) (by cases b <;> rfl)
theorem getD_some {α : Type} {l : List α} {n : Nat} {d : α} (h : n < l.length) : l[n]? = some (l.getD n d) := by
  rw [List.getD_eq_getElem?_getD, List.getElem?_eq_getElem h]
  rfl
theorem rv_ixSg (hl : bs.length ≤ 100000) (h0 : 0 ≤ i) (h1 : i < bs.length) : RV rIxS (.str (enc bs)) (.int i) H (.str (enc [bs.getD i.toNat false])) :=
  rv_ixSi hl (by omega : i = (i.toNat : Int)) (getD_some (by omega))
theorem rv_ixSm (hl : bs.length ≤ 100000) (h0 : 0 < j) (h1 : j ≤ bs.length) : RV rIxS (.str (enc bs)) (.int (i % j)) H (.str (enc [bs.getD (i % j).toNat false])) :=
  rv_ixSg hl (Int.emod_nonneg i (by omega)) (Int.lt_of_lt_of_le (Int.emod_lt_of_pos i h0) h1)
theorem rv_ixLg {p : Addr} {ns : List Int} (h : SqL K H p (ns.map V.int)) (h0 : 0 ≤ i) (h1 : i < ns.length) : RV (rIxL K) (.ref p) (.int i) H (.int (ns.getD i.toNat 0)) :=
  rv_ixLi h (by omega : i = (i.toNat : Int)) (getD_some (by omega))
theorem rv_ixLmod {p : Addr} {ns : List Int} (h : SqL K H p (ns.map V.int)) (h0 : 0 < j) (h1 : j ≤ ns.length) : RV (rIxL K) (.ref p) (.int (i % j)) H (.int (ns.getD (i % j).toNat 0)) :=
  rv_ixLg h (Int.emod_nonneg i (by omega)) (Int.lt_of_lt_of_le (Int.emod_lt_of_pos i h0) h1)
theorem rv_ixLm {p : Addr} {ns : List Int} (h : SqL K H p (ns.map V.int)) (h1 : 0 < ns.length) : RV (rIxL K) (.ref p) (.int (-1)) H (.int (ns.getLast?.getD 0)) := by
  rcases List.eq_nil_or_concat ns with e | ⟨r, a, e⟩
  · subst e
    exact absurd h1 (Nat.lt_irrefl _)
  · rw [List.concat_eq_append] at e
    subst e
    rw [List.map_append] at h
    rw [List.getLast?_append]
    exact rv_ixLlast h
theorem rv_inX : RV (fun x y H Q => ∃ (c : Nat) (z : Str), x = .str ⟨#[c]⟩ ∧ y = .str z ∧ Q (.bl (decide (c ∈ z.cps.toList))) H) (.str (enc [true])) (.str (enc bs)) H (.bl (bs.contains true)) := fun H1 _ _ q => ⟨120, _, rfl, rfl, by
  rw [mem_enc]
  exact q H1 (Ex.refl H1)⟩
theorem rv_notInX : RV (fun x y H Q => ∃ (c : Nat) (z : Str), x = .str ⟨#[c]⟩ ∧ y = .str z ∧ Q (.bl (!decide (c ∈ z.cps.toList))) H) (.str (enc [true])) (.str (enc bs)) H (.bl (!bs.contains true)) := fun H1 _ _ q => ⟨120, _, rfl, rfl, by
  rw [mem_enc]
  exact q H1 (Ex.refl H1)⟩
theorem rv_notInXD : RV (fun x y H Q => ∃ (c : Nat) (z : Str), x = .str ⟨#[c]⟩ ∧ y = .str z ∧ Q (.bl (!decide (c ∈ z.cps.toList))) H) (.str (enc [false])) (.str (enc bs)) H (.bl (!bs.contains false)) := fun H1 _ _ q => ⟨46, _, rfl, rfl, by
  rw [mem_encF]
  exact q H1 (Ex.refl H1)⟩
theorem ev_minN {ns : List Int} (h : EvL te σ H (ns.map V.int)) (h0 : 0 < ns.length) : Ev (tCB (rMin K) (tCons te tNil)) σ H (.int (mn ns)) := fun H1 e _ q =>
  h H1 e _ fun p H2 _ e2 hp => ⟨p, ns, rfl, sq_of hp, h0, fun m h1 h2 => by
    rw [mn_of h1 h2]
    exact q H2 e2⟩
theorem rc_max2 : RC (fun xs H Q => ∃ i j, xs = [.int i, .int j] ∧ Q (.int (if j > i then j else i)) H) [.int i, .int j] H (.int (if j > i then j else i)) := fun H1 _ _ q => ⟨i, j, rfl, q H1 (Ex.refl H1)⟩
/-- glue.join of a new list: one sign each; a row each -/
theorem ev_joinMN {α : Type} {xs : List α} {f : α → List Bool} (h : Ev ta σ H (.str (enc []))) (hb : EvL tb σ H (xs.map fun a => V.str (enc (f a)))) (hl : xs.length ≤ 100000) (h1 : ∀ a ∈ xs, (f a).length ≤ 100) :
    Ev (tM1 (fun x xs H Q => ∃ a p, ∃ ys : List Str, x = .str a ∧ xs = [.ref p] ∧ (SqL K H p (ys.map V.str) ∨ SqT K H p (ys.map V.str)) ∧ (ys.map (·.length)).sum + ys.length * a.length ≤ 16777216 ∧ Q (.str (Txt.join a ys)) H) ta tb) σ H (.str (enc (xs.map f).flatten)) :=
  ev_joinN (ls := xs.map f) h (by
    rw [List.map_map]
    exact hb) (by
    rw [List.length_map]
    exact hl) (fun l hm => by
    obtain ⟨a, ha, rfl⟩ := List.mem_map.mp hm
    exact h1 a ha)
theorem flat_sing {α : Type} (f : α → Bool) : ∀ xs : List α, (xs.map fun a => [f a]).flatten = xs.map f
  | [] => rfl
  | a :: r => by
    rw [List.map_cons, List.flatten_cons, flat_sing f r]
    rfl
theorem ev_join1N {α : Type} {xs : List α} {f : α → Bool} (h : Ev ta σ H (.str (enc []))) (hb : EvL tb σ H (xs.map fun a => V.str (enc [f a]))) (hl : xs.length ≤ 100000) :
    Ev (tM1 (fun x xs H Q => ∃ a p, ∃ ys : List Str, x = .str a ∧ xs = [.ref p] ∧ (SqL K H p (ys.map V.str) ∨ SqT K H p (ys.map V.str)) ∧ (ys.map (·.length)).sum + ys.length * a.length ≤ 16777216 ∧ Q (.str (Txt.join a ys)) H) ta tb) σ H (.str (enc (xs.map f))) := by
  have q := ev_joinMN (K := K) (f := fun a => [f a]) h hb hl (fun _ _ => Nat.le_of_ble_eq_true rfl)
  rw [flat_sing] at q
  exact q
theorem ev_join1L {bs : List Bool} {p : Addr} (h : Ev ta σ H (.str (enc []))) (hb : Ev tb σ H (.ref p)) (hx : SqL K H p (bs.map fun b => V.str (enc [b]))) (hl : bs.length ≤ 100000) :
    Ev (tM1 (fun x xs H Q => ∃ a p, ∃ ys : List Str, x = .str a ∧ xs = [.ref p] ∧ (SqL K H p (ys.map V.str) ∨ SqT K H p (ys.map V.str)) ∧ (ys.map (·.length)).sum + ys.length * a.length ≤ 16777216 ∧ Q (.str (Txt.join a ys)) H) ta tb) σ H (.str (enc bs)) := by
  have q := ev_joinL (K := K) (ls := bs.map fun b => [b]) h hb (by
    rw [List.map_map]
    exact hx) (by
    rw [List.length_map]
    exact hl) (fun l hm => by
    obtain ⟨a, _, rfl⟩ := List.mem_map.mp hm
    exact (by decide : 1 ≤ 100))
  rw [flat_one] at q
  exact q
end
/-! rules whose reading names the written part K outright (so that a comprehension's block may use them) -/
section
variable {X : Cx}
theorem pe_fldK {K : PySem.W.Frag} {e : Expr} {ta : TE} {f : Str} {pos : Pos} (h : X.K = K) (he : PE X e ta) (hb : attributeBase e f X.env (eval e X.env) = eval e X.env) : PE X (.Attribute e f pos) (tFld K ta f) := h ▸ pe_fld he hb
theorem ix_listK {K : PySem.W.Frag} (h : X.K = K) : IxR X (rIxL K) := h ▸ ix_list
theorem ix_tupK {K : PySem.W.Frag} (h : X.K = K) : IxR X (rIxT K) := h ▸ ix_tup
theorem cr_maxK {K : PySem.W.Frag} (h : X.K = K) (hc : X.calm = true) : CallR X (.builtin "max") (rMax K) := h ▸ cr_max hc
theorem cr_minK {K : PySem.W.Frag} (h : X.K = K) (hc : X.calm = true) : CallR X (.builtin "min") (rMin K) := h ▸ cr_min hc
theorem call_isiK1 {K : PySem.W.Frag} (h : X.K = K) : CallR X (.builtin "isinstance") (rIsi K) := h ▸ call_isi
end
/-! the built-in names that no module binds -/
structure Bn (mg : Str → Option Value) : Prop where
  len_ : mg "len" = none
  range_ : mg "range" = none
  max_ : mg "max" = none
  min_ : mg "min" = none
  isinstance_ : mg "isinstance" = none
  sum_ : mg "sum" = none
  any_ : mg "any" = none
  all_ : mg "all" = none
  int_ : mg "int" = none
  str_ : mg "str" = none
  bool_ : mg "bool" = none
  list_ : mg "list" = none
  enumerate_ : mg "enumerate" = none
structure Tx (mg : Str → Option Value) : Prop where
  beat : ∃ u, mg "BEAT" = some u ∧ RelV (.str (enc [true])) u
  rest : ∃ u, mg "REST" = some u ∧ RelV (.str (enc [false])) u
theorem tx_x {t : Tok} : RelV (.str (enc [true])) (.str "x" t) := ⟨t, by rw [enc_x]⟩
theorem tx_d {t : Tok} : RelV (.str (enc [false])) (.str "." t) := ⟨t, by rw [enc_d]⟩
/-- a def of the module, as the top leaves it -/
structure DefAt (K : PySem.W.Frag) (mg : Str → Option Value) (x : Str) (st : Stmt) : Prop where
  ex : ∃ f fd, Fun K x x st f fd ∧ mg x = some (.ref f)
section
variable {P : Program} {w : World} {K : PySem.W.Frag} {mg : Str → Option Value} {base : Heap}
theorem cal_of {x : Str} {st : Stmt} {N ps : List Str} {k : Nat} {sp : Sp} (D : DefAt K mg x st)
    (b : ∀ (kV doc pm : Value) (an : Option Addr) (cdv ct : Value) (us : List Value), us.length = ps.length → bindArgs (PySem.W.fnOf x x (defArgs st) (defBody st) (defScope st) .none kV doc pm an cdv ct) ⟨us, []⟩ = pure (ps.zip us))
    (S : FnScope N ps (defScope st)) (len : ∀ vs H Q E, sp vs H Q E → vs.length = ps.length)
    (hbody : ∀ (f : Addr) (cdv : Value) (A : Around) (outer : List Env) (s : Shared) (H : Hp) (vs : List V) (Q : VK) (E : XK), Room k (A.deeper (envOfC x (defScope st) s.heap.objs.size f cdv)) → sp vs H Q E →
      ∃ t, PSs (cxOf CX0 P w K mg base N x (defScope st) f cdv A outer s H E).nox (defBody st) t ∧ t { nx := fun _ H' => Q .non H', rt := Q } (start N vs) H) : C8.Cal P w K mg base (k + 1) x sp [] := by
  obtain ⟨f, fd, F, g⟩ := D.ex
  exact ⟨f, fd, ps, [], F.ok S len (hbody f), g, F.kp, F.binds b, .nil⟩
/-- a def that may raise -/
structure CalX (P : Program) (w : World) (K : PySem.W.Frag) (mg : Str → Option Value) (base : Heap) (k : Nat) (x : Str) (sp : Sp) (dvs : List V) : Prop where
  ex : ∃ (f : Addr) (fd : FuncData) (ps : List Str), FnOk P w K mg base (L2N.CX P w) k f fd ps sp ∧ mg x = some (.ref f) ∧ PySem.W.keepIn K (.ref f) = true ∧ Binds K fd ps []
theorem calx_of {x : Str} {st : Stmt} {N ps : List Str} {k : Nat} {sp : Sp} (D : DefAt K mg x st)
    (b : ∀ (kV doc pm : Value) (an : Option Addr) (cdv ct : Value) (us : List Value), us.length = ps.length → bindArgs (PySem.W.fnOf x x (defArgs st) (defBody st) (defScope st) .none kV doc pm an cdv ct) ⟨us, []⟩ = pure (ps.zip us))
    (S : FnScope N ps (defScope st)) (len : ∀ vs H Q E, sp vs H Q E → vs.length = ps.length)
    (hbody : ∀ (f : Addr) (cdv : Value) (A : Around) (outer : List Env) (s : Shared) (H : Hp) (vs : List V) (Q : VK) (E : XK), Room k (A.deeper (envOfC x (defScope st) s.heap.objs.size f cdv)) → sp vs H Q E →
      ∃ t, PSs (cxOf (L2N.CX P w) P w K mg base N x (defScope st) f cdv A outer s H E) (defBody st) t ∧ t { nx := fun _ H' => Q .non H', rt := Q } (start N vs) H) : CalX P w K mg base (k + 1) x sp [] := by
  obtain ⟨f, fd, F, g⟩ := D.ex
  refine ⟨f, fd, ps, ?_, g, F.kp, F.binds b⟩
  obtain ⟨oc, od, kV, doc, pm, an, cdv, ct, osl, rfl, lk, hcd⟩ := F.ex
  exact fn_of lk hcd S len fun A outer s H vs Q E hr hsp => hbody f cdv A outer s H vs Q E hr hsp
end
/-- f(e, ..), f a def that may raise -/
theorem pe_cx {X : Cx} {k j : Nat} {x : Str} {sp : Sp} {dvs : List V} {E : XK} {p pos : Pos} {e : Expr} {es : List Expr} {t : TA} (hx : Passes (L2N.CX X.prog X.w) X E) (c : CalX X.prog X.w X.K X.mg X.base k x sp dvs) (hr : Room j X.A) (hk : k ≤ j) (hg : Gl X x) (ha : PA X (e :: es) t)
    (hdb : (x == ("__debug__" : Str)) = false := by decide) (he : starEach (e :: es) X.env = (false, eval e X.env) :: starEach es X.env := by rfl) (hpl : (backTo pos (starEach es X.env)).any (·.1) = false := by rfl) :
    PE X (.Call (.Name x p) (e :: es) [] pos) (tCall sp [] E t) := by
  obtain ⟨f, fd, ps, F, hm, kp, b⟩ := c.ex
  exact pe_call F (hr.mono hk) hg hm kp b .nil hx ha hdb he hpl
section
variable {K : PySem.W.Frag} {σ : L2.St} {H H' : Hp} {ta tb tc te : TE} {x y z v : V} {bs cs : List Bool} {i j k : Int}
theorem rc_lenLi {p : Addr} {ns : List Int} (h : SqL K H p (ns.map V.int)) : RC (fun xs H Q => ∃ p ys, xs = [.ref p] ∧ (SqL K H p ys ∨ SqT K H p ys) ∧ Q (.int ys.length) H) [.ref p] H (.int (ns.length : Int)) := by
  have q := rc_lenL h
  rw [List.length_map] at q
  exact q
theorem el_eq {xs ys : List V} (h : EvL te σ H xs) (e : xs = ys) : EvL te σ H ys := e ▸ h
theorem el_mapRi {t1 : TA} {j : Nat} {vs : List Nat} {n : Int} (g : Nat → V) (h : EvA t1 σ H [.int n]) (hn : 0 ≤ n ∧ n ≤ 40000) (hw : ∀ x, wipe ((wipe σ vs).set j (some x)) vs = wipe σ vs)
    (he : ∀ (i : Nat) H1, Ex H H1 → i < n.toNat → Ev te ((wipe σ vs).set j (some (.int (i : Int)))) H1 (g i)) : EvL (tLc (iRng1 t1) (gName j) tYes te vs) σ H ((List.range n.toNat).map g) := by
  have e : n = (n.toNat : Int) := by omega
  rw [e] at h
  exact el_mapR g h (by omega) hw he
variable {D : Ends} {tu tz : TS}
/-- for sign in a row -/
theorem q_forS {tl : TE} {j : Nat} (h : Ev tl σ H (.str (enc bs))) (Pv : Nat → L2.St → Hp → Prop) (h0 : ∀ H1, Ex H H1 → Pv 0 σ H1)
    (hs : ∀ i b σ' H', bs[i]? = some b → Pv i σ' H' → tu { D with nx := Pv (i + 1), ct := Pv (i + 1), bk := tz D } (σ'.set j (some (.str (enc [b])))) H') (hd : ∀ σ' H', Pv bs.length σ' H' → tz D σ' H') :
    tSeq (tFor (iStr tl) (gName j) tu) tz D σ H := h H (Ex.refl H) _ fun H1 e => ⟨enc bs, rfl, for_it walk_str Pv (h0 H1 e) (fun _ _ _ _ _ => trivial) (fun i x σ' Ha Hb hi p y => by
      obtain ⟨rfl, c, hc, rfl⟩ := y
      have h2 : (enc bs).cps.toList[i]? = some c := by
        rw [Array.getElem?_toList]
        exact hc
      rw [cps_enc, List.getElem?_map] at h2
      cases hq : bs[i]? with
      | none =>
        rw [hq] at h2
        cases h2
      | some b =>
        rw [hq] at h2
        have e2 : sg b = c := Option.some.inj h2
        subst e2
        exact hs i b σ' Hb hq p) (fun σ' H' p => hd σ' H' (by
      have h4 := len_enc bs
      have h5 : (enc bs).length = (enc bs).cps.size := rfl
      have h6 : (enc bs).cps.size = bs.length := by omega
      rw [h6] at p
      exact p))⟩
end
end Eb
local macro_rules | `(tactic| walk_at "sz") => `(tactic| first | assumption | omega | decide | (simp only [List.length_append, List.length_cons, List.length_nil, List.length_map, List.length_replicate, List.length_range, List.length_reverse, Int.toNat_natCast]; omega))
local macro_rules | `(tactic| walk_at "pos") => `(tactic| first | assumption | omega | decide)
local macro_rules | `(tactic| walk_at "ix") => `(tactic| first | assumption | omega | decide | (simp only [List.length_append, List.length_cons, List.length_nil, List.length_map, List.length_replicate, List.length_range, List.length_reverse, Int.toNat_natCast]; omega))
local macro_rules | `(tactic| walk_at "div") => `(tactic| (refine ⟨?_, ?_⟩ <;> first | assumption | omega | decide))
local macro_rules | `(tactic| walk_at "mul") => `(tactic| first | exact Eb.mul_l (by omega) (by omega) | exact Eb.mul_r (by omega) (by omega) | exact Eb.mulx20 (by assumption) | assumption)
local macro_rules | `(tactic| walk_at "pow") => `(tactic| exact ⟨by decide, by decide, by decide⟩)
local macro_rules | `(tactic| walk_at "lst") => `(tactic| first | assumption | exact Evl.sq_of (by assumption) | exact Evl.st_of (by assumption))
local macro_rules | `(tactic| walk_at "ln") => `(tactic| first | assumption | omega | (simp only [List.length_append, List.length_cons, List.length_nil, List.length_map, List.length_replicate, List.length_range, List.length_reverse, Int.toNat_natCast]; omega))
local macro_rules | `(tactic| walk_at "pre") => `(tactic| first | assumption | omega | decide | exact Evl.sq_of (by assumption) | (simp only [List.length_append, List.length_cons, List.length_nil, List.length_map, List.length_replicate, List.length_range, List.length_reverse, Int.toNat_natCast]; omega) | (refine ⟨?_, ?_⟩ <;> walk_at "pre"))
local macro_rules | `(tactic| walk_at "rg") => `(tactic| (refine ⟨?_, ?_⟩ <;> first | assumption | omega | decide))
/-! ### reckoned rows, the sums of a row -/
namespace Eb
def reck (b p s : Int) (n : Nat) : List Bool := (List.range n).map fun (i : Nat) => decide ((s + (i : Int) * b) % p < b)
theorem reck_len (b p s : Int) (n : Nat) : (reck b p s n).length = n := by
  unfold reck
  rw [List.length_map, List.length_range]
theorem reck_succ (b p s : Int) (n : Nat) : reck b p s (n + 1) = reck b p s n ++ [decide ((s + (n : Int) * b) % p < b)] := by
  unfold reck
  rw [List.range_succ, List.map_append]
  rfl
theorem rest_succ (b p s : Int) (n : Nat) : ((s + (n : Int) * b) % p + b) % p = (s + ((n + 1 : Nat) : Int) * b) % p := by
  rw [Int.emod_add_emod]
  congr 1
  rw [Int.natCast_succ, Int.add_mul]
  omega
def sums (bs : List Bool) : List Int := (List.range (bs.length + 1)).map fun (i : Nat) => (((bs.take i).count true : Nat) : Int)
theorem sums_len (bs : List Bool) : (sums bs).length = bs.length + 1 := by
  unfold sums
  rw [List.length_map, List.length_range]
def sumsTo (bs : List Bool) (n : Nat) : List Int := (List.range (n + 1)).map fun (i : Nat) => (((bs.take i).count true : Nat) : Int)
theorem sumsTo_len (bs : List Bool) (n : Nat) : (sumsTo bs n).length = n + 1 := by
  unfold sumsTo
  rw [List.length_map, List.length_range]
theorem sumsTo_succ {bs : List Bool} {n : Nat} {b : Bool} (h : bs[n]? = some b) : sumsTo bs (n + 1) = sumsTo bs n ++ [(sumsTo bs n).getLast?.getD 0 + (if (decide ([b] = [true])) = true then 1 else 0)] := by
  have e : (sumsTo bs n).getLast?.getD 0 = (((bs.take n).count true : Nat) : Int) := by
    unfold sumsTo
    rw [List.range_succ, List.map_append, List.map_singleton, List.getLast?_append]
    rfl
  rw [e]
  unfold sumsTo
  rw [List.range_succ (n := n + 1), List.map_append, List.map_singleton, List.take_add_one, h, List.count_append]
  congr 2
  cases b <;> simp
end Eb
/-! ### beats laid by a reckoning, counted -/
namespace Eb
/-- how many beats there are ahead of a place -/
def cbt (bs : List Bool) (i : Nat) : Int := (((bs.take i).count true : Nat) : Int)
theorem cbt_zero (bs : List Bool) : cbt bs 0 = 0 := by
  unfold cbt
  rw [List.take_zero]
  rfl
theorem cbt_all {bs : List Bool} {i : Nat} (h : bs.length ≤ i) : cbt bs i = ((bs.count true : Nat) : Int) := by
  unfold cbt
  rw [List.take_of_length_le h]
theorem cbt_succ {bs : List Bool} {i : Nat} (h : i < bs.length) : cbt bs (i + 1) = cbt bs i + (if bs[i] then 1 else 0) := by
  unfold cbt
  rw [List.take_add_one, List.getElem?_eq_getElem h, List.count_append]
  cases bs[i] <;> simp
theorem beat_floor {x p b : Int} (hp : 0 < p) (h0 : 0 ≤ b) (h1 : b ≤ p) : (if x % p < b then (1 : Int) else 0) = x / p - (x - b) / p := by
  have e : x = x % p + p * (x / p) := by
    have := Int.emod_add_mul_ediv x p
    omega
  have r0 := Int.emod_nonneg x (by omega : p ≠ 0)
  have r1 := Int.emod_lt_of_pos x hp
  generalize x / p = q at *
  generalize x % p = r at *
  by_cases h : r < b
  · rw [if_pos h]
    have e2 : x - b = (r - b + p) + p * (q - 1) := by
      rw [e, Int.mul_sub]
      omega
    rw [e2, Int.add_mul_ediv_left _ _ (by omega), Int.ediv_eq_zero_of_lt (by omega) (by omega)]
    omega
  · rw [if_neg h]
    have e2 : x - b = (r - b) + p * q := by
      rw [e]
      omega
    rw [e2, Int.add_mul_ediv_left _ _ (by omega), Int.ediv_eq_zero_of_lt (by omega) (by omega)]
    omega
theorem reck_get {b p s : Int} {n i : Nat} (h : i < n) : (reck b p s n)[i]? = some (decide ((s + (i : Int) * b) % p < b)) := by
  unfold reck
  rw [List.getElem?_map, List.getElem?_range h]
  rfl
theorem reck_take {b p s : Int} {n i : Nat} (h : i ≤ n) : (reck b p s n).take i = reck b p s i := by
  unfold reck
  rw [← List.map_take, List.take_range, Nat.min_eq_left h]
theorem cbt_reck {b p s : Int} (hp : 0 < p) (h0 : 0 ≤ b) (h1 : b ≤ p) {n : Nat} : ∀ {i : Nat}, i ≤ n → cbt (reck b p s n) i = (s - b + (i : Int) * b) / p - (s - b) / p
  | 0, _ => by
    rw [cbt_zero]
    simp
  | i + 1, hi => by
    have hl : i < (reck b p s n).length := by
      rw [reck_len]
      exact hi
    rw [cbt_succ hl, cbt_reck hp h0 h1 (by omega : i ≤ n)]
    have g : (reck b p s n)[i] = decide ((s + (i : Int) * b) % p < b) := by
      have := reck_get (b := b) (p := p) (s := s) (n := n) (i := i) hi
      rw [List.getElem?_eq_getElem hl] at this
      exact Option.some.inj this
    rw [g]
    have f := beat_floor (x := s + (i : Int) * b) hp h0 h1
    have e1 : s - b + ((i + 1 : Nat) : Int) * b = s + (i : Int) * b := by
      rw [Int.natCast_succ, Int.add_mul]
      omega
    have e2 : s + (i : Int) * b - b = s - b + (i : Int) * b := by omega
    rw [e1, ← e2]
    by_cases hd : (s + (i : Int) * b) % p < b
    · rw [if_pos hd] at f
      simp only [decide_eq_true hd, if_true]
      omega
    · rw [if_neg hd] at f
      simp only [decide_eq_false hd]
      simp
      omega
/-! sums over a range -/
def smr (n : Nat) (f : Nat → Int) : Int := ((List.range n).map f).sum
theorem smr_zero (f : Nat → Int) : smr 0 f = 0 := rfl
theorem smr_succ (n : Nat) (f : Nat → Int) : smr (n + 1) f = smr n f + f n := by
  unfold smr
  rw [List.range_succ, List.map_append, List.sum_append]
  simp
theorem smr_shift (f : Nat → Int) : ∀ n, smr n (fun i => f (i + 1)) - smr n f = f n - f 0
  | 0 => by
    rw [smr_zero, smr_zero]
    omega
  | n + 1 => by
    have := smr_shift f n
    rw [smr_succ, smr_succ]
    omega
theorem smr_le {f g : Nat → Int} : ∀ n, (∀ i, i < n → f i ≤ g i) → smr n f ≤ smr n g
  | 0, _ => Int.le_refl _
  | n + 1, h => by
    have h1 := smr_le n fun i hi => h i (by omega)
    have h2 := h n (by omega)
    rw [smr_succ, smr_succ]
    omega
theorem smr_const (c : Int) : ∀ n, smr n (fun _ => c) = (n : Int) * c
  | 0 => by
    rw [smr_zero]
    simp
  | n + 1 => by
    rw [smr_succ, smr_const c n, Int.natCast_succ, Int.add_mul]
    omega
theorem smr_lt {f : Nat → Int} {c : Int} {k : Nat} : ∀ n, (∀ i, i < n → c ≤ f i) → k < n → c < f k → (n : Int) * c < smr n f
  | 0, _, hk, _ => absurd hk (Nat.not_lt_zero _)
  | n + 1, h, hk, hc => by
    rw [smr_succ, Int.natCast_succ, Int.add_mul]
    by_cases e : k = n
    · subst e
      have h1 := smr_le k (f := fun _ => c) (g := f) fun i hi => h i (by omega)
      rw [smr_const] at h1
      omega
    · have h1 := smr_lt n (fun i hi => h i (by omega)) (by omega : k < n) hc
      have h2 := h n (by omega)
      omega
/-! a ring told twice: heights -/
section
variable {bs : List Bool}
def crn (bs : List Bool) (i : Nat) : Int := cbt (bs ++ bs) i
theorem crn_low {i : Nat} (h : i ≤ bs.length) : crn bs i = cbt bs i := by
  unfold crn cbt
  rw [List.take_append_of_le_length h]
theorem crn_high (j : Nat) : crn bs (bs.length + j) = cbt bs bs.length + cbt bs j := by
  unfold crn cbt
  rw [List.take_length_add_append, List.count_append, List.take_length]
  omega
/-- how much a place stands above the even line, in parts of the count of places -/
def hgt (bs : List Bool) (i : Nat) : Int := (bs.length : Int) * crn bs i - (i : Int) * cbt bs bs.length
theorem hgt_wrap {j : Nat} (h : j ≤ bs.length) : hgt bs (bs.length + j) = hgt bs j := by
  unfold hgt
  rw [crn_high, crn_low h]
  grind
theorem hgt_mod {i : Nat} (h : i < 2 * bs.length) : hgt bs i = hgt bs (i % bs.length) := by
  by_cases hi : i < bs.length
  · rw [Nat.mod_eq_of_lt hi]
  · have e : i = bs.length + (i - bs.length) := by omega
    rw [e, hgt_wrap (by omega), Nat.add_mod_left, Nat.mod_eq_of_lt (by omega)]
/-- beats in a stretch -/
def stc (bs : List Bool) (i m : Nat) : Int := crn bs (i + m) - crn bs i
theorem stc_ht (i m : Nat) : (bs.length : Int) * stc bs i m = (m : Int) * cbt bs bs.length + (hgt bs (i + m) - hgt bs i) := by
  unfold stc hgt
  grind
theorem stc_sum (bs : List Bool) : ∀ m, m ≤ bs.length → smr bs.length (fun i => stc bs i m) = (m : Int) * cbt bs bs.length
  | 0, _ => by
    have e : smr bs.length (fun i => stc bs i 0) = smr bs.length (fun _ => 0) := by
      unfold smr
      congr 1
      refine List.map_congr_left fun i _ => ?_
      unfold stc
      rw [Nat.add_zero]
      omega
    rw [e, smr_const]
    simp
  | m + 1, h => by
    have ih := stc_sum bs m (by omega)
    have t := smr_shift (fun i => crn bs (i + m)) bs.length
    have e1 : smr bs.length (fun i => stc bs i (m + 1)) - smr bs.length (fun i => stc bs i m) = smr bs.length (fun i => crn bs (i + 1 + m)) - smr bs.length (fun i => crn bs (i + m)) := by
      have gen : ∀ n, smr n (fun i => stc bs i (m + 1)) - smr n (fun i => stc bs i m) = smr n (fun i => crn bs (i + 1 + m)) - smr n (fun i => crn bs (i + m)) := by
        intro n
        induction n with
        | zero => rfl
        | succ n ih =>
          rw [smr_succ, smr_succ, smr_succ, smr_succ]
          have e2 : n + (m + 1) = n + 1 + m := by omega
          unfold stc at ih ⊢
          rw [e2]
          omega
      exact gen _
    have e3 : crn bs (bs.length + m) - crn bs (0 + m) = cbt bs bs.length := by
      rw [crn_high, Nat.zero_add, crn_low (by omega)]
      omega
    rw [Int.natCast_succ, Int.add_mul]
    omega
/-- of any two stretches of as many places the one has at most one beat more -/
def EvenR (bs : List Bool) : Prop := ∀ m i j, m < bs.length → i < bs.length → j < bs.length → stc bs i m ≤ stc bs j m + 1
/-- no two places stand apart by as many parts as there are places -/
def Flat (bs : List Bool) : Prop := ∀ i j, i < bs.length → j < bs.length → hgt bs i - hgt bs j < bs.length
theorem flat_even (h : Flat bs) : EvenR bs := by
  intro m i j hm hi hj
  have h1 := stc_ht (bs := bs) i m
  have h2 := stc_ht (bs := bs) j m
  have h3 := h ((i + m) % bs.length) ((j + m) % bs.length) (Nat.mod_lt _ (by omega)) (Nat.mod_lt _ (by omega))
  rw [← hgt_mod (by omega), ← hgt_mod (by omega)] at h3
  have h4 := h j i hj hi
  have h5 : (bs.length : Int) * (stc bs i m - stc bs j m) < (bs.length : Int) * 2 := by
    rw [Int.mul_sub]
    omega
  have h6 := Int.lt_of_mul_lt_mul_left h5 (by omega)
  omega
/-- two places that stand apart: the stretch from the low one on has one beat more than its share -/
theorem apart_more {p q : Nat} (hp : p < bs.length) (hq : q < bs.length) (h : (bs.length : Int) ≤ hgt bs p - hgt bs q) :
    ∃ m, m = (((p : Int) - (q : Int)) % (bs.length : Int)).toNat ∧ 0 < m ∧ m < bs.length ∧ (m : Int) * cbt bs bs.length + (bs.length : Int) ≤ (bs.length : Int) * stc bs q m := by
  have hn : (0 : Int) < bs.length := by omega
  have m0 := Int.emod_nonneg ((p : Int) - (q : Int)) (by omega : (bs.length : Int) ≠ 0)
  have m1 := Int.emod_lt_of_pos ((p : Int) - (q : Int)) hn
  have key : q + (((p : Int) - (q : Int)) % (bs.length : Int)).toNat = p ∨ q + (((p : Int) - (q : Int)) % (bs.length : Int)).toNat = bs.length + p := by
    by_cases hpq : q ≤ p
    · left
      rw [Int.emod_eq_of_lt (by omega) (by omega)]
      omega
    · right
      have e : ((p : Int) - (q : Int)) % (bs.length : Int) = (p : Int) - (q : Int) + bs.length := by
        rw [← Int.add_emod_right, Int.emod_eq_of_lt (by omega) (by omega)]
      rw [e]
      omega
  refine ⟨_, rfl, ?_, ?_, ?_⟩
  · rcases Nat.eq_zero_or_pos (((p : Int) - (q : Int)) % (bs.length : Int)).toNat with z | z
    · rw [z] at key
      have e : p = q := by omega
      subst e
      omega
    · exact z
  · omega
  · rw [stc_ht]
    have e : hgt bs (q + (((p : Int) - (q : Int)) % (bs.length : Int)).toNat) = hgt bs p := by
      rcases key with k | k
      · rw [k]
      · rw [k, hgt_wrap (by omega)]
    rw [e]
    omega
theorem more_apart {q m : Nat} (hq : q < bs.length) (hm : m < bs.length) (h : (m : Int) * cbt bs bs.length + (bs.length : Int) ≤ (bs.length : Int) * stc bs q m) : ∃ j, j < bs.length ∧ stc bs j m + 2 ≤ stc bs q m := by
  refine Classical.byContradiction fun hno => ?_
  have hall : ∀ i, i < bs.length → stc bs q m - 1 ≤ stc bs i m := fun i hi => by
    refine Classical.byContradiction fun hc => hno ⟨i, hi, ?_⟩
    omega
  have s1 := smr_lt (f := fun i => stc bs i m) (c := stc bs q m - 1) (k := q) bs.length hall hq (by omega)
  rw [stc_sum bs m (by omega), Int.mul_sub] at s1
  omega
theorem even_flat (h : EvenR bs) : Flat bs := by
  intro p q hp hq
  refine Classical.byContradiction fun hc => ?_
  obtain ⟨m, _, hm0, hm, hs⟩ := apart_more hp hq (by omega)
  obtain ⟨j, hj, h2⟩ := more_apart hq hm hs
  have := h m q j hm hq hj
  omega
theorem even_iff : EvenR bs ↔ Flat bs := ⟨even_flat, flat_even⟩
end
end Eb
namespace Eb
open PySem L2
def topS (i : Nat) : Stmt := PySem.Challenge.pw_evenbeats_k08_refused.main.body.getD i (.Pass ⟨0, 0, 0, 0⟩)
end Eb
namespace Eb
open PySem PySem.Spec PyProof.Rows L2 TL Evl
abbrev sIsNumber : Stmt := topS 10
theorem scIsNumber : FnScope ["thing"] ["thing"] (defScope sIsNumber) := ⟨rfl, rfl, rfl, by decide +kernel, rfl, by decide +kernel, by decide +kernel⟩
def spIsNumber (K : PySem.W.Frag) : Sp := fun vs H Q _ => ∃ (x : V) (t : Value) (b c : Bool), vs = [x] ∧ (∀ H1, Ex H H1 → TyX K H1 x t) ∧ PySem.W.kitOne K t (.type "int") = some b ∧ PySem.W.kitOne K t (.type "bool") = some c ∧ RetV (.bl (b && !c)) H Q
theorem spv_is_number {K : PySem.W.Frag} {H : Hp} {i : Int} (_ : True) : SpV (spIsNumber K) [.int i] H (.bl true) := fun _ _ _ q _ => ⟨.int i, .type "int", true, false, rfl, fun _ _ => .base (.int i), kit_ty (by decide +kernel), kit_ty (by decide +kernel), q⟩
section
variable {P : Program} {w : World} {K : PySem.W.Frag} {mg : Str → Option Value} {base : Heap}
theorem ok_is_number (D : DefAt K mg "is_number" sIsNumber) (B : Bn mg) : C8.Cal P w K mg base 1 "is_number" (spIsNumber K) [] := by
  refine cal_of D (fun _ _ _ _ _ _ us hl => match us, hl with | [_], _ => rfl) scIsNumber (fun vs H Q E h => ?_) (fun f cdv A outer s H vs Q E hr h => ?_)
  · obtain ⟨x, t, b, c, rfl, _⟩ := h
    rfl
  · obtain ⟨x, t, b, c, rfl, hgt, h1, h2, k⟩ := h
    refine ⟨_, (pss_one (ps_ret (pe_and (pe_callB (call_isiK1 (K := K) rfl) (by rfl) B.isinstance_ (by decide +kernel) (pa_cons (pv 0) (pa_cons (pe_bltn (v := .ty "int") (by rfl) B.int_ (by decide +kernel) rfl) pa_nil))) (pe_one (pe_not (pe_callB (call_isiK1 (K := K) rfl) (by rfl) B.isinstance_ (by decide +kernel) (pa_cons (pv 0) (pa_cons (pe_bltn (v := .ty "bool") (by rfl) B.bool_ (by decide +kernel) rfl) pa_nil)))))))), ?_⟩
    exact s_ret (ev_andV (ev_cb (ea_cons (ev_var rfl) (ea_cons ev_c ea_nil)) (rc_isi (.ty _) hgt h1)) (fun _ => ev_notV (ev_cb (ea_cons (ev_var rfl) (ea_cons ev_c ea_nil)) (rc_isi (.ty _) hgt h2)))) k
end
end Eb
/-! ### == of lists of numbers, of truth values, of rows -/
namespace Eb
open PySem PySem.Spec PyProof.Rows L2 TL Evl
structure FlatE {α : Type} [DecidableEq α] (f : α → V) (g : α → PyData) : Prop where
  dp : ∀ (K : PySem.W.Frag) (H : Hp) (a : α), Dp K H (f a) (g a)
  can : ∀ a, (g a).canLay0 = true
  dep : ∀ a, (g a).depth = 0
  eq : ∀ a b, PyData.eqv (g a) (g b) = decide (a = b)
theorem fe_int : FlatE V.int PyData.int := ⟨fun _ _ a => .int a, fun a => by rw [PyData.canLay0], fun a => by rw [PyData.depth], fun a b => by
  rw [PyData.eqv]
  rfl⟩
theorem fe_bool : FlatE V.bl PyData.bool := ⟨fun _ _ a => .bl a, fun a => by rw [PyData.canLay0], fun a => by rw [PyData.depth], fun a b => by
  rw [PyData.eqv]
  cases a <;> cases b <;> rfl⟩
theorem strok_enc (bs : List Bool) : PyData.strOk (enc bs) = true := by
  unfold PyData.strOk
  rw [← Array.all_toList, cps_enc, List.all_eq_true]
  intro c hc
  obtain ⟨b, _, rfl⟩ := List.mem_map.mp hc
  cases b <;> decide
theorem fe_row : FlatE (fun l : List Bool => V.str (enc l)) (fun l => PyData.str (enc l)) := ⟨fun _ _ a => .str _, fun a => by
  rw [PyData.canLay0]
  exact strok_enc a, fun a => by rw [PyData.depth], fun a b => by
  rw [PyData.eqv]
  by_cases h : a = b
  · subst h
    rw [decide_eq_true rfl]
    exact beq_self_eq_true _
  · rw [decide_eq_false h]
    exact beq_eq_false_iff_ne.mpr fun q => h (enc_inj q)⟩
section
variable {α : Type} [DecidableEq α] {f : α → V} {g : α → PyData} {K : PySem.W.Frag} {σ : L2.St} {H : Hp} {ta tb : TE}
theorem FlatE.all (F : FlatE f g) : ∀ xs : List α, DpAll K H (xs.map f) (xs.map g)
  | [] => .nil
  | a :: r => .cons (F.dp K H a) (F.all r)
theorem FlatE.canAll (F : FlatE f g) : ∀ xs : List α, PyData.canLayAll0 (xs.map g) = true
  | [] => by rw [List.map_nil, PyData.canLayAll0]
  | a :: r => by
    rw [List.map_cons, PyData.canLayAll0, F.can a, F.canAll r]
    rfl
theorem FlatE.depAll (F : FlatE f g) : ∀ xs : List α, PyData.depthAll (xs.map g) = 0
  | [] => by rw [List.map_nil, PyData.depthAll]
  | a :: r => by
    rw [List.map_cons, PyData.depthAll, F.dep a, F.depAll r]
    rfl
theorem FlatE.eqAll (F : FlatE f g) : ∀ xs ys : List α, PyData.eqvAll (xs.map g) (ys.map g) = decide (xs = ys)
  | [], [] => by
    rw [List.map_nil, PyData.eqvAll]
    rfl
  | [], _ :: _ => by
    rw [List.map_nil, List.map_cons, PyData.eqvAll]
    rfl
  | _ :: _, [] => by
    rw [List.map_nil, List.map_cons, PyData.eqvAll]
    rfl
  | a :: r, b :: t => by
    rw [List.map_cons, List.map_cons, PyData.eqvAll, F.eq a b, F.eqAll r t]
    by_cases h1 : a = b
    · subst h1
      by_cases h2 : r = t
      · subst h2
        simp
      · simp [h2]
    · simp [h1]
theorem FlatE.shapedL (F : FlatE f g) (xs : List α) : SeqAt.shaped (.list (xs.map g)) = true := by
  unfold SeqAt.shaped
  rw [PyData.canLay0, F.canAll xs, PyData.depth, F.depAll xs]
  rfl
theorem FlatE.shapedT (F : FlatE f g) (xs : List α) : SeqAt.shaped (.tuple (xs.map g)) = true := by
  unfold SeqAt.shaped
  rw [PyData.canLay0, F.canAll xs, PyData.depth, F.depAll xs]
  rfl
theorem rv_eqLst (F : FlatE f g) {p q : Addr} {xs ys : List α} (hx : SqL K H p (xs.map f)) (hy : SqL K H q (ys.map f)) : RV (rEqD K) (.ref p) (.ref q) H (.bl (decide (xs = ys))) := fun H1 e _ k =>
  ⟨.list (xs.map g), .list (ys.map g), .lst (ex_l e hx) (F.all xs), .lst (ex_l e hy) (F.all ys), F.shapedL xs, F.shapedL ys, by
    rw [PyData.eqv, F.eqAll]
    exact k H1 (Ex.refl H1)⟩
theorem rv_neLst (F : FlatE f g) {p q : Addr} {xs ys : List α} (hx : SqL K H p (xs.map f)) (hy : SqL K H q (ys.map f)) : RV (rNeD K) (.ref p) (.ref q) H (.bl (!decide (xs = ys))) := fun H1 e _ k =>
  ⟨.list (xs.map g), .list (ys.map g), .lst (ex_l e hx) (F.all xs), .lst (ex_l e hy) (F.all ys), F.shapedL xs, F.shapedL ys, by
    rw [PyData.eqv, F.eqAll]
    exact k H1 (Ex.refl H1)⟩
theorem rv_eqTup (F : FlatE f g) {p q : Addr} {xs ys : List α} (hx : SqT K H p (xs.map f)) (hy : SqT K H q (ys.map f)) : RV (rEqD K) (.ref p) (.ref q) H (.bl (decide (xs = ys))) := fun H1 e _ k =>
  ⟨.tuple (xs.map g), .tuple (ys.map g), .tup (ex_t e hx) (F.all xs), .tup (ex_t e hy) (F.all ys), F.shapedT xs, F.shapedT ys, by
    rw [PyData.eqv, F.eqAll]
    exact k H1 (Ex.refl H1)⟩
theorem rv_neTup (F : FlatE f g) {p q : Addr} {xs ys : List α} (hx : SqT K H p (xs.map f)) (hy : SqT K H q (ys.map f)) : RV (rNeD K) (.ref p) (.ref q) H (.bl (!decide (xs = ys))) := fun H1 e _ k =>
  ⟨.tuple (xs.map g), .tuple (ys.map g), .tup (ex_t e hx) (F.all xs), .tup (ex_t e hy) (F.all ys), F.shapedT xs, F.shapedT ys, by
    rw [PyData.eqv, F.eqAll]
    exact k H1 (Ex.refl H1)⟩
end
/-- xs == [] -/
theorem ev_eqLE {K : PySem.W.Frag} {σ : L2.St} {H : Hp} {ta : TE} {p : Addr} {ns : List Int} (h : Ev ta σ H (.ref p)) (hx : SqL K H p (ns.map V.int)) : Ev (tOp (rEqD K) ta (tLst tNil)) σ H (.bl (decide (ns = []))) :=
  ev_opL h (el_lst ea_nil (by decide)) fun q H1 hq e => rv_eqLst fe_int (ex_l e hx) (ys := []) (sq_of hq)
end Eb
/-! ### own exceptions: raised, let out, caught -/
namespace Eb
open PySem PySem.Spec PyProof.Rows L2 TL Evl
structure Exs (K : PySem.W.Frag) (C : Addr) : Prop where
  x : PySem.W.excIn K C [.type "ValueError", .type "Exception", .type "BaseException", .type "object"] "ValueError.__new__" = true
  p : PySem.W.keepIn K (.ref C) = true
  s : PySem.W.subIn K (.ref C) (.type "BaseException") = some true
  t : PySem.W.typeIn K (.ref C) = some (.type "type")
  c : ExcC K C
/-- raise C("..") -/
theorem ps_raiseE {X : Cx} {W : WX} {x m : Str} {C : Addr} {j : Nat} {p p2 pos pos2 : Pos} (hc : X.calm = true) (tk : L2N.Takes X W) (S : Exs X.K C) (gC : X.mg x = some (.ref C)) (hg : Gl X x) (hdb : (x == ("__debug__" : Str)) = false := by decide) :
    PS X (.Raise (some (.Call (.Name x p) [.Constant (.str m) j p2] [] pos)) none pos2) (fun _ σ H => W (.ref C) none σ H) :=
  L2N.ps_raise hc tk (L2N.pmk_own PySem.F.excBase_ValueError S.x gC S.p (raises_own S.s S.t) hg hdb)
theorem passD {X : Cx} {E : XK} (tk : L2N.Takes X (fun cls d _ H => E cls d H)) : Passes (L2N.CX X.prog X.w) X E := L2N.passes_call tk fun _ _ _ _ h => h
theorem passN {X : Cx} : Passes (L2N.CX X.prog X.w) X E0 := fun _ _ _ _ _ _ _ h => by
  obtain ⟨_, _, _, _, _, _, _, _, _, _, _, _, z⟩ := h
  exact z.elim
theorem takesN {X : Cx} : L2N.Takes X (fun _ _ _ _ => False) := fun _ _ x => by
  obtain ⟨_, _, _, _, _, _, _, _, _, _, _, _, _, _, _, _, z⟩ := x
  exact z.elim
/-- a local name that holds a def, called within a try -/
def tCallLS (i : Nat) (f : Addr) (sp : Sp) (E : L2.St → XK) (t : TA) : TE := fun σ H Q => σ[i]? = some (some (.ref f)) ∧ t σ H fun vs H1 => sp vs H1 Q (E σ)
theorem pe_callLS {X : Cx} {k i : Nat} {f : Addr} {fd : FuncData} {ps : List Str} {sp : Sp} {E : L2.St → XK} {x : Str} {p pos : Pos} {e : Expr} {es : List Expr} {t : TA} (F : FnOk X.prog X.w X.K X.mg X.base (L2N.CX X.prog X.w) k f fd ps sp) (hr : Room k X.A) (hN : X.N[i]? = some x) (hv : Vis X.env.scope x) (hk : PySem.W.keepIn X.K (.ref f) = true) (hb : Binds X.K fd ps [])
    (hx : ∀ σ, PassesAt (L2N.CX X.prog X.w) X σ (E σ)) (ha : PA X (e :: es) t) (hdb : (x == ("__debug__" : Str)) = false := by decide) (hcd : (x == ("__classdict__" : Str)) = false := by decide)
    (he : starEach (e :: es) X.env = (false, eval e X.env) :: starEach es X.env := by rfl) (hpl : (backTo pos (starEach es X.env)).any (·.1) = false := by rfl) : PE X (.Call (.Name x p) (e :: es) [] pos) (tCallLS i f sp E t) := by
  refine ⟨fun pins s σ H Q I h => ?_⟩
  obtain ⟨hs, ht⟩ := h
  refine wpAny_Call_Name_kw (thn ((pe_var (pos := p) hN hv hdb hcd).run pins s σ H (fun v H1 => v = .ref f ∧ H1 = H) I ⟨.ref f, hs, rfl, rfl⟩) fun u s1 ⟨v, H1, I1, r1, q1⟩ => ?_)
  obtain ⟨rfl, rfl⟩ := q1
  cases r1
  refine PySem.W.callWith_K (h₀ := X.base) I.ok.mod.kin hk (thn (ha.run pos pins s1 σ _ _ I1 ht) fun us s2 ⟨vs, H2, I2, r, q⟩ => ⟨I2.kIn, ?_⟩) he hpl
  exact run_fnS F hr hb (hx σ) I2 r q
/-- the suite, for the class of what is caught -/
theorem pss_exc {X' : Cx} {K : PySem.W.Frag} {cls : Value} {d : Option Addr} {oe : Obj} {ss : List Stmt} {t : Addr → TS} (hz : L2N.Zn cls d oe) (hp : ∀ C, ExcC K C → L2N.Zn (.ref C) none oe → PSs X' ss (t C)) : PSs X' ss (fun D σ H => ∃ C, (cls = .ref C ∧ d = none ∧ ExcC K C) ∧ t C D σ H) := by
  refine ⟨fun pins s σ H D I h => ?_⟩
  obtain ⟨C, ⟨rfl, rfl, hC⟩, h⟩ := h
  exact (hp C hC hz).run pins s σ H D I h
/-- a global def, called within a try -/
theorem s_tryCallS {σ : L2.St} {H : Hp} {D : Ends} {sp : Sp} {E : L2.St → XK} {t : TA} {vs : List V} (h : EvA t σ H vs) (k : ∀ H1, Ex H H1 → sp vs H1 (fun _ H2 => D.nx σ H2) (E σ)) : tDrop (tCallS sp E t) D σ H := h H (Ex.refl H) _ fun H1 e => k H1 e
/-! any of a list, while an exception is handled -/
theorem pyNext_list_end_hot {prog : Program} {w : World} {A : Around} {E : Value → Shared → Prop} {s : Shared} {it l x1 : Addr} {i : Nat} {items : Array Value} {Q : Option Value → Shared → Prop} (hot : HotX.HotAt A x1 s.heap) (hne : x1 ≠ it)
    (hit : s.heap.IsListIter it l i) (hl : s.heap.IsList l items) (hx : items[i]? = none)
    (hQ : ∀ h', Heap.ExtBut it s.heap h' → Q none { s with heap := h' }) : wpAny (model prog w) A (pyNext (.ref it)) Q E s := by
  obtain ⟨o, ho, hc, hd⟩ := id hit
  obtain ⟨ol, hol, _, nl, hdl⟩ := hl
  obtain ⟨hh, o1, vs1, h1, d1, c1⟩ := hot
  unfold pyNext
  refine wpAny_bind (wpAny_attempt (wpAny_callSpecial?_slot (name := Str.ofString "__next__") hit.typeIs slot_listiter_next
    (wpAny_call_entry slot_listiter_next hit.typeIs entry_listiter_next ?_ (args_listiter_next _))))
  show wpAny _ _ (field (.ref it) 0 >>= _) _ _ s
  refine wpAny_bind (wpAny_field ho hd (x := .ref l) rfl ?_)
  show wpAny _ _ (if (Value.ref l == Value.none) = true then _ else _) _ _ s
  rw [if_neg (show ¬ ((Value.ref l == Value.none) = true) from Bool.false_ne_true)]
  show wpAny _ _ (field (.ref it) 1 >>= _) _ _ s
  refine wpAny_bind (wpAny_field ho hd (x := .int i 0) rfl ?_)
  show wpAny _ _ (seqItems? (.ref l) >>= _) _ _ s
  refine wpAny_bind (wpAny_seqItems hol hdl ?_)
  simp only [Int.toNat_natCast, hx]
  refine wpAny_bind (wpAny_rule (wpAny_bind (wpAny_setField ho hd (by simp) ?_)))
  show wpAny _ _ (newExc (.type "StopIteration") [] >>= _) _ _ _
  refine wpAny_bind ?_
  simp only [newExc, newTuple]
  refine wpAny_bind (wpAny_newObj_type ?_ (by size_fits))
  refine wpAny_bind (m := firstArgMember _ _) (wpAny_of_eq (a := Value.none) (by first | rfl | (simp only [firstArgMember]; rfl)) ?_)
  refine wpAny_newObj_type ?_ (by size_fits)
  have h0 : (s.heap.update it (Obj.mapFields (·.setIfInBounds 0 .none))).get? x1 = some o1 := ((Heap.SameBut.update ..).2 x1 hne).trans h1
  refine HotX.raiseNew_hot ⟨hh, o1, vs1, Heap.get?_push_of_some _ (Heap.get?_push_of_some _ h0), d1, c1⟩ (Nat.ne_of_lt (Heap.lt_size (Heap.get?_push_of_some _ h0))) (Heap.get?_push_size _ rfl) rfl (by first | (simp; done) | (simp; omega) | (simp only [Array.size_append]; simp; omega)) ?_
  refine wpAny_bind (wpAny_isInstance (T := "StopIteration") (b := true) ⟨_, Heap.get?_update_self _ (Heap.get?_push_size _ rfl) rfl, rfl⟩ isSubtype_stop ?_)
  refine wpAny_pure (hQ _ fun b ob hb e => ?_)
  have e0 : (s.heap.update it (Obj.mapFields (·.setIfInBounds 0 .none))).get? b = some ob := ((Heap.SameBut.update ..).2 b hb).trans e
  rw [Heap.get?_update_other _ _ (Nat.ne_of_gt (Heap.lt_size (Heap.get?_push_of_some _ e0)))]
  exact Heap.get?_push_of_some _ (Heap.get?_push_of_some _ e0)
theorem walks_listH {prog : Program} {w : World} {A : Around} (I ax x1 : Addr) (hne : ax ≠ I) (hx : x1 ≠ I) (items : Array Value) :
    Walks prog w A I [I, ax, x1] [I] items.size (fun i v => items[i]? = some v) (fun i h => h.IsListIter I ax i ∧ h.IsList ax items ∧ HotX.HotAt A x1 h) where
  sub := fun b hb => by simp at hb; simp [hb]
  frame := fun _ _ _ st hk => ⟨st.1.at fun o e => hk I (by simp) o e, st.2.1.at fun o e => hk ax (by simp) o e, let ⟨h1, o, vs, h2, h3, h4⟩ := st.2.2; ⟨h1, o, vs, hk x1 (by simp) o h2, h3, h4⟩⟩
  item := fun i s Q E hi st hQ => by
    refine wpAny_pyNext_list_item st.1 st.2.1 (x := items[i]) (by simp [hi]) fun h' hit' hs' => ?_
    refine hQ _ h' s.toks (by simp [hi]) ⟨hit', st.2.1.extBut hs'.extBut hne, ?_⟩ fun b o hb e => hs'.extBut b o (fun h => hb (by simp [h])) e
    obtain ⟨h1, o, vs, h2, h3, h4⟩ := st.2.2
    exact ⟨h1, o, vs, hs'.extBut x1 o hx h2, h3, h4⟩
  done := fun s Q E st hQ => pyNext_list_end_hot st.2.2 hx st.1 st.2.1 (by simp) fun h' he' => hQ h' s.toks fun b o hb e => he' b o (fun h => hb (by simp [h])) e
  self := fun _ _ _ _ st hQ => wpAny_pyIter_listiter st.1 hQ
theorem cr_anyH {X : Cx} {a0 D : Addr} {oe : Obj} {pn : List (Addr × Obj)} (hz : L2N.Zn (.ref D) none oe) (hf : ∃ vs, oe.data = .fields vs) : CallR (X.suite a0 ((a0, oe) :: pn)) (.builtin "any") (rAny X.K) := by
  intro pins s σ H vs us Q I r h
  obtain ⟨a, bs, rfl, hs, q⟩ := h
  obtain ⟨its, rv, hl, _⟩ := I.list hs
  rw [Vals.ref1 r]
  have hb := rv.bls
  obtain ⟨hget, _⟩ := I.pin (a0, oe) (List.mem_append.mpr (.inl List.mem_cons_self))
  obtain ⟨vs, hv⟩ := hf
  refine call_any_walk (iter_any hl.isList fun s₂ e2 st hne => ?_)
  subst e2
  have hlt := Heap.lt_size hget
  have hot : HotX.HotAt (X.suite a0 ((a0, oe) :: pn)).A.in1 a0 (s.heap.push { cls := .type "list_iterator", data := .fields #[.ref a, .int 0 0] }) := ⟨rfl, oe, vs, Heap.get?_push_of_some _ hget, hv, hz.2.2 vs hv⟩
  refine ⟨_, _, _, _, _, _, _, rfl, walks_listH _ a a0 hne (Nat.ne_of_lt hlt) its.toArray, ⟨st.1, st.2, hot⟩, truth_bools hb, fun h' tk hk => ?_⟩
  refine ⟨.bl _, H, I.kept fun b o eo => hk b o (fun hmem => ?_) (Heap.get?_push_of_some _ eo), ?_, q⟩
  · rcases List.mem_cons.mp hmem with e1 | hmem
    · exact absurd (e1 ▸ Heap.lt_size eo) (Nat.lt_irrefl _)
    · cases hmem
  · show Value.bool _ = Value.bool _
    rw [← L2.any_range, hb, List.size_toArray, List.length_map]
section
variable {K : PySem.W.Frag} {σ : L2.St} {H H' : Hp} {ta tb tc te : TE} {x y z v : V} {D : Ends} {tz : TS}
theorem rc_isE {a C : Addr} {c : V} {cv : Value} {b : Bool} (hc : ∀ u, RelV c u → u = cv) (hk : PySem.W.kitOne K (.ref C) cv = some b) : RC (rIsE K C a) [.ref a, c] H (.bl b) := fun H1 _ _ q => ⟨c, cv, b, rfl, hc, hk, q H1 (Ex.refl H1)⟩
theorem el_catV {l : Addr} {xs ys : List V} (ha : Ev ta σ H (.ref l)) (hl : H l = some (.lst xs)) (hb : EvL tb σ H ys) (hz : xs.length + ys.length ≤ 100000) : EvL (tOp rCat ta tb) σ H (xs ++ ys) := fun H1 e Q q =>
  ha H1 e _ fun H2 e2 => hb H2 (e.trans e2) _ fun r H3 hr e3 x3 => ⟨l, r, xs, ys, rfl, rfl, e3 _ _ (e2 _ _ (e _ _ hl)), x3, sz_of hz, fun p hp => q p _ (fresh_back (e2.trans e3) hp) ((e2.trans e3).trans (Ex.new hp)) upd_same⟩
theorem s_tryCall {sp : Sp} {E : L2.St → XK} {t : TA} {vs : List V} {i : Nat} {f : Addr} (hf : σ[i]? = some (some (.ref f))) (h : EvA t σ H vs) (k : ∀ H1, Ex H H1 → sp vs H1 (fun _ H2 => D.nx σ H2) (E σ)) : tDrop (tCallLS i f sp E t) D σ H := ⟨hf, h H (Ex.refl H) _ fun H1 e => k H1 e⟩
/-- == of a new list and one that stands, .. -/
theorem ev_eqNV {α : Type} [DecidableEq α] {f : α → V} {g : α → PyData} (F : FlatE f g) {xs ys : List α} {q : Addr} (ha : EvL ta σ H (xs.map f)) (hb : Ev tb σ H (.ref q)) (hy : SqL K H q (ys.map f)) : Ev (tOp (rEqD K) ta tb) σ H (.bl (decide (xs = ys))) :=
  ev_opL1 ha (fun _ e => hb.mono e) fun p H1 hp e => rv_eqLst F (sq_of hp) (ex_l e hy)
theorem ev_neNV {α : Type} [DecidableEq α] {f : α → V} {g : α → PyData} (F : FlatE f g) {xs ys : List α} {q : Addr} (ha : EvL ta σ H (xs.map f)) (hb : Ev tb σ H (.ref q)) (hy : SqL K H q (ys.map f)) : Ev (tOp (rNeD K) ta tb) σ H (.bl (!decide (xs = ys))) :=
  ev_opL1 ha (fun _ e => hb.mono e) fun p H1 hp e => rv_neLst F (sq_of hp) (ex_l e hy)
theorem ev_eqNN {α : Type} [DecidableEq α] {f : α → V} {g : α → PyData} (F : FlatE f g) {xs ys : List α} (ha : EvL ta σ H (xs.map f)) (hb : EvL tb σ H (ys.map f)) : Ev (tOp (rEqD K) ta tb) σ H (.bl (decide (xs = ys))) :=
  ev_opLL ha hb fun p q H1 hp hq e => rv_eqLst F (sq_of hp) (sq_of hq)
theorem ev_neNN {α : Type} [DecidableEq α] {f : α → V} {g : α → PyData} (F : FlatE f g) {xs ys : List α} (ha : EvL ta σ H (xs.map f)) (hb : EvL tb σ H (ys.map f)) : Ev (tOp (rNeD K) ta tb) σ H (.bl (!decide (xs = ys))) :=
  ev_opLL ha hb fun p q H1 hp hq e => rv_neLst F (sq_of hp) (sq_of hq)
theorem ev_eqVV {α : Type} [DecidableEq α] {f : α → V} {g : α → PyData} (F : FlatE f g) {xs ys : List α} {p q : Addr} (ha : Ev ta σ H (.ref p)) (hb : Ev tb σ H (.ref q)) (hx : SqL K H p (xs.map f)) (hy : SqL K H q (ys.map f)) : Ev (tOp (rEqD K) ta tb) σ H (.bl (decide (xs = ys))) := ev_op ha hb (rv_eqLst F hx hy)
theorem ev_neVV {α : Type} [DecidableEq α] {f : α → V} {g : α → PyData} (F : FlatE f g) {xs ys : List α} {p q : Addr} (ha : Ev ta σ H (.ref p)) (hb : Ev tb σ H (.ref q)) (hx : SqL K H p (xs.map f)) (hy : SqL K H q (ys.map f)) : Ev (tOp (rNeD K) ta tb) σ H (.bl (!decide (xs = ys))) := ev_op ha hb (rv_neLst F hx hy)
end
end Eb
/-! ### values that are refused; menus; a call of a subscript -/
namespace Eb
open PySem PySem.Spec PyProof.Rows L2 TL Evl
/-- no row -/
def BadRow (K : PySem.W.Frag) (H : Hp) (v : V) : Prop := (∃ t, (∀ H1, Ex H H1 → TyX K H1 v t) ∧ PySem.W.kitOne K t (.type "str") = some false) ∨ (∃ z : Str, v = .str z ∧ z.length ≤ 100000 ∧ Txt.stripChars z (enc ([true] ++ [false])) ≠ enc [])
def BadRingV (K : PySem.W.Frag) (H : Hp) (v : V) : Prop := BadRow K H v ∨ v = .str (enc [])
/-- no number -/
def NonNum (K : PySem.W.Frag) (H : Hp) (v : V) : Prop := ∃ (t : Value) (b c : Bool), (∀ H1, Ex H H1 → TyX K H1 v t) ∧ PySem.W.kitOne K t (.type "int") = some b ∧ PySem.W.kitOne K t (.type "bool") = some c ∧ (b && !c) = false
def MonoP (P : V → Hp → Prop) : Prop := ∀ v H H1, Ex H H1 → P v H → P v H1
section
variable {K : PySem.W.Frag} {H H1 : Hp} {v : V}
theorem BadRow.mono (e : Ex H H1) (h : BadRow K H v) : BadRow K H1 v := by
  rcases h with ⟨t, h1, h2⟩ | h
  · exact .inl ⟨t, fun H2 e2 => h1 H2 (e.trans e2), h2⟩
  · exact .inr h
theorem BadRingV.mono (e : Ex H H1) (h : BadRingV K H v) : BadRingV K H1 v := h.elim (fun h => .inl (h.mono e)) .inr
theorem NonNum.mono (e : Ex H H1) (h : NonNum K H v) : NonNum K H1 v := by
  obtain ⟨t, b, c, h1, h2⟩ := h
  exact ⟨t, b, c, fun H2 e2 => h1 H2 (e.trans e2), h2⟩
theorem br_of {t : Value} (h : ∀ H2, Ex H H2 → TyX K H2 v t) (hk : PySem.W.kitOne K t (.type "str") = some false) : BadRow K H v := .inl ⟨t, h, hk⟩
theorem br_non : BadRow K H .non := br_of (fun _ _ => .base .non) (kit_ty (by decide +kernel))
theorem br_int {i : Int} : BadRow K H (.int i) := br_of (fun _ _ => .base (.int i)) (kit_ty (by decide +kernel))
theorem br_lst {p : Addr} {xs : List V} (h : H p = some (.lst xs)) : BadRow K H (.ref p) := br_of (fun _ e => .base (.lst (e _ _ h))) (kit_ty (by decide +kernel))
theorem br_tup {p : Addr} {xs : List V} (h : H p = some (.tup xs)) : BadRow K H (.ref p) := br_of (fun _ e => .base (.tup (e _ _ h))) (kit_ty (by decide +kernel))
theorem br_str {z : Str} (h : z.length ≤ 100000 ∧ Txt.stripChars z (enc ([true] ++ [false])) ≠ enc []) : BadRow K H (.str z) := .inr ⟨z, rfl, h⟩
theorem nn_non : NonNum K H .non := ⟨_, false, false, fun _ _ => .base .non, kit_ty (by decide +kernel), kit_ty (by decide +kernel), rfl⟩
theorem nn_str {z : Str} : NonNum K H (.str z) := ⟨_, false, false, fun _ _ => .base (.str z), kit_ty (by decide +kernel), kit_ty (by decide +kernel), rfl⟩
theorem nn_bl {b : Bool} : NonNum K H (.bl b) := ⟨_, true, true, fun _ _ => .base (.bl b), kit_ty (by decide +kernel), kit_ty (by decide +kernel), rfl⟩
theorem nn_lst {p : Addr} {xs : List V} (h : H p = some (.lst xs)) : NonNum K H (.ref p) := ⟨_, false, false, fun _ e => .base (.lst (e _ _ h)), kit_ty (by decide +kernel), kit_ty (by decide +kernel), rfl⟩
theorem nn_tup {p : Addr} {xs : List V} (h : H p = some (.tup xs)) : NonNum K H (.ref p) := ⟨_, false, false, fun _ e => .base (.tup (e _ _ h)), kit_ty (by decide +kernel), kit_ty (by decide +kernel), rfl⟩
end
/-- what a refusing def promises -/
def spRef (P : V → Hp → Prop) (C : Addr) : Sp := fun vs H _ E => ∃ v, vs = [v] ∧ P v H ∧ ∀ H2, Ex H H2 → E (.ref C) none H2
/-! a value of which P holds -/
def EvX (te : TE) (σ : L2.St) (H : Hp) (P : V → Hp → Prop) : Prop := ∀ H1, Ex H H1 → ∀ Q : VK, (∀ v H2, Ex H1 H2 → P v H2 → Q v H2) → te σ H1 Q
def EvXs (ta : TA) (σ : L2.St) (H : Hp) (P : V → Hp → Prop) (n : Nat) : Prop := ∀ H1, Ex H H1 → ∀ Q : List V → Hp → Prop, (∀ vs H2, Ex H1 H2 → vs.length = n → (∀ v ∈ vs, P v H2) → Q vs H2) → ta σ H1 Q
section
variable {K : PySem.W.Frag} {σ : L2.St} {H H' : Hp} {ta tb tc te : TE} {x y z v : V} {D : Ends} {tz : TS} {P P' : V → Hp → Prop}
theorem ex_of (h : Ev te σ H v) (hp : ∀ H1, Ex H H1 → P v H1) : EvX te σ H P := fun H1 e Q q => h H1 e Q fun H2 e2 => q v H2 e2 (hp H2 (e.trans e2))
theorem ex_lst {t : TA} {vs : List V} (h : EvA t σ H vs) (hl : vs.length ≤ 100000) (hp : ∀ p H1, Ex H H1 → H1 p = some (.lst vs) → P (.ref p) H1) : EvX (tLst t) σ H P := fun H1 e Q q => el_lst h hl H1 e Q fun p H2 _ e2 x2 => q _ H2 e2 (hp p H2 (e.trans e2) x2)
theorem ex_tup {t : TA} {vs : List V} (h : EvA t σ H vs) (hl : vs.length ≤ 100000) (hp : ∀ p H1, Ex H H1 → H1 p = some (.tup vs) → P (.ref p) H1) : EvX (tTup t) σ H P := fun H1 e Q q => eu_tup h hl H1 e Q fun p H2 _ e2 x2 => q _ H2 e2 (hp p H2 (e.trans e2) x2)
theorem exs_nil : EvXs tNil σ H P 0 := fun H1 _ Q q => q [] H1 (Ex.refl H1) rfl fun v hv => by cases hv
theorem exs_cons {t : TA} {n : Nat} (m : MonoP P) (h : EvX te σ H P) (hr : EvXs t σ H P n) : EvXs (tCons te t) σ H P (n + 1) := fun H1 e Q q =>
  h H1 e _ fun v H2 e2 hv => hr H2 (e.trans e2) _ fun vs H3 e3 hl hvs => q (v :: vs) H3 (e2.trans e3) (congrArg Nat.succ hl) fun u hu => by
    rcases List.mem_cons.mp hu with rfl | hu
    · exact m _ _ _ e3 hv
    · exact hvs u hu
theorem ex_menu {t : TA} {n : Nat} {i : Int} (m : MonoP P) (h : EvXs t σ H P n) (hn : n ≤ 1000) (hi : Ev tb σ H (.int i)) (h0 : 0 ≤ i ∧ i < n) : EvX (tOp (rIxL K) (tLst t) tb) σ H P := fun H1 e Q q =>
  h H1 e _ fun vs H2 e2 hl hv => ⟨sz_of (by omega), fun p hp => by
    have e3 := Ex.new hp (o := .lst vs)
    refine hi _ ((e.trans e2).trans e3) _ fun H4 e4 => ?_
    have hx : H4 p = some (.lst vs) := e4 _ _ upd_same
    obtain ⟨u, hu⟩ : ∃ u, vs[i.toNat]? = some u := ⟨_, List.getElem?_eq_getElem (by omega)⟩
    have ei : i = (i.toNat : Int) := by omega
    refine (rv_ixL (K := K) (v := u) (sq_of hx) (by
      rw [ei]
      exact atI_nat hu)) H4 (Ex.refl H4) Q fun H5 e5 => ?_
    exact q u H5 (((e2.trans e3).trans e4).trans e5) (m _ _ _ ((e3.trans e4).trans e5) (hv u (List.mem_of_getElem? hu)))⟩
theorem EvX.imp (h : EvX te σ H P) (hp : ∀ v H1, Ex H H1 → P v H1 → P' v H1) : EvX te σ H P' := fun H1 e Q q => h H1 e Q fun v H2 e2 hv => q v H2 e2 (hp v H2 (e.trans e2) hv)
theorem q_asgX {i : Nat} (h : EvX te σ H P) (k : ∀ v H1, Ex H H1 → P v H1 → tz D (σ.set i (some v)) H1) : tSeq (tAsg te (gName i)) tz D σ H := h H (Ex.refl H) _ fun v H1 e hv => k v H1 e hv
/-- f(menu); f(a, menu); f(menu, b) -/
theorem s_retX1 {sp : Sp} {E : XK} (h : EvX te σ H P) (k : ∀ v H1, Ex H H1 → P v H1 → sp [v] H1 D.rt E) : tRet (tCall sp [] E (tCons te tNil)) D σ H := h H (Ex.refl H) _ fun v H1 e hv => k v H1 e hv
theorem s_retX2 {sp : Sp} {E : XK} (ha : Ev ta σ H x) (h : EvX te σ H P) (k : ∀ v H1, Ex H H1 → P v H1 → sp [x, v] H1 D.rt E) : tRet (tCall sp [] E (tCons ta (tCons te tNil))) D σ H := ha H (Ex.refl H) _ fun H0 e0 => h H0 e0 _ fun v H1 e hv => k v H1 (e0.trans e) hv
theorem s_retX3 {sp : Sp} {E : XK} (m : MonoP P) (h : EvX te σ H P) (hb : Ev tb σ H y) (k : ∀ v H1, Ex H H1 → P v H1 → sp [v, y] H1 D.rt E) : tRet (tCall sp [] E (tCons te (tCons tb tNil))) D σ H := h H (Ex.refl H) _ fun v H0 e0 hv => hb H0 e0 _ fun H1 e => k v H1 (e0.trans e) (m _ _ _ e hv)
theorem q_dropC {sp : Sp} {E : XK} {t : TA} {vs : List V} (h : EvA t σ H vs) (k : ∀ H1, Ex H H1 → sp vs H1 (fun _ H2 => tz D σ H2) E) : tSeq (tDrop (tCall sp [] E t)) tz D σ H := h H (Ex.refl H) _ fun H1 e => by
  rw [List.append_nil]
  exact k H1 e
theorem s_dropS {sp : Sp} {E : L2.St → XK} {t : TA} {vs : List V} (h : EvA t σ H vs) (k : ∀ H1, Ex H H1 → sp vs H1 (fun _ H2 => D.nx σ H2) (E σ)) : tDrop (tCallS sp E t) D σ H := h H (Ex.refl H) _ fun H1 e => k H1 e
end
/-! [f, g, ..][i](x) -/
def tCallSub (tf : TE) (S : Addr → Prop) (sp : Sp) (E : L2.St → XK) (t : TA) : TE := fun σ H Q => tf σ H fun v H1 => ∃ f, v = .ref f ∧ S f ∧ t σ H1 fun vs H2 => sp vs H2 Q (E σ)
structure HeldN (P : Program) (w : World) (K : PySem.W.Frag) (mg : Str → Option Value) (base : Heap) (k : Nat) (f : Addr) (sp : Sp) : Prop where
  ex : ∃ (fd : FuncData) (ps : List Str), FnOk P w K mg base (L2N.CX P w) k f fd ps sp ∧ PySem.W.keepIn K (.ref f) = true ∧ Binds K fd ps []
theorem pe_callSub {X : Cx} {k : Nat} {S : Addr → Prop} {sp : Sp} {E : L2.St → XK} {fe e : Expr} {es : List Expr} {tf : TE} {t : TA} {pos : Pos} (A : ∀ f, S f → HeldN X.prog X.w X.K X.mg X.base k f sp) (hf : PE X fe tf) (hr : Room k X.A) (hx : ∀ σ, PassesAt (L2N.CX X.prog X.w) X σ (E σ)) (ha : PA X (e :: es) t)
    (hc : eval (.Call fe (e :: es) [] pos) X.env = (do callWith pos (← eval fe X.env) [] (backTo pos (starEach (e :: es) X.env)) (backToKw pos (keywordEach [] X.env))) := by rfl)
    (he : starEach (e :: es) X.env = (false, eval e X.env) :: starEach es X.env := by rfl) (hpl : (backTo pos (starEach es X.env)).any (·.1) = false := by rfl) : PE X (.Call fe (e :: es) [] pos) (tCallSub tf S sp E t) := by
  refine ⟨fun pins s σ H Q I h => ?_⟩
  refine Call_ (thn (hf.run pins s σ H _ I h) fun u s1 ⟨v, H1, I1, r1, q1⟩ => ?_) hc
  obtain ⟨f, rfl, hS, ht⟩ := q1
  cases r1
  obtain ⟨fd, ps, F, hk, hb⟩ := (A f hS).ex
  refine PySem.W.callWith_K (h₀ := X.base) I1.ok.mod.kin hk (thn (ha.run pos pins s1 σ _ _ I1 ht) fun us s2 ⟨vs, H2, I2, r, q⟩ => ⟨I2.kIn, ?_⟩) he hpl
  exact run_fnS F hr hb (hx σ) I2 r q
theorem passSub {X : Cx} {E : XK} (tk : L2N.Takes X (fun cls d _ H => E cls d H)) (σ : L2.St) : PassesAt (L2N.CX X.prog X.w) X σ E := fun pins H s e s' I c => passD tk pins σ H s e s' I c
theorem held_of {P : Program} {w : World} {K : PySem.W.Frag} {mg : Str → Option Value} {base : Heap} {k j : Nat} {x : Str} {sp sp' : Sp} {f : Addr} (c : CalX P w K mg base k x sp []) (g : mg x = some (.ref f)) (hk : k ≤ j) (h : ∀ vs H Q E, sp' vs H Q E → sp vs H Q E) : HeldN P w K mg base j f sp' := by
  obtain ⟨f1, fd, ps, F, hm, kp, b⟩ := c.ex
  have e : f1 = f := Value.ref.inj (Option.some.inj (hm.symm.trans g))
  subst e
  exact ⟨fd, ps, (F.imp h).mono hk, kp, b⟩
section
variable {K : PySem.W.Frag} {σ : L2.St} {H H' : Hp} {tf te : TE} {D : Ends}
theorem s_retSub {S : Addr → Prop} {sp : Sp} {E : L2.St → XK} {t : TA} {vs : List V} (h : EvX tf σ H fun v _ => ∃ f, v = .ref f ∧ S f) (ha : EvA t σ H vs) (k : ∀ H1, Ex H H1 → sp vs H1 D.rt (E σ)) : tRet (tCallSub tf S sp E t) D σ H := h H (Ex.refl H) _ fun v H1 e ⟨f, hv, hS⟩ => ⟨f, hv, hS, ha H1 e _ fun H2 e2 => k H2 (e.trans e2)⟩
theorem s_dropSub {S : Addr → Prop} {sp : Sp} {E : L2.St → XK} {t : TA} {vs : List V} (h : EvX tf σ H fun v _ => ∃ f, v = .ref f ∧ S f) (ha : EvA t σ H vs) (k : ∀ H1, Ex H H1 → sp vs H1 (fun _ H2 => D.nx σ H2) (E σ)) : tDrop (tCallSub tf S sp E t) D σ H := h H (Ex.refl H) _ fun v H1 e ⟨f, hv, hS⟩ => ⟨f, hv, hS, ha H1 e _ fun H2 e2 => k H2 (e.trans e2)⟩
theorem mono_fn {S : Addr → Prop} : MonoP (fun v _ => ∃ f, v = V.ref f ∧ S f) := fun _ _ _ _ h => h
end
theorem pe_strE {X : Cx} {j : Nat} {pos : Pos} {z : Str} {bs : List Bool} (h : z = enc bs) : PE X (.Constant (.str z) j pos) (tC (.str (enc bs))) := by
  subst h
  exact pe_str
end Eb
namespace Eb
open PySem PySem.Spec PyProof.Rows L2 TL Evl
theorem spv_nonnum {K : PySem.W.Frag} {H : Hp} {v : V} (h : NonNum K H v) : SpV (spIsNumber K) [v] H (.bl false) := fun H1 e Q q _ => by
  obtain ⟨t, b, c, h1, h2, h3, h4⟩ := h
  refine ⟨v, t, b, c, rfl, fun H2 e2 => h1 H2 (e.trans e2), h2, h3, ?_⟩
  rw [h4]
  exact q
end Eb
namespace Eb
open PySem L2
structure Yz (K : PySem.W.Frag) (mg : Str → Option Value) (cBeatError cBadRing cBadCount cNoBeat cUneven : Addr) : Prop where
  m_BeatError : mg "BeatError" = some (.ref cBeatError)
  m_BadRing : mg "BadRing" = some (.ref cBadRing)
  m_BadCount : mg "BadCount" = some (.ref cBadCount)
  m_NoBeat : mg "NoBeat" = some (.ref cNoBeat)
  m_Uneven : mg "Uneven" = some (.ref cUneven)
  e_BadRing : Exs K cBadRing
  q_BadRing : PySem.W.exmOne K (.ref cBadRing) (.ref cBeatError) = some true
  i_BadRing_BadRing : PySem.W.kitOne K (.ref cBadRing) (.ref cBadRing) = some true
  i_BadRing_BadCount : PySem.W.kitOne K (.ref cBadRing) (.ref cBadCount) = some false
  i_BadRing_NoBeat : PySem.W.kitOne K (.ref cBadRing) (.ref cNoBeat) = some false
  i_BadRing_Uneven : PySem.W.kitOne K (.ref cBadRing) (.ref cUneven) = some false
  v_BadRing : PySem.W.kitOne K (.ref cBadRing) (.type "ValueError") = some true
  e_BadCount : Exs K cBadCount
  q_BadCount : PySem.W.exmOne K (.ref cBadCount) (.ref cBeatError) = some true
  i_BadCount_BadRing : PySem.W.kitOne K (.ref cBadCount) (.ref cBadRing) = some false
  i_BadCount_BadCount : PySem.W.kitOne K (.ref cBadCount) (.ref cBadCount) = some true
  i_BadCount_NoBeat : PySem.W.kitOne K (.ref cBadCount) (.ref cNoBeat) = some false
  i_BadCount_Uneven : PySem.W.kitOne K (.ref cBadCount) (.ref cUneven) = some false
  v_BadCount : PySem.W.kitOne K (.ref cBadCount) (.type "ValueError") = some true
  e_NoBeat : Exs K cNoBeat
  q_NoBeat : PySem.W.exmOne K (.ref cNoBeat) (.ref cBeatError) = some true
  i_NoBeat_BadRing : PySem.W.kitOne K (.ref cNoBeat) (.ref cBadRing) = some false
  i_NoBeat_BadCount : PySem.W.kitOne K (.ref cNoBeat) (.ref cBadCount) = some false
  i_NoBeat_NoBeat : PySem.W.kitOne K (.ref cNoBeat) (.ref cNoBeat) = some true
  i_NoBeat_Uneven : PySem.W.kitOne K (.ref cNoBeat) (.ref cUneven) = some false
  v_NoBeat : PySem.W.kitOne K (.ref cNoBeat) (.type "ValueError") = some true
  e_Uneven : Exs K cUneven
  q_Uneven : PySem.W.exmOne K (.ref cUneven) (.ref cBeatError) = some true
  i_Uneven_BadRing : PySem.W.kitOne K (.ref cUneven) (.ref cBadRing) = some false
  i_Uneven_BadCount : PySem.W.kitOne K (.ref cUneven) (.ref cBadCount) = some false
  i_Uneven_NoBeat : PySem.W.kitOne K (.ref cUneven) (.ref cNoBeat) = some false
  i_Uneven_Uneven : PySem.W.kitOne K (.ref cUneven) (.ref cUneven) = some true
  v_Uneven : PySem.W.kitOne K (.ref cUneven) (.type "ValueError") = some true
  z : mg "ValueError" = none
end Eb
namespace Eb
open PySem PySem.Spec PyProof.Rows L2 TL Evl
abbrev sReckoned : Stmt := topS 14
theorem scReckoned : FnScope ["beats", "places", "shift", "many"] ["beats", "places", "shift", "many"] (defScope sReckoned) := ⟨rfl, rfl, rfl, by decide +kernel, rfl, by decide +kernel, by decide +kernel⟩
def RBad (K : PySem.W.Frag) (H : Hp) (b p s m : V) : Prop := NonNum K H p ∨ (∃ n : Int, p = .int n ∧ n < 1) ∨ (∃ n : Int, p = .int n ∧ 1 ≤ n ∧ NonNum K H b) ∨ (∃ n c : Int, p = .int n ∧ b = .int c ∧ 1 ≤ n ∧ ¬ (0 ≤ c ∧ c ≤ n)) ∨
  (∃ n c : Int, p = .int n ∧ b = .int c ∧ 1 ≤ n ∧ 0 ≤ c ∧ c ≤ n ∧ (NonNum K H s ∨ ∃ i : Int, s = .int i ∧ (NonNum K H m ∨ ∃ j : Int, m = .int j ∧ j < 0)))
theorem RBad.mono {K : PySem.W.Frag} {H H1 : Hp} {b p s m : V} (e : Ex H H1) (h : RBad K H b p s m) : RBad K H1 b p s m := by
  rcases h with h | h | ⟨n, h1, h2, h⟩ | h | ⟨n, c, h1, h2, h3, h4, h5, h⟩
  · exact .inl (h.mono e)
  · exact .inr (.inl h)
  · exact .inr (.inr (.inl ⟨n, h1, h2, h.mono e⟩))
  · exact .inr (.inr (.inr (.inl h)))
  · refine .inr (.inr (.inr (.inr ⟨n, c, h1, h2, h3, h4, h5, ?_⟩)))
    rcases h with h | ⟨i, h6, h | h⟩
    · exact .inl (h.mono e)
    · exact .inr ⟨i, h6, .inl (h.mono e)⟩
    · exact .inr ⟨i, h6, .inr h⟩
def spReckonedB (K : PySem.W.Frag) (C : Addr) : Sp := fun vs H Q E => ∃ b p s m, vs = [b, p, s, m] ∧ RBad K H b p s m ∧ ∀ H2, Ex H H2 → E (.ref C) none H2
section
variable {P : Program} {w : World} {K : PySem.W.Frag} {mg : Str → Option Value} {base : Heap}
variable {cBeatError cBadRing cBadCount cNoBeat cUneven : Addr}
theorem ok_reckoned (D : DefAt K mg "reckoned" sReckoned) (Y : Yz K mg cBeatError cBadRing cBadCount cNoBeat cUneven) (c_is_number : C8.Cal P w K mg base 1 "is_number" (spIsNumber K) []) : CalX P w K mg base 3 "reckoned" (spReckonedB K cBadCount) [] := by
  refine calx_of D (fun _ _ _ _ _ _ us hl => match us, hl with | [_, _, _, _], _ => rfl) scReckoned (fun vs H Q E h => ?_) (fun f cdv A outer s H vs Q E hr h => ?_)
  · obtain ⟨b, p, s, m, rfl, _⟩ := h
    rfl
  · obtain ⟨b, p, s, m, rfl, h, kE⟩ := h
    refine ⟨_, (pss_cons (ps_if (PW.pt (pw_or (pt_not (pt_val (C8.pe_c c_is_number hr (by decide) (by rfl) (pa_cons (pv 1) pa_nil)))) (pw_or (pt_cmp (pc_lt (pv 1) pe_int)) (pw_or (pt_not (pt_val (C8.pe_c c_is_number hr (by decide) (by rfl) (pa_cons (pv 0) pa_nil)))) (pw_or1 (pt_not (pt_chain op_le op_le pe_int (pv 0) (pv 1))))))))
      (pss_one (ps_raiseE rfl (L2N.takes_of rfl rfl rfl rfl) Y.e_BadCount Y.m_BadCount (by rfl)))
      pss_nil)
      (pss_cons (ps_if (PW.pt (pw_or (pt_not (pt_val (C8.pe_c c_is_number hr (by decide) (by rfl) (pa_cons (pv 2) pa_nil)))) (pw_or (pt_not (pt_val (C8.pe_c c_is_number hr (by decide) (by rfl) (pa_cons (pv 3) pa_nil)))) (pw_or1 (pt_cmp (pc_lt (pv 3) pe_int))))))
      (pss_one (ps_raiseE rfl (L2N.takes_of rfl rfl rfl rfl) Y.e_BadCount Y.m_BadCount (by rfl)))
      pss_nil)
      pss_never)), ?_⟩
    rcases h with hn | ⟨n, rfl, hn⟩ | ⟨n, rfl, h1, hn⟩ | ⟨n, c, rfl, rfl, h1, hn⟩ | ⟨n, c, rfl, rfl, h1, h2, h3, h⟩
    · exact q_when (b := true) (et_or (b := true) (et_not (et_test' (ev_call (ea_cons (ev_var rfl) ea_nil) (spv_nonnum hn)))) (fun hb => by cases hb)) (fun _ H1 e1 => kE H1 e1) (fun hb => by cases hb)
    · exact q_when (b := true) (et_eq (et_or (et_not (et_B (ev_call (ea_cons (ev_var rfl) ea_nil) (spv_is_number (by walk_at "pre"))))) (fun _ => et_or (b := true) (et_B (ev_cmp (ev_var rfl) ev_c)) (fun hb => absurd (decide_eq_true hn) (by
        rw [hb]
        exact Bool.false_ne_true)))) (by simp)) (fun _ H1 e1 => kE H1 e1) (fun hb => by cases hb)
    · exact q_when (b := true) (et_eq (et_or (et_not (et_B (ev_call (ea_cons (ev_var rfl) ea_nil) (spv_is_number (by walk_at "pre"))))) (fun _ => et_or (et_B (ev_cmp (ev_var rfl) ev_c)) (fun _ => et_or (b := true) (et_not (et_test' (ev_call (ea_cons (ev_var rfl) ea_nil) (spv_nonnum hn)))) (fun hb => by cases hb)))) (by simp)) (fun _ H1 e1 => kE H1 e1) (fun hb => by cases hb)
    · exact q_when (et_or (et_not (et_B (ev_call (ea_cons (ev_var rfl) ea_nil) (spv_is_number (by walk_at "pre"))))) (fun hb => (et_or (et_B (ev_cmp (ev_var rfl) ev_c)) (fun hb => (et_or (et_not (et_B (ev_call (ea_cons (ev_var rfl) ea_nil) (spv_is_number (by walk_at "pre"))))) (fun hb => (et_not (et_test (ev_chain ev_c (ev_var rfl) (ev_var rfl)))))))))) (fun _ H1 e1 => kE H1 e1) (fun hb => by
        exfalso
        simp at hb
        omega)
    · refine q_when (et_or (et_not (et_B (ev_call (ea_cons (ev_var rfl) ea_nil) (spv_is_number (by walk_at "pre"))))) (fun hb => (et_or (et_B (ev_cmp (ev_var rfl) ev_c)) (fun hb => (et_or (et_not (et_B (ev_call (ea_cons (ev_var rfl) ea_nil) (spv_is_number (by walk_at "pre"))))) (fun hb => (et_not (et_test (ev_chain ev_c (ev_var rfl) (ev_var rfl)))))))))) (fun hb => by
        exfalso
        simp at hb
        omega) (fun _ H1 e1 => ?_)
      rcases h with hn | ⟨i, rfl, hn | ⟨j, rfl, hn⟩⟩
      · exact q_when (b := true) (et_or (b := true) (et_not (et_test' (ev_call (ea_cons (ev_var rfl) ea_nil) (spv_nonnum (hn.mono e1))))) (fun hb => by cases hb)) (fun _ H2 e2 => kE H2 (e1.trans e2)) (fun hb => by cases hb)
      · exact q_when (b := true) (et_eq (et_or (et_not (et_B (ev_call (ea_cons (ev_var rfl) ea_nil) (spv_is_number (by walk_at "pre"))))) (fun _ => et_or (b := true) (et_not (et_test' (ev_call (ea_cons (ev_var rfl) ea_nil) (spv_nonnum (hn.mono e1))))) (fun hb => by cases hb))) (by simp)) (fun _ H2 e2 => kE H2 (e1.trans e2)) (fun hb => by cases hb)
      · exact q_when (et_or (et_not (et_B (ev_call (ea_cons (ev_var rfl) ea_nil) (spv_is_number (by walk_at "pre"))))) (fun hb => (et_or (et_not (et_B (ev_call (ea_cons (ev_var rfl) ea_nil) (spv_is_number (by walk_at "pre"))))) (fun hb => (et_B (ev_cmp (ev_var rfl) ev_c)))))) (fun _ H2 e2 => kE H2 (e1.trans e2)) (fun hb => by
          exfalso
          simp at hb
          omega)
end
end Eb
/-! ### own classes: instances, their fields, what isinstance says -/
namespace Eb
open PySem PySem.Spec PyProof.Rows L2 TL Evl
structure Kl (K : PySem.W.Frag) (C : Addr) : Prop where
  cl : Cls K C
  ha : PySem.W.findIn K (.ref C) "__class__" = some (some (.builtin "object.__class__"))
  hn : PySem.W.specialIn K (.builtin "object.__class__") "__get__" = some (some (.builtin "getset_descriptor.__get__"))
  htk : PySem.W.takesIn K (.builtin "object.__class__") = some true
  hm : PySem.W.mroIn K C (.type "object") = some true
theorem rc_isO {K : PySem.W.Frag} {H : Hp} {a C D dx : Addr} {fs : List (Str × V)} {b : Bool} (k : Kl K C) (ho : H a = some (.ins C dx fs)) (hk : PySem.W.kitOne K (.ref C) (.ref D) = some b) : RC (rIsi K) [.ref a, .ref D] H (.bl b) :=
  rc_isi (.own D) (fun _ e => .base (.ins (e _ _ ho) k.cl k.ha k.hn k.htk k.hm)) hk
/-- all but x stays -/
def KeepBut (x : Addr) (H H' : Hp) : Prop := ∀ b o, b ≠ x → H b = some o → H' b = some o
theorem KeepBut.refl (x : Addr) (H : Hp) : KeepBut x H H := fun _ _ _ h => h
theorem KeepBut.put {x : Addr} {H H1 : Hp} {o : HO} (h : KeepBut x H H1) : KeepBut x H (upd H1 x o) := fun b u hb e => by
  rw [upd_ne hb]
  exact h b u hb e
theorem KeepBut.ex {x : Addr} {H H1 H2 : Hp} (h : KeepBut x H H1) (e : Ex H1 H2) : KeepBut x H H2 := fun b u hb q => e b u (h b u hb q)
/-- __init__: each parameter goes to the field of its name -/
def spI (C : Addr) (fs : List Str) : Sp := fun vs H Q _ => ∃ (x dx : Addr) (us : List V), vs = .ref x :: us ∧ us.length = fs.length ∧ H x = some (.ins C dx []) ∧ ∀ H', KeepBut x H H' → H' x = some (.ins C dx (fs.zip us)) → Q .non H'
/-- a new instance -/
def EvN (te : TE) (σ : L2.St) (H : Hp) (C : Addr) (fs : List (Str × V)) : Prop := ∀ H1, Ex H H1 → ∀ Q : VK, (∀ p dx H2, H1 p = none → Ex H1 H2 → H2 p = some (.ins C dx fs) → Q (.ref p) H2) → te σ H1 Q
section
variable {K : PySem.W.Frag} {σ : L2.St} {H H' : Hp} {ta tb te : TE} {x y z v : V} {a C dx : Addr} {fs : List (Str × V)} {f m : Str} {D : Ends} {tz : TS}
theorem EvN.mono (e : Ex H H') (h : EvN te σ H C fs) : EvN te σ H' C fs := fun H1 q Q k => h H1 (e.trans q) Q k
theorem en_make {names : List Str} {E : XK} {t : TA} {us : List V} (h : EvA t σ H us) (hl : us.length = names.length) : EvN (tMake C (spI C names) [] E t) σ H C (names.zip us) := fun H1 e Q q =>
  h H1 e _ fun H2 e2 x dx hx hdx hne => ⟨x, dx, us ++ [], rfl, by
    rw [List.append_nil]
    exact hl, upd_same, fun H' kp hH => ⟨rfl, q x dx H' (fresh_back e2 hx) (e2.trans fun b o hb => kp b o (ne_of_none hb hx) (by
      rw [upd_ne (ne_of_none hb hx), upd_ne (ne_of_none hb hdx)]
      exact hb)) (by
      rw [List.append_nil] at hH
      exact hH)⟩⟩
theorem ev_fld (h : Ev te σ H (.ref a)) (ho : H a = some (.ins C dx fs)) (hc : Cls K C) (hn : NoAttr K C f) (hl : fs.lookup f = some v) : Ev (tFld K te f) σ H v := fun H1 e _ q =>
  h H1 e _ fun H2 e2 => ⟨a, C, dx, fs, v, rfl, e2 _ _ (e _ _ ho), hc, hn, hl, q H2 e2⟩
theorem ev_meth {sp : Sp} {E : XK} {t : TA} {us : List V} (h : Ev ta σ H (.ref a)) (ho : H a = some (.ins C dx fs)) (hl : fs.lookup m = none) (hu : EvA t σ H us) (hs : SpV sp (.ref a :: us) H z) : Ev (tMeth C m sp [] E ta t) σ H z := fun H1 e Q q =>
  h H1 e _ fun H2 e2 => ⟨a, dx, fs, rfl, e2 _ _ (e _ _ ho), hl, hu H2 (e.trans e2) _ fun H3 e3 => by
    rw [List.append_nil]
    exact hs H3 ((e.trans e2).trans e3) Q (fun H4 e4 => q H4 ((e2.trans e3).trans e4)) E⟩
theorem s_fld (hv : Ev tb σ H v) (hx : Ev ta σ H (.ref a)) (ho : H a = some (.ins C dx fs)) (hc : Cls K C) (hn : NoAttr K C f) (hl : fs.length < 1000) (k : ∀ H1, Ex H H1 → D.nx σ (upd H1 a (.ins C dx (putF f v fs)))) : sFld K ta tb f D σ H :=
  hv H (Ex.refl H) _ fun H1 e1 => hx H1 e1 _ fun H2 e2 => ⟨a, C, dx, fs, rfl, e2 _ _ (e1 _ _ ho), hc, hn, hl, k H2 (e1.trans e2)⟩
theorem q_fld (hv : Ev tb σ H v) (hx : Ev ta σ H (.ref a)) (ho : H a = some (.ins C dx fs)) (hc : Cls K C) (hn : NoAttr K C f) (hl : fs.length < 1000) (k : ∀ H1, Ex H H1 → tz D σ (upd H1 a (.ins C dx (putF f v fs)))) : tSeq (sFld K ta tb f) tz D σ H := s_fld (D := { D with nx := tz D }) hv hx ho hc hn hl k
theorem q_asgN {i : Nat} (h : EvN te σ H C fs) (k : ∀ p dx H1, H p = none → Ex H H1 → H1 p = some (.ins C dx fs) → tz D (σ.set i (some (.ref p))) H1) : tSeq (tAsg te (gName i)) tz D σ H := h H (Ex.refl H) _ fun p dx H1 hp e x => k p dx H1 hp e x
theorem s_retN {fs : List (Str × V)} (h : EvN te σ H C fs) (k : ∀ p dx H1, H p = none → Ex H H1 → H1 p = some (.ins C dx fs) → D.rt (.ref p) H1) : tRet te D σ H := h H (Ex.refl H) _ k
/-- a call whose answer is told by its promise alone -/
theorem q_asgC {sp : Sp} {E : XK} {t : TA} {vs : List V} {i : Nat} (h : EvA t σ H vs) (k : ∀ H1, Ex H H1 → sp vs H1 (fun v H2 => tz D (σ.set i (some v)) H2) E) : tSeq (tAsg (tCall sp [] E t) (gName i)) tz D σ H := h H (Ex.refl H) _ fun H1 e => by
  rw [List.append_nil]
  exact k H1 e
theorem s_retC {sp : Sp} {E : XK} {t : TA} {vs : List V} (h : EvA t σ H vs) (k : ∀ H1, Ex H H1 → sp vs H1 D.rt E) : tRet (tCall sp [] E t) D σ H := h H (Ex.refl H) _ fun H1 e => by
  rw [List.append_nil]
  exact k H1 e
end
/-- one of two readings of an expression -/
theorem pe_or2 {X : Cx} {e : Expr} {t u : TE} (h1 : PE X e t) (h2 : PE X e u) : PE X e (fun σ H Q => t σ H Q ∨ u σ H Q) := ⟨fun pins s σ H Q I h => by
  rcases h with h | h
  · exact h1.run pins s σ H Q I h
  · exact h2.run pins s σ H Q I h⟩
theorem ev_orL {t u : TE} {σ : L2.St} {H : Hp} {v : V} (h : Ev t σ H v) : Ev (fun σ H Q => t σ H Q ∨ u σ H Q) σ H v := fun H1 e Q q => .inl (h H1 e Q q)
theorem ev_orR {t u : TE} {σ : L2.St} {H : Hp} {v : V} (h : Ev u σ H v) : Ev (fun σ H Q => t σ H Q ∨ u σ H Q) σ H v := fun H1 e Q q => .inr (h H1 e Q q)
/-- an __init__, a method, as the top leaves them -/
structure InitAt (K : PySem.W.Frag) (C : Addr) (qual : Str) (st : Stmt) : Prop where
  ex : ∃ f fd, Fun K "__init__" qual st f fd ∧ Mk K C f
structure MethAt (K : PySem.W.Frag) (C : Addr) (m qual : Str) (st : Stmt) : Prop where
  ex : ∃ f fd, Fun K m qual st f fd ∧ Meth K C m f
section
variable {P : Program} {w : World} {K : PySem.W.Frag} {mg : Str → Option Value} {base : Heap}
theorem mak_of {x qual : Str} {C : Addr} {st : Stmt} {N ps : List Str} {k : Nat} {sp : Sp} (D : InitAt K C qual st) (g : mg x = some (.ref C))
    (b : ∀ (kV doc pm : Value) (an : Option Addr) (cdv ct : Value) (us : List Value), us.length = ps.length → bindArgs (PySem.W.fnOf "__init__" qual (defArgs st) (defBody st) (defScope st) .none kV doc pm an cdv ct) ⟨us, []⟩ = pure (ps.zip us))
    (S : FnScope N ps (defScope st)) (len : ∀ vs H Q E, sp vs H Q E → vs.length = ps.length)
    (hbody : ∀ (f : Addr) (cdv : Value) (A : Around) (outer : List Env) (s : Shared) (H : Hp) (vs : List V) (Q : VK) (E : XK), Room k (A.deeper (envOfC qual (defScope st) s.heap.objs.size f cdv)) → sp vs H Q E →
      ∃ t, PSs (cxOf CX0 P w K mg base N qual (defScope st) f cdv A outer s H E).nox (defBody st) t ∧ t { nx := fun _ H' => Q .non H', rt := Q } (start N vs) H) : C8.Mak P w K mg base (k + 1) x C sp [] := by
  obtain ⟨f, fd, F, M⟩ := D.ex
  exact ⟨f, fd, ps, [], M, F.ok S len (hbody f), g, F.binds b, .nil⟩
theorem met_of {m qual : Str} {C : Addr} {st : Stmt} {N ps : List Str} {k : Nat} {sp : Sp} (D : MethAt K C m qual st) (c : Cls K C)
    (b : ∀ (kV doc pm : Value) (an : Option Addr) (cdv ct : Value) (us : List Value), us.length = ps.length → bindArgs (PySem.W.fnOf m qual (defArgs st) (defBody st) (defScope st) .none kV doc pm an cdv ct) ⟨us, []⟩ = pure (ps.zip us))
    (S : FnScope N ps (defScope st)) (len : ∀ vs H Q E, sp vs H Q E → vs.length = ps.length)
    (hbody : ∀ (f : Addr) (cdv : Value) (A : Around) (outer : List Env) (s : Shared) (H : Hp) (vs : List V) (Q : VK) (E : XK), Room k (A.deeper (envOfC qual (defScope st) s.heap.objs.size f cdv)) → sp vs H Q E →
      ∃ t, PSs (cxOf CX0 P w K mg base N qual (defScope st) f cdv A outer s H E).nox (defBody st) t ∧ t { nx := fun _ H' => Q .non H', rt := Q } (start N vs) H) : C8.Met P w K mg base (k + 1) C m sp [] := by
  obtain ⟨f, fd, F, M⟩ := D.ex
  exact ⟨f, fd, ps, [], c, M, F.ok S len (hbody f), F.binds b, .nil⟩
end
/-! the fields of the four answers -/
theorem ne_of_beq_false {a b : Str} (h : (a == b) = false) : a ≠ b := fun e => by
  rw [e] at h
  simp at h
theorem n_sf : (("second" : Str) == "first") = false := by decide +kernel
theorem n_mf : (("many" : Str) == "first") = false := by decide +kernel
theorem n_ms : (("many" : Str) == "second") = false := by decide +kernel
theorem n_pb : (("places" : Str) == "beats") = false := by decide +kernel
theorem n_sb : (("shift" : Str) == "beats") = false := by decide +kernel
theorem n_sp : (("shift" : Str) == "places") = false := by decide +kernel
theorem lk_1 {a : Str} (x : V) : List.lookup a [(a, x)] = some x := by simp [List.lookup]
theorem lk_3a {a b c : Str} (x y z : V) : List.lookup a [(a, x), (b, y), (c, z)] = some x := by simp [List.lookup]
theorem lk_3b {a b c : Str} (h : (b == a) = false) (x y z : V) : List.lookup b [(a, x), (b, y), (c, z)] = some y := by simp [List.lookup, h]
theorem lk_3c {a b c : Str} (h : (c == a) = false) (h2 : (c == b) = false) (x y z : V) : List.lookup c [(a, x), (b, y), (c, z)] = some z := by simp [List.lookup, h, h2]
theorem lk_n1 {a m : Str} (h : (m == a) = false) (x : V) : List.lookup m [(a, x)] = none := by simp [List.lookup, h]
theorem lk_n3 {a b c m : Str} (h1 : (m == a) = false) (h2 : (m == b) = false) (h3 : (m == c) = false) (x y z : V) : List.lookup m [(a, x), (b, y), (c, z)] = none := by simp [List.lookup, h1, h2, h3]
theorem put_0 (a : Str) (x : V) : putF a x [] = [(a, x)] := rfl
theorem put_1 {a b : Str} (h : ¬ a = b) (x y : V) : putF b y [(a, x)] = [(a, x), (b, y)] := by
  show (if a = b then _ else _) = _
  rw [if_neg h]
  rfl
theorem put_2 {a b c : Str} (h : ¬ a = c) (h2 : ¬ b = c) (x y z : V) : putF c z [(a, x), (b, y)] = [(a, x), (b, y), (c, z)] := by
  show (if a = c then _ else _ :: (if b = c then _ else _)) = _
  rw [if_neg h, if_neg h2]
  rfl
end Eb
namespace Eb
open PySem PySem.Spec PyProof.Rows L2 TL Evl
abbrev sLaid : Stmt := topS 15
theorem scLaid : FnScope ["beats", "places"] ["beats", "places"] (defScope sLaid) := ⟨rfl, rfl, rfl, by decide +kernel, rfl, by decide +kernel, by decide +kernel⟩
def spLaidB (K : PySem.W.Frag) (C : Addr) : Sp := fun vs H Q E => ∃ b p, vs = [b, p] ∧ RBad K H b p (.int 0) p ∧ ∀ H2, Ex H H2 → E (.ref C) none H2
section
variable {P : Program} {w : World} {K : PySem.W.Frag} {mg : Str → Option Value} {base : Heap}
variable {cBeatError cBadRing cBadCount cNoBeat cUneven : Addr}
theorem ok_laid (D : DefAt K mg "laid" sLaid) (c_reckoned : CalX P w K mg base 3 "reckoned" (spReckonedB K cBadCount) []) : CalX P w K mg base 4 "laid" (spLaidB K cBadCount) [] := by
  refine calx_of D (fun _ _ _ _ _ _ us hl => match us, hl with | [_, _], _ => rfl) scLaid (fun vs H Q E h => ?_) (fun f cdv A outer s H vs Q E hr h => ?_)
  · obtain ⟨b, p, rfl, _⟩ := h
    rfl
  · obtain ⟨b, p, rfl, h, kE⟩ := h
    refine ⟨_, (pss_one (ps_ret (pe_cx (passD (L2N.takes_of rfl rfl rfl rfl)) c_reckoned hr (by decide) (by rfl) (pa_cons (pv 0) (pa_cons (pv 1) (pa_cons pe_int (pa_cons (pv 1) pa_nil))))))), ?_⟩
    exact s_retC (ea_cons (ev_var rfl) (ea_cons (ev_var rfl) (ea_cons ev_c (ea_cons (ev_var rfl) ea_nil)))) fun H1 e1 => ⟨b, p, _, _, rfl, h.mono e1, fun H2 e2 => kE H2 (e1.trans e2)⟩
end
end Eb
namespace Eb
open PySem PySem.Spec PyProof.Rows L2 TL Evl
abbrev sAskedRow : Stmt := topS 11
theorem scAskedRow : FnScope ["row"] ["row"] (defScope sAskedRow) := ⟨rfl, rfl, rfl, by decide +kernel, rfl, by decide +kernel, by decide +kernel⟩
def spAskedRowB (K : PySem.W.Frag) (C : Addr) : Sp := fun vs H Q E => ∃ v, vs = [v] ∧ ((∃ bs : List Bool, v = .str (enc bs) ∧ bs.length ≤ 1000 ∧ RetV .non H Q) ∨ (BadRow K H v ∧ ∀ H2, Ex H H2 → E (.ref C) none H2))
theorem spv_asked_row {K : PySem.W.Frag} {C : Addr} {H : Hp} {bs : List Bool} (h : bs.length ≤ 1000) : SpV (spAskedRowB K C) [.str (enc bs)] H .non := fun _ _ _ q _ => ⟨_, rfl, .inl ⟨bs, rfl, h, q⟩⟩
section
variable {P : Program} {w : World} {K : PySem.W.Frag} {mg : Str → Option Value} {base : Heap}
variable {cBeatError cBadRing cBadCount cNoBeat cUneven : Addr}
theorem ok_asked_row (D : DefAt K mg "asked_row" sAskedRow) (Y : Yz K mg cBeatError cBadRing cBadCount cNoBeat cUneven) (B : Bn mg) (T : Tx mg) : CalX P w K mg base 3 "asked_row" (spAskedRowB K cBadRing) [] := by
  refine calx_of D (fun _ _ _ _ _ _ us hl => match us, hl with | [_], _ => rfl) scAskedRow (fun vs H Q E h => ?_) (fun f cdv A outer s H vs Q E hr h => ?_)
  · obtain ⟨v, rfl, _⟩ := h
    rfl
  · obtain ⟨v, rfl, h⟩ := h
    refine ⟨_, (pss_one (ps_if (PW.pt (pw_or (pt_not (pt_val (pe_callB (call_isiK1 (K := K) rfl) (by rfl) B.isinstance_ (by decide +kernel) (pa_cons (pv 0) (pa_cons (pe_bltn (v := .ty "str") (by rfl) B.str_ (by decide +kernel) rfl) pa_nil))))) (pw_or1 (pt_cmpR op_ne (pe_m1 PySem.F.slot_str_strip PySem.F.type_str_strip mt_stripChars (pv 0) (pe_op op_add_str (C8.pe_gc rfl T.beat) (C8.pe_gc rfl T.rest))) pe_s0 (nomark _)))))
      (pss_one (ps_raiseE rfl (L2N.takes_of rfl rfl rfl rfl) Y.e_BadRing Y.m_BadRing (by rfl)))
      pss_nil)), ?_⟩
    rcases h with ⟨bs, rfl, h1, k⟩ | ⟨hb, kE⟩
    · exact s_when (et_or (et_not (et_B (ev_cb (ea_cons (ev_var rfl) (ea_cons ev_c ea_nil)) (rc_isiS (b := true) (by decide +kernel))))) (fun hb => (et_test (ev_op (ev_stripS (ev_var rfl) (ev_op ev_c ev_c (rv_catS (by walk_at "sz") (by walk_at "sz"))) (by walk_at "sz")) ev_c rv_neS)))) (fun hb => by
        exfalso
        simp at hb) (fun _ H1 e1 => k H1 e1)
    · rcases hb with ⟨t, ht, hk⟩ | ⟨z, rfl, hz, hs⟩
      · exact s_when (b := true) (et_or (b := true) (et_not (et_test' (ev_cb (ea_cons (ev_var rfl) (ea_cons ev_c ea_nil)) (rc_isi (.ty "str") ht hk)))) (fun hb => by cases hb)) (fun _ H1 e1 => kE H1 e1) (fun hb => by cases hb)
      · refine s_when (b := true) (et_or (b := true) (et_not (et_test' (ev_cb (ea_cons (ev_var rfl) (ea_cons ev_c ea_nil)) (rc_isiS (b := true) (by decide +kernel))))) (fun _ => et_eq (et_test (ev_op (ev_m1 (ev_var rfl) (ev_op ev_c ev_c (rv_catS (by walk_at "sz") (by walk_at "sz"))) (fun H1 _ _ q => ⟨_, _, rfl, rfl, sz_of hz, q H1 (Ex.refl H1)⟩)) ev_c (rv_ne rfl))) ?_)) (fun _ H1 e1 => kE H1 e1) (fun hb => by cases hb)
        rw [Bool.not_eq_true', decide_eq_false_iff_not]
        exact fun c => hs (V.str.inj c)
end
end Eb
namespace Eb
open PySem PySem.Spec PyProof.Rows L2 TL Evl
abbrev sAskedRing : Stmt := topS 12
theorem scAskedRing : FnScope ["ring"] ["ring"] (defScope sAskedRing) := ⟨rfl, rfl, rfl, by decide +kernel, rfl, by decide +kernel, by decide +kernel⟩
def spAskedRingB (K : PySem.W.Frag) (C : Addr) : Sp := fun vs H Q E => ∃ v, vs = [v] ∧ ((∃ bs : List Bool, v = .str (enc bs) ∧ (0 < bs.length ∧ bs.length ≤ 1000) ∧ RetV .non H Q) ∨ (BadRingV K H v ∧ ∀ H2, Ex H H2 → E (.ref C) none H2))
theorem spv_asked_ring {K : PySem.W.Frag} {C : Addr} {H : Hp} {bs : List Bool} (h : 0 < bs.length ∧ bs.length ≤ 1000) : SpV (spAskedRingB K C) [.str (enc bs)] H .non := fun _ _ _ q _ => ⟨_, rfl, .inl ⟨bs, rfl, h, q⟩⟩
section
variable {P : Program} {w : World} {K : PySem.W.Frag} {mg : Str → Option Value} {base : Heap}
variable {cBeatError cBadRing cBadCount cNoBeat cUneven : Addr}
theorem ok_asked_ring (D : DefAt K mg "asked_ring" sAskedRing) (Y : Yz K mg cBeatError cBadRing cBadCount cNoBeat cUneven) (c_asked_row : CalX P w K mg base 3 "asked_row" (spAskedRowB K cBadRing) []) : CalX P w K mg base 4 "asked_ring" (spAskedRingB K cBadRing) [] := by
  refine calx_of D (fun _ _ _ _ _ _ us hl => match us, hl with | [_], _ => rfl) scAskedRing (fun vs H Q E h => ?_) (fun f cdv A outer s H vs Q E hr h => ?_)
  · obtain ⟨v, rfl, _⟩ := h
    rfl
  · obtain ⟨v, rfl, h⟩ := h
    refine ⟨_, (pss_cons (ps_expr (pe_cx (passD (L2N.takes_of rfl rfl rfl rfl)) c_asked_row hr (by decide) (by rfl) (pa_cons (pv 0) pa_nil)))
      (pss_one (ps_if (pt_cmpR op_eq (pv 0) pe_s0 (nomark _))
      (pss_one (ps_raiseE rfl (L2N.takes_of rfl rfl rfl rfl) Y.e_BadRing Y.m_BadRing (by rfl)))
      pss_nil))), ?_⟩
    rcases h with ⟨bs, rfl, ⟨h0, h1⟩, k⟩ | ⟨hb | rfl, kE⟩
    · refine q_drop (ev_call (ea_cons (ev_var rfl) ea_nil) (spv_asked_row (by walk_at "pre"))) fun H1 e1 => ?_
      exact s_when (et_test (ev_op (ev_var rfl) ev_c rv_eqS)) (fun hb => by
        exfalso
        have := of_decide_eq_true hb
        rw [this] at h0
        exact absurd h0 (Nat.lt_irrefl _)) (fun _ H2 e2 => k H2 (e1.trans e2))
    · exact q_dropC (ea_cons (ev_var rfl) ea_nil) fun H1 e1 => ⟨v, rfl, .inr ⟨hb.mono e1, fun H2 e2 => kE H2 (e1.trans e2)⟩⟩
    · refine q_drop (ev_call (ea_cons (ev_var rfl) ea_nil) (spv_asked_row (by walk_at "pre"))) fun H1 e1 => ?_
      exact s_when (et_test (ev_op (ev_var rfl) ev_c rv_eqS)) (fun _ H2 e2 => kE H2 (e1.trans e2)) (fun hb => by cases hb)
end
end Eb
namespace Eb
open PySem PySem.Spec PyProof.Rows L2 TL Evl
abbrev sTurned : Stmt := topS 16
theorem scTurned : FnScope ["ring", "by", "first"] ["ring", "by"] (defScope sTurned) := ⟨rfl, rfl, rfl, by decide +kernel, rfl, by decide +kernel, by decide +kernel⟩
def spTurnedB (K : PySem.W.Frag) (CR CC : Addr) : Sp := fun vs H Q E => ∃ v y, vs = [v, y] ∧ ((BadRingV K H v ∧ ∀ H2, Ex H H2 → E (.ref CR) none H2) ∨ ((∃ bs : List Bool, v = .str (enc bs) ∧ (0 < bs.length ∧ bs.length ≤ 1000)) ∧ NonNum K H y ∧ ∀ H2, Ex H H2 → E (.ref CC) none H2))
section
variable {P : Program} {w : World} {K : PySem.W.Frag} {mg : Str → Option Value} {base : Heap}
variable {cBeatError cBadRing cBadCount cNoBeat cUneven : Addr}
theorem ok_turned (D : DefAt K mg "turned" sTurned) (Y : Yz K mg cBeatError cBadRing cBadCount cNoBeat cUneven) (c_asked_ring : CalX P w K mg base 4 "asked_ring" (spAskedRingB K cBadRing) []) (c_is_number : C8.Cal P w K mg base 1 "is_number" (spIsNumber K) []) : CalX P w K mg base 5 "turned" (spTurnedB K cBadRing cBadCount) [] := by
  refine calx_of D (fun _ _ _ _ _ _ us hl => match us, hl with | [_, _], _ => rfl) scTurned (fun vs H Q E h => ?_) (fun f cdv A outer s H vs Q E hr h => ?_)
  · obtain ⟨v, y, rfl, _⟩ := h
    rfl
  · obtain ⟨v, y, rfl, h⟩ := h
    refine ⟨_, (pss_cons (ps_expr (pe_cx (passD (L2N.takes_of rfl rfl rfl rfl)) c_asked_ring hr (by decide) (by rfl) (pa_cons (pv 0) pa_nil)))
      (pss_cons (ps_if (pt_not (pt_val (C8.pe_c c_is_number hr (by decide) (by rfl) (pa_cons (pv 1) pa_nil))))
      (pss_one (ps_raiseE rfl (L2N.takes_of rfl rfl rfl rfl) Y.e_BadCount Y.m_BadCount (by rfl)))
      pss_nil)
      pss_never)), ?_⟩
    rcases h with ⟨hb, kE⟩ | ⟨⟨bs, rfl, h0, h1⟩, hn, kE⟩
    · exact q_dropC (ea_cons (ev_var rfl) ea_nil) fun H1 e1 => ⟨v, rfl, .inr ⟨hb.mono e1, fun H2 e2 => kE H2 (e1.trans e2)⟩⟩
    · refine q_drop (ev_call (ea_cons (ev_var rfl) ea_nil) (spv_asked_ring (by walk_at "pre"))) fun H1 e1 => ?_
      exact q_when (b := true) (et_not (et_test' (ev_call (ea_cons (ev_var rfl) ea_nil) (spv_nonnum (hn.mono e1))))) (fun _ H2 e2 => kE H2 (e1.trans e2)) (fun hb => by cases hb)
end
end Eb
/-! ### reckoned rows are even; even ones are reckoned -/
namespace Eb
theorem reck_count {b p s : Int} {n : Nat} (hp : 0 < p) (h0 : 0 ≤ b) (h1 : b ≤ p) (hn : (n : Int) = p) : cbt (reck b p s n) n = b := by
  rw [cbt_reck hp h0 h1 (Nat.le_refl n), hn]
  have e : s - b + p * b = s - b + p * b := rfl
  rw [Int.add_mul_ediv_left _ _ (by omega)]
  omega
theorem reck_cnt {b p s : Int} {n : Nat} (hp : 0 < p) (h0 : 0 ≤ b) (h1 : b ≤ p) (hn : (n : Int) = p) : (((reck b p s n).count true : Nat) : Int) = b := by
  have h := reck_count (s := s) hp h0 h1 hn
  rw [cbt_all (by rw [reck_len]; exact Nat.le_refl n)] at h
  exact h
theorem reck_ht {b p s : Int} {n : Nat} (hp : 0 < p) (h0 : 0 ≤ b) (h1 : b ≤ p) (hn : (n : Int) = p) {i : Nat} (hi : i < n) : hgt (reck b p s n) i = (s - b) - p * ((s - b) / p) - (s - b + (i : Int) * b) % p := by
  unfold hgt
  rw [reck_len, crn_low (by rw [reck_len]; omega), reck_count hp h0 h1 hn, cbt_reck hp h0 h1 (by omega), hn, Int.mul_sub]
  have := Int.emod_add_mul_ediv (s - b + (i : Int) * b) p
  omega
theorem reck_flat {b p s : Int} {n : Nat} (hp : 0 < p) (h0 : 0 ≤ b) (h1 : b ≤ p) (hn : (n : Int) = p) : Flat (reck b p s n) := by
  intro i j hi hj
  rw [reck_len] at hi hj ⊢
  rw [reck_ht hp h0 h1 hn hi, reck_ht hp h0 h1 hn hj]
  have a1 := Int.emod_nonneg (s - b + (i : Int) * b) (by omega : p ≠ 0)
  have a2 := Int.emod_lt_of_pos (s - b + (j : Int) * b) hp
  omega
theorem reck_mod {b p s t : Int} (n : Nat) (h : s % p = t % p) : reck b p s n = reck b p t n := by
  unfold reck
  refine List.map_congr_left fun i _ => ?_
  rw [Int.add_emod s, Int.add_emod t, h]
/-- heights of a row -/
theorem row_reck {bs : List Bool} {p b M : Int} (hp : 0 < p) (h0 : 0 ≤ b) (h1 : b ≤ p) (hu : ∀ i, i ≤ bs.length → p * cbt bs i - (i : Int) * b ≤ M) (hl : ∀ i, i ≤ bs.length → M - p < p * cbt bs i - (i : Int) * b) :
    bs = reck b p (M + b) bs.length := by
  apply List.ext_getElem?
  intro i
  by_cases hi : i < bs.length
  · rw [reck_get hi, List.getElem?_eq_getElem hi]
    congr 1
    have u0 := hu i (by omega)
    have l0 := hl i (by omega)
    have u1 := hu (i + 1) (by omega)
    have l1 := hl (i + 1) (by omega)
    rw [cbt_succ hi] at u1 l1
    rw [Int.natCast_succ, Int.add_mul, Int.mul_add] at u1 l1
    generalize hd : M - (p * cbt bs i - (i : Int) * b) = d at *
    have e : M + b + (i : Int) * b = (d + b) + p * cbt bs i := by omega
    rw [e, Int.add_mul_emod_self_left]
    cases hb : bs[i] with
    | true =>
      rw [hb] at u1 l1
      simp only [if_true] at u1 l1
      have e2 : (d + b) % p = d + b - p := by
        rw [← Int.sub_emod_right, Int.emod_eq_of_lt (by omega) (by omega)]
      rw [e2]
      exact (decide_eq_true (by omega)).symm
    | false =>
      rw [hb] at u1 l1
      simp at u1 l1
      have e2 : (d + b) % p = d + b := Int.emod_eq_of_lt (by omega) (by omega)
      rw [e2]
      exact (decide_eq_false (by omega)).symm
  · rw [List.getElem?_eq_none (by omega), List.getElem?_eq_none (by rw [reck_len]; omega)]
theorem cbt_le (bs : List Bool) (i : Nat) : 0 ≤ cbt bs i ∧ cbt bs i ≤ i := by
  unfold cbt
  have h1 := List.count_le_length (a := true) (l := bs.take i)
  rw [List.length_take] at h1
  omega
theorem cnt_le (bs : List Bool) : bs.count true ≤ bs.length := List.count_le_length
/-- the greatest of the heights -/
theorem top_at (f : Nat → Int) : ∀ n, ∃ q, q ≤ n ∧ ∀ i, i ≤ n → f i ≤ f q
  | 0 => ⟨0, Nat.le_refl _, fun i hi => by
    have : i = 0 := by omega
    rw [this]
    exact Int.le_refl _⟩
  | n + 1 => by
    obtain ⟨q, hq, h⟩ := top_at f n
    by_cases c : f q ≤ f (n + 1)
    · refine ⟨n + 1, Nat.le_refl _, fun i hi => ?_⟩
      by_cases hi2 : i ≤ n
      · exact Int.le_trans (h i hi2) c
      · have : i = n + 1 := by omega
        rw [this]
        exact Int.le_refl _
    · refine ⟨q, by omega, fun i hi => ?_⟩
      by_cases hi2 : i ≤ n
      · exact h i hi2
      · have : i = n + 1 := by omega
        rw [this]
        omega
theorem hgt_low {bs : List Bool} {i : Nat} (h : i ≤ bs.length) : hgt bs i = (bs.length : Int) * cbt bs i - (i : Int) * ((bs.count true : Nat) : Int) := by
  unfold hgt
  rw [crn_low h, cbt_all (Nat.le_refl _)]
/-- an even ring is reckoned from a turn on -/
theorem flat_turn {bs : List Bool} (hn : 0 < bs.length) (h : Flat bs) : ∃ t : Nat, t < bs.length ∧ bs = reck (bs.count true : Nat) bs.length ((t : Int) * (bs.count true : Nat)) bs.length := by
  obtain ⟨q, hq, hmax⟩ := top_at (hgt bs) (bs.length - 1)
  have hfl : ∀ i, i ≤ bs.length → hgt bs i ≤ hgt bs q ∧ hgt bs q - bs.length < hgt bs i := fun i hi => by
    by_cases c : i < bs.length
    · have h1 := hmax i (by omega)
      have h2 := h q i (by omega) c
      omega
    · have e : i = bs.length + 0 := by omega
      rw [e, hgt_wrap (Nat.zero_le _)]
      have h1 := hmax 0 (Nat.zero_le _)
      have h2 := h q 0 (by omega) hn
      omega
  have r := row_reck (bs := bs) (p := bs.length) (b := (bs.count true : Nat)) (M := hgt bs q) (by omega) (by omega) (by have := cnt_le bs; omega)
    (fun i hi => by
      rw [← hgt_low hi]
      exact (hfl i hi).1)
    (fun i hi => by
      rw [← hgt_low hi]
      exact (hfl i hi).2)
  refine ⟨((1 - (q : Int)) % (bs.length : Int)).toNat, ?_, ?_⟩
  · have := Int.emod_lt_of_pos (1 - (q : Int)) (by omega : (0 : Int) < bs.length)
    omega
  · refine r.trans (reck_mod _ ?_)
    have nn := Int.emod_nonneg (1 - (q : Int)) (by omega : (bs.length : Int) ≠ 0)
    rw [Int.toNat_of_nonneg nn, hgt_low (by omega), Int.mul_emod ((1 - (q : Int)) % _), Int.emod_emod, ← Int.mul_emod]
    have e : (bs.length : Int) * cbt bs q - (q : Int) * ((bs.count true : Nat) : Int) + ((bs.count true : Nat) : Int) = (1 - (q : Int)) * ((bs.count true : Nat) : Int) + (bs.length : Int) * cbt bs q := by
      rw [Int.sub_mul]
      omega
    rw [e, Int.add_mul_emod_self_left]
theorem turn_flat {bs : List Bool} {s : Int} (hn : 0 < bs.length) (h : bs = reck (bs.count true : Nat) bs.length s bs.length) : Flat bs := by
  rw [h]
  exact reck_flat (by omega) (by omega) (by have := cnt_le bs; omega) rfl
theorem reck_drop (b p s : Int) (k n : Nat) : (reck b p s (k + n)).drop k = reck b p (s + (k : Int) * b) n := by
  apply List.ext_getElem?
  intro i
  rw [List.getElem?_drop]
  by_cases hi : i < n
  · rw [reck_get (by omega), reck_get hi]
    congr 2
    rw [show s + ((k + i : Nat) : Int) * b = s + (k : Int) * b + (i : Int) * b by
      rw [Int.natCast_add, Int.add_mul]
      omega]
  · rw [List.getElem?_eq_none (by rw [reck_len]; omega), List.getElem?_eq_none (by rw [reck_len]; omega)]
theorem reck_app (b p s : Int) (k n : Nat) : reck b p s (k + n) = reck b p s k ++ reck b p (s + (k : Int) * b) n := by
  rw [← reck_drop, ← reck_take (by omega : k ≤ k + n), List.take_append_drop]
theorem reck_twice {b p : Int} {n : Nat} (hn : (n : Int) = p) : reck b p 0 n ++ reck b p 0 n = reck b p 0 (n + n) := by
  rw [reck_app]
  congr 1
  refine reck_mod _ ?_
  rw [Int.zero_add, hn, Int.mul_emod_right]
  rfl
/-- the ring of so many places from one on, in the ring told twice -/
theorem reck_part {b p : Int} {n k : Nat} (hn : (n : Int) = p) (hk : k ≤ n) : ((reck b p 0 n ++ reck b p 0 n).drop k).take n = reck b p ((k : Int) * b) n := by
  rw [reck_twice hn, show n + n = k + (n + n - k) by omega, reck_drop, reck_take (by omega), Int.zero_add]
end Eb
/-! ### the sums of a row; evenness as the law asks it -/
namespace Eb
open L2
theorem sums_get {bs : List Bool} {k : Nat} (h : k ≤ bs.length) : (sums bs).getD k 0 = cbt bs k := by
  unfold sums
  rw [List.getD_eq_getElem?_getD, List.getElem?_map, List.getElem?_range (by omega)]
  rfl
def cnts (bs : List Bool) (m : Nat) : List Int := (List.range bs.length).map fun i => stc bs i m
theorem cnts_len (bs : List Bool) (m : Nat) : (cnts bs m).length = bs.length := by
  unfold cnts
  rw [List.length_map, List.length_range]
theorem cnts_get {bs : List Bool} {m i : Nat} (h : i < bs.length) : (cnts bs m).getD i 0 = stc bs i m := by
  unfold cnts
  rw [List.getD_eq_getElem?_getD, List.getElem?_map, List.getElem?_range h]
  rfl
theorem cnts_mem {bs : List Bool} {m i : Nat} (h : i < bs.length) : stc bs i m ∈ cnts bs m := List.mem_map.mpr ⟨i, List.mem_range.mpr h, rfl⟩
theorem mem_cnts {bs : List Bool} {m : Nat} {z : Int} (h : z ∈ cnts bs m) : ∃ i, i < bs.length ∧ stc bs i m = z := by
  obtain ⟨i, hi, e⟩ := List.mem_map.mp h
  exact ⟨i, List.mem_range.mp hi, e⟩
def okW (bs : List Bool) (m : Nat) : Bool := decide (mx (cnts bs m) ≤ mn (cnts bs m) + 1)
theorem okW_iff {bs : List Bool} {m : Nat} (hn : 0 < bs.length) : okW bs m = true ↔ ∀ i j, i < bs.length → j < bs.length → stc bs i m ≤ stc bs j m + 1 := by
  have hl : 0 < (cnts bs m).length := by
    rw [cnts_len]
    exact hn
  obtain ⟨a1, a2⟩ := mx_mem hl
  obtain ⟨b1, b2⟩ := mn_mem hl
  unfold okW
  rw [decide_eq_true_eq]
  constructor
  · intro h i j hi hj
    have h1 := a2 _ (cnts_mem (m := m) hi)
    have h2 := b2 _ (cnts_mem (m := m) hj)
    omega
  · intro h
    obtain ⟨i, hi, e1⟩ := mem_cnts a1
    obtain ⟨j, hj, e2⟩ := mem_cnts b1
    have := h i j hi hj
    omega
def isEv (bs : List Bool) : Bool := (List.range (bs.length - 1)).all fun k => okW bs (k + 1)
theorem isEv_iff {bs : List Bool} (hn : 0 < bs.length) : isEv bs = true ↔ EvenR bs := by
  unfold isEv EvenR
  rw [List.all_eq_true]
  constructor
  · intro h m i j hm hi hj
    cases m with
    | zero =>
      unfold stc
      rw [Nat.add_zero, Nat.add_zero]
      omega
    | succ m =>
      exact (okW_iff hn).mp (h m (List.mem_range.mpr (by omega))) i j hi hj
  · intro h k hk
    have hk2 := List.mem_range.mp hk
    exact (okW_iff hn).mpr fun i j hi hj => h (k + 1) i j (by omega) hi hj
theorem isEv_flat {bs : List Bool} (hn : 0 < bs.length) : isEv bs = true ↔ Flat bs := (isEv_iff hn).trans even_iff
/-- the counts as they are reckoned from the sums of the ring told twice -/
theorem cnts_eq {bs : List Bool} {m : Int} (h0 : 0 ≤ m) (h1 : m ≤ bs.length) : ((List.range ((bs.length : Nat) : Int).toNat).map fun (i : Nat) => V.int ((sums (bs ++ bs)).getD ((i : Int) + m).toNat 0 - (sums (bs ++ bs)).getD ((i : Int)).toNat 0)) = (cnts bs m.toNat).map V.int := by
  unfold cnts
  rw [List.map_map, Int.toNat_natCast]
  refine List.map_congr_left fun i hi => ?_
  have hi2 := List.mem_range.mp hi
  show V.int _ = V.int _
  rw [sums_get (by rw [List.length_append]; omega), sums_get (by rw [List.length_append]; omega)]
  have e1 : ((i : Int) + m).toNat = i + m.toNat := by omega
  rw [e1, Int.toNat_natCast]
  rfl
end Eb
/-! ### stretches counted; the heights as a list; places of the least and the greatest -/
namespace Eb
open L2
theorem cut_count {l : List Bool} {f m : Int} (h0 : 0 ≤ f) (h1 : 0 ≤ m) : (((cutL l (some f) (some (f + m))).count true : Nat) : Int) = cbt l (f + m).toNat - cbt l f.toNat := by
  obtain ⟨a, rfl⟩ := Int.eq_ofNat_of_zero_le h0
  obtain ⟨b, rfl⟩ := Int.eq_ofNat_of_zero_le h1
  have e : ((a : Int) + (b : Int)) = ((a + b : Nat) : Int) := by omega
  rw [e, cutL_mid, Int.toNat_natCast, Int.toNat_natCast]
  unfold cbt
  have e2 : a + b - a = b := by omega
  rw [e2, ← List.take_append_drop a (l.take (a + b)), List.count_append, List.take_take, List.drop_take, Nat.min_eq_left (by omega), e2]
  omega
theorem crn_succ {bs : List Bool} {k : Nat} (h : k < 2 * bs.length) : crn bs (k + 1) = crn bs k + (if bs.getD (k % bs.length) false then 1 else 0) := by
  unfold crn
  have hl : k < (bs ++ bs).length := by
    rw [List.length_append]
    omega
  rw [cbt_succ hl]
  congr 2
  have e : (bs ++ bs)[k] = bs.getD (k % bs.length) false := by
    rw [List.getD_eq_getElem?_getD]
    by_cases c : k < bs.length
    · rw [List.getElem_append_left c, Nat.mod_eq_of_lt c, List.getElem?_eq_getElem c]
      rfl
    · rw [List.getElem_append_right (by omega)]
      have e2 : k % bs.length = k - bs.length := by
        rw [Nat.mod_eq_sub_mod (by omega), Nat.mod_eq_of_lt (by omega)]
      rw [e2, List.getElem?_eq_getElem (by omega)]
      rfl
  rw [e]
/-- a stretch of a ring, walked around it -/
theorem cyc_count {bs : List Bool} {f : Nat} (hf : f < bs.length) : ∀ {m : Nat}, m ≤ bs.length → ((((List.range m).map fun i => bs.getD ((f + i) % bs.length) false).count true : Nat) : Int) = stc bs f m
  | 0, _ => by
    unfold stc
    simp
  | m + 1, h => by
    have ih := cyc_count hf (by omega : m ≤ bs.length)
    have s := crn_succ (bs := bs) (k := f + m) (by omega)
    unfold stc at ih ⊢
    rw [List.range_succ, List.map_append, List.count_append, List.map_singleton]
    rw [show f + (m + 1) = f + m + 1 by omega]
    generalize bs.getD ((f + m) % bs.length) false = b at s ⊢
    generalize (List.range m).map (fun i => bs.getD ((f + i) % bs.length) false) = l at ih ⊢
    cases b
    · rw [if_neg Bool.false_ne_true] at s
      have e : ([false] : List Bool).count true = 0 := rfl
      rw [e]
      omega
    · rw [if_pos rfl] at s
      have e : ([true] : List Bool).count true = 1 := rfl
      rw [e]
      omega
theorem nat_mod (a b n : Nat) : (((a : Int) + (b : Int)) % (n : Int)).toNat = (a + b) % n := by
  rw [← Int.natCast_add, ← Int.natCast_emod, Int.toNat_natCast]
/-- the signs of a stretch, as they are walked -/
theorem walk_eq (bs : List Bool) (f : Nat) (m : Int) : ((List.range m.toNat).map fun (i : Nat) => V.str (enc [bs.getD (((f : Int) + (i : Int)) % (bs.length : Int)).toNat false])) = ((List.range m.toNat).map fun (i : Nat) => bs.getD ((f + i) % bs.length) false).map fun b => V.str (enc [b]) := by
  rw [List.map_map]
  refine List.map_congr_left fun i _ => ?_
  show V.str _ = V.str _
  rw [nat_mod]
/-! the heights as they are reckoned -/
def hts (bs : List Bool) : List Int := (List.range bs.length).map fun i => hgt bs i
theorem hts_len (bs : List Bool) : (hts bs).length = bs.length := by
  unfold hts
  rw [List.length_map, List.length_range]
theorem hts_get {bs : List Bool} {i : Nat} (h : i < bs.length) : (hts bs)[i]? = some (hgt bs i) := by
  unfold hts
  rw [List.getElem?_map, List.getElem?_range h]
  rfl
theorem hts_eq (bs : List Bool) : ((List.range ((bs.length : Nat) : Int).toNat).map fun (i : Nat) => V.int ((sums bs).getD ((i : Int)).toNat 0 * ((bs.length : Nat) : Int) - (i : Int) * ((bs.count true : Nat) : Int))) = (hts bs).map V.int := by
  unfold hts
  rw [List.map_map, Int.toNat_natCast]
  refine List.map_congr_left fun i hi => ?_
  have hi2 := List.mem_range.mp hi
  show V.int _ = V.int (hgt bs i)
  rw [Int.toNat_natCast, sums_get (by omega), hgt_low (by omega), Int.mul_comm]
/-! first places -/
theorem idx_mem {ns : List Int} {k : Int} (h : k ∈ ns) : ns.idxOf k < ns.length ∧ ns[ns.idxOf k]? = some k := by
  have h1 := List.idxOf_lt_length_iff.mpr h
  refine ⟨h1, ?_⟩
  rw [List.getElem?_eq_getElem h1, List.getElem_idxOf h1]
theorem idx_first {ns : List Int} {k : Int} {m : Nat} {z : Int} (hm : m < ns.idxOf k) (hz : ns[m]? = some z) : z ≠ k := by
  intro e
  subst e
  obtain ⟨h1, h2⟩ := List.getElem?_eq_some_iff.mp hz
  have := List.not_of_lt_findIdx hm
  rw [h2] at this
  simp at this
/-- what apart tells -/
theorem apart_right {bs : List Bool} (hn : 0 < bs.length) (h : ¬ Flat bs) (f s : Nat) (m : Int)
    (em : m = (((hts bs).idxOf (mx (hts bs)) : Int) - ((hts bs).idxOf (mn (hts bs)) : Int)) % (bs.length : Int))
    (ef : f = (cnts bs m.toNat).idxOf (mx (cnts bs m.toNat))) (es : s = (cnts bs m.toNat).idxOf (mn (cnts bs m.toNat))) :
    f < bs.length ∧ s < bs.length ∧ 0 ≤ m ∧ m < bs.length ∧ stc bs s m.toNat + 2 ≤ stc bs f m.toNat := by
  have hl : 0 < (hts bs).length := by
    rw [hts_len]
    exact hn
  obtain ⟨a1, a2⟩ := mx_mem hl
  obtain ⟨b1, b2⟩ := mn_mem hl
  obtain ⟨p1, p2⟩ := idx_mem a1
  obtain ⟨q1, q2⟩ := idx_mem b1
  generalize (hts bs).idxOf (mx (hts bs)) = p at *
  generalize (hts bs).idxOf (mn (hts bs)) = q at *
  rw [hts_len] at p1 q1
  rw [hts_get p1] at p2
  rw [hts_get q1] at q2
  have e1 := Option.some.inj p2
  have e2 := Option.some.inj q2
  have hbig : (bs.length : Int) ≤ hgt bs p - hgt bs q := by
    refine Classical.byContradiction fun hc => h fun i j hi hj => ?_
    have h1 := a2 _ (List.mem_of_getElem? (hts_get hi))
    have h2 := b2 _ (List.mem_of_getElem? (hts_get hj))
    omega
  obtain ⟨m', em', m0, m1, hm⟩ := apart_more p1 q1 hbig
  have e3 : m.toNat = m' := by
    rw [em, em']
  have m2 := Int.emod_nonneg ((p : Int) - (q : Int)) (by omega : (bs.length : Int) ≠ 0)
  have m3 := Int.emod_lt_of_pos ((p : Int) - (q : Int)) (by omega : (0 : Int) < bs.length)
  rw [← em] at m2 m3
  rw [e3] at ef es ⊢
  obtain ⟨j, hj, hj2⟩ := more_apart q1 m1 hm
  have hcl : 0 < (cnts bs m').length := by
    rw [cnts_len]
    exact hn
  obtain ⟨c1, c2⟩ := mx_mem hcl
  obtain ⟨d1, d2⟩ := mn_mem hcl
  obtain ⟨r1, r2⟩ := idx_mem c1
  obtain ⟨t1, t2⟩ := idx_mem d1
  rw [← ef] at r1 r2
  rw [← es] at t1 t2
  rw [cnts_len] at r1 t1
  have g1 : stc bs f m' = mx (cnts bs m') := by
    rw [← cnts_get r1, List.getD_eq_getElem?_getD, r2]
    rfl
  have g2 : stc bs s m' = mn (cnts bs m') := by
    rw [← cnts_get t1, List.getD_eq_getElem?_getD, t2]
    rfl
  have h1 := c2 _ (cnts_mem (m := m') q1)
  have h2 := d2 _ (cnts_mem (m := m') hj)
  exact ⟨r1, t1, m2, m3, by omega⟩
end Eb
/-! ### even rings, turned, told backwards, exchanged -/
namespace Eb
def flip (bs : List Bool) : List Bool := bs.map not
theorem flip_flip (bs : List Bool) : flip (flip bs) = bs := by
  unfold flip
  rw [List.map_map]
  have : (not ∘ not) = id := by
    funext b
    cases b <;> rfl
  rw [this, List.map_id]
theorem cnt_flip : ∀ bs : List Bool, ((bs.map not).count true : Int) = bs.length - bs.count true
  | [] => rfl
  | true :: r => by
    have ih := cnt_flip r
    rw [List.map_cons, List.count_cons, List.count_cons, List.length_cons]
    simp
    omega
  | false :: r => by
    have ih := cnt_flip r
    rw [List.map_cons, List.count_cons, List.count_cons, List.length_cons]
    simp
    omega
theorem cbt_flip (bs : List Bool) {i : Nat} (h : i ≤ bs.length) : cbt (flip bs) i = i - cbt bs i := by
  unfold cbt flip
  rw [← List.map_take, cnt_flip, List.length_take, Nat.min_eq_left h]
theorem hgt_flip (bs : List Bool) {i : Nat} (h : i ≤ bs.length) : hgt (flip bs) i = - hgt bs i := by
  have hl : (flip bs).length = bs.length := by
    unfold flip
    rw [List.length_map]
  rw [hgt_low (by omega), hgt_low h, hl, cbt_flip bs h]
  unfold flip
  rw [cnt_flip]
  grind
theorem flat_flip {bs : List Bool} (h : Flat bs) : Flat (flip bs) := by
  have hl : (flip bs).length = bs.length := by
    unfold flip
    rw [List.length_map]
  intro i j hi hj
  rw [hl] at hi hj ⊢
  rw [hgt_flip bs (by omega), hgt_flip bs (by omega)]
  have := h j i hj hi
  omega
theorem flat_flip_iff (bs : List Bool) : Flat (flip bs) ↔ Flat bs := ⟨fun h => by
  have := flat_flip h
  rw [flip_flip] at this
  exact this, flat_flip⟩
theorem cbt_rev (bs : List Bool) {i : Nat} (h : i ≤ bs.length) : cbt bs.reverse i = ((bs.count true : Nat) : Int) - cbt bs (bs.length - i) := by
  unfold cbt
  rw [List.take_reverse, List.count_reverse]
  have e := List.take_append_drop (bs.length - i) bs
  have e2 := congrArg (List.count true) e
  rw [List.count_append] at e2
  omega
theorem hgt_full (bs : List Bool) : hgt bs bs.length = hgt bs 0 := by
  have := hgt_wrap (bs := bs) (j := 0) (Nat.zero_le _)
  rw [Nat.add_zero] at this
  exact this
theorem flat_rev {bs : List Bool} (h : Flat bs) : Flat bs.reverse := by
  have hh : ∀ i, i < bs.length → ∃ k, k < bs.length ∧ hgt bs.reverse i = - hgt bs k := fun i hi => by
    have e : hgt bs.reverse i = - hgt bs (bs.length - i) := by
      rw [hgt_low (by rw [List.length_reverse]; omega), hgt_low (by omega), List.length_reverse, List.count_reverse, cbt_rev bs (by omega)]
      have e2 : ((bs.length - i : Nat) : Int) = bs.length - i := by omega
      rw [e2]
      grind
    cases i with
    | zero =>
      refine ⟨0, hi, ?_⟩
      rw [e, Nat.sub_zero, hgt_full]
    | succ i => exact ⟨bs.length - (i + 1), by omega, e⟩
  intro i j hi hj
  rw [List.length_reverse] at hi hj ⊢
  obtain ⟨a, ha, e1⟩ := hh i hi
  obtain ⟨b, hb, e2⟩ := hh j hj
  rw [e1, e2]
  have := h b a hb ha
  omega
theorem flat_rev_iff (bs : List Bool) : Flat bs.reverse ↔ Flat bs := ⟨fun h => by
  have := flat_rev h
  rw [List.reverse_reverse] at this
  exact this, flat_rev⟩
def rot (bs : List Bool) (k : Nat) : List Bool := bs.drop k ++ bs.take k
theorem rot_len {bs : List Bool} {k : Nat} (h : k ≤ bs.length) : (rot bs k).length = bs.length := by
  unfold rot
  rw [List.length_append, List.length_drop, List.length_take]
  omega
theorem rot_cbt {bs : List Bool} {k i : Nat} (h : k ≤ bs.length) (hi : i ≤ bs.length) : cbt (rot bs k) i = crn bs (k + i) - crn bs k := by
  have e : (rot bs k).take i = ((bs ++ bs).drop k).take i := by
    unfold rot
    rw [List.drop_append_of_le_length h, List.take_append, List.take_append, List.take_take]
    rw [List.length_drop, Nat.min_eq_left (by omega)]
  unfold cbt crn cbt
  rw [e]
  have e2 := List.take_append_drop k ((bs ++ bs).take (k + i))
  have e3 := congrArg (List.count true) e2
  rw [List.count_append, List.take_take, List.drop_take, Nat.min_eq_left (by omega), Nat.add_sub_cancel_left] at e3
  omega
theorem rot_cnt {bs : List Bool} {k : Nat} (h : k ≤ bs.length) : (rot bs k).count true = bs.count true := by
  unfold rot
  rw [List.count_append]
  have e := congrArg (List.count true) (List.take_append_drop k bs)
  rw [List.count_append] at e
  omega
theorem rot_hgt {bs : List Bool} {k i : Nat} (h : k ≤ bs.length) (hi : i ≤ bs.length) : hgt (rot bs k) i = hgt bs (k + i) - hgt bs k := by
  rw [hgt_low (by rw [rot_len h]; exact hi), rot_len h, rot_cbt h hi, rot_cnt h]
  unfold hgt
  rw [cbt_all (Nat.le_refl _)]
  have e : ((k + i : Nat) : Int) = k + i := by omega
  rw [e]
  grind
theorem flat_rot {bs : List Bool} {k : Nat} (h : k ≤ bs.length) (hf : Flat bs) : Flat (rot bs k) := by
  intro i j hi hj
  rw [rot_len h] at hi hj ⊢
  rw [rot_hgt h (by omega), rot_hgt h (by omega)]
  have e : ∀ x, x < bs.length → ∃ y, y < bs.length ∧ hgt bs (k + x) = hgt bs y := fun x hx => by
    rcases Nat.lt_or_ge (k + x) (2 * bs.length) with c | c
    · exact ⟨(k + x) % bs.length, Nat.mod_lt _ (by omega), hgt_mod c⟩
    · omega
  obtain ⟨a, ha, e1⟩ := e i hi
  obtain ⟨b, hb, e2⟩ := e j hj
  rw [e1, e2]
  have := hf a b ha hb
  omega
theorem rot_rot {bs : List Bool} {k : Nat} (h : k ≤ bs.length) : rot (rot bs k) (bs.length - k) = bs := by
  have hl : (bs.drop k).length = bs.length - k := List.length_drop
  unfold rot
  rw [← hl, List.drop_left, List.take_left, List.take_append_drop]
theorem flat_rot_iff {bs : List Bool} {k : Nat} (h : k ≤ bs.length) : Flat (rot bs k) ↔ Flat bs := ⟨fun hf => by
  have := flat_rot (bs := rot bs k) (k := bs.length - k) (by rw [rot_len h]; omega) hf
  rw [rot_rot h] at this
  exact this, flat_rot h⟩
/-- place by place -/
theorem rot_eq {bs : List Bool} (hn : 0 < bs.length) (y : Int) : rot bs (y % (bs.length : Int)).toNat = (List.range bs.length).map fun (i : Nat) => bs.getD (((i : Int) + y) % (bs.length : Int)).toNat false := by
  have y0 := Int.emod_nonneg y (by omega : (bs.length : Int) ≠ 0)
  have y1 := Int.emod_lt_of_pos y (by omega : (0 : Int) < bs.length)
  obtain ⟨k, hk⟩ := Int.eq_ofNat_of_zero_le y0
  have hk2 : (y % (bs.length : Int)).toNat = k := by omega
  rw [hk2]
  apply List.ext_getElem?
  intro i
  by_cases hi : i < bs.length
  · rw [List.getElem?_map, List.getElem?_range hi]
    have e : (((i : Int) + y) % (bs.length : Int)).toNat = (i + k) % bs.length := by
      rw [← Int.add_emod_emod, hk, nat_mod]
    show _ = some (bs.getD (((i : Int) + y) % (bs.length : Int)).toNat false)
    rw [e]
    unfold rot
    rw [List.getElem?_append, List.length_drop]
    split
    · rename_i c
      rw [List.getElem?_drop, Nat.mod_eq_of_lt (by omega), List.getD_eq_getElem?_getD, List.getElem?_eq_getElem (by omega), List.getElem?_eq_getElem (by omega)]
      show some _ = some _
      congr 1
      congr 1
      omega
    · rename_i c
      rw [Nat.mod_eq_sub_mod (by omega), Nat.mod_eq_of_lt (by omega), List.getElem?_take, if_pos (by omega), List.getD_eq_getElem?_getD, List.getElem?_eq_getElem (by omega), List.getElem?_eq_getElem (by omega)]
      show some _ = some _
      congr 1
      congr 1
      omega
  · rw [List.getElem?_eq_none (by rw [rot_len (by omega)]; omega), List.getElem?_eq_none (by rw [List.length_map, List.length_range]; omega)]
/-- turned further it comes back -/
theorem rot_back {bs : List Bool} (hn : 0 < bs.length) (y : Int) : rot (rot bs (y % (bs.length : Int)).toNat) (-y % (bs.length : Int)).toNat = bs := by
  have y0 := Int.emod_nonneg y (by omega : (bs.length : Int) ≠ 0)
  have y1 := Int.emod_lt_of_pos y (by omega : (0 : Int) < bs.length)
  have e : -y % (bs.length : Int) = -(y % (bs.length : Int)) % (bs.length : Int) := by
    have q : -y = -(y % (bs.length : Int)) + (bs.length : Int) * (-(y / (bs.length : Int))) := by
      have := Int.emod_add_mul_ediv y (bs.length : Int)
      rw [Int.mul_neg]
      omega
    conv => lhs; rw [q]
    rw [Int.add_mul_emod_self_left]
  by_cases c : y % (bs.length : Int) = 0
  · rw [e, c]
    have e2 : (-(0 : Int) % (bs.length : Int)).toNat = 0 := by simp
    rw [e2]
    simp [rot]
  · have e2 : -(y % (bs.length : Int)) % (bs.length : Int) = bs.length - y % (bs.length : Int) := by
      rw [← Int.add_emod_right, Int.emod_eq_of_lt (by omega) (by omega)]
      omega
    have e3 : (-y % (bs.length : Int)).toNat = bs.length - (y % (bs.length : Int)).toNat := by
      rw [e, e2]
      omega
    rw [e3]
    exact rot_rot (by omega)
end Eb
/-! ### gaps, by blocks: a beat and rests -/
namespace Eb
open PySem PySem.Spec PyProof.Rows L2 TL Evl Builtin Builtin.Str
def rblk (g : Nat) : List Bool := true :: List.replicate (g - 1) false
def rw_ (gs : List Nat) : List Bool := (gs.map rblk).flatten
def posf (o : Nat) : List Bool → List Int
  | [] => []
  | true :: t => (o : Int) :: posf (o + 1) t
  | false :: t => posf (o + 1) t
def bpi (bs : List Bool) : List Int := posf 0 bs
def gps (bs : List Bool) : List Int := (List.range (bpi bs).length).map fun i => ((bpi bs).getD ((i + 1) % (bpi bs).length) 0 - (bpi bs).getD i 0 - 1) % (bs.length : Int) + 1
theorem posf_range : ∀ (bs : List Bool) (o : Nat), ((List.range bs.length).filter fun i => bs.getD i false).map (fun i => ((i + o : Nat) : Int)) = posf o bs
  | [], _ => rfl
  | b :: t, o => by
    have ih := posf_range t (o + 1)
    rw [List.length_cons, List.range_succ_eq_map, List.filter_cons, List.filter_map]
    have e1 : ((fun i => (b :: t).getD i false) ∘ Nat.succ) = fun i => t.getD i false := by
      funext i
      simp [List.getD]
    rw [e1]
    have e2 : ∀ l : List Nat, (l.map Nat.succ).map (fun i => ((i + o : Nat) : Int)) = l.map fun i => ((i + (o + 1) : Nat) : Int) := fun l => by
      rw [List.map_map]
      refine List.map_congr_left fun i _ => ?_
      show ((Nat.succ i + o : Nat) : Int) = _
      omega
    cases b
    · have e3 : ((false :: t).getD 0 false) = false := rfl
      rw [e3, if_neg Bool.false_ne_true, e2, ih]
      rfl
    · have e3 : ((true :: t).getD 0 false) = true := rfl
      rw [e3, if_pos rfl, List.map_cons, e2, ih]
      show _ = ((o : Nat) : Int) :: _
      congr 1
      omega
theorem posf_rest : ∀ (k o : Nat) (l : List Bool), posf o (List.replicate k false ++ l) = posf (o + k) l
  | 0, _, _ => rfl
  | k + 1, o, l => by
    rw [List.replicate_succ, List.cons_append]
    show posf (o + 1) _ = _
    rw [posf_rest k (o + 1) l]
    congr 1
    omega
def pst (o : Nat) : List Nat → List Int
  | [] => []
  | g :: t => (o : Int) :: pst (o + g) t
theorem posf_rw : ∀ (gs : List Nat) (o : Nat), (∀ g ∈ gs, 1 ≤ g) → posf o (rw_ gs) = pst o gs
  | [], _, _ => rfl
  | g :: t, o, h => by
    have h1 := h g List.mem_cons_self
    have e : rw_ (g :: t) = true :: (List.replicate (g - 1) false ++ rw_ t) := rfl
    rw [e]
    show (o : Int) :: posf (o + 1) _ = (o : Int) :: pst (o + g) t
    rw [posf_rest, posf_rw t _ fun x hx => h x (List.mem_cons_of_mem _ hx)]
    congr 2
    omega
theorem pst_len : ∀ (gs : List Nat) (o : Nat), (pst o gs).length = gs.length
  | [], _ => rfl
  | g :: t, o => by
    show (pst (o + g) t).length + 1 = t.length + 1
    rw [pst_len]
theorem pst_get : ∀ (gs : List Nat) (o i : Nat), i < gs.length → (pst o gs).getD i 0 = (o : Int) + ((gs.take i).sum : Nat)
  | [], _, _, h => absurd h (Nat.not_lt_zero _)
  | g :: t, o, 0, _ => by simp [pst]
  | g :: t, o, i + 1, h => by
    show (pst (o + g) t).getD i 0 = _
    rw [pst_get t (o + g) i (by simpa using h), List.take_succ_cons, List.sum_cons]
    omega
theorem rw_len : ∀ gs : List Nat, (∀ g ∈ gs, 1 ≤ g) → (rw_ gs).length = gs.sum
  | [], _ => rfl
  | g :: t, h => by
    have h1 := h g List.mem_cons_self
    have e : rw_ (g :: t) = true :: (List.replicate (g - 1) false ++ rw_ t) := rfl
    rw [e, List.length_cons, List.length_append, List.length_replicate, rw_len t fun x hx => h x (List.mem_cons_of_mem _ hx), List.sum_cons]
    omega
/-- every row: rests, then blocks -/
theorem par : ∀ bs : List Bool, ∃ (k : Nat) (gs : List Nat), (∀ g ∈ gs, 1 ≤ g) ∧ bs = List.replicate k false ++ rw_ gs
  | [] => ⟨0, [], by simp, rfl⟩
  | false :: t => by
    obtain ⟨k, gs, h, e⟩ := par t
    exact ⟨k + 1, gs, h, by rw [List.replicate_succ, List.cons_append, ← e]⟩
  | true :: t => by
    obtain ⟨k, gs, h, e⟩ := par t
    refine ⟨0, (k + 1) :: gs, ?_, ?_⟩
    · intro g hg
      rcases List.mem_cons.mp hg with rfl | hg
      · omega
      · exact h g hg
    · have e2 : rw_ ((k + 1) :: gs) = true :: (List.replicate k false ++ rw_ gs) := rfl
      rw [e2, ← e]
      rfl
/-- the last gap with the rests ahead -/
def gaf (k : Nat) : List Nat → List Nat
  | [] => []
  | [g] => [g + k]
  | g :: h :: t => g :: gaf k (h :: t)
theorem gaf_len (k : Nat) : ∀ gs : List Nat, (gaf k gs).length = gs.length
  | [] => rfl
  | [g] => rfl
  | g :: h :: t => by
    show (gaf k (h :: t)).length + 1 = _
    rw [gaf_len k (h :: t)]
    rfl
theorem gaf_pos {k : Nat} : ∀ gs : List Nat, (∀ g ∈ gs, 1 ≤ g) → ∀ g ∈ gaf k gs, 1 ≤ g
  | [], _ => fun g hg => by cases hg
  | [a], h => fun g hg => by
    have := h a List.mem_cons_self
    have e : g = a + k := by simpa [gaf] using hg
    omega
  | a :: b :: t, h => fun g hg => by
    have e : g ∈ a :: gaf k (b :: t) := hg
    rcases List.mem_cons.mp e with rfl | e
    · exact h g List.mem_cons_self
    · exact gaf_pos (b :: t) (fun x hx => h x (List.mem_cons_of_mem _ hx)) g e
theorem gaf_get (k : Nat) : ∀ (gs : List Nat) (i : Nat), i < gs.length → (gaf k gs)[i]? = some (gs.getD i 0 + if i + 1 = gs.length then k else 0)
  | [], _, h => absurd h (Nat.not_lt_zero _)
  | [g], 0, _ => by simp [gaf]
  | [g], i + 1, h => by simp at h
  | g :: b :: t, 0, _ => by simp [gaf]
  | g :: b :: t, i + 1, h => by
    show (gaf k (b :: t))[i]? = _
    rw [gaf_get k (b :: t) i (by simpa using h)]
    simp
theorem gaf_0 : ∀ gs : List Nat, gaf 0 gs = gs
  | [] => rfl
  | [g] => rfl
  | g :: h :: t => by
    show g :: gaf 0 (h :: t) = _
    rw [gaf_0]
theorem rw_gaf (k : Nat) : ∀ gs : List Nat, gs ≠ [] → (∀ g ∈ gs, 1 ≤ g) → rw_ (gaf k gs) = rw_ gs ++ List.replicate k false
  | [], h, _ => absurd rfl h
  | [g], _, h => by
    have h1 := h g List.mem_cons_self
    show rblk (g + k) ++ [] = (rblk g ++ []) ++ _
    unfold rblk
    rw [List.append_nil, List.append_nil, List.cons_append, List.replicate_append_replicate]
    congr 2
    omega
  | g :: b :: t, _, h => by
    have e1 : rw_ (gaf k (g :: b :: t)) = rblk g ++ rw_ (gaf k (b :: t)) := rfl
    have e2 : rw_ (g :: b :: t) = rblk g ++ rw_ (b :: t) := rfl
    rw [e1, e2, rw_gaf k (b :: t) (by simp) fun x hx => h x (List.mem_cons_of_mem _ hx), List.append_assoc]
theorem take_sum_le : ∀ (gs : List Nat) (i : Nat), i < gs.length → (gs.take i).sum + gs.getD i 0 = (gs.take (i + 1)).sum
  | [], _, h => absurd h (Nat.not_lt_zero _)
  | g :: t, 0, _ => by simp
  | g :: t, i + 1, h => by
    rw [List.take_succ_cons, List.take_succ_cons, List.sum_cons, List.sum_cons]
    have := take_sum_le t i (by simpa using h)
    have e : (g :: t).getD (i + 1) 0 = t.getD i 0 := rfl
    rw [e]
    omega
theorem take_sum_all : ∀ (gs : List Nat) (i : Nat), (gs.take i).sum ≤ gs.sum
  | [], i => by simp
  | g :: t, 0 => by simp
  | g :: t, i + 1 => by
    rw [List.take_succ_cons, List.sum_cons, List.sum_cons]
    have := take_sum_all t i
    omega
/-- the gaps of a row of blocks -/
theorem gps_rw {k : Nat} {gs : List Nat} (h : ∀ g ∈ gs, 1 ≤ g) : gps (List.replicate k false ++ rw_ gs) = (gaf k gs).map fun (g : Nat) => (g : Int) := by
  have hp : bpi (List.replicate k false ++ rw_ gs) = pst k gs := by
    unfold bpi
    rw [posf_rest, posf_rw _ _ h, Nat.zero_add]
  have hn : (List.replicate k false ++ rw_ gs).length = k + gs.sum := by rw [List.length_append, List.length_replicate, rw_len gs h]
  unfold gps
  rw [hp, hn, pst_len]
  apply List.ext_getElem?
  intro i
  rw [List.getElem?_map, List.getElem?_map]
  by_cases hi : i < gs.length
  · rw [List.getElem?_range hi, gaf_get k gs i hi]
    show some _ = some _
    congr 1
    have hg1 : 1 ≤ gs.getD i 0 := by
      rw [List.getD_eq_getElem?_getD, List.getElem?_eq_getElem hi]
      exact h _ (List.getElem_mem hi)
    have hs := take_sum_le gs i hi
    have ha := take_sum_all gs (i + 1)
    show ((pst k gs).getD ((i + 1) % gs.length) 0 - (pst k gs).getD i 0 - 1) % ((k + gs.sum : Nat) : Int) + 1 = ((gs.getD i 0 + if i + 1 = gs.length then k else 0 : Nat) : Int)
    rw [pst_get gs k i hi]
    by_cases c : i + 1 = gs.length
    · rw [if_pos c, c, Nat.mod_self, pst_get gs k 0 (by omega)]
      have e : (gs.take (i + 1)).sum = gs.sum := by rw [c, List.take_length]
      have e2 : ((k : Int) + (((gs.take 0).sum : Nat) : Int) - ((k : Int) + (((gs.take i).sum : Nat) : Int)) - 1) % ((k + gs.sum : Nat) : Int) = ((gs.getD i 0 + k : Nat) : Int) - 1 := by
        rw [← Int.add_emod_right (b := ((k + gs.sum : Nat) : Int))]
        rw [List.take_zero, List.sum_nil]
        rw [Int.emod_eq_of_lt (by omega) (by omega)]
        omega
      rw [e2]
      omega
    · rw [if_neg c, Nat.mod_eq_of_lt (by omega), pst_get gs k (i + 1) (by omega)]
      have e2 : ((k : Int) + (((gs.take (i + 1)).sum : Nat) : Int) - ((k : Int) + (((gs.take i).sum : Nat) : Int)) - 1) % ((k + gs.sum : Nat) : Int) = ((gs.getD i 0 : Nat) : Int) - 1 := by
        rw [Int.emod_eq_of_lt (by omega) (by omega)]
        omega
      rw [e2]
      omega
  · rw [List.getElem?_eq_none (by rw [List.length_range]; omega), List.getElem?_eq_none (by rw [gaf_len]; omega)]
    rfl
/-- where the first beat is -/
theorem occ_first {k : Nat} {t : List Bool} : ∃ r, occurrences (enc (List.replicate k false ++ true :: t)) (enc [true]) 0 (enc (List.replicate k false ++ true :: t)).length 1 = k :: r := by
  have hat : ∀ i, StrLaws.At (enc (List.replicate k false ++ true :: t)) (enc [true]) (enc (List.replicate k false ++ true :: t)).length i ↔ (List.replicate k false ++ true :: t)[i]? = some true := fun i => by
    rw [at_enc]
    constructor
    · rintro ⟨h1, h2⟩
      have h3 := congrArg (·[0]?) h2
      simp only [List.length_cons, List.length_nil, List.getElem?_take, List.getElem?_drop] at h3
      simpa using h3
    · intro h
      obtain ⟨hlt, hv⟩ := List.getElem?_eq_some_iff.mp h
      refine ⟨by simp only [List.length_cons, List.length_nil]; omega, ?_⟩
      rw [List.drop_eq_getElem_cons hlt, hv]
      rfl
  rcases StrLaws.occ_head (enc (List.replicate k false ++ true :: t)) (enc [true]) 1 (Nat.le_refl _) with ⟨h, hn⟩ | ⟨i, r, h, ha, hn⟩
  · exact absurd ((hat k).mpr (by rw [List.getElem?_append_right (by simp)]; simp)) (hn k)
  · refine ⟨r, ?_⟩
    rw [h]
    congr 1
    have h1 := (hat i).mp ha
    rcases Nat.lt_trichotomy i k with c | c | c
    · rw [List.getElem?_append_left (by simpa using c), List.getElem?_replicate, if_pos c] at h1
      cases h1
    · exact c
    · exact absurd ((hat k).mpr (by rw [List.getElem?_append_right (by simp)]; simp)) (hn k c)
/-! the walk around the ring -/
def wstep (s : Int × List Int) (b : Bool) : Int × List Int := if b then (0, s.2 ++ [s.1 + 1]) else (s.1 + 1, s.2)
def wgo (s : Int × List Int) (l : List Bool) : Int × List Int := l.foldl wstep s
theorem wgo_rests : ∀ (k : Nat) (g : Int) (acc : List Int) (l : List Bool), wgo (g, acc) (List.replicate k false ++ l) = wgo (g + k, acc) l
  | 0, g, acc, l => by simp
  | k + 1, g, acc, l => by
    rw [List.replicate_succ, List.cons_append]
    show wgo (g + 1, acc) _ = _
    rw [wgo_rests k (g + 1) acc l]
    congr 2
    omega
def vis (gs : List Nat) : List Bool := (gs.map fun g => List.replicate (g - 1) false ++ [true]).flatten
theorem vis_rw : ∀ (gs : List Nat), rw_ gs ++ [true] = true :: vis gs
  | [] => rfl
  | g :: t => by
    have e1 : rw_ (g :: t) = true :: (List.replicate (g - 1) false ++ rw_ t) := rfl
    have e2 : vis (g :: t) = (List.replicate (g - 1) false ++ [true]) ++ vis t := rfl
    rw [e1, e2, List.cons_append, List.append_assoc, vis_rw t, List.append_assoc]
    rfl
theorem wgo_vis : ∀ (gs : List Nat) (acc : List Int), (∀ g ∈ gs, 1 ≤ g) → wgo (0, acc) (vis gs) = (0, acc ++ gs.map fun (g : Nat) => (g : Int))
  | [], acc, _ => by simp [vis, wgo]
  | g :: t, acc, h => by
    have h1 := h g List.mem_cons_self
    have e2 : vis (g :: t) = List.replicate (g - 1) false ++ true :: vis t := by
      show (List.replicate (g - 1) false ++ [true]) ++ vis t = _
      rw [List.append_assoc]
      rfl
    rw [e2, wgo_rests]
    show wgo (0, acc ++ [0 + ((g - 1 : Nat) : Int) + 1]) (vis t) = _
    rw [wgo_vis t _ fun x hx => h x (List.mem_cons_of_mem _ hx), List.map_cons, List.append_assoc]
    have e3 : (0 : Int) + ((g - 1 : Nat) : Int) + 1 = (g : Int) := by omega
    rw [e3]
    rfl
/-- the signs that are met -/
def met (bs : List Bool) (f j : Nat) : List Bool := (List.range j).map fun t => bs.getD ((f + 1 + t) % bs.length) false
theorem met_all {bs : List Bool} {f : Nat} (hf : f < bs.length) (hb : bs[f]? = some true) : true :: met bs f bs.length = rot bs f ++ [true] := by
  have hrl := rot_len (bs := bs) (k := f) (by omega)
  have hget : ∀ j, j < bs.length → (rot bs f)[j]? = some (bs.getD ((f + j) % bs.length) false) := fun j hj => by
    unfold rot
    by_cases c : j < bs.length - f
    · rw [List.getElem?_append_left (by rw [List.length_drop]; omega), List.getElem?_drop, Nat.mod_eq_of_lt (by omega)]
      exact getD_some (by omega)
    · rw [List.getElem?_append_right (by rw [List.length_drop]; omega), List.length_drop, List.getElem?_take, if_pos (by omega)]
      have e : (f + j) % bs.length = j - (bs.length - f) := by
        rw [← Nat.mod_eq_of_lt (a := j - (bs.length - f)) (b := bs.length) (by omega)]
        rw [show f + j = j - (bs.length - f) + bs.length by omega, Nat.add_mod_right]
      rw [e]
      exact getD_some (by omega)
  apply List.ext_getElem?
  intro i
  match i with
  | 0 =>
    rw [List.getElem?_append_left (by omega), hget 0 (by omega), Nat.add_zero, Nat.mod_eq_of_lt hf, ← getD_some hf, hb]
    rfl
  | i + 1 =>
    rw [List.getElem?_cons_succ]
    unfold met
    rw [List.getElem?_map]
    rcases Nat.lt_trichotomy (i + 1) bs.length with c | c | c
    · rw [List.getElem?_range (by omega), List.getElem?_append_left (by omega), hget (i + 1) c]
      show some (bs.getD ((f + 1 + i) % bs.length) false) = some _
      rw [show f + 1 + i = f + (i + 1) by omega]
    · rw [List.getElem?_range (by omega), List.getElem?_append_right (by omega), hrl, c, Nat.sub_self]
      show some (bs.getD ((f + 1 + i) % bs.length) false) = some true
      rw [show f + 1 + i = f + bs.length by omega, Nat.add_mod_right, Nat.mod_eq_of_lt hf, ← getD_some hf, hb]
    · rw [List.getElem?_eq_none (by rw [List.length_range]; omega), List.getElem?_eq_none (by rw [List.length_append, List.length_singleton]; omega)]
      rfl
/-- a ring with a beat, told by its gaps -/
theorem ring_gaps {bs : List Bool} (h : 0 < bs.count true) : ∃ (k : Nat) (gs : List Nat), (∀ g ∈ gs, 1 ≤ g) ∧ gs ≠ [] ∧ k < bs.length ∧ bs[k]? = some true ∧ gps bs = gs.map (fun (g : Nat) => (g : Int)) ∧ rot bs k = rw_ gs ∧ (∃ r, occurrences (enc bs) (enc [true]) 0 (enc bs).length 1 = k :: r) ∧
    wgo (0, []) (met bs k bs.length) = (0, gps bs) := by
  obtain ⟨k, gs, hg, e⟩ := par bs
  have hne : gs ≠ [] := fun c => by
    subst c
    rw [e] at h
    have : rw_ [] = [] := rfl
    rw [this, List.append_nil, List.count_replicate] at h
    simp at h
  obtain ⟨g, t, rfl⟩ : ∃ g t, gs = g :: t := match gs, hne with | g :: t, _ => ⟨g, t, rfl⟩
  have e1 : rw_ (g :: t) = true :: (List.replicate (g - 1) false ++ rw_ t) := rfl
  have hk : k < bs.length := by
    rw [e, List.length_append, List.length_replicate, e1, List.length_cons]
    omega
  have hbk : bs[k]? = some true := by
    rw [e, List.getElem?_append_right (by simp), e1]
    simp
  have hr : rot bs k = rw_ (gaf k (g :: t)) := by
    rw [rw_gaf k _ (by simp) hg]
    unfold rot
    rw [e, List.drop_append, List.drop_replicate, List.length_replicate, Nat.sub_self, List.take_append, List.take_replicate, List.length_replicate, Nat.sub_self]
    simp
  have hgp : gps bs = (gaf k (g :: t)).map fun (g : Nat) => (g : Int) := by
    rw [e]
    exact gps_rw hg
  refine ⟨k, gaf k (g :: t), gaf_pos _ hg, fun c => ?_, hk, hbk, hgp, hr, ?_, ?_⟩
  · have := gaf_len k (g :: t)
    rw [c] at this
    simp at this
  · rw [e, e1]
    exact occ_first
  · have h1 := met_all hk hbk
    rw [hr, vis_rw] at h1
    have h2 := List.tail_eq_of_cons_eq h1
    rw [h2, wgo_vis _ _ (gaf_pos _ hg), hgp]
    rfl
/-! folded and unfolded -/
def fld (bs : List Bool) : List Bool := (gps bs).map fun g => decide (mn (gps bs) < g)
def unf (bs : List Bool) (g : Nat) : List Bool := (bs.map fun b => true :: (List.replicate (g - 1) false ++ if b then [false] else [])).flatten
theorem unf_rw (bs : List Bool) {g : Nat} (hg : 1 ≤ g) : unf bs g = rw_ (bs.map fun b => g + b.toNat) := by
  unfold unf rw_
  rw [List.map_map]
  congr 1
  refine List.map_congr_left fun b _ => ?_
  show _ = rblk (g + b.toNat)
  unfold rblk
  cases b
  · simp
  · have e : g + true.toNat - 1 = (g - 1) + 1 := by
      show g + 1 - 1 = _
      omega
    rw [e, List.replicate_succ']
    rfl
/-- unfolded by the least gap: the ring from its first beat on -/
theorem unf_fld {bs : List Bool} {k : Nat} {gs : List Nat} (hg : ∀ g ∈ gs, 1 ≤ g) (hne : gs ≠ []) (hgp : gps bs = gs.map fun (g : Nat) => (g : Int)) (hr : rot bs k = rw_ gs) (hs : mx (gps bs) ≤ mn (gps bs) + 1) : unf (fld bs) (mn (gps bs)).toNat = rot bs k := by
  have hlen : 0 < (gps bs).length := by
    rw [hgp, List.length_map]
    exact List.length_pos_iff.mpr hne
  obtain ⟨a1, a2⟩ := mx_mem hlen
  obtain ⟨b1, b2⟩ := mn_mem hlen
  obtain ⟨m, hm, em⟩ : ∃ m ∈ gs, (m : Int) = mn (gps bs) := by
    rw [hgp] at b1
    obtain ⟨m, hm, e⟩ := List.mem_map.mp b1
    rw [← hgp] at e
    exact ⟨m, hm, e⟩
  have hm1 := hg m hm
  rw [← em, Int.toNat_natCast, unf_rw _ hm1, hr]
  congr 1
  unfold fld
  rw [← em, hgp, List.map_map, List.map_map]
  have : gs.map (((fun b : Bool => m + b.toNat) ∘ (fun g : Int => decide ((m : Int) < g))) ∘ fun (g : Nat) => (g : Int)) = gs.map _root_.id := by
    refine List.map_congr_left fun g hgm => ?_
    have g1 : (g : Int) ∈ gps bs := by
      rw [hgp]
      exact List.mem_map.mpr ⟨g, hgm, rfl⟩
    have g2 := a2 _ g1
    have g3 := b2 _ g1
    show m + (decide ((m : Int) < (g : Int))).toNat = g
    by_cases c : (m : Int) < (g : Int)
    · rw [decide_eq_true c]
      show m + 1 = g
      omega
    · rw [decide_eq_false c]
      show m + 0 = g
      omega
  rw [this, List.map_id]
theorem gps_unf (bs : List Bool) {g : Nat} (hg : 1 ≤ g) : gps (unf bs g) = bs.map fun b => (g : Int) + (b.toNat : Int) := by
  have h := gps_rw (k := 0) (gs := bs.map fun b => g + b.toNat) (by
    intro x hx
    obtain ⟨b, _, rfl⟩ := List.mem_map.mp hx
    omega)
  rw [gaf_0] at h
  rw [unf_rw bs hg]
  refine Eq.trans h ?_
  rw [List.map_map]
  refine List.map_congr_left fun b _ => ?_
  show ((g + b.toNat : Nat) : Int) = _
  omega
theorem fld_unf {bs : List Bool} {g : Nat} (hg : 1 ≤ g) (hf : false ∈ bs) : fld (unf bs g) = bs := by
  have hmn : mn (gps (unf bs g)) = g := by
    rw [gps_unf bs hg]
    refine (mn_of ?_ ?_).symm
    · exact List.mem_map.mpr ⟨false, hf, by simp⟩
    · intro y hy
      obtain ⟨b, _, rfl⟩ := List.mem_map.mp hy
      omega
  unfold fld
  rw [hmn, gps_unf bs hg, List.map_map]
  have : bs.map ((fun x : Int => decide ((g : Int) < x)) ∘ fun b : Bool => (g : Int) + (b.toNat : Int)) = bs.map _root_.id := by
    refine List.map_congr_left fun b _ => ?_
    cases b
    · show decide ((g : Int) < (g : Int) + ((0 : Nat) : Int)) = false
      exact decide_eq_false (by omega)
    · show decide ((g : Int) < (g : Int) + ((1 : Nat) : Int)) = true
      exact decide_eq_true (by omega)
  rw [this, List.map_id]
theorem mx_unf {bs : List Bool} {g : Nat} (hg : 1 ≤ g) (h0 : 0 < bs.length) : mx (gps (unf bs g)) ≤ mn (gps (unf bs g)) + 1 := by
  have hlen : 0 < (gps (unf bs g)).length := by
    rw [gps_unf bs hg, List.length_map]
    exact h0
  obtain ⟨a1, a2⟩ := mx_mem hlen
  obtain ⟨b1, b2⟩ := mn_mem hlen
  rw [gps_unf bs hg] at a1 b1 ⊢
  obtain ⟨b, _, e⟩ := List.mem_map.mp a1
  obtain ⟨c, _, e2⟩ := List.mem_map.mp b1
  rw [← e, ← e2]
  cases b <;> cases c <;> simp <;> omega
theorem unf_len (bs : List Bool) {g : Nat} (hg : 1 ≤ g) : (unf bs g).length ≤ bs.length * (g + 1) ∧ (0 < bs.length → 0 < (unf bs g).count true) := by
  constructor
  · unfold unf
    rw [List.length_flatten, List.map_map]
    have : ∀ l : List Bool, (l.map (List.length ∘ fun b => true :: (List.replicate (g - 1) false ++ if b = true then [false] else []))).sum ≤ l.length * (g + 1) := by
      intro l
      induction l with
      | nil => simp
      | cons b t ih =>
        rw [List.map_cons, List.sum_cons, List.length_cons, Nat.add_mul, Nat.one_mul]
        have : (List.length ∘ fun b => true :: (List.replicate (g - 1) false ++ if b = true then [false] else [])) b ≤ g + 1 := by
          show (true :: (List.replicate (g - 1) false ++ if b = true then [false] else [])).length ≤ _
          cases b <;> simp <;> omega
        omega
    exact this bs
  · intro h
    match bs, h with
    | b :: t, _ =>
      unfold unf
      rw [List.map_cons, List.flatten_cons, List.count_append, List.count_cons_self]
      omega
end Eb
/-! ### more readings: wide rows joined; where the first beat is; isinstance of a list -/
namespace Eb
open PySem PySem.Spec PyProof.Rows L2 TL Evl
section
variable {K : PySem.W.Frag} {σ : L2.St} {H H' : Hp} {ta tb tc te : TE} {x y z v : V} {bs : List Bool}
theorem ev_joinWN {α : Type} {xs : List α} {f : α → List Bool} (h : Ev ta σ H (.str (enc []))) (hb : EvL tb σ H (xs.map fun a => V.str (enc (f a)))) (hl : xs.length ≤ 10000) (h1 : ∀ a ∈ xs, (f a).length ≤ 1000) :
    Ev (tM1 (fun x xs H Q => ∃ a p, ∃ ys : List Str, x = .str a ∧ xs = [.ref p] ∧ (SqL K H p (ys.map V.str) ∨ SqT K H p (ys.map V.str)) ∧ (ys.map (·.length)).sum + ys.length * a.length ≤ 16777216 ∧ Q (.str (Txt.join a ys)) H) ta tb) σ H (.str (enc (xs.map f).flatten)) := fun H1 e Q q =>
  h H1 e _ fun H2 e2 => ⟨⟨_, rfl⟩, hb H2 (e.trans e2) _ fun p H3 hp e3 hx => ⟨enc [], p, (xs.map f).map enc, rfl, rfl, .inl (.inl (.inl (by
      rw [List.map_map, List.map_map]
      exact hx))), by
      have hs : ∀ ls : List (List Bool), (∀ l ∈ ls, l.length ≤ 1000) → ((ls.map enc).map (·.length)).sum ≤ 1000 * ls.length := by
        intro ls
        induction ls with
        | nil => exact fun _ => Nat.le_refl _
        | cons a r ih =>
          intro h
          have h2 := h a List.mem_cons_self
          have h3 := ih fun l hm => h l (List.mem_cons_of_mem _ hm)
          rw [List.map_cons, List.map_cons, List.sum_cons, len_enc, List.length_cons]
          omega
      have h2 := hs (xs.map f) (fun l hm => by
        obtain ⟨a, ha, rfl⟩ := List.mem_map.mp hm
        exact h1 a ha)
      rw [List.length_map] at h2
      rw [List.length_map, List.length_map, len_enc]
      simp only [List.length_nil, Nat.mul_zero, Nat.add_zero]
      omega, by
      rw [join0]
      exact q H3 (e2.trans e3)⟩⟩
theorem ev_idxS {k : Nat} {r : List Nat} (h : Ev ta σ H (.str (enc bs))) (hb : Ev tb σ H (.str (enc [true]))) (ho : Builtin.Str.occurrences (enc bs) (enc [true]) 0 (enc bs).length 1 = k :: r) :
    Ev (tM1 (fun x xs H Q => ∃ a b i rest, x = .str a ∧ xs = [.str b] ∧ Builtin.Str.occurrences a b 0 a.length 1 = i :: rest ∧ Q (.int (i : Nat)) H) ta tb) σ H (.int (k : Int)) :=
  ev_m1 h hb fun H1 _ _ q => ⟨_, _, _, _, rfl, rfl, ho, q H1 (Ex.refl H1)⟩
theorem rc_isiL {a : Addr} {xs : List V} (h : H a = some (.lst xs)) : RC (rIsi K) [.ref a, .ty "list"] H (.bl true) := rc_isi (.ty "list") (fun _ e => .base (.lst (e _ _ h))) (kit_ty (by decide +kernel))
end
end Eb
namespace Eb
open PySem PySem.Spec PyProof.Rows L2 TL Evl
section
variable {K : PySem.W.Frag} {σ : L2.St} {H H' : Hp} {ta tb tc te : TE} {x y z v : V} {D : Ends} {tz : TS}
/-- xs.append(f(..)), told by the promise alone -/
theorem s_appC {sp : Sp} {E : XK} {t : TA} {vs : List V} {l : Addr} {xs : List V} (hl : H l = some (.lst xs)) (ha : Ev ta σ H (.ref l)) (h : EvA t σ H vs)
    (k : ∀ H1, Ex H H1 → sp vs H1 (fun v H2 => rAppend (.ref l) [v] H2 fun _ H3 => D.nx σ H3) E) : tDrop (tBM K "list" rAppend ta (tCons (tCall sp [] E t) tNil)) D σ H := ha H (Ex.refl H) _ fun H1 e1 =>
  ⟨Or.inl ⟨rfl, xs, sq_of (e1 l _ hl)⟩, h H1 e1 _ fun H2 e2 => by
    rw [List.append_nil]
    exact k H2 (e1.trans e2)⟩
theorem app_go {l : Addr} {xs : List V} {v : V} {Q : VK} (hl : H l = some (.lst xs)) (hz : xs.length < 100000) (q : Q .non (upd H l (.lst (xs ++ [v])))) : rAppend (.ref l) [v] H Q := ⟨l, xs, v, rfl, rfl, hl, sz_lt hz, q⟩
/-- rows in a list -/
theorem rv_ixRg {p : Addr} {ls : List (List Bool)} {i : Int} (h : SqL K H p (ls.map fun l => V.str (enc l))) (h0 : 0 ≤ i) (h1 : i < ls.length) : RV (rIxL K) (.ref p) (.int i) H (.str (enc (ls.getD i.toNat []))) := by
  have e : i = (i.toNat : Int) := by omega
  rw [e]
  refine rv_ixL h (atI_nat ?_)
  rw [List.getElem?_map, getD_some (d := []) (by omega)]
  rfl
end
end Eb
namespace Eb
open PySem PySem.Spec PyProof.Rows L2 TL Evl
theorem rc_any {K : PySem.W.Frag} {H : Hp} {p : Addr} {bs : List Bool} (h : SqL K H p (bs.map V.bl)) : RC (rAny K) [.ref p] H (.bl (bs.any _root_.id)) := fun H1 e _ q => ⟨p, bs, rfl, ex_l e h, q H1 (Ex.refl H1)⟩
end Eb
namespace Eb
open PySem PySem.Spec PyProof.Rows L2 TL Evl
abbrev sUnfolded : Stmt := topS 24
theorem scUnfolded : FnScope ["ring", "gap", "sign"] ["ring", "gap"] (defScope sUnfolded) := ⟨rfl, rfl, rfl, by decide +kernel, rfl, by decide +kernel, by decide +kernel⟩
def spUnfoldedB (K : PySem.W.Frag) (cR cC : Addr) : Sp := fun vs H Q E => ∃ v y, vs = [v, y] ∧ ((BadRingV K H v ∧ ∀ H2, Ex H H2 → E (.ref cR) none H2) ∨ ((∃ bs : List Bool, v = .str (enc bs) ∧ (0 < bs.length ∧ bs.length ≤ 400)) ∧ (NonNum K H y ∨ ∃ g : Int, y = .int g ∧ g < 1) ∧ ∀ H2, Ex H H2 → E (.ref cC) none H2) ∨
  (∃ (bs : List Bool) (g : Int), v = .str (enc bs) ∧ y = .int g ∧ ((0 < bs.length ∧ bs.length ≤ 400) ∧ 1 ≤ g ∧ g ≤ 400) ∧ RetV (.str (enc (unf bs g.toNat))) H Q))
theorem spv_unfolded {K : PySem.W.Frag} {cR cC : Addr} {H : Hp} {bs : List Bool} {g : Int} (h : (0 < bs.length ∧ bs.length ≤ 400) ∧ 1 ≤ g ∧ g ≤ 400) : SpV (spUnfoldedB K cR cC) [.str (enc bs), .int g] H (.str (enc (unf bs g.toNat))) := fun _ _ _ q _ => ⟨_, _, rfl, .inr (.inr ⟨bs, g, rfl, rfl, h, q⟩)⟩
section
variable {P : Program} {w : World} {K : PySem.W.Frag} {mg : Str → Option Value} {base : Heap}
variable {cBeatError cBadRing cBadCount cNoBeat cUneven : Addr}
theorem ok_unfolded (D : DefAt K mg "unfolded" sUnfolded) (Y : Yz K mg cBeatError cBadRing cBadCount cNoBeat cUneven) (T : Tx mg) (c_asked_ring : CalX P w K mg base 4 "asked_ring" (spAskedRingB K cBadRing) []) (c_is_number : C8.Cal P w K mg base 1 "is_number" (spIsNumber K) []) : CalX P w K mg base 5 "unfolded" (spUnfoldedB K cBadRing cBadCount) [] := by
  refine calx_of D (fun _ _ _ _ _ _ us hl => match us, hl with | [_, _], _ => rfl) scUnfolded (fun vs H Q E h => ?_) (fun f cdv A outer s H vs Q E hr h => ?_)
  · obtain ⟨v, y, rfl, _⟩ := h
    rfl
  · obtain ⟨v, y, rfl, h⟩ := h
    refine ⟨_, (pss_cons (ps_expr (pe_cx (passD (L2N.takes_of rfl rfl rfl rfl)) c_asked_ring hr (by decide) (by rfl) (pa_cons (pv 0) pa_nil)))
      (pss_cons (ps_if (PW.pt (pw_or (pt_not (pt_val (C8.pe_c c_is_number hr (by decide) (by rfl) (pa_cons (pv 1) pa_nil)))) (pw_or1 (pt_cmp (pc_lt (pv 1) pe_int)))))
      (pss_one (ps_raiseE rfl (L2N.takes_of rfl rfl rfl rfl) Y.e_BadCount Y.m_BadCount (by rfl)))
      pss_nil)
      (pss_one (ps_ret (pe_join pe_s0 (pe_lc (own := [("sign", 2)]) (g := gName 2) rfl scUnfolded.nd (pi_str (pv 0)) (blkOk_by (own := [("sign", 2)]) (N := ["ring", "gap", "sign"]) (sc := defScope sUnfolded) (by decide +kernel)) (fun _ _ _ _ _ => (pg_name (i := 2) scUnfolded.nd rfl (Or.inl rfl))) (fun _ _ _ _ _ => pts_nil) (fun _ _ _ _ _ => (pe_op op_add_str (pe_op op_add_str (C8.pe_gc rfl T.beat) (pe_op op_mulS (C8.pe_gc rfl T.rest) (pe_op op_sub (pv 1) pe_int))) (pe_ifExp (pt_cmpR op_eq (pv 2) (C8.pe_gc rfl T.beat) (nomark _)) (C8.pe_gc rfl T.rest) pe_s0))))))))), ?_⟩
    rcases h with ⟨hb, kE⟩ | ⟨⟨bs, rfl, h0, h1⟩, hn | ⟨g, rfl, hg⟩, kE⟩ | ⟨bs, g, rfl, rfl, ⟨⟨h0, h1⟩, h2, h3⟩, k⟩
    case inl => exact q_dropC (ea_cons (ev_var rfl) ea_nil) fun H1 e1 => ⟨v, rfl, .inr ⟨hb.mono e1, fun H2 e2 => kE H2 (e1.trans e2)⟩⟩
    case inr.inl.inl =>
      refine q_drop (ev_call (ea_cons (ev_var rfl) ea_nil) (spv_asked_ring (by walk_at "pre"))) fun H1 e1 => ?_
      exact q_when (b := true) (et_or (b := true) (et_not (et_test' (ev_call (ea_cons (ev_var rfl) ea_nil) (spv_nonnum (hn.mono e1))))) (fun hb => by cases hb)) (fun _ H2 e2 => kE H2 (e1.trans e2)) (fun hb => by cases hb)
    case inr.inl.inr =>
      refine q_drop (ev_call (ea_cons (ev_var rfl) ea_nil) (spv_asked_ring (by walk_at "pre"))) fun H1 e1 => ?_
      exact q_when (et_or (et_not (et_B (ev_call (ea_cons (ev_var rfl) ea_nil) (spv_is_number (by walk_at "pre"))))) (fun hb => (et_B (ev_cmp (ev_var rfl) ev_c)))) (fun _ H2 e2 => kE H2 (e1.trans e2)) (fun hb => by
        exfalso
        simp at hb
        omega)
    refine q_drop (ev_call (ea_cons (ev_var rfl) ea_nil) (spv_asked_ring (by walk_at "pre"))) fun H1 e1 => ?_
    refine q_when (et_or (et_not (et_B (ev_call (ea_cons (ev_var rfl) ea_nil) (spv_is_number (by walk_at "pre"))))) (fun hb => (et_B (ev_cmp (ev_var rfl) ev_c)))) (fun hb => by
      exfalso
      simp at hb
      omega) (fun _ H2 e2 => ?_)
    have hfl : (List.replicate (g - 1).toNat [false]).flatten.length = (g - 1).toNat := by rw [flat_rep1, List.length_replicate]
    refine s_ret (ev_eq (ev_joinWN (f := fun b => ([true] ++ (List.replicate (g - 1).toNat [false]).flatten) ++ (if decide ([b] = [true]) = true then [false] else [])) ev_c (el_mapS (ev_var rfl) (by omega) (fun _ => rfl) (fun i9 H9 e9 h9 => by
      have hif : (if decide ([i9] = [true]) = true then [false] else ([] : List Bool)).length ≤ 1 := by split <;> simp
      exact Ev.mono e9 (ev_op (ev_op ev_c (ev_op ev_c (ev_op (ev_var rfl) ev_c rv_I0) (rv_mulS (by walk_at "pre"))) (rv_catS (by walk_at "sz") (by walk_at "sz"))) (ev_ifD (et_test (ev_op (ev_var rfl) ev_c rv_eqS)) ev_c ev_c) (rv_catS (by walk_at "sz") (by walk_at "sz"))))) (by omega) (fun b _ => ?_)) ?_) fun H3 e3 => k.go ((e1.trans e2).trans e3)
    · have hif : (if decide ([b] = [true]) = true then [false] else ([] : List Bool)).length ≤ 1 := by split <;> simp
      rw [List.length_append, List.length_append, hfl, List.length_singleton]
      omega
    · unfold unf
      congr 3
      refine List.map_congr_left fun b _ => ?_
      have e : (g - 1).toNat = g.toNat - 1 := by omega
      rw [flat_rep1, e]
      cases b <;> rfl
end
end Eb
namespace Eb
open PySem PySem.Spec PyProof.Rows L2 TL Evl
abbrev sLawCountAsked : Stmt := topS 43
theorem scLawCountAsked : FnScope ["_law_which", "_law_more", "_law_bad", "_law_numbers"] ["_law_which", "_law_more"] (defScope sLawCountAsked) := ⟨rfl, rfl, rfl, by decide +kernel, rfl, by decide +kernel, by decide +kernel⟩
def spLawCountAskedB (C : Addr) : Sp := fun vs H _ E => ∃ w m : Int, vs = [.int w, .int m] ∧ 0 ≤ m ∧ ∀ H2, Ex H H2 → E (.ref C) none H2
section
variable {P : Program} {w : World} {K : PySem.W.Frag} {mg : Str → Option Value} {base : Heap}
variable {cBeatError cBadRing cBadCount cNoBeat cUneven : Addr}
theorem ok__law_count_asked (D : DefAt K mg "_law_count_asked" sLawCountAsked) (c_turned : CalX P w K mg base 5 "turned" (spTurnedB K cBadRing cBadCount) []) (c_unfolded : CalX P w K mg base 5 "unfolded" (spUnfoldedB K cBadRing cBadCount) []) (c_laid : CalX P w K mg base 4 "laid" (spLaidB K cBadCount) []) (c_reckoned : CalX P w K mg base 3 "reckoned" (spReckonedB K cBadCount) []) : CalX P w K mg base 6 "_law_count_asked" (spLawCountAskedB cBadCount) [] := by
  refine calx_of D (fun _ _ _ _ _ _ us hl => match us, hl with | [_, _], _ => rfl) scLawCountAsked (fun vs H Q E h => ?_) (fun f cdv A outer s H vs Q E hr h => ?_)
  · obtain ⟨w, m, rfl, _⟩ := h
    rfl
  · obtain ⟨wh, m, rfl, hm, kE⟩ := h
    refine ⟨_, (pss_cons (ps_set (i := 2) scLawCountAsked.nd rfl (Or.inl rfl) (pe_ix (ix_listK (K := K) rfl) (pe_lst (pa_cons pe_non (pa_cons pe_str (pa_cons pe_bl (pa_cons (pe_lst (pa_cons pe_int pa_nil)) (pa_cons (pe_tup (pa_cons pe_int pa_nil)) pa_nil)))))) (pe_op op_mod (pe_op op_fdiv (pv 0) pe_int) pe_int) (fun _ _ => rfl)))
      (pss_cons (ps_if (pt_cmp (pc_eqI (pe_op op_mod (pv 0) pe_int) pe_int))
      (pss_one (ps_ret (pe_cx (passD (L2N.takes_of rfl rfl rfl rfl)) c_turned hr (by decide) (by rfl) (pa_cons (pe_strE (bs := [true, false]) (by decide +kernel)) (pa_cons (pv 2) pa_nil)))))
      pss_nil)
      (pss_cons (ps_if (pt_cmp (pc_eqI (pe_op op_mod (pv 0) pe_int) pe_int))
      (pss_one (ps_ret (pe_cx (passD (L2N.takes_of rfl rfl rfl rfl)) c_unfolded hr (by decide) (by rfl) (pa_cons (pe_strE (bs := [true, false]) (by decide +kernel)) (pa_cons (pe_ix (ix_listK (K := K) rfl) (pe_lst (pa_cons pe_non (pa_cons pe_str (pa_cons pe_bl (pa_cons pe_int (pa_cons (pe_op op_sub (pe_un un_neg pe_int) (pv 1)) pa_nil)))))) (pe_op op_mod (pe_op op_fdiv (pv 0) pe_int) pe_int) (fun _ _ => rfl)) pa_nil)))))
      pss_nil)
      (pss_cons (ps_if (pt_cmp (pc_eqI (pe_op op_mod (pv 0) pe_int) pe_int))
      (pss_one (ps_ret (pe_cx (passD (L2N.takes_of rfl rfl rfl rfl)) c_laid hr (by decide) (by rfl) (pa_cons (pe_ix (ix_listK (K := K) rfl) (pe_lst (pa_cons (pe_op op_sub (pe_un un_neg pe_int) (pv 1)) (pa_cons (pe_op op_add pe_int (pv 1)) (pa_cons pe_non (pa_cons pe_bl (pa_cons pe_str pa_nil)))))) (pe_op op_mod (pe_op op_fdiv (pv 0) pe_int) pe_int) (fun _ _ => rfl)) (pa_cons pe_int pa_nil)))))
      pss_nil)
      (pss_cons (ps_if (pt_cmp (pc_eqI (pe_op op_mod (pv 0) pe_int) pe_int))
      (pss_one (ps_ret (pe_cx (passD (L2N.takes_of rfl rfl rfl rfl)) c_laid hr (by decide) (by rfl) (pa_cons pe_int (pa_cons (pe_ix (ix_listK (K := K) rfl) (pe_lst (pa_cons pe_int (pa_cons (pe_op op_sub (pe_un un_neg pe_int) (pv 1)) (pa_cons pe_non (pa_cons pe_bl (pa_cons pe_str pa_nil)))))) (pe_op op_mod (pe_op op_fdiv (pv 0) pe_int) pe_int) (fun _ _ => rfl)) pa_nil)))))
      pss_nil)
      (pss_cons (ps_set (i := 3) scLawCountAsked.nd rfl (Or.inl rfl) (pe_ix (ix_listK (K := K) rfl) (pe_lst (pa_cons (pe_lst (pa_cons pe_int (pa_cons pe_int (pa_cons (pv 2) (pa_cons pe_int pa_nil))))) (pa_cons (pe_lst (pa_cons pe_int (pa_cons pe_int (pa_cons pe_int (pa_cons (pv 2) pa_nil))))) (pa_cons (pe_lst (pa_cons pe_int (pa_cons pe_int (pa_cons pe_int (pa_cons (pe_op op_sub (pe_un un_neg pe_int) (pv 1)) pa_nil))))) (pa_cons (pe_lst (pa_cons pe_int (pa_cons pe_int (pa_cons pe_int (pa_cons pe_int pa_nil))))) (pa_cons (pe_lst (pa_cons (pv 2) (pa_cons pe_int (pa_cons pe_int (pa_cons pe_int pa_nil))))) pa_nil)))))) (pe_op op_mod (pe_op op_fdiv (pv 0) pe_int) pe_int) (fun _ _ => rfl)))
      (pss_one (ps_ret (pe_cx (passD (L2N.takes_of rfl rfl rfl rfl)) c_reckoned hr (by decide) (by rfl) (pa_cons (pe_ix (ix_listK (K := K) rfl) (pv 3) pe_int (fun _ _ => rfl)) (pa_cons (pe_ix (ix_listK (K := K) rfl) (pv 3) pe_int (fun _ _ => rfl)) (pa_cons (pe_ix (ix_listK (K := K) rfl) (pv 3) pe_int (fun _ _ => rfl)) (pa_cons (pe_ix (ix_listK (K := K) rfl) (pv 3) pe_int (fun _ _ => rfl)) pa_nil))))))))))))), ?_⟩
    have hm0 : MonoP (fun v H => NonNum K H v) := fun _ _ _ e h => h.mono e
    have hm1 : MonoP (fun v H => NonNum K H v ∨ ∃ g : Int, v = .int g ∧ g < 1) := fun _ _ _ e h => h.elim (fun h => .inl (h.mono e)) .inr
    have hm2 : MonoP (fun v H => NonNum K H v ∨ ∃ c : Int, v = .int c ∧ ¬ (0 ≤ c ∧ c ≤ 3)) := fun _ _ _ e h => h.elim (fun h => .inl (h.mono e)) .inr
    have hm3 : MonoP (fun v H => ∃ (q : Addr) (b p s m : V), v = .ref q ∧ H q = some (.lst [b, p, s, m]) ∧ RBad K H b p s m) := fun _ _ _ e ⟨q, b, p, s, m, h1, h2, h3⟩ => ⟨q, b, p, s, m, h1, e _ _ h2, h3.mono e⟩
    refine q_asgX (ex_menu hm0 (exs_cons hm0 (ex_of ev_c (fun _ _ => nn_non)) (exs_cons hm0 (ex_of ev_c (fun _ _ => nn_str)) (exs_cons hm0 (ex_of ev_c (fun _ _ => nn_bl)) (exs_cons hm0 (ex_lst (ea_cons ev_c ea_nil) (by simp) (fun p H1 _ x => nn_lst x)) (exs_cons hm0 (ex_tup (ea_cons ev_c ea_nil) (by simp) (fun p H1 _ x => nn_tup x)) exs_nil))))) (by decide) (ev_op (ev_op (ev_var rfl) ev_c (rv_I (by walk_at "div"))) ev_c (rv_I (by walk_at "pos"))) (by omega)) fun v H1 e1 hv => ?_
    refine q_when (et_B (ev_cmp (ev_op (ev_var rfl) ev_c (rv_I (by walk_at "pos"))) ev_c)) (fun hb H2 e2 => ?_) (fun hb H2 e2 => ?_)
    · exact s_retC (ea_cons ev_c (ea_cons (ev_var rfl) ea_nil)) fun H3 e3 => ⟨_, _, rfl, .inr ⟨⟨[true, false], rfl, by decide⟩, hv.mono (e2.trans e3), fun H4 e4 => kE H4 (((e1.trans e2).trans e3).trans e4)⟩⟩
    refine q_when (et_B (ev_cmp (ev_op (ev_var rfl) ev_c (rv_I (by walk_at "pos"))) ev_c)) (fun hb H3 e3 => ?_) (fun hb H3 e3 => ?_)
    · exact s_retX2 ev_c (ex_menu hm1 (exs_cons hm1 (ex_of ev_c (fun _ _ => .inl nn_non)) (exs_cons hm1 (ex_of ev_c (fun _ _ => .inl nn_str)) (exs_cons hm1 (ex_of ev_c (fun _ _ => .inl nn_bl)) (exs_cons hm1 (ex_of ev_c (fun _ _ => .inr ⟨0, rfl, by omega⟩)) (exs_cons hm1 (ex_of (ev_op (ev_un ev_c ru_neg) (ev_var rfl) rv_I0) (fun _ _ => .inr ⟨_, rfl, by omega⟩)) exs_nil))))) (by decide) (ev_op (ev_op (ev_var rfl) ev_c (rv_I (by walk_at "div"))) ev_c (rv_I (by walk_at "pos"))) (by omega)) fun u H4 e4 hu => ⟨_, _, rfl, .inr (.inl ⟨⟨[true, false], rfl, by decide⟩, hu, fun H5 e5 => kE H5 ((((e1.trans e2).trans e3).trans e4).trans e5)⟩)⟩
    refine q_when (et_B (ev_cmp (ev_op (ev_var rfl) ev_c (rv_I (by walk_at "pos"))) ev_c)) (fun hb H4 e4 => ?_) (fun hb H4 e4 => ?_)
    · refine s_retX3 hm2 (ex_menu hm2 (exs_cons hm2 (ex_of (ev_op (ev_un ev_c ru_neg) (ev_var rfl) rv_I0) (fun _ _ => .inr ⟨_, rfl, by omega⟩)) (exs_cons hm2 (ex_of (ev_op ev_c (ev_var rfl) rv_I0) (fun _ _ => .inr ⟨_, rfl, by omega⟩)) (exs_cons hm2 (ex_of ev_c (fun _ _ => .inl nn_non)) (exs_cons hm2 (ex_of ev_c (fun _ _ => .inl nn_bl)) (exs_cons hm2 (ex_of ev_c (fun _ _ => .inl nn_str)) exs_nil))))) (by decide) (ev_op (ev_op (ev_var rfl) ev_c (rv_I (by walk_at "div"))) ev_c (rv_I (by walk_at "pos"))) (by omega)) ev_c fun u H5 e5 hu => ⟨_, _, rfl, ?_, fun H6 e6 => kE H6 (((((e1.trans e2).trans e3).trans e4).trans e5).trans e6)⟩
      rcases hu with hu | ⟨c, rfl, hc⟩
      · exact .inr (.inr (.inl ⟨3, rfl, by omega, hu⟩))
      · exact .inr (.inr (.inr (.inl ⟨3, c, rfl, rfl, by omega, hc⟩)))
    refine q_when (et_B (ev_cmp (ev_op (ev_var rfl) ev_c (rv_I (by walk_at "pos"))) ev_c)) (fun hb H5 e5 => ?_) (fun hb H5 e5 => ?_)
    · refine s_retX2 ev_c (ex_menu hm1 (exs_cons hm1 (ex_of ev_c (fun _ _ => .inr ⟨0, rfl, by omega⟩)) (exs_cons hm1 (ex_of (ev_op (ev_un ev_c ru_neg) (ev_var rfl) rv_I0) (fun _ _ => .inr ⟨_, rfl, by omega⟩)) (exs_cons hm1 (ex_of ev_c (fun _ _ => .inl nn_non)) (exs_cons hm1 (ex_of ev_c (fun _ _ => .inl nn_bl)) (exs_cons hm1 (ex_of ev_c (fun _ _ => .inl nn_str)) exs_nil))))) (by decide) (ev_op (ev_op (ev_var rfl) ev_c (rv_I (by walk_at "div"))) ev_c (rv_I (by walk_at "pos"))) (by omega)) fun u H6 e6 hu => ⟨_, _, rfl, ?_, fun H7 e7 => kE H7 ((((((e1.trans e2).trans e3).trans e4).trans e5).trans e6).trans e7)⟩
      rcases hu with hu | ⟨c, rfl, hc⟩
      · exact .inl hu
      · exact .inr (.inl ⟨c, rfl, hc⟩)
    have e05 := (((e2.trans e3).trans e4).trans e5)
    refine q_asgX (ex_menu hm3 (exs_cons hm3 (ex_lst (ea_cons ev_c (ea_cons ev_c (ea_cons (ev_var rfl) (ea_cons ev_c ea_nil)))) (by simp) (fun p H1 e x => ⟨p, _, _, _, _, rfl, x, .inr (.inr (.inr (.inr ⟨3, 1, rfl, rfl, by omega, by omega, by omega, .inl (hv.mono ((e05.trans e)))⟩)))⟩)) (exs_cons hm3 (ex_lst (ea_cons ev_c (ea_cons ev_c (ea_cons ev_c (ea_cons (ev_var rfl) ea_nil)))) (by simp) (fun p H1 e x => ⟨p, _, _, _, _, rfl, x, .inr (.inr (.inr (.inr ⟨3, 1, rfl, rfl, by omega, by omega, by omega, .inr ⟨0, rfl, .inl (hv.mono ((e05.trans e)))⟩⟩)))⟩)) (exs_cons hm3 (ex_lst (ea_cons ev_c (ea_cons ev_c (ea_cons ev_c (ea_cons (ev_op (ev_un ev_c ru_neg) (ev_var rfl) rv_I0) ea_nil)))) (by simp) (fun p H1 e x => ⟨p, _, _, _, _, rfl, x, .inr (.inr (.inr (.inr ⟨3, 1, rfl, rfl, by omega, by omega, by omega, .inr ⟨0, rfl, .inr ⟨_, rfl, by omega⟩⟩⟩)))⟩)) (exs_cons hm3 (ex_lst (ea_cons ev_c (ea_cons ev_c (ea_cons ev_c (ea_cons ev_c ea_nil)))) (by simp) (fun p H1 e x => ⟨p, _, _, _, _, rfl, x, .inr (.inr (.inr (.inl ⟨1, 2, rfl, rfl, by omega, by omega⟩)))⟩)) (exs_cons hm3 (ex_lst (ea_cons (ev_var rfl) (ea_cons ev_c (ea_cons ev_c (ea_cons ev_c ea_nil)))) (by simp) (fun p H1 e x => ⟨p, _, _, _, _, rfl, x, .inr (.inr (.inl ⟨3, rfl, by omega, hv.mono ((e05.trans e))⟩))⟩)) exs_nil))))) (by decide) (ev_op (ev_op (ev_var rfl) ev_c (rv_I (by walk_at "div"))) ev_c (rv_I (by walk_at "pos"))) (by omega)) fun u H6 e6 hu => ?_
    obtain ⟨q, b', p', s', m', rfl, hq, hR⟩ := hu
    exact s_retC (ea_cons (ev_op (ev_var rfl) ev_c (rv_ixL (sq_of hq) (by rfl))) (ea_cons (ev_op (ev_var rfl) ev_c (rv_ixL (sq_of hq) (by rfl))) (ea_cons (ev_op (ev_var rfl) ev_c (rv_ixL (sq_of hq) (by rfl))) (ea_cons (ev_op (ev_var rfl) ev_c (rv_ixL (sq_of hq) (by rfl))) ea_nil)))) fun H7 e7 => ⟨_, _, _, _, rfl, hR.mono e7, fun H8 e8 => kE H8 (((e1.trans e05).trans e6).trans (e7.trans e8))⟩
end
end Eb
/-! ### enumerate(text) -/
namespace Eb
open PySem PySem.Spec PyProof.Rows L2 TL Evl Builtin Builtin.Str
/-- each sign of the text with its number, in a new pair -/
def Ites (x : Str) : It := ⟨fun i _ => i < x.cps.size, fun i H v H' => ∃ T c, v = .ref T ∧ H T = none ∧ H' = upd H T (.tup [.int (i : Nat), .str ⟨#[c]⟩]) ∧ x.cps[i]? = some c, fun i _ => i = x.cps.size⟩
theorem turn_enumS {P : Program} {w : World} {K : PySem.W.Frag} {elts : List Expr} {kk : Nat} {tpos : Pos} (x : Str) (t : Tok) (e it : Addr) :
    Turn P w K (.Tuple elts kk tpos) (Ites x) [e, it] e (fun i h => (∃ old, IsEnum h e it ((i : Nat) : Int) old) ∧ h.IsStrIter it (strIterType x) x t i ∧ e ≠ it) where
  mem := by simp
  obj := fun i h st b hb => by
    obtain ⟨⟨old, he⟩, ⟨o, ho, hc, hd⟩, _⟩ := st
    have e' : b = e ∨ b = it := by simpa using hb
    rcases e' with z | z
    · rw [z]; exact ⟨_, he, fun v q => nomatch q⟩
    · rw [z]; exact ⟨o, ho, fun v q => by rw [hd] at q; cases q⟩
  keep := fun i h h' st k => let ⟨⟨old, he⟩, ⟨o, ho, r⟩, hne⟩ := st; ⟨⟨old, k e (by simp) _ he⟩, ⟨o, k it (by simp) o ho, r⟩, hne⟩
  item := by
    intro X hP hw hK hc i pins s σ H E I hf st hg
    subst hP hw hK
    obtain ⟨⟨old, he⟩, hit, hne⟩ := st
    have hel : e < s.heap.objs.size := Heap.lt_size he
    have hil : it < s.heap.objs.size := by obtain ⟨_, q, _⟩ := hit; exact Heap.lt_size q
    have D : Draws X.prog X.w X.A.in1 it [it] x.cps.size (fun i v => ∃ c u, x.cps[i]? = some c ∧ v = .str ⟨#[c]⟩ u) (fun i h => h.IsStrIter it (strIterType x) x t i) := by
      unfold strIterType
      by_cases ha : x.cps.all (· < 128) = true
      · rw [if_pos ha]
        exact Draws.strAscii (show X.A.in1.handled = none from I.ok.hd hc) it x t
      · rw [if_neg ha]
        exact Draws.strWide (show X.A.in1.handled = none from I.ok.hd hc) it x t
    refine wpAny_pyNext_enum_itemD D he hit hg hne (by simp [hne]) fun u h' tk hP ho hit' hT hsz hk => ?_
    obtain ⟨c, ut, hcx, rfl⟩ := hP
    refine ⟨_, rfl, wpAny_letOwnedTupleGo_enum (s := { s with heap := h', toks := tk + 1 }) ho fun h'' he' sb => ?_⟩
    have hT2 : h''.get? s.heap.objs.size = some { cls := .type "tuple", data := .seq #[.int i tk, .str ⟨#[c]⟩ ut] } := (sb.2 _ (Nat.ne_of_gt hel)).trans hT
    have new : ObjOk X.prog X.w (upd H s.heap.objs.size (.tup [.int (i : Nat), .str ⟨#[c]⟩])) h'' s.heap.objs.size (.tup [.int (i : Nat), .str ⟨#[c]⟩]) :=
      ⟨by show 2 ≤ sizeLine; decide, [.int i tk, .str ⟨#[c]⟩ ut], .cons ⟨_, rfl⟩ (.cons ⟨_, rfl⟩ .nil), ⟨_, hT2, rfl, _, rfl⟩⟩
    have I1 : Inv X pins σ (upd H s.heap.objs.size (.tup [.int (i : Nat), .str ⟨#[c]⟩])) { s with heap := h'', toks := tk + 1 } :=
      I.turnedNew (ch := [e, it]) (fun b ob hb q => (sb.2 b (fun z => hb (by simp [z]))).trans (hk b ob (fun z => hb (by simp [z])) (fun z => hb (by simp [z])) q)) hf (Nat.le_refl _) new
    refine ⟨.ref s.heap.objs.size, _, I1, rfl, ⟨_, c, rfl, I.hok.fresh (Nat.le_refl _), rfl, hcx⟩, ⟨⟨.str ⟨#[c]⟩ ut, ?_⟩, ?_, hne⟩, fun b hb => ?_⟩
    · have e1 : ((i + 1 : Nat) : Int) = (i : Int) + 1 := by omega
      rw [e1]; exact he'
    · obtain ⟨o, ho2, r⟩ := hit'
      exact ⟨o, (sb.2 it (Ne.symm hne)).trans ho2, r⟩
    · have hb' : b < s.heap.objs.size := by
        have e' : b = e ∨ b = it := by simpa using hb
        rcases e' with z | z
        · rw [z]; exact hel
        · rw [z]; exact hil
      rw [upd_ne (Nat.ne_of_lt hb')]
      exact (hf b hb).1
  done := by
    intro X hP hw hK hc i pins s σ H E I hf st hg
    subst hP hw hK
    obtain ⟨⟨old, he⟩, hit, hne⟩ := st
    have hg' : i = x.cps.size := hg
    subst hg'
    have D : Draws X.prog X.w X.A.in1 it [it] x.cps.size (fun i v => ∃ c u, x.cps[i]? = some c ∧ v = .str ⟨#[c]⟩ u) (fun i h => h.IsStrIter it (strIterType x) x t i) := by
      unfold strIterType
      by_cases ha : x.cps.all (· < 128) = true
      · rw [if_pos ha]
        exact Draws.strAscii (show X.A.in1.handled = none from I.ok.hd hc) it x t
      · rw [if_neg ha]
        exact Draws.strWide (show X.A.in1.handled = none from I.ok.hd hc) it x t
    obtain ⟨f0, f1, f2, f3, f4, f5⟩ := hf it (by simp)
    exact wpAny_pyNext_enum_endD D he hit fun h' eb => ⟨rfl, I.turned (t' := s.toks) (fun b o hb q => eb b o hb q) f0 f1 f3 f4 f5⟩
  self := fun A i s Q E st h => let ⟨⟨_, he⟩, _⟩ := st; wpAny_pyIter_enum he h
def iEnumS (ta : TA) : TI := fun σ H R => ta σ H fun vs H1 => ∃ x, vs = [.str x] ∧ R (Ites x) H1
theorem pi_enumS {X : Cx} {e : Expr} {ta : TA} {p pos tpos : Pos} {elts : List Expr} {kk : Nat} (hg : Gl X "enumerate") (hm : X.mg "enumerate" = none) (ha : PA X [e] ta) (hs : starEach [e] X.env = [(false, eval e X.env)] := by rfl) :
    PI X (.Tuple elts kk tpos) (.Call (.Name "enumerate" p) [e] [] pos) (iEnumS ta) := by
  refine ⟨fun pins s σ H R I h => ?_⟩
  refine Call_ (ld_blt I hg hm boot_enumerate (PyProof.Rows.callWith_type1 (thn (ha.run pos pins s σ H _ I h) fun us s1 ⟨vs, H1, I1, r1, q1⟩ => ?_) hs rfl))
  obtain ⟨x, ex, q⟩ := q1
  subst ex
  cases r1 with
  | cons r rr =>
    cases rr
    obtain ⟨t, rfl⟩ := r
    refine call_enumerate_str fun h' he hit hsz hk => wpAny_pyIter_enum he ?_
    have I2 : Inv X pins σ H1 { s1 with heap := h' } := I1.kept (t' := s1.toks) hk
    refine ⟨s1.heap.objs.size + 1, [s1.heap.objs.size + 1, s1.heap.objs.size], _, _, H1, rfl, I2, turn_enumS x t (s1.heap.objs.size + 1) s1.heap.objs.size, ⟨⟨.none, he⟩, hit, Nat.succ_ne_self _⟩, fun b hb => ?_, q⟩
    have e' : b = s1.heap.objs.size + 1 ∨ b = s1.heap.objs.size := by simpa using hb
    have hle : s1.heap.objs.size ≤ b := by
      rcases e' with z | z
      · rw [z]; exact Nat.le_add_right _ _
      · rw [z]; exact Nat.le_refl _
    exact I1.fpOk hle (I1.hok.fresh hle)
theorem pg_tupK {X : Cx} {K : PySem.W.Frag} {es : List Expr} {k : Nat} {t : TGs} {n : Nat} {pos : Pos} (hK : X.K = K) (hc : X.calm = true) (h : PGs X es t)
    (hn : (assignEach es X.env).length = n := by rfl) (hst : (assignEach es X.env).findIdx? (·.1) = none := by rfl) : PG X (.Tuple es k pos) (gTup K n t) := hK ▸ pg_tup hc h hn hst
theorem walk_enumS {x : Str} : Walk (Ites x) x.cps.size (fun _ => True) (fun i H v H' => ∃ T c, v = .ref T ∧ H T = none ∧ H' = upd H T (.tup [.int (i : Nat), .str ⟨#[c]⟩]) ∧ x.cps[i]? = some c) :=
  ⟨fun _ _ hi _ => hi, fun _ _ => rfl, fun _ _ _ _ _ _ y => y⟩
/-! their readings -/
section
variable {K : PySem.W.Frag} {σ : L2.St} {H H' : Hp} {ta tb tc te : TE} {bs : List Bool} {D : Ends} {tz tu : TS}
theorem el_enumS {t1 : TA} {t : TT} {j1 j2 : Nat} {vs : List Nat} (f : Nat → Bool) (v : Nat → V) (h : EvA t1 σ H [.str (enc bs)]) (hz : bs.length ≤ 40000) (hw : ∀ x y, wipe (((wipe σ vs).set j1 (some x)).set j2 (some y)) vs = wipe σ vs)
    (ht : ∀ (i : Nat) (b : Bool) H1, Ex H H1 → bs[i]? = some b → EvT t (((wipe σ vs).set j1 (some (.int (i : Int)))).set j2 (some (.str (enc [b])))) H1 (f i))
    (he : ∀ (i : Nat) (b : Bool) H1, Ex H H1 → bs[i]? = some b → f i = true → Ev te (((wipe σ vs).set j1 (some (.int (i : Int)))).set j2 (some (.str (enc [b])))) H1 (v i)) :
    EvL (tLc (iEnumS t1) (gTup K 2 (gCons (gName j1) (gCons (gName j2) gNil))) t te vs) σ H (given bs.length f v) := fun H0 e Q q => h H0 e _ fun H1 e1 => ⟨enc bs, rfl, fun Dl hD => by
  have hsz : (enc bs).cps.size = bs.length := len_enc bs
  refine lc_it walk_enumS (Cw H1 f v Dl) ⟨hD, Ex.new hD, upd_same⟩ (fun _ _ _ _ => trivial) (fun i x Ha Hb hi p y => ?_) (fun H' p => ?_)
  · obtain ⟨T, c, rfl, hT, rfl, hc⟩ := y
    obtain ⟨p1, p2, p3⟩ := p
    have hb : ∃ b, bs[i]? = some b ∧ sg b = c := by
      have h2 : (enc bs).cps.toList[i]? = some c := by
        rw [Array.getElem?_toList]
        exact hc
      rw [cps_enc, List.getElem?_map] at h2
      cases hq : bs[i]? with
      | none =>
        rw [hq] at h2
        cases h2
      | some b =>
        rw [hq] at h2
        exact ⟨b, rfl, Option.some.inj h2⟩
    obtain ⟨b, hb, rfl⟩ := hb
    have e3 : Ex Ha (upd Ha T (.tup [.int (i : Int), .str ⟨#[sg b]⟩])) := Ex.new hT
    refine ⟨T, _, rfl, Or.inl (Or.inl upd_same), rfl, _, _, rfl, _, _, rfl, rfl, hw _ _, ?_⟩
    have p' : Cw H1 f v Dl i (upd Ha T (.tup [.int (i : Int), .str ⟨#[sg b]⟩])) := ⟨p1, p2.trans e3, e3 _ _ p3⟩
    exact cw_turn p' (by omega) (ht i b H1 (e.trans e1) hb) (fun hf => he i b H1 (e.trans e1) hb hf)
  · rw [hsz] at p
    exact q Dl H' (fresh_back e1 p.1) (e1.trans p.2.1) p.2.2⟩
/-- for i, x in enumerate(xs) -/
theorem q_forE {t1 : TA} {j1 j2 : Nat} {a : Addr} {ns : List Int} (h : EvA t1 σ H [.ref a]) (hx : SqL K H a (ns.map V.int)) (Pv : Nat → L2.St → Hp → Prop) (h0 : ∀ H1, Ex H H1 → Pv 0 σ H1) (hl : ∀ i σ' H', Pv i σ' H' → SqL K H' a (ns.map V.int))
    (hs : ∀ (i : Nat) (n : Int) σ' H1 H', ns[i]? = some n → Pv i σ' H1 → Ex H1 H' → tu { D with nx := Pv (i + 1), ct := Pv (i + 1), bk := tz D } ((σ'.set j1 (some (.int (i : Int)))).set j2 (some (.int n))) H') (hd : ∀ σ' H', Pv ns.length σ' H' → tz D σ' H') :
    tSeq (tFor (iEnum K t1) (gTup K 2 (gCons (gName j1) (gCons (gName j2) gNil))) tu) tz D σ H := h H (Ex.refl H) _ fun H1 e1 => ⟨a, ns.map V.int, rfl, ex_l e1 hx,
  for_it (D := { D with nx := tz D }) (walk_enum (xs := ns.map V.int)) Pv (h0 H1 e1) (fun i σ' H' _ p => hl i σ' H' p) (fun i x σ' Ha Hb hi p y => by
    obtain ⟨T, u, w, rfl, hT, rfl, hu, hw⟩ := y
    have eu := Option.some.inj hu
    subst eu
    replace hw : (ns.map V.int)[i]? = some w := hw
    rw [List.getElem?_map] at hw
    cases hq : ns[i]? with
    | none =>
      rw [hq] at hw
      cases hw
    | some n =>
      rw [hq] at hw
      have e2 : V.int n = w := Option.some.inj hw
      subst e2
      exact ⟨T, _, rfl, Or.inl (Or.inl upd_same), rfl, _, _, rfl, _, _, rfl, rfl, hs i n σ' Ha _ hq p (Ex.new hT)⟩) (fun σ' H' p => hd σ' H' (by
    rw [List.length_map] at p
    exact p))⟩
end
end Eb
namespace Eb
open PySem PySem.Spec PyProof.Rows L2 TL Evl
abbrev sGapsOf : Stmt := topS 21
theorem scGapsOf : FnScope ["ring", "at", "places", "found", "place", "later", "sign"] ["ring"] (defScope sGapsOf) := ⟨rfl, rfl, rfl, by decide +kernel, rfl, by decide +kernel, by decide +kernel⟩
def spGapsOf (_ : PySem.W.Frag) : Sp := fun vs H Q _ => ∃ (bs : List Bool), vs = [.str (enc bs)] ∧ (0 < bs.length ∧ bs.length ≤ 400) ∧ RetL ((gps bs).map V.int) H Q
theorem spl_gaps_of {K : PySem.W.Frag} {H : Hp} {bs : List Bool} (h : 0 < bs.length ∧ bs.length ≤ 400) : SpL (spGapsOf K) [.str (enc bs)] H ((gps bs).map V.int) := fun _ _ _ q _ => ⟨bs, rfl, h, q⟩
theorem posf_len : ∀ (bs : List Bool) (o : Nat), (posf o bs).length ≤ bs.length
  | [], _ => Nat.le_refl _
  | true :: t, o => Nat.succ_le_succ (posf_len t (o + 1))
  | false :: t, o => Nat.le_succ_of_le (posf_len t (o + 1))
section
variable {P : Program} {w : World} {K : PySem.W.Frag} {mg : Str → Option Value} {base : Heap}
theorem ok_gaps_of (D : DefAt K mg "gaps_of" sGapsOf) (B : Bn mg) (T : Tx mg) : C8.Cal P w K mg base 1 "gaps_of" (spGapsOf K) [] := by
  refine cal_of D (fun _ _ _ _ _ _ us hl => match us, hl with | [_], _ => rfl) scGapsOf (fun vs H Q E h => ?_) (fun f cdv A outer s H vs Q E hr h => ?_)
  · obtain ⟨bs, rfl, _⟩ := h
    rfl
  · obtain ⟨bs, rfl, ⟨h0, h1⟩, k⟩ := h
    refine ⟨_, (pss_cons (ps_setLc (i := 2) (own := [("at", 1), ("sign", 6)]) rfl scGapsOf.nd rfl rfl (sw_true rfl rfl rfl (by decide +kernel)) (pi_enumS (by rfl) B.enumerate_ (pa_cons (pv 0) pa_nil)) (blkOk_by (own := [("at", 1), ("sign", 6)]) (N := ["ring", "at", "places", "found", "place", "later", "sign"]) (sc := defScope sGapsOf) (by decide +kernel)) (fun _ _ _ _ _ => (pg_tupK (K := K) (n := 2) rfl (by rfl) (pgs_cons (pg_name (i := 1) scGapsOf.nd rfl (Or.inl rfl)) (pgs_cons (pg_name (i := 6) scGapsOf.nd rfl (Or.inl rfl)) pgs_nil)))) (fun _ _ _ _ _ => (pts_one (pt_cmpR op_eq (pv 6) (C8.pe_gc rfl T.beat) (nomark _)))) (fun _ _ _ _ _ => (pv 1)))
      (pss_cons (ps_set (i := 3) scGapsOf.nd rfl (Or.inl rfl) (pe_lst pa_nil))
      (pss_cons (ps_for PassesOwn.never rfl (pi_enum (by rfl) B.enumerate_ (pa_cons (pv 2) pa_nil)) (pg_tupK (K := K) (n := 2) rfl (by rfl) (pgs_cons (pg_name (i := 1) scGapsOf.nd rfl (Or.inl rfl)) (pgs_cons (pg_name (i := 4) scGapsOf.nd rfl (Or.inl rfl)) pgs_nil)))
      (pss_cons (ps_set (i := 5) scGapsOf.nd rfl (Or.inl rfl) (pe_ix (ix_listK (K := K) rfl) (pv 2) (pe_op op_mod (pe_op op_add (pv 1) pe_int) (pe_callB call_len_seq (by rfl) B.len_ PySem.boot_len (pa_cons (pv 2) pa_nil))) (fun _ _ => rfl)))
      (pss_one (ps_expr (pe_bm PySem.F.plainAttrs_list PySem.F.slot_list_append PySem.F.type_list_append mt_append (pv 3) (pa_cons (pe_op op_add (pe_op op_mod (pe_op op_sub (pe_op op_sub (pv 5) (pv 4)) pe_int) (pe_callB call_len_str (by rfl) B.len_ PySem.boot_len (pa_cons (pv 0) pa_nil))) pe_int) pa_nil))))))
      (pss_one (ps_ret (pv 3)))))), ?_⟩
    have hpl : (bpi bs).length ≤ bs.length := posf_len bs 0
    refine q_asgL (el_eq (ys := (bpi bs).map V.int) (el_enumS (fun i => bs.getD i false) (fun i => V.int (i : Int)) (ea_cons (ev_var rfl) ea_nil) (by omega) (fun _ _ => rfl) (fun i b H9 e9 hb => et_eq (et_test (ev_op (ev_var rfl) ev_c rv_eqS)) ?_) (fun i b H9 e9 hb hf => (ev_var rfl))) ?_) fun p H1 hp e1 x1 => ?_
    · rw [List.getD_eq_getElem?_getD, hb]
      cases b <;> rfl
    · unfold given bpi
      rw [← posf_range bs 0, List.map_map]
      rfl
    have hS : SqL K H1 p ((bpi bs).map V.int) := sq_of x1
    refine q_asgL (el_lst ea_nil (by walk_at "sz")) fun l H2 hl e2 x2 => ?_
    have hl0 : H l = none := fresh_back e1 hl
    have hgl : (gps bs).length = (bpi bs).length := by
      unfold gps
      rw [List.length_map, List.length_range]
    refine q_forE (ea_cons (ev_var rfl) ea_nil) (ex_l e2 hS) (fun i σ' H' => ∃ z1 z2 z3 z4, σ' = [some (.str (enc bs)), z1, some (.ref p), some (.ref l), z2, z3, z4] ∧ Ex H1 H' ∧ H' l = some (.lst (((gps bs).take i).map V.int)))
      (fun H3 e3 => ⟨_, _, _, _, rfl, e2.trans e3, e3 _ _ x2⟩) (fun i σ' H' hp => by
        obtain ⟨_, _, _, _, _, ex, _⟩ := hp
        exact ex_l ex hS) (fun i n σ' H3 H' hn hp e3 => ?_) (fun σ' H' hp => ?_)
    · obtain ⟨z1, z2, z3, z4, rfl, ex, hx⟩ := hp
      replace hx := e3 _ _ hx
      replace hS := ex_l (ex.trans e3) hS
      have hi := (List.getElem?_eq_some_iff.mp hn).1
      refine q_asg (ev_op (ev_var rfl) (ev_op (ev_op (ev_var rfl) ev_c rv_I0) (ev_cb (ea_cons (ev_var rfl) ea_nil) (rc_lenLi (by walk_at "lst"))) (rv_I (by walk_at "pos"))) (rv_ixLmod (by walk_at "lst") (by walk_at "pos") (by walk_at "ix"))) fun H4 e4 => ?_
      replace hx := e4 _ _ hx
      refine s_app hx (ev_var rfl) (ev_op (ev_op (ev_op (ev_op (ev_var rfl) (ev_var rfl) rv_I0) ev_c rv_I0) (ev_cb (ea_cons (ev_var rfl) ea_nil) (rc_lenS (by walk_at "sz"))) (rv_I (by walk_at "pos"))) ev_c rv_I0) (by
        rw [List.length_map, List.length_take]
        omega) fun H5 e5 => ?_
      refine ⟨_, _, _, _, rfl, Ex.mut (((ex.trans e3).trans e4).trans e5) hl, ?_⟩
      have e1 : (((i : Int) + 1) % ((bpi bs).length : Int)).toNat = (i + 1) % (bpi bs).length := by
        have : ((i : Int) + 1) % ((bpi bs).length : Int) = (((i + 1) % (bpi bs).length : Nat) : Int) := by
          rw [Int.natCast_emod]
          rfl
        rw [this, Int.toNat_natCast]
      have e2 : (bpi bs).getD i 0 = n := by
        rw [List.getD_eq_getElem?_getD, hn]
        rfl
      have hg : (gps bs)[i]? = some (((bpi bs).getD (((i : Int) + 1) % ((bpi bs).length : Int)).toNat 0 - n - 1) % (bs.length : Int) + 1) := by
        unfold gps
        rw [List.getElem?_map, List.getElem?_range hi, e1, ← e2]
        rfl
      rw [upd_same, List.take_add_one, hg, List.map_append]
      rfl
    · obtain ⟨z1, z2, z3, z4, rfl, ex, hx⟩ := hp
      rw [← hgl, List.take_length] at hx
      exact s_ret (ev_var rfl) fun H3 e3 => k.go (Ex.refl H) hl0 ((e1.trans ex).trans e3) (e3 _ _ hx)
end
end Eb
namespace Eb
open PySem PySem.Spec PyProof.Rows L2 TL Evl
abbrev sGaps : Stmt := topS 22
theorem scGaps : FnScope ["ring"] ["ring"] (defScope sGaps) := ⟨rfl, rfl, rfl, by decide +kernel, rfl, by decide +kernel, by decide +kernel⟩
def GapsOk (cN : Addr) (bs : List Bool) (H : Hp) (Q : VK) (E : XK) : Prop := (0 < bs.length ∧ bs.length ≤ 400) ∧ (bs.count true = 0 → ∀ H2, Ex H H2 → E (.ref cN) none H2) ∧ (0 < bs.count true → RetL ((gps bs).map V.int) H Q)
def spGapsB (K : PySem.W.Frag) (cR cN : Addr) : Sp := fun vs H Q E => ∃ v, vs = [v] ∧ ((∃ bs : List Bool, v = .str (enc bs) ∧ GapsOk cN bs H Q E) ∨ (BadRingV K H v ∧ ∀ H2, Ex H H2 → E (.ref cR) none H2))
theorem spl_gaps {K : PySem.W.Frag} {cR cN : Addr} {H : Hp} {bs : List Bool} (h : (0 < bs.length ∧ bs.length ≤ 400) ∧ 0 < bs.count true) : SpL (spGapsB K cR cN) [.str (enc bs)] H ((gps bs).map V.int) := fun _ _ _ q _ => ⟨_, rfl, .inl ⟨bs, rfl, h.1, fun c => absurd h.2 (by omega), fun _ => q⟩⟩
theorem cont_cnt (bs : List Bool) : bs.contains true = decide (0 < bs.count true) := by
  rw [Bool.eq_iff_iff, List.contains_iff_mem, decide_eq_true_eq, List.count_pos_iff]
section
variable {P : Program} {w : World} {K : PySem.W.Frag} {mg : Str → Option Value} {base : Heap}
variable {cBeatError cBadRing cBadCount cNoBeat cUneven : Addr}
theorem ok_gaps (D : DefAt K mg "gaps" sGaps) (Y : Yz K mg cBeatError cBadRing cBadCount cNoBeat cUneven) (T : Tx mg) (c_asked_ring : CalX P w K mg base 4 "asked_ring" (spAskedRingB K cBadRing) []) (c_gaps_of : C8.Cal P w K mg base 1 "gaps_of" (spGapsOf K) []) : CalX P w K mg base 5 "gaps" (spGapsB K cBadRing cNoBeat) [] := by
  refine calx_of D (fun _ _ _ _ _ _ us hl => match us, hl with | [_], _ => rfl) scGaps (fun vs H Q E h => ?_) (fun f cdv A outer s H vs Q E hr h => ?_)
  · obtain ⟨v, rfl, _⟩ := h
    rfl
  · obtain ⟨v, rfl, h⟩ := h
    refine ⟨_, (pss_cons (ps_expr (pe_cx (passD (L2N.takes_of rfl rfl rfl rfl)) c_asked_ring hr (by decide) (by rfl) (pa_cons (pv 0) pa_nil)))
      (pss_cons (ps_if (pt_cmpR op_notIn_sign (C8.pe_gc rfl T.beat) (pv 0) (by rfl))
      (pss_one (ps_raiseE rfl (L2N.takes_of rfl rfl rfl rfl) Y.e_NoBeat Y.m_NoBeat (by rfl)))
      pss_nil)
      (pss_one (ps_ret (C8.pe_c c_gaps_of hr (by decide) (by rfl) (pa_cons (pv 0) pa_nil)))))), ?_⟩
    rcases h with ⟨bs, rfl, ⟨h0, h1⟩, kE, k⟩ | ⟨hb, kE⟩
    case inr => exact q_dropC (ea_cons (ev_var rfl) ea_nil) fun H1 e1 => ⟨v, rfl, .inr ⟨hb.mono e1, fun H2 e2 => kE H2 (e1.trans e2)⟩⟩
    refine q_drop (ev_call (ea_cons (ev_var rfl) ea_nil) (spv_asked_ring (by walk_at "pre"))) fun H1 e1 => ?_
    refine q_when (et_test (ev_op ev_c (ev_var rfl) rv_notInX)) (fun hb H2 e2 => ?_) (fun hb H2 e2 => ?_)
    · rw [cont_cnt, Bool.not_eq_true', decide_eq_false_iff_not] at hb
      exact kE (by omega) H2 (e1.trans e2)
    · rw [cont_cnt, Bool.not_eq_false', decide_eq_true_eq] at hb
      exact s_retL (el_call (ea_cons (ev_var rfl) ea_nil) (spl_gaps_of (by walk_at "pre"))) fun p H3 hp e3 x3 => (k hb).go (e1.trans e2) hp e3 x3
end
end Eb
namespace Eb
open PySem PySem.Spec PyProof.Rows L2 TL Evl
abbrev sFolded : Stmt := topS 23
theorem scFolded : FnScope ["ring", "found", "gap"] ["ring"] (defScope sFolded) := ⟨rfl, rfl, rfl, by decide +kernel, rfl, by decide +kernel, by decide +kernel⟩
def FoldOk (cN cU : Addr) (bs : List Bool) (H : Hp) (Q : VK) (E : XK) : Prop := (0 < bs.length ∧ bs.length ≤ 400) ∧ (bs.count true = 0 → ∀ H2, Ex H H2 → E (.ref cN) none H2) ∧
  (0 < bs.count true → mn (gps bs) + 1 < mx (gps bs) → ∀ H2, Ex H H2 → E (.ref cU) none H2) ∧ (0 < bs.count true → ¬ mn (gps bs) + 1 < mx (gps bs) → RetV (.str (enc (fld bs))) H Q)
def spFoldedB (K : PySem.W.Frag) (cR cN cU : Addr) : Sp := fun vs H Q E => ∃ v, vs = [v] ∧ ((∃ bs : List Bool, v = .str (enc bs) ∧ FoldOk cN cU bs H Q E) ∨ (BadRingV K H v ∧ ∀ H2, Ex H H2 → E (.ref cR) none H2))
theorem gps_len (bs : List Bool) : (gps bs).length ≤ bs.length ∧ (0 < bs.count true → 0 < (gps bs).length) := by
  constructor
  · unfold gps
    rw [List.length_map, List.length_range]
    exact posf_len bs 0
  · intro h
    obtain ⟨k, gs, _, hne, _, _, e, _⟩ := ring_gaps h
    rw [e, List.length_map]
    exact List.length_pos_iff.mpr hne
section
variable {P : Program} {w : World} {K : PySem.W.Frag} {mg : Str → Option Value} {base : Heap}
variable {cBeatError cBadRing cBadCount cNoBeat cUneven : Addr}
theorem ok_folded (D : DefAt K mg "folded" sFolded) (Y : Yz K mg cBeatError cBadRing cBadCount cNoBeat cUneven) (B : Bn mg) (T : Tx mg) (c_gaps : CalX P w K mg base 5 "gaps" (spGapsB K cBadRing cNoBeat) []) : CalX P w K mg base 6 "folded" (spFoldedB K cBadRing cNoBeat cUneven) [] := by
  refine calx_of D (fun _ _ _ _ _ _ us hl => match us, hl with | [_], _ => rfl) scFolded (fun vs H Q E h => ?_) (fun f cdv A outer s H vs Q E hr h => ?_)
  · obtain ⟨v, rfl, _⟩ := h
    rfl
  · obtain ⟨v, rfl, h⟩ := h
    refine ⟨_, (pss_cons (ps_set (i := 1) scFolded.nd rfl (Or.inr rfl) (pe_cx (passD (L2N.takes_of rfl rfl rfl rfl)) c_gaps hr (by decide) (by rfl) (pa_cons (pv 0) pa_nil)))
      (pss_cons (ps_if (pt_cmp (pc_gt (pe_callB (cr_maxK (K := K) rfl rfl) (by rfl) B.max_ (by decide +kernel) (pa_cons (pv 1) pa_nil)) (pe_op op_add (pe_callB (cr_minK (K := K) rfl rfl) (by rfl) B.min_ (by decide +kernel) (pa_cons (pv 1) pa_nil)) pe_int)))
      (pss_one (ps_raiseE rfl (L2N.takes_of rfl rfl rfl rfl) Y.e_Uneven Y.m_Uneven (by rfl)))
      pss_nil)
      (pss_one (ps_ret (pe_join pe_s0 (pe_lc (own := [("gap", 2)]) (g := gName 2) rfl scFolded.nd (pi_list (pv 1)) (blkOk_by (own := [("gap", 2)]) (N := ["ring", "found", "gap"]) (sc := defScope sFolded) (by decide +kernel)) (fun _ _ _ _ _ => (pg_name (i := 2) scFolded.nd rfl (Or.inl rfl))) (fun _ _ _ _ _ => pts_nil) (fun _ _ _ _ _ => (pe_ifExp (pt_cmp (pc_gt (pv 2) (pe_callB (cr_minK (K := K) rfl rfl) (by rfl) B.min_ (by decide +kernel) (pa_cons (pv 1) pa_nil)))) (C8.pe_gc rfl T.beat) (C8.pe_gc rfl T.rest))))))))), ?_⟩
    rcases h with ⟨bs, rfl, h0, kN, kU, k⟩ | ⟨hb, kE⟩
    case inr => exact q_asgC (ea_cons (ev_var rfl) ea_nil) fun H1 e1 => ⟨v, rfl, .inr ⟨hb.mono e1, fun H2 e2 => kE H2 (e1.trans e2)⟩⟩
    refine q_asgC (ea_cons (ev_var rfl) ea_nil) fun H1 e1 => ⟨_, rfl, .inl ⟨bs, rfl, h0, fun c H2 e2 => kN c H2 (e1.trans e2), fun hc p H2 hp e2 x2 => ?_⟩⟩
    obtain ⟨g1, g2⟩ := gps_len bs
    replace g2 := g2 hc
    refine q_when (et_B (ev_cmp (ev_cb (ea_cons (ev_var rfl) ea_nil) (rc_max (by walk_at "lst") (by walk_at "ln"))) (ev_op (ev_cb (ea_cons (ev_var rfl) ea_nil) (rc_min (by walk_at "lst") (by walk_at "ln"))) ev_c rv_I0))) (fun hb H3 e3 => ?_) (fun hb H3 e3 => ?_)
    · exact kU hc (of_decide_eq_true hb) H3 ((e1.trans e2).trans e3)
    · replace x2 := e3 _ _ x2
      refine s_ret (ev_eq (ev_join1N ev_c (el_mapL (ev_var rfl) (by walk_at "lst") (by walk_at "sz") (fun _ => rfl) (fun i9 H9 e9 h9 => Ev.mono e9 (ev_ifS (et_B (ev_cmp (ev_var rfl) (ev_cb (ea_cons (ev_var rfl) ea_nil) (rc_min (by walk_at "lst") (by walk_at "ln"))))) ev_c ev_c))) (by walk_at "sz")) ?_) fun H4 e4 => (k hc (of_decide_eq_false hb)).go (((e1.trans e2).trans e3).trans e4)
      rfl
end
end Eb
/-! ### a ring is even iff its gaps differ by one at most and the folded ring is even -/
namespace Eb
open PySem PySem.Spec PyProof.Rows L2 TL Evl
def Sm (gs : List Nat) (j : Nat) : Int := (((gs.take j).sum : Nat) : Int)
/-- the folded ring's height -/
def Dg (gs : List Nat) (j : Nat) : Int := (gs.length : Int) * Sm gs j - (j : Int) * ((gs.sum : Nat) : Int)
theorem rw_cnt : ∀ gs : List Nat, (rw_ gs).count true = gs.length
  | [] => rfl
  | g :: t => by
    have e : rw_ (g :: t) = true :: (List.replicate (g - 1) false ++ rw_ t) := rfl
    rw [e, List.count_cons_self, List.count_append, List.count_replicate, rw_cnt t]
    simp
theorem cbt_blk : ∀ (gs : List Nat) (j o : Nat), (∀ g ∈ gs, 1 ≤ g) → j < gs.length → o ≤ gs.getD j 0 → cbt (rw_ gs) ((gs.take j).sum + o) = (j : Int) + if o = 0 then 0 else 1
  | [], _, _, _, h, _ => absurd h (Nat.not_lt_zero _)
  | g :: t, 0, o, hg, _, ho => by
    have h1 := hg g List.mem_cons_self
    have e : rw_ (g :: t) = true :: (List.replicate (g - 1) false ++ rw_ t) := rfl
    have ho2 : o ≤ g := ho
    rw [List.take_zero, List.sum_nil, Nat.zero_add, e]
    unfold cbt
    cases o with
    | zero => simp
    | succ o =>
      rw [List.take_succ_cons, List.count_cons_self, List.take_append_of_le_length (by rw [List.length_replicate]; omega), List.take_replicate, List.count_replicate]
      simp
  | g :: t, j + 1, o, hg, hj, ho => by
    have h1 := hg g List.mem_cons_self
    have ih := cbt_blk t j o (fun x hx => hg x (List.mem_cons_of_mem _ hx)) (by simpa using hj) ho
    have e : rw_ (g :: t) = rblk g ++ rw_ t := rfl
    have hl : (rblk g).length = g := by
      unfold rblk
      rw [List.length_cons, List.length_replicate]
      omega
    have hc : (rblk g).count true = 1 := by
      unfold rblk
      rw [List.count_cons_self, List.count_replicate]
      simp
    rw [List.take_succ_cons, List.sum_cons, e]
    unfold cbt at ih ⊢
    rw [Nat.add_assoc, List.take_append, hl, List.take_of_length_le (by omega), Nat.add_sub_cancel_left, List.count_append, hc]
    omega
theorem in_blk : ∀ (gs : List Nat) (x : Nat), x < gs.sum → ∃ j o, j < gs.length ∧ o < gs.getD j 0 ∧ x = (gs.take j).sum + o
  | [], x, h => absurd h (Nat.not_lt_zero _)
  | g :: t, x, h => by
    rw [List.sum_cons] at h
    by_cases c : x < g
    · exact ⟨0, x, by simp, c, by simp⟩
    · obtain ⟨j, o, h1, h2, h3⟩ := in_blk t (x - g) (by omega)
      refine ⟨j + 1, o, by simpa using h1, h2, ?_⟩
      rw [List.take_succ_cons, List.sum_cons]
      omega
theorem sum_ge : ∀ gs : List Nat, (∀ g ∈ gs, 1 ≤ g) → gs.length ≤ gs.sum
  | [], _ => Nat.le_refl _
  | g :: t, h => by
    have h1 := h g List.mem_cons_self
    have := sum_ge t fun x hx => h x (List.mem_cons_of_mem _ hx)
    rw [List.length_cons, List.sum_cons]
    omega
section
variable {gs : List Nat}
theorem hgt_blk (hg : ∀ g ∈ gs, 1 ≤ g) {j o : Nat} (hj : j < gs.length) (ho : o ≤ gs.getD j 0) : hgt (rw_ gs) ((gs.take j).sum + o) = -Dg gs j + if o = 0 then 0 else ((gs.sum : Nat) : Int) - (gs.length : Int) * (o : Int) := by
  have h1 := take_sum_le gs j hj
  have h2 := take_sum_all gs (j + 1)
  rw [hgt_low (by rw [rw_len gs hg]; omega), rw_len gs hg, rw_cnt, cbt_blk gs j o hg hj ho]
  unfold Dg Sm
  by_cases c : o = 0
  · subst c
    rw [if_pos rfl, if_pos rfl]
    have e : (((gs.take j).sum + 0 : Nat) : Int) = (((gs.take j).sum : Nat) : Int) := by omega
    rw [e]
    grind
  · rw [if_neg c, if_neg c]
    have e : (((gs.take j).sum + o : Nat) : Int) = (((gs.take j).sum : Nat) : Int) + (o : Int) := by omega
    rw [e]
    grind
theorem Dg_0 : Dg gs 0 = 0 := by
  unfold Dg Sm
  simp
theorem Dg_end : Dg gs gs.length = 0 := by
  unfold Dg Sm
  rw [List.take_length]
  omega
theorem Dg_succ {j : Nat} (hj : j < gs.length) : Dg gs (j + 1) = Dg gs j + (gs.length : Int) * ((gs.getD j 0 : Nat) : Int) - ((gs.sum : Nat) : Int) := by
  unfold Dg Sm
  rw [← take_sum_le gs j hj]
  have e : (((gs.take j).sum + gs.getD j 0 : Nat) : Int) = (((gs.take j).sum : Nat) : Int) + ((gs.getD j 0 : Nat) : Int) := by omega
  rw [e]
  grind
def FlatD (gs : List Nat) : Prop := ∀ i j, i < gs.length → j < gs.length → Dg gs i - Dg gs j < gs.length
theorem FlatD.le (h : FlatD gs) (h0 : 0 < gs.length) {i j : Nat} (hi : i ≤ gs.length) (hj : j ≤ gs.length) : Dg gs i - Dg gs j < gs.length := by
  have e : ∀ i, i ≤ gs.length → ∃ i', i' < gs.length ∧ Dg gs i = Dg gs i' := fun i hi => by
    rcases Nat.lt_or_ge i gs.length with c | c
    · exact ⟨i, c, rfl⟩
    · have : i = gs.length := by omega
      subst this
      exact ⟨0, h0, by rw [Dg_end, Dg_0]⟩
  obtain ⟨i', hi', e1⟩ := e i hi
  obtain ⟨j', hj', e2⟩ := e j hj
  rw [e1, e2]
  exact h i' j' hi' hj'
theorem flat_D (hg : ∀ g ∈ gs, 1 ≤ g) (h0 : 0 < gs.length) : Flat (rw_ gs) ↔ FlatD gs := by
  have hlen := rw_len gs hg
  have hsum := sum_ge gs hg
  constructor
  · intro hf i j hi hj
    have hgi : 1 ≤ gs.getD i 0 := by
      rw [List.getD_eq_getElem?_getD, List.getElem?_eq_getElem hi]
      exact hg _ (List.getElem_mem hi)
    have hgj : 1 ≤ gs.getD j 0 := by
      rw [List.getD_eq_getElem?_getD, List.getElem?_eq_getElem hj]
      exact hg _ (List.getElem_mem hj)
    have a1 := hgt_blk hg (j := i) (o := 0) hi (by omega)
    have a2 := hgt_blk hg (j := j) (o := 1) hj (by omega)
    rw [if_pos rfl, Nat.add_zero] at a1
    rw [if_neg (by omega)] at a2
    have b1 := take_sum_le gs i hi
    have b2 := take_sum_all gs (i + 1)
    have b3 := take_sum_le gs j hj
    have b4 := take_sum_all gs (j + 1)
    have key : ∀ x, x ≤ (rw_ gs).length → hgt (rw_ gs) x - hgt (rw_ gs) (gs.take i).sum < (rw_ gs).length := fun x hx => by
      rcases Nat.lt_or_ge x (rw_ gs).length with c | c
      · exact hf x _ c (by omega)
      · have : x = (rw_ gs).length := by omega
        rw [this, hgt_full]
        exact hf 0 _ (by omega) (by omega)
    have k1 := key ((gs.take j).sum + 1) (by omega)
    rw [a1, a2, hlen] at k1
    have e1 : (gs.length : Int) * ((1 : Nat) : Int) = gs.length := by simp
    rw [e1] at k1
    omega
  · intro hD x y hx hy
    rw [hlen] at hx hy
    obtain ⟨i, o, hi, ho, rfl⟩ := in_blk gs x hx
    obtain ⟨j, o', hj, ho', rfl⟩ := in_blk gs y hy
    rw [hgt_blk hg hi (by omega), hgt_blk hg hj (by omega), hlen]
    have d1 := hD j i hj hi
    have d2 := hD.le h0 (i := j + 1) (j := i) (by omega) (by omega)
    have d3 := Dg_succ hj
    have hx2 : (if o = 0 then 0 else ((gs.sum : Nat) : Int) - (gs.length : Int) * (o : Int)) ≤ ((gs.sum : Nat) : Int) - gs.length := by
      by_cases c : o = 0
      · rw [if_pos c]
        omega
      · rw [if_neg c]
        have : (gs.length : Int) * 1 ≤ (gs.length : Int) * (o : Int) := Int.mul_le_mul_of_nonneg_left (by omega) (by omega)
        omega
    by_cases c : o' = 0
    · rw [if_pos c]
      omega
    · rw [if_neg c]
      have h5 : (gs.length : Int) * (o' : Int) ≤ (gs.length : Int) * (((gs.getD j 0 : Nat) : Int) - 1) := Int.mul_le_mul_of_nonneg_left (by omega) (by omega)
      rw [Int.mul_sub, Int.mul_one] at h5
      omega
theorem flatD_near (hD : FlatD gs) (h0 : 0 < gs.length) {i j : Nat} (hi : i < gs.length) (hj : j < gs.length) : gs.getD i 0 ≤ gs.getD j 0 + 1 := by
  have d1 := hD.le h0 (i := i + 1) (j := j + 1) (by omega) (by omega)
  have d2 := hD.le h0 (i := j) (j := i) (by omega) (by omega)
  have s1 := Dg_succ hi
  have s2 := Dg_succ hj
  have h : (gs.length : Int) * ((gs.getD i 0 : Nat) : Int) < (gs.length : Int) * (((gs.getD j 0 : Nat) : Int) + 2) := by
    rw [Int.mul_add]
    omega
  have := Int.lt_of_mul_lt_mul_left h (by omega)
  omega
/-- the folded ring of gaps q and q + 1 -/
theorem long_cnt {q : Nat} : ∀ gs : List Nat, (∀ g ∈ gs, q ≤ g ∧ g ≤ q + 1) → (((gs.map fun g => decide (q < g)).count true : Nat) : Int) = ((gs.sum : Nat) : Int) - (q : Int) * (gs.length : Int)
  | [], _ => by simp
  | g :: t, h => by
    have h1 := h g List.mem_cons_self
    have ih := long_cnt t fun x hx => h x (List.mem_cons_of_mem _ hx)
    rw [List.map_cons, List.sum_cons, List.length_cons]
    have e1 : (((t.length + 1 : Nat)) : Int) = (t.length : Int) + 1 := by omega
    rw [e1, Int.mul_add, Int.mul_one]
    by_cases c : q < g
    · rw [decide_eq_true c, List.count_cons_self]
      omega
    · rw [decide_eq_false c, List.count_cons_of_ne (by decide)]
      omega
theorem flat_long {q : Nat} (h : ∀ g ∈ gs, q ≤ g ∧ g ≤ q + 1) : Flat (gs.map fun g => decide (q < g)) ↔ FlatD gs := by
  have hl : (gs.map fun g => decide (q < g)).length = gs.length := List.length_map ..
  have hh : ∀ j, j < gs.length → hgt (gs.map fun g => decide (q < g)) j = Dg gs j := fun j hj => by
    rw [hgt_low (by omega), hl, long_cnt gs h]
    have e : cbt (gs.map fun g => decide (q < g)) j = Sm gs j - (q : Int) * (j : Int) := by
      unfold cbt Sm
      rw [← List.map_take, long_cnt _ fun g hg => h g (List.mem_of_mem_take hg), List.length_take, Nat.min_eq_left (by omega)]
    rw [e]
    unfold Dg
    grind
  unfold Flat FlatD
  rw [hl]
  exact ⟨fun hf i j hi hj => by
    have := hf i j hi hj
    rw [hh i hi, hh j hj] at this
    exact this, fun hf i j hi hj => by
    rw [hh i hi, hh j hj]
    exact hf i j hi hj⟩
end
/-- the law of folding -/
theorem fold_flat {bs : List Bool} (h : 0 < bs.count true) : (Flat bs ↔ (¬ mn (gps bs) + 1 < mx (gps bs) ∧ Flat (fld bs))) ∧ (fld bs).length = bs.count true ∧ (fld bs).count true < bs.count true := by
  obtain ⟨k, gs, hg, hne, hk, hbk, hgp, hrw, _, _⟩ := ring_gaps h
  have h0 : 0 < gs.length := List.length_pos_iff.mpr hne
  have hb : bs.count true = gs.length := by rw [← rot_cnt (k := k) (by omega), hrw, rw_cnt]
  have hlen : 0 < (gps bs).length := by
    rw [hgp, List.length_map]
    exact h0
  obtain ⟨a1, a2⟩ := mx_mem hlen
  obtain ⟨b1, b2⟩ := mn_mem hlen
  have hfl : Flat bs ↔ FlatD gs := by rw [← flat_rot_iff (k := k) (by omega), hrw, flat_D hg h0]
  obtain ⟨m, hm, em⟩ : ∃ m ∈ gs, (m : Int) = mn (gps bs) := by
    rw [hgp] at b1
    obtain ⟨m, hm, e⟩ := List.mem_map.mp b1
    rw [← hgp] at e
    exact ⟨m, hm, e⟩
  obtain ⟨M, hM, eM⟩ : ∃ M ∈ gs, (M : Int) = mx (gps bs) := by
    rw [hgp] at a1
    obtain ⟨m, hm, e⟩ := List.mem_map.mp a1
    rw [← hgp] at e
    exact ⟨m, hm, e⟩
  have hf : fld bs = gs.map fun g => decide (m < g) := by
    unfold fld
    rw [← em, hgp, List.map_map]
    refine List.map_congr_left fun g _ => ?_
    show decide ((m : Int) < (g : Int)) = decide (m < g)
    by_cases c : m < g
    · rw [decide_eq_true c, decide_eq_true (by omega)]
    · rw [decide_eq_false c, decide_eq_false (by omega)]
  refine ⟨?_, by rw [hf, List.length_map, hb], ?_⟩
  · rw [hfl, ← em, ← eM]
    constructor
    · intro hD
      have near : ∀ a ∈ gs, ∀ b ∈ gs, a ≤ b + 1 := fun a ha b hb => by
        obtain ⟨i, hi, e1⟩ := List.mem_iff_getElem.mp ha
        obtain ⟨j, hj, e2⟩ := List.mem_iff_getElem.mp hb
        have := flatD_near hD h0 hi hj
        rw [List.getD_eq_getElem?_getD, List.getElem?_eq_getElem hi, List.getD_eq_getElem?_getD, List.getElem?_eq_getElem hj] at this
        have t : gs[i] ≤ gs[j] + 1 := this
        omega
      have := near M hM m hm
      refine ⟨by omega, ?_⟩
      rw [hf]
      exact (flat_long fun g hgm => ⟨by
        have := b2 (g : Int) (by rw [hgp]; exact List.mem_map.mpr ⟨g, hgm, rfl⟩)
        omega, near g hgm m hm⟩).mpr hD
    · rintro ⟨h1, h2⟩
      rw [hf] at h2
      refine (flat_long fun g hgm => ?_).mp h2
      have g1 := b2 (g : Int) (by rw [hgp]; exact List.mem_map.mpr ⟨g, hgm, rfl⟩)
      have g2 := a2 (g : Int) (by rw [hgp]; exact List.mem_map.mpr ⟨g, hgm, rfl⟩)
      omega
  · rw [hf, hb]
    have hle := List.count_le_length (a := true) (l := gs.map fun g => decide (m < g))
    rw [List.length_map] at hle
    rcases Nat.lt_or_ge ((gs.map fun g => decide (m < g)).count true) gs.length with c | c
    · exact c
    · exfalso
      have e : (gs.map fun g => decide (m < g)).count true = (gs.map fun g => decide (m < g)).length := by
        rw [List.length_map]
        omega
      have := List.count_eq_length.mp e (decide (m < m)) (List.mem_map.mpr ⟨m, hm, rfl⟩)
      rw [decide_eq_false (Nat.lt_irrefl _)] at this
      cases this
theorem none_flat {bs : List Bool} (h : bs.count true = 0) : Flat bs := by
  intro i j hi hj
  have e : ∀ x, cbt bs x = 0 := fun x => by
    unfold cbt
    have := (List.take_sublist x bs).count_le true
    omega
  rw [hgt_low (by omega), hgt_low (by omega), e, e, h]
  omega
/-- the gaps by differences, the last one around -/
theorem gps_diff {bs : List Bool} (h : 0 < bs.count true) : 0 < (bpi bs).length ∧ (((List.range ((bpi bs).length - 1)).map fun i => (bpi bs).getD (i + 1) 0 - (bpi bs).getD i 0) ++ [(bpi bs).getD 0 0 + (bs.length : Int) - (bpi bs).getLast?.getD 0]) = gps bs := by
  obtain ⟨k, gs, hg, e⟩ := par bs
  have hne : gs ≠ [] := fun c => by
    subst c
    rw [e] at h
    have : rw_ [] = [] := rfl
    rw [this, List.append_nil, List.count_replicate] at h
    simp at h
  have h0 : 0 < gs.length := List.length_pos_iff.mpr hne
  have hp : bpi bs = pst k gs := by
    rw [e]
    unfold bpi
    rw [posf_rest, posf_rw _ _ hg, Nat.zero_add]
  have hn : bs.length = k + gs.sum := by rw [e, List.length_append, List.length_replicate, rw_len gs hg]
  have hgp : gps bs = (gaf k gs).map fun (g : Nat) => (g : Int) := by
    rw [e]
    exact gps_rw hg
  rw [hp, hgp, pst_len]
  refine ⟨h0, ?_⟩
  have hlast : (pst k gs).getLast?.getD 0 = (pst k gs).getD (gs.length - 1) 0 := by
    rw [List.getLast?_eq_getElem?, pst_len, List.getD_eq_getElem?_getD]
  rw [hlast]
  apply List.ext_getElem?
  intro i
  rcases Nat.lt_trichotomy i (gs.length - 1) with c | c | c
  · rw [List.getElem?_append_left (by rw [List.length_map, List.length_range]; omega), List.getElem?_map, List.getElem?_range c, List.getElem?_map, gaf_get k gs i (by omega), if_neg (by omega)]
    show some ((pst k gs).getD (i + 1) 0 - (pst k gs).getD i 0) = some ((gs.getD i 0 + 0 : Nat) : Int)
    rw [pst_get gs k (i + 1) (by omega), pst_get gs k i (by omega), ← take_sum_le gs i (by omega)]
    congr 1
    omega
  · have hs := take_sum_le gs i (by omega)
    have e9 : gs.take (i + 1) = gs := by rw [List.take_of_length_le (by omega)]
    rw [e9] at hs
    rw [List.getElem?_append_right (by rw [List.length_map, List.length_range]; omega), List.length_map, List.length_range, List.getElem?_map, gaf_get k gs i (by omega), if_pos (by omega), c, Nat.sub_self, ← c]
    show some ((pst k gs).getD 0 0 + (bs.length : Int) - (pst k gs).getD i 0) = some ((gs.getD i 0 + k : Nat) : Int)
    rw [pst_get gs k 0 h0, pst_get gs k i (by omega), hn, List.take_zero, List.sum_nil]
    congr 1
    omega
  · rw [List.getElem?_eq_none (by rw [List.length_append, List.length_map, List.length_range, List.length_singleton]; omega), List.getElem?_eq_none (by rw [List.length_map, gaf_len]; omega)]
end Eb
namespace Eb
open PySem PySem.Spec PyProof.Rows L2 TL Evl
abbrev sFolds : Stmt := topS 25
theorem scFolds : FnScope ["ring", "found"] ["ring"] (defScope sFolds) := ⟨rfl, rfl, rfl, by decide +kernel, rfl, by decide +kernel, by decide +kernel⟩
/-- rings folded again and again -/
structure Chain (bs : List Bool) (ls : List (List Bool)) (last : List Bool) : Prop where
  hd : (ls ++ [last])[0]? = some bs
  lk : ∀ i, i < ls.length → 0 < (ls.getD i []).count true ∧ ((ls ++ [last]).getD (i + 1) []) = fld (ls.getD i [])
  ev : ∀ l ∈ ls ++ [last], Flat l ∧ 0 < l.length ∧ l.length ≤ 400
  sz : ls.length + last.count true ≤ bs.count true
def FoldsOk (cU : Addr) (bs : List Bool) (H : Hp) (Q : VK) (E : XK) : Prop := (0 < bs.length ∧ bs.length ≤ 400) ∧ (¬ Flat bs → ∀ H2, Ex H H2 → E (.ref cU) none H2) ∧
  (Flat bs → ∀ ls last, Chain bs ls last → last.count true = 0 → RetL ((ls ++ [last]).map fun l => V.str (enc l)) H Q)
def spFoldsB (K : PySem.W.Frag) (cR cU : Addr) : Sp := fun vs H Q E => ∃ v, vs = [v] ∧ ((∃ bs : List Bool, v = .str (enc bs) ∧ FoldsOk cU bs H Q E) ∨ (BadRingV K H v ∧ ∀ H2, Ex H H2 → E (.ref cR) none H2))
theorem chain_0 {bs : List Bool} (h : Flat bs) (h1 : 0 < bs.length ∧ bs.length ≤ 400) : Chain bs [] bs := ⟨rfl, fun i hi => absurd hi (Nat.not_lt_zero _), fun l hl => by
  have : l = bs := by simpa using hl
  subst this
  exact ⟨h, h1⟩, by simp⟩
theorem chain_succ {bs last : List Bool} {ls : List (List Bool)} (h : Chain bs ls last) (hc : 0 < last.count true) (hs : ¬ mn (gps last) + 1 < mx (gps last)) : Chain bs (ls ++ [last]) (fld last) := by
  obtain ⟨f1, f2, f3⟩ := fold_flat hc
  have hm := h.ev last (by simp)
  refine ⟨?_, fun i hi => ?_, fun l hl => ?_, ?_⟩
  · rw [List.getElem?_append_left (by simp)]
    exact h.hd
  · rw [List.length_append, List.length_singleton] at hi
    by_cases c : i < ls.length
    · obtain ⟨a, b⟩ := h.lk i c
      have e1 : (ls ++ [last]).getD i [] = ls.getD i [] := by
        rw [List.getD_eq_getElem?_getD, List.getElem?_append_left c, List.getD_eq_getElem?_getD]
      have e2 : (ls ++ [last] ++ [fld last]).getD (i + 1) [] = (ls ++ [last]).getD (i + 1) [] := by
        rw [List.getD_eq_getElem?_getD, List.getElem?_append_left (by rw [List.length_append, List.length_singleton]; omega), List.getD_eq_getElem?_getD]
      rw [e1, e2]
      exact ⟨a, b⟩
    · have e : i = ls.length := by omega
      subst e
      have e1 : (ls ++ [last]).getD ls.length [] = last := by
        rw [List.getD_eq_getElem?_getD, List.getElem?_append_right (Nat.le_refl _), Nat.sub_self]
        rfl
      have e2 : (ls ++ [last] ++ [fld last]).getD (ls.length + 1) [] = fld last := by
        rw [List.getD_eq_getElem?_getD, List.getElem?_append_right (by rw [List.length_append, List.length_singleton]; omega), List.length_append, List.length_singleton, Nat.sub_self]
        rfl
      rw [e1, e2]
      exact ⟨hc, rfl⟩
  · rcases List.mem_append.mp hl with hl | hl
    · exact h.ev l hl
    · have : l = fld last := by simpa using hl
      subst this
      have hb := cnt_le last
      exact ⟨(f1.mp hm.1).2, by omega, by omega⟩
  · have := h.sz
    rw [List.length_append, List.length_singleton]
    omega
section
variable {P : Program} {w : World} {K : PySem.W.Frag} {mg : Str → Option Value} {base : Heap}
variable {cBeatError cBadRing cBadCount cNoBeat cUneven : Addr}
theorem ok_folds (D : DefAt K mg "folds" sFolds) (T : Tx mg) (c_asked_ring : CalX P w K mg base 4 "asked_ring" (spAskedRingB K cBadRing) []) (c_folded : CalX P w K mg base 6 "folded" (spFoldedB K cBadRing cNoBeat cUneven) []) : CalX P w K mg base 7 "folds" (spFoldsB K cBadRing cUneven) [] := by
  refine calx_of D (fun _ _ _ _ _ _ us hl => match us, hl with | [_], _ => rfl) scFolds (fun vs H Q E h => ?_) (fun f cdv A outer s H vs Q E hr h => ?_)
  · obtain ⟨v, rfl, _⟩ := h
    rfl
  · obtain ⟨v, rfl, h⟩ := h
    refine ⟨_, (pss_cons (ps_expr (pe_cx (passD (L2N.takes_of rfl rfl rfl rfl)) c_asked_ring hr (by decide) (by rfl) (pa_cons (pv 0) pa_nil)))
      (pss_cons (ps_set (i := 1) scFolds.nd rfl (Or.inl rfl) (pe_lst (pa_cons (pv 0) pa_nil)))
      (pss_cons (ps_while (passes_of rfl) (pt_cmpR op_in_sign (C8.pe_gc rfl T.beat) (pe_ix (ix_listK (K := K) rfl) (pv 1) (pe_un un_neg pe_int) (fun _ _ => rfl)) (by rfl))
      (pss_one (ps_expr (pe_bm PySem.F.plainAttrs_list PySem.F.slot_list_append PySem.F.type_list_append mt_append (pv 1) (pa_cons (pe_cx (passD (L2N.takes_of rfl rfl rfl rfl)) c_folded hr (by decide) (by rfl) (pa_cons (pe_ix (ix_listK (K := K) rfl) (pv 1) (pe_un un_neg pe_int) (fun _ _ => rfl)) pa_nil)) pa_nil)))))
      (pss_one (ps_ret (pv 1)))))), ?_⟩
    rcases h with ⟨bs, rfl, h1, kE, k⟩ | ⟨hb, kE⟩
    case inr => exact q_dropC (ea_cons (ev_var rfl) ea_nil) fun H1 e1 => ⟨v, rfl, .inr ⟨hb.mono e1, fun H2 e2 => kE H2 (e1.trans e2)⟩⟩
    have hcl := cnt_le bs
    refine q_drop (ev_call (ea_cons (ev_var rfl) ea_nil) (spv_asked_ring (by walk_at "pre"))) fun H1 e1 => ?_
    refine q_asgL (el_lst (ea_cons (ev_var rfl) ea_nil) (by walk_at "sz")) fun l H2 hl e2 x2 => ?_
    have hl0 : H l = none := fresh_back e1 hl
    by_cases hf : Flat bs
    · refine q_while (fun m σ' H' => ∃ ls last, σ' = [some (.str (enc bs)), some (.ref l)] ∧ Ex H1 H' ∧ H' l = some (.lst ((ls ++ [last]).map fun l => V.str (enc l))) ∧ Chain bs ls last ∧ m = last.count true)
        (bs.count true) ⟨[], bs, rfl, e2, x2, chain_0 hf h1, rfl⟩ (fun m σ' H' hp => ?_)
      obtain ⟨ls, last, rfl, ex, hx, hch, rfl⟩ := hp
      have hS : SqL K H' l ((ls.map fun l => V.str (enc l)) ++ [V.str (enc last)]) := by
        rw [List.map_append] at hx
        exact sq_of hx
      refine ⟨_, (et_test (ev_op ev_c (ev_op (ev_var rfl) (ev_un ev_c ru_neg) (rv_ixLlast (by walk_at "lst"))) rv_inX)), fun hb H3 e3 => ?_, fun hb H3 e3 => ?_⟩
      · rw [cont_cnt, decide_eq_true_eq] at hb
        have hm := hch.ev last (by simp)
        have hsz := hch.sz
        obtain ⟨f1, f2, f3⟩ := fold_flat hb
        have hsp := (f1.mp hm.1).1
        replace hS := ex_l e3 hS
        refine ⟨fun σ'' H'' => ∃ m', m' < last.count true ∧ ∃ ls last, σ'' = [some (.str (enc bs)), some (.ref l)] ∧ Ex H1 H'' ∧ H'' l = some (.lst ((ls ++ [last]).map fun l => V.str (enc l))) ∧ Chain bs ls last ∧ m' = last.count true, fun _ _ n => n, ?_⟩
        refine s_appC (e3 _ _ hx) (ev_var rfl) (ea_cons (ev_op (ev_var rfl) (ev_un ev_c ru_neg) (rv_ixLlast (by walk_at "lst"))) ea_nil) fun H4 e4 => ⟨_, rfl, .inl ⟨last, rfl, hm.2, fun c => absurd c (by omega), fun _ c => absurd c hsp, fun _ _ H5 e5 => ?_⟩⟩
        refine app_go (e5 _ _ (e4 _ _ (e3 _ _ hx))) (by
          rw [List.length_map, List.length_append, List.length_singleton]
          omega) ⟨_, f3, ls ++ [last], fld last, rfl, Ex.mut (((ex.trans e3).trans e4).trans e5) hl, ?_, chain_succ hch hb hsp, rfl⟩
        rw [upd_same, List.map_append (l₁ := ls ++ [last])]
        rfl
      · rw [cont_cnt, decide_eq_false_iff_not] at hb
        exact s_ret (ev_var rfl) fun H4 e4 => (k hf ls last hch (by omega)).go (Ex.refl H) hl0 (((e1.trans ex).trans e3).trans e4) (e4 _ _ (e3 _ _ hx))
    · refine q_while (fun m σ' H' => ∃ ls last, σ' = [some (.str (enc bs)), some (.ref l)] ∧ Ex H1 H' ∧ H' l = some (.lst ((ls ++ [last]).map fun l => V.str (enc l))) ∧ (¬ Flat last ∧ 0 < last.length ∧ last.length ≤ 400 ∧ ls.length + last.count true ≤ bs.count true) ∧ m = last.count true)
        (bs.count true) ⟨[], bs, rfl, e2, x2, ⟨hf, h1.1, h1.2, by simp⟩, rfl⟩ (fun m σ' H' hp => ?_)
      obtain ⟨ls, last, rfl, ex, hx, ⟨hnf, hl1, hl2, hsz⟩, rfl⟩ := hp
      have hS : SqL K H' l ((ls.map fun l => V.str (enc l)) ++ [V.str (enc last)]) := by
        rw [List.map_append] at hx
        exact sq_of hx
      refine ⟨_, (et_test (ev_op ev_c (ev_op (ev_var rfl) (ev_un ev_c ru_neg) (rv_ixLlast (by walk_at "lst"))) rv_inX)), fun hb H3 e3 => ?_, fun hb H3 e3 => ?_⟩
      · rw [cont_cnt, decide_eq_true_eq] at hb
        obtain ⟨f1, f2, f3⟩ := fold_flat hb
        replace hS := ex_l e3 hS
        refine ⟨fun σ'' H'' => ∃ m', m' < last.count true ∧ ∃ ls last, σ'' = [some (.str (enc bs)), some (.ref l)] ∧ Ex H1 H'' ∧ H'' l = some (.lst ((ls ++ [last]).map fun l => V.str (enc l))) ∧ (¬ Flat last ∧ 0 < last.length ∧ last.length ≤ 400 ∧ ls.length + last.count true ≤ bs.count true) ∧ m' = last.count true, fun _ _ n => n, ?_⟩
        refine s_appC (e3 _ _ hx) (ev_var rfl) (ea_cons (ev_op (ev_var rfl) (ev_un ev_c ru_neg) (rv_ixLlast (by walk_at "lst"))) ea_nil) fun H4 e4 => ⟨_, rfl, .inl ⟨last, rfl, ⟨hl1, hl2⟩, fun c => absurd c (by omega), fun _ _ H5 e5 => kE hf H5 ((((e1.trans ex).trans e3).trans e4).trans e5), fun _ hsp H5 e5 => ?_⟩⟩
        have hb2 := cnt_le last
        refine app_go (e5 _ _ (e4 _ _ (e3 _ _ hx))) (by
          rw [List.length_map, List.length_append, List.length_singleton]
          omega) ⟨_, f3, ls ++ [last], fld last, rfl, Ex.mut (((ex.trans e3).trans e4).trans e5) hl, ?_, ⟨fun c => hnf (f1.mpr ⟨hsp, c⟩), by omega, by omega, by
            rw [List.length_append, List.length_singleton]
            omega⟩, rfl⟩
        rw [upd_same, List.map_append (l₁ := ls ++ [last])]
        rfl
      · rw [cont_cnt, decide_eq_false_iff_not] at hb
        exact absurd (none_flat (by omega)) hnf
end
end Eb
/-! ### more of menus; the rings that can't be folded; the chains of one place -/
namespace Eb
open PySem PySem.Spec PyProof.Rows L2 TL Evl
def spRef2 (P : V → Hp → Prop) (C : Addr) : Sp := fun vs H _ E => ∃ v, vs = [v, .non] ∧ P v H ∧ ∀ H2, Ex H H2 → E (.ref C) none H2
def spRefN (C : Addr) : Sp := fun vs H _ E => ∃ bs : List Bool, vs = [.str (enc bs)] ∧ ((0 < bs.length ∧ bs.length ≤ 400) ∧ bs.count true = 0) ∧ ∀ H2, Ex H H2 → E (.ref C) none H2
def spRefU (C : Addr) : Sp := fun vs H _ E => ∃ bs : List Bool, vs = [.str (enc bs)] ∧ ((0 < bs.length ∧ bs.length ≤ 400) ∧ 0 < bs.count true ∧ mn (gps bs) + 1 < mx (gps bs)) ∧ ∀ H2, Ex H H2 → E (.ref C) none H2
section
variable {K : PySem.W.Frag} {σ : L2.St} {H H' : Hp} {ta tb tf te : TE} {x y z v : V} {D : Ends} {P P' : V → Hp → Prop}
theorem rv_catZ {a b : Str} (h : a.length + b.length ≤ 100000) : RV (fun x y H Q => ∃ i j, x = .str i ∧ y = .str j ∧ i.length + j.length ≤ sizeLine ∧ Q (.str (i ++ j)) H) (.str a) (.str b) H (.str (a ++ b)) := fun H1 _ _ q => ⟨a, b, rfl, rfl, sz_of h, q H1 (Ex.refl H1)⟩
theorem ex_op {r : R2} (h : EvX ta σ H P) (hb : Ev tb σ H y) (m : MonoP P) (hr : ∀ v H1, Ex H H1 → P v H1 → ∃ z, RV r v y H1 z ∧ ∀ H2, Ex H1 H2 → P' z H2) : EvX (tOp r ta tb) σ H P' := fun H1 e Q q =>
  h H1 e _ fun v H2 e2 hv => hb H2 (e.trans e2) _ fun H3 e3 => by
    obtain ⟨z, h1, h2⟩ := hr v H3 ((e.trans e2).trans e3) (m _ _ _ e3 hv)
    exact h1 H3 (Ex.refl H3) Q fun H4 e4 => q z H4 ((e2.trans e3).trans e4) (h2 H4 e4)
theorem s_dropSubX {S : Addr → Prop} {sp : Sp} {E : L2.St → XK} (h : EvX tf σ H fun v _ => ∃ f, v = .ref f ∧ S f) (ha : EvX te σ H P) (k : ∀ v H1, Ex H H1 → P v H1 → sp [v] H1 (fun _ H2 => D.nx σ H2) (E σ)) : tDrop (tCallSub tf S sp E (tCons te tNil)) D σ H := h H (Ex.refl H) _ fun v H1 e ⟨f, hv, hS⟩ => ⟨f, hv, hS, ha H1 e _ fun u H2 e2 hu => k u H2 (e.trans e2) hu⟩
end
theorem uneven_all : ∀ r ∈ [[true, true, false, false], [true, true, false, true, false, false], [true, false, true, true, false, false, true, false, false, false], [true, true, true, false, false, false]], ∀ m, m < 9 →
    ((0 < (r ++ List.replicate m false).length ∧ (r ++ List.replicate m false).length ≤ 400) ∧ 0 < (r ++ List.replicate m false).count true ∧ mn (gps (r ++ List.replicate m false)) + 1 < mx (gps (r ++ List.replicate m false))) := by decide +kernel
theorem flat_x : Flat [true] := (isEv_flat (by decide)).mp (by decide +kernel)
theorem fld_x : fld [true] = [false] := by decide +kernel
theorem gps_x : gps [true, false, false] = [3] := by decide +kernel
theorem unf_x : unf [true] 1 = [true, false] := by decide +kernel
theorem chain_d {ls : List (List Bool)} {last : List Bool} (h : Chain [false] ls last) : ls ++ [last] = [[false]] := by
  have hs := h.sz
  have e : ls = [] := by
    cases ls with
    | nil => rfl
    | cons a t =>
      simp at hs
  subst e
  have := h.hd
  have e2 : last = [false] := Option.some.inj this
  rw [e2]
  rfl
theorem chain_x {ls : List (List Bool)} {last : List Bool} (h : Chain [true] ls last) (hl : last.count true = 0) : ls ++ [last] = [[true], [false]] := by
  have hs := h.sz
  have hh := h.hd
  match ls, h, hs, hh with
  | [], _, _, hh =>
    have e2 : last = [true] := Option.some.inj hh
    rw [e2] at hl
    simp at hl
  | [a], h, _, hh =>
    have e2 : a = [true] := Option.some.inj hh
    have h2 : last = fld a := (h.lk 0 (by simp)).2
    rw [e2, fld_x] at h2
    rw [e2, h2]
    rfl
  | a :: b :: t, _, hs, _ =>
    simp at hs
    omega
theorem spl_folds_c {K : PySem.W.Frag} {cR cU : Addr} {H : Hp} {bs : List Bool} {res : List (List Bool)} (h1 : 0 < bs.length ∧ bs.length ≤ 400) (hf : Flat bs) (hu : ∀ ls last, Chain bs ls last → last.count true = 0 → ls ++ [last] = res) : SpL (spFoldsB K cR cU) [.str (enc bs)] H (res.map fun l => V.str (enc l)) :=
  fun _ _ _ q _ => ⟨_, rfl, .inl ⟨bs, rfl, h1, fun c => absurd hf c, fun _ ls last hc hl => by
    rw [hu ls last hc hl]
    exact q⟩⟩
end Eb
namespace Eb
open PySem PySem.Spec PyProof.Rows L2 TL Evl
abbrev sLawRingAsked : Stmt := topS 42
theorem scLawRingAsked : FnScope ["_law_which", "_law_more", "_law_bad", "_law_door"] ["_law_which", "_law_more"] (defScope sLawRingAsked) := ⟨rfl, rfl, rfl, by decide +kernel, rfl, by decide +kernel, by decide +kernel⟩
def spLawRingAskedB (C : Addr) : Sp := fun vs H _ E => ∃ w m : Int, vs = [.int w, .int m] ∧ ∀ H2, Ex H H2 → E (.ref C) none H2
theorem odd_text {k : Int} (h0 : 0 ≤ k) (h1 : k < 5) : (enc (List.replicate k.toNat [true, false]).flatten).length + (" " : Str).length ≤ 100000 ∧ ((enc (List.replicate k.toNat [true, false]).flatten) ++ (" " : Str)).length ≤ 100000 ∧ Txt.stripChars ((enc (List.replicate k.toNat [true, false]).flatten) ++ (" " : Str)) (enc ([true] ++ [false])) ≠ enc [] := by
  have h : k = 0 ∨ k = 1 ∨ k = 2 ∨ k = 3 ∨ k = 4 := by omega
  rcases h with rfl | rfl | rfl | rfl | rfl <;> decide +kernel
section
variable {P : Program} {w : World} {K : PySem.W.Frag} {mg : Str → Option Value} {base : Heap}
variable {cBeatError cBadRing cBadCount cNoBeat cUneven : Addr}
theorem ok__law_ring_asked (D : DefAt K mg "_law_ring_asked" sLawRingAsked) (c_begun : CalX P w K mg base 4 "begun" (spRef (fun v H => BadRow K H v) cBadRing) []) (c_even : CalX P w K mg base 5 "even" (spRef (fun v H => BadRingV K H v) cBadRing) []) (c_exchanged : CalX P w K mg base 5 "exchanged" (spRef (fun v H => BadRingV K H v) cBadRing) []) (c_about : CalX P w K mg base 5 "about" (spRef (fun v H => BadRingV K H v) cBadRing) []) (c_gaps : CalX P w K mg base 5 "gaps" (spGapsB K cBadRing cNoBeat) []) (c_folded : CalX P w K mg base 6 "folded" (spFoldedB K cBadRing cNoBeat cUneven) []) (c_folds : CalX P w K mg base 7 "folds" (spFoldsB K cBadRing cUneven) []) (c_turned : CalX P w K mg base 5 "turned" (spTurnedB K cBadRing cBadCount) []) (c_unfolded : CalX P w K mg base 5 "unfolded" (spUnfoldedB K cBadRing cBadCount) []) : CalX P w K mg base 8 "_law_ring_asked" (spLawRingAskedB cBadRing) [] := by
  refine calx_of D (fun _ _ _ _ _ _ us hl => match us, hl with | [_, _], _ => rfl) scLawRingAsked (fun vs H Q E h => ?_) (fun f cdv A outer s H vs Q E hr h => ?_)
  · obtain ⟨w, m, rfl, _⟩ := h
    rfl
  · obtain ⟨wh, m, rfl, kE⟩ := h
    obtain ⟨f_even, _, _, _, g_even, _, _⟩ := c_even.ex
    obtain ⟨f_exchanged, _, _, _, g_exchanged, _, _⟩ := c_exchanged.ex
    obtain ⟨f_about, _, _, _, g_about, _, _⟩ := c_about.ex
    obtain ⟨f_gaps, _, _, _, g_gaps, _, _⟩ := c_gaps.ex
    obtain ⟨f_folded, _, _, _, g_folded, _, _⟩ := c_folded.ex
    obtain ⟨f_folds, _, _, _, g_folds, _, _⟩ := c_folds.ex
    obtain ⟨f_turned, _, _, _, g_turned, _, _⟩ := c_turned.ex
    obtain ⟨f_unfolded, _, _, _, g_unfolded, _, _⟩ := c_unfolded.ex
    have A1 : ∀ f, f ∈ [f_even, f_exchanged, f_about, f_gaps, f_folded, f_folds] → HeldN P w K mg base 7 f (spRef (fun v H => BadRingV K H v) cBadRing) := fun f hf => by
      simp only [List.mem_cons, List.not_mem_nil, or_false] at hf
      rcases hf with rfl | rfl | rfl | rfl | rfl | rfl
      · exact held_of c_even g_even (by decide) (fun _ _ _ _ h => h)
      · exact held_of c_exchanged g_exchanged (by decide) (fun _ _ _ _ h => h)
      · exact held_of c_about g_about (by decide) (fun _ _ _ _ h => h)
      · exact held_of c_gaps g_gaps (by decide) (fun _ _ _ _ ⟨v, e, hb, k⟩ => ⟨v, e, .inr ⟨hb, k⟩⟩)
      · exact held_of c_folded g_folded (by decide) (fun _ _ _ _ ⟨v, e, hb, k⟩ => ⟨v, e, .inr ⟨hb, k⟩⟩)
      · exact held_of c_folds g_folds (by decide) (fun _ _ _ _ ⟨v, e, hb, k⟩ => ⟨v, e, .inr ⟨hb, k⟩⟩)
    have A2 : ∀ f, f ∈ [f_turned, f_unfolded] → HeldN P w K mg base 7 f (spRef2 (fun v H => BadRingV K H v) cBadRing) := fun f hf => by
      simp only [List.mem_cons, List.not_mem_nil, or_false] at hf
      rcases hf with rfl | rfl
      · exact held_of c_turned g_turned (by decide) (fun _ _ _ _ ⟨v, e, hb, k⟩ => ⟨v, _, e, .inl ⟨hb, k⟩⟩)
      · exact held_of c_unfolded g_unfolded (by decide) (fun _ _ _ _ ⟨v, e, hb, k⟩ => ⟨v, _, e, .inl ⟨hb, k⟩⟩)
    refine ⟨_, (pss_cons (ps_if (pt_cmp (pc_eqI (pe_op op_mod (pv 0) pe_int) pe_int))
      (pss_one (ps_ret (pe_cx (passD (L2N.takes_of rfl rfl rfl rfl)) c_begun hr (by decide) (by rfl) (pa_cons (pe_ix (ix_listK (K := K) rfl) (pe_lst (pa_cons pe_non (pa_cons pe_int (pa_cons (pe_lst (pa_cons pe_sx pa_nil)) (pa_cons (pe_tup (pa_cons pe_sx (pa_cons pe_sd pa_nil))) (pa_cons pe_str (pa_cons pe_str (pa_cons pe_str pa_nil)))))))) (pe_op op_mod (pe_op op_fdiv (pv 0) pe_int) pe_int) (fun _ _ => rfl)) pa_nil))))
      pss_nil)
      (pss_cons (ps_set (i := 2) scLawRingAsked.nd rfl (Or.inl rfl) (pe_ix (ix_listK (K := K) rfl) (pe_lst (pa_cons pe_non (pa_cons pe_int (pa_cons (pe_lst (pa_cons pe_sx pa_nil)) (pa_cons (pe_tup (pa_cons pe_sx (pa_cons pe_sd pa_nil))) (pa_cons pe_str (pa_cons pe_str (pa_cons pe_str (pa_cons pe_s0 (pa_cons (pe_op op_add_str (pe_op op_mulS (pe_strE (bs := [true, false]) (by decide +kernel)) (pe_op op_mod (pv 1) pe_int)) pe_str) pa_nil)))))))))) (pe_op op_mod (pe_op op_fdiv (pv 0) pe_int) pe_int) (fun _ _ => rfl)))
      (pss_cons (ps_set (i := 3) scLawRingAsked.nd rfl (Or.inl rfl) (pe_op op_mod (pe_op op_fdiv (pv 0) pe_int) pe_int))
      (pss_cons (ps_if (pt_cmp (pc_lt (pv 3) pe_int))
      (pss_one (ps_ret (pe_callSub A1 (pe_ix (ix_listK (K := K) rfl) (pe_lst (pa_cons (C8.pe_gc (v := .ref f_even) rfl ⟨_, g_even, rfl⟩) (pa_cons (C8.pe_gc (v := .ref f_exchanged) rfl ⟨_, g_exchanged, rfl⟩) (pa_cons (C8.pe_gc (v := .ref f_about) rfl ⟨_, g_about, rfl⟩) (pa_cons (C8.pe_gc (v := .ref f_gaps) rfl ⟨_, g_gaps, rfl⟩) (pa_cons (C8.pe_gc (v := .ref f_folded) rfl ⟨_, g_folded, rfl⟩) (pa_cons (C8.pe_gc (v := .ref f_folds) rfl ⟨_, g_folds, rfl⟩) pa_nil))))))) (pv 3) (fun _ _ => rfl)) (hr.mono (by decide)) (passSub (L2N.takes_of rfl rfl rfl rfl)) (pa_cons (pv 2) pa_nil))))
      pss_nil)
      (pss_one (ps_ret (pe_callSub A2 (pe_ix (ix_listK (K := K) rfl) (pe_lst (pa_cons (C8.pe_gc (v := .ref f_turned) rfl ⟨_, g_turned, rfl⟩) (pa_cons (C8.pe_gc (v := .ref f_unfolded) rfl ⟨_, g_unfolded, rfl⟩) pa_nil))) (pe_op op_sub (pv 3) pe_int) (fun _ _ => rfl)) (hr.mono (by decide)) (passSub (L2N.takes_of rfl rfl rfl rfl)) (pa_cons (pv 2) (pa_cons pe_non pa_nil))))))))), ?_⟩
    have hm1 : MonoP (fun v H => BadRow K H v) := fun _ _ _ e h => h.mono e
    have hm2 : MonoP (fun v H => BadRingV K H v) := fun _ _ _ e h => h.mono e
    have hk := odd_text (k := m % 5) (by omega) (by omega)
    refine q_when (et_B (ev_cmp (ev_op (ev_var rfl) ev_c (rv_I (by walk_at "pos"))) ev_c)) (fun hb H1 e1 => ?_) (fun hb H1 e1 => ?_)
    · exact s_retX1 (ex_menu hm1 (exs_cons hm1 (ex_of ev_c (fun _ _ => br_non)) (exs_cons hm1 (ex_of ev_c (fun _ _ => br_int)) (exs_cons hm1 (ex_lst (ea_cons ev_c ea_nil) (by simp) (fun p H1 _ x => br_lst x)) (exs_cons hm1 (ex_tup (ea_cons ev_c (ea_cons ev_c ea_nil)) (by simp) (fun p H1 _ x => br_tup x)) (exs_cons hm1 (ex_of ev_c (fun _ _ => br_str (by decide +kernel))) (exs_cons hm1 (ex_of ev_c (fun _ _ => br_str (by decide +kernel))) (exs_cons hm1 (ex_of ev_c (fun _ _ => br_str (by decide +kernel))) exs_nil))))))) (by decide) (ev_op (ev_op (ev_var rfl) ev_c (rv_I (by walk_at "div"))) ev_c (rv_I (by walk_at "pos"))) (by omega)) fun v H2 e2 hv => ⟨v, rfl, hv, fun H3 e3 => kE H3 ((e1.trans e2).trans e3)⟩
    · refine q_asgX (ex_menu hm2 (exs_cons hm2 (ex_of ev_c (fun _ _ => .inl br_non)) (exs_cons hm2 (ex_of ev_c (fun _ _ => .inl br_int)) (exs_cons hm2 (ex_lst (ea_cons ev_c ea_nil) (by simp) (fun p H1 _ x => .inl (br_lst x))) (exs_cons hm2 (ex_tup (ea_cons ev_c (ea_cons ev_c ea_nil)) (by simp) (fun p H1 _ x => .inl (br_tup x))) (exs_cons hm2 (ex_of ev_c (fun _ _ => .inl (br_str (by decide +kernel)))) (exs_cons hm2 (ex_of ev_c (fun _ _ => .inl (br_str (by decide +kernel)))) (exs_cons hm2 (ex_of ev_c (fun _ _ => .inl (br_str (by decide +kernel)))) (exs_cons hm2 (ex_of ev_c (fun _ _ => .inr rfl)) (exs_cons hm2 (ex_of (ev_op (ev_op ev_c (ev_op (ev_var rfl) ev_c (rv_I (by walk_at "pos"))) (rv_mulS (by walk_at "pre"))) ev_c (rv_catZ hk.1)) (fun _ _ => .inl (br_str hk.2))) exs_nil))))))))) (by decide) (ev_op (ev_op (ev_var rfl) ev_c (rv_I (by walk_at "div"))) ev_c (rv_I (by walk_at "pos"))) (by omega)) fun v H2 e2 hv => ?_
      refine q_asg (ev_op (ev_op (ev_var rfl) ev_c (rv_I (by walk_at "div"))) ev_c (rv_I (by walk_at "pos"))) fun H3 e3 => ?_
      have e03 := (e1.trans e2).trans e3
      refine q_when (et_B (ev_cmp (ev_var rfl) ev_c)) (fun hb H4 e4 => ?_) (fun hb H4 e4 => ?_)
      · have hd := of_decide_eq_true hb
        exact s_retSub (ex_menu mono_fn (exs_cons mono_fn (ex_of ev_c (fun _ _ => ⟨f_even, rfl, by simp⟩)) (exs_cons mono_fn (ex_of ev_c (fun _ _ => ⟨f_exchanged, rfl, by simp⟩)) (exs_cons mono_fn (ex_of ev_c (fun _ _ => ⟨f_about, rfl, by simp⟩)) (exs_cons mono_fn (ex_of ev_c (fun _ _ => ⟨f_gaps, rfl, by simp⟩)) (exs_cons mono_fn (ex_of ev_c (fun _ _ => ⟨f_folded, rfl, by simp⟩)) (exs_cons mono_fn (ex_of ev_c (fun _ _ => ⟨f_folds, rfl, by simp⟩)) exs_nil)))))) (by decide) (ev_var rfl) (by omega)) (ea_cons (ev_var rfl) ea_nil) fun H5 e5 => ⟨v, rfl, hm2 _ _ _ ((e3.trans e4).trans e5) hv, fun H6 e6 => kE H6 (((e03.trans e4).trans e5).trans e6)⟩
      · have hd := of_decide_eq_false hb
        exact s_retSub (ex_menu mono_fn (exs_cons mono_fn (ex_of ev_c (fun _ _ => ⟨f_turned, rfl, by simp⟩)) (exs_cons mono_fn (ex_of ev_c (fun _ _ => ⟨f_unfolded, rfl, by simp⟩)) exs_nil)) (by decide) (ev_op (ev_var rfl) ev_c rv_I0) (by omega)) (ea_cons (ev_var rfl) (ea_cons ev_c ea_nil)) fun H5 e5 => ⟨v, rfl, hm2 _ _ _ ((e3.trans e4).trans e5) hv, fun H6 e6 => kE H6 (((e03.trans e4).trans e5).trans e6)⟩
end
end Eb
namespace Eb
open PySem PySem.Spec PyProof.Rows L2 TL Evl
abbrev sLawTold : Stmt := topS 44
theorem scLawTold : FnScope ["_law_kind", "_law_which", "_law_more", "error", "_law_found"] ["_law_kind", "_law_which", "_law_more"] (defScope sLawTold) := ⟨rfl, rfl, rfl, by decide +kernel, rfl, by decide +kernel, by decide +kernel⟩
def spTold (_ : PySem.W.Frag) : Sp := fun vs H Q _ => ∃ kd w m : Int, vs = [.int kd, .int w, .int m] ∧ (0 ≤ kd ∧ kd < 4 ∧ 0 ≤ m) ∧ RetL ([decide (kd = 0), decide (kd = 1), decide (kd = 2), decide (kd = 3), true].map V.bl) H Q
theorem spl__law_told {K : PySem.W.Frag} {H : Hp} {kd w m : Int} (h : 0 ≤ kd ∧ kd < 4 ∧ 0 ≤ m) : SpL (spTold K) [.int kd, .int w, .int m] H ([decide (kd = 0), decide (kd = 1), decide (kd = 2), decide (kd = 3), true].map V.bl) := fun _ _ _ q _ => ⟨kd, w, m, rfl, h, q⟩
section
variable {P : Program} {w : World} {K : PySem.W.Frag} {mg : Str → Option Value} {base : Heap}
variable {cBeatError cBadRing cBadCount cNoBeat cUneven : Addr}
theorem ok__law_told (D : DefAt K mg "_law_told" sLawTold) (Y : Yz K mg cBeatError cBadRing cBadCount cNoBeat cUneven) (B : Bn mg) (c__law_ring_asked : CalX P w K mg base 8 "_law_ring_asked" (spLawRingAskedB cBadRing) []) (c__law_count_asked : CalX P w K mg base 6 "_law_count_asked" (spLawCountAskedB cBadCount) []) (c_gaps : CalX P w K mg base 5 "gaps" (spGapsB K cBadRing cNoBeat) []) (c_folded : CalX P w K mg base 6 "folded" (spFoldedB K cBadRing cNoBeat cUneven) []) (c_folds : CalX P w K mg base 7 "folds" (spFoldsB K cBadRing cUneven) []) : C8.Cal P w K mg base 9 "_law_told" (spTold K) [] := by
  refine cal_of D (fun _ _ _ _ _ _ us hl => match us, hl with | [_, _, _], _ => rfl) scLawTold (fun vs H Q E h => ?_) (fun f cdv A outer s H vs Q E hr h => ?_)
  · obtain ⟨kd, w, m, rfl, _⟩ := h
    rfl
  · obtain ⟨kd, wh, m, rfl, ⟨h0, h1, h2⟩, k⟩ := h
    obtain ⟨f__law_ring_asked, fd__law_ring_asked, ps__law_ring_asked, FF__law_ring_asked, g__law_ring_asked, kp__law_ring_asked, bb__law_ring_asked⟩ := c__law_ring_asked.ex
    obtain ⟨f__law_count_asked, fd__law_count_asked, ps__law_count_asked, FF__law_count_asked, g__law_count_asked, kp__law_count_asked, bb__law_count_asked⟩ := c__law_count_asked.ex
    obtain ⟨f_gaps, _, _, _, g_gaps, _, _⟩ := c_gaps.ex
    obtain ⟨f_folded, _, _, _, g_folded, _, _⟩ := c_folded.ex
    obtain ⟨f_folds, _, _, _, g_folds, _, _⟩ := c_folds.ex
    have A1 : ∀ f, f ∈ [f_gaps, f_folded] → HeldN P w K mg base 8 f (spRefN cNoBeat) := fun f hf => by
      simp only [List.mem_cons, List.not_mem_nil, or_false] at hf
      rcases hf with rfl | rfl
      · exact held_of c_gaps g_gaps (by decide) (fun _ _ _ _ ⟨bs, e, hb, k⟩ => ⟨_, e, .inl ⟨bs, rfl, hb.1, fun _ => k, fun c => absurd c (by omega)⟩⟩)
      · exact held_of c_folded g_folded (by decide) (fun _ _ _ _ ⟨bs, e, hb, k⟩ => ⟨_, e, .inl ⟨bs, rfl, hb.1, fun _ => k, fun c => absurd c (by omega), fun c => absurd c (by omega)⟩⟩)
    have A2 : ∀ f, f ∈ [f_folded, f_folds] → HeldN P w K mg base 8 f (spRefU cUneven) := fun f hf => by
      simp only [List.mem_cons, List.not_mem_nil, or_false] at hf
      rcases hf with rfl | rfl
      · exact held_of c_folded g_folded (by decide) (fun _ _ _ _ ⟨bs, e, hb, k⟩ => ⟨_, e, .inl ⟨bs, rfl, hb.1, fun c => absurd c (by omega), fun _ _ => k, fun _ c => absurd hb.2.2 c⟩⟩)
      · exact held_of c_folds g_folds (by decide) (fun _ _ _ _ ⟨bs, e, hb, k⟩ => ⟨_, e, .inl ⟨bs, rfl, hb.1, fun _ => k, fun c => absurd hb.2.2 ((fold_flat hb.2.1).1.mp c).1⟩⟩)
    refine ⟨_, (pss_cons (L2N.ps_try_as (i := 3) (Wout := fun _ _ _ _ => False) rfl rfl scLawTold.nd rfl rfl ⟨rfl, by decide, Or.inl Y.m_BeatError⟩ takesN
      (fun W pn xe tk _ => (pss_one (ps_if (pt_cmp (pc_eqI (pv 0) pe_int))
      (pss_one (ps_expr (pe_callS FF__law_ring_asked (hr.mono (by decide)) rfl g__law_ring_asked kp__law_ring_asked bb__law_ring_asked (fun σ => L2N.passAt tk σ) (pa_cons (pv 1) (pa_cons (pv 2) pa_nil)))))
      (pss_one (ps_if (pt_cmp (pc_eqI (pv 0) pe_int))
      (pss_one (ps_expr (pe_callS FF__law_count_asked (hr.mono (by decide)) rfl g__law_count_asked kp__law_count_asked bb__law_count_asked (fun σ => L2N.passAt tk σ) (pa_cons (pv 1) (pa_cons (pv 2) pa_nil)))))
      (pss_one (ps_if (pt_cmp (pc_eqI (pv 0) pe_int))
      (pss_one (ps_expr (pe_callSub A1 (pe_ix (ix_listK (K := K) rfl) (pe_lst (pa_cons (C8.pe_gc (v := .ref f_gaps) rfl ⟨_, g_gaps, rfl⟩) (pa_cons (C8.pe_gc (v := .ref f_folded) rfl ⟨_, g_folded, rfl⟩) pa_nil))) (pe_op op_mod (pv 1) pe_int) (fun _ _ => rfl)) (hr.mono (by decide)) (fun σ => L2N.passAt tk σ) (pa_cons (pe_op op_mulS pe_sd (pe_op op_add pe_int (pe_op op_mod (pv 2) pe_int))) pa_nil))))
      (pss_one (ps_expr (pe_callSub A2 (pe_ix (ix_listK (K := K) rfl) (pe_lst (pa_cons (C8.pe_gc (v := .ref f_folded) rfl ⟨_, g_folded, rfl⟩) (pa_cons (C8.pe_gc (v := .ref f_folds) rfl ⟨_, g_folds, rfl⟩) pa_nil))) (pe_op op_mod (pv 1) pe_int) (fun _ _ => rfl)) (hr.mono (by decide)) (fun σ => L2N.passAt tk σ) (pa_cons (pe_op op_add_str (pe_ix (ix_listK (K := K) rfl) (pe_lst (pa_cons (pe_strE (bs := [true, true, false, false]) (by decide +kernel)) (pa_cons (pe_strE (bs := [true, true, false, true, false, false]) (by decide +kernel)) (pa_cons (pe_strE (bs := [true, false, true, true, false, false, true, false, false, false]) (by decide +kernel)) (pa_cons (pe_strE (bs := [true, true, true, false, false, false]) (by decide +kernel)) pa_nil))))) (pe_op op_mod (pe_op op_fdiv (pv 1) pe_int) pe_int) (fun _ _ => rfl)) (pe_op op_mulS pe_sd (pe_op op_mod (pv 2) pe_int))) pa_nil)))))))))))
      (fun a9 oe cls9 d9 pn hz hf => pss_exc (K := K) hz fun C9 hC hz9 => (pss_cons (ps_set (i := 4) scLawTold.nd rfl (Or.inl rfl) (pe_lst (pa_cons (pe_callB (call_isE hC hz9.zc hf) (by rfl) B.isinstance_ (by decide +kernel) (pa_cons (pv 3) (pa_cons (C8.pe_gc (v := .ref cBadRing) rfl ⟨_, Y.m_BadRing, rfl⟩) pa_nil))) (pa_cons (pe_callB (call_isE hC hz9.zc hf) (by rfl) B.isinstance_ (by decide +kernel) (pa_cons (pv 3) (pa_cons (C8.pe_gc (v := .ref cBadCount) rfl ⟨_, Y.m_BadCount, rfl⟩) pa_nil))) (pa_cons (pe_callB (call_isE hC hz9.zc hf) (by rfl) B.isinstance_ (by decide +kernel) (pa_cons (pv 3) (pa_cons (C8.pe_gc (v := .ref cNoBeat) rfl ⟨_, Y.m_NoBeat, rfl⟩) pa_nil))) pa_nil)))))
      (pss_one (ps_ret (pe_op op_cat (pv 4) (pe_lst (pa_cons (pe_callB (call_isE hC hz9.zc hf) (by rfl) B.isinstance_ (by decide +kernel) (pa_cons (pv 3) (pa_cons (C8.pe_gc (v := .ref cUneven) rfl ⟨_, Y.m_Uneven, rfl⟩) pa_nil))) (pa_cons (pe_callB (call_isE hC hz9.zc hf) (by rfl) B.isinstance_ (by decide +kernel) (pa_cons (pv 3) (pa_cons (pe_bltn (v := .ty "ValueError") (by rfl) Y.z (by decide +kernel) rfl) pa_nil))) pa_nil)))))))))
      (pss_one (ps_ret (pe_lst pa_nil)))), ?_⟩
    refine s_if (et_B (ev_cmp (ev_var rfl) ev_c)) (fun hb H1 e1 => ?_) (fun hb H1 e1 => ?_)
    · obtain rfl := of_decide_eq_true hb
      refine s_dropS (ea_cons (ev_var rfl) (ea_cons (ev_var rfl) ea_nil)) fun H2 e2 => ⟨_, _, rfl, fun H3 e3 => ?_⟩
      refine ⟨true, Y.q_BadRing, fun _ x hx => ⟨cBadRing, ⟨rfl, rfl, Y.e_BadRing.c⟩, ?_⟩, fun h => by cases h⟩
      refine q_asgL (el_lst (ea_cons (ev_cb (ea_cons (ev_var rfl) (ea_cons ev_c ea_nil)) (rc_isE (fun u r => r) Y.i_BadRing_BadRing)) (ea_cons (ev_cb (ea_cons (ev_var rfl) (ea_cons ev_c ea_nil)) (rc_isE (fun u r => r) Y.i_BadRing_BadCount)) (ea_cons (ev_cb (ea_cons (ev_var rfl) (ea_cons ev_c ea_nil)) (rc_isE (fun u r => r) Y.i_BadRing_NoBeat)) ea_nil))) (by walk_at "sz")) fun l H7 hl e7 x7 => ?_
      exact s_retL (el_eq (el_catV (ev_var rfl) x7 (el_lst (ea_cons (ev_cb (ea_cons (ev_var rfl) (ea_cons ev_c ea_nil)) (rc_isE (fun u r => r) Y.i_BadRing_Uneven)) (ea_cons (ev_cb (ea_cons (ev_var rfl) (ea_cons ev_c ea_nil)) (rc_isE (fun u r => r) Y.v_BadRing)) ea_nil)) (by walk_at "sz")) (by simp)) (by simp)) fun q H8 hq e8 x8 => k.go (((e1.trans e2).trans e3).trans e7) hq e8 x8
    have c0 := of_decide_eq_false hb
    refine s_if (et_B (ev_cmp (ev_var rfl) ev_c)) (fun hb H2 e2 => ?_) (fun hb H2 e2 => ?_)
    · obtain rfl := of_decide_eq_true hb
      refine s_dropS (ea_cons (ev_var rfl) (ea_cons (ev_var rfl) ea_nil)) fun H3 e3 => ⟨_, _, rfl, h2, fun H4 e4 => ?_⟩
      refine ⟨true, Y.q_BadCount, fun _ x hx => ⟨cBadCount, ⟨rfl, rfl, Y.e_BadCount.c⟩, ?_⟩, fun h => by cases h⟩
      refine q_asgL (el_lst (ea_cons (ev_cb (ea_cons (ev_var rfl) (ea_cons ev_c ea_nil)) (rc_isE (fun u r => r) Y.i_BadCount_BadRing)) (ea_cons (ev_cb (ea_cons (ev_var rfl) (ea_cons ev_c ea_nil)) (rc_isE (fun u r => r) Y.i_BadCount_BadCount)) (ea_cons (ev_cb (ea_cons (ev_var rfl) (ea_cons ev_c ea_nil)) (rc_isE (fun u r => r) Y.i_BadCount_NoBeat)) ea_nil))) (by walk_at "sz")) fun l H7 hl e7 x7 => ?_
      exact s_retL (el_eq (el_catV (ev_var rfl) x7 (el_lst (ea_cons (ev_cb (ea_cons (ev_var rfl) (ea_cons ev_c ea_nil)) (rc_isE (fun u r => r) Y.i_BadCount_Uneven)) (ea_cons (ev_cb (ea_cons (ev_var rfl) (ea_cons ev_c ea_nil)) (rc_isE (fun u r => r) Y.v_BadCount)) ea_nil)) (by walk_at "sz")) (by simp)) (by simp)) fun q H8 hq e8 x8 => k.go ((((e1.trans e2).trans e3).trans e4).trans e7) hq e8 x8
    have c1 := of_decide_eq_false hb
    refine s_if (et_B (ev_cmp (ev_var rfl) ev_c)) (fun hb H3 e3 => ?_) (fun hb H3 e3 => ?_)
    · obtain rfl := of_decide_eq_true hb
      have n0 := Int.emod_nonneg m (by omega : (9 : Int) ≠ 0)
      have n1 := Int.emod_lt_of_pos m (by omega : (0 : Int) < 9)
      have hl : (List.replicate (1 + m % 9).toNat [false]).flatten.length = (1 + m % 9).toNat := by rw [flat_rep1, List.length_replicate]
      have hc : (List.replicate (1 + m % 9).toNat [false]).flatten.count true = 0 := by
        rw [flat_rep1, List.count_replicate]
        rfl
      refine s_dropSub (ex_menu mono_fn (exs_cons mono_fn (ex_of ev_c (fun _ _ => ⟨f_gaps, rfl, by simp⟩)) (exs_cons mono_fn (ex_of ev_c (fun _ _ => ⟨f_folded, rfl, by simp⟩)) exs_nil)) (by decide) (ev_op (ev_var rfl) ev_c (rv_I (by walk_at "pos"))) (by omega)) (ea_cons (ev_op ev_c (ev_op ev_c (ev_op (ev_var rfl) ev_c (rv_I (by walk_at "pos"))) rv_I0) (rv_mulS (by walk_at "pre"))) ea_nil) fun H4 e4 => ⟨_, rfl, ⟨by omega, hc⟩, fun H5 e5 => ?_⟩
      refine ⟨true, Y.q_NoBeat, fun _ x hx => ⟨cNoBeat, ⟨rfl, rfl, Y.e_NoBeat.c⟩, ?_⟩, fun h => by cases h⟩
      refine q_asgL (el_lst (ea_cons (ev_cb (ea_cons (ev_var rfl) (ea_cons ev_c ea_nil)) (rc_isE (fun u r => r) Y.i_NoBeat_BadRing)) (ea_cons (ev_cb (ea_cons (ev_var rfl) (ea_cons ev_c ea_nil)) (rc_isE (fun u r => r) Y.i_NoBeat_BadCount)) (ea_cons (ev_cb (ea_cons (ev_var rfl) (ea_cons ev_c ea_nil)) (rc_isE (fun u r => r) Y.i_NoBeat_NoBeat)) ea_nil))) (by walk_at "sz")) fun l H7 hl e7 x7 => ?_
      exact s_retL (el_eq (el_catV (ev_var rfl) x7 (el_lst (ea_cons (ev_cb (ea_cons (ev_var rfl) (ea_cons ev_c ea_nil)) (rc_isE (fun u r => r) Y.i_NoBeat_Uneven)) (ea_cons (ev_cb (ea_cons (ev_var rfl) (ea_cons ev_c ea_nil)) (rc_isE (fun u r => r) Y.v_NoBeat)) ea_nil)) (by walk_at "sz")) (by simp)) (by simp)) fun q H8 hq e8 x8 => k.go ((((((e1.trans e2).trans e3).trans e4).trans e5)).trans e7) hq e8 x8
    · have c2 := of_decide_eq_false hb
      have ek : kd = 3 := by omega
      subst ek
      have n0 := Int.emod_nonneg m (by omega : (9 : Int) ≠ 0)
      have n1 := Int.emod_lt_of_pos m (by omega : (0 : Int) < 9)
      have hmr : MonoP (fun v _ => ∃ r ∈ [[true, true, false, false], [true, true, false, true, false, false], [true, false, true, true, false, false, true, false, false, false], [true, true, true, false, false, false]], v = V.str (enc r)) := fun _ _ _ _ h => h
      refine s_dropSubX (P := fun v _ => ∃ r ∈ [[true, true, false, false], [true, true, false, true, false, false], [true, false, true, true, false, false, true, false, false, false], [true, true, true, false, false, false]], ∃ j, j < 9 ∧ v = V.str (enc (r ++ List.replicate j false))) (ex_menu mono_fn (exs_cons mono_fn (ex_of ev_c (fun _ _ => ⟨f_folded, rfl, by simp⟩)) (exs_cons mono_fn (ex_of ev_c (fun _ _ => ⟨f_folds, rfl, by simp⟩)) exs_nil)) (by decide) (ev_op (ev_var rfl) ev_c (rv_I (by walk_at "pos"))) (by omega))
        (ex_op (ex_menu hmr (exs_cons hmr (ex_of ev_c (fun _ _ => ⟨_, by simp, rfl⟩)) (exs_cons hmr (ex_of ev_c (fun _ _ => ⟨_, by simp, rfl⟩)) (exs_cons hmr (ex_of ev_c (fun _ _ => ⟨_, by simp, rfl⟩)) (exs_cons hmr (ex_of ev_c (fun _ _ => ⟨_, by simp, rfl⟩)) exs_nil)))) (by decide) (ev_op (ev_op (ev_var rfl) ev_c (rv_I (by walk_at "div"))) ev_c (rv_I (by walk_at "pos"))) (by omega)) (ev_op ev_c (ev_op (ev_var rfl) ev_c (rv_I (by walk_at "pos"))) (rv_mulS (by walk_at "pre"))) hmr (fun v H4 e4 hv => ?_)) fun v H4 e4 hv => ?_
      · obtain ⟨r, hr4, rfl⟩ := hv
        have hu := (uneven_all r hr4 (m % 9).toNat (by omega)).1.2
        rw [List.length_append, List.length_replicate] at hu
        refine ⟨_, rv_catS (by omega) (by
          rw [flat_rep1, List.length_replicate]
          omega), fun _ _ => ⟨r, hr4, (m % 9).toNat, by omega, ?_⟩⟩
        rw [flat_rep1]
      · obtain ⟨r, hr4, j, hj, rfl⟩ := hv
        refine ⟨_, rfl, uneven_all r hr4 j hj, fun H5 e5 => ?_⟩
        refine ⟨true, Y.q_Uneven, fun _ x hx => ⟨cUneven, ⟨rfl, rfl, Y.e_Uneven.c⟩, ?_⟩, fun h => by cases h⟩
        refine q_asgL (el_lst (ea_cons (ev_cb (ea_cons (ev_var rfl) (ea_cons ev_c ea_nil)) (rc_isE (fun u r => r) Y.i_Uneven_BadRing)) (ea_cons (ev_cb (ea_cons (ev_var rfl) (ea_cons ev_c ea_nil)) (rc_isE (fun u r => r) Y.i_Uneven_BadCount)) (ea_cons (ev_cb (ea_cons (ev_var rfl) (ea_cons ev_c ea_nil)) (rc_isE (fun u r => r) Y.i_Uneven_NoBeat)) ea_nil))) (by walk_at "sz")) fun l H7 hl e7 x7 => ?_
        exact s_retL (el_eq (el_catV (ev_var rfl) x7 (el_lst (ea_cons (ev_cb (ea_cons (ev_var rfl) (ea_cons ev_c ea_nil)) (rc_isE (fun u r => r) Y.i_Uneven_Uneven)) (ea_cons (ev_cb (ea_cons (ev_var rfl) (ea_cons ev_c ea_nil)) (rc_isE (fun u r => r) Y.v_Uneven)) ea_nil)) (by walk_at "sz")) (by simp)) (by simp)) fun q H8 hq e8 x8 => k.go ((((((e1.trans e2).trans e3).trans e4).trans e5)).trans e7) hq e8 x8
end
end Eb
namespace Eb
open PySem PySem.Spec PyProof.Rows L2 TL Evl
abbrev sAbout : Stmt := topS 18
theorem scAbout : FnScope ["ring"] ["ring"] (defScope sAbout) := ⟨rfl, rfl, rfl, by decide +kernel, rfl, by decide +kernel, by decide +kernel⟩
section
variable {P : Program} {w : World} {K : PySem.W.Frag} {mg : Str → Option Value} {base : Heap}
variable {cBeatError cBadRing cBadCount cNoBeat cUneven : Addr}
theorem ok_about (D : DefAt K mg "about" sAbout) (c_asked_ring : CalX P w K mg base 4 "asked_ring" (spAskedRingB K cBadRing) []) : CalX P w K mg base 5 "about" (spRef (fun v H => BadRingV K H v) cBadRing) [] := by
  refine calx_of D (fun _ _ _ _ _ _ us hl => match us, hl with | [_], _ => rfl) scAbout (fun vs H Q E h => ?_) (fun f cdv A outer s H vs Q E hr h => ?_)
  · obtain ⟨v, rfl, _⟩ := h
    rfl
  · obtain ⟨v, rfl, hb, kE⟩ := h
    refine ⟨_, (pss_cons (ps_expr (pe_cx (passD (L2N.takes_of rfl rfl rfl rfl)) c_asked_ring hr (by decide) (by rfl) (pa_cons (pv 0) pa_nil)))
      pss_never), ?_⟩
    exact q_dropC (ea_cons (ev_var rfl) ea_nil) fun H1 e1 => ⟨v, rfl, .inr ⟨hb.mono e1, fun H2 e2 => kE H2 (e1.trans e2)⟩⟩
end
end Eb
namespace Eb
open PySem PySem.Spec PyProof.Rows L2 TL Evl
abbrev sBegun : Stmt := topS 36
theorem scBegun : FnScope ["row", "sums", "found", "low", "high", "beats", "places", "least", "at"] ["row"] (defScope sBegun) := ⟨rfl, rfl, rfl, by decide +kernel, rfl, by decide +kernel, by decide +kernel⟩
section
variable {P : Program} {w : World} {K : PySem.W.Frag} {mg : Str → Option Value} {base : Heap}
variable {cBeatError cBadRing cBadCount cNoBeat cUneven : Addr}
theorem ok_begun (D : DefAt K mg "begun" sBegun) (c_asked_row : CalX P w K mg base 3 "asked_row" (spAskedRowB K cBadRing) []) : CalX P w K mg base 4 "begun" (spRef (fun v H => BadRow K H v) cBadRing) [] := by
  refine calx_of D (fun _ _ _ _ _ _ us hl => match us, hl with | [_], _ => rfl) scBegun (fun vs H Q E h => ?_) (fun f cdv A outer s H vs Q E hr h => ?_)
  · obtain ⟨v, rfl, _⟩ := h
    rfl
  · obtain ⟨v, rfl, hb, kE⟩ := h
    refine ⟨_, (pss_cons (ps_expr (pe_cx (passD (L2N.takes_of rfl rfl rfl rfl)) c_asked_row hr (by decide) (by rfl) (pa_cons (pv 0) pa_nil)))
      pss_never), ?_⟩
    exact q_dropC (ea_cons (ev_var rfl) ea_nil) fun H1 e1 => ⟨v, rfl, .inr ⟨hb.mono e1, fun H2 e2 => kE H2 (e1.trans e2)⟩⟩
end
end Eb
namespace Eb
open PySem PySem.Spec PyProof.Rows L2 TL Evl
abbrev sEven : Stmt := topS 40
theorem scEven : FnScope ["ring", "whole", "turn"] ["ring"] (defScope sEven) := ⟨rfl, rfl, rfl, by decide +kernel, rfl, by decide +kernel, by decide +kernel⟩
section
variable {P : Program} {w : World} {K : PySem.W.Frag} {mg : Str → Option Value} {base : Heap}
variable {cBeatError cBadRing cBadCount cNoBeat cUneven : Addr}
theorem ok_even (D : DefAt K mg "even" sEven) (c_asked_ring : CalX P w K mg base 4 "asked_ring" (spAskedRingB K cBadRing) []) : CalX P w K mg base 5 "even" (spRef (fun v H => BadRingV K H v) cBadRing) [] := by
  refine calx_of D (fun _ _ _ _ _ _ us hl => match us, hl with | [_], _ => rfl) scEven (fun vs H Q E h => ?_) (fun f cdv A outer s H vs Q E hr h => ?_)
  · obtain ⟨v, rfl, _⟩ := h
    rfl
  · obtain ⟨v, rfl, hb, kE⟩ := h
    refine ⟨_, (pss_cons (ps_expr (pe_cx (passD (L2N.takes_of rfl rfl rfl rfl)) c_asked_ring hr (by decide) (by rfl) (pa_cons (pv 0) pa_nil)))
      pss_never), ?_⟩
    exact q_dropC (ea_cons (ev_var rfl) ea_nil) fun H1 e1 => ⟨v, rfl, .inr ⟨hb.mono e1, fun H2 e2 => kE H2 (e1.trans e2)⟩⟩
end
end Eb
namespace Eb
open PySem PySem.Spec PyProof.Rows L2 TL Evl
abbrev sExchanged : Stmt := topS 17
theorem scExchanged : FnScope ["ring", "sign"] ["ring"] (defScope sExchanged) := ⟨rfl, rfl, rfl, by decide +kernel, rfl, by decide +kernel, by decide +kernel⟩
section
variable {P : Program} {w : World} {K : PySem.W.Frag} {mg : Str → Option Value} {base : Heap}
variable {cBeatError cBadRing cBadCount cNoBeat cUneven : Addr}
theorem ok_exchanged (D : DefAt K mg "exchanged" sExchanged) (c_asked_ring : CalX P w K mg base 4 "asked_ring" (spAskedRingB K cBadRing) []) : CalX P w K mg base 5 "exchanged" (spRef (fun v H => BadRingV K H v) cBadRing) [] := by
  refine calx_of D (fun _ _ _ _ _ _ us hl => match us, hl with | [_], _ => rfl) scExchanged (fun vs H Q E h => ?_) (fun f cdv A outer s H vs Q E hr h => ?_)
  · obtain ⟨v, rfl, _⟩ := h
    rfl
  · obtain ⟨v, rfl, hb, kE⟩ := h
    refine ⟨_, (pss_cons (ps_expr (pe_cx (passD (L2N.takes_of rfl rfl rfl rfl)) c_asked_ring hr (by decide) (by rfl) (pa_cons (pv 0) pa_nil)))
      pss_never), ?_⟩
    exact q_dropC (ea_cons (ev_var rfl) ea_nil) fun H1 e1 => ⟨v, rfl, .inr ⟨hb.mono e1, fun H2 e2 => kE H2 (e1.trans e2)⟩⟩
end
end Eb
namespace Eb
open PySem PySem.Spec PyProof.Rows L2 TL Evl
abbrev sLaw : Stmt := topS 45
theorem scLaw : FnScope ["_law_script", "_law_cell", "_law_kind", "_law_due"] ["_law_script"] (defScope sLaw) := ⟨rfl, rfl, rfl, by decide +kernel, rfl, by decide +kernel, by decide +kernel⟩
def spLaw (K : PySem.W.Frag) : Sp := fun vs H Q _ => ∃ (a : Addr) (ns : List Int), vs = [.ref a] ∧ SqL K H a (ns.map V.int) ∧ ns.length ≤ 63 ∧ (∀ z ∈ ns, Builtin.Int.intBits z ≤ 1048576) ∧ ∀ H', Q (.bl true) H'
section
variable {P : Program} {w : World} {K : PySem.W.Frag} {mg : Str → Option Value} {base : Heap}
variable {cBeatError cBadRing cBadCount cNoBeat cUneven : Addr}
theorem ok_law {f : Addr} {fd : FuncData} (F : Fun K "law" "law" sLaw f fd) (c__law_told : C8.Cal P w K mg base 9 "_law_told" (spTold K) []) (c_gaps : CalX P w K mg base 5 "gaps" (spGapsB K cBadRing cNoBeat) []) (c_unfolded : CalX P w K mg base 5 "unfolded" (spUnfoldedB K cBadRing cBadCount) []) (c_folds : CalX P w K mg base 7 "folds" (spFoldsB K cBadRing cUneven) []) : FnOk P w K mg base CX0 10 f fd ["_law_script"] (spLaw K) := by
  refine F.ok scLaw (fun vs H Q E h => ?_) (fun cdv A outer s H vs Q E hr h => ?_)
  · obtain ⟨a, ns, rfl, _⟩ := h
    rfl
  · obtain ⟨a, ns, rfl, hS, hl, hbits, k⟩ := h
    refine ⟨_, (pss_cons (ps_for PassesOwn.never rfl (pi_list (pv 0)) (pg_name (i := 1) scLaw.nd rfl (Or.inl rfl))
      (pss_cons (ps_set (i := 2) scLaw.nd rfl (Or.inl rfl) (pe_op op_mod (pv 1) pe_int))
      (pss_cons (ps_set (i := 3) scLaw.nd rfl (Or.inl rfl) (pe_lst (pa_cons (pe_cmp (pc_eqI (pv 2) pe_int)) (pa_cons (pe_cmp (pc_eqI (pv 2) pe_int)) (pa_cons (pe_cmp (pc_eqI (pv 2) pe_int)) (pa_cons (pe_cmp (pc_eqI (pv 2) pe_int)) (pa_cons pe_bl pa_nil)))))))
      (pss_one (ps_if (pt_cmpR (op_neD (hu64 hr)) (C8.pe_c c__law_told hr (by decide) (by rfl) (pa_cons (pv 2) (pa_cons (pe_op op_mod (pe_op op_fdiv (pv 1) pe_int) pe_int) (pa_cons (pe_op op_mod (pe_op op_fdiv (pv 1) pe_int) pe_int) pa_nil)))) (pv 3) (nomark _))
      (pss_one (ps_ret pe_bl))
      pss_nil)))))
      (pss_one (ps_ret (pe_and (pe_cmpR (op_eqD (hu64 hr)) (pe_cx passN c_folds hr (by decide) (by rfl) (pa_cons pe_sd pa_nil)) (pe_lst (pa_cons pe_sd pa_nil)) (nomark _)) (pe_and (pe_cmpR (op_eqD (hu64 hr)) (pe_cx passN c_folds hr (by decide) (by rfl) (pa_cons pe_sx pa_nil)) (pe_lst (pa_cons pe_sx (pa_cons pe_sd pa_nil))) (nomark _)) (pe_and (pe_cmpR op_eq (pe_cx passN c_unfolded hr (by decide) (by rfl) (pa_cons pe_sx (pa_cons pe_int pa_nil))) (pe_strE (bs := [true, false]) (by decide +kernel)) (nomark _)) (pe_one (pe_cmpR (op_eqD (hu64 hr)) (pe_cx passN c_gaps hr (by decide) (by rfl) (pa_cons (pe_strE (bs := [true, false, false]) (by decide +kernel)) pa_nil)) (pe_lst (pa_cons pe_int pa_nil)) (nomark _))))))))), ?_⟩
    refine q_forLn (ev_var rfl) hS (fun i σ' H' => ∃ z1 z2 z3, σ' = [some (.ref a), z1, z2, z3] ∧ Ex H H') (fun H1 e1 => ⟨none, none, none, rfl, e1⟩) (fun i σ' H' _ hp => by
      obtain ⟨_, _, _, _, ex⟩ := hp
      exact ex_l ex hS) (fun i x σ' H' hi hp => ?_) (fun σ' H' hp => ?_)
    · obtain ⟨z1, z2, z3, rfl, ex⟩ := hp
      rw [List.getElem?_map] at hi
      obtain ⟨c, rfl⟩ : ∃ c : Int, V.int c = x := by
        cases hq : ns[i]? with
        | none =>
          rw [hq] at hi
          cases hi
        | some c =>
          rw [hq] at hi
          exact ⟨c, Option.some.inj hi⟩
      refine q_asg (ev_op (ev_var rfl) ev_c (rv_I (by walk_at "pos"))) fun H1 e1 => ?_
      have k0 : 0 ≤ c % 4 ∧ c % 4 < 4 ∧ 0 ≤ c / 400000 % 1000 := by omega
      refine q_asgL (el_eq (el_lst (ea_cons (ev_cmp (ev_var rfl) ev_c) (ea_cons (ev_cmp (ev_var rfl) ev_c) (ea_cons (ev_cmp (ev_var rfl) ev_c) (ea_cons (ev_cmp (ev_var rfl) ev_c) (ea_cons ev_c ea_nil))))) (by walk_at "sz")) (show _ = List.map V.bl [decide (c % 4 = 0), decide (c % 4 = 1), decide (c % 4 = 2), decide (c % 4 = 3), true] from rfl)) fun l H2 hl2 e2 x2 => ?_
      refine s_when (et_test (ev_neNV fe_bool (el_call (ea_cons (ev_var rfl) (ea_cons (ev_op (ev_op (ev_var rfl) ev_c (rv_I (by walk_at "div"))) ev_c (rv_I (by walk_at "pos"))) (ea_cons (ev_op (ev_op (ev_var rfl) ev_c (rv_I (by walk_at "div"))) ev_c (rv_I (by walk_at "pos"))) ea_nil))) (spl__law_told k0)) (ev_var rfl) (sq_of x2))) (fun hb => by
        exfalso
        simp at hb) (fun _ H3 e3 => ⟨_, _, _, rfl, ((ex.trans e1).trans e2).trans e3⟩)
    · obtain ⟨z1, z2, z3, rfl, ex⟩ := hp
      refine s_ret (ev_eq (ev_andV (ev_eqNN fe_row (el_call (ea_cons ev_c ea_nil) (spl_folds_c (by decide) (none_flat (by decide)) (fun _ _ h _ => chain_d h))) (el_eq (el_lst (ea_cons ev_c ea_nil) (by walk_at "sz")) (show _ = List.map (fun l => V.str (enc l)) [[false]] from rfl)))
        (fun _ => ev_andV (ev_eqNN fe_row (el_call (ea_cons ev_c ea_nil) (spl_folds_c (by decide) flat_x (fun _ _ h hl => chain_x h hl))) (el_eq (el_lst (ea_cons ev_c (ea_cons ev_c ea_nil)) (by walk_at "sz")) (show _ = List.map (fun l => V.str (enc l)) [[true], [false]] from rfl)))
        (fun _ => ev_andV (ev_op (ev_call (ea_cons ev_c (ea_cons ev_c ea_nil)) (spv_unfolded (by decide))) ev_c rv_eqS)
        (fun _ => ev_eqNN fe_int (el_call (ea_cons ev_c ea_nil) (spl_gaps (by decide))) (el_eq (el_lst (ea_cons ev_c ea_nil) (by walk_at "sz")) (show _ = List.map V.int [3] from rfl)))))) ?_) fun H1 _ => k H1
      have e : (1 : Int).toNat = 1 := rfl
      rw [e, unf_x, gps_x]
      rfl
end
end Eb
namespace Eb
open PySem PySem.Spec PyProof.Rows L2 TL Evl
theorem all_mk {l : PySem.W.OpenLaw} {w : World} {K : PySem.W.Frag} {h : Heap} {mg : Str → Option Value} {fa : Addr} (X : K.In h) (G : h.Ns mainGlobals mg) (hfa : mg "law" = some (.ref fa))
    {f1 : Addr} {od1 an1 : Option Addr} {sl1 : Array (Option Value)} {oc1 kV1 dc1 pm1 cd1 ct1 : Value}
    {f2 : Addr} {od2 an2 : Option Addr} {sl2 : Array (Option Value)} {oc2 kV2 dc2 pm2 cd2 ct2 : Value}
    {f3 : Addr} {od3 an3 : Option Addr} {sl3 : Array (Option Value)} {oc3 kV3 dc3 pm3 cd3 ct3 : Value}
    {f4 : Addr} {od4 an4 : Option Addr} {sl4 : Array (Option Value)} {oc4 kV4 dc4 pm4 cd4 ct4 : Value}
    {f5 : Addr} {od5 an5 : Option Addr} {sl5 : Array (Option Value)} {oc5 kV5 dc5 pm5 cd5 ct5 : Value}
    {f6 : Addr} {od6 an6 : Option Addr} {sl6 : Array (Option Value)} {oc6 kV6 dc6 pm6 cd6 ct6 : Value}
    {f7 : Addr} {od7 an7 : Option Addr} {sl7 : Array (Option Value)} {oc7 kV7 dc7 pm7 cd7 ct7 : Value}
    {f8 : Addr} {od8 an8 : Option Addr} {sl8 : Array (Option Value)} {oc8 kV8 dc8 pm8 cd8 ct8 : Value}
    {f9 : Addr} {od9 an9 : Option Addr} {sl9 : Array (Option Value)} {oc9 kV9 dc9 pm9 cd9 ct9 : Value}
    {f10 : Addr} {od10 an10 : Option Addr} {sl10 : Array (Option Value)} {oc10 kV10 dc10 pm10 cd10 ct10 : Value}
    {f11 : Addr} {od11 an11 : Option Addr} {sl11 : Array (Option Value)} {oc11 kV11 dc11 pm11 cd11 ct11 : Value}
    {f12 : Addr} {od12 an12 : Option Addr} {sl12 : Array (Option Value)} {oc12 kV12 dc12 pm12 cd12 ct12 : Value}
    {f13 : Addr} {od13 an13 : Option Addr} {sl13 : Array (Option Value)} {oc13 kV13 dc13 pm13 cd13 ct13 : Value}
    {f14 : Addr} {od14 an14 : Option Addr} {sl14 : Array (Option Value)} {oc14 kV14 dc14 pm14 cd14 ct14 : Value}
    {f15 : Addr} {od15 an15 : Option Addr} {sl15 : Array (Option Value)} {oc15 kV15 dc15 pm15 cd15 ct15 : Value}
    {f16 : Addr} {od16 an16 : Option Addr} {sl16 : Array (Option Value)} {oc16 kV16 dc16 pm16 cd16 ct16 : Value}
    {f17 : Addr} {od17 an17 : Option Addr} {sl17 : Array (Option Value)} {oc17 kV17 dc17 pm17 cd17 ct17 : Value}
    {f18 : Addr} {od18 an18 : Option Addr} {sl18 : Array (Option Value)} {oc18 kV18 dc18 pm18 cd18 ct18 : Value}
    {f19 : Addr} {od19 an19 : Option Addr} {sl19 : Array (Option Value)} {oc19 kV19 dc19 pm19 cd19 ct19 : Value}
    {cBeatError : Addr}
    {cBadRing : Addr}
    {cBadCount : Addr}
    {cNoBeat : Addr}
    {cUneven : Addr}
    {tb tr : Tok}
    (a1 : PySem.W.nsIn K mainGlobals "is_number" = some (some (.ref f1))) (l1 : K.lookup f1 = some ⟨oc1, od1, .func (PySem.W.fnOf "is_number" "is_number" (defArgs sIsNumber) (defBody sIsNumber) (defScope sIsNumber) .none kV1 dc1 pm1 an1 cd1 ct1), sl1⟩) (c1 : PySem.W.codeIn K cd1 "is_number" = true) (k1 : PySem.W.keepIn K (.ref f1) = true)
    (a2 : PySem.W.nsIn K mainGlobals "asked_row" = some (some (.ref f2))) (l2 : K.lookup f2 = some ⟨oc2, od2, .func (PySem.W.fnOf "asked_row" "asked_row" (defArgs sAskedRow) (defBody sAskedRow) (defScope sAskedRow) .none kV2 dc2 pm2 an2 cd2 ct2), sl2⟩) (c2 : PySem.W.codeIn K cd2 "asked_row" = true) (k2 : PySem.W.keepIn K (.ref f2) = true)
    (a3 : PySem.W.nsIn K mainGlobals "asked_ring" = some (some (.ref f3))) (l3 : K.lookup f3 = some ⟨oc3, od3, .func (PySem.W.fnOf "asked_ring" "asked_ring" (defArgs sAskedRing) (defBody sAskedRing) (defScope sAskedRing) .none kV3 dc3 pm3 an3 cd3 ct3), sl3⟩) (c3 : PySem.W.codeIn K cd3 "asked_ring" = true) (k3 : PySem.W.keepIn K (.ref f3) = true)
    (a4 : PySem.W.nsIn K mainGlobals "reckoned" = some (some (.ref f4))) (l4 : K.lookup f4 = some ⟨oc4, od4, .func (PySem.W.fnOf "reckoned" "reckoned" (defArgs sReckoned) (defBody sReckoned) (defScope sReckoned) .none kV4 dc4 pm4 an4 cd4 ct4), sl4⟩) (c4 : PySem.W.codeIn K cd4 "reckoned" = true) (k4 : PySem.W.keepIn K (.ref f4) = true)
    (a5 : PySem.W.nsIn K mainGlobals "laid" = some (some (.ref f5))) (l5 : K.lookup f5 = some ⟨oc5, od5, .func (PySem.W.fnOf "laid" "laid" (defArgs sLaid) (defBody sLaid) (defScope sLaid) .none kV5 dc5 pm5 an5 cd5 ct5), sl5⟩) (c5 : PySem.W.codeIn K cd5 "laid" = true) (k5 : PySem.W.keepIn K (.ref f5) = true)
    (a6 : PySem.W.nsIn K mainGlobals "turned" = some (some (.ref f6))) (l6 : K.lookup f6 = some ⟨oc6, od6, .func (PySem.W.fnOf "turned" "turned" (defArgs sTurned) (defBody sTurned) (defScope sTurned) .none kV6 dc6 pm6 an6 cd6 ct6), sl6⟩) (c6 : PySem.W.codeIn K cd6 "turned" = true) (k6 : PySem.W.keepIn K (.ref f6) = true)
    (a7 : PySem.W.nsIn K mainGlobals "exchanged" = some (some (.ref f7))) (l7 : K.lookup f7 = some ⟨oc7, od7, .func (PySem.W.fnOf "exchanged" "exchanged" (defArgs sExchanged) (defBody sExchanged) (defScope sExchanged) .none kV7 dc7 pm7 an7 cd7 ct7), sl7⟩) (c7 : PySem.W.codeIn K cd7 "exchanged" = true) (k7 : PySem.W.keepIn K (.ref f7) = true)
    (a8 : PySem.W.nsIn K mainGlobals "about" = some (some (.ref f8))) (l8 : K.lookup f8 = some ⟨oc8, od8, .func (PySem.W.fnOf "about" "about" (defArgs sAbout) (defBody sAbout) (defScope sAbout) .none kV8 dc8 pm8 an8 cd8 ct8), sl8⟩) (c8 : PySem.W.codeIn K cd8 "about" = true) (k8 : PySem.W.keepIn K (.ref f8) = true)
    (a9 : PySem.W.nsIn K mainGlobals "gaps_of" = some (some (.ref f9))) (l9 : K.lookup f9 = some ⟨oc9, od9, .func (PySem.W.fnOf "gaps_of" "gaps_of" (defArgs sGapsOf) (defBody sGapsOf) (defScope sGapsOf) .none kV9 dc9 pm9 an9 cd9 ct9), sl9⟩) (c9 : PySem.W.codeIn K cd9 "gaps_of" = true) (k9 : PySem.W.keepIn K (.ref f9) = true)
    (a10 : PySem.W.nsIn K mainGlobals "gaps" = some (some (.ref f10))) (l10 : K.lookup f10 = some ⟨oc10, od10, .func (PySem.W.fnOf "gaps" "gaps" (defArgs sGaps) (defBody sGaps) (defScope sGaps) .none kV10 dc10 pm10 an10 cd10 ct10), sl10⟩) (c10 : PySem.W.codeIn K cd10 "gaps" = true) (k10 : PySem.W.keepIn K (.ref f10) = true)
    (a11 : PySem.W.nsIn K mainGlobals "folded" = some (some (.ref f11))) (l11 : K.lookup f11 = some ⟨oc11, od11, .func (PySem.W.fnOf "folded" "folded" (defArgs sFolded) (defBody sFolded) (defScope sFolded) .none kV11 dc11 pm11 an11 cd11 ct11), sl11⟩) (c11 : PySem.W.codeIn K cd11 "folded" = true) (k11 : PySem.W.keepIn K (.ref f11) = true)
    (a12 : PySem.W.nsIn K mainGlobals "unfolded" = some (some (.ref f12))) (l12 : K.lookup f12 = some ⟨oc12, od12, .func (PySem.W.fnOf "unfolded" "unfolded" (defArgs sUnfolded) (defBody sUnfolded) (defScope sUnfolded) .none kV12 dc12 pm12 an12 cd12 ct12), sl12⟩) (c12 : PySem.W.codeIn K cd12 "unfolded" = true) (k12 : PySem.W.keepIn K (.ref f12) = true)
    (a13 : PySem.W.nsIn K mainGlobals "folds" = some (some (.ref f13))) (l13 : K.lookup f13 = some ⟨oc13, od13, .func (PySem.W.fnOf "folds" "folds" (defArgs sFolds) (defBody sFolds) (defScope sFolds) .none kV13 dc13 pm13 an13 cd13 ct13), sl13⟩) (c13 : PySem.W.codeIn K cd13 "folds" = true) (k13 : PySem.W.keepIn K (.ref f13) = true)
    (a14 : PySem.W.nsIn K mainGlobals "begun" = some (some (.ref f14))) (l14 : K.lookup f14 = some ⟨oc14, od14, .func (PySem.W.fnOf "begun" "begun" (defArgs sBegun) (defBody sBegun) (defScope sBegun) .none kV14 dc14 pm14 an14 cd14 ct14), sl14⟩) (c14 : PySem.W.codeIn K cd14 "begun" = true) (k14 : PySem.W.keepIn K (.ref f14) = true)
    (a15 : PySem.W.nsIn K mainGlobals "even" = some (some (.ref f15))) (l15 : K.lookup f15 = some ⟨oc15, od15, .func (PySem.W.fnOf "even" "even" (defArgs sEven) (defBody sEven) (defScope sEven) .none kV15 dc15 pm15 an15 cd15 ct15), sl15⟩) (c15 : PySem.W.codeIn K cd15 "even" = true) (k15 : PySem.W.keepIn K (.ref f15) = true)
    (a16 : PySem.W.nsIn K mainGlobals "_law_ring_asked" = some (some (.ref f16))) (l16 : K.lookup f16 = some ⟨oc16, od16, .func (PySem.W.fnOf "_law_ring_asked" "_law_ring_asked" (defArgs sLawRingAsked) (defBody sLawRingAsked) (defScope sLawRingAsked) .none kV16 dc16 pm16 an16 cd16 ct16), sl16⟩) (c16 : PySem.W.codeIn K cd16 "_law_ring_asked" = true) (k16 : PySem.W.keepIn K (.ref f16) = true)
    (a17 : PySem.W.nsIn K mainGlobals "_law_count_asked" = some (some (.ref f17))) (l17 : K.lookup f17 = some ⟨oc17, od17, .func (PySem.W.fnOf "_law_count_asked" "_law_count_asked" (defArgs sLawCountAsked) (defBody sLawCountAsked) (defScope sLawCountAsked) .none kV17 dc17 pm17 an17 cd17 ct17), sl17⟩) (c17 : PySem.W.codeIn K cd17 "_law_count_asked" = true) (k17 : PySem.W.keepIn K (.ref f17) = true)
    (a18 : PySem.W.nsIn K mainGlobals "_law_told" = some (some (.ref f18))) (l18 : K.lookup f18 = some ⟨oc18, od18, .func (PySem.W.fnOf "_law_told" "_law_told" (defArgs sLawTold) (defBody sLawTold) (defScope sLawTold) .none kV18 dc18 pm18 an18 cd18 ct18), sl18⟩) (c18 : PySem.W.codeIn K cd18 "_law_told" = true) (k18 : PySem.W.keepIn K (.ref f18) = true)
    (a19 : PySem.W.nsIn K mainGlobals "law" = some (some (.ref f19))) (l19 : K.lookup f19 = some ⟨oc19, od19, .func (PySem.W.fnOf "law" "law" (defArgs sLaw) (defBody sLaw) (defScope sLaw) .none kV19 dc19 pm19 an19 cd19 ct19), sl19⟩) (c19 : PySem.W.codeIn K cd19 "law" = true) (k19 : PySem.W.keepIn K (.ref f19) = true)
    (g_BeatError : PySem.W.nsIn K mainGlobals "BeatError" = some (some (.ref cBeatError)))
    (g_BadRing : PySem.W.nsIn K mainGlobals "BadRing" = some (some (.ref cBadRing)))
    (g_BadCount : PySem.W.nsIn K mainGlobals "BadCount" = some (some (.ref cBadCount)))
    (g_NoBeat : PySem.W.nsIn K mainGlobals "NoBeat" = some (some (.ref cNoBeat)))
    (g_Uneven : PySem.W.nsIn K mainGlobals "Uneven" = some (some (.ref cUneven)))
    (z_VE : PySem.W.nsIn K mainGlobals "ValueError" = some none) (xn_o : PySem.W.specialIn K (.builtin "object.__class__") "__get__" = some (some (.builtin "getset_descriptor.__get__"))) (xt_o : PySem.W.takesIn K (.builtin "object.__class__") = some true)
    (bs_BE : PySem.W.subIn K (.ref cBeatError) (.type "BaseException") = some true) (bd_BE : PySem.W.hasDictIn K cBeatError = true) (bt_BE : PySem.W.typeIn K (.ref cBeatError) = some (.type "type"))
    (ex_BadRing : PySem.W.excIn K cBadRing [.type "ValueError", .type "Exception", .type "BaseException", .type "object"] "ValueError.__new__" = true) (ek_BadRing : PySem.W.keepIn K (.ref cBadRing) = true) (es_BadRing : PySem.W.subIn K (.ref cBadRing) (.type "BaseException") = some true) (et_BadRing : PySem.W.typeIn K (.ref cBadRing) = some (.type "type")) (eb_BadRing : PySem.W.subIn K (.ref cBadRing) (.ref cBeatError) = some true)
    (ca_BadRing : PySem.W.findIn K (.ref cBadRing) "__getattribute__" = some (some (.builtin "BaseException.__getattribute__"))) (cb_BadRing : PySem.W.findIn K (.ref cBadRing) "__getattr__" = some none) (cd_BadRing : PySem.W.hasDictIn K cBadRing = true) (cc_BadRing : PySem.W.findIn K (.ref cBadRing) "__class__" = some (some (.builtin "object.__class__"))) (co_BadRing : PySem.W.mroIn K cBadRing (.type "object") = some true)
    (i_BadRing_BadRing : PySem.W.kitOne K (.ref cBadRing) (.ref cBadRing) = some true)
    (i_BadRing_BadCount : PySem.W.kitOne K (.ref cBadRing) (.ref cBadCount) = some false)
    (i_BadRing_NoBeat : PySem.W.kitOne K (.ref cBadRing) (.ref cNoBeat) = some false)
    (i_BadRing_Uneven : PySem.W.kitOne K (.ref cBadRing) (.ref cUneven) = some false)
    (v_BadRing : PySem.W.kitOne K (.ref cBadRing) (.type "ValueError") = some true)
    (ex_BadCount : PySem.W.excIn K cBadCount [.type "ValueError", .type "Exception", .type "BaseException", .type "object"] "ValueError.__new__" = true) (ek_BadCount : PySem.W.keepIn K (.ref cBadCount) = true) (es_BadCount : PySem.W.subIn K (.ref cBadCount) (.type "BaseException") = some true) (et_BadCount : PySem.W.typeIn K (.ref cBadCount) = some (.type "type")) (eb_BadCount : PySem.W.subIn K (.ref cBadCount) (.ref cBeatError) = some true)
    (ca_BadCount : PySem.W.findIn K (.ref cBadCount) "__getattribute__" = some (some (.builtin "BaseException.__getattribute__"))) (cb_BadCount : PySem.W.findIn K (.ref cBadCount) "__getattr__" = some none) (cd_BadCount : PySem.W.hasDictIn K cBadCount = true) (cc_BadCount : PySem.W.findIn K (.ref cBadCount) "__class__" = some (some (.builtin "object.__class__"))) (co_BadCount : PySem.W.mroIn K cBadCount (.type "object") = some true)
    (i_BadCount_BadRing : PySem.W.kitOne K (.ref cBadCount) (.ref cBadRing) = some false)
    (i_BadCount_BadCount : PySem.W.kitOne K (.ref cBadCount) (.ref cBadCount) = some true)
    (i_BadCount_NoBeat : PySem.W.kitOne K (.ref cBadCount) (.ref cNoBeat) = some false)
    (i_BadCount_Uneven : PySem.W.kitOne K (.ref cBadCount) (.ref cUneven) = some false)
    (v_BadCount : PySem.W.kitOne K (.ref cBadCount) (.type "ValueError") = some true)
    (ex_NoBeat : PySem.W.excIn K cNoBeat [.type "ValueError", .type "Exception", .type "BaseException", .type "object"] "ValueError.__new__" = true) (ek_NoBeat : PySem.W.keepIn K (.ref cNoBeat) = true) (es_NoBeat : PySem.W.subIn K (.ref cNoBeat) (.type "BaseException") = some true) (et_NoBeat : PySem.W.typeIn K (.ref cNoBeat) = some (.type "type")) (eb_NoBeat : PySem.W.subIn K (.ref cNoBeat) (.ref cBeatError) = some true)
    (ca_NoBeat : PySem.W.findIn K (.ref cNoBeat) "__getattribute__" = some (some (.builtin "BaseException.__getattribute__"))) (cb_NoBeat : PySem.W.findIn K (.ref cNoBeat) "__getattr__" = some none) (cd_NoBeat : PySem.W.hasDictIn K cNoBeat = true) (cc_NoBeat : PySem.W.findIn K (.ref cNoBeat) "__class__" = some (some (.builtin "object.__class__"))) (co_NoBeat : PySem.W.mroIn K cNoBeat (.type "object") = some true)
    (i_NoBeat_BadRing : PySem.W.kitOne K (.ref cNoBeat) (.ref cBadRing) = some false)
    (i_NoBeat_BadCount : PySem.W.kitOne K (.ref cNoBeat) (.ref cBadCount) = some false)
    (i_NoBeat_NoBeat : PySem.W.kitOne K (.ref cNoBeat) (.ref cNoBeat) = some true)
    (i_NoBeat_Uneven : PySem.W.kitOne K (.ref cNoBeat) (.ref cUneven) = some false)
    (v_NoBeat : PySem.W.kitOne K (.ref cNoBeat) (.type "ValueError") = some true)
    (ex_Uneven : PySem.W.excIn K cUneven [.type "ValueError", .type "Exception", .type "BaseException", .type "object"] "ValueError.__new__" = true) (ek_Uneven : PySem.W.keepIn K (.ref cUneven) = true) (es_Uneven : PySem.W.subIn K (.ref cUneven) (.type "BaseException") = some true) (et_Uneven : PySem.W.typeIn K (.ref cUneven) = some (.type "type")) (eb_Uneven : PySem.W.subIn K (.ref cUneven) (.ref cBeatError) = some true)
    (ca_Uneven : PySem.W.findIn K (.ref cUneven) "__getattribute__" = some (some (.builtin "BaseException.__getattribute__"))) (cb_Uneven : PySem.W.findIn K (.ref cUneven) "__getattr__" = some none) (cd_Uneven : PySem.W.hasDictIn K cUneven = true) (cc_Uneven : PySem.W.findIn K (.ref cUneven) "__class__" = some (some (.builtin "object.__class__"))) (co_Uneven : PySem.W.mroIn K cUneven (.type "object") = some true)
    (i_Uneven_BadRing : PySem.W.kitOne K (.ref cUneven) (.ref cBadRing) = some false)
    (i_Uneven_BadCount : PySem.W.kitOne K (.ref cUneven) (.ref cBadCount) = some false)
    (i_Uneven_NoBeat : PySem.W.kitOne K (.ref cUneven) (.ref cNoBeat) = some false)
    (i_Uneven_Uneven : PySem.W.kitOne K (.ref cUneven) (.ref cUneven) = some true)
    (v_Uneven : PySem.W.kitOne K (.ref cUneven) (.type "ValueError") = some true)
    (z_len : PySem.W.nsIn K mainGlobals "len" = some none)
    (z_range : PySem.W.nsIn K mainGlobals "range" = some none)
    (z_max : PySem.W.nsIn K mainGlobals "max" = some none)
    (z_min : PySem.W.nsIn K mainGlobals "min" = some none)
    (z_isinstance : PySem.W.nsIn K mainGlobals "isinstance" = some none)
    (z_sum : PySem.W.nsIn K mainGlobals "sum" = some none)
    (z_any : PySem.W.nsIn K mainGlobals "any" = some none)
    (z_all : PySem.W.nsIn K mainGlobals "all" = some none)
    (z_int : PySem.W.nsIn K mainGlobals "int" = some none)
    (z_str : PySem.W.nsIn K mainGlobals "str" = some none)
    (z_bool : PySem.W.nsIn K mainGlobals "bool" = some none)
    (z_list : PySem.W.nsIn K mainGlobals "list" = some none)
    (z_enumerate : PySem.W.nsIn K mainGlobals "enumerate" = some none)
    (gB : PySem.W.nsIn K mainGlobals "BEAT" = some (some (.str "x" tb))) (gR : PySem.W.nsIn K mainGlobals "REST" = some (some (.str "." tr))) :
    ∃ fd : FuncData, (∀ (s : Shared) (v : Value), BindsTo s fd ⟨[v], []⟩ [("_law_script", v)]) ∧ ∀ base : Heap, K.In base → base.Ns mainGlobals mg → FnOk l.prog w K mg base CX0 10 fa fd ["_law_script"] (spLaw K) := by
  have e := hfa.symm.trans (PySem.W.mg_of X G a19)
  cases e
  have B : Bn mg := ⟨PySem.W.mg_none_of X G z_len, PySem.W.mg_none_of X G z_range, PySem.W.mg_none_of X G z_max, PySem.W.mg_none_of X G z_min, PySem.W.mg_none_of X G z_isinstance, PySem.W.mg_none_of X G z_sum, PySem.W.mg_none_of X G z_any, PySem.W.mg_none_of X G z_all, PySem.W.mg_none_of X G z_int, PySem.W.mg_none_of X G z_str, PySem.W.mg_none_of X G z_bool, PySem.W.mg_none_of X G z_list, PySem.W.mg_none_of X G z_enumerate⟩
  have T : Tx mg := ⟨⟨_, PySem.W.mg_of X G gB, tx_x⟩, ⟨_, PySem.W.mg_of X G gR, tx_d⟩⟩
  have D1 : DefAt K mg "is_number" sIsNumber := ⟨_, _, fun_mk l1 c1 k1, PySem.W.mg_of X G a1⟩
  have D2 : DefAt K mg "asked_row" sAskedRow := ⟨_, _, fun_mk l2 c2 k2, PySem.W.mg_of X G a2⟩
  have D3 : DefAt K mg "asked_ring" sAskedRing := ⟨_, _, fun_mk l3 c3 k3, PySem.W.mg_of X G a3⟩
  have D4 : DefAt K mg "reckoned" sReckoned := ⟨_, _, fun_mk l4 c4 k4, PySem.W.mg_of X G a4⟩
  have D5 : DefAt K mg "laid" sLaid := ⟨_, _, fun_mk l5 c5 k5, PySem.W.mg_of X G a5⟩
  have D6 : DefAt K mg "turned" sTurned := ⟨_, _, fun_mk l6 c6 k6, PySem.W.mg_of X G a6⟩
  have D7 : DefAt K mg "exchanged" sExchanged := ⟨_, _, fun_mk l7 c7 k7, PySem.W.mg_of X G a7⟩
  have D8 : DefAt K mg "about" sAbout := ⟨_, _, fun_mk l8 c8 k8, PySem.W.mg_of X G a8⟩
  have D9 : DefAt K mg "gaps_of" sGapsOf := ⟨_, _, fun_mk l9 c9 k9, PySem.W.mg_of X G a9⟩
  have D10 : DefAt K mg "gaps" sGaps := ⟨_, _, fun_mk l10 c10 k10, PySem.W.mg_of X G a10⟩
  have D11 : DefAt K mg "folded" sFolded := ⟨_, _, fun_mk l11 c11 k11, PySem.W.mg_of X G a11⟩
  have D12 : DefAt K mg "unfolded" sUnfolded := ⟨_, _, fun_mk l12 c12 k12, PySem.W.mg_of X G a12⟩
  have D13 : DefAt K mg "folds" sFolds := ⟨_, _, fun_mk l13 c13 k13, PySem.W.mg_of X G a13⟩
  have D14 : DefAt K mg "begun" sBegun := ⟨_, _, fun_mk l14 c14 k14, PySem.W.mg_of X G a14⟩
  have D15 : DefAt K mg "even" sEven := ⟨_, _, fun_mk l15 c15 k15, PySem.W.mg_of X G a15⟩
  have D16 : DefAt K mg "_law_ring_asked" sLawRingAsked := ⟨_, _, fun_mk l16 c16 k16, PySem.W.mg_of X G a16⟩
  have D17 : DefAt K mg "_law_count_asked" sLawCountAsked := ⟨_, _, fun_mk l17 c17 k17, PySem.W.mg_of X G a17⟩
  have D18 : DefAt K mg "_law_told" sLawTold := ⟨_, _, fun_mk l18 c18 k18, PySem.W.mg_of X G a18⟩
  have Y : Yz K mg cBeatError cBadRing cBadCount cNoBeat cUneven := ⟨PySem.W.mg_of X G g_BeatError, PySem.W.mg_of X G g_BadRing, PySem.W.mg_of X G g_BadCount, PySem.W.mg_of X G g_NoBeat, PySem.W.mg_of X G g_Uneven, ⟨ex_BadRing, ek_BadRing, es_BadRing, et_BadRing, ⟨ca_BadRing, cb_BadRing, es_BadRing, cd_BadRing, cc_BadRing, xn_o, xt_o, co_BadRing⟩⟩, PySem.W.exm_ref bs_BE bd_BE bt_BE eb_BadRing, i_BadRing_BadRing, i_BadRing_BadCount, i_BadRing_NoBeat, i_BadRing_Uneven, v_BadRing, ⟨ex_BadCount, ek_BadCount, es_BadCount, et_BadCount, ⟨ca_BadCount, cb_BadCount, es_BadCount, cd_BadCount, cc_BadCount, xn_o, xt_o, co_BadCount⟩⟩, PySem.W.exm_ref bs_BE bd_BE bt_BE eb_BadCount, i_BadCount_BadRing, i_BadCount_BadCount, i_BadCount_NoBeat, i_BadCount_Uneven, v_BadCount, ⟨ex_NoBeat, ek_NoBeat, es_NoBeat, et_NoBeat, ⟨ca_NoBeat, cb_NoBeat, es_NoBeat, cd_NoBeat, cc_NoBeat, xn_o, xt_o, co_NoBeat⟩⟩, PySem.W.exm_ref bs_BE bd_BE bt_BE eb_NoBeat, i_NoBeat_BadRing, i_NoBeat_BadCount, i_NoBeat_NoBeat, i_NoBeat_Uneven, v_NoBeat, ⟨ex_Uneven, ek_Uneven, es_Uneven, et_Uneven, ⟨ca_Uneven, cb_Uneven, es_Uneven, cd_Uneven, cc_Uneven, xn_o, xt_o, co_Uneven⟩⟩, PySem.W.exm_ref bs_BE bd_BE bt_BE eb_Uneven, i_Uneven_BadRing, i_Uneven_BadCount, i_Uneven_NoBeat, i_Uneven_Uneven, v_Uneven, PySem.W.mg_none_of X G z_VE⟩
  refine ⟨PySem.W.fnOf "law" "law" (defArgs sLaw) (defBody sLaw) (defScope sLaw) .none kV19 dc19 pm19 an19 cd19 ct19, fun s v => .of_eq rfl, fun base _ _ => ?_⟩
  have c_is_number : C8.Cal l.prog w K mg base 1 "is_number" (spIsNumber K) [] := ok_is_number D1 B
  have c_asked_row : CalX l.prog w K mg base 3 "asked_row" (spAskedRowB K cBadRing) [] := ok_asked_row D2 Y B T
  have c_asked_ring : CalX l.prog w K mg base 4 "asked_ring" (spAskedRingB K cBadRing) [] := ok_asked_ring D3 Y c_asked_row
  have c_reckoned : CalX l.prog w K mg base 3 "reckoned" (spReckonedB K cBadCount) [] := ok_reckoned D4 Y c_is_number
  have c_laid : CalX l.prog w K mg base 4 "laid" (spLaidB K cBadCount) [] := ok_laid D5 c_reckoned
  have c_turned : CalX l.prog w K mg base 5 "turned" (spTurnedB K cBadRing cBadCount) [] := ok_turned D6 Y c_asked_ring c_is_number
  have c_exchanged : CalX l.prog w K mg base 5 "exchanged" (spRef (fun v H => BadRingV K H v) cBadRing) [] := ok_exchanged D7 c_asked_ring
  have c_about : CalX l.prog w K mg base 5 "about" (spRef (fun v H => BadRingV K H v) cBadRing) [] := ok_about D8 c_asked_ring
  have c_gaps_of : C8.Cal l.prog w K mg base 1 "gaps_of" (spGapsOf K) [] := ok_gaps_of D9 B T
  have c_gaps : CalX l.prog w K mg base 5 "gaps" (spGapsB K cBadRing cNoBeat) [] := ok_gaps D10 Y T c_asked_ring c_gaps_of
  have c_folded : CalX l.prog w K mg base 6 "folded" (spFoldedB K cBadRing cNoBeat cUneven) [] := ok_folded D11 Y B T c_gaps
  have c_unfolded : CalX l.prog w K mg base 5 "unfolded" (spUnfoldedB K cBadRing cBadCount) [] := ok_unfolded D12 Y T c_asked_ring c_is_number
  have c_folds : CalX l.prog w K mg base 7 "folds" (spFoldsB K cBadRing cUneven) [] := ok_folds D13 T c_asked_ring c_folded
  have c_begun : CalX l.prog w K mg base 4 "begun" (spRef (fun v H => BadRow K H v) cBadRing) [] := ok_begun D14 c_asked_row
  have c_even : CalX l.prog w K mg base 5 "even" (spRef (fun v H => BadRingV K H v) cBadRing) [] := ok_even D15 c_asked_ring
  have c__law_ring_asked : CalX l.prog w K mg base 8 "_law_ring_asked" (spLawRingAskedB cBadRing) [] := ok__law_ring_asked D16 c_begun c_even c_exchanged c_about c_gaps c_folded c_folds c_turned c_unfolded
  have c__law_count_asked : CalX l.prog w K mg base 6 "_law_count_asked" (spLawCountAskedB cBadCount) [] := ok__law_count_asked D17 c_turned c_unfolded c_laid c_reckoned
  have c__law_told : C8.Cal l.prog w K mg base 9 "_law_told" (spTold K) [] := ok__law_told D18 Y B c__law_ring_asked c__law_count_asked c_gaps c_folded c_folds
  exact ok_law (fun_mk l19 c19 k19) c__law_told c_gaps c_unfolded c_folds
end Eb
open PySem PySem.W PyProof.Rows
set_option maxHeartbeats 0 in
theorem PySem.Challenge.cw_evenbeats_k08_refused_holds : PySem.Challenge.rw_evenbeats_k08_refused.Holds := by
  w_on; o_law; k_head; (case hw => w_witness2)
  k_fill
  refine L2.walk_ofB (l := PySem.Challenge.rw_evenbeats_k08_refused) (n := 63) (k := 10) (x := "_law_script") (CX := fun _ => L2.CX0) (sp := fun w => Eb.spLaw _) rfl (by decide) rfl ⟨rfl, by decide, by decide⟩ (fun w h Y => PySem.W.kIn_of Y) ?F (fun _ _ a ns hl hb _ hS => ⟨a, ns, rfl, hS, hl, hb, fun _ => rfl⟩) (fun _ _ _ _ _ h => h)
  case F =>
    intro w mg fa h KX G hmg
    refine' Eb.all_mk KX G hmg ?a1 ?l1 ?c1 ?k1 ?a2 ?l2 ?c2 ?k2 ?a3 ?l3 ?c3 ?k3 ?a4 ?l4 ?c4 ?k4 ?a5 ?l5 ?c5 ?k5 ?a6 ?l6 ?c6 ?k6 ?a7 ?l7 ?c7 ?k7 ?a8 ?l8 ?c8 ?k8 ?a9 ?l9 ?c9 ?k9 ?a10 ?l10 ?c10 ?k10 ?a11 ?l11 ?c11 ?k11 ?a12 ?l12 ?c12 ?k12 ?a13 ?l13 ?c13 ?k13 ?a14 ?l14 ?c14 ?k14 ?a15 ?l15 ?c15 ?k15 ?a16 ?l16 ?c16 ?k16 ?a17 ?l17 ?c17 ?k17 ?a18 ?l18 ?c18 ?k18 ?a19 ?l19 ?c19 ?k19 ?g_BeatError ?g_BadRing ?g_BadCount ?g_NoBeat ?g_Uneven ?z_VE ?xn_o ?xt_o ?bs_BE ?bd_BE ?bt_BE ?ex_BadRing ?ek_BadRing ?es_BadRing ?et_BadRing ?eb_BadRing ?ca_BadRing ?cb_BadRing ?cd_BadRing ?cc_BadRing ?co_BadRing ?i_BadRing_BadRing ?i_BadRing_BadCount ?i_BadRing_NoBeat ?i_BadRing_Uneven ?v_BadRing ?ex_BadCount ?ek_BadCount ?es_BadCount ?et_BadCount ?eb_BadCount ?ca_BadCount ?cb_BadCount ?cd_BadCount ?cc_BadCount ?co_BadCount ?i_BadCount_BadRing ?i_BadCount_BadCount ?i_BadCount_NoBeat ?i_BadCount_Uneven ?v_BadCount ?ex_NoBeat ?ek_NoBeat ?es_NoBeat ?et_NoBeat ?eb_NoBeat ?ca_NoBeat ?cb_NoBeat ?cd_NoBeat ?cc_NoBeat ?co_NoBeat ?i_NoBeat_BadRing ?i_NoBeat_BadCount ?i_NoBeat_NoBeat ?i_NoBeat_Uneven ?v_NoBeat ?ex_Uneven ?ek_Uneven ?es_Uneven ?et_Uneven ?eb_Uneven ?ca_Uneven ?cb_Uneven ?cd_Uneven ?cc_Uneven ?co_Uneven ?i_Uneven_BadRing ?i_Uneven_BadCount ?i_Uneven_NoBeat ?i_Uneven_Uneven ?v_Uneven ?z_len ?z_range ?z_max ?z_min ?z_isinstance ?z_sum ?z_any ?z_all ?z_int ?z_str ?z_bool ?z_list ?z_enumerate ?gB ?gR
    (case a1 => k_is); (case l1 => k_is); (case c1 => k_is); (case k1 => k_is); (case a2 => k_is); (case l2 => k_is); (case c2 => k_is); (case k2 => k_is)
    (case a3 => k_is); (case l3 => k_is); (case c3 => k_is); (case k3 => k_is); (case a4 => k_is); (case l4 => k_is); (case c4 => k_is); (case k4 => k_is)
    (case a5 => k_is); (case l5 => k_is); (case c5 => k_is); (case k5 => k_is); (case a6 => k_is); (case l6 => k_is); (case c6 => k_is); (case k6 => k_is)
    (case a7 => k_is); (case l7 => k_is); (case c7 => k_is); (case k7 => k_is); (case a8 => k_is); (case l8 => k_is); (case c8 => k_is); (case k8 => k_is)
    (case a9 => k_is); (case l9 => k_is); (case c9 => k_is); (case k9 => k_is); (case a10 => k_is); (case l10 => k_is); (case c10 => k_is); (case k10 => k_is)
    (case a11 => k_is); (case l11 => k_is); (case c11 => k_is); (case k11 => k_is); (case a12 => k_is); (case l12 => k_is); (case c12 => k_is); (case k12 => k_is)
    (case a13 => k_is); (case l13 => k_is); (case c13 => k_is); (case k13 => k_is); (case a14 => k_is); (case l14 => k_is); (case c14 => k_is); (case k14 => k_is)
    (case a15 => k_is); (case l15 => k_is); (case c15 => k_is); (case k15 => k_is); (case a16 => k_is); (case l16 => k_is); (case c16 => k_is); (case k16 => k_is)
    (case a17 => k_is); (case l17 => k_is); (case c17 => k_is); (case k17 => k_is); (case a18 => k_is); (case l18 => k_is); (case c18 => k_is); (case k18 => k_is)
    (case a19 => k_is); (case l19 => k_is); (case c19 => k_is); (case k19 => k_is); (case g_BeatError => k_is); (case g_BadRing => k_is); (case g_BadCount => k_is); (case g_NoBeat => k_is)
    (case g_Uneven => k_is); (case z_VE => k_is); (case xn_o => k_is); (case xt_o => k_is); (case bs_BE => k_is); (case bd_BE => k_is); (case bt_BE => k_is); (case ex_BadRing => k_exc)
    (case ek_BadRing => k_is); (case es_BadRing => k_is); (case et_BadRing => k_is); (case eb_BadRing => k_is); (case ca_BadRing => k_is); (case cb_BadRing => k_is); (case cd_BadRing => k_is); (case cc_BadRing => k_is)
    (case co_BadRing => k_is); (case i_BadRing_BadRing => kit_is); (case i_BadRing_BadCount => kit_is); (case i_BadRing_NoBeat => kit_is); (case i_BadRing_Uneven => kit_is); (case v_BadRing => kit_is); (case ex_BadCount => k_exc); (case ek_BadCount => k_is)
    (case es_BadCount => k_is); (case et_BadCount => k_is); (case eb_BadCount => k_is); (case ca_BadCount => k_is); (case cb_BadCount => k_is); (case cd_BadCount => k_is); (case cc_BadCount => k_is); (case co_BadCount => k_is)
    (case i_BadCount_BadRing => kit_is); (case i_BadCount_BadCount => kit_is); (case i_BadCount_NoBeat => kit_is); (case i_BadCount_Uneven => kit_is); (case v_BadCount => kit_is); (case ex_NoBeat => k_exc); (case ek_NoBeat => k_is); (case es_NoBeat => k_is)
    (case et_NoBeat => k_is); (case eb_NoBeat => k_is); (case ca_NoBeat => k_is); (case cb_NoBeat => k_is); (case cd_NoBeat => k_is); (case cc_NoBeat => k_is); (case co_NoBeat => k_is); (case i_NoBeat_BadRing => kit_is)
    (case i_NoBeat_BadCount => kit_is); (case i_NoBeat_NoBeat => kit_is); (case i_NoBeat_Uneven => kit_is); (case v_NoBeat => kit_is); (case ex_Uneven => k_exc); (case ek_Uneven => k_is); (case es_Uneven => k_is); (case et_Uneven => k_is)
    (case eb_Uneven => k_is); (case ca_Uneven => k_is); (case cb_Uneven => k_is); (case cd_Uneven => k_is); (case cc_Uneven => k_is); (case co_Uneven => k_is); (case i_Uneven_BadRing => kit_is); (case i_Uneven_BadCount => kit_is)
    (case i_Uneven_NoBeat => kit_is); (case i_Uneven_Uneven => kit_is); (case v_Uneven => kit_is); (case z_len => k_is); (case z_range => k_is); (case z_max => k_is); (case z_min => k_is); (case z_isinstance => k_is)
    (case z_sum => k_is); (case z_any => k_is); (case z_all => k_is); (case z_int => k_is); (case z_str => k_is); (case z_bool => k_is); (case z_list => k_is); (case z_enumerate => k_is)
    (case gB => k_is); (case gR => k_is)
