import PyProof.Rows.All
import Wide.All
import OpenK.AllK
import Wide.FinOn
import HandS.ForMost
import HandS.Conv
import HandS.IsInst
import PySem.Challenge.RW_nomoretold_k35_whole_table_texts
set_option Elab.async false
set_option linter.all false
set_option maxRecDepth 100000
set_option maxHeartbeats 4000000
/-! The plain law: texts of tables, split again; numbers as words. No program in sight. -/
namespace NT
open PySem PySem.Spec PyProof.Rows L2 TL
/-! ### numbers as texts -/
def nm (n : Int) : Str := Str.ofString (toString n)
def sp : Str := Str.ofString " "
def nl : Str := Str.ofString "\n"
def em : Str := Str.ofString ""
def rowsW : Str := Str.ofString "rows"
def rowsB : Str := Str.ofString "rows "
def FIG : Str := Str.ofString "0123456789"
theorem tl_sp : tl sp = [32] := by decide +kernel
theorem tl_nl : tl nl = [10] := by decide +kernel
theorem tl_em : tl em = [] := by decide +kernel
theorem tl_rowsW : tl rowsW = [114, 111, 119, 115] := by decide +kernel
theorem tl_rowsB : tl rowsB = [114, 111, 119, 115] ++ [32] := by decide +kernel
theorem tl_FIG : tl FIG = [48, 49, 50, 51, 52, 53, 54, 55, 56, 57] := by decide +kernel
theorem tl_nm (n : Nat) : tl (nm (n : Int)) = numL n := tl_num n
/-- a small number -/
def Sm (n : Int) : Prop := 0 ≤ n ∧ n ≤ 99
theorem Sm.nat {n : Int} (h : Sm n) : ∃ k : Nat, n = (k : Int) ∧ k < 100 := ⟨n.toNat, by unfold Sm at h; omega, by unfold Sm at h; omega⟩
def okW (l : List Nat) : Bool := decide (1 ≤ l.length) && decide (l.length ≤ 2) && l.all (fun c => decide (c ∈ ([48, 49, 50, 51, 52, 53, 54, 55, 56, 57] : List Nat))) && (decide (l.length ≤ 1) || decide (l[0]? ≠ some 48))
theorem ok_all : (List.range 100).all (fun n => okW (numL n)) = true := by decide +kernel
theorem ok_one {n : Nat} (h : n < 100) : okW (numL n) = true := List.all_eq_true.mp ok_all n (List.mem_range.mpr h)
/-- what number_of asks of a word -/
structure Word (z : Str) (n : Int) : Prop where
  lo : 1 ≤ (tl z).length
  hi : (tl z).length ≤ 2
  fig : ∀ c ∈ tl z, c ∈ tl FIG
  zero : 1 < (tl z).length → (tl z)[0]? ≠ some 48
  val : intText? z = some n
theorem word_nm {n : Int} (h : Sm n) : Word (nm n) n := by
  obtain ⟨k, rfl, hk⟩ := h.nat
  have q := ok_one hk
  unfold okW at q
  simp only [Bool.and_eq_true, Bool.or_eq_true, decide_eq_true_eq, List.all_eq_true] at q
  obtain ⟨⟨⟨h1, h2⟩, h3⟩, h4⟩ := q
  refine ⟨by rw [tl_nm]; exact h1, by rw [tl_nm]; exact h2, ?_, ?_, ?_⟩
  · rw [tl_nm, tl_FIG]; exact h3
  · rw [tl_nm]
    intro h5
    rcases h4 with h4 | h4
    · omega
    · exact h4
  · exact int_num (by omega)
theorem nm_free {n : Int} (h : Sm n) {s : Nat} (hs : s < 48 ∨ 57 < s) : s ∉ tl (nm n) := by
  obtain ⟨k, rfl, hk⟩ := h.nat
  rw [tl_nm]
  exact numL_free hs
/-! ### joined texts -/
def rowT (r : List Int) : Str := Txt.join sp (r.map nm)
def linesT (T : List (List Int)) : List Str := (rowsB ++ nm (T.length : Int)) :: T.map rowT
def textT (T : List (List Int)) : Str := Txt.join em ((linesT T).map (· ++ nl))
theorem join_len (S : List Nat) : ∀ ps : List (List Nat), (joinL S ps).length ≤ (ps.map List.length).sum + ps.length * S.length
  | [] => by simp [joinL]
  | [p] => by simp [joinL]
  | p :: q :: r => by
    have ih := join_len S (q :: r)
    show (p ++ (S ++ joinL S (q :: r))).length ≤ _
    rw [List.length_append, List.length_append, List.map_cons, List.sum_cons, List.length_cons, Nat.add_mul]
    omega
theorem sum_le {k : Nat} : ∀ {l : List Nat}, (∀ x ∈ l, x ≤ k) → l.sum ≤ l.length * k
  | [], _ => by simp
  | x :: r, h => by
    have h1 := h x List.mem_cons_self
    have h2 := sum_le (l := r) fun y hy => h y (List.mem_cons_of_mem _ hy)
    rw [List.sum_cons, List.length_cons, Nat.add_mul]
    omega
theorem tl_joinT (y : Str) (ps : List Str) : tl (Txt.join y ps) = joinL (tl y) (ps.map tl) := by rw [join_eq, tl_join]
theorem join_length {y : Str} {ps : List Str} {k : Nat} (h : ∀ p ∈ ps, p.length ≤ k) : (Txt.join y ps).length ≤ ps.length * k + ps.length * y.length := by
  rw [len_tl, tl_joinT]
  have h1 := join_len (tl y) (ps.map tl)
  have h2 : ((ps.map tl).map List.length).sum ≤ ((ps.map tl).map List.length).length * k := sum_le fun x hx => by
    obtain ⟨l, hl, rfl⟩ := List.mem_map.mp hx
    obtain ⟨p, hp, rfl⟩ := List.mem_map.mp hl
    have := h p hp
    rw [len_tl] at this
    exact this
  rw [List.length_map, List.length_map] at h2
  rw [List.length_map] at h1
  rw [len_tl]
  omega
theorem lens_sum {ps : List Str} {k : Nat} (h : ∀ p ∈ ps, p.length ≤ k) : (ps.map (·.length)).sum ≤ ps.length * k := by
  have h2 : (ps.map (·.length)).sum ≤ (ps.map (·.length)).length * k := sum_le fun x hx => by
    obtain ⟨l, hl, rfl⟩ := List.mem_map.mp hx
    exact h l hl
  rw [List.length_map] at h2
  exact h2
theorem nm_len {n : Int} (h : Sm n) : (nm n).length ≤ 2 := by
  rw [len_tl]
  exact (word_nm h).hi
theorem append_len (x y : Str) : (x ++ y).length = x.length + y.length := by
  rw [len_tl, len_tl, len_tl, tl_append, List.length_append]
/-- a table: c columns, at most six rows and columns, answers to 99 -/
structure Tab (T : List (List Int)) (c : Nat) : Prop where
  r1 : 1 ≤ T.length
  r6 : T.length ≤ 6
  c1 : 1 ≤ c
  c6 : c ≤ 6
  row : ∀ r ∈ T, r.length = c
  sm : ∀ r ∈ T, ∀ n ∈ r, Sm n
theorem row_len {r : List Int} (h : r.length ≤ 6) (hs : ∀ n ∈ r, Sm n) : (rowT r).length ≤ 18 := by
  have h1 : (rowT r).length ≤ (r.map nm).length * 2 + (r.map nm).length * sp.length := join_length fun p hp => by
    obtain ⟨n, hn, rfl⟩ := List.mem_map.mp hp
    exact nm_len (hs n hn)
  have h2 : sp.length = 1 := by rw [len_tl, tl_sp]; rfl
  rw [List.length_map, h2] at h1
  omega
theorem Tab.rows {T : List (List Int)} {c : Nat} (h : Tab T c) : Sm (T.length : Int) := by
  have := h.r6
  unfold Sm
  omega
theorem Tab.lines {T : List (List Int)} {c : Nat} (h : Tab T c) : ∀ z ∈ linesT T, z.length ≤ 18 := by
  intro z hz
  rcases List.mem_cons.mp hz with rfl | hz
  · have h1 := nm_len h.rows
    have h2 : rowsB.length = 5 := by rw [len_tl, tl_rowsB]; rfl
    rw [append_len, h2]
    omega
  · obtain ⟨r, hr, rfl⟩ := List.mem_map.mp hz
    exact row_len (by rw [h.row r hr]; exact h.c6) (h.sm r hr)
theorem lines_len (T : List (List Int)) : (linesT T).length = T.length + 1 := by
  show (T.map rowT).length + 1 = _
  rw [List.length_map]
theorem Tab.linesN {T : List (List Int)} {c : Nat} (h : Tab T c) : ∀ z ∈ (linesT T).map (· ++ nl), z.length ≤ 19 := by
  intro z hz
  obtain ⟨y, hy, rfl⟩ := List.mem_map.mp hz
  have h1 := h.lines y hy
  have h2 : nl.length = 1 := by rw [len_tl, tl_nl]; rfl
  rw [append_len, h2]
  omega
theorem Tab.len {T : List (List Int)} {c : Nat} (h : Tab T c) : (textT T).length ≤ 133 := by
  have h1 : (textT T).length ≤ _ := join_length (y := em) h.linesN
  have h2 : em.length = 0 := by rw [len_tl, tl_em]; rfl
  rw [List.length_map, lines_len, h2] at h1
  have := h.r6
  omega
/-! ### split again -/
theorem all_sp : sp.cps.all (· < 256) = true := by decide +kernel
theorem all_nl : nl.cps.all (· < 256) = true := by decide +kernel
theorem split_row {r : List Int} (hne : r ≠ []) (hs : ∀ n ∈ r, Sm n) : Txt.split (rowT r) sp = r.map nm :=
  split_join tl_sp all_sp (fun e => hne (List.map_eq_nil_iff.mp e)) fun p hp => by
    obtain ⟨n, hn, rfl⟩ := List.mem_map.mp hp
    exact nm_free (hs n hn) (by omega)
theorem first_join (n : Int) : rowsB ++ nm n = Txt.join sp [rowsW, nm n] := by
  refine ext_tl ?_
  rw [tl_joinT, tl_append, tl_rowsB]
  show _ = tl rowsW ++ (tl sp ++ tl (nm n))
  rw [tl_rowsW, tl_sp, List.append_assoc]
theorem split_first {n : Int} (h : Sm n) : Txt.split (rowsB ++ nm n) sp = [rowsW, nm n] := by
  rw [first_join]
  refine split_join tl_sp all_sp (by simp) fun p hp => ?_
  rcases List.mem_cons.mp hp with rfl | hp
  · rw [tl_rowsW]; decide
  · rw [List.mem_singleton.mp hp]
    exact nm_free h (by omega)
theorem join_nil_end (s : Nat) : ∀ ls : List (List Nat), joinL [] (ls.map (· ++ [s])) = joinL [s] (ls ++ [[]])
  | [] => rfl
  | [p] => by
    show p ++ [s] = p ++ ([s] ++ [])
    rw [List.append_nil]
  | p :: q :: r => by
    have ih := join_nil_end s (q :: r)
    show (p ++ [s]) ++ ([] ++ joinL [] ((q :: r).map (· ++ [s]))) = p ++ ([s] ++ joinL [s] ((q :: r) ++ [[]]))
    rw [ih, List.nil_append, List.append_assoc]
theorem text_join (T : List (List Int)) : textT T = Txt.join nl (linesT T ++ [em]) := by
  refine ext_tl ?_
  unfold textT
  rw [tl_joinT, tl_joinT, tl_em, tl_nl, List.map_append, List.map_map]
  have e : (linesT T).map (tl ∘ (· ++ nl)) = ((linesT T).map tl).map (· ++ [10]) := by
    rw [List.map_map]
    refine List.map_congr_left fun z _ => ?_
    show tl (z ++ nl) = tl z ++ [10]
    rw [tl_append, tl_nl]
  rw [e, join_nil_end, List.map_singleton, tl_em]
theorem joinL_free {s : Nat} {S : List Nat} (hS : s ∉ S) : ∀ {ps : List (List Nat)}, (∀ p ∈ ps, s ∉ p) → s ∉ joinL S ps
  | [], _ => by simp [joinL]
  | [p], h => h p List.mem_cons_self
  | p :: q :: r, h => by
    have ih := joinL_free hS (ps := q :: r) fun z hz => h z (List.mem_cons_of_mem _ hz)
    have hp := h p List.mem_cons_self
    show s ∉ p ++ (S ++ joinL S (q :: r))
    simp only [List.mem_append, not_or]
    exact ⟨hp, hS, ih⟩
theorem Tab.free {T : List (List Int)} {c : Nat} (h : Tab T c) : ∀ z ∈ linesT T, 10 ∉ tl z := by
  intro z hz
  rcases List.mem_cons.mp hz with rfl | hz
  · rw [tl_append, tl_rowsB]
    have := nm_free h.rows (s := 10) (by omega)
    simp only [List.mem_append, not_or]
    exact ⟨by decide, this⟩
  · obtain ⟨r, hr, rfl⟩ := List.mem_map.mp hz
    unfold rowT
    rw [tl_joinT, tl_sp]
    refine joinL_free (by decide) fun p hp => ?_
    rw [List.map_map] at hp
    obtain ⟨n, hn, rfl⟩ := List.mem_map.mp hp
    exact nm_free (h.sm r hr n hn) (by omega)
theorem split_text {T : List (List Int)} {c : Nat} (h : Tab T c) : Txt.split (textT T) nl = linesT T ++ [em] := by
  rw [text_join]
  refine split_join tl_nl all_nl (by simp) fun p hp => ?_
  rcases List.mem_append.mp hp with hp | hp
  · exact h.free p hp
  · rw [List.mem_singleton.mp hp, tl_em]
    simp
end NT
/-! Heaps, and the readings of list comprehensions by what is made so far. -/
namespace NT
open PySem PySem.Spec PyProof.Rows L2
/-! ### heaps -/
theorem same_upd {H : Hp} {q : Addr} {o : HO} (free : H q = none) : Same H (upd H q o) := by
  intro b x e
  exact (upd_ne (ne_of_none e free)).trans e
/-- all but what stands at p is as it was -/
def But (p : Addr) (H H' : Hp) : Prop := ∀ b o, b ≠ p → H b = some o → H' b = some o
theorem But.refl (p : Addr) (H : Hp) : But p H H := fun _ _ _ e => e
theorem But.trans {p : Addr} {H H1 H2 : Hp} (h : But p H H1) (h2 : But p H1 H2) : But p H H2 := fun b o n e => h2 b o n (h b o n e)
theorem But.of {p : Addr} {H H' : Hp} (h : Same H H') : But p H H' := fun b o _ e => h b o e
theorem But.upd {p : Addr} {H : Hp} {o : HO} : But p H (upd H p o) := fun b x n e => by
  rw [upd_ne n]
  exact e
theorem But.same {p : Addr} {H0 H H' : Hp} (s : Same H0 H) (n : H0 p = none) (b : But p H H') : Same H0 H' := fun c o e => b c o (ne_of_none e n) (s c o e)
/-- a new list at D is filled: what stood ahead of it stands -/
theorem same_fill {H1 H : Hp} {D : Addr} {o : HO} (n : H1 D = none) (s : Same H1 H) : Same H1 (L2.upd H D o) := fun b x e => by
  rw [upd_ne (ne_of_none e n)]
  exact s b x e
theorem at_keep {H H' : Hp} {p : Addr} {o u : HO} {q : Addr} (b : But p H H') (hp : H p = some u) (hq : H q = some o) (d : o ≠ u) : H' q = some o := b q o (ne_of hq hp d) hq
theorem ifT {c : Bool} {A B : Prop} (hc : c = true) (h : A) : if c = true then A else B := by
  rw [if_pos hc]
  exact h
theorem ifF {c : Bool} {A B : Prop} (hc : c = false) (h : B) : if c = true then A else B := by
  rw [if_neg (by rw [hc]; decide)]
  exact h
/-! ### comprehensions -/
section
variable {K : PySem.W.Frag} {a : Addr} {xs : List V} {te : TE} {vs : List Nat} {σ : L2.St} {H1 : Hp} {D : Addr} {Qd : Hp → Prop} {j : Nat}
theorem turn_yes {vs : List Nat} {σ σ2 : L2.St} {te : TE} {D : Addr} {H : Hp} {Nx : Hp → Prop} (hw : wipe σ2 vs = wipe σ vs) (h : te σ2 H fun y H4 => ∃ acc, H4 D = some (.lst acc) ∧ acc.length < sizeLine ∧ Nx (upd H4 D (.lst (acc ++ [y])))) :
    wipe σ2 vs = wipe σ vs ∧ tYes σ2 H fun b H3 => if b = true then te σ2 H3 fun y H4 => ∃ acc, H4 D = some (.lst acc) ∧ acc.length < sizeLine ∧ Nx (upd H4 D (.lst (acc ++ [y]))) else Nx H3 := by
  refine ⟨hw, ?_⟩
  unfold tYes
  dsimp only
  rw [if_pos rfl]
  exact h
/-- what a comprehension's reading asks behind its source: J walked, the list grown at D, Qd at the end -/
abbrev Turns (J : It) (g : TG) (tt : TT) (te : TE) (vs : List Nat) (σ : L2.St) (H1 : Hp) (D : Addr) (Qd : Hp → Prop) : Prop := ∃ W : Nat → Nat → Hp → Prop, (∃ m, W 0 m (upd H1 D (.lst []))) ∧ ∀ i m H, W i m H → (J.stop i H ∧ Qd H) ∨ (J.go i H ∧ ∃ Nx : Hp → Prop, (∀ H', Nx H' → ∃ m', m' < m ∧ W (i + 1) m' H') ∧ ∀ x H', J.yld i H x H' → g x (wipe σ vs) H' fun σ2 H2 => wipe σ2 vs = wipe σ vs ∧ tt σ2 H2 fun b H3 => if b = true then te σ2 H3 fun y H4 => ∃ acc, H4 D = some (.lst acc) ∧ acc.length < sizeLine ∧ Nx (upd H4 D (.lst (acc ++ [y]))) else Nx H3)
theorem at_lt {i : Nat} {x : V} (h : xs[i]? = some x) : i < xs.length := (List.getElem?_eq_some_iff.mp h).1
theorem lc_listA (P : List V → Hp → Prop) (hw : ∀ x, wipe ((wipe σ vs).set j (some x)) vs = wipe σ vs) (hz : xs.length ≤ sizeLine) (h0 : P [] (upd H1 D (.lst [])))
    (hl : ∀ acc H, H D = some (.lst acc) → P acc H → SqL K H a xs)
    (hs : ∀ acc x H (Q' : VK), xs[acc.length]? = some x → H D = some (.lst acc) → P acc H → (∀ y H', H' D = some (.lst acc) → P (acc ++ [y]) (upd H' D (.lst (acc ++ [y]))) → Q' y H') → te ((wipe σ vs).set j (some x)) H Q')
    (hd : ∀ acc H, acc.length = xs.length → H D = some (.lst acc) → P acc H → Qd H) :
    Turns (Itl K a) (gName j) tYes te vs σ H1 D Qd :=
  lc_list (K := K) (a := a) (xs := xs) (fun i H => ∃ acc, acc.length = i ∧ H D = some (.lst acc) ∧ P acc H) ⟨[], rfl, upd_same, h0⟩ (fun i H _ ⟨acc, _, e, p⟩ => hl acc H e p)
    (fun i x H hx ⟨acc, e, d, p⟩ => turn_yes (hw x) (by
      subst e
      refine hs acc x H _ hx d p fun y H' d' p' => ⟨acc, d', ?_, acc ++ [y], by simp, upd_same, p'⟩
      have := at_lt hx
      omega))
    (fun H ⟨acc, e, d, p⟩ => hd acc H e d p)
theorem lc_tupA (P : List V → Hp → Prop) (hw : ∀ x, wipe ((wipe σ vs).set j (some x)) vs = wipe σ vs) (hz : xs.length ≤ sizeLine) (h0 : P [] (upd H1 D (.lst [])))
    (hl : ∀ acc H, H D = some (.lst acc) → P acc H → SqT K H a xs)
    (hs : ∀ acc x H (Q' : VK), xs[acc.length]? = some x → H D = some (.lst acc) → P acc H → (∀ y H', H' D = some (.lst acc) → P (acc ++ [y]) (upd H' D (.lst (acc ++ [y]))) → Q' y H') → te ((wipe σ vs).set j (some x)) H Q')
    (hd : ∀ acc H, acc.length = xs.length → H D = some (.lst acc) → P acc H → Qd H) :
    Turns (Itt K a) (gName j) tYes te vs σ H1 D Qd :=
  lc_tup (K := K) (a := a) (xs := xs) (fun i H => ∃ acc, acc.length = i ∧ H D = some (.lst acc) ∧ P acc H) ⟨[], rfl, upd_same, h0⟩ (fun i H _ ⟨acc, _, e, p⟩ => hl acc H e p)
    (fun i x H hx ⟨acc, e, d, p⟩ => turn_yes (hw x) (by
      subst e
      refine hs acc x H _ hx d p fun y H' d' p' => ⟨acc, d', ?_, acc ++ [y], by simp, upd_same, p'⟩
      have := at_lt hx
      omega))
    (fun H ⟨acc, e, d, p⟩ => hd acc H e d p)
theorem lc_rangeA {n : Nat} (P : List V → Hp → Prop) (hw : ∀ x, wipe ((wipe σ vs).set j (some x)) vs = wipe σ vs) (hz : n ≤ sizeLine) (h0 : P [] (upd H1 D (.lst [])))
    (hs : ∀ acc H (Q' : VK), acc.length < n → H D = some (.lst acc) → P acc H → (∀ y H', H' D = some (.lst acc) → P (acc ++ [y]) (upd H' D (.lst (acc ++ [y]))) → Q' y H') → te ((wipe σ vs).set j (some (.int (0 + (acc.length : Nat))))) H Q')
    (hd : ∀ acc H, acc.length = n → H D = some (.lst acc) → P acc H → Qd H) :
    Turns (Itr 0 n) (gName j) tYes te vs σ H1 D Qd :=
  lc_range (lo := 0) (n := n) (fun i H => ∃ acc, acc.length = i ∧ H D = some (.lst acc) ∧ P acc H) ⟨[], rfl, upd_same, h0⟩
    (fun i H hi ⟨acc, e, d, p⟩ => turn_yes (hw _) (by
      subst e
      refine hs acc H _ hi d p fun y H' d' p' => ⟨acc, d', ?_, acc ++ [y], by simp, upd_same, p'⟩
      omega))
    (fun H ⟨acc, e, d, p⟩ => hd acc H e d p)
theorem lc_strA {z : Str} (P : List V → Hp → Prop) (hw : ∀ x, wipe ((wipe σ vs).set j (some x)) vs = wipe σ vs) (hz : z.cps.size ≤ sizeLine) (h0 : P [] (upd H1 D (.lst [])))
    (hs : ∀ acc c H (Q' : VK), z.cps[acc.length]? = some c → H D = some (.lst acc) → P acc H → (∀ y H', H' D = some (.lst acc) → P (acc ++ [y]) (upd H' D (.lst (acc ++ [y]))) → Q' y H') → te ((wipe σ vs).set j (some (.str ⟨#[c]⟩))) H Q')
    (hd : ∀ acc H, acc.length = z.cps.size → H D = some (.lst acc) → P acc H → Qd H) :
    Turns (Its z) (gName j) tYes te vs σ H1 D Qd := by
  refine ⟨fun i m H => m = z.cps.size - i ∧ i ≤ z.cps.size ∧ ∃ acc, acc.length = i ∧ H D = some (.lst acc) ∧ P acc H, ⟨z.cps.size, by simp, Nat.zero_le _, [], rfl, upd_same, h0⟩, ?_⟩
  rintro i m H ⟨rfl, hi, acc, e, d, p⟩
  by_cases hlt : i < z.cps.size
  · refine .inr ⟨hlt, fun H' => ∃ acc, acc.length = i + 1 ∧ H' D = some (.lst acc) ∧ P acc H', fun H' p' => ⟨z.cps.size - (i + 1), by omega, rfl, hlt, p'⟩, fun x H' y => ?_⟩
    obtain ⟨e1, c, hc, e2⟩ := y
    subst e1 e2 e
    refine turn_yes (hw _) ?_
    refine hs acc c _ _ hc d p fun y H'' d' p' => ?_
    exact ⟨acc, d', by omega, acc ++ [y], by simp, upd_same, p'⟩
  · have e' : i = z.cps.size := by omega
    exact .inl ⟨by show z.cps.size ≤ i; omega, hd acc H (e.trans e') d p⟩
/-! ### over sources that stand, the items known -/
/-- the list made so far: the first of ys -/
def Mk1 (H1 : Hp) (ys acc : List V) (H : Hp) : Prop := Same H1 H ∧ acc = ys.take acc.length
theorem mk1_step {H1 H H' : Hp} {D : Addr} {ys acc : List V} {y : V} (n : H1 D = none) (p : Mk1 H1 ys acc H) (s : Same H H') (hy : ys[acc.length]? = some y) : Mk1 H1 ys (acc ++ [y]) (upd H' D (.lst (acc ++ [y]))) := by
  refine ⟨same_fill n (p.1.trans s), ?_⟩
  have e := p.2
  rw [List.length_append, List.length_singleton, List.take_add_one, hy]
  show acc ++ [y] = ys.take acc.length ++ [y]
  rw [← e]
theorem lc_listK (ys : List V) (hw : ∀ x, wipe ((wipe σ vs).set j (some x)) vs = wipe σ vs) (hn : H1 D = none) (hz : xs.length ≤ sizeLine) (hy : ys.length = xs.length) (hsrc : SqL K H1 a xs)
    (hs : ∀ (i : Nat) x y H (Q' : VK), xs[i]? = some x → ys[i]? = some y → Same H1 H → (∀ H', Same H H' → Q' y H') → te ((wipe σ vs).set j (some x)) H Q')
    (hd : ∀ H, Same H1 H → H D = some (.lst ys) → Qd H) :
    Turns (Itl K a) (gName j) tYes te vs σ H1 D Qd := by
  refine lc_listA (Mk1 H1 ys) hw hz ⟨same_fill hn (.refl _), by simp⟩ (fun acc H _ p => p.1.seq hsrc) (fun acc x H Q' hx d p q => ?_) (fun acc H e d p => ?_)
  · have hl := at_lt hx
    have hy' : ys[acc.length]? = some ys[acc.length] := List.getElem?_eq_getElem (by omega)
    exact hs acc.length x _ H Q' hx hy' p.1 fun H' s => q _ H' (s _ _ d) (mk1_step hn p s hy')
  · have e2 := p.2
    rw [e, ← hy, List.take_length] at e2
    subst e2
    exact hd H p.1 d
theorem tup_seq {H H' : Hp} (e : Same H H') (h : SqT K H a xs) : SqT K H' a xs :=
  h.imp (fun z => z.imp (fun r => e a _ r) fun ⟨u, r⟩ => ⟨u, e a _ r⟩) fun z => z
theorem lc_tupK (ys : List V) (hw : ∀ x, wipe ((wipe σ vs).set j (some x)) vs = wipe σ vs) (hn : H1 D = none) (hz : xs.length ≤ sizeLine) (hy : ys.length = xs.length) (hsrc : SqT K H1 a xs)
    (hs : ∀ (i : Nat) x y H (Q' : VK), xs[i]? = some x → ys[i]? = some y → Same H1 H → (∀ H', Same H H' → Q' y H') → te ((wipe σ vs).set j (some x)) H Q')
    (hd : ∀ H, Same H1 H → H D = some (.lst ys) → Qd H) :
    Turns (Itt K a) (gName j) tYes te vs σ H1 D Qd := by
  refine lc_tupA (Mk1 H1 ys) hw hz ⟨same_fill hn (.refl _), by simp⟩ (fun acc H _ p => tup_seq p.1 hsrc) (fun acc x H Q' hx d p q => ?_) (fun acc H e d p => ?_)
  · have hl := at_lt hx
    have hy' : ys[acc.length]? = some ys[acc.length] := List.getElem?_eq_getElem (by omega)
    exact hs acc.length x _ H Q' hx hy' p.1 fun H' s => q _ H' (s _ _ d) (mk1_step hn p s hy')
  · have e2 := p.2
    rw [e, ← hy, List.take_length] at e2
    subst e2
    exact hd H p.1 d
theorem lc_strK {z : Str} (ys : List V) (hw : ∀ x, wipe ((wipe σ vs).set j (some x)) vs = wipe σ vs) (hn : H1 D = none) (hz : z.cps.size ≤ sizeLine) (hy : ys.length = z.cps.size)
    (hs : ∀ (i : Nat) c y H (Q' : VK), z.cps[i]? = some c → ys[i]? = some y → Same H1 H → (∀ H', Same H H' → Q' y H') → te ((wipe σ vs).set j (some (.str ⟨#[c]⟩))) H Q')
    (hd : ∀ H, Same H1 H → H D = some (.lst ys) → Qd H) :
    Turns (Its z) (gName j) tYes te vs σ H1 D Qd := by
  refine lc_strA (Mk1 H1 ys) hw hz ⟨same_fill hn (.refl _), by simp⟩ (fun acc c H Q' hx d p q => ?_) (fun acc H e d p => ?_)
  · have hl : acc.length < z.cps.size := (Array.getElem?_eq_some_iff.mp hx).1
    have hy' : ys[acc.length]? = some ys[acc.length] := List.getElem?_eq_getElem (by omega)
    exact hs acc.length c _ H Q' hx hy' p.1 fun H' s => q _ H' (s _ _ d) (mk1_step hn p s hy')
  · have e2 := p.2
    rw [e, ← hy, List.take_length] at e2
    subst e2
    exact hd H p.1 d
end
end NT
/-! The text by places, what stands at addresses, and the promises. -/
namespace NT
open PySem PySem.Spec PyProof.Rows L2 TL
/-! ### the text -/
def topS (i : Nat) : Stmt := PySem.Challenge.pw_nomoretold_k35_whole_table_texts.main.body.getD i (.Pass ⟨0, 0, 0, 0⟩)
abbrev sNum : Stmt := topS 10
abbrev sFrom : Stmt := topS 14
abbrev sIsT : Stmt := topS 15
abbrev sNeed : Stmt := topS 16
abbrev sWhole : Stmt := topS 18
abbrev sText : Stmt := topS 22
abbrev sWrite : Stmt := topS 23
abbrev sLines : Stmt := topS 24
abbrev sNums : Stmt := topS 25
abbrev sTabIn : Stmt := topS 26
abbrev sRead : Stmt := topS 27
abbrev sDesk : Stmt := topS 32
abbrev sInit : Stmt := inClass sDesk 0
abbrev sPart : Stmt := inClass sDesk 2
abbrev sSaid : Stmt := inClass sDesk 7
abbrev sDText : Stmt := inClass sDesk 9
abbrev sDeskOf : Stmt := topS 33
abbrev sTaken : Stmt := topS 35
abbrev sPick : Stmt := topS 36
abbrev sAlike : Stmt := topS 37
abbrev sLTab : Stmt := topS 38
abbrev sLWhole : Stmt := topS 39
abbrev sLaw : Stmt := topS 40
theorem scNum : FnScope ["word", "least", "most", "sign"] ["word", "least", "most"] (defScope sNum) := ⟨rfl, rfl, rfl, by decide +kernel, rfl, by decide +kernel, by decide +kernel⟩
theorem scFrom : FnScope ["value", "least", "most"] ["value", "least", "most"] (defScope sFrom) := ⟨rfl, rfl, rfl, by decide +kernel, rfl, by decide +kernel, by decide +kernel⟩
theorem scIsT : FnScope ["value", "row", "answer"] ["value"] (defScope sIsT) := ⟨rfl, rfl, rfl, by decide +kernel, rfl, by decide +kernel, by decide +kernel⟩
theorem scNeed : FnScope ["value"] ["value"] (defScope sNeed) := ⟨rfl, rfl, rfl, by decide +kernel, rfl, by decide +kernel, by decide +kernel⟩
theorem scWhole : FnScope ["table"] ["table"] (defScope sWhole) := ⟨rfl, rfl, rfl, by decide +kernel, rfl, by decide +kernel, by decide +kernel⟩
theorem scText : FnScope ["table", "rows", "row", "answer"] ["table"] (defScope sText) := ⟨rfl, rfl, rfl, by decide +kernel, rfl, by decide +kernel, by decide +kernel⟩
theorem scWrite : FnScope ["table"] ["table"] (defScope sWrite) := ⟨rfl, rfl, rfl, by decide +kernel, rfl, by decide +kernel, by decide +kernel⟩
theorem scLines : FnScope ["text", "rows"] ["text"] (defScope sLines) := ⟨rfl, rfl, rfl, by decide +kernel, rfl, by decide +kernel, by decide +kernel⟩
theorem scNums : FnScope ["line", "least", "most", "found", "word"] ["line", "least", "most"] (defScope sNums) := ⟨rfl, rfl, rfl, by decide +kernel, rfl, by decide +kernel, by decide +kernel⟩
theorem scTabIn : FnScope ["lines", "rest", "words", "many", "rows", "at", "row"] ["lines", "rest"] (defScope sTabIn) := ⟨rfl, rfl, rfl, by decide +kernel, rfl, by decide +kernel, by decide +kernel⟩
theorem scRead : FnScope ["text", "lines", "rest", "table", "many"] ["text"] (defScope sRead) := ⟨rfl, rfl, rfl, by decide +kernel, rfl, by decide +kernel, by decide +kernel⟩
theorem scInit : FnScope ["self", "table"] ["self", "table"] (defScope sInit) := ⟨rfl, rfl, rfl, by decide +kernel, rfl, by decide +kernel, by decide +kernel⟩
theorem scPart : FnScope ["self"] ["self"] (defScope sPart) := ⟨rfl, rfl, rfl, by decide +kernel, rfl, by decide +kernel, by decide +kernel⟩
theorem scSaid : FnScope ["self", "who", "lot", "left", "cost"] ["self"] (defScope sSaid) := ⟨rfl, rfl, rfl, by decide +kernel, rfl, by decide +kernel, by decide +kernel⟩
theorem scDText : FnScope ["self", "rows", "who", "lot", "thing"] ["self"] (defScope sDText) := ⟨rfl, rfl, rfl, by decide +kernel, rfl, by decide +kernel, by decide +kernel⟩
theorem scDeskOf : FnScope ["text", "lines", "rest", "table", "many", "desk", "at", "words", "lot", "word"] ["text"] (defScope sDeskOf) := ⟨rfl, rfl, rfl, by decide +kernel, rfl, by decide +kernel, by decide +kernel⟩
theorem scTaken : FnScope ["_law_row", "_law_many", "_law_found", "_law_cell"] ["_law_row", "_law_many"] (defScope sTaken) := ⟨rfl, rfl, rfl, by decide +kernel, rfl, by decide +kernel, by decide +kernel⟩
theorem scPick : FnScope ["_law_row", "_law_things"] ["_law_row", "_law_things"] (defScope sPick) := ⟨rfl, rfl, rfl, by decide +kernel, rfl, by decide +kernel, by decide +kernel⟩
theorem scAlike : FnScope ["_law_found", "_law_due", "_law_k", "_law_key"] ["_law_found", "_law_due"] (defScope sAlike) := ⟨rfl, rfl, rfl, by decide +kernel, rfl, by decide +kernel, by decide +kernel⟩
theorem scLTab : FnScope ["_law_row", "_law_high", "_law_wide", "_law_many", "_law_rows", "_law_columns", "_law_some", "_law_x", "_law_y"] ["_law_row", "_law_high", "_law_wide", "_law_many"] (defScope sLTab) := ⟨rfl, rfl, rfl, by decide +kernel, rfl, by decide +kernel, by decide +kernel⟩
theorem scLWhole : FnScope ["_law_table_here"] ["_law_table_here"] (defScope sLWhole) := ⟨rfl, rfl, rfl, by decide +kernel, rfl, by decide +kernel, by decide +kernel⟩
theorem scLaw : FnScope ["_law_script", "_law_row", "_law_table_here", "_law_lines", "_law_text", "_law_line", "_law_y", "_law_answer"] ["_law_script"] (defScope sLaw) := ⟨rfl, rfl, rfl, by decide +kernel, rfl, by decide +kernel, by decide +kernel⟩
/-! ### the module's names -/
structure Glb (mg : Str → Option Value) : Prop where
  len : mg "len" = none
  range : mg "range" = none
  tuple : mg "tuple" = none
  str : mg "str" = none
  any : mg "any" = none
  all : mg "all" = none
  isin : mg "isinstance" = none
  int : mg "int" = none
  list : mg "list" = none
  dict : mg "dict" = none
  bool : mg "bool" = none
  six : ∃ t, mg "MOST_THINGS" = some (.int 6 t)
  most : ∃ t, mg "MOST_ANSWER" = some (.int 99 t)
  fig : ∃ t, mg "FIGURES" = some (.str FIG t)
/-! ### rules with the written part named (within a comprehension's block) -/
theorem bt_isin : bootBuiltins "isinstance" = some (.builtin "isinstance") := by decide +kernel
theorem bt_all : bootBuiltins "all" = some (.builtin "all") := by decide +kernel
theorem bt_any : bootBuiltins "any" = some (.builtin "any") := by decide +kernel
theorem bt_len : bootBuiltins "len" = some (.builtin "len") := by decide +kernel
theorem bt_int : bootBuiltins "int" = some (.type "int") := by decide +kernel
theorem bt_str : bootBuiltins "str" = some (.type "str") := by decide +kernel
theorem bt_bool : bootBuiltins "bool" = some (.type "bool") := by decide +kernel
theorem bt_list : bootBuiltins "list" = some (.type "list") := by decide +kernel
theorem bt_dict : bootBuiltins "dict" = some (.type "dict") := by decide +kernel
theorem bt_tuple : bootBuiltins "tuple" = some (.type "tuple") := by decide +kernel
section
variable {X : Cx} (K : PySem.W.Frag)
theorem isiK (h : X.K = K := by rfl) : CallR X (.builtin "isinstance") (rIsi K) := h ▸ call_isi
theorem lenK (h : X.K = K := by rfl) : CallR X (.builtin "len") (fun xs H Q => ∃ p ys, xs = [.ref p] ∧ (SqL K H p ys ∨ SqT K H p ys) ∧ Q (.int ys.length) H) := h ▸ call_len_seq
theorem tupK (h : X.K = K := by rfl) : CallR X (.type "tuple") (fun xs H Q => ∃ p ys, xs = [.ref p] ∧ ((SqL K H p ys ∧ ∀ l, H l = none → Q (.ref l) (upd H l (.tup ys))) ∨ (SqT K H p ys ∧ Q (.ref p) H))) := h ▸ call_tuple_of
theorem ixTK (h : X.K = K := by rfl) : IxR X (rIxT K) := h ▸ ix_tup
theorem ixLK (h : X.K = K := by rfl) : IxR X (rIxL K) := h ▸ ix_list
theorem pi_tupK {tg l : Expr} {tl : TE} (hl : PE X l tl) (h : X.K = K := by rfl) : PI X tg l (iTup K tl) := h ▸ pi_tup hl
def gNev : TG := fun _ _ _ _ => False
def tNev : TE := fun _ _ _ => False
theorem pg_nev {e : Expr} : PG X e gNev := ⟨fun _ _ _ _ _ _ _ _ _ h => h.elim⟩
theorem pe_nev {e : Expr} : PE X e tNev := ⟨fun _ _ _ _ _ _ h => h.elim⟩
theorem pi_listK {tg l : Expr} {tl : TE} (hl : PE X l tl) (h : X.K = K := by rfl) : PI X tg l (iList K tl) := h ▸ pi_list hl
end
/-! ### the text, deeper -/
def lcScope : Expr → Scope
  | .ListComp _ _ sc _ => sc
  | _ => defScope (.Pass ⟨0, 0, 0, 0⟩)
def arg0 : Expr → Expr
  | .Call _ (a :: _) _ _ => a
  | e => e
def retE : Stmt → Expr
  | .Return (some e) _ => e
  | _ => .Name "" ⟨0, 0, 0, 0⟩
def asgE : Stmt → Expr
  | .Assign _ e _ => e
  | _ => .Name "" ⟨0, 0, 0, 0⟩
abbrev ltOuter : Scope := lcScope (arg0 (retE ((defBody sLTab).getD 2 (.Pass ⟨0, 0, 0, 0⟩))))
abbrev lwOuter : Scope := lcScope (arg0 (asgE ((defBody sLaw).getD 1 (.Pass ⟨0, 0, 0, 0⟩))))
/-! ### tables in the heap -/
def RowAt (H : Hp) (v : V) (r : List Int) : Prop := ∃ a, v = .ref a ∧ H a = some (.tup (r.map V.int))
/-- at a stands a tuple of tuples of ints -/
def TabAt (H : Hp) (a : Addr) (T : List (List Int)) : Prop := ∃ vs, H a = some (.tup vs) ∧ Paired (RowAt H) vs T
theorem pmap {α β : Type} {F G : α → β → Prop} : ∀ {l : List α} {m : List β}, Paired F l m → (∀ a b, F a b → G a b) → Paired G l m
  | _, _, .nil, _ => .nil
  | _, _, .cons r t, h => .cons (h _ _ r) (pmap t h)
theorem RowAt.same {H H' : Hp} (s : Same H H') {v : V} {r : List Int} (h : RowAt H v r) : RowAt H' v r := by
  obtain ⟨a, e, h⟩ := h
  exact ⟨a, e, s _ _ h⟩
theorem TabAt.same {H H' : Hp} (s : Same H H') {a : Addr} {T : List (List Int)} (h : TabAt H a T) : TabAt H' a T := by
  obtain ⟨vs, e, p⟩ := h
  exact ⟨vs, s _ _ e, pmap p fun _ _ q => q.same s⟩
theorem pat {α β : Type} {F : α → β → Prop} {xs : List α} {ys : List β} (h : Paired F xs ys) : ∀ {i : Nat} {x : α}, xs[i]? = some x → ∃ y, ys[i]? = some y ∧ F x y := by
  induction h with
  | nil => intro i x e; cases e
  | cons r t ih =>
    intro i x e
    cases i with
    | zero => exact ⟨_, rfl, by rw [← Option.some.inj e]; exact r⟩
    | succ i => exact ih (i := i) e
theorem psnoc {α β : Type} {F : α → β → Prop} {xs : List α} {ys : List β} {x : α} {y : β} (h : Paired F xs ys) (k : F x y) : Paired F (xs ++ [x]) (ys ++ [y]) := by
  induction h with
  | nil => exact .cons k .nil
  | cons r _ ih => exact .cons r ih
/-- the pair of all rows and all columns at p -/
def WholeAt (H : Hp) (p : Addr) (n c : Nat) : Prop := ∃ x y, H p = some (.tup [.ref x, .ref y]) ∧ H x = some (.tup (rgV 0 n)) ∧ H y = some (.tup (rgV 0 c))
theorem WholeAt.same {H H' : Hp} (s : Same H H') {p : Addr} {n c : Nat} (h : WholeAt H p n c) : WholeAt H' p n c := by
  obtain ⟨x, y, h1, h2, h3⟩ := h
  exact ⟨x, y, s _ _ h1, s _ _ h2, s _ _ h3⟩
/-- a desk at x, nothing said -/
def DeskAt (C : Addr) (H : Hp) (x : Addr) (T : List (List Int)) (c : Nat) : Prop := ∃ dx a p l, H x = some (.ins C dx [("table", .ref a), ("left", .ref p), ("told", .ref l)]) ∧ TabAt H a T ∧ WholeAt H p T.length c ∧ H l = some (.lst [])
/-! ### promises -/
def spNum : Sp := fun vs H Q _ => ∃ (z : Str) (n lo hi : Int), vs = [.str z, .int lo, .int hi] ∧ Word z n ∧ lo ≤ n ∧ n ≤ hi ∧ ∀ H', Same H H' → Q (.int n) H'
def spFrom : Sp := fun vs H Q _ => ∃ (n lo hi : Int), vs = [.int n, .int lo, .int hi] ∧ lo ≤ n ∧ n ≤ hi ∧ ∀ H', Same H H' → Q (.bl true) H'
def spIsT : Sp := fun vs H Q _ => ∃ (a : Addr) (T : List (List Int)) (c : Nat), vs = [.ref a] ∧ TabAt H a T ∧ Tab T c ∧ ∀ H', Same H H' → Q (.bl true) H'
def spNeed : Sp := fun vs H Q _ => ∃ (a : Addr) (T : List (List Int)) (c : Nat), vs = [.ref a] ∧ TabAt H a T ∧ Tab T c ∧ ∀ H', Same H H' → Q .non H'
def spWhole : Sp := fun vs H Q _ => ∃ (a : Addr) (T : List (List Int)) (c : Nat), vs = [.ref a] ∧ TabAt H a T ∧ Tab T c ∧ ∀ H' p, Same H H' → WholeAt H' p T.length c → Q (.ref p) H'
def spText : Sp := fun vs H Q _ => ∃ (a : Addr) (T : List (List Int)) (c : Nat), vs = [.ref a] ∧ TabAt H a T ∧ Tab T c ∧ ∀ H', Same H H' → Q (.str (textT T)) H'
/-- the lines at l, what stands behind them -/
def spLines : Sp := fun vs H Q _ => ∃ (T : List (List Int)) (c : Nat), vs = [.str (textT T)] ∧ Tab T c ∧ ∀ H' p l, Same H H' → H' p = some (.tup [.ref l, .str em]) → H' l = some (.lst ((linesT T).map V.str)) → Q (.ref p) H'
def spNums : Sp := fun vs H Q _ => ∃ (r : List Int), vs = [.str (rowT r), .int 0, .int 99] ∧ r ≠ [] ∧ r.length ≤ 6 ∧ (∀ n ∈ r, Sm n) ∧ ∀ H' p, Same H H' → H' p = some (.tup (r.map V.int)) → Q (.ref p) H'
def spTabIn : Sp := fun vs H Q _ => ∃ (l : Addr) (T : List (List Int)) (c : Nat), vs = [.ref l, .str em] ∧ H l = some (.lst ((linesT T).map V.str)) ∧ Tab T c ∧
  ∀ H' p t, Same H H' → H' p = some (.tup [.ref t, .int ((T.length : Int) + 1)]) → TabAt H' t T → Q (.ref p) H'
def spRead : Sp := fun vs H Q _ => ∃ (T : List (List Int)) (c : Nat), vs = [.str (textT T)] ∧ Tab T c ∧ ∀ H' t, Same H H' → TabAt H' t T → Q (.ref t) H'
def spInit (C : Addr) : Sp := fun vs H Q _ => ∃ (x dx a : Addr) (T : List (List Int)) (c : Nat), vs = [.ref x, .ref a] ∧ H x = some (.ins C dx []) ∧ TabAt H a T ∧ Tab T c ∧ ∀ H', But x H H' → DeskAt C H' x T c → Q .non H'
def spPart (C : Addr) : Sp := fun vs H Q _ => ∃ (x : Addr) (T : List (List Int)) (c : Nat), vs = [.ref x] ∧ DeskAt C H x T c ∧ ∀ p, WholeAt H p T.length c → Q (.ref p) H
def spSaid (C : Addr) : Sp := fun vs H Q _ => ∃ (x : Addr) (T : List (List Int)) (c : Nat), vs = [.ref x] ∧ DeskAt C H x T c ∧ ∀ H' p, Same H H' → H' p = some (.tup []) → Q (.ref p) H'
def spDText (C : Addr) : Sp := fun vs H Q _ => ∃ (x : Addr) (T : List (List Int)) (c : Nat), vs = [.ref x] ∧ DeskAt C H x T c ∧ Tab T c ∧ ∀ H', Same H H' → Q (.str (textT T)) H'
def spDeskOf (C : Addr) : Sp := fun vs H Q _ => ∃ (T : List (List Int)) (c : Nat), vs = [.str (textT T)] ∧ Tab T c ∧ ∀ H' x, Same H H' → DeskAt C H' x T c → Q (.ref x) H'
/-! ### the law's own -/
/-- the law's row of draws at p, the script at l -/
def RowP (H : Hp) (p l : Addr) : Prop := ∃ i s d : Int, H p = some (.lst [.ref l, .int i, .int s, .int d]) ∧ 0 ≤ i ∧ 0 ≤ s ∧ s < 2147483647
structure DrawAt (K : PySem.W.Frag) (H : Hp) (p l : Addr) : Prop where
  row : RowP H p l
  scr : ∃ ns : List Int, ∀ H', But p H H' → SqL K H' l (ns.map V.int)
def spTaken (K : PySem.W.Frag) : Sp := fun vs H Q _ => ∃ (p l : Addr) (m : Int), vs = [.ref p, .int m] ∧ 0 < m ∧ m ≤ 1000 ∧ DrawAt K H p l ∧ ∀ H' v, But p H H' → RowP H' p l → 0 ≤ v → v < m → Q (.int v) H'
def spPick (K : PySem.W.Frag) : Sp := fun vs H Q _ => ∃ (p l q : Addr) (xs : List V), vs = [.ref p, .ref q] ∧ DrawAt K H p l ∧ H q = some (.lst xs) ∧ q ≠ p ∧ 0 < xs.length ∧ xs.length ≤ 1000 ∧ ∀ H' (v : V), But p H H' → RowP H' p l → v ∈ xs → Q v H'
def spLTab (K : PySem.W.Frag) : Sp := fun vs H Q _ => ∃ (p l : Addr), vs = [.ref p, .int 6, .int 6, .int 3] ∧ DrawAt K H p l ∧
  ∀ H' t (T : List (List Int)) (c : Nat), But p H H' → RowP H' p l → TabAt H' t T → Tab T c → Q (.ref t) H'
def spLWhole : Sp := spWhole
/-- two like data: R tells when -/
def spAlike (R : Hp → V → V → Prop) : Sp := fun vs H Q _ => ∃ x y, vs = [x, y] ∧ R H x y ∧ ∀ H', Same H H' → Q (.bl true) H'
def spLaw (K : PySem.W.Frag) : Sp := fun vs H Q _ => ∃ (a : Addr) (ns : List Int), vs = [.ref a] ∧ SqL K H a (ns.map V.int) ∧ Only H ∧ ∀ H', Q (.bl true) H'
end NT
namespace NT
open PySem PySem.Spec PyProof.Rows L2 TL
section
variable {K : PySem.W.Frag} {mg : Str → Option Value} {P : Program} {w : World} {base : Heap}
/-! ### number_of -/
theorem fig_at {z : Str} {n : Int} (W : Word z n) {i c : Nat} (h : z.cps[i]? = some c) : c ∈ FIG.cps.toList := by
  refine W.fig c ?_
  have h2 : z.cps.toList[i]? = some c := by rw [Array.getElem?_toList]; exact h
  exact List.mem_of_getElem? h2
theorem any_false : ∀ n : Nat, (List.replicate n false).any id = false
  | 0 => rfl
  | n + 1 => by rw [List.replicate_succ, List.any_cons, any_false n]; rfl
theorem all_true : ∀ n : Nat, (List.replicate n true).all id = true
  | 0 => rfl
  | n + 1 => by rw [List.replicate_succ, List.all_cons, all_true n]; rfl
theorem ok_num {f : Addr} {fd : FuncData} {k : Nat} (F : Fun K "number_of" "number_of" sNum f fd) (G : Glb mg) : FnOk P w K mg base CX0 (k + 1) f fd ["word", "least", "most"] spNum := by
  obtain ⟨tf, gF⟩ := G.fig
  refine F.ok scNum (fun vs H Q E h => ?_) (fun cdv A outer s H vs Q E hr h => ?_)
  · obtain ⟨z, n, lo, hi, rfl, _⟩ := h
    rfl
  · obtain ⟨z, n, lo, hi, rfl, W, h1, h2, q⟩ := h
    refine ⟨_, pss_cons (ps_if (PW.pt (pw_or (pt_not (pt_chain op_le op_le pe_int (pe_callB call_len_str (by rfl) G.len PySem.boot_len (pa_cons (pv 0) pa_nil)) pe_int))
          (pw_or (pt_val (pe_callB (cr_any rfl) (by rfl) G.any (by decide +kernel) (pa_cons
              (pe_lc (own := [("sign", 3)]) (g := gName 3) (tt := tYes) rfl scNum.nd (pi_str (pv 0)) (blkOk_by (own := [("sign", 3)]) (N := ["word", "least", "most", "sign"]) (sc := defScope sNum) (by decide +kernel))
                (fun _ _ _ _ _ => pg_name (i := 3) scNum.nd rfl (Or.inl rfl)) (fun _ _ _ _ _ => pts_nil)
                (fun _ _ _ _ _ => pe_cmpR op_notIn_sign (pv 3) (pe_glob (v := .str FIG) (by rfl) gF ⟨_, rfl⟩) (by rfl))) pa_nil)))
          (pw_or1 (PW.pt (pw_and (pt_cmpR op_gt (pe_callB call_len_str (by rfl) G.len PySem.boot_len (pa_cons (pv 0) pa_nil)) pe_int (nomark _))
              (pw_and1 (pt_cmpR op_eq (pe_ix ix_str (pv 0) pe_int (fun _ _ => rfl)) pe_str (nomark _)))))))))
        (pss_one (ps_ret pe_non)) pss_nil)
      (pss_one (ps_ret (pe_ifExp (pt_chain op_le op_le (pv 1) (pe_callTy call_int_str (by rfl) G.int (by decide +kernel) (pa_cons (pv 0) pa_nil)) (pv 2))
        (pe_callTy call_int_str (by rfl) G.int (by decide +kernel) (pa_cons (pv 0) pa_nil)) pe_non))), ?_⟩
    have hl : z.length = (tl z).length := len_tl z
    have l1 := W.lo
    have l2 := W.hi
    have hz : z.length ≤ sizeLine := by rw [hl, sizeLine_eq]; omega
    have h640 : z.length ≤ 640 := by rw [hl]; omega
    have tail : ∀ H2, Same H H2 → Q (.int n) H2 := q
    refine ⟨.str z, rfl, z, rfl, hz, 1, (z.length : Int), rfl, rfl, _, rfl, ifT (decide_eq_true (by omega)) ?_⟩
    refine ⟨(z.length : Int), 3, rfl, rfl, _, rfl, ifF (by rw [decide_eq_true (by omega)]; rfl) ?_⟩
    -- any([sign not in FIGURES for sign in word])
    refine ⟨.str z, rfl, z, rfl, fun D hD => lc_strK (List.replicate z.cps.size (.bl false)) (fun _ => rfl) hD hz (by simp) (fun i c y H1 Q' hc hy s1 q1 => ?_) (fun H1 s1 d1 => ?_)⟩
    · refine ⟨.str ⟨#[c]⟩, rfl, c, FIG, rfl, rfl, ?_⟩
      have e : (!decide (c ∈ FIG.cps.toList)) = false := by rw [decide_eq_true (fig_at W hc)]; rfl
      have ey : y = .bl false := (List.mem_replicate.mp (List.mem_of_getElem? hy)).2
      show Q' (V.bl (!decide (c ∈ FIG.cps.toList))) H1
      rw [e, ← ey]
      exact q1 _ (.refl _)
    refine ⟨D, List.replicate z.cps.size false, rfl, SqL.of (by rw [List.map_replicate]; exact d1), _, rfl, ifF (any_false _) ?_⟩
    -- len(word) > 1 and word[0] == '0'
    refine ⟨.str z, rfl, z, rfl, hz, (z.length : Int), 1, rfl, rfl, _, rfl, ite2 (fun e => ?_) (fun e => ?_)⟩
    · have e1 : (1 : Int) < (z.length : Int) := of_decide_eq_true e
      have h0 : 0 < z.cps.toList.length := by show 0 < (tl z).length; omega
      have g0 : z.cps.toList[0]? = some z.cps.toList[0] := List.getElem?_eq_getElem h0
      refine ⟨.str z, rfl, z, 0, z.cps.toList[0], rfl, rfl, hz, atI_nat (j := 0) g0, rfl, _, rfl, ifF ?_ ?_⟩
      · refine decide_eq_false fun e2 => ?_
        have e3 : (⟨#[z.cps.toList[0]]⟩ : Str) = Str.ofString "0" := V.str.inj e2
        have e4 : tl (⟨#[z.cps.toList[0]]⟩ : Str) = [48] := by rw [e3]; decide +kernel
        have e5 : z.cps.toList[0] = 48 := (List.cons.inj e4).1
        refine W.zero (by omega) ?_
        show z.cps.toList[0]? = some 48
        rw [g0, e5]
      · refine ⟨.int lo, rfl, .str z, rfl, z, n, rfl, W.val, h640, lo, n, rfl, rfl, _, rfl, ifT (decide_eq_true h1) ?_⟩
        refine ⟨.int hi, rfl, n, hi, rfl, rfl, _, rfl, ifT (decide_eq_true h2) ?_⟩
        exact ⟨.str z, rfl, z, n, rfl, W.val, h640, tail _ s1⟩
    · refine ifF rfl ?_
      refine ⟨.int lo, rfl, .str z, rfl, z, n, rfl, W.val, h640, lo, n, rfl, rfl, _, rfl, ifT (decide_eq_true h1) ?_⟩
      refine ⟨.int hi, rfl, n, hi, rfl, rfl, _, rfl, ifT (decide_eq_true h2) ?_⟩
      exact ⟨.str z, rfl, z, n, rfl, W.val, h640, tail _ s1⟩
end
end NT
namespace NT
open PySem PySem.Spec PyProof.Rows L2 TL
section
variable {K : PySem.W.Frag} {mg : Str → Option Value} {P : Program} {w : World} {base : Heap}
/-! ### is_from -/
theorem ok_from {f : Addr} {fd : FuncData} {k : Nat} (F : Fun K "is_from" "is_from" sFrom f fd) (G : Glb mg) : FnOk P w K mg base CX0 (k + 1) f fd ["value", "least", "most"] spFrom := by
  refine F.ok scFrom (fun vs H Q E h => ?_) (fun cdv A outer s H vs Q E hr h => ?_)
  · obtain ⟨n, lo, hi, rfl, _⟩ := h
    rfl
  · obtain ⟨n, lo, hi, rfl, h1, h2, q⟩ := h
    refine ⟨_, pss_one (ps_ret (pe_and (pe_callB (isiK K) (by rfl) G.isin bt_isin (pa_cons (pv 0) (pa_cons (pe_bltn (v := .ty "int") (by rfl) G.int bt_int rfl) pa_nil)))
      (pe_and (pe_not (pe_callB (isiK K) (by rfl) G.isin bt_isin (pa_cons (pv 0) (pa_cons (pe_bltn (v := .ty "bool") (by rfl) G.bool bt_bool rfl) pa_nil))))
      (pe_one (pe_chain op_le op_le (pv 1) (pv 0) (pv 2)))))), ?_⟩
    refine ⟨.int n, rfl, .int n, .ty "int", .type "int", .type "int", true, rfl, .ty _, .base (.int n), kit_ty (by decide +kernel), true, rfl, ifT rfl ?_⟩
    refine ⟨.int n, rfl, .int n, .ty "bool", .type "int", .type "bool", false, rfl, .ty _, .base (.int n), kit_ty (by decide +kernel), false, rfl, true, rfl, ifT rfl ?_⟩
    refine ⟨.int lo, rfl, .int n, rfl, lo, n, rfl, rfl, _, rfl, ifT (decide_eq_true h1) ?_⟩
    refine ⟨.int hi, rfl, n, hi, rfl, rfl, ?_⟩
    show Q (.bl (decide (n ≤ hi))) H
    rw [decide_eq_true h2]
    exact q _ (.refl _)
/-! ### is_table -/
theorem row_of {H : Hp} {vs : List V} {T : List (List Int)} (p : Paired (RowAt H) vs T) {i : Nat} {x : V} (e : vs[i]? = some x) : ∃ b r, T[i]? = some r ∧ x = .ref b ∧ H b = some (.tup (r.map V.int)) := by
  obtain ⟨r, h1, b, h2, h3⟩ := pat p e
  exact ⟨b, r, h1, h2, h3⟩
theorem ok_isT {f fF : Addr} {fd fdF : FuncData} (F : Fun K "is_table" "is_table" sIsT f fd) (G : Glb mg) (FF : Fun K "is_from" "is_from" sFrom fF fdF) (bF : Binds K fdF ["value", "least", "most"] []) (gF : mg "is_from" = some (.ref fF)) :
    FnOk P w K mg base CX0 2 f fd ["value"] spIsT := by
  have GF : FnOk P w K mg base CX0 1 fF fdF ["value", "least", "most"] spFrom := ok_from FF G
  obtain ⟨t6, g6⟩ := G.six
  obtain ⟨t9, g9⟩ := G.most
  refine F.ok scIsT (fun vs H Q E h => ?_) (fun cdv A outer s H vs Q E hr h => ?_)
  · obtain ⟨a, T, c, rfl, _⟩ := h
    rfl
  · obtain ⟨a, T, c, rfl, hT, tb, q⟩ := h
    refine ⟨_, pss_cons (ps_if (PW.pt (pw_or (pt_not (pt_val (pe_callB (isiK K) (by rfl) G.isin bt_isin (pa_cons (pv 0) (pa_cons (pe_bltn (v := .ty "tuple") (by rfl) G.tuple bt_tuple rfl) pa_nil)))))
          (pw_or1 (pt_not (pt_chain op_le op_le pe_int (pe_callB (lenK K) (by rfl) G.len bt_len (pa_cons (pv 0) pa_nil)) (pe_glob (v := .int 6) (by rfl) g6 ⟨_, rfl⟩)))))) (pss_one (ps_ret pe_bl)) pss_nil)
      (pss_cons (ps_if (pt_not (pt_val (pe_callB (cr_all rfl) (by rfl) G.all bt_all (pa_cons
          (pe_lc (own := [("row", 1)]) (g := gName 1) (tt := tYes) rfl scIsT.nd (pi_tupK K (pv 0)) (blkOk_by (own := [("row", 1)]) (N := ["value", "row", "answer"]) (sc := defScope sIsT) (by decide +kernel))
            (fun _ _ _ _ _ => pg_name (i := 1) scIsT.nd rfl (Or.inl rfl)) (fun _ _ _ _ _ => pts_nil)
            (fun _ _ _ _ _ => pe_and (pe_callB (isiK K) (by rfl) G.isin bt_isin (pa_cons (pv 1) (pa_cons (pe_bltn (v := .ty "tuple") (by rfl) G.tuple bt_tuple rfl) pa_nil)))
              (pe_one (pe_chain op_le op_le pe_int (pe_callB (lenK K) (by rfl) G.len bt_len (pa_cons (pv 1) pa_nil)) (pe_glob (v := .int 6) (by rfl) g6 ⟨_, rfl⟩))))) pa_nil)))) (pss_one (ps_ret pe_bl)) pss_nil)
      (pss_cons (ps_if (pt_not (pt_val (pe_callB (cr_all rfl) (by rfl) G.all bt_all (pa_cons
          (pe_lc (own := [("row", 1)]) (g := gName 1) (tt := tYes) rfl scIsT.nd (pi_tupK K (pv 0)) (blkOk_by (own := [("row", 1)]) (N := ["value", "row", "answer"]) (sc := defScope sIsT) (by decide +kernel))
            (fun _ _ _ _ _ => pg_name (i := 1) scIsT.nd rfl (Or.inl rfl)) (fun _ _ _ _ _ => pts_nil)
            (fun _ _ _ _ _ => pe_cmpR op_eq (pe_callB (lenK K) (by rfl) G.len bt_len (pa_cons (pv 1) pa_nil)) (pe_callB (lenK K) (by rfl) G.len bt_len (pa_cons (pe_ix (ixTK K) (pv 0) pe_int (fun _ _ => rfl)) pa_nil)) (nomark _))) pa_nil)))) (pss_one (ps_ret pe_bl)) pss_nil)
      (pss_one (ps_ret (pe_callB (cr_all rfl) (by rfl) G.all bt_all (pa_cons
          (pe_lc2 (own := [("row", 1), ("answer", 2)]) (vs1 := [2]) (g := gName 1) (g1 := gName 2) (tt := tYes) (tt1 := tYes) rfl scIsT.nd (pi_tupK K (pv 0)) (blkOk_by (own := [("row", 1), ("answer", 2)]) (N := ["value", "row", "answer"]) (sc := defScope sIsT) (by decide +kernel)) (by decide)
            (fun _ _ _ _ _ => pg_name (i := 1) scIsT.nd rfl (Or.inl rfl)) (fun _ _ _ _ _ => pts_nil)
            (fun _ _ _ _ _ => pi_tupK K (pv 1)) (fun _ _ _ _ _ => pg_name (i := 2) scIsT.nd rfl (Or.inl rfl)) (fun _ _ _ _ _ => pts_nil)
            (fun _ _ _ _ _ => pe_call GF hr (by rfl) gF FF.kp bF .nil pass0 (pa_cons (pv 2) (pa_cons pe_int (pa_cons (pe_glob (v := .int 99) (by rfl) g9 ⟨_, rfl⟩) pa_nil))))) pa_nil)))))), ?_⟩
    obtain ⟨xs, hA, hP⟩ := hT
    have hx : xs.length = T.length := hP.length
    have r1 := tb.r1
    have r6 := tb.r6
    have c6 := tb.c6
    have hz : xs.length ≤ sizeLine := by rw [sizeLine_eq]; omega
    have big : ∀ n : Nat, n ≤ 1000 → n < sizeLine := fun n h => by rw [sizeLine_eq]; omega
    -- the first test
    refine ⟨.ref a, rfl, .ref a, .ty "tuple", .type "tuple", .type "tuple", true, rfl, .ty _, .base (.tup hA), kit_ty (by decide +kernel), _, rfl, ifF rfl ?_⟩
    refine ⟨.ref a, rfl, a, xs, rfl, .inr (SqT.of hA), 1, (xs.length : Int), rfl, rfl, _, rfl, ifT (decide_eq_true (by omega)) ?_⟩
    refine ⟨(xs.length : Int), 6, rfl, rfl, _, rfl, ifF (by rw [decide_eq_true (by omega)]; rfl) ?_⟩
    -- all rows are tuples
    refine ⟨.ref a, rfl, a, rfl, ⟨_, SqT.of hA⟩, fun D hD => lc_tupK (xs := xs) (List.replicate xs.length (.bl true)) (fun _ => rfl) hD hz (by simp) (SqT.of hA) (fun i x y H1 Q' hx1 hy s1 q1 => ?_) (fun H1 s1 d1 => ?_)⟩
    · have ey : y = .bl true := (List.mem_replicate.mp (List.mem_of_getElem? hy)).2
      obtain ⟨b, r, hr1, rfl, hb⟩ := row_of hP hx1
      have hrl : r.length = c := tb.row r (List.mem_of_getElem? hr1)
      have c1 := tb.c1
      refine ⟨.ref b, rfl, .ref b, .ty "tuple", .type "tuple", .type "tuple", true, rfl, .ty _, .base (.tup (s1 _ _ hb)), kit_ty (by decide +kernel), _, rfl, ifT rfl ?_⟩
      refine ⟨.ref b, rfl, b, r.map V.int, rfl, .inr (SqT.of (s1 _ _ hb)), 1, ((r.map V.int).length : Int), rfl, rfl, _, rfl, ifT (decide_eq_true (by rw [List.length_map]; omega)) ?_⟩
      refine ⟨((r.map V.int).length : Int), 6, rfl, rfl, ?_⟩
      show Q' (V.bl (decide (((r.map V.int).length : Int) ≤ 6))) H1
      rw [decide_eq_true (by rw [List.length_map]; omega), ← ey]
      exact q1 _ (.refl _)
    refine ⟨D, List.replicate xs.length true, rfl, SqL.of (by rw [List.map_replicate]; exact d1), _, rfl, ifF (by rw [all_true]; rfl) ?_⟩
    -- all rows are of one length
    refine ⟨.ref a, rfl, a, rfl, ⟨_, SqT.of (s1 _ _ hA)⟩, fun D2 hD2 => lc_tupK (xs := xs) (List.replicate xs.length (.bl true)) (fun _ => rfl) hD2 hz (by simp) (SqT.of (s1 _ _ hA)) (fun i x y H2 Q' hx1 hy s2 q1 => ?_) (fun H2 s2 d2 => ?_)⟩
    · have ey : y = .bl true := (List.mem_replicate.mp (List.mem_of_getElem? hy)).2
      have s12 := s1.trans s2
      obtain ⟨b, r, hr1, rfl, hb⟩ := row_of hP hx1
      have hrl : r.length = c := tb.row r (List.mem_of_getElem? hr1)
      have e0 : xs[0]? = some xs[0] := List.getElem?_eq_getElem (by omega)
      obtain ⟨b0, r0, hr0, ex0, hb0⟩ := row_of hP e0
      have hrl0 : r0.length = c := tb.row r0 (List.mem_of_getElem? hr0)
      refine ⟨.ref b, rfl, b, r.map V.int, rfl, .inr (SqT.of (s12 _ _ hb)), .ref a, rfl, a, xs, 0, .ref b0, rfl, rfl, SqT.of (s12 _ _ hA), atI_nat (j := 0) (by rw [e0, ex0]), b0, r0.map V.int, rfl, .inr (SqT.of (s12 _ _ hb0)), rfl, ?_⟩
      show Q' (V.bl (decide (V.int ((r.map V.int).length : Int) = V.int ((r0.map V.int).length : Int)))) H2
      rw [decide_eq_true (by rw [List.length_map, List.length_map, hrl, hrl0]), ← ey]
      exact q1 _ (.refl _)
    refine ⟨D2, List.replicate xs.length true, rfl, SqL.of (by rw [List.map_replicate]; exact d2), _, rfl, ifF (by rw [all_true]; rfl) ?_⟩
    -- all answers
    have s12 := s1.trans s2
    refine ⟨.ref a, rfl, a, rfl, ⟨_, SqT.of (s12 _ _ hA)⟩, fun D3 hD3 => ?_⟩
    refine ⟨fun i m H3 => m + i = xs.length ∧ Same H2 H3 ∧ ∃ n, H3 D3 = some (.lst (List.replicate n (V.bl true))) ∧ n ≤ i * 6, ⟨xs.length, by omega, same_fill hD3 (.refl _), 0, upd_same, by omega⟩, ?_⟩
    rintro i m H3 ⟨hm, s3, n, d3, hn⟩
    have s03 : Same H H3 := s12.trans s3
    by_cases hi : i < xs.length
    · refine .inr ⟨⟨xs, xs[i], SqT.of (s03 _ _ hA), List.getElem?_eq_getElem hi⟩, fun H4 => Same H2 H4 ∧ ∃ n, H4 D3 = some (.lst (List.replicate n (V.bl true))) ∧ n ≤ (i + 1) * 6, fun H4 ⟨s4, n, d4, hn4⟩ => ⟨m - 1, by omega, by omega, s4, n, d4, hn4⟩, fun x H4 hy => ?_⟩
      obtain ⟨rfl, hy⟩ := hy
      have ex := hy xs (SqT.of (s03 _ _ hA))
      obtain ⟨b, r, hr1, rfl, hb⟩ := row_of hP ex
      have hrm := List.mem_of_getElem? hr1
      have hrl : r.length = c := tb.row r hrm
      refine ⟨rfl, ?_⟩
      refine ⟨.ref b, rfl, b, rfl, ⟨_, SqT.of (s03 _ _ hb)⟩, ?_⟩
      refine ⟨fun j k H5 => k + j = r.length ∧ Same H2 H5 ∧ ∃ n, H5 D3 = some (.lst (List.replicate n (V.bl true))) ∧ n ≤ i * 6 + j, ⟨r.length, by omega, s3, n, d3, by omega⟩, ?_⟩
      rintro j k H5 ⟨hk, s5, n5, d5, hn5⟩
      have s05 : Same H H5 := s12.trans s5
      by_cases hj : j < r.length
      · have hjm : j < (r.map V.int).length := by rw [List.length_map]; exact hj
        refine .inr ⟨⟨r.map V.int, (r.map V.int)[j], SqT.of (s05 _ _ hb), List.getElem?_eq_getElem hjm⟩, fun H6 => Same H2 H6 ∧ ∃ n, H6 D3 = some (.lst (List.replicate n (V.bl true))) ∧ n ≤ i * 6 + (j + 1), fun H6 ⟨s6, n, d6, hn6⟩ => ⟨k - 1, by omega, by omega, s6, n, d6, hn6⟩, fun x H6 hy6 => ?_⟩
        obtain ⟨rfl, hy6⟩ := hy6
        have ex6 := hy6 _ (SqT.of (s05 _ _ hb))
        rw [List.getElem?_map, List.getElem?_eq_getElem hj] at ex6
        have ex7 : V.int r[j] = x := Option.some.inj ex6
        subst ex7
        have hs := tb.sm r hrm r[j] (List.getElem_mem hj)
        unfold Sm at hs
        refine ⟨rfl, ?_⟩
        refine ⟨.int r[j], rfl, r[j], 0, 99, rfl, hs.1, hs.2, fun H7 s7 => ⟨List.replicate n5 (V.bl true), s7 _ _ d5, ?_, same_fill hD3 (s5.trans s7), n5 + 1, ?_, by omega⟩⟩
        · rw [List.length_replicate]
          exact big _ (by omega)
        · rw [upd_same, List.replicate_succ']
      · refine .inl ⟨⟨_, SqT.of (s05 _ _ hb), by rw [List.length_map]; omega⟩, s5, n5, d5, ?_⟩
        have : j = r.length := by omega
        omega
    · refine .inl ⟨⟨xs, SqT.of (s03 _ _ hA), by omega⟩, ?_⟩
      refine ⟨D3, List.replicate n true, rfl, SqL.of (by rw [List.map_replicate]; exact d3), ?_⟩
      show Q (V.bl ((List.replicate n true).all id)) H3
      rw [all_true]
      exact q _ s03
/-! ### need_table -/
theorem ok_need {f fI : Addr} {fd fdI : FuncData} (F : Fun K "need_table" "need_table" sNeed f fd) (FI : Fun K "is_table" "is_table" sIsT fI fdI) (bI : Binds K fdI ["value"] []) (gI : mg "is_table" = some (.ref fI)) (GI : FnOk P w K mg base CX0 2 fI fdI ["value"] spIsT) :
    FnOk P w K mg base CX0 3 f fd ["value"] spNeed := by
  refine F.ok scNeed (fun vs H Q E h => ?_) (fun cdv A outer s H vs Q E hr h => ?_)
  · obtain ⟨a, T, c, rfl, _⟩ := h
    rfl
  · obtain ⟨a, T, c, rfl, hT, tb, q⟩ := h
    refine ⟨_, pss_one (ps_if (pt_not (pt_val (pe_call GI hr (by rfl) gI FI.kp bI .nil pass0 (pa_cons (pv 0) pa_nil)))) (pss_one ps_never) pss_nil), ?_⟩
    exact ⟨.ref a, rfl, a, T, c, rfl, hT, tb, fun H1 s1 => ⟨true, rfl, ifF rfl (q _ s1)⟩⟩
end
end NT
namespace NT
open PySem PySem.Spec PyProof.Rows L2 TL
def rJoin (K : PySem.W.Frag) : V → List V → Hp → VK → Prop := fun x xs H Q => ∃ a p, ∃ ys : List Str, x = .str a ∧ xs = [.ref p] ∧ (SqL K H p (ys.map V.str) ∨ SqT K H p (ys.map V.str)) ∧
  (ys.map (·.length)).sum + ys.length * a.length ≤ 16777216 ∧ Q (.str (Txt.join a ys)) H
theorem pe_joinK {X : Cx} (K : PySem.W.Frag) {o e : Expr} {to te : TE} {apos pos : Pos} (ho : PE X o to) (he : PE X e te) (h : X.K = K := by rfl) (hs : starEach [e] X.env = [(false, eval e X.env)] := by rfl) (hbase : attributeBase o "join" X.env (eval o X.env) = eval o X.env := by rfl) (hline : (apos.endLine == pos.line) = true := by rfl) :
    PE X (.Call (.Attribute o "join" apos) [e] [] pos) (tM1 (rJoin K) to te) := by
  subst h
  exact pe_join ho he hs hbase hline
theorem blk_free {N : List Str} {sc sc' scope : Scope} {own : List (Str × Nat)} (h : BlkOk N sc' scope own) (hf : (scope.names.all fun y => match y.2 with | .free => false | _ => true) = true) : BlkOk N sc scope own := by
  refine ⟨h.kind, h.uniq, h.ix, fun y hy e => ?_, h.own⟩
  have q := List.all_eq_true.mp hf y hy
  rw [e] at q
  cases q
section
variable {K : PySem.W.Frag} {mg : Str → Option Value} {P : Program} {w : World} {base : Heap}
/-! ### whole -/
theorem ok_whole {f : Addr} {fd : FuncData} {k : Nat} (F : Fun K "whole" "whole" sWhole f fd) (G : Glb mg) : FnOk P w K mg base CX0 (k + 1) f fd ["table"] spWhole := by
  refine F.ok scWhole (fun vs H Q E h => ?_) (fun cdv A outer s H vs Q E hr h => ?_)
  · obtain ⟨a, T, c, rfl, _⟩ := h
    rfl
  · obtain ⟨a, T, c, rfl, hT, tb, q⟩ := h
    refine ⟨_, pss_one (ps_ret (pe_tup (pa_cons (pe_tupRg rfl (by rfl) G.tuple (prg_1 (by rfl) G.range (pe_callB (lenK K) (by rfl) G.len bt_len (pa_cons (pv 0) pa_nil))))
      (pa_cons (pe_tupRg rfl (by rfl) G.tuple (prg_1 (by rfl) G.range (pe_callB (lenK K) (by rfl) G.len bt_len (pa_cons (pe_ix (ixTK K) (pv 0) pe_int (fun _ _ => rfl)) pa_nil)))) pa_nil)))), ?_⟩
    obtain ⟨xs, hA, hP⟩ := hT
    have hx : xs.length = T.length := hP.length
    have r1 := tb.r1
    have r6 := tb.r6
    have c6 := tb.c6
    have e0 : xs[0]? = some xs[0] := List.getElem?_eq_getElem (by omega)
    obtain ⟨b0, r0, hr0, ex0, hb0⟩ := row_of hP e0
    have hrl0 : r0.length = c := tb.row r0 (List.mem_of_getElem? hr0)
    refine ⟨.ref a, rfl, a, xs, rfl, .inr (SqT.of hA), (xs.length : Int), rfl, RgOk.of_le (by omega) (by omega) (by omega) (by omega), fun p1 n1 => ?_⟩
    have s1 : Same H (upd H p1 (.tup (rgV 0 (xs.length : Int)))) := same_upd n1
    refine ⟨.ref a, rfl, a, xs, 0, .ref b0, rfl, rfl, SqT.of (s1 _ _ hA), atI_nat (j := 0) (by rw [e0, ex0]), b0, r0.map V.int, rfl, .inr (SqT.of (s1 _ _ hb0)), ((r0.map V.int).length : Int), rfl, ?_, fun p2 n2 => ?_⟩
    · rw [List.length_map, hrl0]
      exact RgOk.of_le (by omega) (by omega) (by omega) (by omega)
    refine ⟨by show 2 ≤ sizeLine; rw [sizeLine_eq]; decide, fun p3 n3 => ?_⟩
    have s2 := same_upd (o := .tup (rgV 0 ((r0.map V.int).length : Int))) n2
    have s3 := same_upd (o := .tup [.ref p1, .ref p2]) n3
    refine q _ p3 ((s1.trans s2).trans s3) ⟨p1, p2, upd_same, ?_, ?_⟩
    · rw [← hx]
      exact s3 _ _ (s2 _ _ upd_same)
    · have e : ((r0.map V.int).length : Int) = (c : Int) := by rw [List.length_map, hrl0]
      rw [← e]
      exact s3 _ _ upd_same
theorem ok_lwhole {f : Addr} {fd : FuncData} {k : Nat} (F : Fun K "_law_whole" "_law_whole" sLWhole f fd) (G : Glb mg) : FnOk P w K mg base CX0 (k + 1) f fd ["_law_table_here"] spWhole := by
  refine F.ok scLWhole (fun vs H Q E h => ?_) (fun cdv A outer s H vs Q E hr h => ?_)
  · obtain ⟨a, T, c, rfl, _⟩ := h
    rfl
  · obtain ⟨a, T, c, rfl, hT, tb, q⟩ := h
    refine ⟨_, pss_one (ps_ret (pe_tup (pa_cons (pe_tupRg rfl (by rfl) G.tuple (prg_1 (by rfl) G.range (pe_callB (lenK K) (by rfl) G.len bt_len (pa_cons (pv 0) pa_nil))))
      (pa_cons (pe_tupRg rfl (by rfl) G.tuple (prg_1 (by rfl) G.range (pe_callB (lenK K) (by rfl) G.len bt_len (pa_cons (pe_ix (ixTK K) (pv 0) pe_int (fun _ _ => rfl)) pa_nil)))) pa_nil)))), ?_⟩
    obtain ⟨xs, hA, hP⟩ := hT
    have hx : xs.length = T.length := hP.length
    have r1 := tb.r1
    have r6 := tb.r6
    have c6 := tb.c6
    have e0 : xs[0]? = some xs[0] := List.getElem?_eq_getElem (by omega)
    obtain ⟨b0, r0, hr0, ex0, hb0⟩ := row_of hP e0
    have hrl0 : r0.length = c := tb.row r0 (List.mem_of_getElem? hr0)
    refine ⟨.ref a, rfl, a, xs, rfl, .inr (SqT.of hA), (xs.length : Int), rfl, RgOk.of_le (by omega) (by omega) (by omega) (by omega), fun p1 n1 => ?_⟩
    have s1 : Same H (upd H p1 (.tup (rgV 0 (xs.length : Int)))) := same_upd n1
    refine ⟨.ref a, rfl, a, xs, 0, .ref b0, rfl, rfl, SqT.of (s1 _ _ hA), atI_nat (j := 0) (by rw [e0, ex0]), b0, r0.map V.int, rfl, .inr (SqT.of (s1 _ _ hb0)), ((r0.map V.int).length : Int), rfl, ?_, fun p2 n2 => ?_⟩
    · rw [List.length_map, hrl0]
      exact RgOk.of_le (by omega) (by omega) (by omega) (by omega)
    refine ⟨by show 2 ≤ sizeLine; rw [sizeLine_eq]; decide, fun p3 n3 => ?_⟩
    have s2 := same_upd (o := .tup (rgV 0 ((r0.map V.int).length : Int))) n2
    have s3 := same_upd (o := .tup [.ref p1, .ref p2]) n3
    refine q _ p3 ((s1.trans s2).trans s3) ⟨p1, p2, upd_same, ?_, ?_⟩
    · rw [← hx]
      exact s3 _ _ (s2 _ _ upd_same)
    · have e : ((r0.map V.int).length : Int) = (c : Int) := by rw [List.length_map, hrl0]
      rw [← e]
      exact s3 _ _ upd_same
/-! ### table_text -/
theorem log_small {n : Int} (h : Sm n) : n.natAbs.log2 < 1920 := by
  unfold Sm at h
  have h1 : n.natAbs < 2 ^ 8 := by omega
  have h2 : n.natAbs.log2 < 8 := by
    by_cases h0 : n.natAbs = 0
    · rw [h0]; decide
    · exact (Nat.log2_lt h0).mpr h1
  omega
theorem sp_len : sp.length = 1 := by rw [len_tl, tl_sp]; rfl
theorem nl_len : nl.length = 1 := by rw [len_tl, tl_nl]; rfl
theorem em_len : em.length = 0 := by rw [len_tl, tl_em]; rfl
theorem rowsB_len : rowsB.length = 5 := by rw [len_tl, tl_rowsB]; rfl
theorem ok_text {f : Addr} {fd : FuncData} {k : Nat} (F : Fun K "table_text" "table_text" sText f fd) (G : Glb mg) : FnOk P w K mg base CX0 (k + 1) f fd ["table"] spText := by
  refine F.ok scText (fun vs H Q E h => ?_) (fun cdv A outer s H vs Q E hr h => ?_)
  · obtain ⟨a, T, c, rfl, _⟩ := h
    rfl
  · obtain ⟨a, T, c, rfl, hT, tb, q⟩ := h
    refine ⟨_, pss_cons (ps_set (i := 1) scText.nd rfl (Or.inl rfl) (pe_op op_cat (pe_lst (pa_cons (pe_op op_add_str pe_str (pe_callTy call_str_int (by rfl) G.str bt_str (pa_cons (pe_callB (lenK K) (by rfl) G.len bt_len (pa_cons (pv 0) pa_nil)) pa_nil))) pa_nil))
        (pe_lc (own := [("row", 2)]) (g := gName 2) (tt := tYes) rfl scText.nd (pi_tupK K (pv 0)) (blkOk_by (own := [("row", 2)]) (N := ["table", "rows", "row", "answer"]) (sc := defScope sText) (by decide +kernel))
            (fun _ _ _ _ _ => pg_name (i := 2) scText.nd rfl (Or.inl rfl)) (fun _ _ _ _ _ => pts_nil)
            (fun _ _ _ _ _ => pe_joinK K pe_str (pe_lc (own := [("answer", 3)]) (g := gName 3) (tt := tYes) rfl scText.nd (pi_tupK K (pv 2)) (blk_free (blkOk_by (own := [("answer", 3)]) (N := ["table", "rows", "row", "answer"]) (sc := defScope sText) (by decide +kernel)) (by decide +kernel))
              (fun _ _ _ _ _ => pg_name (i := 3) scText.nd rfl (Or.inl rfl)) (fun _ _ _ _ _ => pts_nil)
              (fun _ _ _ _ _ => pe_callTy call_str_int (by rfl) G.str bt_str (pa_cons (pv 3) pa_nil)))))))
      (pss_one (ps_ret (pe_joinK K pe_str (pe_lc (own := [("row", 2)]) (g := gName 2) (tt := tYes) rfl scText.nd (pi_listK K (pv 1)) (blkOk_by (own := [("row", 2)]) (N := ["table", "rows", "row", "answer"]) (sc := defScope sText) (by decide +kernel))
            (fun _ _ _ _ _ => pg_name (i := 2) scText.nd rfl (Or.inl rfl)) (fun _ _ _ _ _ => pts_nil)
            (fun _ _ _ _ _ => pe_op op_add_str (pv 2) pe_str))))), ?_⟩
    obtain ⟨xs, hA, hP⟩ := hT
    have hx : xs.length = T.length := hP.length
    have r1 := tb.r1
    have r6 := tb.r6
    have c6 := tb.c6
    have hz : xs.length ≤ sizeLine := by rw [sizeLine_eq]; omega
    -- rows = ['rows ' + str(len(table))] + [..]
    refine ⟨.ref a, rfl, a, xs, rfl, .inr (SqT.of hA), (xs.length : Int), rfl, log_small (by unfold Sm; omega), rowsB, nm (xs.length : Int), rfl, rfl, ?_, ?_, fun l nl' => ?_⟩
    · have h1 := nm_len (n := (xs.length : Int)) (by unfold Sm; omega)
      rw [rowsB_len, sizeLine_eq]
      omega
    · show 1 ≤ sizeLine
      rw [sizeLine_eq]
      decide
    have s0 := same_upd (o := .lst [.str (rowsB ++ nm (xs.length : Int))]) nl'
    refine ⟨.ref a, rfl, a, rfl, ⟨_, SqT.of (s0 _ _ hA)⟩, fun D hD => lc_tupK (xs := xs) ((T.map rowT).map V.str) (fun _ => rfl) hD hz (by simp [hx]) (SqT.of (s0 _ _ hA)) (fun i x y H1 Q' hx1 hy s1 q1 => ?_) (fun H1 s1 d1 => ?_)⟩
    · obtain ⟨b, r, hr1, rfl, hb⟩ := row_of hP hx1
      have ey : y = .str (rowT r) := by
        rw [List.getElem?_map, List.getElem?_map, hr1] at hy
        exact (Option.some.inj hy).symm
      subst ey
      have hrm := List.mem_of_getElem? hr1
      have hrl : r.length = c := tb.row r hrm
      have hb1 := s1 _ _ (s0 _ _ hb)
      refine ⟨⟨_, rfl⟩, .ref b, rfl, b, rfl, ⟨_, SqT.of hb1⟩, fun D2 hD2 => lc_tupK (xs := r.map V.int) ((r.map nm).map V.str) (fun _ => rfl) hD2 (by rw [List.length_map, sizeLine_eq]; omega) (by simp) (SqT.of hb1) (fun j x y H2 Q2 hx2 hy2 s2 q2 => ?_) (fun H2 s2 d2 => ?_)⟩
      · rw [List.getElem?_map] at hx2
        rw [List.getElem?_map, List.getElem?_map] at hy2
        cases hj : r[j]? with
        | none => rw [hj] at hx2; cases hx2
        | some n =>
          rw [hj] at hx2 hy2
          have e1 : V.int n = x := Option.some.inj hx2
          have e2 : V.str (nm n) = y := Option.some.inj hy2
          subst e1 e2
          exact ⟨.int n, rfl, n, rfl, log_small (tb.sm r hrm n (List.mem_of_getElem? hj)), q2 _ (.refl _)⟩
      · refine ⟨sp, D2, r.map nm, rfl, rfl, .inl (SqL.of d2), ?_, q1 _ s2⟩
        have h1 := lens_sum (ps := r.map nm) (k := 2) fun p hp => by
          obtain ⟨n, hn, rfl⟩ := List.mem_map.mp hp
          exact nm_len (tb.sm r hrm n hn)
        rw [sp_len]
        rw [List.length_map] at h1 ⊢
        omega
    have sl : H1 l = some (.lst [.str (rowsB ++ nm (xs.length : Int))]) := s1 _ _ upd_same
    refine ⟨l, D, [.str (rowsB ++ nm (xs.length : Int))], (T.map rowT).map V.str, rfl, rfl, sl, d1, ?_, fun p np => ?_⟩
    · rw [List.length_map, List.length_map, sizeLine_eq]
      show 1 + T.length ≤ _
      omega
    have el : [.str (rowsB ++ nm (xs.length : Int))] ++ (T.map rowT).map V.str = (linesT T).map V.str := by
      rw [hx]
      rfl
    rw [el]
    have s2 := (s0.trans s1).trans (same_upd (o := .lst ((linesT T).map V.str)) np)
    -- ''.join([row + '\n' for row in rows])
    have hp : SqL K (upd H1 p (.lst ((linesT T).map V.str))) p ((linesT T).map V.str) := SqL.of upd_same
    refine ⟨⟨_, rfl⟩, .ref p, rfl, p, rfl, ⟨_, hp⟩, fun D2 hD2 => lc_listK (xs := (linesT T).map V.str) (((linesT T).map (· ++ nl)).map V.str) (fun _ => rfl) hD2 (by rw [List.length_map, lines_len, sizeLine_eq]; omega) (by simp) hp (fun i x y H2 Q2 hx2 hy2 s3 q2 => ?_) (fun H2 s3 d2 => ?_)⟩
    · rw [List.getElem?_map] at hx2
      rw [List.getElem?_map, List.getElem?_map] at hy2
      cases hj : (linesT T)[i]? with
      | none => rw [hj] at hx2; cases hx2
      | some z =>
        rw [hj] at hx2 hy2
        have e1 : V.str z = x := Option.some.inj hx2
        have e2 : V.str (z ++ nl) = y := Option.some.inj hy2
        subst e1 e2
        have hl := tb.lines z (List.mem_of_getElem? hj)
        exact ⟨.str z, rfl, z, nl, rfl, rfl, by rw [nl_len, sizeLine_eq]; omega, q2 _ (.refl _)⟩
    · refine ⟨em, D2, (linesT T).map (· ++ nl), rfl, rfl, .inl (SqL.of d2), ?_, q _ (s2.trans s3)⟩
      have h1 := lens_sum tb.linesN
      rw [em_len]
      rw [List.length_map, lines_len] at h1 ⊢
      omega
/-! ### write_table -/
theorem ok_write {f fN fT : Addr} {fd fdN fdT : FuncData} (F : Fun K "write_table" "write_table" sWrite f fd) (FN : Fun K "need_table" "need_table" sNeed fN fdN) (bN : Binds K fdN ["value"] []) (gN : mg "need_table" = some (.ref fN)) (GN : FnOk P w K mg base CX0 3 fN fdN ["value"] spNeed)
    (FT : Fun K "table_text" "table_text" sText fT fdT) (bT : Binds K fdT ["table"] []) (gT : mg "table_text" = some (.ref fT)) (GT : FnOk P w K mg base CX0 1 fT fdT ["table"] spText) :
    FnOk P w K mg base CX0 4 f fd ["table"] spText := by
  refine F.ok scWrite (fun vs H Q E h => ?_) (fun cdv A outer s H vs Q E hr h => ?_)
  · obtain ⟨a, T, c, rfl, _⟩ := h
    rfl
  · obtain ⟨a, T, c, rfl, hT, tb, q⟩ := h
    refine ⟨_, pss_cons (ps_expr (pe_call GN hr (by rfl) gN FN.kp bN .nil pass0 (pa_cons (pv 0) pa_nil)))
      (pss_one (ps_ret (pe_call GT (hr.mono (by decide)) (by rfl) gT FT.kp bT .nil pass0 (pa_cons (pv 0) pa_nil)))), ?_⟩
    exact ⟨.ref a, rfl, a, T, c, rfl, hT, tb, fun H1 s1 => ⟨.ref a, rfl, a, T, c, rfl, hT.same s1, tb, fun H2 s2 => q _ (s1.trans s2)⟩⟩
end
end NT
namespace NT
open PySem PySem.Spec PyProof.Rows L2 TL
theorem sIx_last (n d : Nat) (h : 1 ≤ n) : HT.sIx n d (some (-1)) = n - 1 := by
  have e := HT.clip_eq (-1) n d
  rw [if_pos (by decide)] at e
  omega
theorem cut_last (xs : List V) (z : V) : cutV (xs ++ [z]) none (some (-1)) = xs := by
  unfold cutV
  have hl : (xs ++ [z]).length = xs.length + 1 := by rw [List.length_append]; rfl
  rw [HT.sIx_none, sIx_last _ _ (by omega), hl, List.drop_zero, Nat.sub_zero, Nat.add_sub_cancel]
  exact List.take_left' rfl
def rSplit : V → List V → Hp → VK → Prop := fun x xs H Q => ∃ a b, x = .str a ∧ xs = [.str b] ∧ (b.length == 0) = false ∧ a.length + 2 ≤ sizeLine ∧ rNewStrs (Txt.split a b) H Q
section
variable {K : PySem.W.Frag} {mg : Str → Option Value} {P : Program} {w : World} {base : Heap}
/-! ### lines_of -/
theorem ok_lines {f : Addr} {fd : FuncData} {k : Nat} (F : Fun K "lines_of" "lines_of" sLines f fd) (G : Glb mg) : FnOk P w K mg base CX0 (k + 1) f fd ["text"] spLines := by
  refine F.ok scLines (fun vs H Q E h => ?_) (fun cdv A outer s H vs Q E hr h => ?_)
  · obtain ⟨T, c, rfl, _⟩ := h
    rfl
  · obtain ⟨T, c, rfl, tb, q⟩ := h
    refine ⟨_, pss_cons (ps_if (pt_not (pt_val (pe_callB (isiK K) (by rfl) G.isin bt_isin (pa_cons (pv 0) (pa_cons (pe_bltn (v := .ty "str") (by rfl) G.str bt_str rfl) pa_nil))))) (pss_one ps_never) pss_nil)
      (pss_cons (ps_set (i := 1) scLines.nd rfl (Or.inl rfl) (pe_split (pv 0) pe_str))
      (pss_one (ps_ret (pe_tup (pa_cons (pe_slice sl_list (pv 1) po_none (po_some (pe_un un_neg pe_int))) (pa_cons (pe_ix (ixLK K) (pv 1) (pe_un un_neg pe_int) (fun _ _ => rfl)) pa_nil)))))), ?_⟩
    have hlen := tb.len
    refine ⟨.str (textT T), rfl, .str (textT T), .ty "str", .type "str", .type "str", true, rfl, .ty _, .base (.str _), kit_ty (by decide +kernel), true, rfl, ifF rfl ?_⟩
    refine ⟨.str (textT T), rfl, ⟨_, rfl⟩, textT T, nl, rfl, rfl, by rw [nl_len]; rfl, by rw [sizeLine_eq]; omega, fun p np => ?_⟩
    have s1 := same_upd (o := .lst ((Txt.split (textT T) nl).map V.str)) np
    have e1 : (Txt.split (textT T) nl).map V.str = (linesT T).map V.str ++ [.str em] := by rw [split_text tb, List.map_append]; rfl
    rw [e1] at s1 ⊢
    refine ⟨.ref p, rfl, 1, rfl, -1, rfl, p, _, rfl, SqL.of upd_same, fun l nl' => ?_⟩
    have s2 := same_upd (o := .lst (cutV ((linesT T).map V.str ++ [.str em]) none (some (-1)))) nl'
    refine ⟨.ref p, rfl, 1, rfl, p, (linesT T).map V.str ++ [.str em], -1, .str em, rfl, rfl, SqL.of (s2 _ _ upd_same), atI_last _ _, ?_, fun t nt => ?_⟩
    · show 2 ≤ sizeLine
      rw [sizeLine_eq]
      decide
    · refine q _ t l ((s1.trans s2).trans (same_upd nt)) upd_same (same_upd nt _ _ ?_)
      rw [upd_same, cut_last]
/-! ### numbers_in -/
theorem flat_ints (r : List Int) : (r.map V.int).all flatV = true := by
  rw [List.all_map]
  exact List.all_eq_true.mpr fun _ _ => rfl
theorem none_ints : ∀ r : List Int, inV .non (r.map V.int) = false
  | [] => rfl
  | n :: r => by
    show (eqV (.int n) .non || inV .non (r.map V.int)) = false
    rw [none_ints r]
    rfl
theorem ok_nums {f fN : Addr} {fd fdN : FuncData} (F : Fun K "numbers_in" "numbers_in" sNums f fd) (G : Glb mg) (FN : Fun K "number_of" "number_of" sNum fN fdN) (bN : Binds K fdN ["word", "least", "most"] []) (gN : mg "number_of" = some (.ref fN)) :
    FnOk P w K mg base CX0 2 f fd ["line", "least", "most"] spNums := by
  have GN : FnOk P w K mg base CX0 1 fN fdN ["word", "least", "most"] spNum := ok_num FN G
  refine F.ok scNums (fun vs H Q E h => ?_) (fun cdv A outer s H vs Q E hr h => ?_)
  · obtain ⟨r, rfl, _⟩ := h
    rfl
  · obtain ⟨r, rfl, hne, h6, hs, q⟩ := h
    refine ⟨_, pss_cons (ps_setLc (i := 3) (own := [("word", 4)]) (g := gName 4) (tt := tYes) rfl scNums.nd rfl rfl (sw_true rfl rfl rfl (by decide +kernel)) (pi_listK K (pe_split (pv 0) pe_str)) (blkOk_by (own := [("word", 4)]) (N := ["line", "least", "most", "found", "word"]) (sc := defScope sNums) (by decide +kernel))
            (fun _ _ _ _ _ => pg_name (i := 4) scNums.nd rfl (Or.inl rfl)) (fun _ _ _ _ _ => pts_nil)
            (fun _ _ _ _ _ => pe_call GN hr (by rfl) gN FN.kp bN .nil pass0 (pa_cons (pv 4) (pa_cons (pv 1) (pa_cons (pv 2) pa_nil)))))
      (pss_one (ps_ret (pe_ifExp (pt_cmpR op_in_seq pe_non (pv 3) (by rfl)) pe_non (pe_callTy (tupK K) (by rfl) G.tuple bt_tuple (pa_cons (pv 3) pa_nil))))), ?_⟩
    have hlen := row_len h6 hs
    refine ⟨.str (rowT r), rfl, ⟨_, rfl⟩, rowT r, sp, rfl, rfl, by rw [sp_len]; rfl, by rw [sizeLine_eq]; omega, fun p np => ?_⟩
    have s1 := same_upd (o := .lst ((Txt.split (rowT r) sp).map V.str)) np
    rw [split_row hne hs] at s1 ⊢
    have hp : SqL K (upd H p (.lst ((r.map nm).map V.str))) p ((r.map nm).map V.str) := SqL.of upd_same
    refine ⟨p, rfl, ⟨_, hp⟩, fun D hD => lc_listK (xs := (r.map nm).map V.str) (r.map V.int) (fun _ => rfl) hD (by rw [List.length_map, List.length_map, sizeLine_eq]; omega) (by simp) hp (fun i x y H2 Q2 hx2 hy2 s2 q2 => ?_) (fun H2 s2 d2 => ?_)⟩
    · rw [List.getElem?_map, List.getElem?_map] at hx2
      rw [List.getElem?_map] at hy2
      cases hj : r[i]? with
      | none => rw [hj] at hx2; cases hx2
      | some n =>
        rw [hj] at hx2 hy2
        have e1 : V.str (nm n) = x := Option.some.inj hx2
        have e2 : V.int n = y := Option.some.inj hy2
        subst e1 e2
        have hn := hs n (List.mem_of_getElem? hj)
        exact ⟨.str (nm n), rfl, .int 0, rfl, .int 99, rfl, nm n, n, 0, 99, rfl, word_nm hn, hn.1, hn.2, q2⟩
    · refine ⟨.ref D, rfl, D, r.map V.int, rfl, .inl (SqL.of d2), rfl, flat_ints r, _, rfl, ifF (none_ints r) ?_⟩
      refine ⟨.ref D, rfl, D, r.map V.int, rfl, .inl ⟨SqL.of d2, fun t nt => ?_⟩⟩
      exact q _ t ((s1.trans s2).trans (same_upd nt)) upd_same
end
end NT
namespace NT
open PySem PySem.Spec PyProof.Rows L2 TL
/-! ### data -/
section
variable {K : PySem.W.Frag} {H : Hp}
theorem dp_strs : ∀ zs : List Str, DpAll K H (zs.map V.str) (zs.map PyData.str)
  | [] => .nil
  | z :: zs => .cons (.str z) (dp_strs zs)
theorem dp_ints : ∀ ns : List Int, DpAll K H (ns.map V.int) (ns.map PyData.int)
  | [] => .nil
  | n :: ns => .cons (.int n) (dp_ints ns)
def rowD (r : List Int) : PyData := .tuple (r.map PyData.int)
theorem dp_rows : ∀ {vs : List V} {T : List (List Int)}, Paired (RowAt H) vs T → DpAll K H vs (T.map rowD)
  | _, _, .nil => .nil
  | _, _, .cons ⟨a, e, h⟩ t => by
    subst e
    exact .cons (.tup (SqT.of h) (dp_ints _)) (dp_rows t)
end
theorem can_ints : ∀ ns : List Int, PyData.canLayAll0 (ns.map PyData.int) = true
  | [] => by simp [PyData.canLayAll0]
  | n :: ns => by simp [PyData.canLayAll0, PyData.canLay0, can_ints ns]
theorem deep_ints : ∀ ns : List Int, PyData.depthAll (ns.map PyData.int) = 0
  | [] => by simp [PyData.depthAll]
  | n :: ns => by simp [PyData.depthAll, PyData.depth, deep_ints ns]
theorem can_rows : ∀ T : List (List Int), PyData.canLayAll0 (T.map rowD) = true
  | [] => by simp [PyData.canLayAll0]
  | r :: T => by simp [PyData.canLayAll0, PyData.canLay0, rowD, can_ints r]; exact can_rows T
theorem deep_rows : ∀ T : List (List Int), PyData.depthAll (T.map rowD) ≤ 1
  | [] => by simp [PyData.depthAll]
  | r :: T => by
    have h := deep_rows T
    have e : PyData.depthAll ((r :: T).map rowD) = max 1 (PyData.depthAll (T.map rowD)) := by simp [PyData.depthAll, PyData.depth, rowD, deep_ints r]
    rw [e]
    omega
theorem shaped_rows (T : List (List Int)) : SeqAt.shaped (.list (T.map rowD)) = true := by
  have h := deep_rows T
  have e : PyData.depth (.list (T.map rowD)) = PyData.depthAll (T.map rowD) + 1 := by simp [PyData.depth]
  have e2 : PyData.canLay0 (.list (T.map rowD)) = true := by simp [PyData.canLay0, can_rows]
  unfold SeqAt.shaped
  rw [e, e2]
  exact decide_eq_true (by omega)
theorem shaped_nil : SeqAt.shaped (.list []) = true := by simp [SeqAt.shaped, PyData.canLay0, PyData.canLayAll0, PyData.depth, PyData.depthAll]
theorem shaped_nilT : SeqAt.shaped (.tuple []) = true := by simp [SeqAt.shaped, PyData.canLay0, PyData.canLayAll0, PyData.depth, PyData.depthAll]
theorem can_strs : ∀ zs : List Str, (∀ z ∈ zs, ∀ c ∈ tl z, c < 128) → PyData.canLayAll0 (zs.map PyData.str) = true
  | [], _ => by simp [PyData.canLayAll0]
  | z :: zs, h => by
    have h1 := can_strs zs fun y hy => h y (List.mem_cons_of_mem _ hy)
    have h2 : PyData.strOk z = true := by
      unfold PyData.strOk
      rw [Array.all_eq_true']
      intro c hc
      have := h z List.mem_cons_self c (Array.mem_toList_iff.mpr hc)
      exact decide_eq_true (by omega)
    simp [PyData.canLayAll0, PyData.canLay0, h1, h2]
theorem deep_strs : ∀ zs : List Str, PyData.depthAll (zs.map PyData.str) = 0
  | [] => by simp [PyData.depthAll]
  | z :: zs => by simp [PyData.depthAll, PyData.depth, deep_strs zs]
theorem shaped_strs {zs : List Str} (h : ∀ z ∈ zs, ∀ c ∈ tl z, c < 128) : SeqAt.shaped (.list (zs.map PyData.str)) = true := by
  have e : PyData.depth (.list (zs.map PyData.str)) = 1 := by simp [PyData.depth, deep_strs]
  have e2 : PyData.canLay0 (.list (zs.map PyData.str)) = true := by simp [PyData.canLay0, can_strs zs h]
  unfold SeqAt.shaped
  rw [e, e2]
  decide
theorem joinL_all {B : Nat → Prop} {S : List Nat} (hS : ∀ c ∈ S, B c) : ∀ {ps : List (List Nat)}, (∀ p ∈ ps, ∀ c ∈ p, B c) → ∀ c ∈ joinL S ps, B c
  | [], _ => by simp [joinL]
  | [p], h => h p List.mem_cons_self
  | p :: q :: r, h => by
    have ih := joinL_all hS (ps := q :: r) fun z hz => h z (List.mem_cons_of_mem _ hz)
    have hp := h p List.mem_cons_self
    intro c hc
    have hc' : c ∈ p ++ (S ++ joinL S (q :: r)) := hc
    rcases List.mem_append.mp hc' with hc' | hc'
    · exact hp c hc'
    · rcases List.mem_append.mp hc' with hc' | hc'
      · exact hS c hc'
      · exact ih c hc'
theorem nm_low {n : Int} (h : Sm n) : ∀ c ∈ tl (nm n), c < 128 := fun c hc => by
  have h1 := (word_nm h).fig c hc
  rw [tl_FIG] at h1
  have h2 : ∀ d ∈ ([48, 49, 50, 51, 52, 53, 54, 55, 56, 57] : List Nat), d < 128 := by decide
  exact h2 c h1
theorem Tab.low {T : List (List Int)} {c : Nat} (h : Tab T c) : ∀ z ∈ linesT T, ∀ c ∈ tl z, c < 128 := by
  intro z hz
  rcases List.mem_cons.mp hz with rfl | hz
  · rw [tl_append, tl_rowsB]
    intro c hc
    rcases List.mem_append.mp hc with hc | hc
    · have h2 : ∀ d ∈ ([114, 111, 119, 115] ++ [32] : List Nat), d < 128 := by decide
      exact h2 c hc
    · exact nm_low h.rows c hc
  · obtain ⟨r, hr, rfl⟩ := List.mem_map.mp hz
    unfold rowT
    rw [tl_joinT, tl_sp]
    refine joinL_all (by decide) fun p hp => ?_
    rw [List.map_map] at hp
    obtain ⟨n, hn, rfl⟩ := List.mem_map.mp hp
    exact nm_low (h.sm r hr n hn)
theorem eqv_cons_nil (d : PyData) (ds : List PyData) : PyData.eqv (.list (d :: ds)) (.list []) = false := by simp [PyData.eqv, PyData.eqvAll]
theorem eqv_nil_nil : PyData.eqv (.list []) (.list []) = true := by simp [PyData.eqv, PyData.eqvAll]
theorem RowAt.but {H H' : Hp} {p : Addr} {xs : List V} (s : But p H H') (hp : H p = some (.lst xs)) {v : V} {r : List Int} (h : RowAt H v r) : RowAt H' v r := by
  obtain ⟨a, e, h⟩ := h
  exact ⟨a, e, at_keep s hp h (fun z => by cases z)⟩
theorem if_two {k : Bool} {A B : Prop} (C : Prop) (hC : C) (hA : k = true → C → A) (hB : k = false → C → B) : if k = true then A else B := by
  cases k with
  | true => exact ifT rfl (hA rfl hC)
  | false => exact ifF rfl (hB rfl hC)
section
variable {K : PySem.W.Frag} {mg : Str → Option Value} {P : Program} {w : World} {base : Heap}
/-! ### table_in -/
theorem ok_tabIn {f fN fS : Addr} {fd fdN fdS : FuncData} (F : Fun K "table_in" "table_in" sTabIn f fd) (G : Glb mg) (FN : Fun K "number_of" "number_of" sNum fN fdN) (bN : Binds K fdN ["word", "least", "most"] []) (gN : mg "number_of" = some (.ref fN))
    (FS : Fun K "numbers_in" "numbers_in" sNums fS fdS) (bS : Binds K fdS ["line", "least", "most"] []) (gS : mg "numbers_in" = some (.ref fS)) (GS : FnOk P w K mg base CX0 2 fS fdS ["line", "least", "most"] spNums) :
    FnOk P w K mg base CX0 3 f fd ["lines", "rest"] spTabIn := by
  have GN : FnOk P w K mg base CX0 1 fN fdN ["word", "least", "most"] spNum := ok_num FN G
  obtain ⟨t6, g6⟩ := G.six
  obtain ⟨t9, g9⟩ := G.most
  refine F.ok scTabIn (fun vs H Q E h => ?_) (fun cdv A outer s H vs Q E hr h => ?_)
  · obtain ⟨l, T, c, rfl, _⟩ := h
    rfl
  · obtain ⟨l, T, c, rfl, hL, tb, q⟩ := h
    have hr1 : Room 1 _ := hr.mono (by decide)
    refine ⟨_, pss_cons (ps_if (pt_cmpR (op_eqD hr.units) (pv 0) (pe_lst pa_nil) (nomark _)) (pss_one ps_never) pss_nil)
      (pss_cons (ps_set (i := 2) scTabIn.nd rfl (Or.inl rfl) (pe_split (pe_ix (ixLK K) (pv 0) pe_int (fun _ _ => rfl)) pe_str))
      (pss_cons (ps_set (i := 3) scTabIn.nd rfl (Or.inl rfl) (pe_ifExp (PW.pt (pw_and (pt_cmpR op_eq (pe_callB (lenK K) (by rfl) G.len bt_len (pa_cons (pv 2) pa_nil)) pe_int (nomark _))
            (pw_and1 (pt_cmpR op_eq (pe_ix (ixLK K) (pv 2) pe_int (fun _ _ => rfl)) pe_str (nomark _)))))
          (pe_call GN hr1 (by rfl) gN FN.kp bN .nil pass0 (pa_cons (pe_ix (ixLK K) (pv 2) pe_int (fun _ _ => rfl)) (pa_cons pe_int (pa_cons (pe_glob (v := .int 6) (by rfl) g6 ⟨_, rfl⟩) pa_nil)))) pe_non))
      (pss_cons (ps_if (pt_cmp (pc_isN (pv 3))) (pss_one ps_never) pss_nil)
      (pss_cons (ps_set (i := 4) scTabIn.nd rfl (Or.inl rfl) (pe_lst pa_nil))
      (pss_cons (ps_for PassesOwn.never rfl (pi_range2 (by rfl) G.range (pa_cons pe_int (pa_cons (pe_op op_add (pv 3) pe_int) pa_nil))) (pg_name (i := 5) scTabIn.nd rfl (Or.inl rfl))
        (pss_cons (ps_set (i := 6) scTabIn.nd rfl (Or.inl rfl) (pe_ifExp (pt_cmpR op_lt (pv 5) (pe_callB (lenK K) (by rfl) G.len bt_len (pa_cons (pv 0) pa_nil)) (nomark _))
            (pe_call GS hr (by rfl) gS FS.kp bS .nil pass0 (pa_cons (pe_ix (ixLK K) (pv 0) (pv 5) (fun _ _ => rfl)) (pa_cons pe_int (pa_cons (pe_glob (v := .int 99) (by rfl) g9 ⟨_, rfl⟩) pa_nil)))) pe_non))
        (pss_cons (ps_if (PW.pt (pw_or (pt_cmp (pc_isN (pv 6))) (pw_or (pt_cmpR op_gt (pe_callB (lenK K) (by rfl) G.len bt_len (pa_cons (pv 6) pa_nil)) (pe_glob (v := .int 6) (by rfl) g6 ⟨_, rfl⟩) (nomark _))
            (pw_or1 (PW.pt (pw_and (pt_cmpR (op_neD hr.units) (pv 4) (pe_lst pa_nil) (nomark _))
              (pw_and1 (pt_cmpR op_ne (pe_callB (lenK K) (by rfl) G.len bt_len (pa_cons (pv 6) pa_nil)) (pe_callB (lenK K) (by rfl) G.len bt_len (pa_cons (pe_ix (ixLK K) (pv 4) pe_int (fun _ _ => rfl)) pa_nil)) (nomark _))))))))) (pss_one ps_never) pss_nil)
        (pss_one (ps_expr (pe_bm PySem.F.plainAttrs_list PySem.F.slot_list_append PySem.F.type_list_append mt_append (pv 4) (pa_cons (pv 6) pa_nil)))))))
      (pss_one (ps_ret (pe_tup (pa_cons (pe_callTy (tupK K) (by rfl) G.tuple bt_tuple (pa_cons (pv 4) pa_nil)) (pa_cons (pe_op op_add (pv 3) pe_int) pa_nil)))))))))), ?_⟩
    have r1 := tb.r1
    have r6 := tb.r6
    have c6 := tb.c6
    have hN : Sm (T.length : Int) := tb.rows
    have hLl := lines_len T
    have hl0 : ((linesT T).map V.str)[0]? = some (.str (rowsB ++ nm (T.length : Int))) := rfl
    -- lines == []
    refine ⟨.ref l, rfl, Nat.zero_le _, fun e0 ne0 => ?_⟩
    have s0 := same_upd (o := .lst []) ne0
    refine ⟨.list ((linesT T).map PyData.str), .list [], .lst (SqL.of (s0 _ _ hL)) (dp_strs _), .lst (SqL.of upd_same) .nil, shaped_strs tb.low, shaped_nil, _, rfl, ifF (eqv_cons_nil _ _) ?_⟩
    -- words
    refine ⟨.ref l, rfl, l, (linesT T).map V.str, 0, _, rfl, rfl, SqL.of (s0 _ _ hL), atI_nat (j := 0) hl0, ⟨_, rfl⟩, rowsB ++ nm (T.length : Int), sp, rfl, rfl, by rw [sp_len]; rfl, ?_, fun w1 nw => ?_⟩
    · have := nm_len hN
      rw [append_len, rowsB_len, sizeLine_eq]
      omega
    have s1 := same_upd (o := .lst ((Txt.split (rowsB ++ nm (T.length : Int)) sp).map V.str)) nw
    rw [split_first hN] at s1 ⊢
    have hw : (upd (upd H e0 (.lst [])) w1 (.lst ([rowsW, nm (T.length : Int)].map V.str))) w1 = some (.lst [V.str rowsW, V.str (nm (T.length : Int))]) := upd_same
    have s01 := s0.trans s1
    revert hw s01
    generalize upd (upd H e0 (.lst [])) w1 (.lst ([rowsW, nm (T.length : Int)].map V.str)) = H1
    intro hw s01
    -- many
    refine ⟨.ref w1, rfl, w1, [V.str rowsW, V.str (nm (T.length : Int))], rfl, .inl (SqL.of hw), rfl, _, rfl, ifT (decide_eq_true rfl) ?_⟩
    refine ⟨.ref w1, rfl, w1, [V.str rowsW, V.str (nm (T.length : Int))], 0, .str rowsW, rfl, rfl, SqL.of hw, atI_nat (j := 0) rfl, rfl, _, rfl, ifT (decide_eq_true rfl) ?_⟩
    refine ⟨.ref w1, rfl, w1, [V.str rowsW, V.str (nm (T.length : Int))], 1, .str (nm (T.length : Int)), rfl, rfl, SqL.of hw, atI_nat (j := 1) rfl, nm (T.length : Int), (T.length : Int), 1, 6, rfl, word_nm hN, by omega, by omega, fun H2 s2 => ?_⟩
    have s02 := s01.trans s2
    refine ⟨.int (T.length : Int), rfl, _, rfl, ifF (decide_eq_false (fun z => by cases z)) ?_⟩
    -- rows = []
    refine ⟨Nat.zero_le _, fun p np => ?_⟩
    -- the loop
    refine ⟨.int (T.length : Int), rfl, (T.length : Int), 1, rfl, rfl, 1, (T.length : Int) + 1, rfl, ⟨by omega, by omega, by omega, by omega⟩, ?_⟩
    have en : ((T.length : Int) + 1 - 1).toNat = T.length := by omega
    rw [en]
    refine for_range (lo := 1) (n := T.length) (fun i σ H4 => ∃ y5 y6 acc, σ = [some (.ref l), some (.str em), some (.ref w1), some (.int (T.length : Int)), some (.ref p), y5, y6] ∧ Same H2 H4 ∧ H4 p = some (.lst acc) ∧ Paired (RowAt H4) acc (T.take i))
      ⟨none, none, [], rfl, same_fill np (.refl _), upd_same, .nil⟩ ?_ ?_
    · rintro i σ H4 hi ⟨y5, y6, acc, rfl, s4, d4, pr⟩
      have hL4 : H4 l = some (.lst ((linesT T).map V.str)) := s4 _ _ (s02 _ _ hL)
      have gT : T[i]? = some T[i] := List.getElem?_eq_getElem hi
      have hm := List.mem_of_getElem? gT
      have hc := tb.row _ hm
      have c1 := tb.c1
      have gL : ((linesT T).map V.str)[i + 1]? = some (.str (rowT T[i])) := by
        show ((T.map rowT).map V.str)[i]? = _
        rw [List.getElem?_map, List.getElem?_map, gT]
        rfl
      have hla : acc.length = i := by
        have e1 := pr.length
        rw [List.length_take] at e1
        omega
      -- row = numbers_in(..)
      refine ⟨.int (1 + (i : Int)), rfl, .ref l, rfl, l, (linesT T).map V.str, rfl, .inl (SqL.of hL4), 1 + (i : Int), (((linesT T).map V.str).length : Int), rfl, rfl, _, rfl, ifT (decide_eq_true (by rw [List.length_map, hLl]; omega)) ?_⟩
      refine ⟨.ref l, rfl, .int (1 + (i : Int)), rfl, l, _, 1 + (i : Int), .str (rowT T[i]), rfl, rfl, SqL.of hL4, at_of (j := i + 1) (by omega) gL, T[i], rfl, ?_, by omega, tb.sm _ hm, fun H5 b s5 hb => ?_⟩
      · intro z
        rw [z] at hc
        simp at hc
        omega
      -- the test
      refine ⟨.ref b, rfl, _, rfl, ifF (decide_eq_false (fun z => by cases z)) ?_⟩
      refine ⟨.ref b, rfl, b, T[i].map V.int, rfl, .inr (SqT.of hb), ((T[i].map V.int).length : Int), 6, rfl, rfl, _, rfl, ifF (decide_eq_false (by rw [List.length_map]; omega)) ?_⟩
      refine ⟨.ref p, rfl, Nat.zero_le _, fun e ne => ?_⟩
      have s6 : Same H5 (upd H5 e (.lst [])) := same_upd ne
      have s46 := s5.trans s6
      have he : (upd H5 e (.lst [])) e = some (.lst []) := upd_same
      revert s6 s46 he
      generalize upd H5 e (.lst []) = H6
      intro s6 s46 he
      have d6 := s46 _ _ d4
      have pr6 : Paired (RowAt H6) acc (T.take i) := pmap pr fun _ _ h => h.same s46
      have hb6 := s6 _ _ hb
      refine ⟨.list ((T.take i).map rowD), .list [], .lst (SqL.of d6) (dp_rows pr6), .lst (SqL.of he) .nil, shaped_rows _, shaped_nil, _, rfl, if_two _ ?tail (fun hk hC => ?_) (fun hk hC => ifF rfl hC)⟩
      case tail =>
        refine ⟨.ref p, rfl, .inl ⟨rfl, _, .inl (.inl d6)⟩, .ref b, rfl, p, acc, .ref b, rfl, rfl, d6, by rw [sizeLine_eq]; omega, ?_⟩
        refine ⟨some (.int (1 + (i : Int))), some (.ref b), acc ++ [.ref b], rfl, same_fill np (s4.trans s46), upd_same, ?_⟩
        rw [List.take_add_one, gT]
        exact psnoc (pmap pr6 fun _ _ h => h.but .upd d6) (RowAt.but (.upd) d6 ⟨b, rfl, hb6⟩)
      cases hti : T.take i with
      | nil =>
        rw [hti] at hk
        rw [show ([] : List (List Int)).map rowD = [] from rfl, eqv_nil_nil] at hk
        cases hk
      | cons r0 rest =>
        rw [hti] at pr6
        have h0 : r0 ∈ T := List.mem_of_mem_take (i := i) (by rw [hti]; exact List.mem_cons_self)
        have hc0 := tb.row _ h0
        obtain ⟨v0, acc', rfl⟩ : ∃ v0 acc', acc = v0 :: acc' := by
          cases pr6 with
          | cons h t => exact ⟨_, _, rfl⟩
        obtain ⟨b0, rfl, hb0⟩ : RowAt H6 v0 r0 := by
          cases pr6 with
          | cons h t => exact h
        refine ⟨.ref b, rfl, b, T[i].map V.int, rfl, .inr (SqT.of hb6), .ref p, rfl, p, _, 0, .ref b0, rfl, rfl, SqL.of d6, atI_nat (j := 0) rfl, b0, r0.map V.int, rfl, .inr (SqT.of hb0), rfl, _, rfl, ifF ?_ hC⟩
        rw [decide_eq_true (by rw [List.length_map, List.length_map, hc, hc0])]
        rfl
    · rintro σ H4 ⟨y5, y6, acc, rfl, s4, d4, pr⟩
      rw [List.take_length] at pr
      refine ⟨.ref p, rfl, p, acc, rfl, .inl ⟨SqL.of d4, fun t nt => ?_⟩⟩
      have s5 : Same H4 (upd H4 t (.tup acc)) := same_upd nt
      refine ⟨.int (T.length : Int), rfl, (T.length : Int), 1, rfl, rfl, ?_, fun u nu => ?_⟩
      · show 2 ≤ sizeLine
        rw [sizeLine_eq]
        decide
      have s6 := same_upd (o := .tup [.ref t, .int ((T.length : Int) + 1)]) nu
      exact q _ u t ((s02.trans s4).trans (s5.trans s6)) upd_same ⟨acc, s6 _ _ upd_same, pmap pr fun _ _ h => h.same (s5.trans s6)⟩
/-! ### read_table -/
theorem ok_read {f fL fT : Addr} {fd fdL fdT : FuncData} (F : Fun K "read_table" "read_table" sRead f fd) (G : Glb mg) (FL : Fun K "lines_of" "lines_of" sLines fL fdL) (bL : Binds K fdL ["text"] []) (gL : mg "lines_of" = some (.ref fL))
    (FT : Fun K "table_in" "table_in" sTabIn fT fdT) (bT : Binds K fdT ["lines", "rest"] []) (gT : mg "table_in" = some (.ref fT)) (GT : FnOk P w K mg base CX0 3 fT fdT ["lines", "rest"] spTabIn) :
    FnOk P w K mg base CX0 4 f fd ["text"] spRead := by
  have GL : FnOk P w K mg base CX0 1 fL fdL ["text"] spLines := ok_lines FL G
  refine F.ok scRead (fun vs H Q E h => ?_) (fun cdv A outer s H vs Q E hr h => ?_)
  · obtain ⟨T, c, rfl, _⟩ := h
    rfl
  · obtain ⟨T, c, rfl, tb, q⟩ := h
    have hr1 : Room 1 _ := hr.mono (by decide)
    refine ⟨_, pss_cons (ps_asg (pe_call GL hr1 (by rfl) gL FL.kp bL .nil pass0 (pa_cons (pv 0) pa_nil)) (pg_tup (by rfl) (pgs_cons (pg_name (i := 1) scRead.nd rfl (.inl rfl)) (pgs_cons (pg_name (i := 2) scRead.nd rfl (.inl rfl)) pgs_nil))))
      (pss_cons (ps_asg (pe_call GT hr (by rfl) gT FT.kp bT .nil pass0 (pa_cons (pv 1) (pa_cons (pv 2) pa_nil))) (pg_tup (by rfl) (pgs_cons (pg_name (i := 3) scRead.nd rfl (.inl rfl)) (pgs_cons (pg_name (i := 4) scRead.nd rfl (.inl rfl)) pgs_nil))))
      (pss_cons (ps_if (PW.pt (pw_or (pt_cmpR op_gt (pe_callB (lenK K) (by rfl) G.len bt_len (pa_cons (pv 1) pa_nil)) (pv 4) (nomark _)) (pw_or1 (pt_cmpR op_ne (pv 2) pe_str (nomark _))))) (pss_one ps_never) pss_nil)
      (pss_one (ps_ret (pv 3))))), ?_⟩
    refine ⟨.str (textT T), rfl, T, c, rfl, tb, fun H1 p l s1 hp hl => ?_⟩
    refine ⟨p, _, rfl, SqT.of hp, rfl, .ref l, _, rfl, .str em, _, rfl, rfl, ?_⟩
    refine ⟨.ref l, rfl, .str em, rfl, l, T, c, rfl, hl, tb, fun H2 p2 t s2 hp2 ht => ?_⟩
    refine ⟨p2, _, rfl, SqT.of hp2, rfl, .ref t, _, rfl, .int ((T.length : Int) + 1), _, rfl, rfl, ?_⟩
    refine ⟨.ref l, rfl, l, (linesT T).map V.str, rfl, .inl (SqL.of (s2 _ _ hl)), .int ((T.length : Int) + 1), rfl, (((linesT T).map V.str).length : Int), (T.length : Int) + 1, rfl, rfl, _, rfl, ifF (decide_eq_false (by rw [List.length_map, lines_len]; omega)) ?_⟩
    refine ⟨.str em, rfl, rfl, _, rfl, ifF ?_ ?_⟩
    · have ee : V.str em = V.str (Str.ofString "") := rfl
      rw [decide_eq_true ee]
      rfl
    · exact ⟨.ref t, rfl, q _ t (s1.trans s2) ht⟩
end
end NT
namespace NT
open PySem PySem.Spec PyProof.Rows L2 TL
theorem TabAt.but {H H' : Hp} {x : Addr} {u : HO} (s : But x H H') (hx : H x = some u) (hu : ∀ vs, u ≠ .tup vs) {a : Addr} {T : List (List Int)} (h : TabAt H a T) : TabAt H' a T := by
  obtain ⟨vs, e, p⟩ := h
  exact ⟨vs, at_keep s hx e (fun z => hu _ z.symm), pmap p fun _ _ ⟨b, e1, e2⟩ => ⟨b, e1, at_keep s hx e2 (fun z => hu _ z.symm)⟩⟩
theorem WholeAt.but {H H' : Hp} {x : Addr} {u : HO} (s : But x H H') (hx : H x = some u) (hu : ∀ vs, u ≠ .tup vs) {p : Addr} {n c : Nat} (h : WholeAt H p n c) : WholeAt H' p n c := by
  obtain ⟨y, z, h1, h2, h3⟩ := h
  exact ⟨y, z, at_keep s hx h1 (fun z => hu _ z.symm), at_keep s hx h2 (fun z => hu _ z.symm), at_keep s hx h3 (fun z => hu _ z.symm)⟩
theorem DeskAt.same {C : Addr} {H H' : Hp} {x : Addr} {T : List (List Int)} {c : Nat} (s : Same H H') (h : DeskAt C H x T c) : DeskAt C H' x T c := by
  obtain ⟨dx, a, p, l, h1, h2, h3, h4⟩ := h
  exact ⟨dx, a, p, l, s _ _ h1, h2.same s, h3.same s, s _ _ h4⟩
/-- the desk's class -/
structure DeskT (K : PySem.W.Frag) (mg : Str → Option Value) (C : Addr) : Prop where
  cl : Cls K C
  nT : NoAttr K C "table"
  nL : NoAttr K C "left"
  nD : NoAttr K C "told"
  gC : mg "Desk" = some (.ref C)
def flds (a p l : Addr) : List (Str × V) := [("table", .ref a), ("left", .ref p), ("told", .ref l)]
def fl1 (a : Addr) : List (Str × V) := [("table", .ref a)]
def fl2 (a p : Addr) : List (Str × V) := [("table", .ref a), ("left", .ref p)]
theorem put1 (a : Addr) : putF "table" (.ref a) [] = fl1 a := rfl
theorem k1 : ¬ ("table" : Str) = "left" := by decide +kernel
theorem k2 : ¬ ("table" : Str) = "told" := by decide +kernel
theorem k3 : ¬ ("left" : Str) = "told" := by decide +kernel
theorem put2 (a p : Addr) : putF "left" (.ref p) (fl1 a) = fl2 a p := by
  show (if ("table" : Str) = "left" then _ else (("table" : Str), V.ref a) :: [(("left" : Str), V.ref p)]) = _
  rw [if_neg k1]
  rfl
theorem put3 (a p l : Addr) : putF "told" (.ref l) (fl2 a p) = flds a p l := by
  show (if ("table" : Str) = "told" then _ else (("table" : Str), V.ref a) :: (if ("left" : Str) = "told" then _ else (("left" : Str), V.ref p) :: [(("told" : Str), V.ref l)])) = _
  rw [if_neg k2, if_neg k3]
  rfl
theorem look_kv {f : Str} {v : V} {r : List (Str × V)} : ((f, v) :: r).lookup f = some v := by simp [List.lookup]
theorem look_ne {f g : Str} {v : V} {r : List (Str × V)} (h : ¬ f = g) : ((g, v) :: r).lookup f = r.lookup f := by
  have hb : (f == g) = false := beq_eq_false_iff_ne.mpr h
  simp only [List.lookup, hb]
theorem fld_table (a p l : Addr) : (flds a p l).lookup ("table" : Str) = some (.ref a) := look_kv
theorem fld_left (a p l : Addr) : (flds a p l).lookup ("left" : Str) = some (.ref p) := by
  unfold flds
  rw [look_ne (fun z => k1 z.symm)]
  exact look_kv
theorem fld_told (a p l : Addr) : (flds a p l).lookup ("told" : Str) = some (.ref l) := by
  unfold flds
  rw [look_ne (fun z => k2 z.symm), look_ne (fun z => k3 z.symm)]
  exact look_kv
theorem fld_no (a p l : Addr) {m : Str} (h1 : ¬ m = "table") (h2 : ¬ m = "left") (h3 : ¬ m = "told") : (flds a p l).lookup m = none := by
  unfold flds
  rw [look_ne h1, look_ne h2, look_ne h3]
  rfl
section
variable {K : PySem.W.Frag} {mg : Str → Option Value} {P : Program} {w : World} {base : Heap} {C : Addr}
/-! ### Desk.__init__ -/
theorem ok_init {f fN fW : Addr} {fd fdN fdW : FuncData} (F : Fun K "__init__" "Desk.__init__" sInit f fd) (G : Glb mg) (D : DeskT K mg C) (FN : Fun K "need_table" "need_table" sNeed fN fdN) (bN : Binds K fdN ["value"] []) (gN : mg "need_table" = some (.ref fN)) (GN : FnOk P w K mg base CX0 3 fN fdN ["value"] spNeed)
    (FW : Fun K "whole" "whole" sWhole fW fdW) (bW : Binds K fdW ["table"] []) (gW : mg "whole" = some (.ref fW)) : FnOk P w K mg base CX0 4 f fd ["self", "table"] (spInit C) := by
  have GW : FnOk P w K mg base CX0 1 fW fdW ["table"] spWhole := ok_whole FW G
  refine F.ok scInit (fun vs H Q E h => ?_) (fun cdv A outer s H vs Q E hr h => ?_)
  · obtain ⟨x, dx, a, T, c, rfl, _⟩ := h
    rfl
  · obtain ⟨x, dx, a, T, c, rfl, hx, hT, tb, q⟩ := h
    have hr1 : Room 1 _ := hr.mono (by decide)
    refine ⟨_, pss_cons (ps_expr (pe_call GN hr (by rfl) gN FN.kp bN .nil pass0 (pa_cons (pv 1) pa_nil)))
      (pss_cons (ps_fld (pv 0) (pv 1) rfl)
      (pss_cons (ps_fld (pv 0) (pe_call GW hr1 (by rfl) gW FW.kp bW .nil pass0 (pa_cons (pv 1) pa_nil)) rfl)
      (pss_one (ps_fld (pv 0) (pe_lst pa_nil) rfl)))), ?_⟩
    refine ⟨.ref a, rfl, a, T, c, rfl, hT, tb, fun H1 s1 => ?_⟩
    have hx1 := s1 _ _ hx
    have b1 : But x H H1 := .of s1
    -- self.table = table
    refine ⟨.ref a, rfl, .ref x, rfl, x, C, dx, [], rfl, hx1, D.cl, D.nT, by show 0 < 1000; decide, ?_⟩
    rw [put1]
    have b2 : But x H (upd H1 x (.ins C dx (fl1 a))) := b1.trans .upd
    have hx2 : (upd H1 x (.ins C dx (fl1 a))) x = some (.ins C dx (fl1 a)) := upd_same
    revert b2 hx2
    generalize upd H1 x (.ins C dx (fl1 a)) = H2
    intro b2 hx2
    have hT2 : TabAt H2 a T := hT.but b2 hx (fun _ z => by cases z)
    -- self.left = whole(table)
    refine ⟨.ref a, rfl, a, T, c, rfl, hT2, tb, fun H3 p s3 hp => ?_⟩
    have hx3 := s3 _ _ hx2
    refine ⟨.ref x, rfl, x, C, dx, _, rfl, hx3, D.cl, D.nL, by unfold fl1; show 1 < 1000; decide, ?_⟩
    rw [put2]
    have b34 : But x H3 (upd H3 x (.ins C dx (fl2 a p))) := .upd
    have hx4 : (upd H3 x (.ins C dx (fl2 a p))) x = some (.ins C dx (fl2 a p)) := upd_same
    revert b34 hx4
    generalize upd H3 x (.ins C dx (fl2 a p)) = H4
    intro b34 hx4
    have hp4 := hp.but b34 hx3 (fun _ z => by cases z)
    have hT4 : TabAt H4 a T := (hT2.same s3).but b34 hx3 (fun _ z => by cases z)
    have b4 : But x H H4 := (b2.trans (.of s3)).trans b34
    -- self.told = []
    refine ⟨Nat.zero_le _, fun l nl' => ?_⟩
    have s5 : Same H4 (upd H4 l (.lst [])) := same_upd nl'
    have hl5 : (upd H4 l (.lst [])) l = some (.lst []) := upd_same
    revert s5 hl5
    generalize upd H4 l (.lst []) = H5
    intro s5 hl5
    have hx5 := s5 _ _ hx4
    refine ⟨.ref x, rfl, x, C, dx, _, rfl, hx5, D.cl, D.nD, by unfold fl2; show 2 < 1000; decide, ?_⟩
    rw [put3]
    have b56 : But x H5 (upd H5 x (.ins C dx (flds a p l))) := .upd
    refine q _ ((b4.trans (.of s5)).trans b56) ⟨dx, a, p, l, upd_same, (hT4.same s5).but b56 hx5 (fun _ z => by cases z), (hp4.same s5).but b56 hx5 (fun _ z => by cases z), ?_⟩
    exact at_keep b56 hx5 hl5 (fun z => by cases z)
/-! ### part, said, text -/
theorem ok_part {f : Addr} {fd : FuncData} {k : Nat} (F : Fun K "part" "Desk.part" sPart f fd) (D : DeskT K mg C) : FnOk P w K mg base CX0 (k + 1) f fd ["self"] (spPart C) := by
  refine F.ok scPart (fun vs H Q E h => ?_) (fun cdv A outer s H vs Q E hr h => ?_)
  · obtain ⟨x, T, c, rfl, _⟩ := h
    rfl
  · obtain ⟨x, T, c, rfl, ⟨dx, a, p, l, hx, hT, hp, hl⟩, q⟩ := h
    refine ⟨_, pss_one (ps_ret (pe_fld (pv 0) rfl)), ?_⟩
    exact ⟨.ref x, rfl, x, C, dx, flds a p l, .ref p, rfl, hx, D.cl, D.nL, fld_left a p l, q p hp⟩
theorem ok_said {f : Addr} {fd : FuncData} {k : Nat} (F : Fun K "said" "Desk.said" sSaid f fd) (G : Glb mg) (D : DeskT K mg C) : FnOk P w K mg base CX0 (k + 1) f fd ["self"] (spSaid C) := by
  refine F.ok scSaid (fun vs H Q E h => ?_) (fun cdv A outer s H vs Q E hr h => ?_)
  · obtain ⟨x, T, c, rfl, _⟩ := h
    rfl
  · obtain ⟨x, T, c, rfl, ⟨dx, a, p, l, hx, hT, hp, hl⟩, q⟩ := h
    refine ⟨_, pss_one (ps_ret (pe_callTy (tupK K) (by rfl) G.tuple bt_tuple (pa_cons
      (pe_lc (own := [("who", 1), ("lot", 2), ("left", 3), ("cost", 4)]) (g := gNev) (tt := tYes) rfl scSaid.nd (pi_list (pe_fld (pv 0) rfl)) (blkOk_by (own := [("who", 1), ("lot", 2), ("left", 3), ("cost", 4)]) (N := ["self", "who", "lot", "left", "cost"]) (sc := defScope sSaid) (by decide +kernel))
        (fun _ _ _ _ _ => pg_nev)
        (fun _ _ _ _ _ => pts_nil)
        (fun _ _ _ _ _ => pe_nev) ) pa_nil))), ?_⟩
    refine ⟨.ref x, rfl, x, C, dx, flds a p l, .ref l, rfl, hx, D.cl, D.nD, fld_told a p l, l, rfl, ⟨_, SqL.of hl⟩, fun L nL => ?_⟩
    refine lc_list (K := K) (xs := []) (fun i H1 => Same H H1 ∧ H1 L = some (.lst [])) ⟨same_fill nL (.refl _), upd_same⟩ (fun i H1 _ h1 => SqL.of (h1.1 _ _ hl)) (fun i y H1 hy _ => by simp at hy) (fun H1 h1 => ?_)
    refine ⟨L, [], rfl, .inl ⟨SqL.of h1.2, fun t nt => q _ t (h1.1.trans (same_upd nt)) upd_same⟩⟩
theorem ok_dtext {f fS fT : Addr} {fd fdS fdT : FuncData} (F : Fun K "text" "Desk.text" sDText f fd) (G : Glb mg) (D : DeskT K mg C) (FS : Fun K "said" "Desk.said" sSaid fS fdS) (bS : Binds K fdS ["self"] []) (mS : Meth K C "said" fS)
    (FT : Fun K "table_text" "table_text" sText fT fdT) (bT : Binds K fdT ["table"] []) (gT : mg "table_text" = some (.ref fT)) : FnOk P w K mg base CX0 2 f fd ["self"] (spDText C) := by
  have GS : FnOk P w K mg base CX0 1 fS fdS ["self"] (spSaid C) := ok_said FS G D
  have GT : FnOk P w K mg base CX0 1 fT fdT ["table"] spText := ok_text FT G
  refine F.ok scDText (fun vs H Q E h => ?_) (fun cdv A outer s H vs Q E hr h => ?_)
  · obtain ⟨x, T, c, rfl, _⟩ := h
    rfl
  · obtain ⟨x, T, c, rfl, hd, tb, q⟩ := h
    refine ⟨_, pss_cons (ps_setLc (i := 1) (own := [("who", 2), ("lot", 3)]) (g := gNev) (tt := tYes) rfl scDText.nd rfl rfl (sw_true rfl rfl rfl (by decide +kernel)) (pi_tup (pe_meth0 (pv 0) D.cl mS GS hr bS .nil pass0)) (blkOk_by (own := [("who", 2), ("lot", 3)]) (N := ["self", "rows", "who", "lot", "thing"]) (sc := defScope sDText) (by decide +kernel))
        (fun _ _ _ _ _ => pg_nev)
        (fun _ _ _ _ _ => pts_nil)
        (fun _ _ _ _ _ => pe_nev))
      (pss_one (ps_ret (pe_op op_add_str (pe_call GT hr (by rfl) gT FT.kp bT .nil pass0 (pa_cons (pe_fld (pv 0) rfl) pa_nil)) (pe_joinK K pe_str (pv 1))))), ?_⟩
    have hd' := hd
    obtain ⟨dx, a, p, l, hx, hT, hp, hl⟩ := hd'
    -- rows = [.. for who, lot in self.said()]
    refine ⟨.ref x, rfl, x, dx, flds a p l, rfl, hx, fld_no a p l (by decide +kernel) (by decide +kernel) (by decide +kernel), x, T, c, rfl, hd, fun H1 t s1 ht => ?_⟩
    refine ⟨t, rfl, ⟨_, SqT.of ht⟩, fun L nL => ?_⟩
    refine lc_tup (K := K) (xs := []) (fun i H2 => Same H1 H2 ∧ H2 L = some (.lst [])) ⟨same_fill nL (.refl _), upd_same⟩ (fun i H2 _ h2 => SqT.of (h2.1 _ _ ht)) (fun i y H2 hy _ => by simp at hy) (fun H2 h2 => ?_)
    -- return table_text(self.table) + ''.join(rows)
    have s12 := s1.trans h2.1
    refine ⟨.ref x, rfl, x, C, dx, flds a p l, .ref a, rfl, s12 _ _ hx, D.cl, D.nT, fld_table a p l, a, T, c, rfl, hT.same s12, tb, fun H3 s3 => ?_⟩
    refine ⟨⟨_, rfl⟩, .ref L, rfl, em, L, [], rfl, rfl, .inl (SqL.of (s3 _ _ h2.2)), by decide, textT T, Txt.join em [], rfl, rfl, ?_, ?_⟩
    · have h1 := tb.len
      have h3 : (Txt.join em []).length = 0 := by rw [len_tl, tl_joinT]; rfl
      rw [h3, sizeLine_eq]
      omega
    · have e : textT T ++ Txt.join em [] = textT T := ext_tl (by rw [tl_append, tl_joinT]; show tl (textT T) ++ [] = _; rw [List.append_nil])
      show Q (V.str (textT T ++ Txt.join em [])) H3
      rw [e]
      exact q _ (s12.trans s3)
end
end NT
namespace NT
open PySem PySem.Spec PyProof.Rows L2 TL
/-- a new desk: what stood ahead stands -/
theorem same_made {H H' : Hp} {x dx C : Addr} (nx : H x = none) (nd : H dx = none) (b : But x (upd (upd H dx (.own x)) x (.ins C dx [])) H') : Same H H' := fun c o e => by
  refine b c o (ne_of_none e nx) ?_
  rw [upd_ne (ne_of_none e nx), upd_ne (ne_of_none e nd)]
  exact e
theorem same_base {H : Hp} {x dx C : Addr} (nx : H x = none) (nd : H dx = none) : Same H (upd (upd H dx (.own x)) x (.ins C dx [])) := same_made nx nd (.refl _ _)
section
variable {K : PySem.W.Frag} {mg : Str → Option Value} {P : Program} {w : World} {base : Heap} {C : Addr}
theorem ok_deskOf {f fL fT fI : Addr} {fd fdL fdT fdI : FuncData} (F : Fun K "desk_of" "desk_of" sDeskOf f fd) (G : Glb mg) (D : DeskT K mg C) (FL : Fun K "lines_of" "lines_of" sLines fL fdL) (bL : Binds K fdL ["text"] []) (gL : mg "lines_of" = some (.ref fL))
    (FT : Fun K "table_in" "table_in" sTabIn fT fdT) (bT : Binds K fdT ["lines", "rest"] []) (gT : mg "table_in" = some (.ref fT)) (GT : FnOk P w K mg base CX0 3 fT fdT ["lines", "rest"] spTabIn)
    (M : Mk K C fI) (bI : Binds K fdI ["self", "table"] []) (GI : FnOk P w K mg base CX0 4 fI fdI ["self", "table"] (spInit C)) :
    FnOk P w K mg base CX0 6 f fd ["text"] (spDeskOf C) := by
  have GL : FnOk P w K mg base CX0 1 fL fdL ["text"] spLines := ok_lines FL G
  refine F.ok scDeskOf (fun vs H Q E h => ?_) (fun cdv A outer s H vs Q E hr h => ?_)
  · obtain ⟨T, c, rfl, _⟩ := h
    rfl
  · obtain ⟨T, c, rfl, tb, q⟩ := h
    have hr1 : Room 1 _ := hr.mono (by decide)
    have hr3 : Room 3 _ := hr.mono (by decide)
    refine ⟨_, pss_cons (ps_asg (pe_call GL hr1 (by rfl) gL FL.kp bL .nil pass0 (pa_cons (pv 0) pa_nil)) (pg_tup (by rfl) (pgs_cons (pg_name (i := 1) scDeskOf.nd rfl (.inl rfl)) (pgs_cons (pg_name (i := 2) scDeskOf.nd rfl (.inl rfl)) pgs_nil))))
      (pss_cons (ps_asg (pe_call GT hr3 (by rfl) gT FT.kp bT .nil pass0 (pa_cons (pv 1) (pa_cons (pv 2) pa_nil))) (pg_tup (by rfl) (pgs_cons (pg_name (i := 3) scDeskOf.nd rfl (.inl rfl)) (pgs_cons (pg_name (i := 4) scDeskOf.nd rfl (.inl rfl)) pgs_nil))))
      (pss_cons (ps_set (i := 5) scDeskOf.nd rfl (Or.inl rfl) (pe_make M GI hr (by rfl) D.gC bI .nil pass0 (pa_cons (pv 3) pa_nil)))
      (pss_cons (ps_for PassesOwn.never rfl (pi_range2 (by rfl) G.range (pa_cons (pv 4) (pa_cons (pe_callB (lenK K) (by rfl) G.len bt_len (pa_cons (pv 1) pa_nil)) pa_nil))) pg_nev pss_never)
      (pss_cons (ps_if (pt_cmpR op_ne (pv 2) pe_str (nomark _)) (pss_one ps_never) pss_nil)
      (pss_one (ps_ret (pv 5))))))), ?_⟩
    refine ⟨.str (textT T), rfl, T, c, rfl, tb, fun H1 p l s1 hp hl => ?_⟩
    refine ⟨p, _, rfl, SqT.of hp, rfl, .ref l, _, rfl, .str em, _, rfl, rfl, ?_⟩
    refine ⟨.ref l, rfl, .str em, rfl, l, T, c, rfl, hl, tb, fun H2 p2 t s2 hp2 ht => ?_⟩
    refine ⟨p2, _, rfl, SqT.of hp2, rfl, .ref t, _, rfl, .int ((T.length : Int) + 1), _, rfl, rfl, ?_⟩
    -- desk = Desk(table)
    refine ⟨.ref t, rfl, fun x dx nx ndx nex => ?_⟩
    refine ⟨x, dx, t, T, c, rfl, upd_same, ht.same (same_base nx ndx), tb, fun H3 b3 hd => ⟨rfl, ?_⟩⟩
    have s3 := same_made nx ndx b3
    have hl3 := s3 _ _ (s2 _ _ hl)
    have r6 := tb.r6
    -- no lines are left
    refine ⟨.int ((T.length : Int) + 1), rfl, .ref l, rfl, l, (linesT T).map V.str, rfl, .inl (SqL.of hl3), (T.length : Int) + 1, (((linesT T).map V.str).length : Int), rfl, ?_, ?_⟩
    · rw [List.length_map, lines_len]
      exact ⟨by omega, by omega, by omega, by omega⟩
    have en : ((((linesT T).map V.str).length : Int) - ((T.length : Int) + 1)).toNat = 0 := by
      rw [List.length_map, lines_len]
      omega
    rw [en]
    refine for_range (lo := (T.length : Int) + 1) (n := 0) (fun i σ H4 => σ = [some (.str (textT T)), some (.ref l), some (.str em), some (.ref t), some (.int ((T.length : Int) + 1)), some (.ref x), none, none, none, none] ∧ H4 = H3) ⟨rfl, rfl⟩ (fun i σ H4 hi => by omega) ?_
    rintro σ H4 ⟨rfl, rfl⟩
    refine ⟨.str em, rfl, rfl, _, rfl, ifF ?_ ?_⟩
    · have ee : V.str em = V.str (Str.ofString "") := rfl
      rw [decide_eq_true ee]
      rfl
    · exact ⟨.ref x, rfl, q _ x ((s1.trans s2).trans s3) hd⟩
end
end NT
namespace NT
open PySem PySem.Spec PyProof.Rows L2 TL
theorem DrawAt.next {K : PySem.W.Frag} {H H' : Hp} {p l : Addr} (h : DrawAt K H p l) (b : But p H H') (r : RowP H' p l) : DrawAt K H' p l := by
  obtain ⟨_, ns, hs⟩ := h
  exact ⟨r, ns, fun H2 b2 => hs H2 (b.trans b2)⟩
/-- the row made at p -/
theorem draw_new {K : PySem.W.Frag} {H : Hp} {p l : Addr} {ns : List Int} {i s d : Int} (np : H p = none) (h : SqL K H l (ns.map V.int)) (hi : 0 ≤ i) (h0 : 0 ≤ s) (h1 : s < 2147483647) : DrawAt K (upd H p (.lst [.ref l, .int i, .int s, .int d])) p l := by
  refine ⟨⟨i, s, d, upd_same, hi, h0, h1⟩, ns, fun H' b => ?_⟩
  have k : ∀ o, H l = some o → H' l = some o := fun o e => by
    have n : l ≠ p := ne_of_none e np
    refine b _ _ n ?_
    rw [upd_ne n]
    exact e
  exact h.imp (fun z => z.imp (fun r => k _ r) fun ⟨u, r⟩ => ⟨u, k _ r⟩) fun z => z
theorem RowP.same {H H' : Hp} {p l : Addr} (s : Same H H') (r : RowP H p l) : RowP H' p l := by
  obtain ⟨i, x, d, h, r⟩ := r
  exact ⟨i, x, d, s _ _ h, r⟩
theorem RowP.ne {H : Hp} {p l D : Addr} {o : HO} (n : p ≠ D) (r : RowP H p l) : RowP (upd H D o) p l := by
  obtain ⟨i, x, d, h, r⟩ := r
  exact ⟨i, x, d, by rw [upd_ne n]; exact h, r⟩
theorem RowP.there {H : Hp} {p l : Addr} (r : RowP H p l) : ∃ xs, H p = some (.lst xs) := by
  obtain ⟨i, x, d, h, _⟩ := r
  exact ⟨_, h⟩
theorem but_fill {H1 H : Hp} {p D : Addr} {o : HO} (n : H1 D = none) (s : But p H1 H) : But p H1 (upd H D o) := fun b x ne e => by
  rw [upd_ne (ne_of_none e n)]
  exact s b x ne e
section
variable {K : PySem.W.Frag} {mg : Str → Option Value} {P : Program} {w : World} {base : Heap}
/-! ### _law_taken -/
theorem ok_taken {f : Addr} {fd : FuncData} {k : Nat} (F : Fun K "_law_taken" "_law_taken" sTaken f fd) (G : Glb mg) : FnOk P w K mg base CX0 (k + 1) f fd ["_law_row", "_law_many"] (spTaken K) := by
  refine F.ok scTaken (fun vs H Q E h => ?_) (fun cdv A outer s H vs Q E hr h => ?_)
  · obtain ⟨p, l, m, rfl, _⟩ := h
    rfl
  · obtain ⟨p, l, m, rfl, hm, hm2, ⟨⟨i, s0, d, hp, hi, hs0, hs1⟩, ns, hS⟩, q⟩ := h
    refine ⟨_, pss_cons (ps_if (pt_cmpR op_gt (pe_ix (ixLK K) (pv 0) pe_int (fun _ _ => rfl)) pe_int (nomark _))
        (pss_cons (ps_set (i := 2) scTaken.nd rfl (Or.inl rfl) (pe_op op_mod (pe_callTy call_int1 (by rfl) G.int bt_int (pa_cons (pe_ix (ixLK K) (pv 0) pe_int (fun _ _ => rfl)) pa_nil)) (pv 1)))
        (pss_cons (ps_asg (pe_op op_fdiv (pe_ix (ixLK K) (pv 0) pe_int (fun _ _ => rfl)) (pv 1)) (pg_sub (pv 0) pe_int set_list))
        (pss_one (ps_ret (pv 2))))) pss_nil)
      (pss_cons (ps_asg (pe_op op_add (pe_ix (ixLK K) (pv 0) pe_int (fun _ _ => rfl)) pe_int) (pg_sub (pv 0) pe_int set_list))
      (pss_cons (ps_if (pt_cmpR op_gt (pe_ix (ixLK K) (pv 0) pe_int (fun _ _ => rfl)) (pe_callB (lenK K) (by rfl) G.len bt_len (pa_cons (pe_ix (ixLK K) (pv 0) pe_int (fun _ _ => rfl)) pa_nil)) (nomark _))
        (pss_cons (ps_asg (pe_op op_mod (pe_callTy call_int1 (by rfl) G.int bt_int (pa_cons (pe_op op_add (pe_op op_mul (pe_ix (ixLK K) (pv 0) pe_int (fun _ _ => rfl)) pe_int) pe_int) pa_nil)) pe_int) (pg_sub (pv 0) pe_int set_list))
        (pss_one (ps_ret (pe_op op_mod (pe_callTy call_int1 (by rfl) G.int bt_int (pa_cons (pe_op op_fdiv (pe_ix (ixLK K) (pv 0) pe_int (fun _ _ => rfl)) pe_int) pa_nil)) (pv 1))))) pss_nil)
      (pss_cons (ps_set (i := 3) scTaken.nd rfl (Or.inl rfl) (pe_ix (ixLK K) (pe_ix (ixLK K) (pv 0) pe_int (fun _ _ => rfl)) (pe_op op_sub (pe_ix (ixLK K) (pv 0) pe_int (fun _ _ => rfl)) pe_int) (fun _ _ => rfl)))
      (pss_cons (ps_asg (pe_op op_mod (pe_callTy call_int1 (by rfl) G.int bt_int (pa_cons (pe_op op_add (pe_op op_add (pe_op op_mul (pe_ix (ixLK K) (pv 0) pe_int (fun _ _ => rfl)) pe_int) (pv 3)) pe_int) pa_nil)) pe_int) (pg_sub (pv 0) pe_int set_list))
      (pss_cons (ps_if (pt_cmpR op_ge (pv 3) (pe_op op_pow pe_int pe_int) (nomark _))
        (pss_one (ps_asg (pe_op op_fdiv (pv 3) (pv 1)) (pg_sub (pv 0) pe_int set_list))) pss_nil)
      (pss_one (ps_ret (pe_op op_mod (pe_callTy call_int1 (by rfl) G.int bt_int (pa_cons (pv 3) pa_nil)) (pv 1))))))))), ?_⟩
    have md : ∀ n : Int, 0 ≤ n % m ∧ n % m < m := fun n => ⟨Int.emod_nonneg n (by omega), Int.emod_lt_of_pos n hm⟩
    have big : ∀ n : Int, 0 ≤ n % 2147483647 ∧ n % 2147483647 < 2147483647 := fun n => ⟨Int.emod_nonneg n (by omega), Int.emod_lt_of_pos n (by omega)⟩
    -- if _law_row[3] > 0
    refine ⟨.ref p, rfl, p, _, 3, .int d, rfl, rfl, SqL.of hp, atI_nat (j := 3) rfl, d, 0, rfl, rfl, _, rfl, ite2 (fun e => ?_) (fun e => ?_)⟩
    · refine ⟨.ref p, rfl, p, _, 3, .int d, rfl, rfl, SqL.of hp, atI_nat (j := 3) rfl, .inl ⟨d, rfl, .int m, rfl, d, m, rfl, rfl, hm, ?_⟩⟩
      refine ⟨.ref p, rfl, p, _, 3, .int d, rfl, rfl, SqL.of hp, atI_nat (j := 3) rfl, .int m, rfl, d, m, rfl, rfl, ⟨hm, by omega⟩, .ref p, rfl, p, _, 3, 3, rfl, rfl, hp, rfl, ?_⟩
      exact ⟨.int (d % m), rfl, q _ (d % m) .upd ⟨i, s0, d / m, upd_same, hi, hs0, hs1⟩ (md d).1 (md d).2⟩
    -- _law_row[1] = _law_row[1] + 1
    refine ⟨.ref p, rfl, p, _, 1, .int i, rfl, rfl, SqL.of hp, atI_nat (j := 1) rfl, i, 1, rfl, rfl, .ref p, rfl, p, _, 1, 1, rfl, rfl, hp, rfl, ?_⟩
    have b1 : But p H (upd H p (.lst [.ref l, .int (i + 1), .int s0, .int d])) := .upd
    have hp1 : (upd H p (.lst [.ref l, .int (i + 1), .int s0, .int d])) p = some (.lst [.ref l, .int (i + 1), .int s0, .int d]) := upd_same
    show tSeq _ _ _ _ (upd H p (.lst [.ref l, .int (i + 1), .int s0, .int d]))
    revert b1 hp1
    generalize upd H p (.lst [.ref l, .int (i + 1), .int s0, .int d]) = H1
    intro b1 hp1
    have hS1 := hS _ b1
    -- if _law_row[1] > len(_law_row[0])
    refine ⟨.ref p, rfl, p, _, 1, .int (i + 1), rfl, rfl, SqL.of hp1, atI_nat (j := 1) rfl, .ref p, rfl, p, _, 0, .ref l, rfl, rfl, SqL.of hp1, atI_nat (j := 0) rfl, l, ns.map V.int, rfl, .inl hS1, i + 1, ((ns.map V.int).length : Int), rfl, rfl, _, rfl, ite2 (fun e1 => ?_) (fun e1 => ?_)⟩
    · refine ⟨.ref p, rfl, p, _, 2, .int s0, rfl, rfl, SqL.of hp1, atI_nat (j := 2) rfl, s0, 48271, rfl, rfl, .inl ⟨by omega, by omega⟩, s0 * 48271, 11, rfl, rfl, .inl ⟨s0 * 48271 + 11, rfl, s0 * 48271 + 11, 2147483647, rfl, rfl, (show (0 : Int) < 2147483647 by decide), .ref p, rfl, p, _, 2, 2, rfl, rfl, hp1, rfl, ?_⟩⟩
      refine ⟨.ref p, rfl, p, [.ref l, .int (i + 1), .int ((s0 * 48271 + 11) % 2147483647), .int d], 2, .int ((s0 * 48271 + 11) % 2147483647), rfl, rfl, SqL.of upd_same, atI_nat (j := 2) rfl, (s0 * 48271 + 11) % 2147483647, 7, rfl, rfl, ⟨by decide, by decide⟩, .inl ⟨_, rfl, .int m, rfl, _, m, rfl, rfl, hm, ?_⟩⟩
      exact q _ _ (b1.trans .upd) ⟨i + 1, _, d, upd_same, by omega, (big _).1, (big _).2⟩ (md _).1 (md _).2
    -- _law_cell = _law_row[0][_law_row[1] - 1]
    have hlt : i.toNat < ns.length := by
      have e2 : ¬ ((ns.map V.int).length : Int) < i + 1 := fun z => e1 (decide_eq_true z)
      rw [List.length_map] at e2
      omega
    have gc : (ns.map V.int)[i.toNat]? = some (.int ns[i.toNat]) := by
      rw [List.getElem?_map, List.getElem?_eq_getElem hlt]
      rfl
    generalize ns[i.toNat] = cell at gc
    refine ⟨.ref p, rfl, p, _, 0, .ref l, rfl, rfl, SqL.of hp1, atI_nat (j := 0) rfl, .ref p, rfl, p, _, 1, .int (i + 1), rfl, rfl, SqL.of hp1, atI_nat (j := 1) rfl, i + 1, 1, rfl, rfl, l, ns.map V.int, i + 1 - 1, .int cell, rfl, rfl, hS1, at_of (j := i.toNat) (by omega) gc, ?_⟩
    -- _law_row[2] = ..
    refine ⟨.ref p, rfl, p, _, 2, .int s0, rfl, rfl, SqL.of hp1, atI_nat (j := 2) rfl, s0, 48271, rfl, rfl, .inl ⟨by omega, by omega⟩, .int cell, rfl, s0 * 48271, cell, rfl, rfl, s0 * 48271 + cell, 11, rfl, rfl, .inl ⟨_, rfl, s0 * 48271 + cell + 11, 2147483647, rfl, rfl, (show (0 : Int) < 2147483647 by decide), .ref p, rfl, p, _, 2, 2, rfl, rfl, hp1, rfl, ?_⟩⟩
    have b2 : But p H1 (upd H1 p (.lst [.ref l, .int (i + 1), .int ((s0 * 48271 + cell + 11) % 2147483647), .int d])) := .upd
    have hp2 : (upd H1 p (.lst [.ref l, .int (i + 1), .int ((s0 * 48271 + cell + 11) % 2147483647), .int d])) p = some (.lst [.ref l, .int (i + 1), .int ((s0 * 48271 + cell + 11) % 2147483647), .int d]) := upd_same
    show tSeq _ _ _ _ (upd H1 p (.lst [.ref l, .int (i + 1), .int ((s0 * 48271 + cell + 11) % 2147483647), .int d]))
    revert b2 hp2
    generalize upd H1 p (.lst [.ref l, .int (i + 1), .int ((s0 * 48271 + cell + 11) % 2147483647), .int d]) = H2
    intro b2 hp2
    have b12 := b1.trans b2
    -- if _law_cell >= 10 ** 18
    refine ⟨.int cell, rfl, 10, 18, rfl, rfl, ⟨by decide, by decide, by decide⟩, cell, (10 : Int) ^ (18 : Int).toNat, rfl, rfl, _, rfl, ite2 (fun e2 => ?_) (fun e2 => ?_)⟩
    · refine ⟨.int cell, rfl, .int m, rfl, cell, m, rfl, rfl, ⟨hm, by omega⟩, .ref p, rfl, p, _, 3, 3, rfl, rfl, hp2, rfl, ?_⟩
      refine ⟨.int cell, rfl, .inl ⟨cell, rfl, .int m, rfl, cell, m, rfl, rfl, hm, ?_⟩⟩
      exact q _ _ (b12.trans .upd) ⟨i + 1, _, cell / m, upd_same, by omega, (big _).1, (big _).2⟩ (md _).1 (md _).2
    · refine ⟨.int cell, rfl, .inl ⟨cell, rfl, .int m, rfl, cell, m, rfl, rfl, hm, ?_⟩⟩
      exact q _ _ b12 ⟨i + 1, _, d, hp2, by omega, (big _).1, (big _).2⟩ (md _).1 (md _).2
/-! ### _law_pick -/
theorem ok_pick {f fT : Addr} {fd fdT : FuncData} (F : Fun K "_law_pick" "_law_pick" sPick f fd) (G : Glb mg) (FT : Fun K "_law_taken" "_law_taken" sTaken fT fdT) (bT : Binds K fdT ["_law_row", "_law_many"] []) (gT : mg "_law_taken" = some (.ref fT)) :
    FnOk P w K mg base CX0 2 f fd ["_law_row", "_law_things"] (spPick K) := by
  have GT : FnOk P w K mg base CX0 1 fT fdT ["_law_row", "_law_many"] (spTaken K) := ok_taken FT G
  refine F.ok scPick (fun vs H Q E h => ?_) (fun cdv A outer s H vs Q E hr h => ?_)
  · obtain ⟨p, l, q, xs, rfl, _⟩ := h
    rfl
  · obtain ⟨p, l, t, xs, rfl, hd, ht, hne, h0, h1, q⟩ := h
    refine ⟨_, pss_one (ps_ret (pe_ix (ixLK K) (pv 1) (pe_call GT hr (by rfl) gT FT.kp bT .nil pass0 (pa_cons (pv 0) (pa_cons (pe_callB (lenK K) (by rfl) G.len bt_len (pa_cons (pv 1) pa_nil)) pa_nil))) (fun _ _ => rfl))), ?_⟩
    refine ⟨.ref t, rfl, .ref p, rfl, .ref t, rfl, t, xs, rfl, .inl (SqL.of ht), p, l, (xs.length : Int), rfl, by omega, by omega, hd, fun H1 v b1 r1 v0 v1 => ?_⟩
    have hl : v.toNat < xs.length := by omega
    have g : xs[v.toNat]? = some xs[v.toNat] := List.getElem?_eq_getElem hl
    exact ⟨t, xs, v, xs[v.toNat], rfl, rfl, SqL.of (b1 _ _ hne ht), at_of (j := v.toNat) (by omega) g, q _ _ b1 r1 (List.getElem_mem hl)⟩
end
end NT
namespace NT
open PySem PySem.Spec PyProof.Rows L2 TL
theorem sm_draw {v m : Int} (h0 : 0 ≤ v) (h1 : v < m) (h : m ≤ 3) : Sm v := by unfold Sm; omega
section
variable {K : PySem.W.Frag} {mg : Str → Option Value} {P : Program} {w : World} {base : Heap}
theorem ok_ltab {f fT : Addr} {fd fdT : FuncData} (F : Fun K "_law_table" "_law_table" sLTab f fd) (G : Glb mg) (FT : Fun K "_law_taken" "_law_taken" sTaken fT fdT) (bT : Binds K fdT ["_law_row", "_law_many"] []) (gT : mg "_law_taken" = some (.ref fT)) :
    FnOk P w K mg base CX0 2 f fd ["_law_row", "_law_high", "_law_wide", "_law_many"] (spLTab K) := by
  have GT : FnOk P w K mg base CX0 1 fT fdT ["_law_row", "_law_many"] (spTaken K) := ok_taken FT G
  refine F.ok scLTab (fun vs H Q E h => ?_) (fun cdv A outer s H vs Q E hr h => ?_)
  · obtain ⟨p, l, rfl, _⟩ := h
    rfl
  · obtain ⟨p, l, rfl, hd, q⟩ := h
    refine ⟨_, pss_cons (ps_asg (pe_tup (pa_cons (pe_op op_add pe_int (pe_call GT hr (by rfl) gT FT.kp bT .nil pass0 (pa_cons (pv 0) (pa_cons (pv 1) pa_nil)))) (pa_cons (pe_op op_add pe_int (pe_call GT hr (by rfl) gT FT.kp bT .nil pass0 (pa_cons (pv 0) (pa_cons (pv 2) pa_nil)))) pa_nil)))
          (pg_tup (by rfl) (pgs_cons (pg_name (i := 4) scLTab.nd rfl (.inl rfl)) (pgs_cons (pg_name (i := 5) scLTab.nd rfl (.inr rfl)) pgs_nil))))
      (pss_cons (ps_set (i := 6) scLTab.nd rfl (Or.inr rfl) (pe_op op_add pe_int (pe_call GT hr (by rfl) gT FT.kp bT .nil pass0 (pa_cons (pv 0) (pa_cons (pv 3) pa_nil)))))
      (pss_one (ps_ret (pe_callTy (tupK K) (by rfl) G.tuple bt_tuple (pa_cons
        (pe_lc (own := [("_law_x", 7)]) (g := gName 7) (tt := tYes) rfl scLTab.nd (pi_range1 (by rfl) G.range (pa_cons (pv 4) pa_nil)) (blkOk_by (own := [("_law_x", 7)]) (N := ["_law_row", "_law_high", "_law_wide", "_law_many", "_law_rows", "_law_columns", "_law_some", "_law_x", "_law_y"]) (sc := defScope sLTab) (by decide +kernel))
          (fun _ _ _ _ _ => pg_name (i := 7) scLTab.nd rfl (Or.inl rfl)) (fun _ _ _ _ _ => pts_nil)
          (fun _ _ _ _ _ => pe_callTy (tupK K) (by rfl) G.tuple bt_tuple (pa_cons
            (pe_lc (own := [("_law_y", 8)]) (g := gName 8) (tt := tYes) rfl scLTab.nd (pi_range1 (by rfl) G.range (pa_cons (pv 5) pa_nil)) (blkOk_by (own := [("_law_y", 8)]) (N := ["_law_row", "_law_high", "_law_wide", "_law_many", "_law_rows", "_law_columns", "_law_some", "_law_x", "_law_y"]) (sc := relS ltOuter (defScope sLTab)) (by decide +kernel))
              (fun _ _ _ _ _ => pg_name (i := 8) scLTab.nd rfl (Or.inl rfl)) (fun _ _ _ _ _ => pts_nil)
              (fun _ _ _ _ _ => pe_call GT hr (by rfl) gT FT.kp bT .nil pass0 (pa_cons (pv 0) (pa_cons (pv 6) pa_nil)))) pa_nil))) pa_nil))))), ?_⟩
    -- _law_rows, _law_columns
    refine ⟨.ref p, rfl, .int 6, rfl, p, l, 6, rfl, by decide, by decide, hd, fun H1 v1 b1 r1 v10 v11 => ?_⟩
    refine ⟨1, v1, rfl, rfl, .ref p, rfl, .int 6, rfl, p, l, 6, rfl, by decide, by decide, hd.next b1 r1, fun H2 v2 b2 r2 v20 v21 => ?_⟩
    refine ⟨1, v2, rfl, rfl, ?_, fun t nt => ?_⟩
    · show 2 ≤ sizeLine
      rw [sizeLine_eq]
      decide
    have s3 : Same H2 (upd H2 t (.tup [.int (1 + v1), .int (1 + v2)])) := same_upd nt
    have r3 := r2.same s3
    have b3 : But p H (upd H2 t (.tup [.int (1 + v1), .int (1 + v2)])) := (b1.trans b2).trans (.of s3)
    have ht : (upd H2 t (.tup [.int (1 + v1), .int (1 + v2)])) t = some (.tup [.int (1 + v1), .int (1 + v2)]) := upd_same
    refine ⟨t, _, rfl, SqT.of ht, rfl, .int (1 + v1), _, rfl, .int (1 + v2), _, rfl, rfl, ?_⟩
    revert r3 b3
    generalize upd H2 t (.tup [.int (1 + v1), .int (1 + v2)]) = H3
    intro r3 b3
    -- _law_some
    refine ⟨.ref p, rfl, .int 3, rfl, p, l, 3, rfl, by decide, by decide, hd.next b3 r3, fun H4 v3 b34 r4 v30 v31 => ?_⟩
    refine ⟨1, v3, rfl, rfl, ?_⟩
    have b4 := b3.trans b34
    have hd4 := hd.next b4 r4
    -- the rows
    refine ⟨.int (1 + v1), rfl, 1 + v1, rfl, by omega, by omega, fun D hD => ?_⟩
    have pD : p ≠ D := by
      obtain ⟨xs, h⟩ := r4.there
      exact ne_of_none h hD
    refine lc_rangeA (n := (1 + v1).toNat) (fun acc H5 => But p H4 H5 ∧ RowP H5 p l ∧ ∃ T : List (List Int), Paired (RowAt H5) acc T ∧ ∀ r ∈ T, r.length = (1 + v2).toNat ∧ ∀ n ∈ r, Sm n) (fun _ => rfl) (by rw [sizeLine_eq]; omega)
      ⟨but_fill hD (.refl _ _), r4.ne pD, [], .nil, fun r h => by simp at h⟩ (fun acc H5 Q' hlt d5 ⟨b5, r5, T, pT, hT⟩ cont => ?_) (fun acc H5 hlen d5 ⟨b5, r5, T, pT, hT⟩ => ?_)
    · refine ⟨.int (1 + v2), rfl, 1 + v2, rfl, by omega, by omega, fun D2 hD2 => ?_⟩
      have pD2 : p ≠ D2 := by
        obtain ⟨xs, h⟩ := r5.there
        exact ne_of_none h hD2
      have DD2 : D ≠ D2 := ne_of_none d5 hD2
      refine lc_rangeA (n := (1 + v2).toNat) (fun acc2 H6 => But p H5 H6 ∧ RowP H6 p l ∧ ∃ r : List Int, acc2 = r.map V.int ∧ ∀ n ∈ r, Sm n) (fun _ => rfl) (by rw [sizeLine_eq]; omega)
        ⟨but_fill hD2 (.refl _ _), r5.ne pD2, [], rfl, fun n h => by simp at h⟩ (fun acc2 H6 Q2 hlt2 d6 ⟨b6, r6, r, er, hr2⟩ cont2 => ?_) (fun acc2 H6 hlen2 d6 ⟨b6, r6, r, er, hr2⟩ => ?_)
      · refine ⟨.ref p, rfl, .int (1 + v3), rfl, p, l, 1 + v3, rfl, by omega, by omega, hd4.next (b5.trans b6) r6, fun H7 v b7 r7 v0 v1' => ?_⟩
        refine cont2 (.int v) H7 (b7 _ _ pD2.symm d6) ⟨but_fill hD2 (b6.trans b7), r7.ne pD2, r ++ [v], by rw [er, List.map_append]; rfl, fun n hn => ?_⟩
        rcases List.mem_append.mp hn with hn | hn
        · exact hr2 n hn
        · rw [List.mem_singleton.mp hn]
          exact sm_draw v0 v1' (by omega)
      · refine ⟨D2, acc2, rfl, .inl ⟨SqL.of d6, fun t2 nt2 => ?_⟩⟩
        have s7 : Same H6 (upd H6 t2 (.tup acc2)) := same_upd nt2
        have h7 : (upd H6 t2 (.tup acc2)) t2 = some (.tup acc2) := upd_same
        revert s7 h7
        generalize upd H6 t2 (.tup acc2) = H7
        intro s7 h7
        have b57 : But p H5 H7 := b6.trans (.of s7)
        have d7 : H7 D = some (.lst acc) := b57 _ _ pD.symm d5
        obtain ⟨ys, hp5⟩ := r5.there
        refine cont (.ref t2) H7 d7 ⟨but_fill hD (b5.trans b57), (r6.same s7).ne pD, T ++ [r], ?_, fun r' hr' => ?_⟩
        · refine psnoc (pmap pT fun _ _ h => (h.but b57 hp5).but .upd d7) (RowAt.but .upd d7 ⟨t2, rfl, ?_⟩)
          rw [h7, er]
        · rcases List.mem_append.mp hr' with hr' | hr'
          · exact hT r' hr'
          · rw [List.mem_singleton.mp hr']
            refine ⟨?_, hr2⟩
            rw [er, List.length_map] at hlen2
            exact hlen2
    · -- the table
      refine ⟨D, acc, rfl, .inl ⟨SqL.of d5, fun t2 nt2 => ?_⟩⟩
      have s6 : Same H5 (upd H5 t2 (.tup acc)) := same_upd nt2
      have hTl : T.length = (1 + v1).toNat := pT.length.symm.trans hlen
      refine q _ t2 T (1 + v2).toNat ((b4.trans b5).trans (.of s6)) (r5.same s6) ⟨acc, upd_same, pmap pT fun _ _ h => h.same s6⟩ ⟨by omega, by omega, by omega, by omega, fun r h => (hT r h).1, fun r h => (hT r h).2⟩
end
end NT
namespace NT
open PySem PySem.Spec PyProof.Rows L2 TL
/-- like ints; like tuples -/
def IntR : Hp → V → V → Prop := fun _ x y => ∃ n, x = .int n ∧ y = .int n
def TupR (R : Hp → V → V → Prop) : Hp → V → V → Prop := fun H x y => ∃ a b xs ys, x = .ref a ∧ y = .ref b ∧ H a = some (.tup xs) ∧ H b = some (.tup ys) ∧ xs.length = ys.length ∧ xs.length ≤ 1000 ∧
  ∀ (i : Nat) u v, xs[i]? = some u → ys[i]? = some v → ∀ H', Same H H' → R H' u v
theorem any_tup {K : PySem.W.Frag} : PySem.W.kitAny K (.type "tuple") [.type "tuple", .type "list"] = some true :=
  kitAny_cons (b := true) (kit_ty (by decide +kernel)) (fun z => by cases z) (fun _ => rfl)
theorem any_int {K : PySem.W.Frag} : PySem.W.kitAny K (.type "int") [.type "tuple", .type "list"] = some false :=
  kitAny_cons (b := false) (kit_ty (by decide +kernel)) (fun _ => kitAny_cons (b := false) (kit_ty (by decide +kernel)) (fun _ => kitAny_nil) (fun z => by cases z)) (fun z => by cases z)
theorem two_line {x y : V} : [x, y].length ≤ sizeLine := by
  show 2 ≤ sizeLine
  rw [sizeLine_eq]
  decide
theorem cls_two : Paired ClsV [.ty "tuple", .ty "list"] [.type "tuple", .type "list"] := .cons (.ty _) (.cons (.ty _) .nil)
section
variable {K : PySem.W.Frag} {mg : Str → Option Value} {P : Program} {w : World} {base : Heap}
theorem ok_alike0 {f : Addr} {fd : FuncData} (F : Fun K "_law_alike" "_law_alike" sAlike f fd) (G : Glb mg) : FnOk P w K mg base CX0 1 f fd ["_law_found", "_law_due"] (spAlike IntR) := by
  refine F.ok scAlike (fun vs H Q E h => ?_) (fun cdv A outer s H vs Q E hr h => ?_)
  · obtain ⟨x, y, rfl, _⟩ := h
    rfl
  · obtain ⟨x, y, rfl, ⟨n, rfl, rfl⟩, q⟩ := h
    refine ⟨_, pss_cons (ps_if (pt_val (pe_callB call_isiT (by rfl) G.isin bt_isin (pa_cons (pv 1) (pa_cons (pe_tup (pa_cons (pe_bltn (v := .ty "tuple") (by rfl) G.tuple bt_tuple rfl) (pa_cons (pe_bltn (v := .ty "list") (by rfl) G.list bt_list rfl) pa_nil))) pa_nil)))) pss_never pss_nil)
      (pss_cons (ps_if (pt_val (pe_callB (isiK K) (by rfl) G.isin bt_isin (pa_cons (pv 1) (pa_cons (pe_bltn (v := .ty "dict") (by rfl) G.dict bt_dict rfl) pa_nil)))) pss_never pss_nil)
      (pss_cons (ps_if (PW.pt (pw_or (pt_cmp (pc_isN (pv 1))) (pw_or1 (pt_val (pe_callB (isiK K) (by rfl) G.isin bt_isin (pa_cons (pv 1) (pa_cons (pe_bltn (v := .ty "str") (by rfl) G.str bt_str rfl) pa_nil))))))) pss_never pss_nil)
      (pss_one (ps_ret (pe_and (pe_callB (isiK K) (by rfl) G.isin bt_isin (pa_cons (pv 0) (pa_cons (pe_bltn (v := .ty "int") (by rfl) G.int bt_int rfl) pa_nil)))
        (pe_and (pe_cmpR op_eq (pe_callB (isiK K) (by rfl) G.isin bt_isin (pa_cons (pv 0) (pa_cons (pe_bltn (v := .ty "bool") (by rfl) G.bool bt_bool rfl) pa_nil))) (pe_callB (isiK K) (by rfl) G.isin bt_isin (pa_cons (pv 1) (pa_cons (pe_bltn (v := .ty "bool") (by rfl) G.bool bt_bool rfl) pa_nil))) (nomark _))
        (pe_one (pe_cmpR op_eq (pv 0) (pv 1) (nomark _))))))))), ?_⟩
    refine ⟨.int n, rfl, two_line, fun tp np => ?_⟩
    have s1 := same_upd (o := .tup [.ty "tuple", .ty "list"]) np
    refine ⟨.int n, tp, _, .type "int", _, false, rfl, upd_same, cls_two, .base (.int n), any_int, _, rfl, ifF rfl ?_⟩
    refine ⟨.int n, rfl, .int n, .ty "dict", .type "int", .type "dict", false, rfl, .ty _, .base (.int n), kit_ty (by decide +kernel), _, rfl, ifF rfl ?_⟩
    refine ⟨.int n, rfl, _, rfl, ifF (decide_eq_false (fun z => by cases z)) ?_⟩
    refine ⟨.int n, rfl, .int n, .ty "str", .type "int", .type "str", false, rfl, .ty _, .base (.int n), kit_ty (by decide +kernel), _, rfl, ifF rfl ?_⟩
    refine ⟨.int n, rfl, .int n, .ty "int", .type "int", .type "int", true, rfl, .ty _, .base (.int n), kit_ty (by decide +kernel), _, rfl, ifT rfl ?_⟩
    refine ⟨.int n, rfl, .int n, .ty "bool", .type "int", .type "bool", false, rfl, .ty _, .base (.int n), kit_ty (by decide +kernel), .int n, rfl, .int n, .ty "bool", .type "int", .type "bool", false, rfl, .ty _, .base (.int n), kit_ty (by decide +kernel), rfl, _, rfl, ifT (decide_eq_true rfl) ?_⟩
    refine ⟨.int n, rfl, .int n, rfl, rfl, ?_⟩
    show Q (.bl (decide (V.int n = V.int n))) _
    rw [decide_eq_true rfl]
    exact q _ s1
theorem ok_alikeT {f : Addr} {fd : FuncData} {k : Nat} {R : Hp → V → V → Prop} (F : Fun K "_law_alike" "_law_alike" sAlike f fd) (G : Glb mg) (bA : Binds K fd ["_law_found", "_law_due"] []) (gA : mg "_law_alike" = some (.ref f))
    (GA : FnOk P w K mg base CX0 k f fd ["_law_found", "_law_due"] (spAlike R)) : FnOk P w K mg base CX0 (k + 1) f fd ["_law_found", "_law_due"] (spAlike (TupR R)) := by
  refine F.ok scAlike (fun vs H Q E h => ?_) (fun cdv A outer s H vs Q E hr h => ?_)
  · obtain ⟨x, y, rfl, _⟩ := h
    rfl
  · obtain ⟨x, y, rfl, ⟨a, b, xs, ys, rfl, rfl, ha, hb, hl, hz, hR⟩, q⟩ := h
    refine ⟨_, pss_cons (ps_if (pt_val (pe_callB call_isiT (by rfl) G.isin bt_isin (pa_cons (pv 1) (pa_cons (pe_tup (pa_cons (pe_bltn (v := .ty "tuple") (by rfl) G.tuple bt_tuple rfl) (pa_cons (pe_bltn (v := .ty "list") (by rfl) G.list bt_list rfl) pa_nil))) pa_nil))))
        (pss_cons (ps_if (PW.pt (pw_or (pt_not (pt_val (pe_callB call_isiT (by rfl) G.isin bt_isin (pa_cons (pv 0) (pa_cons (pe_tup (pa_cons (pe_bltn (v := .ty "tuple") (by rfl) G.tuple bt_tuple rfl) (pa_cons (pe_bltn (v := .ty "list") (by rfl) G.list bt_list rfl) pa_nil))) pa_nil)))))
            (pw_or1 (pt_cmpR op_ne (pe_callB (isiK K) (by rfl) G.isin bt_isin (pa_cons (pv 0) (pa_cons (pe_bltn (v := .ty "list") (by rfl) G.list bt_list rfl) pa_nil))) (pe_callB (isiK K) (by rfl) G.isin bt_isin (pa_cons (pv 1) (pa_cons (pe_bltn (v := .ty "list") (by rfl) G.list bt_list rfl) pa_nil))) (nomark _))))) (pss_one (ps_ret pe_bl)) pss_nil)
        (pss_cons (ps_if (pt_cmpR op_ne (pe_callB (lenK K) (by rfl) G.len bt_len (pa_cons (pv 0) pa_nil)) (pe_callB (lenK K) (by rfl) G.len bt_len (pa_cons (pv 1) pa_nil)) (nomark _)) (pss_one (ps_ret pe_bl)) pss_nil)
        (pss_one (ps_ret (pe_cmpR (op_eqD hr.units)
          (pe_lc (own := [("_law_k", 2)]) (g := gName 2) rfl scAlike.nd (pi_range1 (by rfl) G.range (pa_cons (pe_callB (lenK K) (by rfl) G.len bt_len (pa_cons (pv 1) pa_nil)) pa_nil)) (blkOk_by (own := [("_law_k", 2)]) (N := ["_law_found", "_law_due", "_law_k", "_law_key"]) (sc := defScope sAlike) (by decide +kernel))
            (fun _ _ _ _ _ => pg_name (i := 2) scAlike.nd rfl (Or.inl rfl))
            (fun _ _ _ _ _ => pts_one (pt_not (pt_val (pe_call GA hr (by rfl) gA F.kp bA .nil pass0 (pa_cons (pe_ix (ixTK K) (pv 0) (pv 2) (fun _ _ => rfl)) (pa_cons (pe_ix (ixTK K) (pv 1) (pv 2) (fun _ _ => rfl)) pa_nil))))))
            (fun _ _ _ _ _ => pv 2)) (pe_lst pa_nil) (nomark _)))))) pss_nil)
      pss_never, ?_⟩
    refine ⟨.ref b, rfl, two_line, fun tp np => ?_⟩
    have s1 := same_upd (o := .tup [.ty "tuple", .ty "list"]) np
    have ht : (upd H tp (.tup [.ty "tuple", .ty "list"])) tp = some (.tup [.ty "tuple", .ty "list"]) := upd_same
    revert s1 ht
    generalize upd H tp (.tup [.ty "tuple", .ty "list"]) = H1
    intro s1 ht
    refine ⟨.ref b, tp, _, .type "tuple", _, true, rfl, ht, cls_two, .base (.tup (s1 _ _ hb)), any_tup, _, rfl, ifT rfl ?_⟩
    -- the first test
    refine ⟨.ref a, rfl, two_line, fun tp2 np2 => ?_⟩
    have s2 := same_upd (o := .tup [.ty "tuple", .ty "list"]) np2
    have ht2 : (upd H1 tp2 (.tup [.ty "tuple", .ty "list"])) tp2 = some (.tup [.ty "tuple", .ty "list"]) := upd_same
    revert s2 ht2
    generalize upd H1 tp2 (.tup [.ty "tuple", .ty "list"]) = H2
    intro s2 ht2
    have s12 := s1.trans s2
    have ha2 := s12 _ _ ha
    have hb2 := s12 _ _ hb
    refine ⟨.ref a, tp2, _, .type "tuple", _, true, rfl, ht2, cls_two, .base (.tup ha2), any_tup, _, rfl, ifF rfl ?_⟩
    refine ⟨.ref a, rfl, .ref a, .ty "list", .type "tuple", .type "list", false, rfl, .ty _, .base (.tup ha2), kit_ty (by decide +kernel), .ref b, rfl, .ref b, .ty "list", .type "tuple", .type "list", false, rfl, .ty _, .base (.tup hb2), kit_ty (by decide +kernel), rfl, _, rfl, ifF rfl ?_⟩
    -- len
    refine ⟨.ref a, rfl, a, xs, rfl, .inr (SqT.of ha2), .ref b, rfl, b, ys, rfl, .inr (SqT.of hb2), rfl, _, rfl, ifF (by rw [hl, decide_eq_true rfl]; rfl) ?_⟩
    -- [..] == []
    refine ⟨.ref b, rfl, b, ys, rfl, .inr (SqT.of hb2), (ys.length : Int), rfl, by omega, by omega, fun D hD => ?_⟩
    refine lc_range (lo := 0) (n := (ys.length : Int).toNat) (fun i H3 => Same H2 H3 ∧ H3 D = some (.lst [])) ⟨same_fill hD (.refl _), upd_same⟩ (fun i H3 hi ⟨s3, d3⟩ => ⟨rfl, ?_⟩) (fun H3 ⟨s3, d3⟩ => ?_)
    · have hi1 : i < xs.length := by omega
      have hi2 : i < ys.length := by omega
      have g1 : xs[i]? = some xs[i] := List.getElem?_eq_getElem hi1
      have g2 : ys[i]? = some ys[i] := List.getElem?_eq_getElem hi2
      refine ⟨.ref a, rfl, .int (0 + (i : Int)), rfl, a, xs, 0 + (i : Int), xs[i], rfl, rfl, SqT.of (s3 _ _ ha2), at_of (j := i) (by omega) g1, .ref b, rfl, .int (0 + (i : Int)), rfl, b, ys, 0 + (i : Int), ys[i], rfl, rfl, SqT.of (s3 _ _ hb2), at_of (j := i) (by omega) g2, ?_⟩
      refine ⟨xs[i], ys[i], rfl, hR i _ _ g1 g2 _ (s12.trans s3), fun H4 s4 => ⟨true, rfl, ifF rfl ⟨s3.trans s4, s4 _ _ d3⟩⟩⟩
    · refine ⟨Nat.zero_le _, fun e ne => ?_⟩
      have s5 := same_upd (o := .lst []) ne
      refine ⟨.list [], .list [], .lst (SqL.of (s5 _ _ d3)) .nil, .lst (SqL.of upd_same) .nil, shaped_nil, shaped_nil, ?_⟩
      show Q (.bl (PyData.eqv (.list []) (.list []))) _
      rw [eqv_nil_nil]
      exact q _ ((s12.trans s3).trans s5)
/-! ### tables -/
theorem alike_rows {H : Hp} {a b : Addr} {T : List (List Int)} {c : Nat} (tb : Tab T c) (h : TabAt H a T) (h' : TabAt H b T) : TupR (TupR IntR) H (.ref a) (.ref b) := by
  obtain ⟨xs, ha, pa⟩ := h
  obtain ⟨ys, hb, pb⟩ := h'
  have l1 := pa.length
  have l2 := pb.length
  have r6 := tb.r6
  have c6 := tb.c6
  refine ⟨a, b, xs, ys, rfl, rfl, ha, hb, by omega, by omega, fun i u v hu hv H1 s1 => ?_⟩
  obtain ⟨p, r, hr, rfl, hp⟩ := row_of pa hu
  obtain ⟨p', r', hr', rfl, hp'⟩ := row_of pb hv
  have e : r = r' := Option.some.inj (hr.symm.trans hr')
  subst e
  have hc := tb.row r (List.mem_of_getElem? hr)
  refine ⟨p, p', r.map V.int, r.map V.int, rfl, rfl, s1 _ _ hp, s1 _ _ hp', rfl, by rw [List.length_map]; omega, fun j u v hu hv H2 s2 => ?_⟩
  have e : u = v := Option.some.inj (hu.symm.trans hv)
  subst e
  rw [List.getElem?_map] at hu
  cases hj : r[j]? with
  | none => rw [hj] at hu; cases hu
  | some n =>
    rw [hj] at hu
    exact ⟨n, (Option.some.inj hu).symm, (Option.some.inj hu).symm⟩
end
end NT
namespace NT
open PySem PySem.Spec PyProof.Rows L2 TL
/-! ### pairs of ranges as data -/
def rgI (a b : Int) : List Int := (List.range (b - a).toNat).map fun i => a + (i : Nat)
theorem rg_ints (a b : Int) : rgV a b = (rgI a b).map V.int := by
  unfold rgV rgI
  rw [List.map_map]
  rfl
def wholeD (n c : Nat) : PyData := .tuple [.tuple ((rgI 0 n).map PyData.int), .tuple ((rgI 0 c).map PyData.int)]
theorem dp_whole {K : PySem.W.Frag} {H : Hp} {p : Addr} {n c : Nat} (h : WholeAt H p n c) : Dp K H (.ref p) (wholeD n c) := by
  obtain ⟨x, y, h1, h2, h3⟩ := h
  rw [rg_ints] at h2 h3
  exact .tup (SqT.of h1) (.cons (.tup (SqT.of h2) (dp_ints _)) (.cons (.tup (SqT.of h3) (dp_ints _)) .nil))
theorem can_whole (n c : Nat) : (wholeD n c).canLay0 = true := by simp [wholeD, PyData.canLay0, PyData.canLayAll0, can_ints]
theorem shaped_whole (n c : Nat) : SeqAt.shaped (wholeD n c) = true := by
  have e : PyData.depth (wholeD n c) = 2 := by simp [wholeD, PyData.depth, PyData.depthAll, deep_ints]
  unfold SeqAt.shaped
  rw [e, can_whole]
  decide
theorem eqv_whole (n c : Nat) : PyData.eqv (wholeD n c) (wholeD n c) = true := SeqAt.eqv_refl _ (can_whole n c)
theorem eqv_nilT : PyData.eqv (.tuple []) (.tuple []) = true := by simp [PyData.eqv, PyData.eqvAll]
def menu : List V := [.int 0, .int 1, .int 9, .int 10, .int 99]
theorem menu_sm {v : V} (h : v ∈ menu) : ∃ n, v = .int n ∧ Sm n := by
  simp only [menu, List.mem_cons, List.not_mem_nil, or_false] at h
  unfold Sm
  rcases h with rfl | rfl | rfl | rfl | rfl <;> exact ⟨_, rfl, by decide, by decide⟩
section
variable {K : PySem.W.Frag} {mg : Str → Option Value} {P : Program} {w : World} {base : Heap} {C : Addr}
theorem ok_law {f fLT fP fW fA fR fI fDT fDO fPa fSa fLW : Addr} {fd fdLT fdP fdW fdA fdR fdI fdDT fdDO fdPa fdSa fdLW : FuncData} (F : Fun K "law" "law" sLaw f fd) (G : Glb mg) (D : DeskT K mg C)
    (FLT : Fun K "_law_table" "_law_table" sLTab fLT fdLT) (bLT : Binds K fdLT ["_law_row", "_law_high", "_law_wide", "_law_many"] []) (gLT : mg "_law_table" = some (.ref fLT)) (GLT : FnOk P w K mg base CX0 2 fLT fdLT ["_law_row", "_law_high", "_law_wide", "_law_many"] (spLTab K))
    (FP : Fun K "_law_pick" "_law_pick" sPick fP fdP) (bP : Binds K fdP ["_law_row", "_law_things"] []) (gP : mg "_law_pick" = some (.ref fP)) (GP : FnOk P w K mg base CX0 2 fP fdP ["_law_row", "_law_things"] (spPick K))
    (FW : Fun K "write_table" "write_table" sWrite fW fdW) (bW : Binds K fdW ["table"] []) (gW : mg "write_table" = some (.ref fW)) (GW : FnOk P w K mg base CX0 4 fW fdW ["table"] spText)
    (FA : Fun K "_law_alike" "_law_alike" sAlike fA fdA) (bA : Binds K fdA ["_law_found", "_law_due"] []) (gA : mg "_law_alike" = some (.ref fA)) (GA : FnOk P w K mg base CX0 3 fA fdA ["_law_found", "_law_due"] (spAlike (TupR (TupR IntR))))
    (FR : Fun K "read_table" "read_table" sRead fR fdR) (bR : Binds K fdR ["text"] []) (gR : mg "read_table" = some (.ref fR)) (GR : FnOk P w K mg base CX0 4 fR fdR ["text"] spRead)
    (M : Mk K C fI) (bI : Binds K fdI ["self", "table"] []) (GI : FnOk P w K mg base CX0 4 fI fdI ["self", "table"] (spInit C))
    (mDT : Meth K C "text" fDT) (bDT : Binds K fdDT ["self"] []) (GDT : FnOk P w K mg base CX0 2 fDT fdDT ["self"] (spDText C))
    (FDO : Fun K "desk_of" "desk_of" sDeskOf fDO fdDO) (bDO : Binds K fdDO ["text"] []) (gDO : mg "desk_of" = some (.ref fDO)) (GDO : FnOk P w K mg base CX0 6 fDO fdDO ["text"] (spDeskOf C))
    (mPa : Meth K C "part" fPa) (bPa : Binds K fdPa ["self"] []) (GPa : FnOk P w K mg base CX0 1 fPa fdPa ["self"] (spPart C))
    (mSa : Meth K C "said" fSa) (bSa : Binds K fdSa ["self"] []) (GSa : FnOk P w K mg base CX0 1 fSa fdSa ["self"] (spSaid C))
    (FLW : Fun K "_law_whole" "_law_whole" sLWhole fLW fdLW) (bLW : Binds K fdLW ["_law_table_here"] []) (gLW : mg "_law_whole" = some (.ref fLW)) (GLW : FnOk P w K mg base CX0 1 fLW fdLW ["_law_table_here"] spWhole) :
    FnOk P w K mg base CX0 7 f fd ["_law_script"] (spLaw K) := by
  refine F.ok scLaw (fun vs H Q E h => ?_) (fun cdv A outer s H vs Q E hr h => ?_)
  · obtain ⟨a, ns, rfl, _⟩ := h
    rfl
  · obtain ⟨a, ns, rfl, hS, hO, q⟩ := h
    have hr1 : Room 1 _ := hr.mono (by decide)
    have hr2 : Room 2 _ := hr.mono (by decide)
    have hr3 : Room 3 _ := hr.mono (by decide)
    have hr4 : Room 4 _ := hr.mono (by decide)
    have hr5 : Room 5 _ := hr.mono (by decide)
    refine ⟨_, pss_cons (ps_set (i := 1) scLaw.nd rfl (Or.inr rfl) (pe_lst (pa_cons (pv 0) (pa_cons pe_int (pa_cons pe_int (pa_cons pe_int pa_nil))))))
      (pss_cons (ps_set (i := 2) scLaw.nd rfl (Or.inl rfl) (pe_callTy (tupK K) (by rfl) G.tuple bt_tuple (pa_cons
        (pe_lc (own := [("_law_line", 5)]) (g := gName 5) (tt := tYes) rfl scLaw.nd (pi_tupK K (pe_call GLT hr2 (by rfl) gLT FLT.kp bLT .nil pass0 (pa_cons (pv 1) (pa_cons pe_int (pa_cons pe_int (pa_cons pe_int pa_nil)))))) (blkOk_by (own := [("_law_line", 5)]) (N := ["_law_script", "_law_row", "_law_table_here", "_law_lines", "_law_text", "_law_line", "_law_y", "_law_answer"]) (sc := defScope sLaw) (by decide +kernel))
          (fun _ _ _ _ _ => pg_name (i := 5) scLaw.nd rfl (Or.inl rfl)) (fun _ _ _ _ _ => pts_nil)
          (fun _ _ _ _ _ => pe_callTy (tupK K) (by rfl) G.tuple bt_tuple (pa_cons
            (pe_lc (own := [("_law_y", 6)]) (g := gName 6) (tt := tYes) rfl scLaw.nd (pi_tupK K (pv 5)) (blkOk_by (own := [("_law_y", 6)]) (N := ["_law_script", "_law_row", "_law_table_here", "_law_lines", "_law_text", "_law_line", "_law_y", "_law_answer"]) (sc := relS lwOuter (defScope sLaw)) (by decide +kernel))
              (fun _ _ _ _ _ => pg_name (i := 6) scLaw.nd rfl (Or.inl rfl)) (fun _ _ _ _ _ => pts_nil)
              (fun _ _ _ _ _ => pe_call GP hr2 (by rfl) gP FP.kp bP .nil pass0 (pa_cons (pv 1) (pa_cons (pe_lst (pa_cons pe_int (pa_cons pe_int (pa_cons pe_int (pa_cons pe_int (pa_cons pe_int pa_nil)))))) pa_nil)))) pa_nil))) pa_nil)))
      (pss_cons (ps_set (i := 3) scLaw.nd rfl (Or.inl rfl) (pe_op op_cat (pe_lst (pa_cons (pe_op op_add_str pe_str (pe_callTy call_str_int (by rfl) G.str bt_str (pa_cons (pe_callB (lenK K) (by rfl) G.len bt_len (pa_cons (pv 2) pa_nil)) pa_nil))) pa_nil))
        (pe_lc (own := [("_law_line", 5)]) (g := gName 5) (tt := tYes) rfl scLaw.nd (pi_tupK K (pv 2)) (blkOk_by (own := [("_law_line", 5)]) (N := ["_law_script", "_law_row", "_law_table_here", "_law_lines", "_law_text", "_law_line", "_law_y", "_law_answer"]) (sc := defScope sLaw) (by decide +kernel))
            (fun _ _ _ _ _ => pg_name (i := 5) scLaw.nd rfl (Or.inl rfl)) (fun _ _ _ _ _ => pts_nil)
            (fun _ _ _ _ _ => pe_joinK K pe_str (pe_lc (own := [("_law_answer", 7)]) (g := gName 7) (tt := tYes) rfl scLaw.nd (pi_tupK K (pv 5)) (blk_free (blkOk_by (own := [("_law_answer", 7)]) (N := ["_law_script", "_law_row", "_law_table_here", "_law_lines", "_law_text", "_law_line", "_law_y", "_law_answer"]) (sc := defScope sLaw) (by decide +kernel)) (by decide +kernel))
              (fun _ _ _ _ _ => pg_name (i := 7) scLaw.nd rfl (Or.inl rfl)) (fun _ _ _ _ _ => pts_nil)
              (fun _ _ _ _ _ => pe_callTy call_str_int (by rfl) G.str bt_str (pa_cons (pv 7) pa_nil)))))))
      (pss_cons (ps_set (i := 4) scLaw.nd rfl (Or.inl rfl) (pe_joinK K pe_str (pe_lc (own := [("_law_line", 5)]) (g := gName 5) (tt := tYes) rfl scLaw.nd (pi_listK K (pv 3)) (blkOk_by (own := [("_law_line", 5)]) (N := ["_law_script", "_law_row", "_law_table_here", "_law_lines", "_law_text", "_law_line", "_law_y", "_law_answer"]) (sc := defScope sLaw) (by decide +kernel))
            (fun _ _ _ _ _ => pg_name (i := 5) scLaw.nd rfl (Or.inl rfl)) (fun _ _ _ _ _ => pts_nil)
            (fun _ _ _ _ _ => pe_op op_add_str (pv 5) pe_str))))
      (pss_cons (ps_if (PW.pt (pw_or (pt_cmpR op_ne (pe_call GW hr4 (by rfl) gW FW.kp bW .nil pass0 (pa_cons (pv 2) pa_nil)) (pv 4) (nomark _))
          (pw_or (pt_not (pt_val (pe_call GA hr3 (by rfl) gA FA.kp bA .nil pass0 (pa_cons (pe_call GR hr4 (by rfl) gR FR.kp bR .nil pass0 (pa_cons (pv 4) pa_nil)) (pa_cons (pv 2) pa_nil)))))
          (pw_or1 (pt_cmpR op_ne (pe_meth0 (pe_make M GI hr5 (by rfl) D.gC bI .nil pass0 (pa_cons (pv 2) pa_nil)) D.cl mDT GDT hr2 bDT .nil pass0) (pv 4) (nomark _)))))) (pss_one ps_never) pss_nil)
      (pss_one (ps_ret (pe_and (pe_cmpR (op_eqD hr.units) (pe_meth0 (pe_call GDO hr (by rfl) gDO FDO.kp bDO .nil pass0 (pa_cons (pv 4) pa_nil)) D.cl mPa GPa hr1 bPa .nil pass0) (pe_call GLW hr1 (by rfl) gLW FLW.kp bLW .nil pass0 (pa_cons (pv 2) pa_nil)) (nomark _))
        (pe_one (pe_cmpR (op_eqD hr.units) (pe_meth0 (pe_call GDO hr (by rfl) gDO FDO.kp bDO .nil pass0 (pa_cons (pv 4) pa_nil)) D.cl mSa GSa hr1 bSa .nil pass0) (pe_tup pa_nil) (nomark _)))))))))), ?_⟩
    -- _law_row
    refine ⟨.ref a, rfl, ?_, fun p np => ?_⟩
    · show 4 ≤ sizeLine
      rw [sizeLine_eq]
      decide
    have hd1 : DrawAt K (upd H p (.lst [.ref a, .int 0, .int 7735, .int 0])) p a := draw_new np hS (by decide) (by decide) (by decide)
    revert hd1
    show DrawAt K (upd H p (.lst [.ref a, .int 0, .int 7735, .int 0])) p a → tSeq _ _ _ _ (upd H p (.lst [.ref a, .int 0, .int 7735, .int 0]))
    generalize upd H p (.lst [.ref a, .int 0, .int 7735, .int 0]) = H1
    intro hd1
    -- _law_table_here
    refine ⟨.ref p, rfl, p, a, rfl, hd1, fun H2 t0 T0 c b2 r2 hT0 tb0 => ?_⟩
    have hd2 := hd1.next b2 r2
    obtain ⟨xs0, hA0, hP0⟩ := hT0
    have l0 := hP0.length
    have t1 := tb0.r1
    have t6 := tb0.r6
    have c1 := tb0.c1
    have c6 := tb0.c6
    obtain ⟨ys2, hp2⟩ := r2.there
    refine ⟨t0, rfl, ⟨_, SqT.of hA0⟩, fun DD hD => ?_⟩
    have pD : p ≠ DD := ne_of_none hp2 hD
    refine lc_tupA (K := K) (xs := xs0) (fun acc H5 => But p H2 H5 ∧ RowP H5 p a ∧ ∃ T : List (List Int), Paired (RowAt H5) acc T ∧ ∀ r ∈ T, r.length = c ∧ ∀ n ∈ r, Sm n) (fun _ => rfl) (by rw [sizeLine_eq]; omega)
      ⟨but_fill hD (.refl _ _), r2.ne pD, [], .nil, fun r h => by simp at h⟩ (fun acc H5 _ ⟨b5, _, _⟩ => SqT.of (at_keep b5 hp2 hA0 (fun z => by cases z))) (fun acc x H5 Q' hx d5 ⟨b5, r5, T, pT, hT⟩ cont => ?_) (fun acc H5 hlen d5 ⟨b5, r5, T, pT, hT⟩ => ?_)
    · obtain ⟨b, r0, hr0, rfl, hb⟩ := row_of hP0 hx
      have hrl := tb0.row r0 (List.mem_of_getElem? hr0)
      have hb5 : H5 b = some (.tup (r0.map V.int)) := at_keep b5 hp2 hb (fun z => by cases z)
      obtain ⟨ys5, hp5⟩ := r5.there
      refine ⟨.ref b, rfl, b, rfl, ⟨_, SqT.of hb5⟩, fun D2 hD2 => ?_⟩
      have pD2 : p ≠ D2 := ne_of_none hp5 hD2
      refine lc_tupA (K := K) (xs := r0.map V.int) (fun acc2 H6 => But p H5 H6 ∧ RowP H6 p a ∧ ∃ r : List Int, acc2 = r.map V.int ∧ ∀ n ∈ r, Sm n) (fun _ => rfl) (by rw [List.length_map, sizeLine_eq]; omega)
        ⟨but_fill hD2 (.refl _ _), r5.ne pD2, [], rfl, fun n h => by simp at h⟩ (fun acc2 H6 _ ⟨b6, _, _⟩ => SqT.of (at_keep b6 hp5 hb5 (fun z => by cases z))) (fun acc2 x H6 Q2 hx2 d6 ⟨b6, r6, r, er, hr2'⟩ cont2 => ?_) (fun acc2 H6 hlen2 d6 ⟨b6, r6, r, er, hr2'⟩ => ?_)
      · refine ⟨.ref p, rfl, ?_, fun m nm' => ?_⟩
        · show 5 ≤ sizeLine
          rw [sizeLine_eq]
          decide
        obtain ⟨ys6, hp6⟩ := r6.there
        have s7 : Same H6 (upd H6 m (.lst menu)) := same_upd nm'
        have pm : m ≠ p := (ne_of_none hp6 nm').symm
        have b67 : But p H6 (upd H6 m (.lst menu)) := .of s7
        refine ⟨p, a, m, menu, rfl, (hd2.next (b5.trans b6) r6).next b67 (r6.same s7), upd_same, pm, by decide, by decide, fun H8 v b8 r8 hv => ?_⟩
        obtain ⟨n, rfl, hn⟩ := menu_sm hv
        have b68 := b67.trans b8
        refine cont2 (.int n) H8 (b68 _ _ pD2.symm d6) ⟨but_fill hD2 (b6.trans b68), r8.ne pD2, r ++ [n], by rw [er, List.map_append]; rfl, fun n' hn' => ?_⟩
        rcases List.mem_append.mp hn' with hn' | hn'
        · exact hr2' n' hn'
        · rw [List.mem_singleton.mp hn']
          exact hn
      · refine ⟨D2, acc2, rfl, .inl ⟨SqL.of d6, fun t2 nt2 => ?_⟩⟩
        have s7 : Same H6 (upd H6 t2 (.tup acc2)) := same_upd nt2
        have h7 : (upd H6 t2 (.tup acc2)) t2 = some (.tup acc2) := upd_same
        revert s7 h7
        generalize upd H6 t2 (.tup acc2) = H7
        intro s7 h7
        have b57 : But p H5 H7 := b6.trans (.of s7)
        have d7 : H7 DD = some (.lst acc) := b57 _ _ pD.symm d5
        refine cont (.ref t2) H7 d7 ⟨but_fill hD (b5.trans b57), (r6.same s7).ne pD, T ++ [r], ?_, fun r' hr' => ?_⟩
        · refine psnoc (pmap pT fun _ _ h => (h.but b57 hp5).but .upd d7) (RowAt.but .upd d7 ⟨t2, rfl, ?_⟩)
          rw [h7, er]
        · rcases List.mem_append.mp hr' with hr' | hr'
          · exact hT r' hr'
          · rw [List.mem_singleton.mp hr']
            refine ⟨?_, hr2'⟩
            rw [er, List.length_map, List.length_map] at hlen2
            omega
    refine ⟨DD, acc, rfl, .inl ⟨SqL.of d5, fun t nt => ?_⟩⟩
    have s6 : Same H5 (upd H5 t (.tup acc)) := same_upd nt
    have hTl : T.length = T0.length := by
      have e1 := pT.length
      omega
    have tb : Tab T c := ⟨by omega, by omega, c1, c6, fun r h => (hT r h).1, fun r h => (hT r h).2⟩
    have hTT : TabAt (upd H5 t (.tup acc)) t T := ⟨acc, upd_same, pmap pT fun _ _ h => h.same s6⟩
    revert hTT
    generalize upd H5 t (.tup acc) = H9
    intro hTT
    obtain ⟨xs, hA, hP⟩ := id hTT
    have hx : xs.length = T.length := hP.length
    have r1 := tb.r1
    have r6 := tb.r6
    have hz : xs.length ≤ sizeLine := by rw [sizeLine_eq]; omega
    -- _law_lines
    refine ⟨.ref t, rfl, t, xs, rfl, .inr (SqT.of hA), (xs.length : Int), rfl, log_small (by unfold Sm; omega), rowsB, nm (xs.length : Int), rfl, rfl, ?_, ?_, fun l nl' => ?_⟩
    · have h1 := nm_len (n := (xs.length : Int)) (by unfold Sm; omega)
      rw [rowsB_len, sizeLine_eq]
      omega
    · show 1 ≤ sizeLine
      rw [sizeLine_eq]
      decide
    have s0 := same_upd (o := .lst [.str (rowsB ++ nm (xs.length : Int))]) nl'
    refine ⟨.ref t, rfl, t, rfl, ⟨_, SqT.of (s0 _ _ hA)⟩, fun D1 hD1 => lc_tupK (xs := xs) ((T.map rowT).map V.str) (fun _ => rfl) hD1 hz (by simp [hx]) (SqT.of (s0 _ _ hA)) (fun i x y H1' Q' hx1 hy s1 q1 => ?_) (fun H1' s1 d1 => ?_)⟩
    · obtain ⟨b, r, hr1', rfl, hb⟩ := row_of hP hx1
      have ey : y = .str (rowT r) := by
        rw [List.getElem?_map, List.getElem?_map, hr1'] at hy
        exact (Option.some.inj hy).symm
      subst ey
      have hrm := List.mem_of_getElem? hr1'
      have hrl : r.length = c := tb.row r hrm
      have hb1 := s1 _ _ (s0 _ _ hb)
      refine ⟨⟨_, rfl⟩, .ref b, rfl, b, rfl, ⟨_, SqT.of hb1⟩, fun D2 hD2 => lc_tupK (xs := r.map V.int) ((r.map nm).map V.str) (fun _ => rfl) hD2 (by rw [List.length_map, sizeLine_eq]; omega) (by simp) (SqT.of hb1) (fun j x y H2' Q2 hx2 hy2 s2 q2 => ?_) (fun H2' s2 d2 => ?_)⟩
      · rw [List.getElem?_map] at hx2
        rw [List.getElem?_map, List.getElem?_map] at hy2
        cases hj : r[j]? with
        | none => rw [hj] at hx2; cases hx2
        | some n =>
          rw [hj] at hx2 hy2
          have e1 : V.int n = x := Option.some.inj hx2
          have e2 : V.str (nm n) = y := Option.some.inj hy2
          subst e1 e2
          exact ⟨.int n, rfl, n, rfl, log_small (tb.sm r hrm n (List.mem_of_getElem? hj)), q2 _ (.refl _)⟩
      · refine ⟨sp, D2, r.map nm, rfl, rfl, .inl (SqL.of d2), ?_, q1 _ s2⟩
        have h1 := lens_sum (ps := r.map nm) (k := 2) fun p hp => by
          obtain ⟨n, hn, rfl⟩ := List.mem_map.mp hp
          exact nm_len (tb.sm r hrm n hn)
        rw [sp_len]
        rw [List.length_map] at h1 ⊢
        omega
    have sl : H1' l = some (.lst [.str (rowsB ++ nm (xs.length : Int))]) := s1 _ _ upd_same
    refine ⟨l, D1, [.str (rowsB ++ nm (xs.length : Int))], (T.map rowT).map V.str, rfl, rfl, sl, d1, ?_, fun pl npl => ?_⟩
    · rw [List.length_map, List.length_map, sizeLine_eq]
      show 1 + T.length ≤ _
      omega
    have el : [.str (rowsB ++ nm (xs.length : Int))] ++ (T.map rowT).map V.str = (linesT T).map V.str := by
      rw [hx]
      rfl
    rw [el]
    have s2 := (s0.trans s1).trans (same_upd (o := .lst ((linesT T).map V.str)) npl)
    -- _law_text
    have hpl : SqL K (upd H1' pl (.lst ((linesT T).map V.str))) pl ((linesT T).map V.str) := SqL.of upd_same
    refine ⟨⟨_, rfl⟩, .ref pl, rfl, pl, rfl, ⟨_, hpl⟩, fun D2 hD2 => lc_listK (xs := (linesT T).map V.str) (((linesT T).map (· ++ nl)).map V.str) (fun _ => rfl) hD2 (by rw [List.length_map, lines_len, sizeLine_eq]; omega) (by simp) hpl (fun i x y H2' Q2 hx2 hy2 s3 q2 => ?_) (fun H2' s3 d2 => ?_)⟩
    · rw [List.getElem?_map] at hx2
      rw [List.getElem?_map, List.getElem?_map] at hy2
      cases hj : (linesT T)[i]? with
      | none => rw [hj] at hx2; cases hx2
      | some z =>
        rw [hj] at hx2 hy2
        have e1 : V.str z = x := Option.some.inj hx2
        have e2 : V.str (z ++ nl) = y := Option.some.inj hy2
        subst e1 e2
        have hl := tb.lines z (List.mem_of_getElem? hj)
        exact ⟨.str z, rfl, z, nl, rfl, rfl, by rw [nl_len, sizeLine_eq]; omega, q2 _ (.refl _)⟩
    refine ⟨em, D2, (linesT T).map (· ++ nl), rfl, rfl, .inl (SqL.of d2), ?_, ?_⟩
    · have h1 := lens_sum tb.linesN
      rw [em_len]
      rw [List.length_map, lines_len] at h1 ⊢
      omega
    have hT3 : TabAt H2' t T := hTT.same (s2.trans s3)
    have neF : ∀ z : Str, (!decide (V.str z = V.str z)) = false := fun z => by rw [decide_eq_true rfl]; rfl
    have nT1 : ¬ ("text" : Str) = "table" := by decide +kernel
    have nT2 : ¬ ("text" : Str) = "left" := by decide +kernel
    have nT3 : ¬ ("text" : Str) = "told" := by decide +kernel
    have nP1 : ¬ ("part" : Str) = "table" := by decide +kernel
    have nP2 : ¬ ("part" : Str) = "left" := by decide +kernel
    have nP3 : ¬ ("part" : Str) = "told" := by decide +kernel
    have nS1 : ¬ ("said" : Str) = "table" := by decide +kernel
    have nS2 : ¬ ("said" : Str) = "left" := by decide +kernel
    have nS3 : ¬ ("said" : Str) = "told" := by decide +kernel
    -- write_table(..) != _law_text
    refine ⟨.ref t, rfl, t, T, c, rfl, hT3, tb, fun H3 s3' => ⟨.str (textT T), rfl, rfl, _, rfl, ifF (neF _) ?_⟩⟩
    have hT4 := hT3.same s3'
    -- _law_alike(read_table(..), ..)
    refine ⟨.str (textT T), rfl, T, c, rfl, tb, fun H4 t2 s4 hT2 => ?_⟩
    have hT5 := hT4.same s4
    refine ⟨.ref t, rfl, .ref t2, .ref t, rfl, alike_rows tb hT2 hT5, fun H5' s5 => ⟨true, rfl, ifF rfl ?_⟩⟩
    have hT6 := hT5.same s5
    -- Desk(..).text() != _law_text
    refine ⟨.ref t, rfl, fun x dx nx ndx nex => ⟨x, dx, t, T, c, rfl, upd_same, hT6.same (same_base nx ndx), tb, fun H6 b6 hdk => ⟨rfl, ?_⟩⟩⟩
    have hT7 := hT6.same (same_made nx ndx b6)
    obtain ⟨dx1, a1, p1, l1, hx1, _, _, _⟩ := id hdk
    refine ⟨x, dx1, flds a1 p1 l1, rfl, hx1, fld_no a1 p1 l1 nT1 nT2 nT3, x, T, c, rfl, hdk, tb, fun H7 s7 => ⟨.str (textT T), rfl, rfl, _, rfl, ifF (neF _) ?_⟩⟩
    have hT8 := hT7.same s7
    -- desk_of(..).part() == _law_whole(..)
    refine ⟨.str (textT T), rfl, T, c, rfl, tb, fun H8 x2 s8 hd8 => ?_⟩
    obtain ⟨dx2, a2, p2, l2, hx2, _, _, _⟩ := id hd8
    refine ⟨x2, dx2, flds a2 p2 l2, rfl, hx2, fld_no a2 p2 l2 nP1 nP2 nP3, x2, T, c, rfl, hd8, fun pp hw => ?_⟩
    refine ⟨.ref t, rfl, t, T, c, rfl, hT8.same s8, tb, fun H10 p3 s10 hw3 => ?_⟩
    refine ⟨wholeD T.length c, wholeD T.length c, dp_whole (hw.same s10), dp_whole hw3, shaped_whole _ _, shaped_whole _ _, true, ?_, ?_⟩
    · rw [eqv_whole]
    -- desk_of(..).said() == ()
    refine ⟨.str (textT T), rfl, T, c, rfl, tb, fun H11 x3 s11 hd11 => ?_⟩
    obtain ⟨dx3, a3, p4, l3, hx3, _, _, _⟩ := id hd11
    refine ⟨x3, dx3, flds a3 p4 l3, rfl, hx3, fld_no a3 p4 l3 nS1 nS2 nS3, x3, T, c, rfl, hd11, fun H12 ps s12 hps => ?_⟩
    refine ⟨Nat.zero_le _, fun e ne => ?_⟩
    have s13 := same_upd (o := .tup []) ne
    refine ⟨.tuple [], .tuple [], .tup (SqT.of (s13 _ _ hps)) .nil, .tup (SqT.of upd_same) .nil, shaped_nilT, shaped_nilT, ?_⟩
    show Q (.bl (PyData.eqv (.tuple []) (.tuple []))) _
    rw [eqv_nilT]
    exact q _
end
end NT
namespace NT
open PySem PySem.Spec PyProof.Rows L2 TL
/-! ### what the top has written -/
theorem all_mk {l : PySem.W.OpenLaw} {w : World} {K : PySem.W.Frag} {h : Heap} {mg : Str → Option Value} {fa C fNum fFrom fIsT fNeed fWhole fText fWrite fLines fNums fTabIn fRead fDeskOf fTaken fPick fAlike fLTab fLWhole fLaw fInit fPart fSaid fDText : Addr} (X : K.In h) (G : h.Ns mainGlobals mg) (hfa : mg "law" = some (.ref fa))
    {odNum anNum : Option Addr} {slNum : Array (Option Value)} {ocNum kVNum dcNum pmNum cdNum ctNum : Value}
    {odFrom anFrom : Option Addr} {slFrom : Array (Option Value)} {ocFrom kVFrom dcFrom pmFrom cdFrom ctFrom : Value}
    {odIsT anIsT : Option Addr} {slIsT : Array (Option Value)} {ocIsT kVIsT dcIsT pmIsT cdIsT ctIsT : Value}
    {odNeed anNeed : Option Addr} {slNeed : Array (Option Value)} {ocNeed kVNeed dcNeed pmNeed cdNeed ctNeed : Value}
    {odWhole anWhole : Option Addr} {slWhole : Array (Option Value)} {ocWhole kVWhole dcWhole pmWhole cdWhole ctWhole : Value}
    {odText anText : Option Addr} {slText : Array (Option Value)} {ocText kVText dcText pmText cdText ctText : Value}
    {odWrite anWrite : Option Addr} {slWrite : Array (Option Value)} {ocWrite kVWrite dcWrite pmWrite cdWrite ctWrite : Value}
    {odLines anLines : Option Addr} {slLines : Array (Option Value)} {ocLines kVLines dcLines pmLines cdLines ctLines : Value}
    {odNums anNums : Option Addr} {slNums : Array (Option Value)} {ocNums kVNums dcNums pmNums cdNums ctNums : Value}
    {odTabIn anTabIn : Option Addr} {slTabIn : Array (Option Value)} {ocTabIn kVTabIn dcTabIn pmTabIn cdTabIn ctTabIn : Value}
    {odRead anRead : Option Addr} {slRead : Array (Option Value)} {ocRead kVRead dcRead pmRead cdRead ctRead : Value}
    {odDeskOf anDeskOf : Option Addr} {slDeskOf : Array (Option Value)} {ocDeskOf kVDeskOf dcDeskOf pmDeskOf cdDeskOf ctDeskOf : Value}
    {odTaken anTaken : Option Addr} {slTaken : Array (Option Value)} {ocTaken kVTaken dcTaken pmTaken cdTaken ctTaken : Value}
    {odPick anPick : Option Addr} {slPick : Array (Option Value)} {ocPick kVPick dcPick pmPick cdPick ctPick : Value}
    {odAlike anAlike : Option Addr} {slAlike : Array (Option Value)} {ocAlike kVAlike dcAlike pmAlike cdAlike ctAlike : Value}
    {odLTab anLTab : Option Addr} {slLTab : Array (Option Value)} {ocLTab kVLTab dcLTab pmLTab cdLTab ctLTab : Value}
    {odLWhole anLWhole : Option Addr} {slLWhole : Array (Option Value)} {ocLWhole kVLWhole dcLWhole pmLWhole cdLWhole ctLWhole : Value}
    {odLaw anLaw : Option Addr} {slLaw : Array (Option Value)} {ocLaw kVLaw dcLaw pmLaw cdLaw ctLaw : Value}
    {odInit anInit : Option Addr} {slInit : Array (Option Value)} {ocInit kVInit dcInit pmInit cdInit ctInit : Value}
    {odPart anPart : Option Addr} {slPart : Array (Option Value)} {ocPart kVPart dcPart pmPart cdPart ctPart : Value}
    {odSaid anSaid : Option Addr} {slSaid : Array (Option Value)} {ocSaid kVSaid dcSaid pmSaid cdSaid ctSaid : Value}
    {odDText anDText : Option Addr} {slDText : Array (Option Value)} {ocDText kVDText dcDText pmDText cdDText ctDText : Value}
    {tSix tMost tFig : Tok}
    (aC : PySem.W.nsIn K mainGlobals "Desk" = some (some (.ref C)))
    (aNum : PySem.W.nsIn K mainGlobals "number_of" = some (some (.ref fNum)))
    (lNum : K.lookup fNum = some ⟨ocNum, odNum, .func (PySem.W.fnOf "number_of" "number_of" (defArgs sNum) (defBody sNum) (defScope sNum) .none kVNum dcNum pmNum anNum cdNum ctNum), slNum⟩) (cNum : PySem.W.codeIn K cdNum "number_of" = true) (kNum : PySem.W.keepIn K (.ref fNum) = true)
    (aFrom : PySem.W.nsIn K mainGlobals "is_from" = some (some (.ref fFrom)))
    (lFrom : K.lookup fFrom = some ⟨ocFrom, odFrom, .func (PySem.W.fnOf "is_from" "is_from" (defArgs sFrom) (defBody sFrom) (defScope sFrom) .none kVFrom dcFrom pmFrom anFrom cdFrom ctFrom), slFrom⟩) (cFrom : PySem.W.codeIn K cdFrom "is_from" = true) (kFrom : PySem.W.keepIn K (.ref fFrom) = true)
    (aIsT : PySem.W.nsIn K mainGlobals "is_table" = some (some (.ref fIsT)))
    (lIsT : K.lookup fIsT = some ⟨ocIsT, odIsT, .func (PySem.W.fnOf "is_table" "is_table" (defArgs sIsT) (defBody sIsT) (defScope sIsT) .none kVIsT dcIsT pmIsT anIsT cdIsT ctIsT), slIsT⟩) (cIsT : PySem.W.codeIn K cdIsT "is_table" = true) (kIsT : PySem.W.keepIn K (.ref fIsT) = true)
    (aNeed : PySem.W.nsIn K mainGlobals "need_table" = some (some (.ref fNeed)))
    (lNeed : K.lookup fNeed = some ⟨ocNeed, odNeed, .func (PySem.W.fnOf "need_table" "need_table" (defArgs sNeed) (defBody sNeed) (defScope sNeed) .none kVNeed dcNeed pmNeed anNeed cdNeed ctNeed), slNeed⟩) (cNeed : PySem.W.codeIn K cdNeed "need_table" = true) (kNeed : PySem.W.keepIn K (.ref fNeed) = true)
    (aWhole : PySem.W.nsIn K mainGlobals "whole" = some (some (.ref fWhole)))
    (lWhole : K.lookup fWhole = some ⟨ocWhole, odWhole, .func (PySem.W.fnOf "whole" "whole" (defArgs sWhole) (defBody sWhole) (defScope sWhole) .none kVWhole dcWhole pmWhole anWhole cdWhole ctWhole), slWhole⟩) (cWhole : PySem.W.codeIn K cdWhole "whole" = true) (kWhole : PySem.W.keepIn K (.ref fWhole) = true)
    (aText : PySem.W.nsIn K mainGlobals "table_text" = some (some (.ref fText)))
    (lText : K.lookup fText = some ⟨ocText, odText, .func (PySem.W.fnOf "table_text" "table_text" (defArgs sText) (defBody sText) (defScope sText) .none kVText dcText pmText anText cdText ctText), slText⟩) (cText : PySem.W.codeIn K cdText "table_text" = true) (kText : PySem.W.keepIn K (.ref fText) = true)
    (aWrite : PySem.W.nsIn K mainGlobals "write_table" = some (some (.ref fWrite)))
    (lWrite : K.lookup fWrite = some ⟨ocWrite, odWrite, .func (PySem.W.fnOf "write_table" "write_table" (defArgs sWrite) (defBody sWrite) (defScope sWrite) .none kVWrite dcWrite pmWrite anWrite cdWrite ctWrite), slWrite⟩) (cWrite : PySem.W.codeIn K cdWrite "write_table" = true) (kWrite : PySem.W.keepIn K (.ref fWrite) = true)
    (aLines : PySem.W.nsIn K mainGlobals "lines_of" = some (some (.ref fLines)))
    (lLines : K.lookup fLines = some ⟨ocLines, odLines, .func (PySem.W.fnOf "lines_of" "lines_of" (defArgs sLines) (defBody sLines) (defScope sLines) .none kVLines dcLines pmLines anLines cdLines ctLines), slLines⟩) (cLines : PySem.W.codeIn K cdLines "lines_of" = true) (kLines : PySem.W.keepIn K (.ref fLines) = true)
    (aNums : PySem.W.nsIn K mainGlobals "numbers_in" = some (some (.ref fNums)))
    (lNums : K.lookup fNums = some ⟨ocNums, odNums, .func (PySem.W.fnOf "numbers_in" "numbers_in" (defArgs sNums) (defBody sNums) (defScope sNums) .none kVNums dcNums pmNums anNums cdNums ctNums), slNums⟩) (cNums : PySem.W.codeIn K cdNums "numbers_in" = true) (kNums : PySem.W.keepIn K (.ref fNums) = true)
    (aTabIn : PySem.W.nsIn K mainGlobals "table_in" = some (some (.ref fTabIn)))
    (lTabIn : K.lookup fTabIn = some ⟨ocTabIn, odTabIn, .func (PySem.W.fnOf "table_in" "table_in" (defArgs sTabIn) (defBody sTabIn) (defScope sTabIn) .none kVTabIn dcTabIn pmTabIn anTabIn cdTabIn ctTabIn), slTabIn⟩) (cTabIn : PySem.W.codeIn K cdTabIn "table_in" = true) (kTabIn : PySem.W.keepIn K (.ref fTabIn) = true)
    (aRead : PySem.W.nsIn K mainGlobals "read_table" = some (some (.ref fRead)))
    (lRead : K.lookup fRead = some ⟨ocRead, odRead, .func (PySem.W.fnOf "read_table" "read_table" (defArgs sRead) (defBody sRead) (defScope sRead) .none kVRead dcRead pmRead anRead cdRead ctRead), slRead⟩) (cRead : PySem.W.codeIn K cdRead "read_table" = true) (kRead : PySem.W.keepIn K (.ref fRead) = true)
    (aDeskOf : PySem.W.nsIn K mainGlobals "desk_of" = some (some (.ref fDeskOf)))
    (lDeskOf : K.lookup fDeskOf = some ⟨ocDeskOf, odDeskOf, .func (PySem.W.fnOf "desk_of" "desk_of" (defArgs sDeskOf) (defBody sDeskOf) (defScope sDeskOf) .none kVDeskOf dcDeskOf pmDeskOf anDeskOf cdDeskOf ctDeskOf), slDeskOf⟩) (cDeskOf : PySem.W.codeIn K cdDeskOf "desk_of" = true) (kDeskOf : PySem.W.keepIn K (.ref fDeskOf) = true)
    (aTaken : PySem.W.nsIn K mainGlobals "_law_taken" = some (some (.ref fTaken)))
    (lTaken : K.lookup fTaken = some ⟨ocTaken, odTaken, .func (PySem.W.fnOf "_law_taken" "_law_taken" (defArgs sTaken) (defBody sTaken) (defScope sTaken) .none kVTaken dcTaken pmTaken anTaken cdTaken ctTaken), slTaken⟩) (cTaken : PySem.W.codeIn K cdTaken "_law_taken" = true) (kTaken : PySem.W.keepIn K (.ref fTaken) = true)
    (aPick : PySem.W.nsIn K mainGlobals "_law_pick" = some (some (.ref fPick)))
    (lPick : K.lookup fPick = some ⟨ocPick, odPick, .func (PySem.W.fnOf "_law_pick" "_law_pick" (defArgs sPick) (defBody sPick) (defScope sPick) .none kVPick dcPick pmPick anPick cdPick ctPick), slPick⟩) (cPick : PySem.W.codeIn K cdPick "_law_pick" = true) (kPick : PySem.W.keepIn K (.ref fPick) = true)
    (aAlike : PySem.W.nsIn K mainGlobals "_law_alike" = some (some (.ref fAlike)))
    (lAlike : K.lookup fAlike = some ⟨ocAlike, odAlike, .func (PySem.W.fnOf "_law_alike" "_law_alike" (defArgs sAlike) (defBody sAlike) (defScope sAlike) .none kVAlike dcAlike pmAlike anAlike cdAlike ctAlike), slAlike⟩) (cAlike : PySem.W.codeIn K cdAlike "_law_alike" = true) (kAlike : PySem.W.keepIn K (.ref fAlike) = true)
    (aLTab : PySem.W.nsIn K mainGlobals "_law_table" = some (some (.ref fLTab)))
    (lLTab : K.lookup fLTab = some ⟨ocLTab, odLTab, .func (PySem.W.fnOf "_law_table" "_law_table" (defArgs sLTab) (defBody sLTab) (defScope sLTab) .none kVLTab dcLTab pmLTab anLTab cdLTab ctLTab), slLTab⟩) (cLTab : PySem.W.codeIn K cdLTab "_law_table" = true) (kLTab : PySem.W.keepIn K (.ref fLTab) = true)
    (aLWhole : PySem.W.nsIn K mainGlobals "_law_whole" = some (some (.ref fLWhole)))
    (lLWhole : K.lookup fLWhole = some ⟨ocLWhole, odLWhole, .func (PySem.W.fnOf "_law_whole" "_law_whole" (defArgs sLWhole) (defBody sLWhole) (defScope sLWhole) .none kVLWhole dcLWhole pmLWhole anLWhole cdLWhole ctLWhole), slLWhole⟩) (cLWhole : PySem.W.codeIn K cdLWhole "_law_whole" = true) (kLWhole : PySem.W.keepIn K (.ref fLWhole) = true)
    (aLaw : PySem.W.nsIn K mainGlobals "law" = some (some (.ref fLaw)))
    (lLaw : K.lookup fLaw = some ⟨ocLaw, odLaw, .func (PySem.W.fnOf "law" "law" (defArgs sLaw) (defBody sLaw) (defScope sLaw) .none kVLaw dcLaw pmLaw anLaw cdLaw ctLaw), slLaw⟩) (cLaw : PySem.W.codeIn K cdLaw "law" = true) (kLaw : PySem.W.keepIn K (.ref fLaw) = true)
    (aInit : PySem.W.findIn K (.ref C) "__init__" = some (some (.ref fInit))) (iInit : PySem.W.isFn K (.ref fInit) = true)
    (lInit : K.lookup fInit = some ⟨ocInit, odInit, .func (PySem.W.fnOf "__init__" "Desk.__init__" (defArgs sInit) (defBody sInit) (defScope sInit) .none kVInit dcInit pmInit anInit cdInit ctInit), slInit⟩) (cInit : PySem.W.codeIn K cdInit "Desk.__init__" = true) (kInit : PySem.W.keepIn K (.ref fInit) = true)
    (aPart : PySem.W.findIn K (.ref C) "part" = some (some (.ref fPart))) (iPart : PySem.W.isFn K (.ref fPart) = true)
    (lPart : K.lookup fPart = some ⟨ocPart, odPart, .func (PySem.W.fnOf "part" "Desk.part" (defArgs sPart) (defBody sPart) (defScope sPart) .none kVPart dcPart pmPart anPart cdPart ctPart), slPart⟩) (cPart : PySem.W.codeIn K cdPart "Desk.part" = true) (kPart : PySem.W.keepIn K (.ref fPart) = true)
    (aSaid : PySem.W.findIn K (.ref C) "said" = some (some (.ref fSaid))) (iSaid : PySem.W.isFn K (.ref fSaid) = true)
    (lSaid : K.lookup fSaid = some ⟨ocSaid, odSaid, .func (PySem.W.fnOf "said" "Desk.said" (defArgs sSaid) (defBody sSaid) (defScope sSaid) .none kVSaid dcSaid pmSaid anSaid cdSaid ctSaid), slSaid⟩) (cSaid : PySem.W.codeIn K cdSaid "Desk.said" = true) (kSaid : PySem.W.keepIn K (.ref fSaid) = true)
    (aDText : PySem.W.findIn K (.ref C) "text" = some (some (.ref fDText))) (iDText : PySem.W.isFn K (.ref fDText) = true)
    (lDText : K.lookup fDText = some ⟨ocDText, odDText, .func (PySem.W.fnOf "text" "Desk.text" (defArgs sDText) (defBody sDText) (defScope sDText) .none kVDText dcDText pmDText anDText cdDText ctDText), slDText⟩) (cDText : PySem.W.codeIn K cdDText "Desk.text" = true) (kDText : PySem.W.keepIn K (.ref fDText) = true)
    (mk : PySem.W.makesIn K C = true) (kc : PySem.W.keepIn K (.ref C) = true) (pg : PySem.W.plainGet K C Str.empty = true) (hd : PySem.W.hasDictIn K C = true) (po : PySem.W.plainOver K C = true) (sa : PySem.W.findIn K (.ref C) "__setattr__" = some (some (.builtin "object.__setattr__")))
    (nT : PySem.W.findIn K (.ref C) "table" = some none) (nL : PySem.W.findIn K (.ref C) "left" = some none) (nD : PySem.W.findIn K (.ref C) "told" = some none)
    (zlen : PySem.W.nsIn K mainGlobals "len" = some none)
    (zrange : PySem.W.nsIn K mainGlobals "range" = some none)
    (ztuple : PySem.W.nsIn K mainGlobals "tuple" = some none)
    (zstr : PySem.W.nsIn K mainGlobals "str" = some none)
    (zany : PySem.W.nsIn K mainGlobals "any" = some none)
    (zall : PySem.W.nsIn K mainGlobals "all" = some none)
    (zisin : PySem.W.nsIn K mainGlobals "isinstance" = some none)
    (zint : PySem.W.nsIn K mainGlobals "int" = some none)
    (zlist : PySem.W.nsIn K mainGlobals "list" = some none)
    (zdict : PySem.W.nsIn K mainGlobals "dict" = some none)
    (zbool : PySem.W.nsIn K mainGlobals "bool" = some none)
    (zSix : PySem.W.nsIn K mainGlobals "MOST_THINGS" = some (some (.int 6 tSix))) (zMost : PySem.W.nsIn K mainGlobals "MOST_ANSWER" = some (some (.int 99 tMost))) (zFig : PySem.W.nsIn K mainGlobals "FIGURES" = some (some (.str FIG tFig))) :
    ∃ fd : FuncData, (∀ (s : Shared) (v : Value), BindsTo s fd ⟨[v], []⟩ [("_law_script", v)]) ∧ ∀ base : Heap, K.In base → base.Ns mainGlobals mg → FnOk l.prog w K mg base CX0 7 fa fd ["_law_script"] (spLaw K) := by
  have e := hfa.symm.trans (PySem.W.mg_of X G aLaw)
  cases e
  have Gl : Glb mg := ⟨PySem.W.mg_none_of X G zlen, PySem.W.mg_none_of X G zrange, PySem.W.mg_none_of X G ztuple, PySem.W.mg_none_of X G zstr, PySem.W.mg_none_of X G zany, PySem.W.mg_none_of X G zall, PySem.W.mg_none_of X G zisin, PySem.W.mg_none_of X G zint, PySem.W.mg_none_of X G zlist, PySem.W.mg_none_of X G zdict, PySem.W.mg_none_of X G zbool, ⟨_, PySem.W.mg_of X G zSix⟩, ⟨_, PySem.W.mg_of X G zMost⟩, ⟨_, PySem.W.mg_of X G zFig⟩⟩
  have D : DeskT K mg C := ⟨⟨pg, hd, po, sa⟩, nT, nL, nD, PySem.W.mg_of X G aC⟩
  have FNum := fun_mk (st := sNum) lNum cNum kNum
  have bNum := FNum.binds (ps := ["word", "least", "most"]) fun _ _ _ _ _ _ us hl => match us, hl with | [_, _, _], _ => rfl
  have gNum := PySem.W.mg_of X G aNum
  have FFrom := fun_mk (st := sFrom) lFrom cFrom kFrom
  have bFrom := FFrom.binds (ps := ["value", "least", "most"]) fun _ _ _ _ _ _ us hl => match us, hl with | [_, _, _], _ => rfl
  have gFrom := PySem.W.mg_of X G aFrom
  have FIsT := fun_mk (st := sIsT) lIsT cIsT kIsT
  have bIsT := FIsT.binds (ps := ["value"]) fun _ _ _ _ _ _ us hl => match us, hl with | [_], _ => rfl
  have gIsT := PySem.W.mg_of X G aIsT
  have FNeed := fun_mk (st := sNeed) lNeed cNeed kNeed
  have bNeed := FNeed.binds (ps := ["value"]) fun _ _ _ _ _ _ us hl => match us, hl with | [_], _ => rfl
  have gNeed := PySem.W.mg_of X G aNeed
  have FWhole := fun_mk (st := sWhole) lWhole cWhole kWhole
  have bWhole := FWhole.binds (ps := ["table"]) fun _ _ _ _ _ _ us hl => match us, hl with | [_], _ => rfl
  have gWhole := PySem.W.mg_of X G aWhole
  have FText := fun_mk (st := sText) lText cText kText
  have bText := FText.binds (ps := ["table"]) fun _ _ _ _ _ _ us hl => match us, hl with | [_], _ => rfl
  have gText := PySem.W.mg_of X G aText
  have FWrite := fun_mk (st := sWrite) lWrite cWrite kWrite
  have bWrite := FWrite.binds (ps := ["table"]) fun _ _ _ _ _ _ us hl => match us, hl with | [_], _ => rfl
  have gWrite := PySem.W.mg_of X G aWrite
  have FLines := fun_mk (st := sLines) lLines cLines kLines
  have bLines := FLines.binds (ps := ["text"]) fun _ _ _ _ _ _ us hl => match us, hl with | [_], _ => rfl
  have gLines := PySem.W.mg_of X G aLines
  have FNums := fun_mk (st := sNums) lNums cNums kNums
  have bNums := FNums.binds (ps := ["line", "least", "most"]) fun _ _ _ _ _ _ us hl => match us, hl with | [_, _, _], _ => rfl
  have gNums := PySem.W.mg_of X G aNums
  have FTabIn := fun_mk (st := sTabIn) lTabIn cTabIn kTabIn
  have bTabIn := FTabIn.binds (ps := ["lines", "rest"]) fun _ _ _ _ _ _ us hl => match us, hl with | [_, _], _ => rfl
  have gTabIn := PySem.W.mg_of X G aTabIn
  have FRead := fun_mk (st := sRead) lRead cRead kRead
  have bRead := FRead.binds (ps := ["text"]) fun _ _ _ _ _ _ us hl => match us, hl with | [_], _ => rfl
  have gRead := PySem.W.mg_of X G aRead
  have FDeskOf := fun_mk (st := sDeskOf) lDeskOf cDeskOf kDeskOf
  have bDeskOf := FDeskOf.binds (ps := ["text"]) fun _ _ _ _ _ _ us hl => match us, hl with | [_], _ => rfl
  have gDeskOf := PySem.W.mg_of X G aDeskOf
  have FTaken := fun_mk (st := sTaken) lTaken cTaken kTaken
  have bTaken := FTaken.binds (ps := ["_law_row", "_law_many"]) fun _ _ _ _ _ _ us hl => match us, hl with | [_, _], _ => rfl
  have gTaken := PySem.W.mg_of X G aTaken
  have FPick := fun_mk (st := sPick) lPick cPick kPick
  have bPick := FPick.binds (ps := ["_law_row", "_law_things"]) fun _ _ _ _ _ _ us hl => match us, hl with | [_, _], _ => rfl
  have gPick := PySem.W.mg_of X G aPick
  have FAlike := fun_mk (st := sAlike) lAlike cAlike kAlike
  have bAlike := FAlike.binds (ps := ["_law_found", "_law_due"]) fun _ _ _ _ _ _ us hl => match us, hl with | [_, _], _ => rfl
  have gAlike := PySem.W.mg_of X G aAlike
  have FLTab := fun_mk (st := sLTab) lLTab cLTab kLTab
  have bLTab := FLTab.binds (ps := ["_law_row", "_law_high", "_law_wide", "_law_many"]) fun _ _ _ _ _ _ us hl => match us, hl with | [_, _, _, _], _ => rfl
  have gLTab := PySem.W.mg_of X G aLTab
  have FLWhole := fun_mk (st := sLWhole) lLWhole cLWhole kLWhole
  have bLWhole := FLWhole.binds (ps := ["_law_table_here"]) fun _ _ _ _ _ _ us hl => match us, hl with | [_], _ => rfl
  have gLWhole := PySem.W.mg_of X G aLWhole
  have FLaw := fun_mk (st := sLaw) lLaw cLaw kLaw
  have FInit := fun_mk (st := sInit) lInit cInit kInit
  have bInit := FInit.binds (ps := ["self", "table"]) fun _ _ _ _ _ _ us hl => match us, hl with | [_, _], _ => rfl
  have FPart := fun_mk (st := sPart) lPart cPart kPart
  have bPart := FPart.binds (ps := ["self"]) fun _ _ _ _ _ _ us hl => match us, hl with | [_], _ => rfl
  have FSaid := fun_mk (st := sSaid) lSaid cSaid kSaid
  have bSaid := FSaid.binds (ps := ["self"]) fun _ _ _ _ _ _ us hl => match us, hl with | [_], _ => rfl
  have FDText := fun_mk (st := sDText) lDText cDText kDText
  have bDText := FDText.binds (ps := ["self"]) fun _ _ _ _ _ _ us hl => match us, hl with | [_], _ => rfl
  refine ⟨PySem.W.fnOf "law" "law" (defArgs sLaw) (defBody sLaw) (defScope sLaw) .none kVLaw dcLaw pmLaw anLaw cdLaw ctLaw, fun s v => .of_eq rfl, fun base _ _ => ?_⟩
  have GNeed : FnOk l.prog w K mg base CX0 3 fNeed _ ["value"] spNeed := ok_need FNeed FIsT bIsT gIsT (ok_isT FIsT Gl FFrom bFrom gFrom)
  have GText : FnOk l.prog w K mg base CX0 1 fText _ ["table"] spText := ok_text FText Gl
  have GNums : FnOk l.prog w K mg base CX0 2 fNums _ ["line", "least", "most"] spNums := ok_nums FNums Gl FNum bNum gNum
  have GTabIn : FnOk l.prog w K mg base CX0 3 fTabIn _ ["lines", "rest"] spTabIn := ok_tabIn FTabIn Gl FNum bNum gNum FNums bNums gNums GNums
  have GInit : FnOk l.prog w K mg base CX0 4 fInit _ ["self", "table"] (spInit C) := ok_init FInit Gl D FNeed bNeed gNeed GNeed FWhole bWhole gWhole
  have M : Mk K C fInit := ⟨mk, aInit, iInit, kc⟩
  exact ok_law FLaw Gl D FLTab bLTab gLTab (ok_ltab FLTab Gl FTaken bTaken gTaken) FPick bPick gPick (ok_pick FPick Gl FTaken bTaken gTaken)
    FWrite bWrite gWrite (ok_write FWrite FNeed bNeed gNeed GNeed FText bText gText GText)
    FAlike bAlike gAlike (ok_alikeT FAlike Gl bAlike gAlike (ok_alikeT FAlike Gl bAlike gAlike (ok_alike0 FAlike Gl)))
    FRead bRead gRead (ok_read FRead Gl FLines bLines gLines FTabIn bTabIn gTabIn GTabIn)
    M bInit GInit ⟨aDText, iDText, kDText⟩ bDText (ok_dtext FDText Gl D FSaid bSaid ⟨aSaid, iSaid, kSaid⟩ FText bText gText)
    FDeskOf bDeskOf gDeskOf (ok_deskOf FDeskOf Gl D FLines bLines gLines FTabIn bTabIn gTabIn GTabIn M bInit GInit)
    ⟨aPart, iPart, kPart⟩ bPart (ok_part FPart D) ⟨aSaid, iSaid, kSaid⟩ bSaid (ok_said FSaid Gl D)
    FLWhole bLWhole gLWhole (ok_lwhole FLWhole Gl)
end NT
open PySem PySem.W PyProof.Rows
set_option maxRecDepth 100000 in
set_option maxHeartbeats 0 in
theorem PySem.Challenge.cw_nomoretold_k35_whole_table_texts_holds : PySem.Challenge.rw_nomoretold_k35_whole_table_texts.Holds := by
  w_on; o_law; k_head; (case hw => w_witness2)
  k_fill
  refine L2.walk_of (l := PySem.Challenge.rw_nomoretold_k35_whole_table_texts) (n := 63) (k := 7) (x := "_law_script") (CX := fun _ => L2.CX0) (sp := fun w => NT.spLaw _) rfl (by decide) rfl ⟨rfl, by decide, by decide⟩ (fun w h Y => PySem.W.kIn_of Y) ?F (fun _ _ a ns hl hO hS => ⟨a, ns, rfl, hS, hO, fun _ => rfl⟩) (fun _ _ _ _ _ h => h)
  case F =>
    intro w mg fa h KX G hmg
    refine' NT.all_mk KX G hmg ?aC ?aNum ?lNum ?cNum ?kNum ?aFrom ?lFrom ?cFrom ?kFrom ?aIsT ?lIsT ?cIsT ?kIsT ?aNeed ?lNeed ?cNeed ?kNeed ?aWhole ?lWhole ?cWhole ?kWhole ?aText ?lText ?cText ?kText ?aWrite ?lWrite ?cWrite ?kWrite ?aLines ?lLines ?cLines ?kLines ?aNums ?lNums ?cNums ?kNums ?aTabIn ?lTabIn ?cTabIn ?kTabIn ?aRead ?lRead ?cRead ?kRead ?aDeskOf ?lDeskOf ?cDeskOf ?kDeskOf ?aTaken ?lTaken ?cTaken ?kTaken ?aPick ?lPick ?cPick ?kPick ?aAlike ?lAlike ?cAlike ?kAlike ?aLTab ?lLTab ?cLTab ?kLTab ?aLWhole ?lLWhole ?cLWhole ?kLWhole ?aLaw ?lLaw ?cLaw ?kLaw ?aInit ?iInit ?lInit ?cInit ?kInit ?aPart ?iPart ?lPart ?cPart ?kPart ?aSaid ?iSaid ?lSaid ?cSaid ?kSaid ?aDText ?iDText ?lDText ?cDText ?kDText ?mk ?kc ?pg ?hd ?po ?sa ?nT ?nL ?nD ?zlen ?zrange ?ztuple ?zstr ?zany ?zall ?zisin ?zint ?zlist ?zdict ?zbool ?zSix ?zMost ?zFig
    (case aC => k_is); (case aNum => k_is); (case lNum => k_is); (case cNum => k_is); (case kNum => k_is)
    (case aFrom => k_is); (case lFrom => k_is); (case cFrom => k_is); (case kFrom => k_is); (case aIsT => k_is)
    (case lIsT => k_is); (case cIsT => k_is); (case kIsT => k_is); (case aNeed => k_is); (case lNeed => k_is)
    (case cNeed => k_is); (case kNeed => k_is); (case aWhole => k_is); (case lWhole => k_is); (case cWhole => k_is)
    (case kWhole => k_is); (case aText => k_is); (case lText => k_is); (case cText => k_is); (case kText => k_is)
    (case aWrite => k_is); (case lWrite => k_is); (case cWrite => k_is); (case kWrite => k_is); (case aLines => k_is)
    (case lLines => k_is); (case cLines => k_is); (case kLines => k_is); (case aNums => k_is); (case lNums => k_is)
    (case cNums => k_is); (case kNums => k_is); (case aTabIn => k_is); (case lTabIn => k_is); (case cTabIn => k_is)
    (case kTabIn => k_is); (case aRead => k_is); (case lRead => k_is); (case cRead => k_is); (case kRead => k_is)
    (case aDeskOf => k_is); (case lDeskOf => k_is); (case cDeskOf => k_is); (case kDeskOf => k_is); (case aTaken => k_is)
    (case lTaken => k_is); (case cTaken => k_is); (case kTaken => k_is); (case aPick => k_is); (case lPick => k_is)
    (case cPick => k_is); (case kPick => k_is); (case aAlike => k_is); (case lAlike => k_is); (case cAlike => k_is)
    (case kAlike => k_is); (case aLTab => k_is); (case lLTab => k_is); (case cLTab => k_is); (case kLTab => k_is)
    (case aLWhole => k_is); (case lLWhole => k_is); (case cLWhole => k_is); (case kLWhole => k_is); (case aLaw => k_is)
    (case lLaw => k_is); (case cLaw => k_is); (case kLaw => k_is); (case aInit => k_is); (case iInit => k_is)
    (case lInit => k_is); (case cInit => k_is); (case kInit => k_is); (case aPart => k_is); (case iPart => k_is)
    (case lPart => k_is); (case cPart => k_is); (case kPart => k_is); (case aSaid => k_is); (case iSaid => k_is)
    (case lSaid => k_is); (case cSaid => k_is); (case kSaid => k_is); (case aDText => k_is); (case iDText => k_is)
    (case lDText => k_is); (case cDText => k_is); (case kDText => k_is); (case mk => k_is); (case kc => k_is)
    (case pg => k_is); (case hd => k_is); (case po => k_is); (case sa => k_is); (case nT => k_is)
    (case nL => k_is); (case nD => k_is); (case zlen => k_is); (case zrange => k_is); (case ztuple => k_is)
    (case zstr => k_is); (case zany => k_is); (case zall => k_is); (case zisin => k_is); (case zint => k_is)
    (case zlist => k_is); (case zdict => k_is); (case zbool => k_is); (case zSix => k_is); (case zMost => k_is)
    (case zFig => k_is)
