import PyProof.Rows.All
import Wide.All
import OpenK.AllK
import Wide.FinOn
import HandS.Base
import HandS.Call
import HandS.List
import HandS.Comp
import HandS.Ends
import HandS.Dict
import HandS.Iter
import HandS.Text
import HandS.Words
import HandS.WordsList
import HandS.WordsDict
import HandS.Style
import HandS.Zip
import HandS.Walk
import HandS.IsInst
import HandS.StrMore
import PySem.Challenge.RW_cardshop_k11_whole_dealt_in_order
set_option Elab.async false
set_option linter.all false
set_option maxRecDepth 100000
set_option maxHeartbeats 4000000
/-! K11, the plain mathematics: a dealing by a row of columns, and what it leaves in order. -/
namespace K11
open PySem

/-- the signs' codes, by rank -/
def sgns : List Nat := [32, 48, 49, 50, 51, 52, 53, 54, 55, 56, 57, 65, 66, 67, 68, 69, 70, 71, 72, 73, 74, 75, 76, 77, 78, 79, 80, 81, 82, 83, 84, 85, 86, 87, 88, 89, 90]
def rk (s : Nat) : Nat := sgns.idxOf s
theorem sgns_len : sgns.length = 37 := rfl
theorem rk_lt {s : Nat} (h : s ∈ sgns) : rk s < 37 := by
  have h1 := List.idxOf_lt_length_of_mem h
  rw [sgns_len] at h1
  exact h1
theorem rk_inj {s t : Nat} (hs : s ∈ sgns) (ht : t ∈ sgns) (e : rk s = rk t) : s = t := by
  have h1 := List.idxOf_lt_length_of_mem hs
  have h2 := List.idxOf_lt_length_of_mem ht
  have e1 : sgns[sgns.idxOf s] = s := List.getElem_idxOf h1
  have e2 : sgns[sgns.idxOf t] = t := List.getElem_idxOf h2
  have e3 : sgns.idxOf s = sgns.idxOf t := e
  rw [← e1, ← e2]
  congr 1

/-- the sign of a card in a column -/
def sg (c : Str) (j : Int) : Nat := c.cps.toList.getD (j - 1).toNat 0
def CardOk (c : Str) : Prop := c.cps.toList.length = 40 ∧ ∀ s, s ∈ c.cps.toList → s ∈ sgns
def ColOk (j : Int) : Prop := 1 ≤ j ∧ j ≤ 40
theorem sg_get {c : Str} {j : Int} (hc : CardOk c) (hj : ColOk j) : c.cps.toList[(j - 1).toNat]? = some (sg c j) := by
  have h1 : (j - 1).toNat < c.cps.toList.length := by
    have := hc.1
    have := hj.1
    have := hj.2
    omega
  unfold sg
  rw [List.getD_eq_getElem?_getD, List.getElem?_eq_getElem h1]
  rfl
theorem sg_mem {c : Str} {j : Int} (hc : CardOk c) (hj : ColOk j) : sg c j ∈ sgns := hc.2 _ (List.mem_of_getElem? (sg_get hc hj))

/-- the pocket of rank r -/
def pkt (j : Int) (r : Nat) (D : List Str) : List Str := D.filter fun c => rk (sg c j) == r
def deal (j : Int) (D : List Str) : List Str := ((List.range 37).map fun r => pkt j r D).flatten
def dealAll (D : List Str) (row : List Int) : List Str := row.foldl (fun d j => deal j d) D
/-- a card comes ahead of another one by a list of columns -/
def ahead (a b : Str) : List Int → Bool
  | [] => false
  | j :: r => if sg a j = sg b j then ahead a b r else decide (rk (sg a j) < rk (sg b j))

theorem pkt_nil (j : Int) (r : Nat) : pkt j r [] = [] := rfl
theorem pkt_snoc_same {j : Int} {r : Nat} {D : List Str} {c : Str} (h : rk (sg c j) = r) : pkt j r (D ++ [c]) = pkt j r D ++ [c] := by
  unfold pkt
  rw [List.filter_append]
  congr 1
  simp [h]
theorem pkt_snoc_other {j : Int} {r : Nat} {D : List Str} {c : Str} (h : rk (sg c j) ≠ r) : pkt j r (D ++ [c]) = pkt j r D := by
  unfold pkt
  rw [List.filter_append]
  have e : List.filter (fun c => rk (sg c j) == r) [c] = [] := by simp [h]
  rw [e, List.append_nil]

/-! ### the same cards -/
theorem flat_perm (f : Str → Nat) (D : List Str) : ∀ n : Nat, (((List.range n).map fun r => D.filter fun c => f c == r).flatten).Perm (D.filter fun c => decide (f c < n))
  | 0 => by
    have e : D.filter (fun c => decide (f c < 0)) = [] := by
      rw [List.filter_eq_nil_iff]
      intro a _
      simp
    rw [e]
    exact .nil
  | n + 1 => by
    rw [List.range_succ, List.map_append, List.flatten_append]
    have ih := flat_perm f D n
    have e1 : (List.map (fun r => D.filter fun c => f c == r) [n]).flatten = D.filter fun c => f c == n := by simp
    rw [e1]
    refine (List.Perm.append_right _ ih).trans ?_
    have e2 := List.filter_append_perm (fun c => decide (f c < n)) (D.filter fun c => decide (f c < n + 1))
    rw [List.filter_filter, List.filter_filter] at e2
    have e3 : (D.filter fun c => decide (f c < n) && decide (f c < n + 1)) = D.filter fun c => decide (f c < n) := by
      congr 1
      funext c
      rw [Bool.eq_iff_iff]
      simp
      omega
    have e4 : (D.filter fun c => !decide (f c < n) && decide (f c < n + 1)) = D.filter fun c => f c == n := by
      congr 1
      funext c
      rw [Bool.eq_iff_iff]
      simp
      omega
    rw [e3, e4] at e2
    exact e2
theorem deal_perm {j : Int} {D : List Str} (hD : ∀ c ∈ D, rk (sg c j) < 37) : (deal j D).Perm D := by
  have h := flat_perm (fun c => rk (sg c j)) D 37
  have e : (D.filter fun c => decide (rk (sg c j) < 37)) = D := List.filter_eq_self.mpr fun c hc => decide_eq_true (hD c hc)
  rw [e] at h
  exact h
theorem dealAll_nil (D : List Str) : dealAll D [] = D := rfl
theorem dealAll_snoc (D : List Str) (row : List Int) (j : Int) : dealAll D (row ++ [j]) = deal j (dealAll D row) := by
  unfold dealAll
  rw [List.foldl_append]
  rfl
theorem dealAll_append (D : List Str) (r s : List Int) : dealAll (dealAll D r) s = dealAll D (r ++ s) := by
  unfold dealAll
  rw [List.foldl_append]
theorem dealAll_perm {D : List Str} (hD : ∀ c ∈ D, CardOk c) : ∀ row : List Int, (∀ j ∈ row, ColOk j) → (dealAll D row).Perm D := by
  intro row
  induction row generalizing D with
  | nil => exact fun _ => List.Perm.refl _
  | cons j r ih =>
    intro h
    have p : (deal j D).Perm D := deal_perm fun c hc => rk_lt (sg_mem (hD c hc) (h j List.mem_cons_self))
    have p2 := ih (D := deal j D) (fun c hc => hD c (p.mem_iff.mp hc)) fun i hi => h i (List.mem_cons_of_mem _ hi)
    exact p2.trans p

/-! ### the order -/
/-- by the last column's rank first, and so on back; at last by R -/
def byB (R : Str → Str → Prop) : List Int → Str → Str → Prop
  | [], a, b => R a b
  | j :: r, a, b => rk (sg a j) < rk (sg b j) ∨ (rk (sg a j) = rk (sg b j) ∧ byB R r a b)
theorem deal_pw {S : Str → Str → Prop} {j : Int} {D : List Str} (h : D.Pairwise S) : (deal j D).Pairwise fun a b => rk (sg a j) < rk (sg b j) ∨ (rk (sg a j) = rk (sg b j) ∧ S a b) := by
  unfold deal
  rw [List.pairwise_flatten]
  constructor
  · intro l hl
    obtain ⟨r, _, rfl⟩ := List.mem_map.mp hl
    unfold pkt
    have h2 : (D.filter fun c => rk (sg c j) == r).Pairwise S := h.filter _
    refine List.Pairwise.imp_of_mem ?_ h2
    intro a b ha hb hab
    have ea := (List.mem_filter.mp ha).2
    have eb := (List.mem_filter.mp hb).2
    have ea : rk (sg a j) = r := by simpa using ea
    have eb : rk (sg b j) = r := by simpa using eb
    exact .inr ⟨by rw [ea, eb], hab⟩
  · rw [List.pairwise_map]
    refine List.Pairwise.imp ?_ List.pairwise_lt_range
    intro r s hrs x hx y hy
    have ea : rk (sg x j) = r := by simpa using (List.mem_filter.mp hx).2
    have eb : rk (sg y j) = s := by simpa using (List.mem_filter.mp hy).2
    exact .inl (by omega)
theorem dealAll_pw {R : Str → Str → Prop} {D : List Str} (h : D.Pairwise R) : ∀ back : List Int, (dealAll D back.reverse).Pairwise (byB R back)
  | [] => h
  | j :: r => by
    rw [List.reverse_cons, dealAll_snoc]
    exact deal_pw (dealAll_pw h r)
theorem byB_ahead {R : Str → Str → Prop} {a b : Str} (ha : CardOk a) (hb : CardOk b) : ∀ back : List Int, (∀ j ∈ back, ColOk j) → byB R back a b → ahead b a back = false ∧ (ahead a b back = false → R a b)
  | [], _, h => ⟨rfl, fun _ => h⟩
  | j :: r, hc, h => by
    have hj := hc j List.mem_cons_self
    have ih := byB_ahead (R := R) ha hb r fun i hi => hc i (List.mem_cons_of_mem _ hi)
    unfold ahead
    by_cases e : sg a j = sg b j
    · rw [if_pos e, if_pos e.symm]
      rcases h with h | ⟨_, h⟩
      · rw [e] at h
        exact absurd h (Nat.lt_irrefl _)
      · exact ih h
    · rw [if_neg e, if_neg (Ne.symm e)]
      rcases h with h | ⟨h, _⟩
      · refine ⟨decide_eq_false (by omega), fun z => ?_⟩
        rw [decide_eq_true h] at z
        cases z
      · exact absurd (rk_inj (sg_mem ha hj) (sg_mem hb hj) h) e

/-- a stands ahead of b in D -/
def before (D : List Str) (a b : Str) : Prop := ∃ i k : Nat, D[i]? = some a ∧ D[k]? = some b ∧ i < k
theorem before_pw (D : List Str) : D.Pairwise (before D) := by
  rw [List.pairwise_iff_getElem]
  intro i j hi hj hij
  exact ⟨i, j, List.getElem?_eq_getElem hi, List.getElem?_eq_getElem hj, hij⟩
/-- what the law's look at a deck asks -/
structure Good (F D : List Str) (cols : List Int) : Prop where
  len : F.length = D.length
  mem : ∀ x, x ∈ F → x ∈ D
  nb : ∀ (i : Nat) (a b : Str), F[i]? = some a → F[i + 1]? = some b → ahead b a cols = false ∧ (ahead a b cols = false → before D a b)
theorem good_deal {D : List Str} {row : List Int} (hD : ∀ c ∈ D, CardOk c) (hr : ∀ j ∈ row, ColOk j) : Good (dealAll D row) D row.reverse := by
  have p := dealAll_perm hD row hr
  have q := dealAll_pw (before_pw D) row.reverse
  rw [List.reverse_reverse] at q
  refine ⟨p.length_eq, fun x hx => p.mem_iff.mp hx, fun i a b ha hb => ?_⟩
  obtain ⟨h1, e1⟩ := List.getElem?_eq_some_iff.mp ha
  obtain ⟨h2, e2⟩ := List.getElem?_eq_some_iff.mp hb
  have s := (List.pairwise_iff_getElem.mp q) i (i + 1) h1 h2 (Nat.lt_succ_self i)
  rw [e1, e2] at s
  refine byB_ahead (hD a (p.mem_iff.mp (List.mem_of_getElem? ha))) (hD b (p.mem_iff.mp (List.mem_of_getElem? hb))) _ (fun j hj => hr j (List.mem_reverse.mp hj)) s
theorem dealAll_ok {D : List Str} {row : List Int} (hD : ∀ c ∈ D, CardOk c) (hr : ∀ j ∈ row, ColOk j) : ∀ c ∈ dealAll D row, CardOk c := fun c hc => hD c ((dealAll_perm hD row hr).mem_iff.mp hc)
end K11
/-! K11, the text by places, and what is asked of the top. -/
namespace K11
open PySem PySem.Spec PyProof.Rows L2
def topS (i : Nat) : Stmt := PySem.Challenge.pw_cardshop_k11_whole_dealt_in_order.main.body.getD i (.Pass ⟨0, 0, 0, 0⟩)
abbrev sRank : Stmt := topS 5
abbrev sPockets : Stmt := topS 8
abbrev sGather : Stmt := topS 9
abbrev sDeal : Stmt := topS 10
abbrev sCell : Stmt := topS 12
abbrev sKnown : Stmt := topS 13
abbrev sCard : Stmt := topS 14
abbrev sCols : Stmt := topS 15
abbrev sAhead : Stmt := topS 16
abbrev sOrder : Stmt := topS 17
abbrev sLaw : Stmt := topS 18
abbrev nRank : List Str := ["sign"]
abbrev nPockets : List Str := ["deck", "column", "found", "card", "k"]
abbrev nGather : List Str := ["some", "deck", "pocket"]
abbrev nDeal : List Str := ["deck", "row", "found", "column"]
abbrev nCell : List Str := ["_law_script", "_law_k"]
abbrev nCard : List Str := ["_law_cell", "_law_menu", "_law_mark", "_law_card_here", "_law_number", "_law_k"]
abbrev nCols : List Str := ["_law_cell", "_law_most", "_law_columns_here", "_law_number", "_law_k"]
abbrev nAhead : List Str := ["_law_card_here", "_law_other", "_law_columns_here", "_law_column"]
abbrev nOrder : List Str := ["_law_found", "_law_deck", "_law_back", "_law_stood", "_law_k", "_law_card_here", "_law_one", "_law_two"]
abbrev nLaw : List Str := ["_law_script", "_law_first", "_law_menu", "_law_deck", "_law_row", "_law_back", "_law_handed", "_law_asked", "_law_found", "_law_none", "_law_cut", "_law_parts", "_law_k", "_law_cell"]
theorem scRank : FnScope nRank ["sign"] (defScope sRank) := ⟨rfl, rfl, rfl, by decide +kernel, rfl, by decide +kernel, by decide +kernel⟩
theorem scPockets : FnScope nPockets ["deck", "column"] (defScope sPockets) := ⟨rfl, rfl, rfl, by decide +kernel, rfl, by decide +kernel, by decide +kernel⟩
theorem scGather : FnScope nGather ["some"] (defScope sGather) := ⟨rfl, rfl, rfl, by decide +kernel, rfl, by decide +kernel, by decide +kernel⟩
theorem scDeal : FnScope nDeal ["deck", "row"] (defScope sDeal) := ⟨rfl, rfl, rfl, by decide +kernel, rfl, by decide +kernel, by decide +kernel⟩
theorem scCell : FnScope nCell ["_law_script", "_law_k"] (defScope sCell) := ⟨rfl, rfl, rfl, by decide +kernel, rfl, by decide +kernel, by decide +kernel⟩
theorem scKnown : FnScope [] [] (defScope sKnown) := ⟨rfl, rfl, rfl, by decide +kernel, rfl, by decide +kernel, by decide +kernel⟩
theorem scCard : FnScope nCard ["_law_cell", "_law_menu", "_law_mark"] (defScope sCard) := ⟨rfl, rfl, rfl, by decide +kernel, rfl, by decide +kernel, by decide +kernel⟩
theorem scCols : FnScope nCols ["_law_cell", "_law_most"] (defScope sCols) := ⟨rfl, rfl, rfl, by decide +kernel, rfl, by decide +kernel, by decide +kernel⟩
theorem scAhead : FnScope nAhead ["_law_card_here", "_law_other", "_law_columns_here"] (defScope sAhead) := ⟨rfl, rfl, rfl, by decide +kernel, rfl, by decide +kernel, by decide +kernel⟩
theorem scOrder : FnScope nOrder ["_law_found", "_law_deck", "_law_back"] (defScope sOrder) := ⟨rfl, rfl, rfl, by decide +kernel, rfl, by decide +kernel, by decide +kernel⟩
theorem scLaw : FnScope nLaw ["_law_script"] (defScope sLaw) := ⟨rfl, rfl, rfl, by decide +kernel, rfl, by decide +kernel, by decide +kernel⟩

/-- the text of the 37 signs -/
def SIG : Str := " 0123456789ABCDEFGHIJKLMNOPQRSTUVWXYZ"
theorem sig_cps : SIG.cps.toList = sgns := by decide +kernel
theorem find_rk : ∀ s, s ∈ sgns → Txt.find SIG ⟨#[s]⟩ = (rk s : Int) := by decide +kernel
/-- what the top has left, the defs apart -/
structure Top (mg : Str → Option Value) : Prop where
  signs : ∃ t, mg "SIGNS" = some (.str SIG t)
  pockets : ∃ t, mg "POCKETS" = some (.int 37 t)
  len : mg "len" = none
  range : mg "range" = none
  list : mg "list" = none
  isinstance : mg "isinstance" = none
  enumerate : mg "enumerate" = none
  str : mg "str" = none
  zip : mg "zip" = none

/-! ### heaps -/
theorem same_upd {H : Hp} {p : Addr} {o : HO} (h : H p = none) : Same H (upd H p o) := fun b x e => by
  rw [upd_ne (ne_of_none e h)]
  exact e
theorem same_set {H0 H : Hp} {p : Addr} {o : HO} (s : Same H0 H) (h : H0 p = none) : Same H0 (upd H p o) := fun b x e => by
  rw [upd_ne (ne_of_none e h)]
  exact s b x e
theorem rel_str (x : Str) (t : Tok) : RelV (.str x) (.str x t) := ⟨t, rfl⟩
theorem rel_int (i : Int) (t : Tok) : RelV (.int i) (.int i t) := ⟨t, rfl⟩
theorem at_ofN {α : Type} {xs : List α} {z : Int} {j : Nat} {v : α} (e : z = (j : Int)) (h : xs[j]? = some v) : atI xs z = some v := by
  rw [e]
  exact atI_nat h
theorem line_of {n : Nat} (h : n ≤ 1000) : n ≤ sizeLine := Nat.le_of_lt (small1000 h)
end K11
/-! K11: rank_of. -/
namespace K11
open PySem PySem.Spec PyProof.Rows L2
section
variable {P : Program} {w : World} {K : PySem.W.Frag} {mg : Str → Option Value} {base : Heap}
def spRank : Sp := fun vs H Q _ => ∃ s : Nat, vs = [.str ⟨#[s]⟩] ∧ s ∈ sgns ∧ Q (.int (rk s : Int)) H
theorem ok_rank {f : Addr} {fd : FuncData} (F : Fun K "rank_of" "rank_of" sRank f fd) (T : Top mg) : FnOk P w K mg base CX0 1 f fd ["sign"] spRank := by
  obtain ⟨tS, mS⟩ := T.signs
  refine F.ok scRank (fun vs H Q E h => ?_) (fun cdv A outer s H vs Q E hr h => ?_)
  · obtain ⟨s, rfl, _⟩ := h
    rfl
  · obtain ⟨c, rfl, hc, q⟩ := h
    refine ⟨_, pss_cons (ps_if (PW.pt (pw_or (pt_cmpR op_ne (pe_callB call_len_str (by rfl) T.len PySem.boot_len (pa_cons (pv 0) pa_nil)) pe_int (nomark _))
        (pw_or1 (pt_cmpR op_notIn_sign (pv 0) (pe_glob (by rfl) mS (rel_str _ _)) rfl)))) (pss_one ps_never) pss_nil)
      (pss_one (ps_ret (pe_bm PySem.F.plainAttrs_str PySem.F.slot_str_find PySem.F.type_str_find mt_find (pe_glob (by rfl) mS (rel_str _ _)) (pa_cons (pv 0) pa_nil)))), ?_⟩
    refine ⟨_, rfl, _, rfl, line_of (show 1 ≤ 1000 by decide), rfl, _, rfl, ?_⟩
    refine iteNS rfl ?_
    refine ⟨_, rfl, c, SIG, rfl, rfl, _, rfl, ?_⟩
    refine iteNS (by rw [sig_cps]; exact hc) ?_
    refine ⟨rfl, _, rfl, SIG, _, rfl, rfl, ?_⟩
    rw [find_rk c hc]
    exact q
end
end K11
/-! K11: pockets_of. -/
namespace K11
open PySem PySem.Spec PyProof.Rows L2
section
variable {P : Program} {w : World} {K : PySem.W.Frag} {mg : Str → Option Value} {base : Heap}
def spPockets (K : PySem.W.Frag) : Sp := fun vs H Q _ => ∃ (a : Addr) (j : Int) (D : List Str), vs = [.ref a, .int j] ∧ SqL K H a (D.map V.str) ∧ D.length ≤ 1000 ∧ (∀ c ∈ D, CardOk c) ∧ ColOk j ∧
  ∀ (H' : Hp) (p : Addr) (bs : List Addr), Same H H' → H p = none → H' p = some (.lst (bs.map V.ref)) → bs.length = 37 →
    (∀ (r : Nat) (b : Addr), bs[r]? = some b → H' b = some (.lst ((pkt j r D).map V.str))) → Q (.ref p) H'
/-- the new empty pockets, so far -/
structure Empties (H0 H : Hp) (D : Addr) (i : Nat) (bs : List Addr) : Prop where
  len : bs.length = i
  nd : bs.Nodup
  each : ∀ b, b ∈ bs → b ≠ D ∧ H0 b = none ∧ H b = some (.lst [])
  at_ : H D = some (.lst (bs.map V.ref))
  same : Same H0 H
theorem empties_next {H0 H : Hp} {D p : Addr} {i : Nat} {bs : List Addr} (h : Empties H0 H D i bs) (hD : H0 D = none) (hp : H p = none) :
    Empties H0 (upd (upd H p (.lst [])) D (.lst (bs.map V.ref ++ [.ref p]))) D (i + 1) (bs ++ [p]) := by
  have pD : D ≠ p := ne_of_none h.at_ hp
  have p0 : H0 p = none := h.same.free hp
  refine ⟨by rw [List.length_append, h.len, List.length_singleton], ?_, fun b hb => ?_, ?_, ?_⟩
  · rw [List.nodup_append]
    refine ⟨h.nd, by simp, fun b hb c hc => ?_⟩
    rw [List.mem_singleton] at hc
    rw [hc]
    exact ne_of_none (h.each b hb).2.2 hp
  · rcases List.mem_append.mp hb with hb | hb
    · obtain ⟨h1, h2, h3⟩ := h.each b hb
      refine ⟨h1, h2, ?_⟩
      rw [upd_ne h1, upd_ne (ne_of_none h3 hp)]
      exact h3
    · rw [List.mem_singleton] at hb
      rw [hb]
      refine ⟨pD.symm, p0, ?_⟩
      rw [upd_ne pD.symm, upd_same]
  · rw [upd_same, List.map_append]
    rfl
  · exact same_set (same_set h.same p0) hD
/-- the pockets while the deck is dealt -/
structure Dealt (H0 H : Hp) (p : Addr) (bs : List Addr) (j : Int) (D : List Str) : Prop where
  same : Same H0 H
  at_ : H p = some (.lst (bs.map V.ref))
  each : ∀ (r : Nat) (b : Addr), bs[r]? = some b → H b = some (.lst ((pkt j r D).map V.str))
theorem dealt_next {H0 H : Hp} {p b : Addr} {bs : List Addr} {j : Int} {D : List Str} {c : Str} (h : Dealt H0 H p bs j D) (nd : bs.Nodup) (hn : ∀ b, b ∈ bs → b ≠ p ∧ H0 b = none) (hb : bs[rk (sg c j)]? = some b) :
    Dealt H0 (upd H b (.lst ((pkt j (rk (sg c j)) D).map V.str ++ [.str c]))) p bs j (D ++ [c]) := by
  have bm : b ∈ bs := List.mem_of_getElem? hb
  refine ⟨same_set h.same (hn b bm).2, ?_, fun r b' hr => ?_⟩
  · rw [upd_ne (hn b bm).1.symm]
    exact h.at_
  · by_cases e : b' = b
    · have er : r = rk (sg c j) := nd_ix nd hr (by rw [e]; exact hb)
      rw [e, upd_same, er, pkt_snoc_same rfl, List.map_append]
      rfl
    · rw [upd_ne e, pkt_snoc_other, h.each r b' hr]
      intro er
      rw [er] at hb
      exact e (Option.some.inj (hr.symm.trans hb))
theorem ok_pockets {f fR : Addr} {fd fdR : FuncData} (F : Fun K "pockets_of" "pockets_of" sPockets f fd) (T : Top mg) (GR : FnOk P w K mg base CX0 1 fR fdR ["sign"] spRank) (kR : PySem.W.keepIn K (.ref fR) = true) (bR : Binds K fdR ["sign"] [])
    (gR : mg "rank_of" = some (.ref fR)) : FnOk P w K mg base CX0 2 f fd ["deck", "column"] (spPockets K) := by
  obtain ⟨tP, mP⟩ := T.pockets
  refine F.ok scPockets (fun vs H Q E h => ?_) (fun cdv A outer s H vs Q E hr h => ?_)
  · obtain ⟨a, j, D, rfl, _⟩ := h
    rfl
  · obtain ⟨a, j, D, rfl, hS, hlen, hok, hj, q⟩ := h
    refine ⟨_, pss_cons (ps_setLc (i := 2) (own := [("k", 4)]) (g := gName 4) (tt := tYes) (by rfl) scPockets.nd rfl rfl (sw_true rfl rfl rfl (by decide +kernel)) (pi_range1 (by rfl) T.range (pa_cons (pe_glob (by rfl) mP (rel_int _ _)) pa_nil))
        (blkOk_by (own := [("k", 4)]) (N := nPockets) (sc := defScope sPockets) (by decide +kernel)) (fun _ _ _ _ _ => pg_name (i := 4) scPockets.nd rfl (.inl rfl)) (fun _ _ _ _ _ => pts_nil) (fun _ _ _ _ _ => pe_lst pa_nil))
      (pss_cons (ps_for PassesOwn.never rfl (pi_list (pv 0)) (pg_name (i := 3) scPockets.nd rfl (.inl rfl))
        (pss_one (ps_expr (pe_bm PySem.F.plainAttrs_list PySem.F.slot_list_append PySem.F.type_list_append mt_append
          (pe_ix ix_list (pv 2) (pe_call GR hr (by rfl) gR kR bR .nil pass0 (pa_cons (pe_ix ix_str (pv 3) (pe_op op_sub (pv 1) pe_int) (fun _ _ => rfl)) pa_nil)) (fun _ _ => rfl)) (pa_cons (pv 3) pa_nil)))))
      (pss_one (ps_ret (pv 2)))), ?_⟩
    -- found = [[] for k in range(POCKETS)]
    refine ⟨37, rfl, by decide, by decide, fun p hp => lc_range (lo := 0) (n := 37) (fun i H' => ∃ bs, Empties H H' p i bs) ⟨[], rfl, List.nodup_nil, fun b hb => (by cases hb), upd_same, same_upd hp⟩ ?_ ?_⟩
    · rintro i H1 hi ⟨bs, hE⟩
      refine ⟨rfl, Nat.zero_le _, fun c hc => ⟨bs.map V.ref, ?_, ?_, bs ++ [c], empties_next hE hp hc⟩⟩
      · rw [upd_ne (ne_of_none hE.at_ hc)]
        exact hE.at_
      · rw [List.length_map, hE.len]
        exact small1000 (by omega)
    · rintro H1 ⟨bs, hE⟩
      -- for card in deck
      have hn : ∀ b, b ∈ bs → b ≠ p ∧ H b = none := fun b hb => ⟨(hE.each b hb).1, (hE.each b hb).2.1⟩
      refine ⟨_, rfl, a, rfl, ⟨_, hE.same.seq hS⟩, for_list (K := K) (a := a) (xs := D.map V.str) (fun i σ H2 => ∃ y3, σ = [some (.ref a), some (.int j), some (.ref p), y3, none] ∧ Dealt H H2 p bs j (D.take i))
        ⟨none, rfl, hE.same, hE.at_, fun r b hb => (hE.each b (List.mem_of_getElem? hb)).2.2⟩ (fun i σ H2 _ ⟨_, _, d⟩ => d.same.seq hS) ?_ ?_⟩
      · rintro i y σ H2 hi ⟨y3, rfl, d⟩
        rw [List.getElem?_map] at hi
        cases hc : D[i]? with
        | none =>
          rw [hc] at hi
          cases hi
        | some c =>
          rw [hc] at hi
          have ey : y = .str c := (Option.some.inj hi).symm
          subst ey
          have cok : CardOk c := hok c (List.mem_of_getElem? hc)
          have sm := sg_mem cok hj
          have hrk : rk (sg c j) < bs.length := by
            rw [hE.len]
            exact rk_lt sm
          have hb : bs[rk (sg c j)]? = some bs[rk (sg c j)] := List.getElem?_eq_getElem hrk
          have ej : j - 1 = (((j - 1).toNat : Nat) : Int) := by
            have := hj.1
            omega
          have hcl : c.length ≤ 1000 := by
            have h1 := cok.1
            rw [Array.length_toList] at h1
            show c.cps.size ≤ 1000
            omega
          refine ⟨_, rfl, _, rfl, _, rfl, j, 1, rfl, rfl, c, j - 1, sg c j, rfl, rfl, line_of hcl, at_ofN ej (sg_get cok hj), sg c j, rfl, sm, p, bs.map V.ref, _, .ref bs[rk (sg c j)], rfl, rfl, SqL.of d.at_, atI_nat (by rw [List.getElem?_map, hb]; rfl),
            .inl ⟨rfl, _, SqL.of (d.each _ _ hb)⟩, _, rfl, _, _, _, rfl, rfl, d.each _ _ hb, ?_, some (.str c), rfl, ?_⟩
          · rw [List.length_map]
            refine small1000 ?_
            have h1 : (pkt j (rk (sg c j)) (D.take i)).length ≤ (D.take i).length := List.length_filter_le _ _
            have h2 : (D.take i).length ≤ D.length := List.length_take_le' _ _
            omega
          · rw [List.take_add_one, hc]
            exact dealt_next d hE.nd hn hb
      · rintro σ H2 ⟨y3, rfl, d⟩
        rw [List.length_map, List.take_length] at d
        exact ⟨_, rfl, q H2 p bs d.same hp d.at_ hE.len d.each⟩
end
end K11
/-! K11: gather, deal_all. -/
namespace K11
open PySem PySem.Spec PyProof.Rows L2
section
variable {P : Program} {w : World} {K : PySem.W.Frag} {mg : Str → Option Value} {base : Heap}
def spGather (K : PySem.W.Frag) : Sp := fun vs H Q _ => ∃ (a : Addr) (bs : List Addr) (L : List (List Str)), vs = [.ref a] ∧ SqL K H a (bs.map V.ref) ∧ bs.length = L.length ∧
  (∀ (r : Nat) (b : Addr) (l : List Str), bs[r]? = some b → L[r]? = some l → H b = some (.lst (l.map V.str))) ∧ L.flatten.length ≤ 1000 ∧
  ∀ (H' : Hp) (p : Addr), Same H H' → H p = none → H' p = some (.lst (L.flatten.map V.str)) → Q (.ref p) H'
theorem flat_take {L : List (List Str)} {i : Nat} {l : List Str} (h : L[i]? = some l) : (L.take (i + 1)).flatten = (L.take i).flatten ++ l := by
  rw [List.take_add_one, h, List.flatten_append]
  simp
theorem flat_take_le (L : List (List Str)) (i : Nat) : (L.take i).flatten.length ≤ L.flatten.length := by
  have e : L.flatten.length = (L.take i).flatten.length + (L.drop i).flatten.length := by
    rw [← List.length_append, ← List.flatten_append, List.take_append_drop]
  omega
theorem ok_gather {f : Addr} {fd : FuncData} (F : Fun K "gather" "gather" sGather f fd) : FnOk P w K mg base CX0 1 f fd ["some"] (spGather K) := by
  refine F.ok scGather (fun vs H Q E h => ?_) (fun cdv A outer s H vs Q E hr h => ?_)
  · obtain ⟨a, bs, L, rfl, _⟩ := h
    rfl
  · obtain ⟨a, bs, L, rfl, hS, hl, hb, hlen, q⟩ := h
    refine ⟨_, pss_cons (ps_set (i := 1) scGather.nd rfl (.inl rfl) (pe_lst pa_nil))
      (pss_cons (ps_for PassesOwn.never rfl (pi_list (pv 0)) (pg_name (i := 2) scGather.nd rfl (.inl rfl))
        (pss_one (ps_expr (pe_bm PySem.F.plainAttrs_list PySem.F.slot_list_extend PySem.F.type_list_extend mt_extend (pv 1) (pa_cons (pv 2) pa_nil)))))
      (pss_one (ps_ret (pv 1)))), ?_⟩
    refine ⟨Nat.zero_le _, fun o no => ?_⟩
    refine ⟨_, rfl, a, rfl, ⟨_, (same_upd no).seq hS⟩, for_list (K := K) (a := a) (xs := bs.map V.ref) (fun i σ H2 => ∃ y2, σ = [some (.ref a), some (.ref o), y2] ∧ Same H H2 ∧ H2 o = some (.lst ((L.take i).flatten.map V.str)))
      ⟨none, rfl, same_upd no, upd_same⟩ (fun i σ H2 _ ⟨_, _, s2, _⟩ => s2.seq hS) ?_ ?_⟩
    · rintro i y σ H2 hi ⟨y2, rfl, s2, e2⟩
      rw [List.getElem?_map] at hi
      cases hc : bs[i]? with
      | none =>
        rw [hc] at hi
        cases hi
      | some b =>
        rw [hc] at hi
        have ey : y = .ref b := (Option.some.inj hi).symm
        subst ey
        have hil : i < L.length := by
          rw [← hl]
          exact (List.getElem?_eq_some_iff.mp hc).1
        have hL : L[i]? = some L[i] := List.getElem?_eq_getElem hil
        have hB := s2 _ _ (hb i b _ hc hL)
        have ef := flat_take hL
        have le := flat_take_le L (i + 1)
        refine ⟨_, rfl, .inl ⟨rfl, _, SqL.of e2⟩, _, rfl, o, b, _, _, rfl, rfl, e2, hB, ?_, some (.ref b), rfl, same_set s2 no, ?_⟩
        · rw [List.length_map, List.length_map, ← List.length_append, ← ef]
          exact line_of (by omega)
        · rw [upd_same, ef, List.map_append]
    · rintro σ H2 ⟨y2, rfl, s2, e2⟩
      rw [List.length_map, hl, List.take_length] at e2
      exact ⟨_, rfl, q H2 o s2 no e2⟩
def spDeal (K : PySem.W.Frag) : Sp := fun vs H Q _ => ∃ (a b : Addr) (D : List Str) (row : List Int), vs = [.ref a, .ref b] ∧ SqL K H a (D.map V.str) ∧ SqL K H b (row.map V.int) ∧ D.length ≤ 1000 ∧ (∀ c ∈ D, CardOk c) ∧ (∀ j ∈ row, ColOk j) ∧
  ∀ (H' : Hp) (p : Addr), Same H H' → H p = none → H' p = some (.lst ((dealAll D row).map V.str)) → Q (.ref p) H'
theorem ok_deal {f fP fG : Addr} {fd fdP fdG : FuncData} (F : Fun K "deal_all" "deal_all" sDeal f fd) (T : Top mg) (GP : FnOk P w K mg base CX0 2 fP fdP ["deck", "column"] (spPockets K)) (kP : PySem.W.keepIn K (.ref fP) = true) (bP : Binds K fdP ["deck", "column"] [])
    (gP : mg "pockets_of" = some (.ref fP)) (GG : FnOk P w K mg base CX0 1 fG fdG ["some"] (spGather K)) (kG : PySem.W.keepIn K (.ref fG) = true) (bG : Binds K fdG ["some"] []) (gG : mg "gather" = some (.ref fG)) :
    FnOk P w K mg base CX0 3 f fd ["deck", "row"] (spDeal K) := by
  refine F.ok scDeal (fun vs H Q E h => ?_) (fun cdv A outer s H vs Q E hr h => ?_)
  · obtain ⟨a, b, D, row, rfl, _⟩ := h
    rfl
  · obtain ⟨a, b, D, row, rfl, hA, hB, hlen, hok, hcol, q⟩ := h
    refine ⟨_, pss_cons (ps_set (i := 2) scDeal.nd rfl (.inl rfl) (pe_callTy call_list_of (by rfl) T.list (by decide +kernel) (pa_cons (pv 0) pa_nil)))
      (pss_cons (ps_for PassesOwn.never rfl (pi_list (pv 1)) (pg_name (i := 3) scDeal.nd rfl (.inl rfl))
        (pss_one (ps_set (i := 2) scDeal.nd rfl (.inl rfl) (pe_call GG (hr.mono (by decide)) (by rfl) gG kG bG .nil pass0 (pa_cons (pe_call GP hr (by rfl) gP kP bP .nil pass0 (pa_cons (pv 2) (pa_cons (pv 3) pa_nil))) pa_nil)))))
      (pss_one (ps_ret (pv 2)))), ?_⟩
    refine ⟨_, rfl, a, _, rfl, .inl hA, fun o no => ?_⟩
    refine ⟨_, rfl, b, rfl, ⟨_, (same_upd no).seq hB⟩, for_list (K := K) (a := b) (xs := row.map V.int) (fun i σ H2 => ∃ p y3, σ = [some (.ref a), some (.ref b), some (.ref p), y3] ∧ Same H H2 ∧ H p = none ∧ H2 p = some (.lst ((dealAll D (row.take i)).map V.str)))
      ⟨o, none, rfl, same_upd no, no, upd_same⟩ (fun i σ H2 _ ⟨_, _, _, s2, _⟩ => s2.seq hB) ?_ ?_⟩
    · rintro i y σ H2 hi ⟨p, y3, rfl, s2, np, e2⟩
      rw [List.getElem?_map] at hi
      cases hc : row[i]? with
      | none =>
        rw [hc] at hi
        cases hi
      | some j =>
        rw [hc] at hi
        have ey : y = .int j := (Option.some.inj hi).symm
        subst ey
        have hj := hcol j (List.mem_of_getElem? hc)
        have hcol2 : ∀ k ∈ row.take i, ColOk k := fun k hk => hcol k (List.mem_of_mem_take hk)
        have pm := dealAll_perm hok (row.take i) hcol2
        have ok2 := dealAll_ok hok hcol2
        refine ⟨_, rfl, _, rfl, p, j, dealAll D (row.take i), rfl, SqL.of e2, by rw [pm.length_eq]; exact hlen, ok2, hj, fun H3 t bs s3 nt et elen eb => ?_⟩
        have pm2 : (deal j (dealAll D (row.take i))).Perm (dealAll D (row.take i)) := deal_perm fun c hc => rk_lt (sg_mem (ok2 c hc) hj)
        refine ⟨t, bs, (List.range 37).map fun r => pkt j r (dealAll D (row.take i)), rfl, SqL.of et, by rw [elen, List.length_map, List.length_range], fun r b l hb hl => ?_, ?_, fun H4 u s4 nu eu => ?_⟩
        · have hr37 : r < 37 := by
            rw [← elen]
            exact (List.getElem?_eq_some_iff.mp hb).1
          rw [List.getElem?_map, List.getElem?_range hr37] at hl
          have el := Option.some.inj hl
          rw [← el]
          exact eb r b hb
        · have e := pm2.length_eq.trans pm.length_eq
          unfold deal at e
          rw [e]
          exact hlen
        · refine ⟨u, some (.int j), rfl, (s2.trans s3).trans s4, (s2.trans s3).free nu, ?_⟩
          rw [List.take_add_one, hc]
          show H4 u = some (.lst ((dealAll D (row.take i ++ [j])).map V.str))
          rw [dealAll_snoc]
          exact eu
    · rintro σ H2 ⟨p, y3, rfl, s2, np, e2⟩
      rw [List.length_map, List.take_length] at e2
      exact ⟨_, rfl, q H2 p s2 np e2⟩
end
end K11
/-! K11: the law's own helpers, but for its look at a deck. -/
namespace K11
open PySem PySem.Spec PyProof.Rows L2
section
variable {P : Program} {w : World} {K : PySem.W.Frag} {mg : Str → Option Value} {base : Heap}
/-- a def of the top that keeps a promise -/
structure Got (P : Program) (w : World) (K : PySem.W.Frag) (mg : Str → Option Value) (base : Heap) (x : Str) (k : Nat) (ps : List Str) (sp : Sp) (f : Addr) (fd : FuncData) : Prop where
  ok : FnOk P w K mg base CX0 k f fd ps sp
  kept : PySem.W.keepIn K (.ref f) = true
  bd : Binds K fd ps []
  at_ : mg x = some (.ref f)
/-! ### _law_cell_at -/
def spCell (K : PySem.W.Frag) : Sp := fun vs H Q _ => ∃ (a : Addr) (ns : List Int) (k : Nat), vs = [.ref a, .int (k : Int)] ∧ SqL K H a (ns.map V.int) ∧ ∀ z : Int, Q (.int z) H
theorem ok_cell {f : Addr} {fd : FuncData} (F : Fun K "_law_cell_at" "_law_cell_at" sCell f fd) (T : Top mg) : FnOk P w K mg base CX0 1 f fd ["_law_script", "_law_k"] (spCell K) := by
  refine F.ok scCell (fun vs H Q E h => ?_) (fun cdv A outer s H vs Q E hr h => ?_)
  · obtain ⟨a, ns, k, rfl, _⟩ := h
    rfl
  · obtain ⟨a, ns, k, rfl, hS, q⟩ := h
    refine ⟨_, pss_cons (ps_if (pt_cmpR op_lt (pv 1) (pe_callB call_len_seq (by rfl) T.len PySem.boot_len (pa_cons (pv 0) pa_nil)) (nomark _)) (pss_one (ps_ret (pe_ix ix_list (pv 0) (pv 1) (fun _ _ => rfl)))) pss_nil)
      (pss_one (ps_ret pe_int)), ?_⟩
    refine ⟨_, rfl, _, rfl, a, _, rfl, .inl hS, _, _, rfl, rfl, _, rfl, ite2 (fun e => ?_) (fun e => ?_)⟩
    · have e1 := of_decide_eq_true e
      rw [List.length_map] at e1
      have e2 : k < ns.length := by omega
      refine ⟨_, rfl, _, rfl, a, _, _, .int ns[k], rfl, rfl, hS, atI_nat (j := k) ?_, q _⟩
      rw [List.getElem?_map, List.getElem?_eq_getElem e2]
      rfl
    · exact q 0
/-! ### _law_known -/
def spKnown : Sp := fun vs H Q _ => vs = [] ∧ Q (.str SIG) H
theorem ok_known {f : Addr} {fd : FuncData} (F : Fun K "_law_known" "_law_known" sKnown f fd) : FnOk P w K mg base CX0 1 f fd [] spKnown := by
  refine F.ok scKnown (fun vs H Q E h => ?_) (fun cdv A outer s H vs Q E hr h => ?_)
  · obtain ⟨rfl, _⟩ := h
    rfl
  · obtain ⟨rfl, q⟩ := h
    exact ⟨_, pss_one (ps_ret pe_str), q⟩
/-! ### _law_card -/
theorem str_app (a b : List Nat) : (⟨a.toArray⟩ : Str) ++ (⟨b.toArray⟩ : Str) = ⟨(a ++ b).toArray⟩ := by
  show Str.mk (a.toArray ++ b.toArray) = Str.mk (a ++ b).toArray
  rw [List.append_toArray]
theorem str_eta (k : Str) : k = ⟨k.cps.toList.toArray⟩ := by
  obtain ⟨a⟩ := k
  rfl
def spCard : Sp := fun vs H Q _ => ∃ (z : Int) (m k : Str), vs = [.int z, .str m, .str k] ∧ 1 ≤ m.cps.toList.length ∧ m.cps.toList.length ≤ 40 ∧ (∀ s, s ∈ m.cps.toList → s ∈ sgns) ∧ k.cps.toList.length ≤ 40 ∧
  ∀ b : List Nat, b.length = 36 → (∀ s, s ∈ b → s ∈ sgns) → Q (.str ⟨(b ++ k.cps.toList).toArray⟩) H
theorem ok_card {f : Addr} {fd : FuncData} (F : Fun K "_law_card" "_law_card" sCard f fd) (T : Top mg) : FnOk P w K mg base CX0 1 f fd ["_law_cell", "_law_menu", "_law_mark"] spCard := by
  refine F.ok scCard (fun vs H Q E h => ?_) (fun cdv A outer s H vs Q E hr h => ?_)
  · obtain ⟨z, m, k, rfl, _⟩ := h
    rfl
  · obtain ⟨z, m, k, rfl, hm1, hm2, hms, hk, q⟩ := h
    refine ⟨_, pss_cons (ps_set (i := 3) scCard.nd rfl (.inl rfl) pe_str)
      (pss_cons (ps_set (i := 4) scCard.nd rfl (.inl rfl) (pe_op op_add (pe_op op_mod (pv 0) pe_int) pe_int))
      (pss_cons (ps_for PassesOwn.never rfl (pi_range1 (by rfl) T.range (pa_cons pe_int pa_nil)) (pg_name (i := 5) scCard.nd rfl (.inl rfl))
        (pss_cons (ps_set (i := 4) scCard.nd rfl (.inl rfl) (pe_op op_mod (pe_op op_add (pe_op op_add (pe_op op_mul (pv 4) (pv 4)) (pe_op op_mul pe_int (pv 5))) pe_int) pe_int))
        (pss_one (ps_set (i := 3) scCard.nd rfl (.inl rfl) (pe_op op_add_str (pv 3) (pe_ix ix_str (pv 1) (pe_op op_mod (pe_op op_fdiv (pv 4) pe_int) (pe_callB call_len_str (by rfl) T.len PySem.boot_len (pa_cons (pv 1) pa_nil))) (fun _ _ => rfl)))))))
      (pss_one (ps_ret (pe_op op_add_str (pv 3) (pv 2)))))), ?_⟩
    have hml : m.length ≤ sizeLine := line_of (by
      have h1 := hm2
      rw [Array.length_toList] at h1
      show m.cps.size ≤ 1000
      omega)
    have hkl : k.length ≤ 40 := by
      rw [Array.length_toList] at hk
      exact hk
    have e0 : (("" : String) : Str) = ⟨([] : List Nat).toArray⟩ := by decide +kernel
    refine ⟨_, rfl, _, _, rfl, rfl, (by show (0 : Int) < _; decide), _, _, rfl, rfl, ?_⟩
    refine ⟨36, rfl, by decide, by decide, for_range (lo := 0) (n := 36) (fun i σ H2 => ∃ (n : Int) (b : List Nat) (y5 : Option V), σ = [some (.int z), some (.str m), some (.str k), some (.str ⟨b.toArray⟩), some (.int n), y5] ∧ 0 ≤ n ∧ n < 2 ^ 32 ∧ b.length = i ∧ (∀ s, s ∈ b → s ∈ sgns) ∧ H2 = H)
      ⟨z % 2147483647 + 3, [], none, ?_, ?_, ?_, rfl, fun s hs => (by cases hs), rfl⟩ ?_ ?_⟩
    · rw [← e0]
      rfl
    · omega
    · omega
    · rintro i σ H2 hi ⟨n, b, y5, rfl, hn0, hn1, hb, hbs, rfl⟩
      refine ⟨_, rfl, _, rfl, _, _, rfl, rfl, .inl ⟨by omega, by omega⟩, _, rfl, _, _, rfl, rfl, .inl ⟨by decide, by decide⟩, _, _, rfl, rfl, _, _, rfl, rfl, _, _, rfl, rfl, (by show (0 : Int) < _; decide), ?_⟩
      have hn'0 : 0 ≤ (n * n + 17 * (0 + (i : Int)) + 5) % 2147483629 := by omega
      have hn'1 : (n * n + 17 * (0 + (i : Int)) + 5) % 2147483629 < 2 ^ 32 := by omega
      obtain ⟨n', hN⟩ : ∃ n', n' = (n * n + 17 * (0 + (i : Int)) + 5) % 2147483629 := ⟨_, rfl⟩
      rw [← hN] at hn'0 hn'1
      have hl0 : (0 : Int) < (m.length : Int) := by
        have h1 := hm1
        rw [Array.length_toList] at h1
        show (0 : Int) < (m.cps.size : Int)
        omega
      have hx0 : 0 ≤ n' / 3 % (m.length : Int) := Int.emod_nonneg _ (by omega)
      have hx1 : n' / 3 % (m.length : Int) < (m.length : Int) := Int.emod_lt_of_pos _ hl0
      have hx2 : (n' / 3 % (m.length : Int)).toNat < m.cps.toList.length := by
        rw [Array.length_toList]
        show (n' / 3 % (m.length : Int)).toNat < m.length
        omega
      show tSeq _ _ _ [some (.int z), some (.str m), some (.str k), some (.str ⟨b.toArray⟩), some (.int ((n * n + 17 * (0 + (i : Int)) + 5) % 2147483629)), some (.int (0 + (i : Int)))] _
      rw [← hN]
      refine ⟨_, rfl, _, rfl, _, rfl, _, _, rfl, rfl, ⟨by decide, by decide⟩, _, rfl, m, rfl, hml, _, _, rfl, rfl, hl0, m, _, m.cps.toList[(n' / 3 % (m.length : Int)).toNat], rfl, rfl, hml, at_ofN (j := (n' / 3 % (m.length : Int)).toNat) (by omega) (List.getElem?_eq_getElem hx2), _, _, rfl, rfl, ?_, ?_⟩
      · refine line_of ?_
        show b.toArray.size + 1 ≤ 1000
        rw [List.size_toArray]
        omega
      · refine ⟨n', b ++ [m.cps.toList[(n' / 3 % (m.length : Int)).toNat]], some (.int (0 + (i : Int))), ?_, hn'0, hn'1, ?_, fun s hs => ?_, rfl⟩
        · rw [← str_app]
          rfl
        · rw [List.length_append, hb, List.length_singleton]
        · rcases List.mem_append.mp hs with hs | hs
          · exact hbs s hs
          · rw [List.mem_singleton] at hs
            rw [hs]
            exact hms _ (List.getElem_mem hx2)
    · rintro σ H2 ⟨n, b, y5, rfl, hn0, hn1, hb, hbs, rfl⟩
      refine ⟨_, rfl, _, rfl, _, _, rfl, rfl, ?_, ?_⟩
      · refine line_of ?_
        show b.toArray.size + k.length ≤ 1000
        rw [List.size_toArray]
        omega
      · have e := q b hb hbs
        rw [← str_app, ← str_eta k] at e
        exact e
/-! ### _law_columns -/
def spCols : Sp := fun vs H Q _ => ∃ z : Int, vs = [.int z, .int 7] ∧
  ∀ (H' : Hp) (p : Addr) (ns : List Int), Same H H' → H p = none → H' p = some (.lst (ns.map V.int)) → (∀ j, j ∈ ns → ColOk j) → ns.length ≤ 7 → Q (.ref p) H'
theorem ok_cols {f : Addr} {fd : FuncData} (F : Fun K "_law_columns" "_law_columns" sCols f fd) (T : Top mg) : FnOk P w K mg base CX0 1 f fd ["_law_cell", "_law_most"] spCols := by
  refine F.ok scCols (fun vs H Q E h => ?_) (fun cdv A outer s H vs Q E hr h => ?_)
  · obtain ⟨z, rfl, _⟩ := h
    rfl
  · obtain ⟨z, rfl, q⟩ := h
    refine ⟨_, pss_cons (ps_set (i := 2) scCols.nd rfl (.inl rfl) (pe_lst pa_nil))
      (pss_cons (ps_set (i := 3) scCols.nd rfl (.inl rfl) (pe_op op_add (pe_op op_mod (pv 0) pe_int) pe_int))
      (pss_cons (ps_for PassesOwn.never rfl (pi_range1 (by rfl) T.range (pa_cons (pe_op op_mod (pv 0) (pe_op op_add (pv 1) pe_int)) pa_nil)) (pg_name (i := 4) scCols.nd rfl (.inl rfl))
        (pss_cons (ps_set (i := 3) scCols.nd rfl (.inl rfl) (pe_op op_mod (pe_op op_add (pe_op op_add (pe_op op_mul (pv 3) (pv 3)) (pe_op op_mul pe_int (pv 4))) pe_int) pe_int))
        (pss_one (ps_if (pt_cmpR op_eq (pe_op op_mod (pe_op op_fdiv (pv 3) pe_int) pe_int) pe_int (nomark _))
          (pss_one (ps_expr (pe_bm PySem.F.plainAttrs_list PySem.F.slot_list_append PySem.F.type_list_append mt_append (pv 2) (pa_cons (pe_op op_add pe_int (pe_op op_mod (pe_op op_fdiv (pv 3) pe_int) pe_int)) pa_nil))))
          (pss_one (ps_expr (pe_bm PySem.F.plainAttrs_list PySem.F.slot_list_append PySem.F.type_list_append mt_append (pv 2) (pa_cons (pe_op op_add pe_int (pe_op op_mod (pe_op op_fdiv (pv 3) pe_int) pe_int)) pa_nil))))))))
      (pss_one (ps_ret (pv 2))))), ?_⟩
    refine ⟨Nat.zero_le _, fun o no => ?_⟩
    refine ⟨_, rfl, _, _, rfl, rfl, (by show (0 : Int) < _; decide), _, _, rfl, rfl, ?_⟩
    have hz0 : 0 ≤ z % (7 + 1) := by omega
    have hz1 : z % (7 + 1) < 8 := by omega
    refine ⟨_, rfl, _, rfl, _, _, rfl, rfl, _, _, rfl, rfl, (by show (0 : Int) < _; decide), _, rfl, by omega, by omega, for_range (lo := 0) (n := (z % (7 + 1)).toNat) (fun i σ H2 => ∃ (n : Int) (ns : List Int) (y4 : Option V), σ = [some (.int z), some (.int 7), some (.ref o), some (.int n), y4] ∧ 0 ≤ n ∧ n < 2 ^ 32 ∧ ns.length = i ∧ (∀ j, j ∈ ns → ColOk j) ∧ Same H H2 ∧ H2 o = some (.lst (ns.map V.int)))
      ⟨_, [], none, rfl, by omega, by omega, rfl, fun s hs => (by cases hs), same_upd no, upd_same⟩ ?_ ?_⟩
    · rintro i σ H2 hi ⟨n, ns, y4, rfl, hn0, hn1, hl, hns, s2, e2⟩
      refine ⟨_, rfl, _, rfl, _, _, rfl, rfl, .inl ⟨by omega, by omega⟩, _, rfl, _, _, rfl, rfl, .inl ⟨by decide, by decide⟩, _, _, rfl, rfl, _, _, rfl, rfl, _, _, rfl, rfl, (by show (0 : Int) < _; decide), ?_⟩
      have next : ∀ (n' v : Int), 0 ≤ n' → n' < 2 ^ 32 → ColOk v → ∃ (n : Int) (ms : List Int) (y : Option V), [some (V.int z), some (V.int 7), some (V.ref o), some (V.int n'), some (V.int (0 + (i : Int)))] = [some (.int z), some (.int 7), some (.ref o), some (.int n), y] ∧ 0 ≤ n ∧ n < 2 ^ 32 ∧ ms.length = i + 1 ∧ (∀ j, j ∈ ms → ColOk j) ∧ Same H (upd H2 o (.lst (ns.map V.int ++ [.int v]))) ∧ (upd H2 o (.lst (ns.map V.int ++ [.int v]))) o = some (.lst (ms.map V.int)) := fun n' v hn'0 hn'1 hv => by
        refine ⟨n', ns ++ [v], some (V.int (0 + (i : Int))), rfl, hn'0, hn'1, by rw [List.length_append, hl, List.length_singleton], fun j hj => ?_, same_set s2 no, ?_⟩
        · rcases List.mem_append.mp hj with hj | hj
          · exact hns j hj
          · rw [List.mem_singleton] at hj
            rw [hj]
            exact hv
        · rw [upd_same, List.map_append]
          rfl
      have room : (ns.map V.int).length < sizeLine := by
        rw [List.length_map]
        exact small1000 (by omega)
      refine ⟨_, rfl, _, _, rfl, rfl, ⟨by decide, by decide⟩, _, _, rfl, rfl, (by show (0 : Int) < _; decide), rfl, _, rfl, ite2 (fun _ => ?_) (fun _ => ?_)⟩
      · exact ⟨_, rfl, .inl ⟨rfl, _, SqL.of e2⟩, _, rfl, _, _, rfl, rfl, ⟨by decide, by decide⟩, _, _, rfl, rfl, (by show (0 : Int) < _; decide), _, _, rfl, rfl, o, _, _, rfl, rfl, e2, room, next ((n * n + 31 * (0 + (i : Int)) + 7) % 2147483629) (1 + (n * n + 31 * (0 + (i : Int)) + 7) % 2147483629 / 15 % 3) (by omega) (by omega) ⟨by omega, by omega⟩⟩
      · exact ⟨_, rfl, .inl ⟨rfl, _, SqL.of e2⟩, _, rfl, _, _, rfl, rfl, ⟨by decide, by decide⟩, _, _, rfl, rfl, (by show (0 : Int) < _; decide), _, _, rfl, rfl, o, _, _, rfl, rfl, e2, room, next ((n * n + 31 * (0 + (i : Int)) + 7) % 2147483629) (1 + (n * n + 31 * (0 + (i : Int)) + 7) % 2147483629 / 15 % 40) (by omega) (by omega) ⟨by omega, by omega⟩⟩
    · rintro σ H2 ⟨n, ns, y4, rfl, hn0, hn1, hl, hns, s2, e2⟩
      exact ⟨_, rfl, q H2 o ns s2 no e2 hns (by omega)⟩
/-! ### _law_ahead -/
def spAhead (K : PySem.W.Frag) : Sp := fun vs H Q _ => ∃ (a b : Str) (l : Addr) (cols : List Int), vs = [.str a, .str b, .ref l] ∧ CardOk a ∧ CardOk b ∧ SqL K H l (cols.map V.int) ∧ (∀ j, j ∈ cols → ColOk j) ∧ Q (.bl (ahead a b cols)) H
theorem card_len {c : Str} (h : CardOk c) : c.length ≤ sizeLine := line_of (by
  have h1 := h.1
  rw [Array.length_toList] at h1
  show c.cps.size ≤ 1000
  omega)
theorem card_at {c : Str} {j : Int} (h : CardOk c) (hj : ColOk j) : atI c.cps.toList (j - 1) = some (sg c j) := at_ofN (j := (j - 1).toNat) (by
  have := hj.1
  omega) (sg_get h hj)
theorem ahead_step {a b : Str} {cols : List Int} {i : Nat} {j : Int} (h : cols[i]? = some j) : ahead a b (cols.drop i) = if sg a j = sg b j then ahead a b (cols.drop (i + 1)) else decide (rk (sg a j) < rk (sg b j)) := by
  obtain ⟨h1, h2⟩ := List.getElem?_eq_some_iff.mp h
  rw [List.drop_eq_getElem_cons h1, h2]
  rfl
theorem ok_ahead {f fK : Addr} {fd fdK : FuncData} (F : Fun K "_law_ahead" "_law_ahead" sAhead f fd) (GK : Got P w K mg base "_law_known" 1 [] spKnown fK fdK) : FnOk P w K mg base CX0 2 f fd ["_law_card_here", "_law_other", "_law_columns_here"] (spAhead K) := by
  refine F.ok scAhead (fun vs H Q E h => ?_) (fun cdv A outer s H vs Q E hr h => ?_)
  · obtain ⟨a, b, l, cols, rfl, _⟩ := h
    rfl
  · obtain ⟨a, b, l, cols, rfl, ha, hb, hS, hc, q⟩ := h
    refine ⟨_, pss_cons (ps_for PassesOwn.never rfl (pi_list (pv 2)) (pg_name (i := 3) scAhead.nd rfl (.inl rfl))
        (pss_one (ps_if (pt_cmpR op_ne (pe_ix ix_str (pv 0) (pe_op op_sub (pv 3) pe_int) (fun _ _ => rfl)) (pe_ix ix_str (pv 1) (pe_op op_sub (pv 3) pe_int) (fun _ _ => rfl)) (nomark _))
          (pss_one (ps_ret (pe_cmpR op_lt
            (pe_bm PySem.F.plainAttrs_str PySem.F.slot_str_find PySem.F.type_str_find mt_find (pe_call0 GK.ok hr (by rfl) GK.at_ GK.kept GK.bd .nil pass0) (pa_cons (pe_ix ix_str (pv 0) (pe_op op_sub (pv 3) pe_int) (fun _ _ => rfl)) pa_nil))
            (pe_bm PySem.F.plainAttrs_str PySem.F.slot_str_find PySem.F.type_str_find mt_find (pe_call0 GK.ok hr (by rfl) GK.at_ GK.kept GK.bd .nil pass0) (pa_cons (pe_ix ix_str (pv 1) (pe_op op_sub (pv 3) pe_int) (fun _ _ => rfl)) pa_nil)) (nomark _))))
          pss_nil)))
      (pss_one (ps_ret pe_bl)), ?_⟩
    refine ⟨_, rfl, l, rfl, ⟨_, hS⟩, for_list (K := K) (a := l) (xs := cols.map V.int) (fun i σ H2 => ∃ y3, σ = [some (.str a), some (.str b), some (.ref l), y3] ∧ H2 = H ∧ ahead a b cols = ahead a b (cols.drop i))
      ⟨none, rfl, rfl, rfl⟩ (fun i σ H2 _ ⟨_, _, e, _⟩ => by rw [e]; exact hS) ?_ ?_⟩
    · rintro i y σ H2 hi ⟨y3, rfl, rfl, ea⟩
      rw [List.getElem?_map] at hi
      cases hcj : cols[i]? with
      | none =>
        rw [hcj] at hi
        cases hi
      | some j =>
        rw [hcj] at hi
        have ey : y = .int j := (Option.some.inj hi).symm
        subst ey
        have hj := hc j (List.mem_of_getElem? hcj)
        rw [ahead_step hcj] at ea
        refine ⟨_, rfl, _, rfl, _, _, rfl, rfl, a, _, _, rfl, rfl, card_len ha, card_at ha hj, _, rfl, _, rfl, _, _, rfl, rfl, b, _, _, rfl, rfl, card_len hb, card_at hb hj, rfl, _, rfl, ite2 (fun e => ?_) (fun e => ?_)⟩
        · have ne : sg a j ≠ sg b j := fun z => by
            rw [z] at e
            simp at e
          rw [if_neg ne] at ea
          refine ⟨rfl, rfl, _, rfl, _, rfl, _, _, rfl, rfl, a, _, _, rfl, rfl, card_len ha, card_at ha hj, SIG, _, rfl, rfl, rfl, rfl, _, rfl, _, rfl, _, _, rfl, rfl, b, _, _, rfl, rfl, card_len hb, card_at hb hj, SIG, _, rfl, rfl, _, _, rfl, rfl, ?_⟩
          rw [find_rk _ (sg_mem ha hj), find_rk _ (sg_mem hb hj)]
          have ed : decide ((rk (sg a j) : Int) < (rk (sg b j) : Int)) = decide (rk (sg a j) < rk (sg b j)) := decide_eq_decide.mpr (by omega)
          show Q (.bl (decide ((rk (sg a j) : Int) < (rk (sg b j) : Int)))) H2
          rw [ed, ← ea]
          exact q
        · have eq : sg a j = sg b j := by
            by_cases z : sg a j = sg b j
            · exact z
            · exfalso
              apply e
              have ne : ¬ (V.str ⟨#[sg a j]⟩ = V.str ⟨#[sg b j]⟩) := fun h => z (by simpa using h)
              rw [decide_eq_false ne]
              rfl
          rw [if_pos eq] at ea
          exact ⟨_, rfl, rfl, ea⟩
    · rintro σ H2 ⟨y3, rfl, rfl, ea⟩
      rw [List.length_map, List.drop_length] at ea
      show Q (.bl false) H2
      rw [ea] at q
      exact q
end
end K11
/-! K11: the law's look at a deck. -/
namespace K11
open PySem PySem.Spec PyProof.Rows L2
theorem iteB {b : Bool} {A B : Prop} (h : b = false) (hB : B) : if b = true then A else B := by
  rw [h]
  exact iteF hB
theorem iteBN {b : Bool} {A B : Prop} (h : b = true) (hB : B) : if (!b) = true then A else B := by
  rw [h]
  exact iteF hB
/-! ### where each card stood -/
structure Stood (kvs : List (Key × V)) (D : List Str) (i : Nat) : Prop where
  len : kvs.length = i
  no : ∀ c, c ∉ D.take i → valV kvs (Sum.inr c) = none
  yes : ∀ (m : Nat) (c : Str), m < i → D[m]? = some c → valV kvs (Sum.inr c) = some (.int (m : Nat))
theorem stood_next {kvs : List (Key × V)} {D : List Str} {i : Nat} {c : Str} (h : Stood kvs D i) (nd : D.Nodup) (hc : D[i]? = some c) : Stood (putK kvs (Sum.inr c) (.int (i : Nat))) D (i + 1) := by
  have hn : c ∉ D.take i := fun hm => by
    obtain ⟨m, hm⟩ := List.mem_iff_getElem?.mp hm
    rw [List.getElem?_take] at hm
    by_cases hi : m < i
    · rw [if_pos hi] at hm
      have e := nd_ix nd hm hc
      omega
    · rw [if_neg hi] at hm
      cases hm
  refine ⟨?_, fun d hd => ?_, fun m d hm hd => ?_⟩
  · rw [putK_new _ (h.no c hn), List.length_append, h.len, List.length_singleton]
  · rw [List.take_add_one, hc] at hd
    have h1 : d ∉ D.take i := fun z => hd (List.mem_append_left _ z)
    have h2 : d ≠ c := fun z => hd (List.mem_append_right _ (by rw [z]; simp))
    rw [valV_put, if_neg (fun z => h2 (Sum.inr.inj z))]
    exact h.no d h1
  · by_cases e : m = i
    · subst e
      have ed : d = c := Option.some.inj (hd.symm.trans hc)
      rw [valV_put, if_pos (by rw [ed])]
    · have h2 : d ≠ c := fun z => by
        rw [z] at hd
        exact e (nd_ix nd hd hc)
      rw [valV_put, if_neg (fun z => h2 (Sum.inr.inj z))]
      exact h.yes m d (by omega) hd
theorem cut_tail (xs : List V) : cutV xs (some 1) none = xs.drop 1 := by
  unfold cutV
  rw [show HT.sIx xs.length 0 (some 1) = min 1 xs.length from HT.sIx_nat xs.length 0 1, HT.sIx_none]
  cases xs with
  | nil => rfl
  | cons x r =>
    rw [show min 1 (x :: r).length = 1 by
      rw [List.length_cons]
      omega]
    show (List.take ((x :: r).length - 1) r) = r
    rw [List.length_cons, Nat.add_sub_cancel]
    exact List.take_length
theorem cut_head (xs : List V) : cutV xs none (some (-1)) = xs.take (xs.length - 1) := by
  unfold cutV
  rw [HT.sIx_none]
  have e : HT.sIx xs.length xs.length (some (-1)) = xs.length - 1 := by
    show (if (-1 : Int) < 0 then (-1 + (xs.length : Int)).toNat else min (-1 : Int).toNat xs.length) = xs.length - 1
    rw [if_pos (by decide)]
    omega
  rw [e]
  rfl
section
variable {P : Program} {w : World} {K : PySem.W.Frag} {mg : Str → Option Value} {base : Heap}
def spOrder (K : PySem.W.Frag) : Sp := fun vs H Q _ => ∃ (af ad ab : Addr) (F D : List Str) (cols : List Int), vs = [.ref af, .ref ad, .ref ab] ∧ H af = some (.lst (F.map V.str)) ∧ SqL K H ad (D.map V.str) ∧ SqL K H ab (cols.map V.int) ∧ D.length ≤ 1000 ∧ D.Nodup ∧
  (∀ c, c ∈ D → CardOk c) ∧ (∀ j, j ∈ cols → ColOk j) ∧ Good F D cols ∧ ∀ H' : Hp, Same H H' → Q (.bl true) H'
theorem ok_order {f fA : Addr} {fd fdA : FuncData} (F : Fun K "_law_in_order" "_law_in_order" sOrder f fd) (T : Top mg) (GA : Got P w K mg base "_law_ahead" 2 ["_law_card_here", "_law_other", "_law_columns_here"] (spAhead K) fA fdA) :
    FnOk P w K mg base CX0 3 f fd ["_law_found", "_law_deck", "_law_back"] (spOrder K) := by
  refine F.ok scOrder (fun vs H Q E h => ?_) (fun cdv A outer s H vs Q E hr h => ?_)
  · obtain ⟨af, ad, ab, F, D, cols, rfl, _⟩ := h
    rfl
  · obtain ⟨af, ad, ab, F, D, cols, rfl, hF, hD, hB, hlen, nd, hok, hcol, G, q⟩ := h
    have hu := hu_of hr
    have bl : bootBuiltins ("list" : Str) = some (.type "list") := by decide +kernel
    have bs : bootBuiltins ("str" : Str) = some (.type "str") := by decide +kernel
    refine ⟨_, pss_cons (ps_if (PW.pt (pw_or (pt_not (pt_val (pe_callB call_isi (by rfl) T.isinstance boot_isinstance (pa_cons (pv 0) (pa_cons (pe_bltn (v := .ty "list") (by rfl) T.list bl rfl) pa_nil)))))
          (pw_or1 (pt_cmpR op_ne (pe_callB call_len_seq (by rfl) T.len PySem.boot_len (pa_cons (pv 0) pa_nil)) (pe_callB call_len_seq (by rfl) T.len PySem.boot_len (pa_cons (pv 1) pa_nil)) (nomark _))))) (pss_one (ps_ret pe_bl)) pss_nil)
      (pss_cons (ps_set (i := 3) scOrder.nd rfl (.inl rfl) pe_dnewK)
      (pss_cons (ps_for PassesOwn.never rfl (pi_enum (by rfl) T.enumerate (pa_cons (pv 1) pa_nil)) (pg_tup (by rfl) (pgs_cons (pg_name (i := 4) scOrder.nd rfl (.inl rfl)) (pgs_cons (pg_name (i := 5) scOrder.nd rfl (.inl rfl)) pgs_nil)))
        (pss_one (ps_dput hu (pv 3) (pv 5) (pv 4) rfl)))
      (pss_cons (ps_for PassesOwn.never rfl (pi_list (pv 0)) (pg_name (i := 5) scOrder.nd rfl (.inl rfl))
        (pss_one (ps_if (PW.pt (pw_or (pt_not (pt_val (pe_callB call_isi (by rfl) T.isinstance boot_isinstance (pa_cons (pv 5) (pa_cons (pe_bltn (v := .ty "str") (by rfl) T.str bs rfl) pa_nil)))))
          (pw_or1 (pt_cmp (pc_dnotin hu (pv 5) (pv 3)))))) (pss_one (ps_ret pe_bl)) pss_nil)))
      (pss_cons (ps_for PassesOwn.never rfl (pi_zip (by rfl) T.zip (pa_cons (pe_slice sl_list (pv 0) po_none (po_some (pe_un un_neg pe_int))) (pa_cons (pe_slice sl_list (pv 0) (po_some pe_int) po_none) pa_nil)))
          (pg_tup (by rfl) (pgs_cons (pg_name (i := 6) scOrder.nd rfl (.inl rfl)) (pgs_cons (pg_name (i := 7) scOrder.nd rfl (.inl rfl)) pgs_nil)))
        (pss_cons (ps_if (pt_val (pe_call GA.ok hr (by rfl) GA.at_ GA.kept GA.bd .nil pass0 (pa_cons (pv 7) (pa_cons (pv 6) (pa_cons (pv 2) pa_nil))))) (pss_one (ps_ret pe_bl)) pss_nil)
        (pss_one (ps_if (PW.pt (pw_and (pt_not (pt_val (pe_call GA.ok hr (by rfl) GA.at_ GA.kept GA.bd .nil pass0 (pa_cons (pv 6) (pa_cons (pv 7) (pa_cons (pv 2) pa_nil))))))
          (pw_and1 (pt_cmpR op_le (pe_dget hu (pv 3) (pv 7) (fun _ _ => rfl)) (pe_dget hu (pv 3) (pv 6) (fun _ _ => rfl)) (nomark _))))) (pss_one (ps_ret pe_bl)) pss_nil))))
      (pss_one (ps_ret pe_bl)))))), ?_⟩
    -- the first look
    refine ⟨_, rfl, .ref af, .ty "list", .type "list", .type "list", true, rfl, .ty _, .base (.lst hF), kit_ty (by decide +kernel), true, rfl, ?_⟩
    refine ⟨_, rfl, af, _, rfl, .inl (SqL.of hF), _, rfl, ad, _, rfl, .inl hD, rfl, _, rfl, iteNS (by rw [List.length_map, List.length_map, G.len]) ?_⟩
    -- stood = {}
    intro d nd0
    have hd0 : (upd H d (.dK [])) d = some (.dK []) := upd_same
    -- for k, card in enumerate(deck)
    refine ⟨_, rfl, ad, _, rfl, (same_upd nd0).seq hD, for_it (walk_enum (K := K) (a := ad) (xs := D.map V.str)) (fun i σ H2 => ∃ (y4 y5 : Option V) (kvs : List (Key × V)), σ = [some (.ref af), some (.ref ad), some (.ref ab), some (.ref d), y4, y5, none, none] ∧ Same H H2 ∧ H2 d = some (.dK kvs) ∧ Stood kvs D i)
      ⟨none, none, [], rfl, same_upd nd0, hd0, rfl, fun c _ => rfl, fun m c hm _ => absurd hm (Nat.not_lt_zero _)⟩ (fun i σ H2 _ ⟨_, _, _, _, s2, _⟩ => s2.seq hD) ?_ ?_⟩
    · rintro i xZ σ H2 HZ hiN ⟨y4, y5, kvs, rfl, s2, e2, st⟩ ⟨Z, xi, x, rfl, nZ, rfl, exi, hi⟩
      obtain rfl : V.int (i : Nat) = xi := Option.some.inj exi
      have hi : (D.map V.str)[i]? = some x := hi
      rw [List.getElem?_map] at hi
      cases hc : D[i]? with
      | none =>
        rw [hc] at hi
        cases hi
      | some c =>
        rw [hc] at hi
        have ex : x = .str c := (Option.some.inj hi).symm
        subst ex
        have hil := (List.getElem?_eq_some_iff.mp hc).1
        have dZ : d ≠ Z := ne_of_none e2 nZ
        have e3 : (upd H2 Z (.tup [.int (i : Nat), .str c])) d = some (.dK kvs) := by
          rw [upd_ne dZ]
          exact e2
        refine ⟨Z, _, rfl, SqT.of upd_same, rfl, _, _, rfl, _, _, rfl, rfl, _, rfl, _, rfl, _, rfl, d, _, rfl, DPut.k (k := Sum.inr c) e3 ?_, ?_⟩
        · rw [st.len]
          exact small1000 (by omega)
        · exact ⟨_, _, _, rfl, same_set (s2.trans (same_upd nZ)) nd0, upd_same, stood_next st nd hc⟩
    · rintro σ H2 ⟨y4, y5, kvs, rfl, s2, e2, st⟩
      rw [List.length_map] at st
      have look : ∀ c, c ∈ D → ∃ m : Nat, D[m]? = some c ∧ valV kvs (Sum.inr c : Key) = some (.int (m : Nat)) := fun c hc => by
        obtain ⟨m, hm⟩ := List.mem_iff_getElem?.mp hc
        exact ⟨m, hm, st.yes m c (List.getElem?_eq_some_iff.mp hm).1 hm⟩
      -- for card in found
      refine ⟨_, rfl, af, rfl, ⟨_, SqL.of (s2 _ _ hF)⟩, for_list (K := K) (a := af) (xs := F.map V.str) (fun i σ H3 => ∃ (y5 : Option V), σ = [some (.ref af), some (.ref ad), some (.ref ab), some (.ref d), y4, y5, none, none] ∧ H3 = H2)
        ⟨y5, rfl, rfl⟩ (fun i σ H3 _ ⟨_, _, e⟩ => by rw [e]; exact SqL.of (s2 _ _ hF)) ?_ ?_⟩
      · rintro i x σ H3 hi ⟨y5', rfl, rfl⟩
        rw [List.getElem?_map] at hi
        cases hc : F[i]? with
        | none =>
          rw [hc] at hi
          cases hi
        | some c =>
          rw [hc] at hi
          have ex : x = .str c := (Option.some.inj hi).symm
          subst ex
          obtain ⟨m, hm, hv⟩ := look c (G.mem c (List.mem_of_getElem? hc))
          refine ⟨_, rfl, .str c, .ty "str", .type "str", .type "str", true, rfl, .ty _, .base (.str c), kit_ty (by decide +kernel), true, rfl, ?_⟩
          refine ⟨_, rfl, _, rfl, d, _, rfl, DGet.k (k := Sum.inr c) e2, _, rfl, iteBN (by rw [hv]; rfl) ?_⟩
          exact ⟨_, rfl, rfl⟩
      · rintro σ H3 ⟨y5', rfl, rfl⟩
        -- for one, two in zip(found[:-1], found[1:])
        refine ⟨_, rfl, 1, rfl, -1, rfl, af, _, rfl, SqL.of (s2 _ _ hF), fun c1 n1 => ?_⟩
        rw [cut_head, List.length_map]
        have sA := s2.trans (same_upd (o := .lst ((F.map V.str).take (F.length - 1))) n1)
        have d1 : d ≠ c1 := ne_of_none e2 n1
        refine ⟨_, rfl, 1, rfl, af, _, rfl, SqL.of (sA _ _ hF), fun c2 n2 => ?_⟩
        rw [cut_tail]
        have c12 : c1 ≠ c2 := fun e => by
          rw [← e, upd_same] at n2
          cases n2
        have d2 : d ≠ c2 := fun e => by
          rw [← e, upd_ne d1, e2] at n2
          cases n2
        have hl : ((F.map V.str).take (F.length - 1)).length = ((F.map V.str).drop 1).length := by
          rw [List.length_take, List.length_drop, List.length_map]
          omega
        have eB1 : (upd (upd H3 c1 (.lst ((F.map V.str).take (F.length - 1)))) c2 (.lst ((F.map V.str).drop 1))) c1 = some (.lst ((F.map V.str).take (F.length - 1))) := by
          rw [upd_ne c12, upd_same]
        have eBd : (upd (upd H3 c1 (.lst ((F.map V.str).take (F.length - 1)))) c2 (.lst ((F.map V.str).drop 1))) d = some (.dK kvs) := by
          rw [upd_ne d2, upd_ne d1]
          exact e2
        have sB := sA.trans (same_upd (o := .lst ((F.map V.str).drop 1)) n2)
        refine ⟨c1, c2, _, _, rfl, SqL.of eB1, SqL.of upd_same, RZ.for_zipL (K := K) (a := c1) (b := c2) hl (fun i σ H4 => ∃ (y6 y7 : Option V), σ = [some (.ref af), some (.ref ad), some (.ref ab), some (.ref d), y4, y5', y6, y7] ∧ Same H H4 ∧ H4 d = some (.dK kvs) ∧
            H4 c1 = some (.lst ((F.map V.str).take (F.length - 1))) ∧ H4 c2 = some (.lst ((F.map V.str).drop 1)))
          ⟨none, none, rfl, sB, eBd, eB1, upd_same⟩ (fun i σ H4 ⟨_, _, _, _, _, h1, h2⟩ => ⟨SqL.of h1, SqL.of h2⟩) ?_ ?_⟩
        · rintro i x y Z σ H4 hx hy ⟨y6, y7, rfl, s4, e4, g1, g2⟩ nZ
          obtain ⟨a, ha, rfl⟩ : ∃ a, F[i]? = some a ∧ x = .str a := by
            rw [List.getElem?_take] at hx
            by_cases hi : i < F.length - 1
            · rw [if_pos hi, List.getElem?_map] at hx
              cases h : F[i]? with
              | none =>
                rw [h] at hx
                cases hx
              | some a =>
                rw [h] at hx
                exact ⟨a, rfl, (Option.some.inj hx).symm⟩
            · rw [if_neg hi] at hx
              cases hx
          obtain ⟨b, hb, rfl⟩ : ∃ b, F[i + 1]? = some b ∧ y = .str b := by
            rw [List.getElem?_drop, List.getElem?_map, Nat.add_comm 1 i] at hy
            cases h : F[i + 1]? with
            | none =>
              rw [h] at hy
              cases hy
            | some b =>
              rw [h] at hy
              exact ⟨b, rfl, (Option.some.inj hy).symm⟩
          obtain ⟨h1, h2⟩ := G.nb i a b ha hb
          have aD := G.mem a (List.mem_of_getElem? ha)
          have bD := G.mem b (List.mem_of_getElem? hb)
          have sZ := s4.trans (same_upd (o := .tup [.str a, .str b]) nZ)
          have hBZ := sZ.seq hB
          have eZ : (upd H4 Z (.tup [.str a, .str b])) d = some (.dK kvs) := same_upd nZ _ _ e4
          have gZ1 := same_upd (o := .tup [.str a, .str b]) nZ _ _ g1
          have gZ2 := same_upd (o := .tup [.str a, .str b]) nZ _ _ g2
          refine ⟨Z, _, rfl, SqT.of upd_same, rfl, _, _, rfl, _, _, rfl, rfl, ?_⟩
          refine ⟨_, rfl, _, rfl, _, rfl, b, a, ab, cols, rfl, hok b bD, hok a aD, hBZ, hcol, _, rfl, iteB h1 ?_⟩
          refine ⟨_, rfl, _, rfl, _, rfl, a, b, ab, cols, rfl, hok a aD, hok b bD, hBZ, hcol, _, rfl, ?_⟩
          have fin : ∃ (y6 y7 : Option V), [some (V.ref af), some (.ref ad), some (.ref ab), some (.ref d), y4, y5', some (.str a), some (.str b)] = [some (V.ref af), some (.ref ad), some (.ref ab), some (.ref d), y4, y5', y6, y7] ∧ Same H (upd H4 Z (.tup [.str a, .str b])) ∧ (upd H4 Z (.tup [.str a, .str b])) d = some (.dK kvs) ∧
            (upd H4 Z (.tup [.str a, .str b])) c1 = some (.lst ((F.map V.str).take (F.length - 1))) ∧ (upd H4 Z (.tup [.str a, .str b])) c2 = some (.lst ((F.map V.str).drop 1)) := ⟨_, _, rfl, sZ, eZ, gZ1, gZ2⟩
          by_cases hab : ahead a b cols = true
          · exact iteBN hab (iteB rfl fin)
          · have hab : ahead a b cols = false := by simpa using hab
            rw [hab]
            obtain ⟨m, k, hm, hk, hmk⟩ := h2 hab
            have va := st.yes m a (List.getElem?_eq_some_iff.mp hm).1 hm
            have vb := st.yes k b (List.getElem?_eq_some_iff.mp hk).1 hk
            refine ⟨_, rfl, _, rfl, d, _, rfl, (by rw [← vb]; exact DGet.k (k := Sum.inr b) eZ), _, rfl, _, rfl, d, _, rfl, (by rw [← va]; exact DGet.k (k := Sum.inr a) eZ), _, _, rfl, rfl, _, rfl, iteB (decide_eq_false (by omega)) fin⟩
        · rintro σ H4 ⟨y6, y7, rfl, s4, e4, g1, g2⟩
          exact q H4 s4
end
end K11
/-! K11: marks, menus, slices, equal lists. -/
namespace K11
open PySem PySem.Spec PyProof.Rows L2
/-- the mark of the i-th card -/
def numI (i : Nat) : Int := (i : Int) * 271 % 10000
def markI (i : Nat) : Str := Txt.zfill (toString (numI i) : String) 4
theorem mark_ok : ∀ i, i < 61 → (markI i).cps.toList.length = 4 ∧ (∀ s, s ∈ (markI i).cps.toList → s ∈ sgns) ∧ (numI i).natAbs.log2 < 1920 := by decide +kernel
theorem mark_nodup : ((List.range 61).map markI).Nodup := by decide +kernel
theorem mark_inj {i k : Nat} (hi : i < 61) (hk : k < 61) (e : markI i = markI k) : i = k := by
  have h1 : ((List.range 61).map markI)[i]? = some (markI i) := by
    rw [List.getElem?_map, List.getElem?_range hi]
    rfl
  have h2 : ((List.range 61).map markI)[k]? = some (markI i) := by
    rw [List.getElem?_map, List.getElem?_range hk, e]
    rfl
  exact nd_ix mark_nodup h1 h2
theorem pad4 : PadOk 4 = true := by decide +kernel
/-- a card so made -/
theorem made_ok {b : List Nat} {i : Nat} (hi : i < 61) (hb : b.length = 36) (hs : ∀ s, s ∈ b → s ∈ sgns) : CardOk ⟨(b ++ (markI i).cps.toList).toArray⟩ := by
  obtain ⟨h1, h2, _⟩ := mark_ok i hi
  refine ⟨?_, fun s hm => ?_⟩
  · show (b ++ (markI i).cps.toList).length = 40
    rw [List.length_append, hb, h1]
  · have hm : s ∈ b ++ (markI i).cps.toList := hm
    rcases List.mem_append.mp hm with hm | hm
    · exact hs s hm
    · exact h2 s hm
theorem made_mark {b : List Nat} {i : Nat} (hb : b.length = 36) : (⟨(b ++ (markI i).cps.toList).toArray⟩ : Str).cps.toList.drop 36 = (markI i).cps.toList := by
  show (b ++ (markI i).cps.toList).drop 36 = _
  rw [← hb, List.drop_left]
/-- the deck, as it is made -/
structure Deck (D : List Str) (n : Nat) : Prop where
  len : D.length = n
  ok : ∀ c, c ∈ D → CardOk c
  mark : ∀ (k : Nat) (c : Str), D[k]? = some c → c.cps.toList.drop 36 = (markI k).cps.toList
theorem deck_nil : Deck [] 0 := ⟨rfl, fun c h => (by cases h), fun k c h => (by simp at h)⟩
theorem deck_snoc {D : List Str} {n : Nat} {b : List Nat} (h : Deck D n) (hn : n < 61) (hb : b.length = 36) (hs : ∀ s, s ∈ b → s ∈ sgns) : Deck (D ++ [⟨(b ++ (markI n).cps.toList).toArray⟩]) (n + 1) := by
  refine ⟨by rw [List.length_append, h.len, List.length_singleton], fun c hc => ?_, fun k c hc => ?_⟩
  · rcases List.mem_append.mp hc with hc | hc
    · exact h.ok c hc
    · rw [List.mem_singleton] at hc
      rw [hc]
      exact made_ok hn hb hs
  · by_cases hk : k < D.length
    · rw [List.getElem?_append_left hk] at hc
      exact h.mark k c hc
    · rw [List.getElem?_append_right (by omega)] at hc
      have hk0 : k - D.length = 0 := by
        have h1 := (List.getElem?_eq_some_iff.mp hc).1
        rw [List.length_singleton] at h1
        omega
      rw [hk0] at hc
      have ec : (⟨(b ++ (markI n).cps.toList).toArray⟩ : Str) = c := Option.some.inj hc
      have ek : k = n := by
        have := h.len
        omega
      rw [← ec, ek]
      exact made_mark hb
theorem deck_nodup {D : List Str} {n : Nat} (h : Deck D n) (hn : n ≤ 61) : D.Nodup := by
  rw [List.nodup_iff_pairwise_ne, List.pairwise_iff_getElem]
  intro i j hi hj hij e
  have h1 := h.mark i D[i] (List.getElem?_eq_getElem hi)
  have h2 := h.mark j D[j] (List.getElem?_eq_getElem hj)
  rw [← e, h1] at h2
  have e2 : markI i = markI j := by
    rw [str_eta (markI i), str_eta (markI j), h2]
  have := h.len
  have e3 := mark_inj (by omega) (by omega) e2
  omega

/-- the menus -/
theorem menu_at (z : Int) : ∃ m : Str, atI [V.str "A ", V.str "0Z9", V.str "B5A 0", V.str SIG] (z % 4) = some (.str m) ∧ 1 ≤ m.cps.toList.length ∧ m.cps.toList.length ≤ 40 ∧ ∀ s, s ∈ m.cps.toList → s ∈ sgns := by
  have h : z % 4 = 0 ∨ z % 4 = 1 ∨ z % 4 = 2 ∨ z % 4 = 3 := by omega
  rcases h with h | h | h | h
  · rw [h]
    exact ⟨_, rfl, by decide +kernel, by decide +kernel, by decide +kernel⟩
  · rw [h]
    exact ⟨_, rfl, by decide +kernel, by decide +kernel, by decide +kernel⟩
  · rw [h]
    exact ⟨_, rfl, by decide +kernel, by decide +kernel, by decide +kernel⟩
  · rw [h]
    exact ⟨_, rfl, by decide +kernel, by decide +kernel, by decide +kernel⟩

/-- slices -/
theorem cut_upto (xs : List V) (k : Nat) : cutV xs none (some (k : Int)) = xs.take k := by
  unfold cutV
  rw [HT.sIx_none, HT.sIx_nat]
  show (xs.drop 0).take (min k xs.length - 0) = xs.take k
  rw [List.drop_zero, Nat.sub_zero, ← List.take_take, List.take_length]
theorem cut_from (xs : List V) (k : Nat) : cutV xs (some (k : Int)) none = xs.drop k := by
  unfold cutV
  rw [HT.sIx_none, HT.sIx_nat]
  by_cases h : k ≤ xs.length
  · rw [Nat.min_eq_left h]
    have e : xs.length - k = (xs.drop k).length := by rw [List.length_drop]
    rw [e, List.take_length]
  · rw [Nat.min_eq_right (by omega), List.drop_eq_nil_of_le (Nat.le_refl _), List.drop_eq_nil_of_le (by omega), List.take_nil]
theorem cut_cells (ns : List Int) (h : ns.length ≤ 63) : ∃ cs : List Int, cutV (ns.map V.int) (some 2) (some 82) = cs.map V.int ∧ cs.length ≤ 61 := by
  unfold cutV
  rw [← List.map_drop, ← List.map_take]
  refine ⟨_, rfl, ?_⟩
  rw [List.length_take, List.length_drop, List.length_map, show HT.sIx ns.length 0 (some 2) = min 2 ns.length from HT.sIx_nat ns.length 0 2, show HT.sIx ns.length ns.length (some 82) = min 82 ns.length from HT.sIx_nat ns.length _ 82]
  omega

/-- equal lists -/
theorem strs_lay : ∀ xs : List Str, (∀ c, c ∈ xs → CardOk c) → PyData.canLayAll0 (xs.map PyData.str) = true
  | [], _ => rfl
  | x :: r, h => by
    have h1 : PyData.strOk x = true := by
      unfold PyData.strOk
      rw [Array.all_eq_true']
      intro s hs
      have h2 := (h x List.mem_cons_self).2 s (by simpa using hs)
      have h3 : ∀ s, s ∈ sgns → decide (s < 0x110000) = true := by decide +kernel
      exact h3 s h2
    simp [PyData.canLayAll0, PyData.canLay0, h1, strs_lay r fun c hc => h c (List.mem_cons_of_mem _ hc)]
theorem strs_depth : ∀ xs : List Str, PyData.depthAll (xs.map PyData.str) = 0
  | [] => rfl
  | _ :: r => by simp [PyData.depthAll, PyData.depth, strs_depth r]
theorem strs_shaped {xs : List Str} (h : ∀ c, c ∈ xs → CardOk c) : SeqAt.shaped (.list (xs.map PyData.str)) = true := by
  simp [SeqAt.shaped, PyData.canLay0, PyData.depth, strs_lay xs h, strs_depth]
theorem dp_strs {K : PySem.W.Frag} {H : Hp} : ∀ xs : List Str, DpAll K H (xs.map V.str) (xs.map PyData.str)
  | [] => .nil
  | x :: r => .cons (.str x) (dp_strs r)
theorem dp_ints {K : PySem.W.Frag} {H : Hp} : ∀ xs : List Int, DpAll K H (xs.map V.int) (xs.map PyData.int)
  | [] => .nil
  | x :: r => .cons (.int x) (dp_ints r)
theorem eqv_of {d : PyData} (h : SeqAt.shaped d = true) : PyData.eqv d d = true := SeqAt.eqv_refl d (SeqAt.canLay_of_shaped h)
end K11
/-! K11: the law itself. -/
namespace K11
open PySem PySem.Spec PyProof.Rows L2
section
variable {P : Program} {w : World} {K : PySem.W.Frag} {mg : Str → Option Value} {base : Heap}
def spLaw (K : PySem.W.Frag) : Sp := fun vs H Q _ => ∃ (a : Addr) (ns : List Int), vs = [.ref a] ∧ SqL K H a (ns.map V.int) ∧ ns.length ≤ 63 ∧ ∀ H', Q (.bl true) H'
theorem iteBT {b : Bool} {A B : Prop} (h : b = true) (hA : A) : if b = true then A else B := by
  rw [h]
  exact iteT hA
/-- what stands when the deck is dealt -/
structure Laid (H : Hp) (d pr pb ph pa pf : Addr) (D : List Str) (row : List Int) : Prop where
  d : H d = some (.lst (D.map V.str))
  r : H pr = some (.lst (row.map V.int))
  b : H pb = some (.lst (row.reverse.map V.int))
  h : H ph = some (.lst (D.map V.str))
  a : H pa = some (.lst (row.map V.int))
  f : H pf = some (.lst ((dealAll D row).map V.str))
theorem Laid.same {H H' : Hp} {d pr pb ph pa pf : Addr} {D : List Str} {row : List Int} (l : Laid H d pr pb ph pa pf D row) (s : Same H H') : Laid H' d pr pb ph pa pf D row :=
  ⟨s _ _ l.d, s _ _ l.r, s _ _ l.b, s _ _ l.h, s _ _ l.a, s _ _ l.f⟩
/-- the reading of one card's making in the law's comprehension -/
def tElt (K : PySem.W.Frag) : TE := tCall spCard [] E0 (tCons (tVar 13) (tCons (tVar 2) (tCons
  (tBM K "str" (fun x xs H Q => ∃ (a : Str) (i : Int), x = .str a ∧ xs = [.int i] ∧ PadOk i = true ∧ Q (.str (Txt.zfill a i)) H)
    (tCB (fun xs H Q => ∃ i : Int, xs = [.int i] ∧ i.natAbs.log2 < 1920 ∧ Q (.str (toString i : String)) H) (tCons (tOp (rI (fun _ j => 0 < j) fun i j => .int (i % j)) (tOp (rI CMul fun i j => .int (i * j)) (tVar 12) (tC (.int 271))) (tC (.int 10000))) tNil))
    (tCons (tC (.int 4)) tNil)) tNil)))
theorem ok_law {f fC fK fM fR fD fO : Addr} {fd fdC fdK fdM fdR fdD fdO : FuncData} (F : Fun K "law" "law" sLaw f fd) (T : Top mg)
    (GC : Got P w K mg base "_law_cell_at" 1 ["_law_script", "_law_k"] (spCell K) fC fdC) (GK : Got P w K mg base "_law_known" 1 [] spKnown fK fdK)
    (GM : Got P w K mg base "_law_card" 1 ["_law_cell", "_law_menu", "_law_mark"] spCard fM fdM) (GR : Got P w K mg base "_law_columns" 1 ["_law_cell", "_law_most"] spCols fR fdR)
    (GD : Got P w K mg base "deal_all" 3 ["deck", "row"] (spDeal K) fD fdD) (GO : Got P w K mg base "_law_in_order" 3 ["_law_found", "_law_deck", "_law_back"] (spOrder K) fO fdO) :
    FnOk P w K mg base CX0 4 f fd ["_law_script"] (spLaw K) := by
  refine F.ok scLaw (fun vs H Q E h => ?_) (fun cdv A outer s H vs Q E hr h => ?_)
  · obtain ⟨a, ns, rfl, _⟩ := h
    rfl
  · obtain ⟨a, ns, rfl, hS, hlen, q⟩ := h
    have hr1 : Room 1 _ := hr.mono (by decide)
    have bl : bootBuiltins ("list" : Str) = some (.type "list") := by decide +kernel
    have bs : bootBuiltins ("str" : Str) = some (.type "str") := by decide +kernel
    refine ⟨_, pss_cons (ps_set (i := 1) scLaw.nd rfl (.inl rfl) (pe_call GC.ok hr1 (by rfl) GC.at_ GC.kept GC.bd .nil pass0 (pa_cons (pv 0) (pa_cons pe_int pa_nil))))
      (pss_cons (ps_set (i := 2) scLaw.nd rfl (.inr rfl) (pe_ix ix_list (pe_lst (pa_cons pe_str (pa_cons pe_str (pa_cons pe_str (pa_cons (pe_call0 GK.ok hr1 (by rfl) GK.at_ GK.kept GK.bd .nil pass0) pa_nil))))) (pe_op op_mod (pv 1) pe_int) (fun _ _ => rfl)))
      (pss_cons (ps_setLc (i := 3) (own := [("_law_k", 12), ("_law_cell", 13)]) (g := gTup K 2 (gCons (gName 12) (gCons (gName 13) gNil))) (tt := tYes) (te := tElt K) (by rfl) scLaw.nd rfl rfl (sw_true rfl rfl rfl (by decide +kernel))
          (pi_enum (by rfl) T.enumerate (pa_cons (pe_slice sl_list (pv 0) (po_some pe_int) (po_some pe_int)) pa_nil))
          (blkOk_by (own := [("_law_k", 12), ("_law_cell", 13)]) (N := nLaw) (sc := defScope sLaw) (by decide +kernel))
          (fun _ _ _ _ _ => pg_tup (by rfl) (pgs_cons (pg_name (i := 12) scLaw.nd rfl (.inl rfl)) (pgs_cons (pg_name (i := 13) scLaw.nd rfl (.inl rfl)) pgs_nil))) (fun _ _ _ _ _ => pts_nil)
          (fun _ _ _ _ _ => pe_call GM.ok hr1 (by rfl) GM.at_ GM.kept GM.bd .nil pass0 (pa_cons (pv 13) (pa_cons (pv 2) (pa_cons
            (pe_bm PySem.F.plainAttrs_str PySem.F.slot_str_zfill PySem.F.type_str_zfill mt_zfill (pe_callTy call_str_int (by rfl) T.str bs (pa_cons (pe_op op_mod (pe_op op_mul (pv 12) pe_int) pe_int) pa_nil)) (pa_cons pe_int pa_nil)) pa_nil)))))
      (pss_cons (ps_set (i := 4) scLaw.nd rfl (.inl rfl) (pe_call GR.ok hr1 (by rfl) GR.at_ GR.kept GR.bd .nil pass0 (pa_cons (pe_call GC.ok hr1 (by rfl) GC.at_ GC.kept GC.bd .nil pass0 (pa_cons (pv 0) (pa_cons pe_int pa_nil))) (pa_cons pe_int pa_nil))))
      (pss_cons (ps_set (i := 5) scLaw.nd rfl (.inl rfl) (pe_revL (pv 4)))
      (pss_cons (ps_set (i := 6) scLaw.nd rfl (.inl rfl) (pe_callTy call_list_of (by rfl) T.list bl (pa_cons (pv 3) pa_nil)))
      (pss_cons (ps_set (i := 7) scLaw.nd rfl (.inl rfl) (pe_callTy call_list_of (by rfl) T.list bl (pa_cons (pv 4) pa_nil)))
      (pss_cons (ps_set (i := 8) scLaw.nd rfl (.inl rfl) (pe_call GD.ok hr (by rfl) GD.at_ GD.kept GD.bd .nil pass0 (pa_cons (pv 6) (pa_cons (pv 7) pa_nil))))
      (pss_cons (ps_if (PW.pt (pw_or (pt_not (pt_val (pe_call GO.ok hr (by rfl) GO.at_ GO.kept GO.bd .nil pass0 (pa_cons (pv 8) (pa_cons (pv 3) (pa_cons (pv 5) pa_nil))))))
          (pw_or (pt_cmpR (op_neD hr.units) (pv 6) (pv 3) (nomark _)) (pw_or1 (pt_cmpR (op_neD hr.units) (pv 7) (pv 4) (nomark _)))))) (pss_one (ps_ret pe_bl)) pss_nil)
      (pss_cons (ps_set (i := 9) scLaw.nd rfl (.inl rfl) (pe_call GD.ok hr (by rfl) GD.at_ GD.kept GD.bd .nil pass0 (pa_cons (pv 6) (pa_cons (pe_lst pa_nil) pa_nil))))
      (pss_cons (ps_if (PW.pt (pw_or (pt_not (pt_val (pe_callB call_isi (by rfl) T.isinstance boot_isinstance (pa_cons (pv 9) (pa_cons (pe_bltn (v := .ty "list") (by rfl) T.list bl rfl) pa_nil)))))
          (pw_or1 (pt_cmpR (op_neD hr.units) (pv 9) (pv 3) (nomark _))))) (pss_one (ps_ret pe_bl)) pss_nil)
      (pss_cons (ps_expr (pe_bm PySem.F.plainAttrs_list PySem.F.slot_list_append PySem.F.type_list_append mt_append (pv 9) (pa_cons pe_str pa_nil)))
      (pss_cons (ps_set (i := 10) scLaw.nd rfl (.inl rfl) (pe_op op_mod (pe_op op_fdiv (pv 1) pe_int) (pe_op op_add (pe_callB call_len_seq (by rfl) T.len PySem.boot_len (pa_cons (pv 4) pa_nil)) pe_int)))
      (pss_cons (ps_set (i := 11) scLaw.nd rfl (.inl rfl) (pe_call GD.ok hr (by rfl) GD.at_ GD.kept GD.bd .nil pass0 (pa_cons (pe_call GD.ok hr (by rfl) GD.at_ GD.kept GD.bd .nil pass0 (pa_cons (pv 6) (pa_cons (pe_slice sl_list (pv 4) po_none (po_some (pv 10))) pa_nil)))
          (pa_cons (pe_slice sl_list (pv 4) (po_some (pv 10)) po_none) pa_nil))))
      (pss_one (ps_ret (pe_and (pe_call GO.ok hr (by rfl) GO.at_ GO.kept GO.bd .nil pass0 (pa_cons (pv 11) (pa_cons (pv 3) (pa_cons (pv 5) pa_nil))))
          (pe_and (pe_cmpR (op_eqD hr.units) (pv 6) (pv 3) (nomark _)) (pe_one (pe_call GO.ok hr (by rfl) GO.at_ GO.kept GO.bd .nil pass0 (pa_cons (pv 8) (pa_cons (pv 3) (pa_cons (pv 5) pa_nil)))))))))))))))))))))), ?_⟩
    -- first = .., menu = ..
    refine ⟨_, rfl, a, ns, 0, rfl, hS, fun z => ?_⟩
    obtain ⟨m, em, hm1, hm2, hm3⟩ := menu_at z
    refine ⟨rfl, line_of (show 4 ≤ 1000 by decide), fun pm nm => ?_⟩
    refine ⟨_, rfl, _, _, rfl, rfl, (by show (0 : Int) < _; decide), pm, _, _, .str m, rfl, rfl, SqL.of upd_same, em, ?_⟩
    -- deck = [..]
    obtain ⟨cs, ecs, hcs⟩ := cut_cells ns hlen
    refine ⟨_, rfl, 2, rfl, 82, rfl, a, _, rfl, (same_upd nm).seq hS, fun c nc => ?_⟩
    rw [ecs]
    have s2 := (same_upd (o := .lst [V.str "A ", V.str "0Z9", V.str "B5A 0", V.str SIG]) nm).trans (same_upd (o := .lst (cs.map V.int)) nc)
    refine ⟨c, _, rfl, SqL.of upd_same, fun d nd => lc_it (walk_enum (K := K) (a := c) (xs := cs.map V.int)) (fun i H' => ∃ D, Deck D i ∧ Same (upd (upd H pm (.lst [V.str "A ", V.str "0Z9", V.str "B5A 0", V.str SIG])) c (.lst (cs.map V.int))) H' ∧ H' d = some (.lst (D.map V.str)))
      ⟨[], deck_nil, same_upd nd, upd_same⟩ (fun i H' _ ⟨_, _, s', _⟩ => s'.seq (SqL.of upd_same)) ?_ ?_⟩
    · rintro i xZ H' HZ hiN ⟨D, hD, s', e'⟩ ⟨Z, xi, x, rfl, nZ, rfl, exi, hi⟩
      obtain rfl : V.int (i : Nat) = xi := Option.some.inj exi
      have hi : (cs.map V.int)[i]? = some x := hi
      rw [List.getElem?_map] at hi
      cases hc : cs[i]? with
      | none =>
        rw [hc] at hi
        cases hi
      | some y =>
        rw [hc] at hi
        have ex : x = .int y := (Option.some.inj hi).symm
        subst ex
        have hi61 : i < 61 := Nat.lt_of_lt_of_le (List.getElem?_eq_some_iff.mp hc).1 hcs
        obtain ⟨k1, k2, k3⟩ := mark_ok i hi61
        refine ⟨Z, _, rfl, SqT.of upd_same, rfl, _, _, rfl, _, _, rfl, rfl, rfl, ?_⟩
        refine ⟨_, rfl, _, rfl, _, rfl, _, _, rfl, rfl, .inr ⟨by decide, by decide⟩, _, _, rfl, rfl, (by show (0 : Int) < _; decide), _, rfl, k3, rfl, _, _, rfl, rfl, pad4, y, m, markI i, rfl, hm1, hm2, hm3, by rw [k1]; decide, fun b hb hbs => ?_⟩
        refine ⟨D.map V.str, same_upd nZ _ _ e', ?_, D ++ [⟨(b ++ (markI i).cps.toList).toArray⟩], deck_snoc hD hi61 hb hbs, same_set (s'.trans (same_upd nZ)) nd, ?_⟩
        · rw [List.length_map, hD.len]
          exact small1000 (by omega)
        · rw [upd_same, List.map_append]
          rfl
    · rintro H2 ⟨D, hD, s', e2d⟩
      rw [List.length_map] at hD
      have hDl : D.length ≤ 1000 := by
        rw [hD.len]
        omega
      have hDn := deck_nodup hD hcs
      -- row = ..
      refine ⟨_, rfl, a, ns, 1, rfl, (s2.trans s').seq hS, fun z1 => ⟨z1, rfl, fun H3 pr row s3 nr er hcol hrl => ?_⟩⟩
      -- back = row[::-1]
      refine ⟨_, rfl, pr, _, rfl, SqL.of er, fun pb nb => ?_⟩
      rw [← List.map_reverse]
      have s4 := s3.trans (same_upd (o := .lst (row.reverse.map V.int)) nb)
      -- handed = list(deck)
      refine ⟨_, rfl, d, _, rfl, .inl (SqL.of (s4 _ _ e2d)), fun ph nh => ?_⟩
      have s5 := s4.trans (same_upd (o := .lst (D.map V.str)) nh)
      have e5r := (same_upd (o := .lst (D.map V.str)) nh) _ _ ((same_upd (o := .lst (row.reverse.map V.int)) nb) _ _ er)
      -- asked = list(row)
      refine ⟨_, rfl, pr, _, rfl, .inl (SqL.of e5r), fun pa na => ?_⟩
      have s6 := same_upd (o := .lst (row.map V.int)) na
      -- found = deal_all(handed, asked)
      refine ⟨_, rfl, _, rfl, ph, pa, D, row, rfl, SqL.of (s6 _ _ upd_same), SqL.of upd_same, hDl, hD.ok, hcol, fun H7 pf s7 nf ef => ?_⟩
      have B7 : Laid H7 d pr pb ph pa pf D row := ⟨s7 _ _ (s6 _ _ (s5 _ _ e2d)), s7 _ _ (s6 _ _ e5r), s7 _ _ (s6 _ _ ((same_upd nh) _ _ upd_same)), s7 _ _ (s6 _ _ upd_same), s7 _ _ upd_same, ef⟩
      have good : Good (dealAll D row) D row.reverse := good_deal hD.ok hcol
      have hback : ∀ j, j ∈ row.reverse → ColOk j := fun j hj => hcol j (List.mem_reverse.mp hj)
      have shD := strs_shaped hD.ok
      have shR := PySem.W.ke_shaped_ints row
      -- if not in_order(found, deck, back) or handed != deck or asked != row
      refine ⟨_, rfl, _, rfl, _, rfl, pf, d, pb, dealAll D row, D, row.reverse, rfl, B7.f, SqL.of B7.d, SqL.of B7.b, hDl, hDn, hD.ok, hback, good, fun H8 s8 => ⟨true, rfl, ?_⟩⟩
      have B8 := B7.same s8
      refine ⟨_, rfl, _, rfl, _, _, .lst (SqL.of B8.h) (dp_strs D), .lst (SqL.of B8.d) (dp_strs D), shD, shD, _, rfl, iteBN (eqv_of shD) ?_⟩
      refine ⟨_, rfl, _, rfl, _, _, .lst (SqL.of B8.a) (dp_ints row), .lst (SqL.of B8.r) (dp_ints row), shR, shR, _, rfl, iteBN (eqv_of shR) ?_⟩
      -- none = deal_all(handed, [])
      refine ⟨_, rfl, Nat.zero_le _, fun pe ne => ⟨ph, pe, D, [], rfl, SqL.of (same_upd ne _ _ B8.h), SqL.of upd_same, hDl, hD.ok, fun j hj => (by cases hj), fun H9 pn s9 nn en => ?_⟩⟩
      have B9 := (B8.same (same_upd ne)).same s9
      -- if not isinstance(none, list) or none != deck
      refine ⟨_, rfl, .ref pn, .ty "list", .type "list", .type "list", true, rfl, .ty _, .base (.lst en), kit_ty (by decide +kernel), true, rfl, ?_⟩
      refine ⟨_, rfl, _, rfl, _, _, .lst (SqL.of en) (dp_strs D), .lst (SqL.of B9.d) (dp_strs D), shD, shD, _, rfl, iteBN (eqv_of shD) ?_⟩
      -- none.append("")
      refine ⟨_, rfl, .inl ⟨rfl, _, SqL.of en⟩, pn, _, _, rfl, rfl, en, ?_, ?_⟩
      · rw [List.length_map]
        exact small1000 hDl
      have B10 := (B8.same (same_upd ne)).same (same_set (o := .lst ((dealAll D []).map V.str ++ [V.str ""])) s9 nn)
      -- cut = ..
      refine ⟨_, rfl, _, _, rfl, rfl, ⟨by decide, by decide⟩, _, rfl, pr, _, rfl, .inl (SqL.of B10.r), _, _, rfl, rfl, _, _, rfl, rfl, (by show (0 : Int) < _; omega), ?_⟩
      obtain ⟨k, ek⟩ : ∃ k : Nat, z / 4 % (((row.map V.int).length : Nat) + 1 : Int) = (k : Int) := ⟨(z / 4 % (((row.map V.int).length : Nat) + 1 : Int)).toNat, by
        have := Int.emod_nonneg (z / 4) (show (((row.map V.int).length : Nat) + 1 : Int) ≠ 0 by omega)
        omega⟩
      -- parts = ..
      refine ⟨_, rfl, _, rfl, _, rfl, _, rfl, pr, _, rfl, SqL.of B10.r, fun p1 n1 => ?_⟩
      rw [ek, cut_upto, ← List.map_take]
      have hct : ∀ j ∈ row.take k, ColOk j := fun j hj => hcol j (List.mem_of_mem_take hj)
      have hcd : ∀ j ∈ row.drop k, ColOk j := fun j hj => hcol j (List.mem_of_mem_drop hj)
      refine ⟨ph, p1, D, row.take k, rfl, SqL.of (same_upd n1 _ _ B10.h), SqL.of upd_same, hDl, hD.ok, hct, fun H11 p2 s11 n2 e2 => ?_⟩
      have B11 := (B10.same (same_upd n1)).same s11
      refine ⟨_, rfl, _, rfl, _, rfl, pr, _, rfl, SqL.of B11.r, fun p3 n3 => ?_⟩
      rw [ek, cut_from, ← List.map_drop]
      refine ⟨p2, p3, dealAll D (row.take k), row.drop k, rfl, SqL.of (same_upd n3 _ _ e2), SqL.of upd_same, by rw [(dealAll_perm hD.ok _ hct).length_eq]; exact hDl, dealAll_ok hD.ok hct, hcd, fun H12 p4 s12 n4 e4 => ?_⟩
      rw [dealAll_append, List.take_append_drop] at e4
      have B12 := (B11.same (same_upd n3)).same s12
      -- return ..
      refine ⟨_, rfl, _, rfl, _, rfl, p4, d, pb, dealAll D row, D, row.reverse, rfl, e4, SqL.of B12.d, SqL.of B12.b, hDl, hDn, hD.ok, hback, good, fun H13 s13 => ⟨true, rfl, ?_⟩⟩
      have B13 := B12.same s13
      refine ⟨_, rfl, _, rfl, _, _, .lst (SqL.of B13.h) (dp_strs D), .lst (SqL.of B13.d) (dp_strs D), shD, shD, _, rfl, iteBT (eqv_of shD) ?_⟩
      exact ⟨_, rfl, _, rfl, _, rfl, pf, d, pb, dealAll D row, D, row.reverse, rfl, B13.f, SqL.of B13.d, SqL.of B13.b, hDl, hDn, hD.ok, hback, good, fun H14 s14 => q H14⟩
end
end K11
/-! K11: what the top has written, and the statement. -/
namespace K11
open PySem PySem.Spec PyProof.Rows L2
theorem all_mk {l : PySem.W.OpenLaw} {w : World} {K : PySem.W.Frag} {h : Heap} {mg : Str → Option Value} {fa f1 f2 f3 f4 f5 f6 f7 f8 f9 f10 f11 : Addr} (X : K.In h) (G : h.Ns mainGlobals mg) (hfa : mg "law" = some (.ref fa))
    {tS tP : Tok} {od1 an1 od2 an2 od3 an3 od4 an4 od5 an5 od6 an6 od7 an7 od8 an8 od9 an9 od10 an10 od11 an11 : Option Addr} {sl1 sl2 sl3 sl4 sl5 sl6 sl7 sl8 sl9 sl10 sl11 : Array (Option Value)}
    {oc1 kV1 dc1 pm1 cd1 ct1 oc2 kV2 dc2 pm2 cd2 ct2 oc3 kV3 dc3 pm3 cd3 ct3 oc4 kV4 dc4 pm4 cd4 ct4 oc5 kV5 dc5 pm5 cd5 ct5 oc6 kV6 dc6 pm6 cd6 ct6 oc7 kV7 dc7 pm7 cd7 ct7 oc8 kV8 dc8 pm8 cd8 ct8 oc9 kV9 dc9 pm9 cd9 ct9 oc10 kV10 dc10 pm10 cd10 ct10 oc11 kV11 dc11 pm11 cd11 ct11 : Value}
    (a1 : PySem.W.nsIn K mainGlobals "rank_of" = some (some (.ref f1))) (l1 : K.lookup f1 = some ⟨oc1, od1, .func (PySem.W.fnOf "rank_of" "rank_of" (defArgs sRank) (defBody sRank) (defScope sRank) .none kV1 dc1 pm1 an1 cd1 ct1), sl1⟩) (c1 : PySem.W.codeIn K cd1 "rank_of" = true) (k1 : PySem.W.keepIn K (.ref f1) = true)
    (a2 : PySem.W.nsIn K mainGlobals "pockets_of" = some (some (.ref f2))) (l2 : K.lookup f2 = some ⟨oc2, od2, .func (PySem.W.fnOf "pockets_of" "pockets_of" (defArgs sPockets) (defBody sPockets) (defScope sPockets) .none kV2 dc2 pm2 an2 cd2 ct2), sl2⟩) (c2 : PySem.W.codeIn K cd2 "pockets_of" = true) (k2 : PySem.W.keepIn K (.ref f2) = true)
    (a3 : PySem.W.nsIn K mainGlobals "gather" = some (some (.ref f3))) (l3 : K.lookup f3 = some ⟨oc3, od3, .func (PySem.W.fnOf "gather" "gather" (defArgs sGather) (defBody sGather) (defScope sGather) .none kV3 dc3 pm3 an3 cd3 ct3), sl3⟩) (c3 : PySem.W.codeIn K cd3 "gather" = true) (k3 : PySem.W.keepIn K (.ref f3) = true)
    (a4 : PySem.W.nsIn K mainGlobals "deal_all" = some (some (.ref f4))) (l4 : K.lookup f4 = some ⟨oc4, od4, .func (PySem.W.fnOf "deal_all" "deal_all" (defArgs sDeal) (defBody sDeal) (defScope sDeal) .none kV4 dc4 pm4 an4 cd4 ct4), sl4⟩) (c4 : PySem.W.codeIn K cd4 "deal_all" = true) (k4 : PySem.W.keepIn K (.ref f4) = true)
    (a5 : PySem.W.nsIn K mainGlobals "_law_cell_at" = some (some (.ref f5))) (l5 : K.lookup f5 = some ⟨oc5, od5, .func (PySem.W.fnOf "_law_cell_at" "_law_cell_at" (defArgs sCell) (defBody sCell) (defScope sCell) .none kV5 dc5 pm5 an5 cd5 ct5), sl5⟩) (c5 : PySem.W.codeIn K cd5 "_law_cell_at" = true) (k5 : PySem.W.keepIn K (.ref f5) = true)
    (a6 : PySem.W.nsIn K mainGlobals "_law_known" = some (some (.ref f6))) (l6 : K.lookup f6 = some ⟨oc6, od6, .func (PySem.W.fnOf "_law_known" "_law_known" (defArgs sKnown) (defBody sKnown) (defScope sKnown) .none kV6 dc6 pm6 an6 cd6 ct6), sl6⟩) (c6 : PySem.W.codeIn K cd6 "_law_known" = true) (k6 : PySem.W.keepIn K (.ref f6) = true)
    (a7 : PySem.W.nsIn K mainGlobals "_law_card" = some (some (.ref f7))) (l7 : K.lookup f7 = some ⟨oc7, od7, .func (PySem.W.fnOf "_law_card" "_law_card" (defArgs sCard) (defBody sCard) (defScope sCard) .none kV7 dc7 pm7 an7 cd7 ct7), sl7⟩) (c7 : PySem.W.codeIn K cd7 "_law_card" = true) (k7 : PySem.W.keepIn K (.ref f7) = true)
    (a8 : PySem.W.nsIn K mainGlobals "_law_columns" = some (some (.ref f8))) (l8 : K.lookup f8 = some ⟨oc8, od8, .func (PySem.W.fnOf "_law_columns" "_law_columns" (defArgs sCols) (defBody sCols) (defScope sCols) .none kV8 dc8 pm8 an8 cd8 ct8), sl8⟩) (c8 : PySem.W.codeIn K cd8 "_law_columns" = true) (k8 : PySem.W.keepIn K (.ref f8) = true)
    (a9 : PySem.W.nsIn K mainGlobals "_law_ahead" = some (some (.ref f9))) (l9 : K.lookup f9 = some ⟨oc9, od9, .func (PySem.W.fnOf "_law_ahead" "_law_ahead" (defArgs sAhead) (defBody sAhead) (defScope sAhead) .none kV9 dc9 pm9 an9 cd9 ct9), sl9⟩) (c9 : PySem.W.codeIn K cd9 "_law_ahead" = true) (k9 : PySem.W.keepIn K (.ref f9) = true)
    (a10 : PySem.W.nsIn K mainGlobals "_law_in_order" = some (some (.ref f10))) (l10 : K.lookup f10 = some ⟨oc10, od10, .func (PySem.W.fnOf "_law_in_order" "_law_in_order" (defArgs sOrder) (defBody sOrder) (defScope sOrder) .none kV10 dc10 pm10 an10 cd10 ct10), sl10⟩) (c10 : PySem.W.codeIn K cd10 "_law_in_order" = true) (k10 : PySem.W.keepIn K (.ref f10) = true)
    (a11 : PySem.W.nsIn K mainGlobals "law" = some (some (.ref f11))) (l11 : K.lookup f11 = some ⟨oc11, od11, .func (PySem.W.fnOf "law" "law" (defArgs sLaw) (defBody sLaw) (defScope sLaw) .none kV11 dc11 pm11 an11 cd11 ct11), sl11⟩) (c11 : PySem.W.codeIn K cd11 "law" = true) (k11 : PySem.W.keepIn K (.ref f11) = true)
    (vS : PySem.W.nsIn K mainGlobals "SIGNS" = some (some (.str SIG tS))) (vP : PySem.W.nsIn K mainGlobals "POCKETS" = some (some (.int 37 tP)))
    (z1 : PySem.W.nsIn K mainGlobals "len" = some none) (z2 : PySem.W.nsIn K mainGlobals "range" = some none) (z3 : PySem.W.nsIn K mainGlobals "list" = some none) (z4 : PySem.W.nsIn K mainGlobals "isinstance" = some none) (z5 : PySem.W.nsIn K mainGlobals "enumerate" = some none) (z6 : PySem.W.nsIn K mainGlobals "str" = some none) (z7 : PySem.W.nsIn K mainGlobals "zip" = some none) :
    ∃ fd : FuncData, (∀ (s : Shared) (v : Value), BindsTo s fd ⟨[v], []⟩ [("_law_script", v)]) ∧ ∀ base : Heap, K.In base → base.Ns mainGlobals mg → FnOk l.prog w K mg base CX0 4 fa fd ["_law_script"] (spLaw K) := by
  have e := hfa.symm.trans (PySem.W.mg_of X G a11)
  cases e
  have T : Top mg := ⟨⟨tS, PySem.W.mg_of X G vS⟩, ⟨tP, PySem.W.mg_of X G vP⟩, PySem.W.mg_none_of X G z1, PySem.W.mg_none_of X G z2, PySem.W.mg_none_of X G z3, PySem.W.mg_none_of X G z4, PySem.W.mg_none_of X G z5, PySem.W.mg_none_of X G z6, PySem.W.mg_none_of X G z7⟩
  have F1 := fun_mk (st := sRank) l1 c1 k1
  have b1 := F1.binds (ps := ["sign"]) fun _ _ _ _ _ _ us hl => match us, hl with | [_], _ => rfl
  have F2 := fun_mk (st := sPockets) l2 c2 k2
  have b2 := F2.binds (ps := ["deck", "column"]) fun _ _ _ _ _ _ us hl => match us, hl with | [_, _], _ => rfl
  have F3 := fun_mk (st := sGather) l3 c3 k3
  have b3 := F3.binds (ps := ["some"]) fun _ _ _ _ _ _ us hl => match us, hl with | [_], _ => rfl
  have F4 := fun_mk (st := sDeal) l4 c4 k4
  have b4 := F4.binds (ps := ["deck", "row"]) fun _ _ _ _ _ _ us hl => match us, hl with | [_, _], _ => rfl
  have F5 := fun_mk (st := sCell) l5 c5 k5
  have b5 := F5.binds (ps := ["_law_script", "_law_k"]) fun _ _ _ _ _ _ us hl => match us, hl with | [_, _], _ => rfl
  have F6 := fun_mk (st := sKnown) l6 c6 k6
  have b6 := F6.binds (ps := []) fun _ _ _ _ _ _ us hl => match us, hl with | [], _ => rfl
  have F7 := fun_mk (st := sCard) l7 c7 k7
  have b7 := F7.binds (ps := ["_law_cell", "_law_menu", "_law_mark"]) fun _ _ _ _ _ _ us hl => match us, hl with | [_, _, _], _ => rfl
  have F8 := fun_mk (st := sCols) l8 c8 k8
  have b8 := F8.binds (ps := ["_law_cell", "_law_most"]) fun _ _ _ _ _ _ us hl => match us, hl with | [_, _], _ => rfl
  have F9 := fun_mk (st := sAhead) l9 c9 k9
  have b9 := F9.binds (ps := ["_law_card_here", "_law_other", "_law_columns_here"]) fun _ _ _ _ _ _ us hl => match us, hl with | [_, _, _], _ => rfl
  have F10 := fun_mk (st := sOrder) l10 c10 k10
  have b10 := F10.binds (ps := ["_law_found", "_law_deck", "_law_back"]) fun _ _ _ _ _ _ us hl => match us, hl with | [_, _, _], _ => rfl
  have F11 := fun_mk (st := sLaw) l11 c11 k11
  have b11 := F11.binds (ps := ["_law_script"]) fun _ _ _ _ _ _ us hl => match us, hl with | [_], _ => rfl
  refine ⟨PySem.W.fnOf "law" "law" (defArgs sLaw) (defBody sLaw) (defScope sLaw) .none kV11 dc11 pm11 an11 cd11 ct11, fun s v => .of_eq rfl, fun base _ _ => ?_⟩
  have G1 : FnOk l.prog w K mg base CX0 1 f1 _ ["sign"] spRank := ok_rank F1 T
  have G2 : FnOk l.prog w K mg base CX0 2 f2 _ ["deck", "column"] (spPockets K) := ok_pockets F2 T G1 F1.kp b1 (PySem.W.mg_of X G a1)
  have G3 : FnOk l.prog w K mg base CX0 1 f3 _ ["some"] (spGather K) := ok_gather F3
  have G4 : Got l.prog w K mg base "deal_all" 3 ["deck", "row"] (spDeal K) f4 _ := ⟨ok_deal F4 T G2 F2.kp b2 (PySem.W.mg_of X G a2) G3 F3.kp b3 (PySem.W.mg_of X G a3), F4.kp, b4, PySem.W.mg_of X G a4⟩
  have G5 : Got l.prog w K mg base "_law_cell_at" 1 ["_law_script", "_law_k"] (spCell K) f5 _ := ⟨ok_cell F5 T, F5.kp, b5, PySem.W.mg_of X G a5⟩
  have G6 : Got l.prog w K mg base "_law_known" 1 [] spKnown f6 _ := ⟨ok_known F6, F6.kp, b6, PySem.W.mg_of X G a6⟩
  have G7 : Got l.prog w K mg base "_law_card" 1 ["_law_cell", "_law_menu", "_law_mark"] spCard f7 _ := ⟨ok_card F7 T, F7.kp, b7, PySem.W.mg_of X G a7⟩
  have G8 : Got l.prog w K mg base "_law_columns" 1 ["_law_cell", "_law_most"] spCols f8 _ := ⟨ok_cols F8 T, F8.kp, b8, PySem.W.mg_of X G a8⟩
  have G9 : Got l.prog w K mg base "_law_ahead" 2 ["_law_card_here", "_law_other", "_law_columns_here"] (spAhead K) f9 _ := ⟨ok_ahead F9 G6, F9.kp, b9, PySem.W.mg_of X G a9⟩
  have G10 : Got l.prog w K mg base "_law_in_order" 3 ["_law_found", "_law_deck", "_law_back"] (spOrder K) f10 _ := ⟨ok_order F10 T G9, F10.kp, b10, PySem.W.mg_of X G a10⟩
  exact ok_law F11 T G5 G6 G7 G8 G4 G10
end K11
open PySem PySem.W PyProof.Rows
set_option maxRecDepth 100000 in
set_option maxHeartbeats 0 in
theorem PySem.Challenge.cw_cardshop_k11_whole_dealt_in_order_holds : PySem.Challenge.rw_cardshop_k11_whole_dealt_in_order.Holds := by
  w_on; o_law; k_head; (case hw => w_witness2)
  k_fill
  refine L2.walk_of (l := PySem.Challenge.rw_cardshop_k11_whole_dealt_in_order) (n := 63) (k := 4) (x := "_law_script") (CX := fun _ => L2.CX0) (sp := fun w => K11.spLaw _) rfl (by decide) rfl ⟨rfl, by decide, by decide⟩ (fun w h Y => PySem.W.kIn_of Y) ?F (fun _ _ a ns hl _ hS => ⟨a, ns, rfl, hS, hl, fun _ => rfl⟩) (fun _ _ _ _ _ h => h)
  case F =>
    intro w mg fa h KX G hmg
    refine' K11.all_mk KX G hmg ?a1 ?l1 ?c1 ?k1 ?a2 ?l2 ?c2 ?k2 ?a3 ?l3 ?c3 ?k3 ?a4 ?l4 ?c4 ?k4 ?a5 ?l5 ?c5 ?k5 ?a6 ?l6 ?c6 ?k6 ?a7 ?l7 ?c7 ?k7 ?a8 ?l8 ?c8 ?k8 ?a9 ?l9 ?c9 ?k9 ?a10 ?l10 ?c10 ?k10 ?a11 ?l11 ?c11 ?k11 ?vS ?vP ?z1 ?z2 ?z3 ?z4 ?z5 ?z6 ?z7
    (case a1 => k_is); (case l1 => k_is); (case c1 => k_is); (case k1 => k_is); (case a2 => k_is); (case l2 => k_is); (case c2 => k_is); (case k2 => k_is)
    (case a3 => k_is); (case l3 => k_is); (case c3 => k_is); (case k3 => k_is); (case a4 => k_is); (case l4 => k_is); (case c4 => k_is); (case k4 => k_is)
    (case a5 => k_is); (case l5 => k_is); (case c5 => k_is); (case k5 => k_is); (case a6 => k_is); (case l6 => k_is); (case c6 => k_is); (case k6 => k_is)
    (case a7 => k_is); (case l7 => k_is); (case c7 => k_is); (case k7 => k_is); (case a8 => k_is); (case l8 => k_is); (case c8 => k_is); (case k8 => k_is)
    (case a9 => k_is); (case l9 => k_is); (case c9 => k_is); (case k9 => k_is); (case a10 => k_is); (case l10 => k_is); (case c10 => k_is); (case k10 => k_is)
    (case a11 => k_is); (case l11 => k_is); (case c11 => k_is); (case k11 => k_is); (case vS => k_is); (case vP => k_is); (case z1 => k_is); (case z2 => k_is)
    (case z3 => k_is); (case z4 => k_is); (case z5 => k_is); (case z6 => k_is); (case z7 => k_is)
