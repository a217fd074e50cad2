import PyProof.Rows.All
import Wide.All
import OpenK.AllK
import Wide.FinOn
import HandS.ForMost
import HandS.Wide
import HandS.Style
import HandS.Codes
import PySem.Challenge.RW_firetogether_k43_whole_fire_together
set_option Elab.async false
set_option linter.all false
set_option maxRecDepth 100000
set_option maxHeartbeats 4000000
namespace K43
open PySem PySem.Spec PyProof.Rows L2

/-! ### the text by places -/
def topS (i : Nat) : Stmt := PySem.Challenge.pw_firetogether_k43_whole_fire_together.main.body.getD i (.Pass ⟨0, 0, 0, 0⟩)
abbrev sOnes : Stmt := topS 1
abbrev sRow : Stmt := topS 2
abbrev sLev : Stmt := topS 7
abbrev sPart : Stmt := topS 12
abbrev sWave : Stmt := topS 13
abbrev sEnd : Stmt := topS 14
abbrev sStr : Stmt := topS 15
abbrev sSeen : Stmt := topS 16
abbrev sPot : Stmt := topS 18
abbrev sTake : Stmt := topS 19
abbrev sNum : Stmt := topS 20
abbrev sHal : Stmt := topS 21
abbrev sSpot : Stmt := topS 22
abbrev sMany : Stmt := topS 23
abbrev sLaw : Stmt := topS 24
theorem scOnes : FnScope ["number", "many", "digit"] ["number"] (defScope sOnes) := ⟨rfl, rfl, rfl, by decide +kernel, rfl, by decide +kernel, by decide +kernel⟩
theorem scRow : FnScope ["n"] ["n"] (defScope sRow) := ⟨rfl, rfl, rfl, by decide +kernel, rfl, by decide +kernel, by decide +kernel⟩
theorem scLev : FnScope ["n", "found", "h", "begun", "met"] ["n"] (defScope sLev) := ⟨rfl, rfl, rfl, by decide +kernel, rfl, by decide +kernel, by decide +kernel⟩
theorem scPart : FnScope ["begin", "end", "x", "many", "last"] ["begin", "end", "x"] (defScope sPart) := ⟨rfl, rfl, rfl, by decide +kernel, rfl, by decide +kernel, by decide +kernel⟩
theorem scWave : FnScope ["h", "gone", "far", "away", "back"] ["h", "gone", "far", "away", "back"] (defScope sWave) := ⟨rfl, rfl, rfl, by decide +kernel, rfl, by decide +kernel, by decide +kernel⟩
theorem scEnd : FnScope ["h", "gone", "first"] ["h", "gone", "first"] (defScope sEnd) := ⟨rfl, rfl, rfl, by decide +kernel, rfl, by decide +kernel, by decide +kernel⟩
theorem scStr : FnScope ["begin", "end", "side", "gone", "first", "x", "h", "far"] ["begin", "end", "side", "gone", "first", "x"] (defScope sStr) := ⟨rfl, rfl, rfl, by decide +kernel, rfl, by decide +kernel, by decide +kernel⟩
theorem scSeen : FnScope ["n", "x", "t", "begin", "end", "side", "begun", "h", "came", "hit", "met"] ["n", "x", "t"] (defScope sSeen) := ⟨rfl, rfl, rfl, by decide +kernel, rfl, by decide +kernel, by decide +kernel⟩
theorem scPot : FnScope ["_law_script", "_law_k", "_law_cell", "_law_great"] ["_law_script", "_law_k"] (defScope sPot) := ⟨rfl, rfl, rfl, by decide +kernel, rfl, by decide +kernel, by decide +kernel⟩
theorem scTake : FnScope ["_law_pot_here", "_law_many_here", "_law_digit"] ["_law_pot_here", "_law_many_here"] (defScope sTake) := ⟨rfl, rfl, rfl, by decide +kernel, rfl, by decide +kernel, by decide +kernel⟩
theorem scNum : FnScope ["_law_pot_here", "_law_most", "_law_found", "_law_k"] ["_law_pot_here", "_law_most"] (defScope sNum) := ⟨rfl, rfl, rfl, by decide +kernel, rfl, by decide +kernel, by decide +kernel⟩
theorem scHal : FnScope ["_law_pot_here", "_law_many_here", "_law_begin", "_law_end", "_law_post", "_law_came", "_law_level", "_law_turn", "_law_size"] ["_law_pot_here", "_law_many_here"] (defScope sHal) := ⟨rfl, rfl, rfl, by decide +kernel, rfl, by decide +kernel, by decide +kernel⟩
theorem scSpot : FnScope ["_law_pot_here", "_law_many_here", "_law_begin", "_law_end", "_law_post", "_law_came", "_law_level", "_law_size", "_law_way", "_law_met", "_law_gone", "_law_kind", "_law_near", "_law_hand"] ["_law_pot_here", "_law_many_here"] (defScope sSpot) := ⟨rfl, rfl, rfl, by decide +kernel, rfl, by decide +kernel, by decide +kernel⟩
theorem scMany : FnScope ["_law_pot_here", "_law_great", "_law_way"] ["_law_pot_here", "_law_great"] (defScope sMany) := ⟨rfl, rfl, rfl, by decide +kernel, rfl, by decide +kernel, by decide +kernel⟩
theorem scLaw : FnScope ["_law_script", "_law_k", "_law_pot_here", "_law_many_here", "_law_fire", "_law_hand", "_law_behind", "_law_turn", "_law_beat"] ["_law_script"] (defScope sLaw) := ⟨rfl, rfl, rfl, by decide +kernel, rfl, by decide +kernel, by decide +kernel⟩

/-! ### the mathematics -/
def onesN (n : Nat) : Nat := if h : n = 0 then 0 else n % 2 + onesN (n / 2)
termination_by n
decreasing_by omega
theorem onesN_zero : onesN 0 = 0 := by rw [onesN]; rfl
theorem onesN_pos {n : Nat} (h : n ≠ 0) : onesN n = n % 2 + onesN (n / 2) := by rw [onesN, dif_neg h]
theorem onesN_le (n : Nat) : onesN n ≤ n := by
  induction n using Nat.strongRecOn with
  | ind n ih =>
    by_cases h : n = 0
    · rw [h, onesN_zero]; exact Nat.le_refl _
    · rw [onesN_pos h]
      have := ih (n / 2) (by omega)
      omega
/-- the told beat -/
def rowB (n : Int) : Int := if n < 3 then n else 3 * (n - 1) - (onesN (n - 1).toNat : Int) - 1
theorem rowB_small {n : Int} (h : n < 3) : rowB n = n := by unfold rowB; rw [if_pos h]
theorem rowB_big {n : Int} (h : ¬ n < 3) : rowB n = 3 * (n - 1) - (onesN (n - 1).toNat : Int) - 1 := by unfold rowB; rw [if_neg h]
theorem rowB_pos {n : Int} (h : 1 ≤ n) : 1 ≤ rowB n := by
  by_cases h3 : n < 3
  · rw [rowB_small h3]; exact h
  · rw [rowB_big h3]
    have := onesN_le (n - 1).toNat
    omega

/-! ### heaps -/
theorem same_upd {H : Hp} {p : Addr} {o : HO} (h : H p = none) : Same H (upd H p o) := fun b x e => by
  rw [upd_ne (ne_of_none e h)]
  exact e
/-- all that was tracked, but what stands at p, is as it was -/
def Kept (p : Addr) (H H' : Hp) : Prop := ∀ b o, b ≠ p → H b = some o → H' b = some o
theorem Kept.refl (p : Addr) (H : Hp) : Kept p H H := fun _ _ _ h => h
theorem Kept.trans {p : Addr} {H H1 H2 : Hp} (a : Kept p H H1) (b : Kept p H1 H2) : Kept p H H2 := fun c o n h => b c o n (a c o n h)
theorem Kept.of {p : Addr} {H H' : Hp} (a : Same H H') : Kept p H H' := fun c o _ h => a c o h
theorem Kept.upd {p : Addr} {H : Hp} {o : HO} : Kept p H (upd H p o) := fun c u n h => by rw [upd_ne n]; exact h
/-- what stood before the pot was made -/
theorem Kept.same {p : Addr} {H0 H H' : Hp} (s : Same H0 H) (n : H0 p = none) (k : Kept p H H') : Same H0 H' := fun b o e => k b o (ne_of_none e n) (s b o e)
/-- the pot: two whole numbers -/
def PotAt (H : Hp) (p : Addr) : Prop := ∃ a b : Int, H p = some (.lst [.int a, .int b]) ∧ 0 ≤ a ∧ 0 ≤ b ∧ b < 2147483647
theorem PotAt.at {H H' : Hp} {p : Addr} (h : PotAt H p) (s : Same H H') : PotAt H' p := by
  obtain ⟨a, b, e, r⟩ := h
  exact ⟨a, b, s _ _ e, r⟩
theorem PotAt.new {H : Hp} {p q : Addr} {o : HO} (h : PotAt H p) (n : H q = none) : PotAt (L2.upd H q o) p := h.at (same_upd n)
theorem PotAt.there {H : Hp} {p : Addr} (h : PotAt H p) : ∃ xs, H p = some (.lst xs) := by
  obtain ⟨a, b, e, _⟩ := h
  exact ⟨_, e⟩
/-- a tuple of four numbers -/
def Quad (H : Hp) (q : Addr) : Prop := ∃ a b c d : Int, H q = some (.tup [.int a, .int b, .int c, .int d])
theorem Quad.at {H H' : Hp} {q : Addr} (h : Quad H q) (s : Same H H') : Quad H' q := by
  obtain ⟨a, b, c, d, e⟩ := h
  exact ⟨a, b, c, d, s _ _ e⟩
/-- a tuple of the written part -/
def TupK (K : PySem.W.Frag) (a : Addr) (xs : List V) : Prop := ∃ (o : Obj) (its : Array Value) (n : Nat), K.lookup a = some o ∧ o.cls = .type "tuple" ∧ o.data = .seq its n ∧ its.size ≤ sizeLine ∧ Vals xs its.toList
theorem TupK.sq {K : PySem.W.Frag} {a : Addr} {xs : List V} (h : TupK K a xs) (H : Hp) : SqT K H a xs := .inr h
theorem small100 {n : Nat} (h : n ≤ 100) : n ≤ sizeLine := Nat.le_of_lt (small1000 (by omega))
theorem iteND {c A B : Prop} [Decidable c] (hc : ¬ c) (h : B) : if decide c = true then A else B := by
  rw [decide_eq_false hc]
  exact iteF h
theorem iteD {c A B : Prop} [Decidable c] (hc : c) (h : A) : if decide c = true then A else B := by
  rw [decide_eq_true hc]
  exact iteT h
theorem iteD2 {c A B : Prop} [Decidable c] (h1 : c → A) (h2 : ¬ c → B) : if decide c = true then A else B := by
  by_cases h : c
  · exact iteD h (h1 h)
  · exact iteND h (h2 h)
/-! ### a power of a great number -/
def CPowW (i j : Int) : Prop := 0 ≤ j ∧ (Builtin.Int.intBits i : Int) * j ≤ 2 ^ 27
section
variable {X : Cx}
theorem op_powW : OpR X (binaryOp .Pow) (rI CPowW fun i j => .int (i ^ j.toNat)) := opI fun _ _ _ _ _ _ _ hc q => pow_int hc.1 hc.2 q
end
theorem cpow60 : CPowW ((10 : Int) ^ (60 : Int).toNat) 16 := by
  have h : Builtin.Int.intBits ((10 : Int) ^ (60 : Int).toNat) ≤ 200 := intBits_le (by decide +kernel)
  refine ⟨by decide, ?_⟩
  omega

/-! ### what the top holds -/
structure Txt (K : PySem.W.Frag) (mg : Str → Option Value) : Prop where
  divmod : mg "divmod" = none
  tuple : mg "tuple" = none
  min : mg "min" = none
  max : mg "max" = none
  len : mg "len" = none
  abs : mg "abs" = none
  int : mg "int" = none
  range : mg "range" = none
  cut : ∃ t, mg "LEAST_CUT" = some (.int 3 t)
  quiet : ∃ t, mg "QUIET" = some (.str "o" t)
  fire : ∃ t, mg "FIRE" = some (.str "f" t)
  right : ∃ a, mg "RIGHT" = some (.ref a) ∧ TupK K a [.str "r", .str "ra", .str "rb", .str "rc"]
  left : ∃ a, mg "LEFT" = some (.ref a) ∧ TupK K a [.str "l", .str "la", .str "lb", .str "lc"]
  posts : ∃ a, mg "POSTS" = some (.ref a) ∧ TupK K a [.str "g", .str "ga", .str "gb", .str "p"]

/-! ### the promises -/
def spOnes : Sp := fun vs H Q _ => ∃ n : Int, vs = [.int n] ∧ 0 ≤ n ∧ ∀ H', Same H H' → Q (.int (onesN n.toNat)) H'
def spRow : Sp := fun vs H Q _ => ∃ n : Int, vs = [.int n] ∧ ∀ H', Same H H' → Q (.int (rowB n)) H'
def spLev : Sp := fun vs H Q _ => ∃ n : Int, vs = [.int n] ∧ n.toNat < 2 ^ 1000 ∧
  ∀ H' (p : Addr) (ps : List Addr), Same H H' → H' p = some (.tup (ps.map V.ref)) → (∀ q ∈ ps, Quad H' q) → Q (.ref p) H'
def spPart : Sp := fun vs H Q _ => ∃ b e x : Int, vs = [.int b, .int e, .int x] ∧
  ∀ H' (p : Addr) (b' e' s' : Int), Same H H' → (s' = 0 ∨ s' = 1) → H' p = some (.tup [.int b', .int e', .int s']) → Q (.ref p) H'
/-- four texts, none of them that of firing -/
def Wv (K : PySem.W.Frag) (A : Addr) : Prop := ∃ z0 z1 z2 z3 : Str, TupK K A [.str z0, .str z1, .str z2, .str z3] ∧ z0 ≠ "f" ∧ z1 ≠ "f" ∧ z2 ≠ "f" ∧ z3 ≠ "f"
def spWave (K : PySem.W.Frag) : Sp := fun vs H Q _ => ∃ (h g f : Int) (A B : Addr), vs = [.int h, .int g, .int f, .ref A, .ref B] ∧ Wv K A ∧ Wv K B ∧ ∀ z : Str, z ≠ "f" → Q (.str z) H
def spEnd : Sp := fun vs H Q _ => ∃ (h g : Int) (c : Bool), vs = [.int h, .int g, .bl c] ∧ ∀ z : Str, z ≠ "f" → Q (.str z) H
def spStr : Sp := fun vs H Q _ => ∃ (b e s g : Int) (c : Bool) (x : Int), vs = [.int b, .int e, .int s, .int g, .bl c, .int x] ∧ (s = 0 ∨ s = 1) ∧ 0 ≤ g ∧
  ∀ H' (z : Str), Same H H' → z ≠ "f" → Q (.str z) H'
def spSeen : Sp := fun vs H Q _ => ∃ n x t : Int, vs = [.int n, .int x, .int t] ∧ n.toNat < 2 ^ 1000 ∧ 0 ≤ t ∧
  ∀ H' (z : Str), Same H H' → (z = "f" ↔ rowB n ≤ t) → Q (.str z) H'
def spTake : Sp := fun vs H Q _ => ∃ (p : Addr) (m : Int), vs = [.ref p, .int m] ∧ PotAt H p ∧ 0 < m ∧ m.natAbs < 2 ^ 2000 ∧
  ∀ (r : Int) H', 0 ≤ r → r < m → Kept p H H' → PotAt H' p → Q (.int r) H'
def spNum : Sp := fun vs H Q _ => ∃ (p : Addr) (m : Int), vs = [.ref p, .int m] ∧ PotAt H p ∧ 0 < m ∧
  ∀ (r : Int) H', 0 ≤ r → r < m → Kept p H H' → PotAt H' p → Q (.int r) H'
def spHal : Sp := fun vs H Q _ => ∃ (p : Addr) (m : Int), vs = [.ref p, .int m] ∧ PotAt H p ∧ 1 ≤ m ∧
  ∀ H' (q : Addr) (b e po c l : Int), b ≤ e → 0 ≤ c → Kept p H H' → PotAt H' p → H' q = some (.tup [.int b, .int e, .int po, .int c, .int l]) → Q (.ref q) H'
def spSpot : Sp := fun vs H Q _ => ∃ (p : Addr) (m : Int), vs = [.ref p, .int m] ∧ PotAt H p ∧ 1 ≤ m ∧
  ∀ H' (q : Addr) (x t : Int), 0 ≤ t → Kept p H H' → PotAt H' p → H' q = some (.tup [.int x, .int t]) → Q (.ref q) H'
def spMany : Sp := fun vs H Q _ => ∃ (p : Addr) (g : Bool), vs = [.ref p, .bl g] ∧ PotAt H p ∧
  ∀ (n : Int) H', 1 ≤ n → n.toNat < 2 ^ 1000 → Kept p H H' → PotAt H' p → Q (.int n) H'
def spPot (K : PySem.W.Frag) : Sp := fun vs H Q _ => ∃ (a : Addr) (ns : List Int) (k : Int), vs = [.ref a, .int k] ∧ SqL K H a (ns.map V.int) ∧ ns.length ≤ 1000 ∧ 0 ≤ k ∧ k ≤ 1000 ∧
  ∀ H' p, Same H H' → H p = none → PotAt H' p → Q (.ref p) H'
def spLaw (K : PySem.W.Frag) : Sp := fun vs H Q _ => ∃ (a : Addr) (ns : List Int), vs = [.ref a] ∧ SqL K H a (ns.map V.int) ∧ ns.length ≤ 63 ∧ ∀ H', Q (.bl true) H'
end K43

namespace K43
open PySem PySem.Spec PyProof.Rows L2
section
variable {P : Program} {w : World} {K : PySem.W.Frag} {mg : Str → Option Value} {base : Heap}
theorem ok_ones {f : Addr} {fd : FuncData} (F : Fun K "ones" "ones" sOnes f fd) (T : Txt K mg) : FnOk P w K mg base CX0 1 f fd ["number"] spOnes := by
  refine F.ok scOnes (fun vs H Q E h => ?_) (fun cdv A outer s H vs Q E hr h => ?_)
  · obtain ⟨n, rfl, _⟩ := h
    rfl
  · obtain ⟨n, rfl, h0, q⟩ := h
    refine ⟨_, pss_cons (ps_set (i := 1) scOnes.nd rfl (.inl rfl) pe_int)
      (pss_cons (ps_while PassesOwn.never (pt_cmpR op_gt (pv 0) pe_int (nomark _))
        (pss_cons (ps_asg (pe_callB call_divmod (by rfl) T.divmod (by decide +kernel) (pa_cons (pv 0) (pa_cons pe_int pa_nil)))
            (pg_tup rfl (pgs_cons (pg_name (i := 0) scOnes.nd rfl (.inl rfl)) (pgs_cons (pg_name (i := 2) scOnes.nd rfl (.inl rfl)) pgs_nil))))
          (pss_one (ps_aug (i := 1) scOnes.nd rfl (.inl rfl) (pv 2) ip_add))))
      (pss_one (ps_ret (pv 1)))), ?_⟩
    refine ⟨fun m σ H' => ∃ (k c : Int) (d : Option V), σ = [some (.int k), some (.int c), d] ∧ 0 ≤ k ∧ k.toNat = m ∧ c + (onesN k.toNat : Int) = (onesN n.toNat : Int) ∧ Same H H',
      ⟨n.toNat, n, 0, none, rfl, h0, rfl, by omega, Same.refl H⟩, ?_⟩
    rintro m σ H1 ⟨k, c, d, rfl, hk, rfl, e, sm⟩
    refine ⟨_, rfl, _, _, rfl, rfl, _, rfl, iteD2 (fun hk1 => ?_) (fun hk1 => ?_)⟩
    · refine ⟨fun σ' H' => ∃ m', m' < k.toNat ∧ ∃ (k c : Int) (d : Option V), σ' = [some (.int k), some (.int c), d] ∧ 0 ≤ k ∧ k.toNat = m' ∧ c + (onesN k.toNat : Int) = (onesN n.toNat : Int) ∧ Same H H', fun _ _ h => h, ?_⟩
      refine ⟨_, rfl, k, 2, rfl, ⟨by decide, by decide⟩, fun p np => ?_⟩
      refine ⟨p, _, rfl, SqT.of upd_same, rfl, _, _, rfl, _, _, rfl, rfl, ?_⟩
      refine ⟨_, rfl, _, rfl, _, _, rfl, rfl, ?_⟩
      refine ⟨(k / 2).toNat, by omega, k / 2, c + k % 2, _, rfl, by omega, rfl, ?_, sm.trans (same_upd np)⟩
      have hn : k.toNat ≠ 0 := by omega
      rw [onesN_pos hn] at e
      have e2 : (k / 2).toNat = k.toNat / 2 := by omega
      have e3 : ((k.toNat % 2 : Nat) : Int) = k % 2 := by omega
      rw [e2]
      omega
    · have hz : k.toNat = 0 := by omega
      rw [hz, onesN_zero] at e
      have e' : c = (onesN n.toNat : Int) := by omega
      subst e'
      exact ⟨_, rfl, q H1 sm⟩
theorem ok_row {f fO : Addr} {fd fdO : FuncData} (F : Fun K "row_beat" "row_beat" sRow f fd) (FO : Fun K "ones" "ones" sOnes fO fdO) (bO : Binds K fdO ["number"] []) (gO : mg "ones" = some (.ref fO)) (T : Txt K mg) : FnOk P w K mg base CX0 2 f fd ["n"] spRow := by
  have GO : FnOk P w K mg base CX0 1 fO fdO ["number"] spOnes := ok_ones FO T
  refine F.ok scRow (fun vs H Q E h => ?_) (fun cdv A outer s H vs Q E hr h => ?_)
  · obtain ⟨n, rfl, _⟩ := h
    rfl
  · obtain ⟨n, rfl, q⟩ := h
    refine ⟨_, pss_cons (ps_if (pt_cmpR op_lt (pv 0) pe_int (nomark _)) (pss_one (ps_ret (pv 0))) pss_nil)
      (pss_one (ps_ret (pe_op op_sub (pe_op op_sub (pe_op op_mul pe_int (pe_op op_sub (pv 0) pe_int)) (pe_call GO hr (by rfl) gO FO.kp bO .nil pass0 (pa_cons (pe_op op_sub (pv 0) pe_int) pa_nil))) pe_int))), ?_⟩
    refine ⟨_, rfl, _, _, rfl, rfl, _, rfl, iteD2 (fun h3 => ?_) (fun h3 => ?_)⟩
    · refine ⟨_, rfl, ?_⟩
      have := q H (Same.refl H)
      rw [rowB_small h3] at this
      exact this
    · refine ⟨_, rfl, _, _, rfl, rfl, _, _, rfl, rfl, .inl ⟨by decide, by decide⟩, _, rfl, _, _, rfl, rfl, n - 1, rfl, by omega, fun H1 sm => ?_⟩
      refine ⟨_, _, rfl, rfl, _, _, rfl, rfl, ?_⟩
      have := q H1 sm
      rw [rowB_big h3] at this
      exact this
end
end K43

namespace K43
open PySem PySem.Spec PyProof.Rows L2
section
variable {P : Program} {w : World} {K : PySem.W.Frag} {mg : Str → Option Value} {base : Heap}
theorem half_pow {h : Int} {e : Nat} (h3 : 3 ≤ h) (hb : (h - 1).toNat < 2 ^ e) : ∃ e', e = e' + 1 ∧ ((h + 1) / 2 - 1).toNat < 2 ^ e' := by
  cases e with
  | zero =>
    rw [Nat.pow_zero] at hb
    omega
  | succ e' =>
    refine ⟨e', rfl, ?_⟩
    rw [Nat.pow_succ] at hb
    omega
theorem ok_lev {f : Addr} {fd : FuncData} (F : Fun K "levels" "levels" sLev f fd) (T : Txt K mg) : FnOk P w K mg base CX0 1 f fd ["n"] spLev := by
  obtain ⟨tc, hcut⟩ := T.cut
  refine F.ok scLev (fun vs H Q E h => ?_) (fun cdv A outer s H vs Q E hr h => ?_)
  · obtain ⟨n, rfl, _⟩ := h
    rfl
  · obtain ⟨n, rfl, hn, q⟩ := h
    refine ⟨_, pss_cons (ps_set (i := 1) scLev.nd rfl (.inl rfl) (pe_lst pa_nil))
      (pss_cons (ps_par (i := 2) (j := 3) rfl scLev.nd rfl rfl (by decide) rfl rfl (pa_cons (pv 0) (pa_cons pe_int pa_nil)) (by rfl))
      (pss_cons (ps_while PassesOwn.never (pt_cmpR op_ge (pv 2) (pe_glob (v := .int 3) rfl hcut ⟨_, rfl⟩) (nomark _))
        (pss_cons (ps_set (i := 4) scLev.nd rfl (.inl rfl) (pe_op op_add (pv 3) (pe_op op_fdiv (pe_op op_add (pe_op op_mul pe_int (pe_op op_sub (pv 2) pe_int)) pe_int) pe_int)))
        (pss_cons (ps_expr (pe_bm PySem.F.plainAttrs_list PySem.F.slot_list_append PySem.F.type_list_append mt_append (pv 1)
            (pa_cons (pe_tup (pa_cons (pv 2) (pa_cons (pv 3) (pa_cons (pe_op op_sub (pe_op op_add (pv 3) (pv 2)) pe_int) (pa_cons (pv 4) pa_nil))))) pa_nil)))
        (pss_one (ps_par (i := 2) (j := 3) rfl scLev.nd rfl rfl (by decide) rfl rfl (pa_cons (pe_op op_fdiv (pe_op op_add (pv 2) pe_int) pe_int) (pa_cons (pv 4) pa_nil)) (by rfl))))))
      (pss_one (ps_ret (pe_callTy call_tuple_of (by rfl) T.tuple (by decide +kernel) (pa_cons (pv 1) pa_nil)))))), ?_⟩
    -- found = []
    refine ⟨Nat.zero_le _, fun o no => ?_⟩
    -- h, begun = n, 0
    refine ⟨_, rfl, _, _, rfl, ?_⟩
    refine ⟨fun m σ H' => ∃ (h b : Int) (y : Option V) (ps : List Addr) (e : Nat), σ = [some (.int n), some (.ref o), some (.int h), some (.int b), y] ∧ h.toNat = m ∧ (h - 1).toNat < 2 ^ e ∧ ps.length + e = 1000 ∧
        Same H H' ∧ H' o = some (.lst (ps.map V.ref)) ∧ ∀ q ∈ ps, Quad H' q,
      ⟨n.toNat, n, 0, none, [], 1000, rfl, rfl, by omega, rfl, same_upd no, upd_same, fun q hq => nomatch hq⟩, ?_⟩
    rintro m σ H1 ⟨h, b, y, ps, e, rfl, rfl, hb, hl, sm, ho, hq⟩
    refine ⟨_, rfl, _, _, rfl, rfl, _, rfl, iteD2 (fun h3 => ?_) (fun h3 => ?_)⟩
    · obtain ⟨e', rfl, hb'⟩ := half_pow h3 hb
      refine ⟨fun σ' H' => ∃ m', m' < h.toNat ∧ ∃ (h b : Int) (y : Option V) (ps : List Addr) (e : Nat), σ' = [some (.int n), some (.ref o), some (.int h), some (.int b), y] ∧ h.toNat = m' ∧ (h - 1).toNat < 2 ^ e ∧ ps.length + e = 1000 ∧
        Same H H' ∧ H' o = some (.lst (ps.map V.ref)) ∧ ∀ q ∈ ps, Quad H' q, fun _ _ h => h, ?_⟩
      -- met = ..
      refine ⟨_, rfl, _, rfl, _, _, rfl, rfl, _, _, rfl, rfl, .inl ⟨by decide, by decide⟩, _, _, rfl, rfl, _, _, rfl, rfl, ⟨by decide, by decide⟩, _, _, rfl, rfl, ?_⟩
      -- found.append((..))
      refine ⟨_, rfl, .inl ⟨rfl, _, SqL.of ho⟩, _, rfl, _, rfl, _, rfl, _, rfl, _, _, rfl, rfl, _, _, rfl, rfl, _, rfl, (by show 4 ≤ sizeLine; exact small100 (by decide)), fun t nt => ?_⟩
      have nto : o ≠ t := ne_of_none ho nt
      have ho1 : upd H1 t (.tup [.int h, .int b, .int (b + h - 1), .int (b + (3 * (h - 1) + 1) / 2)]) o = some (.lst (ps.map V.ref)) := by
        rw [upd_ne nto]
        exact ho
      refine ⟨o, _, .ref t, rfl, rfl, ho1, (by rw [List.length_map]; exact small1000 (by omega)), ?_⟩
      -- h, begun = ..
      refine ⟨_, rfl, _, _, rfl, rfl, _, _, rfl, rfl, ⟨by decide, by decide⟩, _, rfl, _, _, rfl, ?_⟩
      refine ⟨((h + 1) / 2).toNat, by omega, (h + 1) / 2, _, _, ps ++ [t], e', rfl, rfl, hb', (by rw [List.length_append, List.length_singleton]; omega), fun a u ha => ?_, ?_, fun q hq' => ?_⟩
      · have na : a ≠ o := ne_of_none ha no
        rw [upd_ne na]
        exact same_upd nt _ _ (sm _ _ ha)
      · rw [upd_same, List.map_append]
        rfl
      · rcases List.mem_append.mp hq' with hq' | hq'
        · obtain ⟨x1, x2, x3, x4, e1⟩ := (hq q hq').at (same_upd nt)
          have nq : q ≠ o := ne_of e1 ho1 (fun z => nomatch z)
          exact ⟨x1, x2, x3, x4, by rw [upd_ne nq]; exact e1⟩
        · have e1 : q = t := List.mem_singleton.mp hq'
          subst e1
          exact ⟨_, _, _, _, by rw [upd_ne nto.symm, upd_same]⟩
    · refine ⟨_, rfl, o, _, rfl, .inl ⟨SqL.of ho, fun l nl => ?_⟩⟩
      exact q _ l ps (sm.trans (same_upd nl)) upd_same fun q hq' => (hq q hq').at (same_upd nl)
theorem ok_part {f : Addr} {fd : FuncData} (F : Fun K "part_with" "part_with" sPart f fd) : FnOk P w K mg base CX0 1 f fd ["begin", "end", "x"] spPart := by
  refine F.ok scPart (fun vs H Q E h => ?_) (fun cdv A outer s H vs Q E hr h => ?_)
  · obtain ⟨b, e, x, rfl, _⟩ := h
    rfl
  · obtain ⟨b, e, x, rfl, q⟩ := h
    refine ⟨_, pss_cons (ps_set (i := 3) scPart.nd rfl (.inl rfl) (pe_op op_add (pe_op op_sub (pv 1) (pv 0)) pe_int))
      (pss_cons (ps_set (i := 4) scPart.nd rfl (.inl rfl) (pe_op op_add (pe_op op_sub (pe_op op_add (pv 0) (pe_op op_fdiv (pv 3) pe_int)) pe_int) (pe_op op_mod (pv 3) pe_int)))
      (pss_cons (ps_if (pt_cmpR op_le (pv 2) (pv 4) (nomark _)) (pss_one (ps_ret (pe_tup (pa_cons (pv 0) (pa_cons (pv 4) (pa_cons pe_int pa_nil)))))) pss_nil)
      (pss_one (ps_ret (pe_tup (pa_cons (pe_op op_add (pv 0) (pe_op op_fdiv (pv 3) pe_int)) (pa_cons (pv 1) (pa_cons pe_int pa_nil)))))))), ?_⟩
    refine ⟨_, rfl, _, rfl, _, _, rfl, rfl, _, _, rfl, rfl, ?_⟩
    refine ⟨_, rfl, _, rfl, _, _, rfl, rfl, ⟨by decide, by decide⟩, _, _, rfl, rfl, _, _, rfl, rfl, _, rfl, _, _, rfl, rfl, (by show (0 : Int) < 2; decide), _, _, rfl, rfl, ?_⟩
    refine ⟨_, rfl, _, rfl, _, _, rfl, rfl, _, rfl, iteD2 (fun h3 => ?_) (fun h3 => ?_)⟩
    · refine ⟨_, rfl, _, rfl, (by show 3 ≤ sizeLine; exact small100 (by decide)), fun t nt => ?_⟩
      exact q _ t _ _ _ (same_upd nt) (.inr rfl) upd_same
    · refine ⟨_, rfl, _, rfl, _, _, rfl, rfl, ⟨by decide, by decide⟩, _, _, rfl, rfl, _, rfl, (by show 3 ≤ sizeLine; exact small100 (by decide)), fun t nt => ?_⟩
      exact q _ t _ _ _ (same_upd nt) (.inl rfl) upd_same
theorem ok_end {f : Addr} {fd : FuncData} (F : Fun K "end_state" "end_state" sEnd f fd) (T : Txt K mg) : FnOk P w K mg base CX0 1 f fd ["h", "gone", "first"] spEnd := by
  obtain ⟨tq, hq⟩ := T.quiet
  refine F.ok scEnd (fun vs H Q E h => ?_) (fun cdv A outer s H vs Q E hr h => ?_)
  · obtain ⟨h, g, c, rfl, _⟩ := h
    rfl
  · obtain ⟨h, g, c, rfl, q⟩ := h
    refine ⟨_, pss_cons (ps_if (pt_cmpR op_eq (pv 1) (pe_op op_sub (pv 0) pe_int) (nomark _)) (pss_one (ps_ret pe_str)) pss_nil)
      (pss_cons (ps_if (PW.pt (pw_and (pt_val (pv 2)) (pw_and1 (pt_cmpR op_lt (pv 1) (pe_op op_sub (pv 0) pe_int) (nomark _))))) (pss_one (ps_ret (pe_glob (v := .str "o") rfl hq ⟨_, rfl⟩))) pss_nil)
      (pss_one (ps_ret pe_str))), ?_⟩
    refine ⟨_, rfl, _, rfl, _, _, rfl, rfl, rfl, _, rfl, iteD2 (fun _ => ?_) (fun _ => ?_)⟩
    · exact q _ (by decide +kernel)
    · refine ⟨_, rfl, c, rfl, ?_⟩
      cases c with
      | true =>
        refine iteT ⟨_, rfl, _, rfl, _, _, rfl, rfl, _, _, rfl, rfl, _, rfl, iteD2 (fun _ => ?_) (fun _ => ?_)⟩
        · exact q _ (by decide +kernel)
        · exact q _ (by decide +kernel)
      | false => exact iteF (iteF (q _ (by decide +kernel)))
theorem wv_at {z0 z1 z2 z3 : Str} (n0 : z0 ≠ "f") (n1 : z1 ≠ "f") (n2 : z2 ≠ "f") (n3 : z3 ≠ "f") {i : Int} (h0 : 0 ≤ i) (h1 : i < 4) : ∃ z : Str, atI [V.str z0, .str z1, .str z2, .str z3] i = some (.str z) ∧ z ≠ "f" := by
  have h : i = (0 : Nat) ∨ i = (1 : Nat) ∨ i = (2 : Nat) ∨ i = (3 : Nat) := by omega
  rcases h with rfl | rfl | rfl | rfl
  · exact ⟨z0, atI_nat rfl, n0⟩
  · exact ⟨z1, atI_nat rfl, n1⟩
  · exact ⟨z2, atI_nat rfl, n2⟩
  · exact ⟨z3, atI_nat rfl, n3⟩
theorem ok_wave {f : Addr} {fd : FuncData} (F : Fun K "wave_state" "wave_state" sWave f fd) (T : Txt K mg) : FnOk P w K mg base CX0 1 f fd ["h", "gone", "far", "away", "back"] (spWave K) := by
  obtain ⟨tq, hq⟩ := T.quiet
  refine F.ok scWave (fun vs H Q E h => ?_) (fun cdv A outer s H vs Q E hr h => ?_)
  · obtain ⟨h, g, f, A, B, rfl, _⟩ := h
    rfl
  · obtain ⟨h, g, f, A, B, rfl, ⟨a0, a1, a2, a3, tA, n0, n1, n2, n3⟩, ⟨b0, b1, b2, b3, tB, m0, m1, m2, m3⟩, q⟩ := h
    refine ⟨_, pss_cons (ps_if (pt_cmpR op_eq (pv 2) (pv 1) (nomark _)) (pss_one (ps_ret (pe_ix ix_tup (pv 3) pe_int (fun _ _ => rfl)))) pss_nil)
      (pss_cons (ps_if (PW.pt (pw_and (pt_cmpR op_eq (pe_op op_add (pv 2) (pv 1)) (pe_op op_mul pe_int (pe_op op_sub (pv 0) pe_int)) (nomark _)) (pw_and1 (pt_cmpR op_gt (pv 1) (pe_op op_sub (pv 0) pe_int) (nomark _)))))
        (pss_one (ps_ret (pe_ix ix_tup (pv 4) pe_int (fun _ _ => rfl)))) pss_nil)
      (pss_cons (ps_if (pt_cmpR op_eq (pv 2) (pe_op op_fdiv (pv 1) pe_int) (nomark _)) (pss_one (ps_ret (pe_ix ix_tup (pv 3) (pe_op op_add pe_int (pe_op op_mod (pv 1) pe_int)) (fun _ _ => rfl)))) pss_nil)
      (pss_one (ps_ret (pe_glob (v := .str "o") rfl hq ⟨_, rfl⟩))))), ?_⟩
    have third : tSeq (tIfS (tTest (tOp rEq (tVar 2) (tOp (rI CDiv fun i j => .int (i / j)) (tVar 1) (tC (.int 3))))) (tRet (tOp (rIxT K) (tVar 3) (tOp (rI0 fun i j => .int (i + j)) (tC (.int 1)) (tOp (rI (fun _ j => 0 < j) fun i j => .int (i % j)) (tVar 1) (tC (.int 3)))))) tNext)
        (tRet (tC (.str "o"))) { nx := fun _ H' => Q .non H', rt := Q } [some (.int h), some (.int g), some (.int f), some (.ref A), some (.ref B)] H := by
      refine ⟨_, rfl, _, rfl, _, _, rfl, rfl, ⟨by decide, by decide⟩, rfl, _, rfl, iteD2 (fun _ => ?_) (fun _ => ?_)⟩
      · obtain ⟨z, e, nz⟩ := wv_at n0 n1 n2 n3 (i := 1 + g % 3) (by omega) (by omega)
        exact ⟨_, rfl, _, rfl, _, _, rfl, rfl, (by show (0 : Int) < 3; decide), _, _, rfl, rfl, A, _, _, _, rfl, rfl, tA.sq H, e, q z nz⟩
      · exact q _ (by decide +kernel)
    refine ⟨_, rfl, _, rfl, rfl, _, rfl, iteD2 (fun _ => ?_) (fun _ => ?_)⟩
    · exact ⟨_, rfl, A, _, _, _, rfl, rfl, tA.sq H, atI_nat (j := 0) rfl, q _ n0⟩
    · refine ⟨_, rfl, _, rfl, _, _, rfl, rfl, _, rfl, _, _, rfl, rfl, _, _, rfl, rfl, .inl ⟨by decide, by decide⟩, rfl, _, rfl, iteD2 (fun _ => ?_) (fun _ => ?_)⟩
      · refine ⟨_, rfl, _, rfl, _, _, rfl, rfl, _, _, rfl, rfl, _, rfl, iteD2 (fun _ => ?_) (fun _ => ?_)⟩
        · exact ⟨_, rfl, B, _, _, _, rfl, rfl, tB.sq H, atI_nat (j := 0) rfl, q _ m0⟩
        · exact third
      · exact iteF third
end
end K43

namespace K43
open PySem PySem.Spec PyProof.Rows L2
section
variable {P : Program} {w : World} {K : PySem.W.Frag} {mg : Str → Option Value} {base : Heap}
theorem wv_right {a : Addr} (h : TupK K a [.str "r", .str "ra", .str "rb", .str "rc"]) : Wv K a := ⟨_, _, _, _, h, by decide +kernel, by decide +kernel, by decide +kernel, by decide +kernel⟩
theorem wv_left {a : Addr} (h : TupK K a [.str "l", .str "la", .str "lb", .str "lc"]) : Wv K a := ⟨_, _, _, _, h, by decide +kernel, by decide +kernel, by decide +kernel, by decide +kernel⟩
theorem post_at {g : Int} (h : 0 ≤ g) : ∃ z : Str, atI [V.str "g", .str "ga", .str "gb", .str "p"] (if (3 : Int) < g then 3 else g) = some (.str z) ∧ z ≠ "f" := by
  refine wv_at (by decide +kernel) (by decide +kernel) (by decide +kernel) (by decide +kernel) ?_ ?_
  · split <;> omega
  · split <;> omega
theorem ok_str {f fE fW : Addr} {fd fdE fdW : FuncData} (F : Fun K "stretch_state" "stretch_state" sStr f fd) (FE : Fun K "end_state" "end_state" sEnd fE fdE) (bE : Binds K fdE ["h", "gone", "first"] []) (gE : mg "end_state" = some (.ref fE))
    (FW : Fun K "wave_state" "wave_state" sWave fW fdW) (bW : Binds K fdW ["h", "gone", "far", "away", "back"] []) (gW : mg "wave_state" = some (.ref fW)) (T : Txt K mg) :
    FnOk P w K mg base CX0 2 f fd ["begin", "end", "side", "gone", "first", "x"] spStr := by
  have GE : FnOk P w K mg base CX0 1 fE fdE ["h", "gone", "first"] spEnd := ok_end FE T
  have GW : FnOk P w K mg base CX0 1 fW fdW ["h", "gone", "far", "away", "back"] (spWave K) := ok_wave FW T
  obtain ⟨aR, mR, tR⟩ := T.right
  obtain ⟨aL, mL, tL⟩ := T.left
  obtain ⟨aP, mP, tP⟩ := T.posts
  have wR := wv_right tR
  have wL := wv_left tL
  refine F.ok scStr (fun vs H Q E h => ?_) (fun cdv A outer s H vs Q E hr h => ?_)
  · obtain ⟨b, e, sd, g, c, x, rfl, _⟩ := h
    rfl
  · obtain ⟨b, e, sd, g, c, x, rfl, hs, hg, q⟩ := h
    refine ⟨_, pss_cons (ps_set (i := 6) scStr.nd rfl (.inl rfl) (pe_op op_add (pe_op op_sub (pv 1) (pv 0)) pe_int))
      (pss_cons (ps_set (i := 7) scStr.nd rfl (.inl rfl) (pe_ix ix_list (pe_lst (pa_cons (pe_op op_sub (pv 5) (pv 0)) (pa_cons (pe_op op_sub (pv 1) (pv 5)) pa_nil))) (pv 2) (fun _ _ => rfl)))
      (pss_cons (ps_if (pt_cmpR op_eq (pv 7) pe_int (nomark _))
        (pss_one (ps_ret (pe_ix ix_tup (pe_glob (v := .ref aP) rfl mP rfl) (pe_callB (call_min2 rfl) (by rfl) T.min (by decide +kernel) (pa_cons (pv 3) (pa_cons pe_int pa_nil))) (fun _ _ => rfl)))) pss_nil)
      (pss_cons (ps_if (pt_cmpR op_eq (pv 7) (pe_op op_sub (pv 6) pe_int) (nomark _))
        (pss_one (ps_ret (pe_call GE hr (by rfl) gE FE.kp bE .nil pass0 (pa_cons (pv 6) (pa_cons (pv 3) (pa_cons (pv 4) pa_nil)))))) pss_nil)
      (pss_cons (ps_if (pt_cmpR op_eq (pv 2) pe_int (nomark _))
        (pss_one (ps_ret (pe_call GW hr (by rfl) gW FW.kp bW .nil pass0 (pa_cons (pv 6) (pa_cons (pv 3) (pa_cons (pv 7) (pa_cons (pe_glob (v := .ref aR) rfl mR rfl) (pa_cons (pe_glob (v := .ref aL) rfl mL rfl) pa_nil)))))))) pss_nil)
      (pss_one (ps_ret (pe_call GW hr (by rfl) gW FW.kp bW .nil pass0 (pa_cons (pv 6) (pa_cons (pv 3) (pa_cons (pv 7) (pa_cons (pe_glob (v := .ref aL) rfl mL rfl) (pa_cons (pe_glob (v := .ref aR) rfl mR rfl) pa_nil)))))))))))), ?_⟩
    refine ⟨_, rfl, _, rfl, _, _, rfl, rfl, _, _, rfl, rfl, ?_⟩
    refine ⟨_, rfl, _, rfl, _, _, rfl, rfl, _, rfl, _, rfl, _, _, rfl, rfl, (by show 2 ≤ sizeLine; exact small100 (by decide)), fun l nl => ?_⟩
    obtain ⟨far, hfar⟩ : ∃ far : Int, atI [V.int (x - b), V.int (e - x)] sd = some (.int far) := by
      rcases hs with rfl | rfl
      · exact ⟨_, atI_nat (j := 0) rfl⟩
      · exact ⟨_, atI_nat (j := 1) rfl⟩
    have sm := same_upd (o := .lst [V.int (x - b), V.int (e - x)]) nl
    refine ⟨_, rfl, l, _, _, _, rfl, rfl, SqL.of upd_same, hfar, ?_⟩
    refine ⟨_, rfl, rfl, _, rfl, iteD2 (fun _ => ?_) (fun _ => ?_)⟩
    · obtain ⟨z, ez, nz⟩ := post_at hg
      exact ⟨_, rfl, _, _, rfl, aP, _, _, _, rfl, rfl, tP.sq _, ez, q _ z sm nz⟩
    · refine ⟨_, rfl, _, rfl, _, _, rfl, rfl, rfl, _, rfl, iteD2 (fun _ => ?_) (fun _ => ?_)⟩
      · exact ⟨_, rfl, _, rfl, _, rfl, _, _, _, rfl, fun z nz => q _ z sm nz⟩
      · refine ⟨_, rfl, rfl, _, rfl, iteD2 (fun _ => ?_) (fun _ => ?_)⟩
        · exact ⟨_, rfl, _, rfl, _, rfl, _, _, _, _, _, rfl, wR, wL, fun z nz => q _ z sm nz⟩
        · exact ⟨_, rfl, _, rfl, _, rfl, _, _, _, _, _, rfl, wL, wR, fun z nz => q _ z sm nz⟩
theorem ok_seen {f fR fO fL fP fS fE fW : Addr} {fd fdR fdO fdL fdP fdS fdE fdW : FuncData} (F : Fun K "seen" "seen" sSeen f fd)
    (FR : Fun K "row_beat" "row_beat" sRow fR fdR) (bR : Binds K fdR ["n"] []) (gR : mg "row_beat" = some (.ref fR))
    (FO : Fun K "ones" "ones" sOnes fO fdO) (bO : Binds K fdO ["number"] []) (gO : mg "ones" = some (.ref fO))
    (FL : Fun K "levels" "levels" sLev fL fdL) (bL : Binds K fdL ["n"] []) (gL : mg "levels" = some (.ref fL))
    (FP : Fun K "part_with" "part_with" sPart fP fdP) (bP : Binds K fdP ["begin", "end", "x"] []) (gP : mg "part_with" = some (.ref fP))
    (FS : Fun K "stretch_state" "stretch_state" sStr fS fdS) (bS : Binds K fdS ["begin", "end", "side", "gone", "first", "x"] []) (gS : mg "stretch_state" = some (.ref fS))
    (FE : Fun K "end_state" "end_state" sEnd fE fdE) (bE : Binds K fdE ["h", "gone", "first"] []) (gE : mg "end_state" = some (.ref fE))
    (FW : Fun K "wave_state" "wave_state" sWave fW fdW) (bW : Binds K fdW ["h", "gone", "far", "away", "back"] []) (gW : mg "wave_state" = some (.ref fW)) (T : Txt K mg) :
    FnOk P w K mg base CX0 3 f fd ["n", "x", "t"] spSeen := by
  have GR : FnOk P w K mg base CX0 2 fR fdR ["n"] spRow := ok_row FR FO bO gO T
  have GL : FnOk P w K mg base CX0 2 fL fdL ["n"] spLev := (ok_lev FL T).mono (by decide)
  have GP : FnOk P w K mg base CX0 2 fP fdP ["begin", "end", "x"] spPart := (ok_part FP).mono (by decide)
  have GS : FnOk P w K mg base CX0 2 fS fdS ["begin", "end", "side", "gone", "first", "x"] spStr := ok_str FS FE bE gE FW bW gW T
  obtain ⟨tf, hf⟩ := T.fire
  refine F.ok scSeen (fun vs H Q E h => ?_) (fun cdv A outer s H vs Q E hr h => ?_)
  · obtain ⟨n, x, t, rfl, _⟩ := h
    rfl
  · obtain ⟨n, x, t, rfl, hn, ht, q⟩ := h
    refine ⟨_, pss_cons (ps_if (pt_cmpR op_ge (pv 2) (pe_call GR hr (by rfl) gR FR.kp bR .nil pass0 (pa_cons (pv 0) pa_nil)) (nomark _)) (pss_one (ps_ret (pe_glob (v := .str "f") rfl hf ⟨_, rfl⟩))) pss_nil)
      (pss_cons (ps_par3 (i := 3) (j := 4) (l := 5) rfl scSeen.nd rfl rfl rfl (by decide) (by decide) (by decide) rfl rfl rfl (pa_cons pe_int (pa_cons (pe_op op_sub (pv 0) pe_int) (pa_cons pe_int pa_nil))) (by rfl))
      (pss_cons (ps_set (i := 6) scSeen.nd rfl (.inl rfl) pe_int)
      (C8.pss_cut (ps_for PassesOwn.never rfl (pi_tup (pe_call GL hr (by rfl) gL FL.kp bL .nil pass0 (pa_cons (pv 0) pa_nil)))
          (pg_tup rfl (pgs_cons (pg_name (i := 7) scSeen.nd rfl (.inl rfl)) (pgs_cons (pg_name (i := 8) scSeen.nd rfl (.inl rfl)) (pgs_cons (pg_name (i := 9) scSeen.nd rfl (.inl rfl)) (pgs_cons (pg_name (i := 10) scSeen.nd rfl (.inl rfl)) pgs_nil)))))
          (pss_cons (ps_if (pt_cmpR op_lt (pv 2) (pv 10) (nomark _)) (pss_one ps_break) pss_nil)
          (pss_cons (ps_asg (pe_call GP hr (by rfl) gP FP.kp bP .nil pass0 (pa_cons (pv 3) (pa_cons (pv 4) (pa_cons (pv 1) pa_nil))))
              (pg_tup rfl (pgs_cons (pg_name (i := 3) scSeen.nd rfl (.inl rfl)) (pgs_cons (pg_name (i := 4) scSeen.nd rfl (.inl rfl)) (pgs_cons (pg_name (i := 5) scSeen.nd rfl (.inl rfl)) pgs_nil)))))
          (pss_one (ps_set (i := 6) scSeen.nd rfl (.inl rfl) (pv 10))))))
      (pss_one (ps_ret (pe_call GS hr (by rfl) gS FS.kp bS .nil pass0 (pa_cons (pv 3) (pa_cons (pv 4) (pa_cons (pv 5) (pa_cons (pe_op op_sub (pv 2) (pv 6)) (pa_cons (pe_cmpR op_eq (pv 6) pe_int (nomark _)) (pa_cons (pv 1) pa_nil)))))))))))), ?_⟩
    -- if t >= row_beat(n): return FIRE
    refine ⟨_, rfl, _, rfl, n, rfl, fun H1 sm1 => ?_⟩
    refine ⟨_, _, rfl, rfl, _, rfl, iteD2 (fun h3 => ?_) (fun h3 => ?_)⟩
    · exact q H1 _ sm1 ⟨fun _ => h3, fun _ => rfl⟩
    · -- begin, end, side = 0, n - 1, 0; begun = 0
      refine ⟨_, rfl, _, _, rfl, rfl, _, _, _, rfl, ?_⟩
      -- the loop
      refine ⟨fun σ' H' => ∃ (b e sd g : Int) (y7 y8 y9 y10 : Option V), σ' = [some (.int n), some (.int x), some (.int t), some (.int b), some (.int e), some (.int sd), some (.int g), y7, y8, y9, y10] ∧ (sd = 0 ∨ sd = 1) ∧ g ≤ t ∧ Same H H', ?_, ?_⟩
      · refine ⟨_, rfl, n, rfl, hn, fun H2 p ps sm2 hp hq => ?_⟩
        refine ⟨p, rfl, ⟨_, SqT.of hp⟩, for_tup (K := K) (a := p) (xs := ps.map V.ref) (fun i σ' H' => Same H2 H' ∧ ∃ (b e sd g : Int) (y7 y8 y9 y10 : Option V), σ' = [some (.int n), some (.int x), some (.int t), some (.int b), some (.int e), some (.int sd), some (.int g), y7, y8, y9, y10] ∧ (sd = 0 ∨ sd = 1) ∧ g ≤ t)
          ⟨Same.refl _, 0, n - 1, 0, 0, none, none, none, none, rfl, .inl rfl, ht⟩ (fun i σ H' _ hh => SqT.of (hh.1 _ _ hp)) ?_ ?_⟩
        · rintro i v σ H3 hi ⟨sm3, b, e, sd, g, y7, y8, y9, y10, rfl, hs, hg⟩
          obtain ⟨r, hr', rfl⟩ : ∃ r, r ∈ ps ∧ v = V.ref r := by
            obtain ⟨r, hr', e1⟩ := List.mem_map.mp (List.mem_of_getElem? hi)
            exact ⟨r, hr', e1.symm⟩
          obtain ⟨z1, z2, z3, z4, ez⟩ := (hq r hr').at sm3
          refine ⟨r, _, rfl, SqT.of ez, rfl, _, _, rfl, _, _, rfl, _, _, rfl, _, _, rfl, rfl, ?_⟩
          -- if t < met: break
          refine ⟨_, rfl, _, rfl, _, _, rfl, rfl, _, rfl, iteD2 (fun h4 => ?_) (fun h4 => ?_)⟩
          · exact ⟨b, e, sd, g, _, _, _, _, rfl, hs, hg, (sm1.trans sm2).trans sm3⟩
          · refine ⟨_, rfl, _, rfl, _, rfl, b, e, x, rfl, fun H4 t4 b' e' s' sm4 hs' h4' => ?_⟩
            refine ⟨t4, _, rfl, SqT.of h4', rfl, _, _, rfl, _, _, rfl, _, _, rfl, rfl, ?_⟩
            exact ⟨_, rfl, sm3.trans sm4, b', e', s', z4, _, _, _, _, rfl, hs', by omega⟩
        · rintro σ H3 ⟨sm3, b, e, sd, g, y7, y8, y9, y10, rfl, hs, hg⟩
          exact ⟨b, e, sd, g, y7, y8, y9, y10, rfl, hs, hg, (sm1.trans sm2).trans sm3⟩
      · rintro σ H3 ⟨b, e, sd, g, y7, y8, y9, y10, rfl, hs, hg, sm3⟩
        refine ⟨_, rfl, _, rfl, _, rfl, _, rfl, _, rfl, _, _, rfl, rfl, _, rfl, rfl, _, rfl, b, e, sd, t - g, _, x, rfl, hs, by omega, fun H4 z sm4 nz => ?_⟩
        exact q H4 z (sm3.trans sm4) ⟨fun h => absurd h nz, fun h => absurd h h3⟩
end
end K43

namespace K43
open PySem PySem.Spec PyProof.Rows L2
section
variable {P : Program} {w : World} {K : PySem.W.Frag} {mg : Str → Option Value} {base : Heap}
theorem lt2000 {m : Int} (h0 : 0 < m) (h1 : m < 1000000000000) : 0 < m ∧ m.natAbs < 2 ^ 2000 :=
  ⟨h0, Nat.lt_of_lt_of_le (show m.natAbs < 2 ^ 40 by omega) (Nat.pow_le_pow_right (by decide) (by decide))⟩
theorem ok_take {f : Addr} {fd : FuncData} (F : Fun K "_law_take" "_law_take" sTake f fd) : FnOk P w K mg base CX0 1 f fd ["_law_pot_here", "_law_many_here"] spTake := by
  refine F.ok scTake (fun vs H Q E h => ?_) (fun cdv A outer s H vs Q E hr h => ?_)
  · obtain ⟨p, m, rfl, _⟩ := h
    rfl
  · obtain ⟨p, m, rfl, ⟨a, b, ep, ha, hb, hb2⟩, hm, hm2, q⟩ := h
    refine ⟨_, pss_cons (ps_if (pt_cmpR op_gt (pe_ix ix_list (pv 0) pe_int (fun _ _ => rfl)) pe_int (nomark _))
        (pss_cons (ps_set (i := 2) scTake.nd rfl (.inl rfl) (pe_op op_mod (pe_ix ix_list (pv 0) pe_int (fun _ _ => rfl)) (pv 1)))
        (pss_cons (ps_asg (pe_op op_fdivW (pe_ix ix_list (pv 0) pe_int (fun _ _ => rfl)) (pv 1)) (pg_sub (pv 0) pe_int set_list))
        (pss_one (ps_ret (pv 2))))) pss_nil)
      (pss_cons (ps_asg (pe_op op_mod (pe_op op_add (pe_op op_mul (pe_ix ix_list (pv 0) pe_int (fun _ _ => rfl)) pe_int) pe_int) pe_int) (pg_sub (pv 0) pe_int set_list))
      (pss_one (ps_ret (pe_op op_mod (pe_op op_fdiv (pe_op op_mod (pe_op op_mul (pe_ix ix_list (pv 0) pe_int (fun _ _ => rfl)) (pe_op op_add (pe_op op_mod (pe_ix ix_list (pv 0) pe_int (fun _ _ => rfl)) pe_int) pe_int)) pe_int) pe_int) (pv 1))))), ?_⟩
    refine ⟨_, rfl, p, _, _, _, rfl, rfl, SqL.of ep, atI_nat (j := 0) rfl, _, _, rfl, rfl, _, rfl, iteD2 (fun h0 => ?_) (fun h0 => ?_)⟩
    · refine ⟨_, rfl, p, _, _, _, rfl, rfl, SqL.of ep, atI_nat (j := 0) rfl, _, rfl, _, _, rfl, rfl, hm, ?_⟩
      refine ⟨_, rfl, p, _, _, _, rfl, rfl, SqL.of ep, atI_nat (j := 0) rfl, _, rfl, _, _, rfl, rfl, wide_div hm hm2 (by decide) (by decide), ?_⟩
      refine ⟨_, rfl, p, _, _, 0, rfl, rfl, ep, rfl, ?_⟩
      refine ⟨_, rfl, q _ _ (Int.emod_nonneg _ (by omega)) (Int.emod_lt_of_pos _ hm) Kept.upd ⟨a / m, b, upd_same, Int.ediv_nonneg ha (by omega), hb, hb2⟩⟩
    · refine ⟨_, rfl, p, _, _, _, rfl, rfl, SqL.of ep, atI_nat (j := 1) rfl, _, _, rfl, rfl, .inr ⟨by decide, by decide⟩, _, _, rfl, rfl, _, _, rfl, rfl, (by show (0 : Int) < 2147483647; decide), ?_⟩
      refine ⟨_, rfl, p, _, _, 1, rfl, rfl, ep, rfl, ?_⟩
      have n0 : 0 ≤ (b * 48271 + 12345) % 2147483647 := by omega
      have n1 : (b * 48271 + 12345) % 2147483647 < 2147483647 := by omega
      have ep' : upd H p (HO.lst ([V.int a, V.int b].set 1 ((fun i j => V.int (i % j)) (b * 48271 + 12345) 2147483647))) p = some (.lst [V.int a, V.int ((b * 48271 + 12345) % 2147483647)]) := upd_same
      refine ⟨_, rfl, p, _, _, _, rfl, rfl, SqL.of ep', atI_nat (j := 1) rfl, _, rfl, p, _, _, _, rfl, rfl, SqL.of ep', atI_nat (j := 1) rfl, _, _, rfl, rfl, (by show (0 : Int) < 40009; decide), _, _, rfl, rfl, _, _, rfl, rfl, .inl ⟨by omega, by omega⟩,
        _, _, rfl, rfl, (by show (0 : Int) < 2147483629; decide), _, _, rfl, rfl, ⟨by decide, by decide⟩, _, rfl, _, _, rfl, rfl, hm, ?_⟩
      exact q _ _ (Int.emod_nonneg _ (by omega)) (Int.emod_lt_of_pos _ hm) Kept.upd ⟨a, _, upd_same, ha, n0, n1⟩
theorem ok_num {f fT : Addr} {fd fdT : FuncData} (F : Fun K "_law_number" "_law_number" sNum f fd) (FT : Fun K "_law_take" "_law_take" sTake fT fdT) (bT : Binds K fdT ["_law_pot_here", "_law_many_here"] []) (gT : mg "_law_take" = some (.ref fT)) (T : Txt K mg) :
    FnOk P w K mg base CX0 2 f fd ["_law_pot_here", "_law_most"] spNum := by
  have GT : FnOk P w K mg base CX0 1 fT fdT ["_law_pot_here", "_law_many_here"] spTake := ok_take FT
  refine F.ok scNum (fun vs H Q E h => ?_) (fun cdv A outer s H vs Q E hr h => ?_)
  · obtain ⟨p, m, rfl, _⟩ := h
    rfl
  · obtain ⟨p, m, rfl, hp, hm, q⟩ := h
    refine ⟨_, pss_cons (ps_set (i := 2) scNum.nd rfl (.inl rfl) pe_int)
      (pss_cons (ps_for PassesOwn.never rfl (pi_range1 rfl T.range (pa_cons pe_int pa_nil)) (pg_name (i := 3) scNum.nd rfl (.inl rfl))
        (pss_one (ps_set (i := 2) scNum.nd rfl (.inl rfl) (pe_op op_add (pe_op op_mul (pv 2) (pe_op op_pow pe_int pe_int)) (pe_call GT hr (by rfl) gT FT.kp bT .nil pass0 (pa_cons (pv 0) (pa_cons (pe_op op_pow pe_int pe_int) pa_nil)))))))
      (pss_one (ps_ret (pe_op op_mod (pv 2) (pv 1))))), ?_⟩
    refine ⟨7, rfl, by decide, by decide, for_range (n := 7) (fun i σ' H' => ∃ (c : Int) (y : Option V), σ' = [some (.ref p), some (.int m), some (.int c), y] ∧ Kept p H H' ∧ PotAt H' p) ⟨0, none, rfl, Kept.refl _ _, hp⟩ ?_ ?_⟩
    · rintro i σ H1 hi ⟨c, y, rfl, k1, hp1⟩
      refine ⟨_, rfl, _, _, rfl, rfl, ⟨by decide, by decide, by decide⟩, _, _, rfl, rfl, .inr ⟨by decide, by decide⟩, ?_⟩
      refine ⟨_, rfl, _, _, rfl, rfl, ⟨by decide, by decide, by decide⟩, p, _, rfl, hp1, (lt2000 (by decide) (by decide)).1, (lt2000 (by decide) (by decide)).2, fun r H2 r0 r1 k2 hp2 => ?_⟩
      exact ⟨_, _, rfl, rfl, _, _, rfl, k1.trans k2, hp2⟩
    · rintro σ H1 ⟨c, y, rfl, k1, hp1⟩
      exact ⟨_, rfl, _, rfl, _, _, rfl, rfl, hm, q _ _ (Int.emod_nonneg _ (by omega)) (Int.emod_lt_of_pos _ hm) k1 hp1⟩
theorem ok_hal {f fT : Addr} {fd fdT : FuncData} (F : Fun K "_law_halves" "_law_halves" sHal f fd) (FT : Fun K "_law_take" "_law_take" sTake fT fdT) (bT : Binds K fdT ["_law_pot_here", "_law_many_here"] []) (gT : mg "_law_take" = some (.ref fT)) (T : Txt K mg) :
    FnOk P w K mg base CX0 2 f fd ["_law_pot_here", "_law_many_here"] spHal := by
  have GT : FnOk P w K mg base CX0 1 fT fdT ["_law_pot_here", "_law_many_here"] spTake := ok_take FT
  refine F.ok scHal (fun vs H Q E h => ?_) (fun cdv A outer s H vs Q E hr h => ?_)
  · obtain ⟨p, m, rfl, _⟩ := h
    rfl
  · obtain ⟨p, m, rfl, hp, hm, q⟩ := h
    refine ⟨_, pss_cons (ps_asg (pe_tup (pa_cons pe_int (pa_cons (pe_op op_sub (pv 1) pe_int) (pa_cons pe_int (pa_cons pe_int (pa_cons pe_int pa_nil))))))
          (pg_tup rfl (pgs_cons (pg_name (i := 2) scHal.nd rfl (.inl rfl)) (pgs_cons (pg_name (i := 3) scHal.nd rfl (.inl rfl)) (pgs_cons (pg_name (i := 4) scHal.nd rfl (.inl rfl)) (pgs_cons (pg_name (i := 5) scHal.nd rfl (.inl rfl)) (pgs_cons (pg_name (i := 6) scHal.nd rfl (.inl rfl)) pgs_nil)))))))
      (pss_cons (ps_for PassesOwn.never rfl (pi_range1 rfl T.range (pa_cons (pe_op op_mul (pe_call GT hr (by rfl) gT FT.kp bT .nil pass0 (pa_cons (pv 0) (pa_cons pe_int pa_nil))) (pe_call GT hr (by rfl) gT FT.kp bT .nil pass0 (pa_cons (pv 0) (pa_cons pe_int pa_nil)))) pa_nil)) (pg_name (i := 7) scHal.nd rfl (.inl rfl))
        (pss_cons (ps_set (i := 8) scHal.nd rfl (.inl rfl) (pe_op op_add (pe_op op_sub (pv 3) (pv 2)) pe_int))
        (pss_cons (ps_if (pt_cmpR op_lt (pv 8) pe_int (nomark _)) (pss_one (ps_ret (pe_tup (pa_cons (pv 2) (pa_cons (pv 3) (pa_cons (pv 4) (pa_cons (pv 5) (pa_cons (pv 6) pa_nil)))))))) pss_nil)
        (pss_cons (ps_set (i := 5) scHal.nd rfl (.inl rfl) (pe_op op_add (pv 5) (pe_op op_fdiv (pe_op op_add (pe_op op_mul pe_int (pe_op op_sub (pv 8) pe_int)) pe_int) pe_int)))
        (pss_cons (ps_set (i := 6) scHal.nd rfl (.inl rfl) (pe_op op_add (pv 6) pe_int))
        (pss_one (ps_if (pt_cmpR op_eq (pe_call GT hr (by rfl) gT FT.kp bT .nil pass0 (pa_cons (pv 0) (pa_cons pe_int pa_nil))) pe_int (nomark _))
          (pss_cons (ps_set (i := 3) scHal.nd rfl (.inl rfl) (pe_op op_sub (pe_op op_add (pv 2) (pe_op op_fdiv (pe_op op_add (pv 8) pe_int) pe_int)) pe_int)) (pss_one (ps_set (i := 4) scHal.nd rfl (.inl rfl) (pv 3))))
          (pss_cons (ps_set (i := 2) scHal.nd rfl (.inl rfl) (pe_op op_add (pv 2) (pe_op op_fdiv (pv 8) pe_int))) (pss_one (ps_set (i := 4) scHal.nd rfl (.inl rfl) (pv 2)))))))))))
      (pss_one (ps_ret (pe_tup (pa_cons (pv 2) (pa_cons (pv 3) (pa_cons (pv 4) (pa_cons (pv 5) (pa_cons (pv 6) pa_nil))))))))), ?_⟩
    -- the five names
    refine ⟨_, rfl, _, _, rfl, rfl, (by show 5 ≤ sizeLine; exact small100 (by decide)), fun t nt => ?_⟩
    refine ⟨t, _, rfl, SqT.of upd_same, rfl, _, _, rfl, _, _, rfl, _, _, rfl, _, _, rfl, _, _, rfl, rfl, ?_⟩
    -- range(..)
    refine ⟨_, rfl, p, 7, rfl, hp.new nt, by decide, (lt2000 (by decide) (by decide)).2, fun r1 H1 r10 r11 k1 hp1 => ?_⟩
    refine ⟨_, rfl, p, 34, rfl, hp1, by decide, (lt2000 (by decide) (by decide)).2, fun r2 H2 r20 r21 k2 hp2 => ?_⟩
    have hmul0 : 0 ≤ r1 * r2 := Int.mul_nonneg r10 r20
    have hmul1 : r1 * r2 ≤ 6 * 33 := Int.mul_le_mul (by omega) (by omega) r20 (by decide)
    refine ⟨r1, r2, rfl, rfl, .inl ⟨by omega, by omega⟩, r1 * r2, rfl, by omega, by omega, ?_⟩
    have k02 : Kept p H H2 := ((Kept.of (same_upd nt)).trans k1).trans k2
    refine for_range (n := (r1 * r2).toNat) (fun i σ' H' => ∃ (b e po c l : Int) (y7 y8 : Option V), σ' = [some (.ref p), some (.int m), some (.int b), some (.int e), some (.int po), some (.int c), some (.int l), y7, y8] ∧ b ≤ e ∧ 0 ≤ c ∧ Kept p H H' ∧ PotAt H' p)
      ⟨0, m - 1, 0, 0, 0, none, none, rfl, by omega, by decide, k02, hp2⟩ ?_ ?_
    · rintro i σ H3 hi ⟨b, e, po, c, l, y7, y8, rfl, hbe, hc, k3, hp3⟩
      -- size
      refine ⟨_, rfl, _, rfl, _, _, rfl, rfl, _, _, rfl, rfl, ?_⟩
      refine ⟨_, rfl, _, _, rfl, rfl, _, rfl, iteD2 (fun h3 => ?_) (fun h3 => ?_)⟩
      · refine ⟨_, rfl, _, rfl, _, rfl, _, rfl, _, rfl, (by show 5 ≤ sizeLine; exact small100 (by decide)), fun u nu => ?_⟩
        exact q _ u b e po c l hbe hc (k3.trans (Kept.of (same_upd nu))) (hp3.new nu) upd_same
      · -- came, level
        refine ⟨_, rfl, _, rfl, _, _, rfl, rfl, _, _, rfl, rfl, .inl ⟨by decide, by decide⟩, _, _, rfl, rfl, _, _, rfl, rfl, ⟨by decide, by decide⟩, _, _, rfl, rfl, ?_⟩
        refine ⟨_, rfl, _, _, rfl, rfl, ?_⟩
        refine ⟨_, rfl, p, 2, rfl, hp3, by decide, (lt2000 (by decide) (by decide)).2, fun r H4 r0 r1 k4 hp4 => ?_⟩
        have hc' : 0 ≤ c + (3 * (e - b + 1 - 1) + 1) / 2 := by omega
        refine ⟨rfl, _, rfl, iteD2 (fun _ => ?_) (fun _ => ?_)⟩
        · refine ⟨_, rfl, _, rfl, _, _, rfl, rfl, _, _, rfl, rfl, ⟨by decide, by decide⟩, _, _, rfl, rfl, _, _, rfl, rfl, ?_⟩
          exact ⟨_, rfl, b, _, _, _, _, _, _, rfl, by omega, hc', k3.trans k4, hp4⟩
        · refine ⟨_, rfl, _, rfl, _, _, rfl, rfl, ⟨by decide, by decide⟩, _, _, rfl, rfl, ?_⟩
          exact ⟨_, rfl, _, e, _, _, _, _, _, rfl, by omega, hc', k3.trans k4, hp4⟩
    · rintro σ H3 ⟨b, e, po, c, l, y7, y8, rfl, hbe, hc, k3, hp3⟩
      refine ⟨_, rfl, _, rfl, _, rfl, _, rfl, _, rfl, (by show 5 ≤ sizeLine; exact small100 (by decide)), fun u nu => ?_⟩
      exact q _ u b e po c l hbe hc (k3.trans (Kept.of (same_upd nu))) (hp3.new nu) upd_same
end
end K43

namespace K43
open PySem PySem.Spec PyProof.Rows L2
section
variable {P : Program} {w : World} {K : PySem.W.Frag} {mg : Str → Option Value} {base : Heap}
theorem ints_at (ns : List Int) {i : Int} (h0 : 0 ≤ i) (h1 : i < ns.length) : ∃ z : Int, z ∈ ns ∧ atI (ns.map V.int) i = some (.int z) := by
  have hl : i.toNat < ns.length := by omega
  refine ⟨ns[i.toNat], List.getElem_mem hl, ?_⟩
  refine at_of (j := i.toNat) (by omega) ?_
  rw [List.getElem?_map, List.getElem?_eq_getElem hl]
  rfl
theorem ok_spot {f fT fN fH : Addr} {fd fdT fdN fdH : FuncData} (F : Fun K "_law_spot" "_law_spot" sSpot f fd)
    (FT : Fun K "_law_take" "_law_take" sTake fT fdT) (bT : Binds K fdT ["_law_pot_here", "_law_many_here"] []) (gT : mg "_law_take" = some (.ref fT))
    (FN : Fun K "_law_number" "_law_number" sNum fN fdN) (bN : Binds K fdN ["_law_pot_here", "_law_most"] []) (gN : mg "_law_number" = some (.ref fN))
    (FH : Fun K "_law_halves" "_law_halves" sHal fH fdH) (bH : Binds K fdH ["_law_pot_here", "_law_many_here"] []) (gH : mg "_law_halves" = some (.ref fH)) (T : Txt K mg) :
    FnOk P w K mg base CX0 3 f fd ["_law_pot_here", "_law_many_here"] spSpot := by
  have GT : FnOk P w K mg base CX0 2 fT fdT ["_law_pot_here", "_law_many_here"] spTake := (ok_take FT).mono (by decide)
  have GN : FnOk P w K mg base CX0 2 fN fdN ["_law_pot_here", "_law_most"] spNum := ok_num FN FT bT gT T
  have GH : FnOk P w K mg base CX0 2 fH fdH ["_law_pot_here", "_law_many_here"] spHal := ok_hal FH FT bT gT T
  refine F.ok scSpot (fun vs H Q E h => ?_) (fun cdv A outer s H vs Q E hr h => ?_)
  · obtain ⟨p, m, rfl, _⟩ := h
    rfl
  · obtain ⟨p, m, rfl, hp, hm, q⟩ := h
    refine ⟨_, pss_cons (ps_asg (pe_call GH hr (by rfl) gH FH.kp bH .nil pass0 (pa_cons (pv 0) (pa_cons (pv 1) pa_nil)))
          (pg_tup rfl (pgs_cons (pg_name (i := 2) scSpot.nd rfl (.inl rfl)) (pgs_cons (pg_name (i := 3) scSpot.nd rfl (.inl rfl)) (pgs_cons (pg_name (i := 4) scSpot.nd rfl (.inl rfl)) (pgs_cons (pg_name (i := 5) scSpot.nd rfl (.inl rfl)) (pgs_cons (pg_name (i := 6) scSpot.nd rfl (.inl rfl)) pgs_nil)))))))
      (pss_cons (ps_set (i := 7) scSpot.nd rfl (.inl rfl) (pe_op op_add (pe_op op_sub (pv 3) (pv 2)) pe_int))
      (C8.pss_cut (ps_set (i := 8) scSpot.nd rfl (.inl rfl) (pe_ifExp (pt_cmpR op_eq (pv 4) (pv 2) (nomark _)) pe_int (pe_un un_neg pe_int)))
      (pss_cons (ps_set (i := 9) scSpot.nd rfl (.inl rfl) (pe_op op_fdiv (pe_op op_add (pe_op op_mul pe_int (pe_op op_sub (pv 7) pe_int)) pe_int) pe_int))
      (pss_cons (ps_set (i := 10) scSpot.nd rfl (.inl rfl) (pe_call GN hr (by rfl) gN FN.kp bN .nil pass0 (pa_cons (pv 0) (pa_cons (pe_op op_add (pv 9) pe_int) pa_nil))))
      (pss_cons (ps_set (i := 11) scSpot.nd rfl (.inl rfl) (pe_call GT hr (by rfl) gT FT.kp bT .nil pass0 (pa_cons (pv 0) (pa_cons pe_int pa_nil))))
      (C8.pss_cut (ps_if (pt_cmpR op_eq (pv 11) pe_int (nomark _)) (pss_one (ps_set (i := 10) scSpot.nd rfl (.inl rfl) (pe_call GT hr (by rfl) gT FT.kp bT .nil pass0 (pa_cons (pv 0) (pa_cons pe_int pa_nil))))) pss_nil)
      (C8.pss_cut (ps_if (pt_cmpR op_eq (pv 11) pe_int (nomark _)) (pss_one (ps_set (i := 10) scSpot.nd rfl (.inl rfl) (pe_op op_add (pe_op op_sub (pv 7) pe_int) (pe_call GT hr (by rfl) gT FT.kp bT .nil pass0 (pa_cons (pv 0) (pa_cons pe_int pa_nil)))))) pss_nil)
      (C8.pss_cut (ps_if (pt_cmpR op_eq (pv 11) pe_int (nomark _)) (pss_one (ps_set (i := 10) scSpot.nd rfl (.inl rfl) (pe_op op_add (pe_op op_sub (pv 9) pe_int) (pe_call GT hr (by rfl) gT FT.kp bT .nil pass0 (pa_cons (pv 0) (pa_cons pe_int pa_nil)))))) pss_nil)
      (pss_cons (ps_set (i := 12) scSpot.nd rfl (.inl rfl) (pe_ix ix_list (pe_lst (pa_cons pe_int (pa_cons (pe_op op_sub (pv 7) pe_int) (pa_cons (pv 10) (pa_cons (pe_op op_sub (pe_op op_mul pe_int (pe_op op_sub (pv 7) pe_int)) (pv 10)) (pa_cons (pe_op op_fdiv (pv 10) pe_int) (pa_cons (pe_op op_fdiv (pe_op op_sub (pv 7) pe_int) pe_int) pa_nil)))))))
          (pe_call GT hr (by rfl) gT FT.kp bT .nil pass0 (pa_cons (pv 0) (pa_cons pe_int pa_nil))) (fun _ _ => rfl)))
      (C8.pss_cut (ps_if (pt_cmpR op_eq (pv 11) pe_int (nomark _)) (pss_one (ps_set (i := 12) scSpot.nd rfl (.inl rfl) (pe_call GN hr (by rfl) gN FN.kp bN .nil pass0 (pa_cons (pv 0) (pa_cons (pv 7) pa_nil))))) pss_nil)
      (pss_cons (ps_set (i := 13) scSpot.nd rfl (.inl rfl) (pe_op op_add (pv 4) (pe_op op_mul (pv 8) (pe_op op_sub (pe_op op_add (pv 12) (pe_call GT hr (by rfl) gT FT.kp bT .nil pass0 (pa_cons (pv 0) (pa_cons pe_int pa_nil)))) pe_int))))
      (pss_one (ps_ret (pe_tup (pa_cons (pv 13) (pa_cons (pe_callB (call_max2 rfl) (by rfl) T.max (by decide +kernel) (pa_cons pe_int (pa_cons (pe_op op_add (pv 5) (pv 10)) pa_nil))) pa_nil)))))))))))))))), ?_⟩
    -- the stretch
    refine ⟨_, rfl, _, rfl, p, m, rfl, hp, hm, fun H1 t b e po c l hbe hc k1 hp1 ht => ?_⟩
    refine ⟨t, _, rfl, SqT.of ht, rfl, _, _, rfl, _, _, rfl, _, _, rfl, _, _, rfl, _, _, rfl, rfl, ?_⟩
    refine ⟨_, rfl, _, rfl, _, _, rfl, rfl, _, _, rfl, rfl, ?_⟩
    have hz : 1 ≤ e - b + 1 := by omega
    -- way
    refine ⟨fun σ' H' => H' = H1 ∧ ∃ wy : Int, σ' = [some (.ref p), some (.int m), some (.int b), some (.int e), some (.int po), some (.int c), some (.int l), some (.int (e - b + 1)), some (.int wy), none, none, none, none, none] ∧ -1 ≤ wy ∧ wy ≤ 1, ?_, ?_⟩
    · refine ⟨_, rfl, _, rfl, rfl, _, rfl, iteD2 (fun _ => ?_) (fun _ => ?_)⟩
      · exact ⟨rfl, _, rfl, by decide, by decide⟩
      · exact ⟨_, rfl, rfl, _, rfl, by decide, by decide⟩
    · rintro σ H' ⟨rfl, wy, rfl, hw0, hw1⟩
      generalize e - b + 1 = sz at hz
      -- met, gone, kind
      refine ⟨_, rfl, _, _, rfl, rfl, _, _, rfl, rfl, .inl ⟨by decide, by decide⟩, _, _, rfl, rfl, _, _, rfl, rfl, ⟨by decide, by decide⟩, ?_⟩
      refine ⟨_, rfl, _, rfl, _, _, rfl, rfl, p, _, rfl, hp1, by omega, fun r2 H2 r20 r21 k2 hp2 => ?_⟩
      refine ⟨_, rfl, p, _, rfl, hp2, by decide, (lt2000 (by decide) (by decide)).2, fun r3 H3 r30 r31 k3 hp3 => ?_⟩
      -- if kind == 0
      refine ⟨fun σ' H' => Kept p H H' ∧ PotAt H' p ∧ ∃ mt g : Int, σ' = [some (.ref p), some (.int m), some (.int b), some (.int e), some (.int po), some (.int c), some (.int l), some (.int sz), some (.int wy), some (.int mt), some (.int g), some (.int r3), none, none], ?_, ?_⟩
      · refine ⟨_, rfl, rfl, _, rfl, iteD2 (fun _ => ?_) (fun _ => ?_)⟩
        · refine ⟨_, rfl, p, _, rfl, hp3, by decide, (lt2000 (by decide) (by decide)).2, fun r4 H4 r40 r41 k4 hp4 => ?_⟩
          exact ⟨((k1.trans k2).trans k3).trans k4, hp4, _, _, rfl⟩
        · exact ⟨(k1.trans k2).trans k3, hp3, _, _, rfl⟩
      · rintro σ H4 ⟨k4, hp4, mt, g, rfl⟩
        -- if kind == 1
        refine ⟨fun σ' H' => Kept p H H' ∧ PotAt H' p ∧ ∃ mt g : Int, σ' = [some (.ref p), some (.int m), some (.int b), some (.int e), some (.int po), some (.int c), some (.int l), some (.int sz), some (.int wy), some (.int mt), some (.int g), some (.int r3), none, none], ?_, ?_⟩
        · refine ⟨_, rfl, rfl, _, rfl, iteD2 (fun _ => ?_) (fun _ => ?_)⟩
          · refine ⟨_, rfl, _, _, rfl, rfl, _, rfl, p, _, rfl, hp4, by decide, (lt2000 (by decide) (by decide)).2, fun r5 H5 r50 r51 k5 hp5 => ?_⟩
            exact ⟨_, _, rfl, rfl, k4.trans k5, hp5, _, _, rfl⟩
          · exact ⟨k4, hp4, _, _, rfl⟩
        · rintro σ H5 ⟨k5, hp5, mt, g, rfl⟩
          -- if kind == 2
          refine ⟨fun σ' H' => Kept p H H' ∧ PotAt H' p ∧ ∃ mt g : Int, σ' = [some (.ref p), some (.int m), some (.int b), some (.int e), some (.int po), some (.int c), some (.int l), some (.int sz), some (.int wy), some (.int mt), some (.int g), some (.int r3), none, none], ?_, ?_⟩
          · refine ⟨_, rfl, rfl, _, rfl, iteD2 (fun _ => ?_) (fun _ => ?_)⟩
            · refine ⟨_, rfl, _, _, rfl, rfl, _, rfl, p, _, rfl, hp5, by decide, (lt2000 (by decide) (by decide)).2, fun r6 H6 r60 r61 k6 hp6 => ?_⟩
              exact ⟨_, _, rfl, rfl, k5.trans k6, hp6, _, _, rfl⟩
            · exact ⟨k5, hp5, _, _, rfl⟩
          · rintro σ H6 ⟨k6, hp6, mt, g, rfl⟩
            -- near
            refine ⟨_, rfl, _, _, rfl, rfl, _, rfl, _, rfl, _, _, rfl, rfl, _, _, rfl, rfl, .inl ⟨by decide, by decide⟩, _, rfl, _, _, rfl, rfl, _, rfl, _, _, rfl, rfl, ⟨by decide, by decide⟩, _, rfl, _, _, rfl, rfl, _, _, rfl, rfl, ⟨by decide, by decide⟩, (by show 6 ≤ sizeLine; exact small100 (by decide)), fun u nu => ?_⟩
            have nup : u ≠ p := by
              obtain ⟨xs, ex⟩ := hp6.there
              exact (ne_of_none ex nu).symm
            refine ⟨_, rfl, p, _, rfl, hp6.new nu, by decide, (lt2000 (by decide) (by decide)).2, fun r7 H7 r70 r71 k7 hp7 => ?_⟩
            obtain ⟨z, _, ez⟩ := ints_at [0, sz - 1, g, 2 * (sz - 1) - g, g / 3, (sz - 1) / 2] r70 (by simpa using r71)
            refine ⟨u, _, _, _, rfl, rfl, SqL.of (k7 u _ nup upd_same), ez, ?_⟩
            have k67 : Kept p H H7 := (k6.trans (Kept.of (same_upd nu))).trans k7
            -- if kind == 7
            refine ⟨fun σ' H' => Kept p H H' ∧ PotAt H' p ∧ ∃ mt nr : Int, σ' = [some (.ref p), some (.int m), some (.int b), some (.int e), some (.int po), some (.int c), some (.int l), some (.int sz), some (.int wy), some (.int mt), some (.int g), some (.int r3), some (.int nr), none], ?_, ?_⟩
            · refine ⟨_, rfl, rfl, _, rfl, iteD2 (fun _ => ?_) (fun _ => ?_)⟩
              · refine ⟨_, rfl, _, rfl, p, _, rfl, hp7, by omega, fun r8 H8 r80 r81 k8 hp8 => ?_⟩
                exact ⟨k67.trans k8, hp8, _, _, rfl⟩
              · exact ⟨k67, hp7, _, _, rfl⟩
            · rintro σ H8 ⟨k8, hp8, mt, nr, rfl⟩
              -- hand
              refine ⟨_, rfl, _, rfl, _, rfl, _, rfl, p, _, rfl, hp8, by decide, (lt2000 (by decide) (by decide)).2, fun r9 H9 r90 r91 k9 hp9 => ?_⟩
              refine ⟨_, _, rfl, rfl, _, _, rfl, rfl, _, _, rfl, rfl, .inl ⟨by omega, by omega⟩, _, _, rfl, rfl, ?_⟩
              -- the answer
              refine ⟨_, rfl, _, rfl, _, rfl, _, _, rfl, rfl, _, _, rfl, (by show 2 ≤ sizeLine; exact small100 (by decide)), fun v nv => ?_⟩
              refine q _ v _ _ ?_ ((k8.trans k9).trans (Kept.of (same_upd nv))) (hp9.new nv) upd_same
              split <;> omega
theorem pow_le {N : Nat} (h : N ≤ 198) : ∃ k : Nat, (2 : Int) ^ N = (k : Int) ∧ k ≤ 2 ^ 198 := ⟨2 ^ N, by rw [two_pow_cast], Nat.pow_le_pow_right (by decide) h⟩
theorem lt1000 {n : Int} (h : n ≤ 2 ^ 200) : n.toNat < 2 ^ 1000 :=
  Nat.lt_of_lt_of_le (show n.toNat < 2 ^ 201 by omega) (Nat.pow_le_pow_right (by decide) (by decide))
theorem many_ix (c : Bool) : ∃ z : Int, atI [V.int ((10 : Int) ^ (9 : Int).toNat), V.int ((10 : Int) ^ (60 : Int).toNat)] (if c then 1 else 0) = some (.int z) ∧ 0 < z ∧ z ≤ 2 ^ 200 := by
  cases c with
  | false => exact ⟨_, atI_nat (j := 0) rfl, by decide, by decide⟩
  | true => exact ⟨_, atI_nat (j := 1) rfl, by decide, by decide⟩
theorem ok_many {f fT fN : Addr} {fd fdT fdN : FuncData} (F : Fun K "_law_many" "_law_many" sMany f fd)
    (FT : Fun K "_law_take" "_law_take" sTake fT fdT) (bT : Binds K fdT ["_law_pot_here", "_law_many_here"] []) (gT : mg "_law_take" = some (.ref fT))
    (FN : Fun K "_law_number" "_law_number" sNum fN fdN) (bN : Binds K fdN ["_law_pot_here", "_law_most"] []) (gN : mg "_law_number" = some (.ref fN)) (T : Txt K mg) :
    FnOk P w K mg base CX0 3 f fd ["_law_pot_here", "_law_great"] spMany := by
  have GT : FnOk P w K mg base CX0 2 fT fdT ["_law_pot_here", "_law_many_here"] spTake := (ok_take FT).mono (by decide)
  have GN : FnOk P w K mg base CX0 2 fN fdN ["_law_pot_here", "_law_most"] spNum := ok_num FN FT bT gT T
  refine F.ok scMany (fun vs H Q E h => ?_) (fun cdv A outer s H vs Q E hr h => ?_)
  · obtain ⟨p, g, rfl, _⟩ := h
    rfl
  · obtain ⟨p, g, rfl, hp, q⟩ := h
    refine ⟨_, pss_cons (ps_set (i := 2) scMany.nd rfl (.inl rfl) (pe_call GT hr (by rfl) gT FT.kp bT .nil pass0 (pa_cons (pv 0) (pa_cons pe_int pa_nil))))
      (pss_cons (ps_if (pt_cmpR op_eq (pv 2) pe_int (nomark _)) (pss_one (ps_ret (pe_op op_add pe_int (pe_call GT hr (by rfl) gT FT.kp bT .nil pass0 (pa_cons (pv 0) (pa_cons pe_int pa_nil)))))) pss_nil)
      (pss_cons (ps_if (pt_cmpR op_eq (pv 2) pe_int (nomark _)) (pss_one (ps_ret (pe_callB (call_max2 rfl) (by rfl) T.max (by decide +kernel) (pa_cons pe_int (pa_cons
          (pe_op op_sub (pe_op op_add (pe_op op_shl pe_int (pe_op op_add pe_int (pe_call GT hr (by rfl) gT FT.kp bT .nil pass0 (pa_cons (pv 0) (pa_cons
              (pe_ix ix_list (pe_lst (pa_cons pe_int (pa_cons pe_int pa_nil))) (pe_callTy call_int1 (by rfl) T.int (by decide +kernel) (pa_cons (pv 1) pa_nil)) (fun _ _ => rfl)) pa_nil)))))
            (pe_call GT hr (by rfl) gT FT.kp bT .nil pass0 (pa_cons (pv 0) (pa_cons pe_int pa_nil)))) pe_int) pa_nil))))) pss_nil)
      (pss_one (ps_ret (pe_op op_add pe_int (pe_call GN hr (by rfl) gN FN.kp bN .nil pass0 (pa_cons (pv 0) (pa_cons
          (pe_ix ix_list (pe_lst (pa_cons (pe_op op_pow pe_int pe_int) (pa_cons (pe_op op_pow pe_int pe_int) pa_nil)))
            (pe_callTy call_int1 (by rfl) T.int (by decide +kernel) (pa_cons (pe_and (pv 1) (pe_one (pe_cmpR op_eq (pv 2) pe_int (nomark _)))) pa_nil)) (fun _ _ => rfl)) pa_nil)))))))), ?_⟩
    refine ⟨_, rfl, p, _, rfl, hp, by decide, (lt2000 (by decide) (by decide)).2, fun r1 H1 r10 r11 k1 hp1 => ?_⟩
    refine ⟨_, rfl, rfl, _, rfl, iteD2 (fun _ => ?_) (fun _ => ?_)⟩
    · refine ⟨_, rfl, p, _, rfl, hp1, by decide, (lt2000 (by decide) (by decide)).2, fun r2 H2 r20 r21 k2 hp2 => ?_⟩
      exact ⟨_, _, rfl, rfl, q _ _ (by omega) (lt1000 (by omega)) (k1.trans k2) hp2⟩
    · refine ⟨_, rfl, rfl, _, rfl, iteD2 (fun _ => ?_) (fun _ => ?_)⟩
      · refine ⟨_, rfl, (by show 2 ≤ sizeLine; exact small100 (by decide)), fun u nu => ?_⟩
        refine ⟨_, rfl, .inr ⟨g, rfl, ?_⟩⟩
        obtain ⟨z, mz, ez⟩ := ints_at [29, 198] (i := if g then 1 else 0) (by split <;> decide) (by split <;> decide)
        have hz : z = 29 ∨ z = 198 := by simpa using mz
        refine ⟨u, _, _, _, rfl, rfl, SqL.of upd_same, ez, ?_⟩
        refine ⟨p, z, rfl, hp1.new nu, by omega, (lt2000 (by omega) (by omega)).2, fun r2 H2 r20 r21 k2 hp2 => ?_⟩
        refine ⟨_, _, rfl, rfl, _, _, rfl, rfl, ⟨by omega, by omega, by decide⟩, ?_⟩
        refine ⟨_, rfl, p, _, rfl, hp2, by decide, (lt2000 (by decide) (by decide)).2, fun r3 H3 r30 r31 k3 hp3 => ?_⟩
        refine ⟨_, _, rfl, rfl, _, _, rfl, rfl, _, _, rfl, ?_⟩
        obtain ⟨k, ek, hk⟩ := pow_le (N := (1 + r2).toNat) (by omega)
        rw [ek]
        refine q _ _ ?_ (lt1000 ?_) (((k1.trans (Kept.of (same_upd nu))).trans k2).trans k3) hp3
        · split <;> omega
        · split <;> omega
      · refine ⟨_, rfl, _, _, rfl, rfl, ⟨by decide, by decide, by decide⟩, _, _, rfl, rfl, ⟨by decide, by decide, by decide⟩, (by show 2 ≤ sizeLine; exact small100 (by decide)), fun u nu => ?_⟩
        have fin : ∀ c : Bool, ∃ z : Int, atI [V.int ((10 : Int) ^ (9 : Int).toNat), V.int ((10 : Int) ^ (60 : Int).toNat)] (if c then 1 else 0) = some (.int z) ∧ 0 < z ∧
            (∀ (r : Int) H', 0 ≤ r → r < z → Kept p (upd H1 u (.lst [V.int ((10 : Int) ^ (9 : Int).toNat), V.int ((10 : Int) ^ (60 : Int).toNat)])) H' → PotAt H' p → Q (.int (1 + r)) H') := fun c => by
          obtain ⟨z, ez, z0, z1⟩ := many_ix c
          exact ⟨z, ez, z0, fun r H2 r0 r1 k2 hp2 => q _ _ (by omega) (lt1000 (by omega)) ((k1.trans (Kept.of (same_upd nu))).trans k2) hp2⟩
        refine ⟨_, rfl, g, rfl, ?_⟩
        cases g with
        | true =>
          refine iteT ⟨_, rfl, rfl, .inr ⟨_, rfl, ?_⟩⟩
          obtain ⟨z, ez, z0, q'⟩ := fin (decide (V.int r1 = V.int 2))
          exact ⟨u, _, _, _, rfl, rfl, SqL.of upd_same, ez, p, z, rfl, hp1.new nu, z0, fun r H2 r0 r1 k2 hp2 => ⟨_, _, rfl, rfl, q' r H2 r0 r1 k2 hp2⟩⟩
        | false =>
          refine iteF (.inr ⟨_, rfl, ?_⟩)
          obtain ⟨z, ez, z0, q'⟩ := fin false
          exact ⟨u, _, _, _, rfl, rfl, SqL.of upd_same, ez, p, z, rfl, hp1.new nu, z0, fun r H2 r0 r1 k2 hp2 => ⟨_, _, rfl, rfl, q' r H2 r0 r1 k2 hp2⟩⟩
end
end K43

namespace K43
open PySem PySem.Spec PyProof.Rows L2
section
variable {P : Program} {w : World} {K : PySem.W.Frag} {mg : Str → Option Value} {base : Heap}
theorem ok_pot {f : Addr} {fd : FuncData} (F : Fun K "_law_pot" "_law_pot" sPot f fd) (T : Txt K mg) : FnOk P w K mg base CX0 1 f fd ["_law_script", "_law_k"] (spPot K) := by
  refine F.ok scPot (fun vs H Q E h => ?_) (fun cdv A outer s H vs Q E hr h => ?_)
  · obtain ⟨a, ns, k, rfl, _⟩ := h
    rfl
  · obtain ⟨a, ns, k, rfl, hS, hlen, hk0, hk1, q⟩ := h
    refine ⟨_, pss_cons (ps_set (i := 2) scPot.nd rfl (.inl rfl) pe_int)
      (C8.pss_cut (ps_if (pt_cmpR op_gt (pe_callB call_len_seq (by rfl) T.len PySem.boot_len (pa_cons (pv 0) pa_nil)) pe_int (nomark _))
        (pss_one (ps_set (i := 2) scPot.nd rfl (.inl rfl) (pe_ix ix_list (pv 0) (pe_op op_mod (pv 1) (pe_callB call_len_seq (by rfl) T.len PySem.boot_len (pa_cons (pv 0) pa_nil))) (fun _ _ => rfl)))) pss_nil)
      (pss_cons (ps_set (i := 3) scPot.nd rfl (.inl rfl) (pe_op op_mul (pe_op op_mod (pe_callB call_abs (by rfl) T.abs (by decide +kernel) (pa_cons (pv 2) pa_nil)) (pe_op op_powW (pe_op op_pow pe_int pe_int) pe_int))
          (pe_callTy call_int1 (by rfl) T.int (by decide +kernel) (pa_cons (pe_cmpR op_ge (pe_callB call_abs (by rfl) T.abs (by decide +kernel) (pa_cons (pv 2) pa_nil)) (pe_op op_pow pe_int pe_int) (nomark _)) pa_nil))))
      (pss_one (ps_ret (pe_lst (pa_cons (pv 3) (pa_cons (pe_op op_mod (pe_op op_mul (pe_op op_add (pe_op op_add (pe_op op_mod (pv 2) pe_int) (pe_op op_mul (pe_op op_mul pe_int (pv 1)) (pv 1))) pe_int) pe_int) pe_int) pa_nil))))))), ?_⟩
    refine ⟨fun σ' H' => H' = H ∧ ∃ c : Int, σ' = [some (.ref a), some (.int k), some (.int c), none], ?_, ?_⟩
    · refine ⟨_, rfl, a, _, rfl, .inl hS, _, _, rfl, rfl, _, rfl, iteD2 (fun h0 => ?_) (fun h0 => ?_)⟩
      · have h0' : 0 < ((ns.map V.int).length : Int) := h0
        obtain ⟨z, _, ez⟩ := ints_at ns (i := k % ((ns.map V.int).length : Int)) (Int.emod_nonneg _ (by omega)) (by rw [List.length_map] at h0' ⊢; exact Int.emod_lt_of_pos _ h0')
        exact ⟨_, rfl, _, rfl, _, rfl, a, _, rfl, .inl hS, _, _, rfl, rfl, h0', a, _, _, _, rfl, rfl, hS, ez, rfl, z, rfl⟩
      · exact ⟨rfl, _, rfl⟩
    · rintro σ H' ⟨rfl, c, rfl⟩
      have ppos : (0 : Int) < ((10 : Int) ^ (60 : Int).toNat) ^ (16 : Int).toNat := by decide +kernel
      have bit : ∀ b : Bool, 0 ≤ (if b then (1 : Int) else 0) ∧ (if b then (1 : Int) else 0) < 2 ^ 64 := fun b => by cases b <;> decide
      refine ⟨_, rfl, _, rfl, _, _, rfl, rfl, ⟨by decide, by decide, by decide⟩, _, _, rfl, rfl, cpow60, _, _, rfl, rfl, ppos, ?_⟩
      refine ⟨_, rfl, _, rfl, _, _, rfl, rfl, ⟨by decide, by decide, by decide⟩, _, _, rfl, rfl, .inr ⟨_, rfl, ?_⟩⟩
      refine ⟨_, _, rfl, rfl, .inr ⟨Int.lt_of_lt_of_le (by decide) (bit _).1, (bit _).2⟩, ?_⟩
      refine ⟨_, rfl, _, rfl, _, _, rfl, rfl, (by show (0 : Int) < 2147483629; decide), _, rfl, _, _, rfl, rfl, .inl ⟨by decide, by decide⟩, _, rfl, _, _, rfl, rfl, .inr ⟨by omega, by omega⟩, _, _, rfl, rfl, _, _, rfl, rfl, _, _, rfl, rfl, .inr ⟨by decide, by decide⟩, _, _, rfl, rfl, (by show (0 : Int) < 2147483647; decide),
        (by show 2 ≤ sizeLine; exact small100 (by decide)), fun p np => ?_⟩
      exact q _ p (same_upd np) np ⟨_, _, upd_same, Int.mul_nonneg (Int.emod_nonneg _ (by omega)) (bit _).1, Int.emod_nonneg _ (by decide), Int.emod_lt_of_pos _ (by decide)⟩
end
end K43

namespace K43
open PySem PySem.Spec PyProof.Rows L2
section
variable {P : Program} {w : World} {K : PySem.W.Frag} {mg : Str → Option Value} {base : Heap}
theorem ints_get {ns : List Int} {i : Nat} {x : V} (h : (ns.map V.int)[i]? = some x) : ∃ z : Int, x = .int z := by
  obtain ⟨z, _, e⟩ := List.mem_map.mp (List.mem_of_getElem? h)
  exact ⟨z, e.symm⟩
theorem behind_ix {r : Int} (h0 : 0 ≤ r) (h1 : r < 3) : ∃ z : Int, atI [V.int 2, V.int 10, V.int ((10 : Int) ^ (60 : Int).toNat)] r = some (.int z) ∧ 0 < z := by
  have h : r = (0 : Nat) ∨ r = (1 : Nat) ∨ r = (2 : Nat) := by omega
  rcases h with rfl | rfl | rfl
  · exact ⟨_, atI_nat rfl, by decide⟩
  · exact ⟨_, atI_nat rfl, by decide⟩
  · exact ⟨_, atI_nat rfl, by decide +kernel⟩
theorem dec_eq {z : Str} {a b : Int} (h : z = "f" ↔ a ≤ b) : V.bl (decide (V.str z = V.str "f")) = V.bl (decide (a ≤ b)) := by
  by_cases e : z = "f"
  · rw [decide_eq_true (h.mp e), decide_eq_true (congrArg V.str e)]
  · rw [decide_eq_false (fun q => e (h.mpr q)), decide_eq_false (fun q => e (V.str.inj q))]
theorem ok_law {f fR fO fL fP fS fE fW fN fT fH fC fM fG fB : Addr} {fd fdR fdO fdL fdP fdS fdE fdW fdN fdT fdH fdC fdM fdG fdB : FuncData} (F : Fun K "law" "law" sLaw f fd)
    (FR : Fun K "row_beat" "row_beat" sRow fR fdR) (bR : Binds K fdR ["n"] []) (gR : mg "row_beat" = some (.ref fR))
    (FO : Fun K "ones" "ones" sOnes fO fdO) (bO : Binds K fdO ["number"] []) (gO : mg "ones" = some (.ref fO))
    (FL : Fun K "levels" "levels" sLev fL fdL) (bL : Binds K fdL ["n"] []) (gL : mg "levels" = some (.ref fL))
    (FP : Fun K "part_with" "part_with" sPart fP fdP) (bP : Binds K fdP ["begin", "end", "x"] []) (gP : mg "part_with" = some (.ref fP))
    (FS : Fun K "stretch_state" "stretch_state" sStr fS fdS) (bS : Binds K fdS ["begin", "end", "side", "gone", "first", "x"] []) (gS : mg "stretch_state" = some (.ref fS))
    (FE : Fun K "end_state" "end_state" sEnd fE fdE) (bE : Binds K fdE ["h", "gone", "first"] []) (gE : mg "end_state" = some (.ref fE))
    (FW : Fun K "wave_state" "wave_state" sWave fW fdW) (bW : Binds K fdW ["h", "gone", "far", "away", "back"] []) (gW : mg "wave_state" = some (.ref fW))
    (FB : Fun K "seen" "seen" sSeen fB fdB) (bB : Binds K fdB ["n", "x", "t"] []) (gB : mg "seen" = some (.ref fB))
    (FT : Fun K "_law_take" "_law_take" sTake fT fdT) (bT : Binds K fdT ["_law_pot_here", "_law_many_here"] []) (gT : mg "_law_take" = some (.ref fT))
    (FN : Fun K "_law_number" "_law_number" sNum fN fdN) (bN : Binds K fdN ["_law_pot_here", "_law_most"] []) (gN : mg "_law_number" = some (.ref fN))
    (FH : Fun K "_law_halves" "_law_halves" sHal fH fdH) (bH : Binds K fdH ["_law_pot_here", "_law_many_here"] []) (gH : mg "_law_halves" = some (.ref fH))
    (FC : Fun K "_law_spot" "_law_spot" sSpot fC fdC) (bC : Binds K fdC ["_law_pot_here", "_law_many_here"] []) (gC : mg "_law_spot" = some (.ref fC))
    (FM : Fun K "_law_many" "_law_many" sMany fM fdM) (bM : Binds K fdM ["_law_pot_here", "_law_great"] []) (gM : mg "_law_many" = some (.ref fM))
    (FG : Fun K "_law_pot" "_law_pot" sPot fG fdG) (bG : Binds K fdG ["_law_script", "_law_k"] []) (gG : mg "_law_pot" = some (.ref fG)) (T : Txt K mg) :
    FnOk P w K mg base CX0 4 f fd ["_law_script"] (spLaw K) := by
  have GR : FnOk P w K mg base CX0 3 fR fdR ["n"] spRow := (ok_row FR FO bO gO T).mono (by decide)
  have GB : FnOk P w K mg base CX0 3 fB fdB ["n", "x", "t"] spSeen := ok_seen FB FR bR gR FO bO gO FL bL gL FP bP gP FS bS gS FE bE gE FW bW gW T
  have GT : FnOk P w K mg base CX0 3 fT fdT ["_law_pot_here", "_law_many_here"] spTake := (ok_take FT).mono (by decide)
  have GN : FnOk P w K mg base CX0 3 fN fdN ["_law_pot_here", "_law_most"] spNum := (ok_num FN FT bT gT T).mono (by decide)
  have GC : FnOk P w K mg base CX0 3 fC fdC ["_law_pot_here", "_law_many_here"] spSpot := ok_spot FC FT bT gT FN bN gN FH bH gH T
  have GM : FnOk P w K mg base CX0 3 fM fdM ["_law_pot_here", "_law_great"] spMany := ok_many FM FT bT gT FN bN gN T
  have GG : FnOk P w K mg base CX0 3 fG fdG ["_law_script", "_law_k"] (spPot K) := (ok_pot FG T).mono (by decide)
  refine F.ok scLaw (fun vs H Q E h => ?_) (fun cdv A outer s H vs Q E hr h => ?_)
  · obtain ⟨a, ns, rfl, _⟩ := h
    rfl
  · obtain ⟨a, ns, rfl, hS, hlen, q⟩ := h
    refine ⟨_, pss_cons (ps_for PassesOwn.never rfl
        (pi_range1 rfl T.range (pa_cons (pe_op op_add (pe_callB call_len_seq (by rfl) T.len PySem.boot_len (pa_cons (pe_slice sl_list (pv 0) po_none (po_some pe_int)) pa_nil)) pe_int) pa_nil)) (pg_name (i := 1) scLaw.nd rfl (.inl rfl))
        (pss_cons (ps_set (i := 2) scLaw.nd rfl (.inl rfl) (pe_call GG hr (by rfl) gG FG.kp bG .nil pass0 (pa_cons (pv 0) (pa_cons (pv 1) pa_nil))))
        (pss_cons (ps_set (i := 3) scLaw.nd rfl (.inl rfl) (pe_call GM hr (by rfl) gM FM.kp bM .nil pass0 (pa_cons (pv 2) (pa_cons (pe_cmpR op_lt (pv 1) pe_int (nomark _)) pa_nil))))
        (pss_cons (ps_set (i := 4) scLaw.nd rfl (.inl rfl) (pe_call GR hr (by rfl) gR FR.kp bR .nil pass0 (pa_cons (pv 3) pa_nil)))
        (pss_cons (ps_for PassesOwn.never rfl
            (pi_list (pe_lst (pa_cons pe_int (pa_cons (pe_op op_sub (pv 3) pe_int) (pa_cons (pe_op op_fdiv (pv 3) pe_int)
              (pa_cons (pe_call GN hr (by rfl) gN FN.kp bN .nil pass0 (pa_cons (pv 2) (pa_cons (pv 3) pa_nil))) (pa_cons (pe_call GN hr (by rfl) gN FN.kp bN .nil pass0 (pa_cons (pv 2) (pa_cons (pv 3) pa_nil))) pa_nil))))))) (pg_name (i := 5) scLaw.nd rfl (.inl rfl))
            (pss_cons (ps_set (i := 6) scLaw.nd rfl (.inl rfl) (pe_op op_add (pv 4) (pe_call GN hr (by rfl) gN FN.kp bN .nil pass0 (pa_cons (pv 2) (pa_cons
                (pe_ix ix_list (pe_lst (pa_cons pe_int (pa_cons pe_int (pa_cons (pe_op op_pow pe_int pe_int) pa_nil)))) (pe_call GT hr (by rfl) gT FT.kp bT .nil pass0 (pa_cons (pv 2) (pa_cons pe_int pa_nil))) (fun _ _ => rfl)) pa_nil)))))
            (pss_one (ps_if (PW.pt (pw_or (pt_cmpR op_ne (pe_call GB hr (by rfl) gB FB.kp bB .nil pass0 (pa_cons (pv 3) (pa_cons (pv 5) (pa_cons (pv 4) pa_nil)))) pe_str (nomark _))
                (pw_or (pt_cmpR op_eq (pe_call GB hr (by rfl) gB FB.kp bB .nil pass0 (pa_cons (pv 3) (pa_cons (pv 5) (pa_cons (pe_op op_sub (pv 4) pe_int) pa_nil)))) pe_str (nomark _))
                (pw_or1 (pt_cmpR op_ne (pe_call GB hr (by rfl) gB FB.kp bB .nil pass0 (pa_cons (pv 3) (pa_cons (pv 5) (pa_cons (pv 6) pa_nil)))) pe_str (nomark _))))))
              (pss_one (ps_ret pe_bl)) pss_nil))))
        (pss_one (ps_for PassesOwn.never rfl (pi_range1 rfl T.range (pa_cons pe_int pa_nil)) (pg_name (i := 7) scLaw.nd rfl (.inl rfl))
            (pss_cons (ps_asg (pe_call GC hr (by rfl) gC FC.kp bC .nil pass0 (pa_cons (pv 2) (pa_cons (pv 3) pa_nil))) (pg_tup rfl (pgs_cons (pg_name (i := 5) scLaw.nd rfl (.inl rfl)) (pgs_cons (pg_name (i := 8) scLaw.nd rfl (.inl rfl)) pgs_nil))))
            (pss_one (ps_if (PW.pt (pw_and (pt_chain op_le op_lt pe_int (pv 5) (pv 3))
                (pw_and1 (pt_cmpR op_ne (pe_cmpR op_eq (pe_call GB hr (by rfl) gB FB.kp bB .nil pass0 (pa_cons (pv 3) (pa_cons (pv 5) (pa_cons (pv 8) pa_nil)))) pe_str (nomark _)) (pe_cmpR op_ge (pv 8) (pv 4) (nomark _)) (nomark _)))))
              (pss_one (ps_ret pe_bl)) pss_nil))))))))))
      (pss_one (ps_ret pe_bl)), ?_⟩
    -- range(len(script[:40]) + 1)
    refine ⟨_, rfl, 40, rfl, a, _, rfl, hS, fun d nd => ?_⟩
    have hL : (cutV (ns.map V.int) none (some 40)).length ≤ 63 := by
      have := cutV_length (ns.map V.int) none (some 40)
      rw [List.length_map] at this
      omega
    generalize cutV (ns.map V.int) none (some 40) = cut at hL
    refine ⟨d, _, rfl, .inl (SqL.of upd_same), _, _, rfl, rfl, _, rfl, by omega, by omega, ?_⟩
    refine for_range (n := ((cut.length : Int) + 1).toNat) (fun i σ' H' => ∃ y1 y2 y3 y4 y5 y6 y7 y8 : Option V, σ' = [some (.ref a), y1, y2, y3, y4, y5, y6, y7, y8] ∧ Same H H')
      ⟨none, none, none, none, none, none, none, none, rfl, same_upd nd⟩ ?_ ?_
    · rintro i σ H0 hi ⟨y1, y2, y3, y4, y5, y6, y7, y8, rfl, sm0⟩
      -- pot, many, fire
      refine ⟨_, rfl, _, rfl, a, ns, _, rfl, sm0.seq hS, by omega, by omega, by omega, fun H1 p sm1 np hp1 => ?_⟩
      refine ⟨_, rfl, _, rfl, _, _, rfl, rfl, p, _, rfl, hp1, fun n H2 hn hn2 k2 hp2 => ?_⟩
      refine ⟨_, rfl, n, rfl, fun H3 sm3 => ?_⟩
      have hp3 : PotAt H3 p := hp2.at sm3
      have k13 : Kept p H1 H3 := k2.trans (Kept.of sm3)
      have back : ∀ {H' : Hp}, Kept p H3 H' → Same H H' := fun k => sm0.trans (Kept.same sm1 np (k13.trans k))
      -- the hands
      refine ⟨_, rfl, _, _, rfl, rfl, _, rfl, _, _, rfl, rfl, ⟨by decide, by decide⟩, _, rfl, _, rfl, p, _, rfl, hp3, by omega, fun r1 H4 r10 r11 k4 hp4 => ?_⟩
      refine ⟨_, rfl, _, rfl, p, _, rfl, hp4, by omega, fun r2 H5 r20 r21 k5 hp5 => ⟨(by show 5 ≤ sizeLine; exact small100 (by decide)), fun l nl => ?_⟩⟩
      have nlp : l ≠ p := by
        obtain ⟨xs, ex⟩ := hp5.there
        exact (ne_of_none ex nl).symm
      have k35 : Kept p H3 H5 := k4.trans k5
      refine ⟨l, rfl, ⟨_, SqL.of upd_same⟩, ?_⟩
      refine for_list (K := K) (a := l) (xs := ([0, n - 1, n / 2, r1, r2] : List Int).map V.int) (fun i σ' H' => ∃ y5 y6 y7 y8 : Option V, σ' = [some (.ref a), _, some (.ref p), some (.int n), some (.int (rowB n)), y5, y6, y7, y8] ∧
          Kept p (upd H5 l (.lst (([0, n - 1, n / 2, r1, r2] : List Int).map V.int))) H' ∧ PotAt H' p)
        ⟨_, _, _, _, rfl, Kept.refl _ _, hp5.new nl⟩ (fun i σ H' _ hh => by
          obtain ⟨_, _, _, _, _, k, _⟩ := hh
          exact SqL.of (k l _ nlp upd_same)) ?_ ?_
      · rintro j v σ H6 hj ⟨y5, y6, y7, y8, rfl, k6, hp6⟩
        obtain ⟨x, rfl⟩ := ints_get hj
        -- behind
        refine ⟨_, rfl, _, rfl, _, _, rfl, rfl, ⟨by decide, by decide, by decide⟩, (by show 3 ≤ sizeLine; exact small100 (by decide)), fun u nu => ?_⟩
        have nup : u ≠ p := by
          obtain ⟨xs, ex⟩ := hp6.there
          exact (ne_of_none ex nu).symm
        refine ⟨_, rfl, p, _, rfl, hp6.new nu, by decide, (lt2000 (by decide) (by decide)).2, fun r3 H7 r30 r31 k7 hp7 => ?_⟩
        obtain ⟨z, ez, z0⟩ := behind_ix r30 r31
        refine ⟨u, _, _, _, rfl, rfl, SqL.of (k7 u _ nup upd_same), ez, ?_⟩
        refine ⟨p, z, rfl, hp7, z0, fun r4 H8 r40 r41 k8 hp8 => ?_⟩
        refine ⟨_, _, rfl, rfl, ?_⟩
        have k68 : Kept p H6 H8 := ((Kept.of (same_upd nu)).trans k7).trans k8
        -- the three questions
        refine ⟨_, rfl, _, rfl, _, rfl, n, x, _, rfl, hn2, (by have := rowB_pos hn; omega), fun H9 z9 sm9 e9 => ?_⟩
        have e9' := e9.mpr (Int.le_refl _)
        refine ⟨rfl, _, rfl, iteNS (congrArg V.str e9') ?_⟩
        refine ⟨_, rfl, _, rfl, _, rfl, _, _, rfl, rfl, n, x, _, rfl, hn2, (by have := rowB_pos hn; omega), fun H10 z10 sm10 e10 => ?_⟩
        have e10' : z10 ≠ "f" := fun e => by have := e10.mp e; omega
        refine ⟨rfl, _, rfl, iteND (fun e => e10' (V.str.inj e)) ?_⟩
        refine ⟨_, rfl, _, rfl, _, rfl, n, x, _, rfl, hn2, (by have := rowB_pos hn; omega), fun H11 z11 sm11 e11 => ?_⟩
        have e11' : z11 = "f" := e11.mpr (by omega)
        refine ⟨rfl, _, rfl, iteNS (congrArg V.str e11') ?_⟩
        have sm := (sm9.trans sm10).trans sm11
        exact ⟨_, _, _, _, rfl, (k6.trans k68).trans (Kept.of sm), hp8.at sm⟩
      · rintro σ H6 ⟨y5, y6, y7, y8, rfl, k6, hp6⟩
        have k36 : Kept p H3 H6 := (k35.trans (Kept.of (same_upd nl))).trans k6
        -- for turn in range(3)
        refine ⟨3, rfl, by decide, by decide, for_range (n := 3) (fun i σ' H' => ∃ y5 y6 y7 y8 : Option V, σ' = [some (.ref a), _, some (.ref p), some (.int n), some (.int (rowB n)), y5, y6, y7, y8] ∧ Kept p H3 H' ∧ PotAt H' p) ⟨_, _, _, _, rfl, k36, hp6⟩ ?_ ?_⟩
        · rintro j σ H7 hj ⟨y5, y6, y7, y8, rfl, k7, hp7⟩
          refine ⟨_, rfl, _, rfl, p, n, rfl, hp7, hn, fun H8 t x b hb k8 hp8 ht => ?_⟩
          refine ⟨t, _, rfl, SqT.of ht, rfl, _, _, rfl, _, _, rfl, rfl, ?_⟩
          refine ⟨_, rfl, _, _, rfl, rfl, _, rfl, iteD2 (fun _ => ?_) (fun _ => ?_)⟩
          · refine ⟨_, rfl, _, _, rfl, rfl, _, rfl, iteD2 (fun _ => ?_) (fun _ => ?_)⟩
            · refine ⟨_, rfl, _, rfl, _, rfl, n, x, b, rfl, hn2, hb, fun H9 z9 sm9 e9 => ?_⟩
              refine ⟨rfl, _, rfl, _, rfl, _, _, rfl, rfl, rfl, _, rfl, iteNS (dec_eq e9) ?_⟩
              exact ⟨_, _, _, _, rfl, (k7.trans k8).trans (Kept.of sm9), hp8.at sm9⟩
            · exact iteF ⟨_, _, _, _, rfl, k7.trans k8, hp8⟩
          · exact ⟨_, rfl, iteF ⟨_, _, _, _, rfl, k7.trans k8, hp8⟩⟩
        · rintro σ H7 ⟨y5, y6, y7, y8, rfl, k7, hp7⟩
          exact ⟨_, _, _, _, _, _, _, _, rfl, back k7⟩
    · rintro σ H' ⟨y1, y2, y3, y4, y5, y6, y7, y8, rfl, sm⟩
      exact q H'
end
end K43

namespace K43
open PySem PySem.Spec PyProof.Rows L2
/-! ### what the top has written -/
theorem all_mk {l : PySem.W.OpenLaw} {w : World} {K : PySem.W.Frag} {h : Heap} {mg : Str → Option Value} {fa aR aL aP f1 f2 f3 f4 f5 f6 f7 f8 f9 f10 f11 f12 f13 f14 f15 : Addr} (X : K.In h) (G : h.Ns mainGlobals mg) (hfa : mg "law" = some (.ref fa))
    {od1 an1 od2 an2 od3 an3 od4 an4 od5 an5 od6 an6 od7 an7 od8 an8 od9 an9 od10 an10 od11 an11 od12 an12 od13 an13 od14 an14 od15 an15 odR odL odP : Option Addr} {sl1 sl2 sl3 sl4 sl5 sl6 sl7 sl8 sl9 sl10 sl11 sl12 sl13 sl14 sl15 slR slL slP : Array (Option Value)} {oc1 kV1 dc1 pm1 cd1 ct1 oc2 kV2 dc2 pm2 cd2 ct2 oc3 kV3 dc3 pm3 cd3 ct3 oc4 kV4 dc4 pm4 cd4 ct4 oc5 kV5 dc5 pm5 cd5 ct5 oc6 kV6 dc6 pm6 cd6 ct6 oc7 kV7 dc7 pm7 cd7 ct7 oc8 kV8 dc8 pm8 cd8 ct8 oc9 kV9 dc9 pm9 cd9 ct9 oc10 kV10 dc10 pm10 cd10 ct10 oc11 kV11 dc11 pm11 cd11 ct11 oc12 kV12 dc12 pm12 cd12 ct12 oc13 kV13 dc13 pm13 cd13 ct13 oc14 kV14 dc14 pm14 cd14 ct14 oc15 kV15 dc15 pm15 cd15 ct15 : Value} {t1 t2 t3 : Tok} {tR0 tR1 tR2 tR3 tL0 tL1 tL2 tL3 tP0 tP1 tP2 tP3 : Tok} {nR nL nP : Nat}
    (a1 : PySem.W.nsIn K mainGlobals "ones" = some (some (.ref f1))) (l1 : K.lookup f1 = some ⟨oc1, od1, .func (PySem.W.fnOf "ones" "ones" (defArgs sOnes) (defBody sOnes) (defScope sOnes) .none kV1 dc1 pm1 an1 cd1 ct1), sl1⟩) (c1 : PySem.W.codeIn K cd1 "ones" = true) (k1 : PySem.W.keepIn K (.ref f1) = true)
    (a2 : PySem.W.nsIn K mainGlobals "row_beat" = some (some (.ref f2))) (l2 : K.lookup f2 = some ⟨oc2, od2, .func (PySem.W.fnOf "row_beat" "row_beat" (defArgs sRow) (defBody sRow) (defScope sRow) .none kV2 dc2 pm2 an2 cd2 ct2), sl2⟩) (c2 : PySem.W.codeIn K cd2 "row_beat" = true) (k2 : PySem.W.keepIn K (.ref f2) = true)
    (a3 : PySem.W.nsIn K mainGlobals "levels" = some (some (.ref f3))) (l3 : K.lookup f3 = some ⟨oc3, od3, .func (PySem.W.fnOf "levels" "levels" (defArgs sLev) (defBody sLev) (defScope sLev) .none kV3 dc3 pm3 an3 cd3 ct3), sl3⟩) (c3 : PySem.W.codeIn K cd3 "levels" = true) (k3 : PySem.W.keepIn K (.ref f3) = true)
    (a4 : PySem.W.nsIn K mainGlobals "part_with" = some (some (.ref f4))) (l4 : K.lookup f4 = some ⟨oc4, od4, .func (PySem.W.fnOf "part_with" "part_with" (defArgs sPart) (defBody sPart) (defScope sPart) .none kV4 dc4 pm4 an4 cd4 ct4), sl4⟩) (c4 : PySem.W.codeIn K cd4 "part_with" = true) (k4 : PySem.W.keepIn K (.ref f4) = true)
    (a5 : PySem.W.nsIn K mainGlobals "wave_state" = some (some (.ref f5))) (l5 : K.lookup f5 = some ⟨oc5, od5, .func (PySem.W.fnOf "wave_state" "wave_state" (defArgs sWave) (defBody sWave) (defScope sWave) .none kV5 dc5 pm5 an5 cd5 ct5), sl5⟩) (c5 : PySem.W.codeIn K cd5 "wave_state" = true) (k5 : PySem.W.keepIn K (.ref f5) = true)
    (a6 : PySem.W.nsIn K mainGlobals "end_state" = some (some (.ref f6))) (l6 : K.lookup f6 = some ⟨oc6, od6, .func (PySem.W.fnOf "end_state" "end_state" (defArgs sEnd) (defBody sEnd) (defScope sEnd) .none kV6 dc6 pm6 an6 cd6 ct6), sl6⟩) (c6 : PySem.W.codeIn K cd6 "end_state" = true) (k6 : PySem.W.keepIn K (.ref f6) = true)
    (a7 : PySem.W.nsIn K mainGlobals "stretch_state" = some (some (.ref f7))) (l7 : K.lookup f7 = some ⟨oc7, od7, .func (PySem.W.fnOf "stretch_state" "stretch_state" (defArgs sStr) (defBody sStr) (defScope sStr) .none kV7 dc7 pm7 an7 cd7 ct7), sl7⟩) (c7 : PySem.W.codeIn K cd7 "stretch_state" = true) (k7 : PySem.W.keepIn K (.ref f7) = true)
    (a8 : PySem.W.nsIn K mainGlobals "seen" = some (some (.ref f8))) (l8 : K.lookup f8 = some ⟨oc8, od8, .func (PySem.W.fnOf "seen" "seen" (defArgs sSeen) (defBody sSeen) (defScope sSeen) .none kV8 dc8 pm8 an8 cd8 ct8), sl8⟩) (c8 : PySem.W.codeIn K cd8 "seen" = true) (k8 : PySem.W.keepIn K (.ref f8) = true)
    (a9 : PySem.W.nsIn K mainGlobals "_law_pot" = some (some (.ref f9))) (l9 : K.lookup f9 = some ⟨oc9, od9, .func (PySem.W.fnOf "_law_pot" "_law_pot" (defArgs sPot) (defBody sPot) (defScope sPot) .none kV9 dc9 pm9 an9 cd9 ct9), sl9⟩) (c9 : PySem.W.codeIn K cd9 "_law_pot" = true) (k9 : PySem.W.keepIn K (.ref f9) = true)
    (a10 : PySem.W.nsIn K mainGlobals "_law_take" = some (some (.ref f10))) (l10 : K.lookup f10 = some ⟨oc10, od10, .func (PySem.W.fnOf "_law_take" "_law_take" (defArgs sTake) (defBody sTake) (defScope sTake) .none kV10 dc10 pm10 an10 cd10 ct10), sl10⟩) (c10 : PySem.W.codeIn K cd10 "_law_take" = true) (k10 : PySem.W.keepIn K (.ref f10) = true)
    (a11 : PySem.W.nsIn K mainGlobals "_law_number" = some (some (.ref f11))) (l11 : K.lookup f11 = some ⟨oc11, od11, .func (PySem.W.fnOf "_law_number" "_law_number" (defArgs sNum) (defBody sNum) (defScope sNum) .none kV11 dc11 pm11 an11 cd11 ct11), sl11⟩) (c11 : PySem.W.codeIn K cd11 "_law_number" = true) (k11 : PySem.W.keepIn K (.ref f11) = true)
    (a12 : PySem.W.nsIn K mainGlobals "_law_halves" = some (some (.ref f12))) (l12 : K.lookup f12 = some ⟨oc12, od12, .func (PySem.W.fnOf "_law_halves" "_law_halves" (defArgs sHal) (defBody sHal) (defScope sHal) .none kV12 dc12 pm12 an12 cd12 ct12), sl12⟩) (c12 : PySem.W.codeIn K cd12 "_law_halves" = true) (k12 : PySem.W.keepIn K (.ref f12) = true)
    (a13 : PySem.W.nsIn K mainGlobals "_law_spot" = some (some (.ref f13))) (l13 : K.lookup f13 = some ⟨oc13, od13, .func (PySem.W.fnOf "_law_spot" "_law_spot" (defArgs sSpot) (defBody sSpot) (defScope sSpot) .none kV13 dc13 pm13 an13 cd13 ct13), sl13⟩) (c13 : PySem.W.codeIn K cd13 "_law_spot" = true) (k13 : PySem.W.keepIn K (.ref f13) = true)
    (a14 : PySem.W.nsIn K mainGlobals "_law_many" = some (some (.ref f14))) (l14 : K.lookup f14 = some ⟨oc14, od14, .func (PySem.W.fnOf "_law_many" "_law_many" (defArgs sMany) (defBody sMany) (defScope sMany) .none kV14 dc14 pm14 an14 cd14 ct14), sl14⟩) (c14 : PySem.W.codeIn K cd14 "_law_many" = true) (k14 : PySem.W.keepIn K (.ref f14) = true)
    (a15 : PySem.W.nsIn K mainGlobals "law" = some (some (.ref f15))) (l15 : K.lookup f15 = some ⟨oc15, od15, .func (PySem.W.fnOf "law" "law" (defArgs sLaw) (defBody sLaw) (defScope sLaw) .none kV15 dc15 pm15 an15 cd15 ct15), sl15⟩) (c15 : PySem.W.codeIn K cd15 "law" = true) (k15 : PySem.W.keepIn K (.ref f15) = true)
    (z0 : PySem.W.nsIn K mainGlobals "divmod" = some none)
    (z1 : PySem.W.nsIn K mainGlobals "tuple" = some none)
    (z2 : PySem.W.nsIn K mainGlobals "min" = some none)
    (z3 : PySem.W.nsIn K mainGlobals "max" = some none)
    (z4 : PySem.W.nsIn K mainGlobals "len" = some none)
    (z5 : PySem.W.nsIn K mainGlobals "abs" = some none)
    (z6 : PySem.W.nsIn K mainGlobals "int" = some none)
    (z7 : PySem.W.nsIn K mainGlobals "range" = some none)
    (x1 : PySem.W.nsIn K mainGlobals "LEAST_CUT" = some (some (.int 3 t1))) (x2 : PySem.W.nsIn K mainGlobals "QUIET" = some (some (.str "o" t2))) (x3 : PySem.W.nsIn K mainGlobals "FIRE" = some (some (.str "f" t3)))
    (yR : PySem.W.nsIn K mainGlobals "RIGHT" = some (some (.ref aR))) (vR : K.lookup aR = some ⟨.type "tuple", odR, .seq #[.str "r" tR0, .str "ra" tR1, .str "rb" tR2, .str "rc" tR3] nR, slR⟩)
    (yL : PySem.W.nsIn K mainGlobals "LEFT" = some (some (.ref aL))) (vL : K.lookup aL = some ⟨.type "tuple", odL, .seq #[.str "l" tL0, .str "la" tL1, .str "lb" tL2, .str "lc" tL3] nL, slL⟩)
    (yP : PySem.W.nsIn K mainGlobals "POSTS" = some (some (.ref aP))) (vP : K.lookup aP = some ⟨.type "tuple", odP, .seq #[.str "g" tP0, .str "ga" tP1, .str "gb" tP2, .str "p" tP3] nP, slP⟩)
    : ∃ fd : FuncData, (∀ (s : Shared) (v : Value), BindsTo s fd ⟨[v], []⟩ [("_law_script", v)]) ∧ ∀ base : Heap, K.In base → base.Ns mainGlobals mg → FnOk l.prog w K mg base CX0 4 fa fd ["_law_script"] (spLaw K) := by
  have e := hfa.symm.trans (PySem.W.mg_of X G a15)
  cases e
  have F1 := fun_mk (st := sOnes) l1 c1 k1
  have F2 := fun_mk (st := sRow) l2 c2 k2
  have F3 := fun_mk (st := sLev) l3 c3 k3
  have F4 := fun_mk (st := sPart) l4 c4 k4
  have F5 := fun_mk (st := sWave) l5 c5 k5
  have F6 := fun_mk (st := sEnd) l6 c6 k6
  have F7 := fun_mk (st := sStr) l7 c7 k7
  have F8 := fun_mk (st := sSeen) l8 c8 k8
  have F9 := fun_mk (st := sPot) l9 c9 k9
  have F10 := fun_mk (st := sTake) l10 c10 k10
  have F11 := fun_mk (st := sNum) l11 c11 k11
  have F12 := fun_mk (st := sHal) l12 c12 k12
  have F13 := fun_mk (st := sSpot) l13 c13 k13
  have F14 := fun_mk (st := sMany) l14 c14 k14
  have F15 := fun_mk (st := sLaw) l15 c15 k15
  have b1 := F1.binds (ps := ["number"]) fun _ _ _ _ _ _ us hl => match us, hl with | [_], _ => rfl
  have g1 := PySem.W.mg_of X G a1
  have b2 := F2.binds (ps := ["n"]) fun _ _ _ _ _ _ us hl => match us, hl with | [_], _ => rfl
  have g2 := PySem.W.mg_of X G a2
  have b3 := F3.binds (ps := ["n"]) fun _ _ _ _ _ _ us hl => match us, hl with | [_], _ => rfl
  have g3 := PySem.W.mg_of X G a3
  have b4 := F4.binds (ps := ["begin", "end", "x"]) fun _ _ _ _ _ _ us hl => match us, hl with | [_, _, _], _ => rfl
  have g4 := PySem.W.mg_of X G a4
  have b5 := F5.binds (ps := ["h", "gone", "far", "away", "back"]) fun _ _ _ _ _ _ us hl => match us, hl with | [_, _, _, _, _], _ => rfl
  have g5 := PySem.W.mg_of X G a5
  have b6 := F6.binds (ps := ["h", "gone", "first"]) fun _ _ _ _ _ _ us hl => match us, hl with | [_, _, _], _ => rfl
  have g6 := PySem.W.mg_of X G a6
  have b7 := F7.binds (ps := ["begin", "end", "side", "gone", "first", "x"]) fun _ _ _ _ _ _ us hl => match us, hl with | [_, _, _, _, _, _], _ => rfl
  have g7 := PySem.W.mg_of X G a7
  have b8 := F8.binds (ps := ["n", "x", "t"]) fun _ _ _ _ _ _ us hl => match us, hl with | [_, _, _], _ => rfl
  have g8 := PySem.W.mg_of X G a8
  have b9 := F9.binds (ps := ["_law_script", "_law_k"]) fun _ _ _ _ _ _ us hl => match us, hl with | [_, _], _ => rfl
  have g9 := PySem.W.mg_of X G a9
  have b10 := F10.binds (ps := ["_law_pot_here", "_law_many_here"]) fun _ _ _ _ _ _ us hl => match us, hl with | [_, _], _ => rfl
  have g10 := PySem.W.mg_of X G a10
  have b11 := F11.binds (ps := ["_law_pot_here", "_law_most"]) fun _ _ _ _ _ _ us hl => match us, hl with | [_, _], _ => rfl
  have g11 := PySem.W.mg_of X G a11
  have b12 := F12.binds (ps := ["_law_pot_here", "_law_many_here"]) fun _ _ _ _ _ _ us hl => match us, hl with | [_, _], _ => rfl
  have g12 := PySem.W.mg_of X G a12
  have b13 := F13.binds (ps := ["_law_pot_here", "_law_many_here"]) fun _ _ _ _ _ _ us hl => match us, hl with | [_, _], _ => rfl
  have g13 := PySem.W.mg_of X G a13
  have b14 := F14.binds (ps := ["_law_pot_here", "_law_great"]) fun _ _ _ _ _ _ us hl => match us, hl with | [_, _], _ => rfl
  have g14 := PySem.W.mg_of X G a14
  have T : Txt K mg := ⟨PySem.W.mg_none_of X G z0, PySem.W.mg_none_of X G z1, PySem.W.mg_none_of X G z2, PySem.W.mg_none_of X G z3, PySem.W.mg_none_of X G z4, PySem.W.mg_none_of X G z5, PySem.W.mg_none_of X G z6, PySem.W.mg_none_of X G z7, ⟨_, PySem.W.mg_of X G x1⟩, ⟨_, PySem.W.mg_of X G x2⟩, ⟨_, PySem.W.mg_of X G x3⟩,
    ⟨aR, PySem.W.mg_of X G yR, ⟨_, _, _, vR, rfl, rfl, small100 (n := 4) (by decide), .cons ⟨_, rfl⟩ (.cons ⟨_, rfl⟩ (.cons ⟨_, rfl⟩ (.cons ⟨_, rfl⟩ .nil)))⟩⟩,
    ⟨aL, PySem.W.mg_of X G yL, ⟨_, _, _, vL, rfl, rfl, small100 (n := 4) (by decide), .cons ⟨_, rfl⟩ (.cons ⟨_, rfl⟩ (.cons ⟨_, rfl⟩ (.cons ⟨_, rfl⟩ .nil)))⟩⟩,
    ⟨aP, PySem.W.mg_of X G yP, ⟨_, _, _, vP, rfl, rfl, small100 (n := 4) (by decide), .cons ⟨_, rfl⟩ (.cons ⟨_, rfl⟩ (.cons ⟨_, rfl⟩ (.cons ⟨_, rfl⟩ .nil)))⟩⟩⟩
  exact ⟨PySem.W.fnOf "law" "law" (defArgs sLaw) (defBody sLaw) (defScope sLaw) .none kV15 dc15 pm15 an15 cd15 ct15, fun s v => .of_eq rfl, fun base _ _ => ok_law F15 F2 b2 g2 F1 b1 g1 F3 b3 g3 F4 b4 g4 F7 b7 g7 F6 b6 g6 F5 b5 g5 F8 b8 g8 F10 b10 g10 F11 b11 g11 F12 b12 g12 F13 b13 g13 F14 b14 g14 F9 b9 g9 T⟩
end K43
open PySem PySem.W PyProof.Rows
set_option maxHeartbeats 0 in
theorem PySem.Challenge.cw_firetogether_k43_whole_fire_together_holds : PySem.Challenge.rw_firetogether_k43_whole_fire_together.Holds := by
  w_on; o_law; k_head; (case hw => w_witness2)
  k_fill
  refine L2.walk_of (l := PySem.Challenge.rw_firetogether_k43_whole_fire_together) (n := 63) (k := 4) (x := "_law_script") (CX := fun _ => L2.CX0) (sp := fun w => K43.spLaw _) rfl (by decide) rfl ⟨rfl, by decide, by decide⟩ (fun w h Y => PySem.W.kIn_of Y) ?F (fun _ _ a ns hl _ hS => ⟨a, ns, rfl, hS, hl, fun _ => rfl⟩) (fun _ _ _ _ _ h => h)
  case F =>
    intro w mg fa h KX G hmg
    refine' K43.all_mk KX G hmg ?a1 ?l1 ?c1 ?k1 ?a2 ?l2 ?c2 ?k2 ?a3 ?l3 ?c3 ?k3 ?a4 ?l4 ?c4 ?k4 ?a5 ?l5 ?c5 ?k5 ?a6 ?l6 ?c6 ?k6 ?a7 ?l7 ?c7 ?k7 ?a8 ?l8 ?c8 ?k8 ?a9 ?l9 ?c9 ?k9 ?a10 ?l10 ?c10 ?k10 ?a11 ?l11 ?c11 ?k11 ?a12 ?l12 ?c12 ?k12 ?a13 ?l13 ?c13 ?k13 ?a14 ?l14 ?c14 ?k14 ?a15 ?l15 ?c15 ?k15 ?z0 ?z1 ?z2 ?z3 ?z4 ?z5 ?z6 ?z7 ?x1 ?x2 ?x3 ?yR ?vR ?yL ?vL ?yP ?vP
    (case a1 => k_is); (case l1 => k_is); (case c1 => k_is); (case k1 => k_is); (case a2 => k_is); (case l2 => k_is); (case c2 => k_is); (case k2 => k_is)
    (case a3 => k_is); (case l3 => k_is); (case c3 => k_is); (case k3 => k_is); (case a4 => k_is); (case l4 => k_is); (case c4 => k_is); (case k4 => k_is)
    (case a5 => k_is); (case l5 => k_is); (case c5 => k_is); (case k5 => k_is); (case a6 => k_is); (case l6 => k_is); (case c6 => k_is); (case k6 => k_is)
    (case a7 => k_is); (case l7 => k_is); (case c7 => k_is); (case k7 => k_is); (case a8 => k_is); (case l8 => k_is); (case c8 => k_is); (case k8 => k_is)
    (case a9 => k_is); (case l9 => k_is); (case c9 => k_is); (case k9 => k_is); (case a10 => k_is); (case l10 => k_is); (case c10 => k_is); (case k10 => k_is)
    (case a11 => k_is); (case l11 => k_is); (case c11 => k_is); (case k11 => k_is); (case a12 => k_is); (case l12 => k_is); (case c12 => k_is); (case k12 => k_is)
    (case a13 => k_is); (case l13 => k_is); (case c13 => k_is); (case k13 => k_is); (case a14 => k_is); (case l14 => k_is); (case c14 => k_is); (case k14 => k_is)
    (case a15 => k_is); (case l15 => k_is); (case c15 => k_is); (case k15 => k_is); (case z0 => k_is); (case z1 => k_is); (case z2 => k_is); (case z3 => k_is)
    (case z4 => k_is); (case z5 => k_is); (case z6 => k_is); (case z7 => k_is); (case x1 => k_is); (case x2 => k_is); (case x3 => k_is); (case yR => k_is)
    (case vR => k_is); (case yL => k_is); (case vL => k_is); (case yP => k_is); (case vP => k_is)
