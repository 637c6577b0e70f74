import PyProof.Rows.All
import Wide.All
import OpenK.AllK
import Wide.FinOn
import PySem.Challenge.RW_rr0013_01

open PySem PySem.W PyProof.Rows PySem.Spec PySem.Calls
set_option Elab.async false
set_option maxRecDepth 100000
namespace Mine

set_option maxRecDepth 100000 in
set_option maxHeartbeats 8000000 in
open_top hd for PySem.Challenge.rw_rr0013_01

/-- a text's codes -/
def cpl (x : Str) : List Nat := x.cps.toList
/-- the text of codes -/
def mkS (l : List Nat) : Str := ⟨l.toArray⟩
theorem cpl_T (l : List Nat) : cpl (mkS l) = l := rfl
theorem mkS_L (x : Str) : mkS (cpl x) = x := rfl
theorem cpl_ext {x y : Str} (h : cpl x = cpl y) : x = y := by rw [← mkS_L x, ← mkS_L y, h]
theorem cpl_app (x y : Str) : cpl (x ++ y) = cpl x ++ cpl y := by
  unfold cpl
  rw [PySem.Str.cps_append, Array.toList_append]
theorem cpl_len (x : Str) : (cpl x).length = x.length := by simp [cpl, PySem.Str.length]
theorem mkS_app (a b : List Nat) : mkS (a ++ b) = mkS a ++ mkS b := cpl_ext (by rw [cpl_app]; rfl)
theorem mkS_inj {a b : List Nat} (h : mkS a = mkS b) : a = b := congrArg cpl h

theorem foldl_glue (e : Str) (he : cpl e = []) : ∀ (ws : List Str) (acc : Array Nat),
    (ws.foldl (fun acc p => acc ++ e.cps ++ p.cps) acc).toList = acc.toList ++ ws.flatMap cpl
  | [], acc => by simp
  | w :: ws, acc => by
    have h1 : e.cps = #[] := Array.toList_inj.mp he
    rw [List.foldl_cons, foldl_glue e he ws, List.flatMap_cons, Array.toList_append, Array.toList_append, h1]
    show acc.toList ++ [] ++ cpl w ++ _ = _
    simp
theorem cpl_join (e : Str) (he : cpl e = []) (ws : List Str) : cpl (Txt.join e ws) = ws.flatMap cpl := by
  show ((ws.drop 1).foldl (fun acc p => acc ++ e.cps ++ p.cps) (ws.headD Str.empty).cps).toList = _
  rw [foldl_glue e he]
  cases ws with
  | nil => rfl
  | cons w ws => rfl
theorem mkS_codes (x : Str) : KStt.codes x = (cpl x).map (fun (c : Nat) => (c : Int)) := rfl
theorem cpl_chr (n : Nat) : cpl ⟨#[n]⟩ = [n] := rfl
theorem mkS_one (n : Nat) : mkS [n] = ⟨#[n]⟩ := rfl

theorem sum_le {α : Type} (g : α → Nat) (k : Nat) : ∀ (l : List α), (∀ a ∈ l, g a ≤ k) → (l.map g).sum ≤ k * l.length
  | [], _ => by simp
  | a :: l, h => by
    have h1 := h a List.mem_cons_self
    have h2 := sum_le g k l fun b hb => h b (List.mem_cons_of_mem _ hb)
    simp only [List.map_cons, List.sum_cons, List.length_cons, Nat.mul_add, Nat.mul_one]
    omega
/-- the sign of a figure of base 16 -/
def figc (d : Nat) : Nat := if d < 10 then 48 + d else 87 + d
/-- the figures of n of base 16 ahead of acc -/
def hexD (n : Nat) (acc : List Nat) : List Nat := if h : n = 0 then acc else hexD (n / 16) (n % 16 :: acc)
termination_by n
decreasing_by omega
theorem hexD_zero (acc : List Nat) : hexD 0 acc = acc := by rw [hexD]; simp
theorem hexD_pos {n : Nat} (h : n ≠ 0) (acc : List Nat) : hexD n acc = hexD (n / 16) (n % 16 :: acc) := by rw [hexD]; simp [h]
theorem hexD_lt : ∀ (n : Nat) (acc : List Nat), (∀ d ∈ acc, d < 16) → ∀ d ∈ hexD n acc, d < 16 := by
  intro n
  induction n using Nat.strongRecOn with
  | ind n ih =>
    intro acc h
    by_cases h0 : n = 0
    · subst h0; rw [hexD_zero]; exact h
    · rw [hexD_pos h0]
      refine ih (n / 16) (by omega) _ fun d hd => ?_
      rcases List.mem_cons.mp hd with rfl | hd
      · omega
      · exact h d hd
theorem hexD_val : ∀ (n : Nat) (acc : List Nat), (hexD n acc).foldl (fun v d => v * 16 + d) 0 = acc.foldl (fun v d => v * 16 + d) n := by
  intro n
  induction n using Nat.strongRecOn with
  | ind n ih =>
    intro acc
    by_cases h0 : n = 0
    · subst h0; rw [hexD_zero]
    · rw [hexD_pos h0, ih (n / 16) (by omega), List.foldl_cons]
      congr 1
      omega
theorem hexD_ne : ∀ (n : Nat) (acc : List Nat), acc ≠ [] → hexD n acc ≠ [] := by
  intro n
  induction n using Nat.strongRecOn with
  | ind n ih =>
    intro acc h
    by_cases h0 : n = 0
    · subst h0; rw [hexD_zero]; exact h
    · rw [hexD_pos h0]; exact ih (n / 16) (by omega) _ (by simp)
theorem hexD_len (k : Nat) : ∀ (n : Nat) (acc : List Nat), n < 16 ^ k → (hexD n acc).length ≤ acc.length + k := by
  induction k with
  | zero =>
    intro n acc h
    have : n = 0 := by simp at h; omega
    subst this; rw [hexD_zero]; omega
  | succ k ih =>
    intro n acc h
    by_cases h0 : n = 0
    · subst h0; rw [hexD_zero]; omega
    · rw [hexD_pos h0]
      have h2 := ih (n / 16) (n % 16 :: acc) (by rw [Nat.pow_succ] at h; omega)
      rw [List.length_cons] at h2
      omega
/-- the figures of a code -/
def digsN (n : Nat) : List Nat := hexD (n / 16) [n % 16]
/-- what code_digits gives -/
def hexS (n : Nat) : Str := mkS ((digsN n).map figc)
theorem digsN_lt (n : Nat) : ∀ d ∈ digsN n, d < 16 := hexD_lt _ _ fun d hd => by
  rw [List.mem_singleton.mp hd]; omega
theorem digsN_val (n : Nat) : (digsN n).foldl (fun v d => v * 16 + d) 0 = n := by
  unfold digsN
  rw [hexD_val]
  simp only [List.foldl_cons, List.foldl_nil]
  omega
theorem digsN_ne (n : Nat) : digsN n ≠ [] := hexD_ne _ _ (by simp)
theorem digsN_len {n : Nat} (h : n ≤ 1114111) : (digsN n).length ≤ 6 := by
  have := hexD_len 5 (n / 16) [n % 16] (by omega)
  exact this
theorem fig_item : ∀ d : Nat, d < 16 → Txt.item (Str.ofString "0123456789abcdef") (d : Int) = mkS [figc d] := by
  decide +kernel
theorem fig_item' {i : Int} (h0 : 0 ≤ i) (h1 : i < 16) : Txt.item (Str.ofString "0123456789abcdef") i = mkS [figc i.toNat] := by
  have h := fig_item i.toNat (by omega)
  rwa [Int.toNat_of_nonneg h0] at h
theorem fdiv16 {i : Int} (h0 : 0 ≤ i) : i.fdiv 16 = ((i.toNat / 16 : Nat) : Int) := by
  rw [Int.fdiv_eq_ediv_of_nonneg i (by omega)]
  omega
theorem fmod16 {i : Int} (h0 : 0 ≤ i) : i.fmod 16 = ((i.toNat % 16 : Nat) : Int) := by
  rw [Int.fmod_eq_emod_of_nonneg i (by omega)]
  omega
theorem fig_mod {i : Int} (h0 : 0 ≤ i) : Txt.item (Str.ofString "0123456789abcdef") (i.fmod 16) = mkS (List.map figc [i.toNat % 16]) := by
  rw [fmod16 h0]
  exact fig_item _ (by omega)
theorem mkS_len (l : List Nat) : (mkS l).length = l.length := by simp [mkS, PySem.Str.length]
theorem hexD_ge : ∀ (n : Nat) (acc : List Nat), acc.length ≤ (hexD n acc).length := by
  intro n
  induction n using Nat.strongRecOn with
  | ind n ih =>
    intro acc
    by_cases h0 : n = 0
    · subst h0; rw [hexD_zero]; omega
    · rw [hexD_pos h0]
      have := ih (n / 16) (by omega) (n % 16 :: acc)
      rw [List.length_cons] at this
      omega
/-- the number that figures stand for -/
def hexV (v : Nat) (ds : List Nat) : Nat := ds.foldl (fun v d => v * 16 + d) v
theorem hexV_app (v : Nat) (a b : List Nat) : hexV v (a ++ b) = hexV (hexV v a) b := List.foldl_append
theorem hexV_ge : ∀ (ds : List Nat) (v : Nat), v ≤ hexV v ds
  | [], v => Nat.le_refl v
  | d :: ds, v => Nat.le_trans (by omega : v ≤ v * 16 + d) (hexV_ge ds (v * 16 + d))
theorem find_fig : ∀ d : Nat, d < 16 → Txt.find (Str.ofString "0123456789abcdef") ⟨#[figc d]⟩ = (d : Int) := by
  decide +kernel
/-- one piece of a listing's word: a sign as it stands, or a code's figures -/
inductive Pc where
  | raw (n : Nat)
  | esc (ds : List Nat)
def Pc.text : Pc → List Nat
  | .raw n => [n]
  | .esc ds => 92 :: 120 :: (ds.map figc ++ [92])
def Pc.val : Pc → Nat
  | .raw n => n
  | .esc ds => hexV 0 ds
def Pc.ok : Pc → Prop
  | .raw n => n ≠ 92 ∧ n ≤ 1114111
  | .esc ds => ds ≠ [] ∧ (∀ d ∈ ds, d < 16) ∧ hexV 0 ds ≤ 1114111
def inner (ps : List Pc) : List Nat := ps.flatMap Pc.text
theorem slice_mid (a b c : List Nat) {i j : Int} (hi : i = (a.length : Int)) (hj : j = ((a.length + b.length : Nat) : Int)) : Txt.slice (mkS (a ++ (b ++ c))) (some i) (some j) = mkS b := by
  subst hi; subst hj
  have h := StrLaws.sliceText_nat (mkS (a ++ (b ++ c))) (a := a.length) (b := a.length + b.length) (by omega) (by rw [mkS_len]; simp only [List.length_append]; omega)
  refine Eq.trans h ?_
  refine cpl_ext ?_
  show (((a ++ (b ++ c)).drop a.length).take (a.length + b.length - a.length)) = b
  rw [List.drop_left, Nat.add_sub_cancel_left, List.take_left]
theorem item_mid (a : List Nat) (c : Nat) (b : List Nat) {i : Int} (hi : i = (a.length : Int)) : Txt.item (mkS (a ++ c :: b)) i = ⟨#[c]⟩ := by
  subst hi
  have h1 : seqIndex? (a.length : Int) (mkS (a ++ c :: b)).length = some a.length := by
    unfold seqIndex?
    rw [mkS_len]
    have h2 : ¬ ((a.length : Int) < 0) := by omega
    simp only [if_neg h2, List.length_append, List.length_cons]
    rw [if_pos (by simp; omega)]
    simp
  unfold Txt.item Txt.charAt
  rw [h1]
  show (⟨#[(((a ++ c :: b).toArray)[a.length]?).getD 0]⟩ : Str) = _
  simp
theorem find_mid (a b c : List Nat) {i : Int} (hi : i = (a.length : Int)) (hb : 92 ∉ b) : Txt.find3 (mkS (a ++ (b ++ 92 :: c))) (Str.ofString "\\") i = ((a.length + b.length : Nat) : Int) := by
  subst hi
  have hlen : (mkS (a ++ (b ++ 92 :: c))).length = a.length + b.length + c.length + 1 := by
    rw [mkS_len]; simp only [List.length_append, List.length_cons]; omega
  have hfr : fromIndex (mkS (a ++ (b ++ 92 :: c))).length (a.length : Int) = a.length := by
    unfold fromIndex
    rw [if_neg (by omega), Int.max_eq_right (by omega)]
    omega
  have hat : ∀ v, (mkS (a ++ (b ++ 92 :: c))).cps.getD v 0 = (a ++ (b ++ 92 :: c)).getD v 0 := fun v => by
    show ((a ++ (b ++ 92 :: c)).toArray).getD v 0 = _
    rw [Array.getD_eq_getD_getElem?, List.getElem?_toArray, List.getD_eq_getElem?_getD]
  have hhit : (a ++ (b ++ 92 :: c)).getD (a.length + b.length) 0 = 92 := by
    simp [List.getD]
  have hmiss : ∀ v, a.length ≤ v → v < a.length + b.length → (a ++ (b ++ 92 :: c)).getD v 0 ≠ 92 := by
    intro v h1 h2 h3
    apply hb
    rw [List.getD, List.getElem?_append_right h1, List.getElem?_append_left (by omega)] at h3
    rw [List.getElem?_eq_getElem (by omega), Option.getD_some] at h3
    rw [← h3]
    exact List.getElem_mem _
  have e : Str.ofString "\\" = ⟨#[92]⟩ := rfl
  rw [e]
  rcases StrLaws.find3_spec (mkS (a ++ (b ++ 92 :: c))) 92 (a.length : Int) with ⟨_, hn⟩ | ⟨k, h, hlo, hlt, hc, hn⟩
  · rw [hfr] at hn
    exact absurd ((hat _).trans hhit) (hn (a.length + b.length) (by omega) (by omega))
  · rw [hfr] at hlo hn
    rw [h]
    rw [hat] at hc
    rcases Nat.lt_trichotomy k (a.length + b.length) with h1 | h1 | h1
    · exact absurd hc (hmiss k hlo h1)
    · rw [h1]
    · exact absurd ((hat _).trans hhit) (hn (a.length + b.length) (by omega) h1)
theorem figc_ne (d : Nat) (h : d < 16) : figc d ≠ 92 := by
  unfold figc
  split <;> omega
theorem figs_no92 {ds : List Nat} (h : ∀ d ∈ ds, d < 16) : 92 ∉ ds.map figc := by
  intro hm
  obtain ⟨d, hd, e⟩ := List.mem_map.mp hm
  exact figc_ne d (h d hd) e
theorem inner_split (a : List Pc) (p : Pc) (b : List Pc) : inner (a ++ p :: b) = inner a ++ (p.text ++ inner b) := by
  unfold inner
  rw [List.flatMap_append, List.flatMap_cons]
theorem inner_snoc (a : List Pc) (p : Pc) : inner (a ++ [p]) = inner a ++ p.text := by
  unfold inner
  rw [List.flatMap_append, List.flatMap_cons, List.flatMap_nil, List.append_nil]
/-- what the loop of unquoted_name looks at, at a sign that stands as it is -/
theorem raw_item {ps a b : List Pc} {n : Nat} (e : ps = a ++ .raw n :: b) : Txt.item (mkS (inner ps)) ((inner a).length : Int) = ⟨#[n]⟩ := by
  rw [e, inner_split]
  exact item_mid _ _ _ rfl
theorem esc_item {ps a b : List Pc} {ds : List Nat} (e : ps = a ++ .esc ds :: b) : Txt.item (mkS (inner ps)) ((inner a).length : Int) = ⟨#[92]⟩ := by
  rw [e, inner_split]
  exact item_mid _ _ _ rfl
theorem esc_item1 {ps a b : List Pc} {ds : List Nat} (e : ps = a ++ .esc ds :: b) : Txt.item (mkS (inner ps)) (((inner a).length : Int) + 1) = ⟨#[120]⟩ := by
  rw [e, inner_split]
  have h := item_mid (inner a ++ [92]) 120 (ds.map figc ++ [92] ++ inner b) (i := ((inner a).length : Int) + 1) (by simp)
  rw [← h]
  congr 2
  simp [Pc.text]
theorem esc_find {ps a b : List Pc} {ds : List Nat} (e : ps = a ++ .esc ds :: b) (hd : ∀ d ∈ ds, d < 16) :
    Txt.find3 (mkS (inner ps)) (Str.ofString "\\") (((inner a).length : Int) + 1) = (((inner a).length + 2 + ds.length : Nat) : Int) := by
  rw [e, inner_split]
  have h := find_mid (inner a ++ [92]) (120 :: ds.map figc) (inner b) (i := ((inner a).length : Int) + 1) (by simp) (by
    intro hm
    rcases List.mem_cons.mp hm with h1 | h1
    · cases h1
    · exact figs_no92 hd h1)
  have e1 : inner a ++ ((Pc.esc ds).text ++ inner b) = inner a ++ [92] ++ (120 :: ds.map figc ++ 92 :: inner b) := by simp [Pc.text]
  rw [e1, h]
  simp only [List.length_append, List.length_cons, List.length_nil, List.length_map]
  omega
theorem esc_slice {ps a b : List Pc} {ds : List Nat} (e : ps = a ++ .esc ds :: b) {j : Int} (hj : j = (((inner a).length + 2 + ds.length : Nat) : Int)) :
    Txt.slice (mkS (inner ps)) (some (((inner a).length : Int) + 2)) (some j) = mkS (ds.map figc) := by
  subst hj
  rw [e, inner_split]
  have h := slice_mid (inner a ++ [92, 120]) (ds.map figc) (92 :: inner b) (i := ((inner a).length : Int) + 2) (j := (((inner a).length + 2 + ds.length : Nat) : Int)) (by simp) (by simp)
  rw [← h]
  congr 2
  simp [Pc.text]

theorem clear_C0 : True := by
  w_top off
  k_with_none
  exact True.intro
def Cl (w : World) (f : Addr) (d : Nat) (vs : List Value) (R : Tok → Value) : Prop :=
  ∀ (mean : ExcName → Option Value) (mg mb : Str → Option Value) (news : List (Addr × Obj)) (dp un : Nat) (gd : Option (List Code)) (cn : Str) (cs : Scope) (a : Addr) (ccd : Value) (cl : List (Str × Addr)) (outer : List Env) (A₀ : Around) (base h₀ : Heap) (L : Addr) (m : Str → Option Value) (s : Shared) (Q E : Value → Shared → Prop),
    Below A₀ base outer h₀ → Fr h₀ L s.heap m → (hd.heap_39 w.params).In h₀ → News h₀ L s.heap news →
    Top hd.view_39 (looseW hd.view_39 [Str.ofString "LinkFault"]) mean mg mb h₀ → cs.kind = .function →
    dp + d < recursionLimit → un + 8 * d < cLine →
    (∀ (t : Tok) (h' : Heap) (tk' : Nat), Fr h₀ L h' m → News h₀ L h' news → Q (R t) { s with heap := h', toks := tk' }) →
      wpAny (model PySem.Challenge.rw_rr0013_01.row.prog w) (ktrTop dp un gd cn cs L a ccd cl outer) (call (.ref f) vs) Q E s

section
variable {h₀ h' : Heap} {L : Addr} {m : Str → Option Value} {news : List (Addr × Obj)} {s : Shared} {Q : Value → Shared → Prop} {t : Tok} {tk' : Nat}
theorem ret_S {x y : Str} (hret : ∀ (t : Tok) (h' : Heap) (tk' : Nat), Fr h₀ L h' m → News h₀ L h' news → Q (.str x t) { s with heap := h', toks := tk' }) (F : Fr h₀ L h' m) (N : News h₀ L h' news) (e : y = x) : Q (.str y t) { s with heap := h', toks := tk' } := by
  subst e
  exact hret t h' tk' F N
theorem ret_B {x y : Bool} (hret : ∀ (t : Tok) (h' : Heap) (tk' : Nat), Fr h₀ L h' m → News h₀ L h' news → Q (.bool x) { s with heap := h', toks := tk' }) (F : Fr h₀ L h' m) (N : News h₀ L h' news) (e : y = x) : Q (.bool y) { s with heap := h', toks := tk' } := by
  subst e
  exact hret 0 h' tk' F N
theorem ret_I {x y : Int} (hret : ∀ (t : Tok) (h' : Heap) (tk' : Nat), Fr h₀ L h' m → News h₀ L h' news → Q (.int x t) { s with heap := h', toks := tk' }) (F : Fr h₀ L h' m) (N : News h₀ L h' news) (e : y = x) : Q (.int y t) { s with heap := h', toks := tk' } := by
  subst e
  exact hret t h' tk' F N
theorem news_of {h : Heap} {a b : List (Addr × Obj)} (N : News h₀ L h a) (hs : ∀ p ∈ b, p ∈ a) : News h₀ L h b := fun p hp => N p (hs p hp)
end

/-- the text of a code, as escaped(code) gives it -/
def escS (i : Int) : Str :=
  if i = 39 ∨ i = 92 then Str.ofString "\\" ++ ⟨#[i.toNat]⟩
  else if 7 ≤ i ∧ i ≤ 13 then Str.ofString "\\" ++ Txt.item (Str.ofString "abtnvfr") (i - 7)
  else if i < 32 ∨ i = 127 then Str.ofString "\\x" ++ Txt.item (Str.ofString "0123456789abcdef") (i.fdiv 16) ++ Txt.item (Str.ofString "0123456789abcdef") (i.fmod 16) ++ Str.ofString "\\"
  else ⟨#[i.toNat]⟩

set_option maxHeartbeats 4000000 in
theorem escaped_cl (w : World) (i : Int) (t : Tok) (h0 : 0 ≤ i) (h1 : i ≤ 1114111) : Cl w 21 1 [.int i t] (fun t => .str (escS i) t) := by
  unfold Cl
  k_fill
  intro mean mg mb news dp un gd cn cs a ccd cl outer A₀ base h₀ L m s Q E B F X N T hk hdp hu hret
  refine wpAny_call ?_
  k_dflt cell_enter
  k_steps
  all_goals refine ret_S hret (by assumption) (by assumption) ?_
  all_goals unfold escS
  all_goals first | (rw [if_pos (by omega)]) | (rw [if_neg (by omega), if_pos (by omega)]) | (rw [if_neg (by omega), if_neg (by omega), if_pos (by omega)]) | (rw [if_neg (by omega), if_neg (by omega), if_neg (by omega)])

section
variable {prog : Program} {w : World} {A : Around} {E : Value → Shared → Prop} {s : Shared} {env : Env} {h₀ : Heap} {x : Str} {body : List Stmt} {Q : Flow → Shared → Prop}

/-- what holds between the turns of a loop that grows one list of texts -/
def PJ (l' : Addr) (news : List (Addr × Obj)) (x : Str) (m₀ : Str → Option Value) (P : List Int → List Str → Prop) (pre : List Int) (m : Str → Option Value) (nx : List (Addr × Obj)) : Prop :=
  ∃ us ws n, nx = (l', listOf us.toArray n) :: news ∧ StrsAre us ws ∧ P pre ws ∧ ∀ z, z ≠ x → m z = m₀ z

theorem pj_fr {L : Addr} {h : Heap} {m₀ m₁ : Str → Option Value} {v : Option Value} (h2 : ∀ z, z ≠ x → m₁ z = m₀ z)
    (F : Fr h₀ L h (fun y => if y = x then v else m₁ y)) : Fr h₀ L h (fun y => if y = x then v else m₀ y) := by
  have em : (fun y => if y = x then v else m₀ y) = fun y => if y = x then v else m₁ y := by
    funext y
    by_cases hy : y = x
    · rw [if_pos hy, if_pos hy]
    · rw [if_neg hy, if_neg hy, h2 y hy]
  rw [em]
  exact F
theorem pj_frOut {L : Addr} {h : Heap} {m₀ m₁ : Str → Option Value} (h2 : ∀ z, z ≠ x → m₁ z = m₀ z)
    (F : Fr h₀ L h m₁) : Fr h₀ L h (fun y => if y = x then m₁ x else m₀ y) := by
  have em : (fun y => if y = x then m₁ x else m₀ y) = m₁ := by
    funext y
    by_cases hy : y = x
    · rw [if_pos hy, hy]
    · rw [if_neg hy, h2 y hy]
  rw [em]
  exact F

theorem text_parts_loop {xt : Str} {tx : Tok} {m₀ : Str → Option Value} {l' : Addr} {us₀ : List Value} {ws₀ : List Str} {n₀ : Nat} {news : List (Addr × Obj)} (P : List Int → List Str → Prop)
    (hh : A.handled = none) (F : Fr h₀ env.locals s.heap m₀) (N : News h₀ env.locals s.heap ((l', listOf us₀.toArray n₀) :: news)) (hu : StrsAre us₀ ws₀) (hp : P [] ws₀)
    (turn : ∀ us ws n₁ pre post (n : Nat) t h tk own, KStt.codes xt = pre ++ (n : Int) :: post → OwnOff own (l' :: news.map (·.1)) → StrsAre us ws → P pre ws →
      Fr h₀ env.locals h (fun y => if y = x then some (.str ⟨#[n]⟩ t) else m₀ y) → News h₀ env.locals h ((l', listOf us.toArray n₁) :: (news ++ own)) →
      wpAny (model prog w) A (execs body env) (InvPostN h₀ env.locals (PJ l' news x m₀ P (pre ++ [(n : Int)])) own (l' :: news.map (·.1)) { s with heap := h, toks := tk } Q) E { s with heap := h, toks := tk })
    (done : ∀ us ws n₁ (u : Option Value) h tk, StrsAre us ws → P (KStt.codes xt) ws → Fr h₀ env.locals h (fun y => if y = x then u else m₀ y) → News h₀ env.locals h ((l', listOf us.toArray n₁) :: news) → Q .next { s with heap := h, toks := tk }) :
    wpAny (model prog w) A (pyIter (.str xt tx)) (fun it s₂ => LoopAtV prog w A h₀ env x body Q E it s₂) E s := by
  refine wpAny_pyIter_str fun o St hW hst => ?_
  have W := hW A hh
  refine loop_invN (fun i m nx => PJ l' news x m₀ P ((KStt.codes xt).take i) m nx) W ?_ ?_ ?_ ?_ hst (F.push _) (fun p hp => ⟨Heap.get?_push_of_some _ (N p hp).1, (N p hp).2⟩) ⟨us₀, ws₀, n₀, rfl, hu, by simpa using hp, fun _ _ => rfl⟩ ?_ ?_
  · intro hm
    exact absurd F.ns.lt ((List.mem_singleton.mp hm) ▸ Nat.lt_irrefl _)
  · intro b' hb
    rw [List.mem_singleton.mp hb]
    exact next_is_new F
  · intro p hp hI
    exact absurd (Heap.lt_size (N p hp).1) ((List.mem_singleton.mp hI) ▸ Nat.lt_irrefl _)
  · intro p hp hI
    exact absurd (Heap.lt_size (N p hp).1) ((List.mem_singleton.mp hI) ▸ Nat.lt_irrefl _)
  · rintro i v m₁ nx h tk own hi ⟨n, u, hn, rfl⟩ _ hoff ⟨us, ws, n₁, rfl, hu', hp', h2⟩ F₁ N₁
    have hn' := KStt.code_at hn
    have hs : (KStt.codes xt).take (i + 1) = (KStt.codes xt).take i ++ [(n : Int)] := by simp [List.take_add_one, hn']
    have e : KStt.codes xt = (KStt.codes xt).take i ++ (n : Int) :: (KStt.codes xt).drop (i + 1) := by
      have ht := List.take_append_drop (i + 1) (KStt.codes xt)
      rw [hs, List.append_assoc] at ht
      exact ht.symm
    rw [hs]
    exact turn us ws n₁ _ _ n u h tk own e hoff hu' hp' (pj_fr h2 F₁) N₁
  · rintro m₁ nx h tk ⟨us, ws, n₁, rfl, hu', hp', h2⟩ F₁ N₁
    have hl : xt.cps.size = (KStt.codes xt).length := (KStt.codes_length xt).symm
    rw [hl, List.take_length] at hp'
    exact done us ws n₁ _ h tk hu' hp' (pj_frOut h2 F₁) N₁

theorem pj_end {L : Addr} {l' : Addr} {news own : List (Addr × Obj)} {m₀ m' : Str → Option Value} {P : List Int → List Str → Prop} {pre : List Int} {us : List Value} {ws : List Str} {n₁ : Nat} {s₁ : Shared} {h' : Heap} {tk : Nat}
    (F : Fr h₀ L h' m') (N : News h₀ L h' ((l', listOf us.toArray n₁) :: (news ++ own))) (hu : StrsAre us ws) (hp : P pre ws) (hm : ∀ z, z ≠ x → m' z = m₀ z) :
    InvEndN h₀ L (PJ l' news x m₀ P pre) own (l' :: news.map (·.1)) s₁ { s₁ with heap := h', toks := tk } :=
  InvEndN.intro (nx := (l', listOf us.toArray n₁) :: news) F N ⟨us, ws, n₁, rfl, hu, hp, hm⟩ rfl
    (fun p hp => by rcases List.mem_cons.mp hp with rfl | hp; exact List.mem_cons_self; exact List.mem_cons_of_mem _ (List.mem_append.mpr (.inl hp)))
    (fun p hp => List.mem_cons_of_mem _ (List.mem_append.mpr (.inr hp)))

/-- a loop over a text that stores nothing -/
def SJ (news : List (Addr × Obj)) (x : Str) (m₀ : Str → Option Value) (P : List Int → Prop) (pre : List Int) (m : Str → Option Value) (nx : List (Addr × Obj)) : Prop :=
  nx = news ∧ P pre ∧ ∀ z, z ≠ x → m z = m₀ z

theorem text_plain_loop {xt : Str} {tx : Tok} {m₀ : Str → Option Value} {news : List (Addr × Obj)} (P : List Int → Prop)
    (hh : A.handled = none) (F : Fr h₀ env.locals s.heap m₀) (N : News h₀ env.locals s.heap news) (hp : P [])
    (turn : ∀ pre post (n : Nat) t h tk own, KStt.codes xt = pre ++ (n : Int) :: post → OwnOff own (news.map (·.1)) → P pre →
      Fr h₀ env.locals h (fun y => if y = x then some (.str ⟨#[n]⟩ t) else m₀ y) → News h₀ env.locals h (news ++ own) →
      wpAny (model prog w) A (execs body env) (InvPostN h₀ env.locals (SJ news x m₀ P (pre ++ [(n : Int)])) own (news.map (·.1)) { s with heap := h, toks := tk } Q) E { s with heap := h, toks := tk })
    (done : ∀ (u : Option Value) h tk, P (KStt.codes xt) → Fr h₀ env.locals h (fun y => if y = x then u else m₀ y) → News h₀ env.locals h news → Q .next { s with heap := h, toks := tk }) :
    wpAny (model prog w) A (pyIter (.str xt tx)) (fun it s₂ => LoopAtV prog w A h₀ env x body Q E it s₂) E s := by
  refine wpAny_pyIter_str fun o St hW hst => ?_
  have W := hW A hh
  refine loop_invN (fun i m nx => SJ news x m₀ P ((KStt.codes xt).take i) m nx) W ?_ ?_ ?_ ?_ hst (F.push _) (fun p hp => ⟨Heap.get?_push_of_some _ (N p hp).1, (N p hp).2⟩) ⟨rfl, by simpa using hp, fun _ _ => rfl⟩ ?_ ?_
  · intro hm
    exact absurd F.ns.lt ((List.mem_singleton.mp hm) ▸ Nat.lt_irrefl _)
  · intro b' hb
    rw [List.mem_singleton.mp hb]
    exact next_is_new F
  · intro p hp hI
    exact absurd (Heap.lt_size (N p hp).1) ((List.mem_singleton.mp hI) ▸ Nat.lt_irrefl _)
  · intro p hp hI
    exact absurd (Heap.lt_size (N p hp).1) ((List.mem_singleton.mp hI) ▸ Nat.lt_irrefl _)
  · rintro i v m₁ nx h tk own hi ⟨n, u, hn, rfl⟩ _ hoff ⟨rfl, hp', h2⟩ F₁ N₁
    have hn' := KStt.code_at hn
    have hs : (KStt.codes xt).take (i + 1) = (KStt.codes xt).take i ++ [(n : Int)] := by simp [List.take_add_one, hn']
    have e : KStt.codes xt = (KStt.codes xt).take i ++ (n : Int) :: (KStt.codes xt).drop (i + 1) := by
      have ht := List.take_append_drop (i + 1) (KStt.codes xt)
      rw [hs, List.append_assoc] at ht
      exact ht.symm
    rw [hs]
    exact turn _ _ n u h tk own e hoff hp' (pj_fr h2 F₁) N₁
  · rintro m₁ nx h tk ⟨rfl, hp', h2⟩ F₁ N₁
    have hl : xt.cps.size = (KStt.codes xt).length := (KStt.codes_length xt).symm
    rw [hl, List.take_length] at hp'
    exact done _ h tk hp' (pj_frOut h2 F₁) N₁

theorem sj_end {L : Addr} {news own : List (Addr × Obj)} {m₀ m' : Str → Option Value} {P : List Int → Prop} {pre : List Int} {s₁ : Shared} {h' : Heap} {tk : Nat}
    (F : Fr h₀ L h' m') (N : News h₀ L h' (news ++ own)) (hp : P pre) (hm : ∀ z, z ≠ x → m' z = m₀ z) :
    InvEndN h₀ L (SJ news x m₀ P pre) own (news.map (·.1)) s₁ { s₁ with heap := h', toks := tk } :=
  InvEndN.intro (nx := news) F N ⟨rfl, hp, hm⟩ rfl
    (fun p hp => List.mem_append.mpr (.inl hp))
    (fun p hp => List.mem_append.mpr (.inr hp))

/-- a goal at which the walk is to stop -/
def Hold (P : Prop) : Prop := P
theorem Hold.out {P : Prop} (h : Hold P) : P := h

def WEnd {σ : Type} (h₀ : Heap) (L : Addr) (s : Shared) (mf : σ → Str → Option Value) (Led : σ → List (Addr × Obj)) (P : σ → Prop) (μ : σ → Nat) (c : σ) (s₂ : Shared) : Prop :=
  ∃ (c' : σ) (h' : Heap) (tk : Nat) (m' : Str → Option Value), s₂ = { s with heap := h', toks := tk } ∧ Fr h₀ L h' m' ∧ News h₀ L h' (Led c') ∧ (∀ z, m' z = mf c' z) ∧ P c' ∧ μ c' < μ c
def WPost {σ : Type} (h₀ : Heap) (L : Addr) (s : Shared) (mf : σ → Str → Option Value) (Led : σ → List (Addr × Obj)) (P : σ → Prop) (μ : σ → Nat) (Q : Flow → Shared → Prop) (c : σ) (f : Flow) (s₂ : Shared) : Prop :=
  match f with
  | .ret v => Q (.ret v) s₂
  | .brk => Q .next s₂
  | _ => WEnd h₀ L s mf Led P μ c s₂
theorem w_end {σ : Type} {h₀ : Heap} {L : Addr} {s : Shared} {mf : σ → Str → Option Value} {Led : σ → List (Addr × Obj)} {P : σ → Prop} {μ : σ → Nat} {c : σ} {h' : Heap} {tk : Nat} {m' : Str → Option Value} (c' : σ)
    (F : Fr h₀ L h' m') (N : News h₀ L h' (Led c')) (hm : ∀ z, m' z = mf c' z) (hp : P c') (hμ : μ c' < μ c) : WEnd h₀ L s mf Led P μ c { s with heap := h', toks := tk } :=
  ⟨c', h', tk, m', rfl, F, N, hm, hp, hμ⟩
theorem fr_eq {h₀ h : Heap} {L : Addr} {m m' : Str → Option Value} (F : Fr h₀ L h m) (e : ∀ z, m z = m' z) : Fr h₀ L h m' := by
  have : m = m' := funext e
  rw [← this]; exact F

theorem while_st {L : Addr} {σ : Type} {test : Expr} {body : List Stmt} {pos : Pos} {m₀ : Str → Option Value} (mf : σ → Str → Option Value) (Led : σ → List (Addr × Obj)) (P : σ → Prop) (μ : σ → Nat) (c₀ : σ)
    (F : Fr h₀ L s.heap m₀) (N : News h₀ L s.heap (Led c₀)) (hm : ∀ z, m₀ z = mf c₀ z) (hp : P c₀)
    (turn : ∀ (c : σ) h tk, P c → Fr h₀ L h (mf c) → News h₀ L h (Led c) →
      wpAny (model prog w) A (isTrue test env (eval test env)) (fun b s₂ =>
        if b = true then wpAny (model prog w) A (execs body env) (WPost h₀ L s mf Led P μ Q c) E s₂ else Q .next s₂) E { s with heap := h, toks := tk })
    (hE : PassesOwn (model prog w) A env E := by passes_own) :
    wpAny (model prog w) A (exec (.While test body [] pos) env) Q E s := by
  refine While_inv2 (fun n m nx => ∃ c : σ, m = mf c ∧ nx = Led c ∧ P c ∧ μ c = n) (fr_eq F hm) N ⟨c₀, rfl, rfl, hp, rfl⟩ ?_ hE
  rintro n m₁ nx h tk F₁ N₁ ⟨c, rfl, rfl, hp', rfl⟩
  refine wpAny_mono (turn c h tk hp' F₁ N₁) (fun b s₂ p => ?_) fun _ _ x => x
  cases b with
  | false => simpa using p
  | true =>
    simp only [if_true] at p ⊢
    refine wpAny_mono p (fun f s₃ q => ?_) fun _ _ x => x
    cases f with
    | ret v => exact q
    | brk => exact q
    | next =>
      obtain ⟨c', h', tk', m', rfl, F', N', hm', hp9, hm9⟩ := q
      exact ⟨h', tk', mf c', Led c', μ c', rfl, fr_eq F' hm', N', hm9, c', rfl, rfl, hp9, rfl⟩
    | cont =>
      obtain ⟨c', h', tk', m', rfl, F', N', hm', hp9, hm9⟩ := q
      exact ⟨h', tk', mf c', Led c', μ c', rfl, fr_eq F' hm', N', hm9, c', rfl, rfl, hp9, rfl⟩

theorem two_names {m₀ : Str → Option Value} {x₁ x₂ : Str} {a b : Value} (h1 : m₀ x₁ = some a) (h2 : m₀ x₂ = some b) (z : Str) : m₀ z = if z = x₁ then some a else if z = x₂ then some b else m₀ z := by
  by_cases e1 : z = x₁
  · rw [if_pos e1, e1, h1]
  · rw [if_neg e1]
    by_cases e2 : z = x₂
    · rw [if_pos e2, e2, h2]
    · rw [if_neg e2]
/-- a while that turns two names -/
theorem while_2 {L : Addr} {σ : Type} {test : Expr} {body : List Stmt} {pos : Pos} {m₀ : Str → Option Value} {news : List (Addr × Obj)} (x₁ x₂ : Str) (v₁ v₂ : σ → Value) (P : σ → Prop) (μ : σ → Nat) (c₀ : σ)
    (F : Fr h₀ L s.heap m₀) (N : News h₀ L s.heap news) (h1 : m₀ x₁ = some (v₁ c₀)) (h2 : m₀ x₂ = some (v₂ c₀)) (hp : P c₀)
    (turn : ∀ (c : σ) h tk, P c → Fr h₀ L h (fun y => if y = x₁ then some (v₁ c) else if y = x₂ then some (v₂ c) else m₀ y) → News h₀ L h news →
      wpAny (model prog w) A (isTrue test env (eval test env)) (fun b s₂ =>
        if b = true then wpAny (model prog w) A (execs body env) (WPost h₀ L s (fun c y => if y = x₁ then some (v₁ c) else if y = x₂ then some (v₂ c) else m₀ y) (fun _ => news) P μ Q c) E s₂ else Q .next s₂) E { s with heap := h, toks := tk })
    (hE : PassesOwn (model prog w) A env E := by passes_own) :
    wpAny (model prog w) A (exec (.While test body [] pos) env) Q E s :=
  while_st (fun c y => if y = x₁ then some (v₁ c) else if y = x₂ then some (v₂ c) else m₀ y) (fun _ => news) P μ c₀ F N (two_names h1 h2) hp turn hE
theorem w_next {L : Addr} {σ : Type} {m₀ m' : Str → Option Value} {news : List (Addr × Obj)} {x₁ x₂ : Str} {v₁ v₂ : σ → Value} {P : σ → Prop} {μ : σ → Nat} {c : σ} {h' : Heap} {tk : Nat} (c' : σ)
    (F : Fr h₀ L h' m') (N : News h₀ L h' news) (h1 : m' x₁ = some (v₁ c')) (h2 : m' x₂ = some (v₂ c')) (hr : ∀ z, z ≠ x₁ → z ≠ x₂ → m' z = m₀ z) (hp : P c') (hμ : μ c' < μ c) :
    WEnd h₀ L s (fun c y => if y = x₁ then some (v₁ c) else if y = x₂ then some (v₂ c) else m₀ y) (fun _ => news) P μ c { s with heap := h', toks := tk } :=
  w_end c' F N (fun z => by
    by_cases e1 : z = x₁
    · rw [if_pos e1, e1, h1]
    · rw [if_neg e1]
      by_cases e2 : z = x₂
      · rw [if_pos e2, e2, h2]
      · rw [if_neg e2]; exact hr z e1 e2) hp hμ

/-- a loop over a text that turns one name, and leaves something in another -/
def VJ (news : List (Addr × Obj)) (x y₁ y₂ : Str) (m₀ : Str → Option Value) (P : List Int → Value → Prop) (pre : List Int) (m : Str → Option Value) (nx : List (Addr × Obj)) : Prop :=
  nx = news ∧ ∃ v, m y₁ = some v ∧ P pre v ∧ ∀ z, z ≠ x → z ≠ y₁ → z ≠ y₂ → m z = m₀ z
theorem vj_fr {L : Addr} {h : Heap} {y₁ y₂ : Str} {m₀ m₁ : Str → Option Value} {u : Option Value} {v : Value} (h1 : m₁ y₁ = some v) (h2 : ∀ z, z ≠ x → z ≠ y₁ → z ≠ y₂ → m₁ z = m₀ z)
    (F : Fr h₀ L h (fun y => if y = x then u else m₁ y)) : Fr h₀ L h (fun y => if y = x then u else if y = y₁ then some v else if y = y₂ then m₁ y₂ else m₀ y) := by
  refine fr_eq F fun z => ?_
  by_cases e : z = x
  · rw [if_pos e, if_pos e]
  · rw [if_neg e, if_neg e]
    by_cases e1 : z = y₁
    · rw [if_pos e1, e1, h1]
    · rw [if_neg e1]
      by_cases e2 : z = y₂
      · rw [if_pos e2, e2]
      · rw [if_neg e2]; exact h2 z e e1 e2
theorem text_value_loop {xt : Str} {tx : Tok} {m₀ : Str → Option Value} {news : List (Addr × Obj)} (y₁ y₂ : Str) (P : List Int → Value → Prop) {v₀ : Value}
    (hh : A.handled = none) (F : Fr h₀ env.locals s.heap m₀) (N : News h₀ env.locals s.heap news) (h1 : m₀ y₁ = some v₀) (hp : P [] v₀)
    (turn : ∀ v pre post (n : Nat) t (u : Option Value) h tk own, KStt.codes xt = pre ++ (n : Int) :: post → OwnOff own (news.map (·.1)) → P pre v →
      Fr h₀ env.locals h (fun y => if y = x then some (.str ⟨#[n]⟩ t) else if y = y₁ then some v else if y = y₂ then u else m₀ y) → News h₀ env.locals h (news ++ own) →
      wpAny (model prog w) A (execs body env) (InvPostN h₀ env.locals (VJ news x y₁ y₂ m₀ P (pre ++ [(n : Int)])) own (news.map (·.1)) { s with heap := h, toks := tk } Q) E { s with heap := h, toks := tk })
    (done : ∀ v (u u' : Option Value) h tk, P (KStt.codes xt) v → Fr h₀ env.locals h (fun y => if y = x then u else if y = y₁ then some v else if y = y₂ then u' else m₀ y) → News h₀ env.locals h news → Q .next { s with heap := h, toks := tk }) :
    wpAny (model prog w) A (pyIter (.str xt tx)) (fun it s₂ => LoopAtV prog w A h₀ env x body Q E it s₂) E s := by
  refine wpAny_pyIter_str fun o St hW hst => ?_
  have W := hW A hh
  refine loop_invN (fun i m nx => VJ news x y₁ y₂ m₀ P ((KStt.codes xt).take i) m nx) W ?_ ?_ ?_ ?_ hst (F.push _) (fun p hp => ⟨Heap.get?_push_of_some _ (N p hp).1, (N p hp).2⟩) ⟨rfl, v₀, h1, by simpa using hp, fun _ _ _ _ => rfl⟩ ?_ ?_
  · intro hm
    exact absurd F.ns.lt ((List.mem_singleton.mp hm) ▸ Nat.lt_irrefl _)
  · intro b' hb
    rw [List.mem_singleton.mp hb]
    exact next_is_new F
  · intro p hp hI
    exact absurd (Heap.lt_size (N p hp).1) ((List.mem_singleton.mp hI) ▸ Nat.lt_irrefl _)
  · intro p hp hI
    exact absurd (Heap.lt_size (N p hp).1) ((List.mem_singleton.mp hI) ▸ Nat.lt_irrefl _)
  · rintro i v m₁ nx h tk own hi ⟨n, u, hn, rfl⟩ _ hoff ⟨rfl, v', hv', hp', h2⟩ F₁ N₁
    have hn' := KStt.code_at hn
    have hs : (KStt.codes xt).take (i + 1) = (KStt.codes xt).take i ++ [(n : Int)] := by simp [List.take_add_one, hn']
    have e : KStt.codes xt = (KStt.codes xt).take i ++ (n : Int) :: (KStt.codes xt).drop (i + 1) := by
      have ht := List.take_append_drop (i + 1) (KStt.codes xt)
      rw [hs, List.append_assoc] at ht
      exact ht.symm
    rw [hs]
    exact turn v' _ _ n u _ h tk own e hoff hp' (vj_fr hv' h2 F₁) N₁
  · rintro m₁ nx h tk ⟨rfl, v', hv', hp', h2⟩ F₁ N₁
    have hl : xt.cps.size = (KStt.codes xt).length := (KStt.codes_length xt).symm
    rw [hl, List.take_length] at hp'
    have F₂ : Fr h₀ env.locals h (fun y => if y = x then m₁ x else m₁ y) := fr_eq F₁ fun z => by
      by_cases e : z = x
      · rw [if_pos e, e]
      · rw [if_neg e]
    exact done v' _ _ h tk hp' (vj_fr hv' h2 F₂) N₁

theorem vj_end {L : Addr} {news own : List (Addr × Obj)} {y₁ y₂ : Str} {m₀ m' : Str → Option Value} {P : List Int → Value → Prop} {pre : List Int} {s₁ : Shared} {h' : Heap} {tk : Nat} {v : Value}
    (F : Fr h₀ L h' m') (N : News h₀ L h' (news ++ own)) (h1 : m' y₁ = some v) (hp : P pre v) (hm : ∀ z, z ≠ x → z ≠ y₁ → z ≠ y₂ → m' z = m₀ z) :
    InvEndN h₀ L (VJ news x y₁ y₂ m₀ P pre) own (news.map (·.1)) s₁ { s₁ with heap := h', toks := tk } :=
  InvEndN.intro (nx := news) F N ⟨rfl, v, h1, hp, hm⟩ rfl
    (fun _ hp => List.mem_append.mpr (.inl hp))
    (fun _ hp => List.mem_append.mpr (.inr hp))

/-- a while that turns one name (a place), leaves something in another, and grows one list of texts -/
structure WpS where
  k : Nat
  t : Tok
  u : Option Value
  us : List Value
  ws : List Str
  n : Nat
theorem while_parts {L : Addr} {test : Expr} {body : List Stmt} {pos : Pos} {m₀ : Str → Option Value} {l' : Addr} {us₀ : List Value} {ws₀ : List Str} {n₀ k₀ : Nat} {t₀ : Tok} {news : List (Addr × Obj)} (x₁ x₂ : Str) (P : Nat → List Str → Prop) (μ : Nat → Nat)
    (F : Fr h₀ L s.heap m₀) (N : News h₀ L s.heap ((l', listOf us₀.toArray n₀) :: news)) (h1 : m₀ x₁ = some (.int (k₀ : Nat) t₀)) (hu : StrsAre us₀ ws₀) (hp : P k₀ ws₀)
    (turn : ∀ k t u us ws n h tk, P k ws → StrsAre us ws → Fr h₀ L h (fun y => if y = x₁ then some (.int (k : Nat) t) else if y = x₂ then u else m₀ y) → News h₀ L h ((l', listOf us.toArray n) :: news) →
      wpAny (model prog w) A (isTrue test env (eval test env)) (fun b s₂ =>
        if b = true then wpAny (model prog w) A (execs body env) (WPost h₀ L s (fun (c : WpS) y => if y = x₁ then some (.int (c.k : Nat) c.t) else if y = x₂ then c.u else m₀ y) (fun c => (l', listOf c.us.toArray c.n) :: news) (fun c => P c.k c.ws ∧ StrsAre c.us c.ws) (fun c => μ c.k) Q ⟨k, t, u, us, ws, n⟩) E s₂ else Q .next s₂) E { s with heap := h, toks := tk })
    (hE : PassesOwn (model prog w) A env E := by passes_own) :
    wpAny (model prog w) A (exec (.While test body [] pos) env) Q E s :=
  while_st (σ := WpS) (fun c y => if y = x₁ then some (.int (c.k : Nat) c.t) else if y = x₂ then c.u else m₀ y) (fun c => (l', listOf c.us.toArray c.n) :: news) (fun c => P c.k c.ws ∧ StrsAre c.us c.ws) (fun c => μ c.k)
    ⟨k₀, t₀, m₀ x₂, us₀, ws₀, n₀⟩ F N (fun z => by
      by_cases e1 : z = x₁
      · rw [if_pos e1, e1, h1]
      · rw [if_neg e1]
        by_cases e2 : z = x₂
        · rw [if_pos e2, e2]
        · rw [if_neg e2]) ⟨hp, hu⟩ (fun c h tk hc F N => turn c.k c.t c.u c.us c.ws c.n h tk hc.1 hc.2 F N) hE
theorem wp_next {L : Addr} {m₀ m' : Str → Option Value} {l' : Addr} {news : List (Addr × Obj)} {x₁ x₂ : Str} {P : Nat → List Str → Prop} {μ : Nat → Nat} {c : WpS} {h' : Heap} {tk : Nat} {k : Nat} {t : Tok} {us : List Value} {ws : List Str} {n : Nat}
    (F : Fr h₀ L h' m') (N : News h₀ L h' ((l', listOf us.toArray n) :: news)) (h1 : m' x₁ = some (.int (k : Nat) t)) (hr : ∀ z, z ≠ x₁ → z ≠ x₂ → m' z = m₀ z) (hu : StrsAre us ws) (hp : P k ws) (hμ : μ k < μ c.k) :
    WEnd h₀ L s (fun (c : WpS) y => if y = x₁ then some (.int (c.k : Nat) c.t) else if y = x₂ then c.u else m₀ y) (fun c => (l', listOf c.us.toArray c.n) :: news) (fun c => P c.k c.ws ∧ StrsAre c.us c.ws) (fun c => μ c.k) c { s with heap := h', toks := tk } :=
  w_end (⟨k, t, m' x₂, us, ws, n⟩ : WpS) F N (fun z => by
    by_cases e1 : z = x₁
    · rw [if_pos e1, e1, h1]
    · rw [if_neg e1]
      by_cases e2 : z = x₂
      · rw [if_pos e2, e2]
      · rw [if_neg e2]; exact hr z e1 e2) ⟨hp, hu⟩ hμ
end

section
theorem clear_C1 : True := by
  w_top off
  k_with_none
  exact True.intro
theorem mem_codes {x : Str} {pre post : List Int} {n : Nat} (hx : ∀ c ∈ x.cps.toList, c ≤ 1114111) (e : KStt.codes x = pre ++ (n : Int) :: post) : (n : Int) ≤ 1114111 := by
  have h : (n : Int) ∈ KStt.codes x := by rw [e]; simp
  unfold KStt.codes at h
  obtain ⟨c, hc, hcn⟩ := List.mem_map.mp h
  have := hx c hc
  omega

theorem len_turn {x : Str} {pre post : List Int} {n : Nat} {us : List Value} {ws : List Str} {c : Str} {g : Int → Str} (hl : x.length ≤ 1000) (e : KStt.codes x = pre ++ (n : Int) :: post) (hU : StrsAre us ws) (hP : ws = c :: pre.map g) : us.length ≤ 1000 := by
  have h1 := congrArg List.length e
  rw [KStt.codes_length] at h1
  have h2 := hU.length
  rw [hP] at h2
  simp only [List.length_append, List.length_cons, List.length_map] at h1 h2
  omega
theorem len_done {x : Str} {us : List Value} {ws : List Str} {c : Str} {g : Int → Str} (hl : x.length ≤ 1000) (hU : StrsAre us ws) (hP : ws = c :: (KStt.codes x).map g) : us.length ≤ 1001 := by
  have h2 := hU.length
  rw [hP] at h2
  simp only [List.length_cons, List.length_map, KStt.codes_length] at h2
  omega

local macro_rules | `(tactic| walk_at "call ref") => `(tactic| ((with_reducible show wpAny _ _ (call (Value.ref 21) _) _ _ _); k_dflt (refine' (escaped_cl _ _ _ ?p0 ?p1) _ _ _ _ _ _ _ _ _ _ _ _ _ _ _ _ _ _ _ _ _ ?kB ?kF ?kX ?kN ?kT ?kk ?kd ?ku ?_; (case kB => k_asm); (case kF => k_asm); (case kX => k_asm); (case kN => k_asm); (case kT => k_asm); (case kk => first | exact rfl | assumption); (case kd => ktr_room); (case ku => ktr_units); (case p0 => omega); (case p1 => first | omega | exact mem_codes (by assumption) (by assumption))); intro t9 h9 tk9 F9 N9; (try dsimp only); (try k_fold)))
local macro_rules | `(tactic| walk_at "exec For Name Name cons nil") => `(tactic| (k_here; (rename Fr _ _ _ _ => lF'); (with_unfolding_all refine' For_invVF lF' ?k1 ?k2 ?_; (case k1 => exact rfl); (case k2 => exact rfl); k_whole)))

theorem escS_len (i : Int) : (escS i).length ≤ 5 := by
  unfold escS
  split
  · exact Nat.le_of_ble_eq_true rfl
  · split
    · exact Nat.le_of_ble_eq_true rfl
    · split
      · exact Nat.le_of_ble_eq_true rfl
      · exact Nat.le_of_ble_eq_true rfl

/-- what quoted_text(text) gives -/
def qtS (x : Str) : Str := mkS (39 :: (KStt.codes x).flatMap (fun i => cpl (escS i)) ++ [39])

theorem qt_weight {x : Str} {ws : List Str} (hl : x.length ≤ 1000) (hP : ws = Str.ofString "'" :: (KStt.codes x).map escS) : ((ws ++ [Str.ofString "'"]).map (·.length)).sum + (ws ++ [Str.ofString "'"]).length ≤ 1048576 := by
  subst hP
  have h := sum_le (fun i => (escS i).length) 5 (KStt.codes x) fun i _ => escS_len i
  have e1 : (Str.ofString "'").length = 1 := rfl
  simp only [List.map_append, List.map_cons, List.map_nil, List.sum_append, List.sum_cons, List.sum_nil, List.map_map, Function.comp_def, List.length_append, List.length_cons, List.length_nil, List.length_map, KStt.codes_length, e1] at h ⊢
  omega
theorem qt_join {x : Str} {ws : List Str} (hP : ws = Str.ofString "'" :: (KStt.codes x).map escS) : Txt.join (Str.ofString "") (ws ++ [Str.ofString "'"]) = qtS x := by
  subst hP
  refine cpl_ext ?_
  rw [cpl_join _ rfl, qtS, cpl_T]
  simp only [List.cons_append, List.flatMap_cons, List.flatMap_append, List.flatMap_map, List.flatMap_nil]
  rfl

set_option maxHeartbeats 4000000 in
theorem quoted_text_cl (w : World) (x : Str) (t : Tok) (hl : x.length ≤ 1000) (hx : ∀ c ∈ x.cps.toList, c ≤ 1114111) : Cl w 28 2 [.str x t] (fun t => .str (qtS x) t) := by
  unfold Cl
  k_fill
  intro mean mg mb news dp un gd cn cs a ccd cl outer A₀ base h₀ L m s Q E B F X N T hk hdp hu hret
  refine wpAny_call ?_
  k_dflt cell_enter
  k_steps
  rename News _ _ _ _ => lN'
  rename Fr _ _ _ _ => lF'
  refine' text_parts_loop (fun pre ws => ws = Str.ofString "'" :: pre.map escS) ?hh lF' lN' ?hu ?hp ?turn ?done
  case hh => rfl
  case hu => exact .cons _ _ .nil
  case hp => rfl
  case turn =>
    clear lF' lN'
    intro us ws n₁ pre post n t h tk own kEq kOff hU hP F' N'
    have kMark := kstMark
    have hlen := len_turn hl kEq hU hP
    k_steps
    rename News _ _ _ _ => lN'
    rename Fr _ _ _ _ => lF'
    simp only [List.push_toArray] at lN'
    refine pj_end lF' lN' (hU.append' (.cons _ _ .nil)) ?_ ?_
    · rw [hP]; simp
    · intro z hz; simp only [if_neg hz]
  case done =>
    clear lF' lN'
    intro us ws n₁ u h tk hU hP F' N'
    have kMark := kstMark
    have hlen := len_done hl hU hP
    k_steps
    rename News _ _ _ _ => lN'
    simp only [List.push_toArray] at lN'
    refine join_listW (News.isList lN' (.head _)) (hU.append' (.cons _ _ .nil)) (by decide +kernel) (qt_weight hl hP) ?_
    intro t' k
    rw [qt_join hP]
    k_steps
    rename News _ _ _ _ => lN'
    exact ret_S hret (by assumption) (news_of lN' fun p hp => List.mem_cons_of_mem _ hp) rfl
end

section
theorem clear_C2 : True := by
  w_top off
  k_with_none
  exact True.intro
set_option maxHeartbeats 4000000 in
theorem is_digit_cl (w : World) (i : Int) (t : Tok) : Cl w 68 1 [.int i t] (fun _ => .bool (decide (48 ≤ i ∧ i ≤ 57))) := by
  unfold Cl
  k_fill
  intro mean mg mb news dp un gd cn cs a ccd cl outer A₀ base h₀ L m s Q E B F X N T hk hdp hu hret
  refine wpAny_call ?_
  k_dflt cell_enter
  k_steps
  all_goals refine ret_B hret (by assumption) (by assumption) ?_
  all_goals first | (refine (decide_eq_true ?_).symm; omega) | (refine (decide_eq_false ?_).symm; omega) | (apply decide_eq_decide.mpr; omega)

set_option maxHeartbeats 4000000 in
theorem is_small_cl (w : World) (i : Int) (t : Tok) : Cl w 75 1 [.int i t] (fun _ => .bool (decide (97 ≤ i ∧ i ≤ 122))) := by
  unfold Cl
  k_fill
  intro mean mg mb news dp un gd cn cs a ccd cl outer A₀ base h₀ L m s Q E B F X N T hk hdp hu hret
  refine wpAny_call ?_
  k_dflt cell_enter
  k_steps
  all_goals refine ret_B hret (by assumption) (by assumption) ?_
  all_goals first | (refine (decide_eq_true ?_).symm; omega) | (refine (decide_eq_false ?_).symm; omega) | (apply decide_eq_decide.mpr; omega)

set_option maxHeartbeats 4000000 in
theorem is_capital_cl (w : World) (i : Int) (t : Tok) : Cl w 82 1 [.int i t] (fun _ => .bool (decide (65 ≤ i ∧ i ≤ 90))) := by
  unfold Cl
  k_fill
  intro mean mg mb news dp un gd cn cs a ccd cl outer A₀ base h₀ L m s Q E B F X N T hk hdp hu hret
  refine wpAny_call ?_
  k_dflt cell_enter
  k_steps
  all_goals refine ret_B hret (by assumption) (by assumption) ?_
  all_goals first | (refine (decide_eq_true ?_).symm; omega) | (refine (decide_eq_false ?_).symm; omega) | (apply decide_eq_decide.mpr; omega)

/-- a letter, a figure or the low line -/
def alnI (i : Int) : Bool := decide (97 ≤ i ∧ i ≤ 122) || decide (65 ≤ i ∧ i ≤ 90) || decide (48 ≤ i ∧ i ≤ 57) || decide (i = 95)

local macro_rules | `(tactic| walk_at "eval Call") => `(tactic| (k_here; k_dflt (refine Call_ ?_)))
local macro_rules | `(tactic| walk_at "call ref") => `(tactic| ((with_reducible show wpAny _ _ (call (Value.ref 68) _) _ _ _); k_dflt (refine' (is_digit_cl _ _ _) _ _ _ _ _ _ _ _ _ _ _ _ _ _ _ _ _ _ _ _ _ ?kB ?kF ?kX ?kN ?kT ?kk ?kd ?ku ?_; (case kB => k_asm); (case kF => k_asm); (case kX => k_asm); (case kN => k_asm); (case kT => k_asm); (case kk => first | exact rfl | assumption); (case kd => ktr_room); (case ku => ktr_units)); intro t9 h9 tk9 F9 N9; (try dsimp only); (try k_fold)))
local macro_rules | `(tactic| walk_at "call ref") => `(tactic| ((with_reducible show wpAny _ _ (call (Value.ref 75) _) _ _ _); k_dflt (refine' (is_small_cl _ _ _) _ _ _ _ _ _ _ _ _ _ _ _ _ _ _ _ _ _ _ _ _ ?kB ?kF ?kX ?kN ?kT ?kk ?kd ?ku ?_; (case kB => k_asm); (case kF => k_asm); (case kX => k_asm); (case kN => k_asm); (case kT => k_asm); (case kk => first | exact rfl | assumption); (case kd => ktr_room); (case ku => ktr_units)); intro t9 h9 tk9 F9 N9; (try dsimp only); (try k_fold)))
local macro_rules | `(tactic| walk_at "call ref") => `(tactic| ((with_reducible show wpAny _ _ (call (Value.ref 82) _) _ _ _); k_dflt (refine' (is_capital_cl _ _ _) _ _ _ _ _ _ _ _ _ _ _ _ _ _ _ _ _ _ _ _ _ ?kB ?kF ?kX ?kN ?kT ?kk ?kd ?ku ?_; (case kB => k_asm); (case kF => k_asm); (case kX => k_asm); (case kN => k_asm); (case kT => k_asm); (case kk => first | exact rfl | assumption); (case kd => ktr_room); (case ku => ktr_units)); intro t9 h9 tk9 F9 N9; (try dsimp only); (try k_fold)))
set_option maxHeartbeats 4000000 in
theorem is_alnum_cl (w : World) (i : Int) (t : Tok) : Cl w 89 2 [.int i t] (fun _ => .bool (alnI i)) := by
  unfold Cl
  k_fill
  intro mean mg mb news dp un gd cn cs a ccd cl outer A₀ base h₀ L m s Q E B F X N T hk hdp hu hret
  refine wpAny_call ?_
  k_dflt cell_enter
  k_steps
  all_goals refine ret_B hret (by assumption) (by assumption) ?_
  all_goals unfold alnI
  all_goals rw [Bool.eq_iff_iff]
  all_goals simp only [Bool.or_eq_true, decide_eq_true_eq, beq_iff_eq]
  all_goals omega

/-- a name of letters and figures -/
def anS (x : Str) : Bool := match KStt.codes x with
  | [] => false
  | c :: r => decide (97 ≤ c ∧ c ≤ 122) && (c :: r).all alnI

theorem item_head {x : Str} {c : Int} {r : List Int} (e : KStt.codes x = c :: r) : ((Txt.item x 0).cps.getD 0 0 : Int) = c := by
  obtain ⟨⟨l⟩⟩ := x
  cases l with
  | nil => cases e
  | cons a l =>
    have h := (List.cons.inj e).1
    rw [← h]
    show (((Txt.item ⟨⟨a :: l⟩⟩ 0).cps.getD 0 0 : Nat) : Int) = (a : Int)
    simp [Txt.item, Txt.charAt, seqIndex?, PySem.Str.length]
theorem codes_ne {x : Str} (h : 1 ≤ x.length) : ∃ c r, KStt.codes x = c :: r := by
  have h2 := KStt.codes_length x
  cases e : KStt.codes x with
  | nil => rw [e] at h2; simp only [List.length_nil] at h2; omega
  | cons c r => exact ⟨c, r, rfl⟩
theorem an_nil {x : Str} (h : (x == Str.ofString "") = true) : false = anS x := by
  rw [eq_of_beq h]; rfl
theorem an_first {x : Str} (h : 1 ≤ x.length) (hn : ¬ (97 ≤ ((Txt.item x 0).cps.getD 0 0 : Int) ∧ ((Txt.item x 0).cps.getD 0 0 : Int) ≤ 122)) : false = anS x := by
  obtain ⟨c, r, e⟩ := codes_ne h
  rw [item_head e] at hn
  unfold anS
  rw [e]
  simp only [decide_eq_false hn, Bool.false_and]
theorem an_turn {x : Str} {pre post : List Int} {n : Nat} (e : KStt.codes x = pre ++ (n : Int) :: post) (hn : alnI n = false) : false = anS x := by
  unfold anS
  have h : (KStt.codes x).all alnI = false := by
    rw [e, List.all_append, List.all_cons, hn]; simp
  revert h
  cases KStt.codes x with
  | nil => exact fun _ => rfl
  | cons c r => intro h; simp only [h, Bool.and_false]
theorem an_done {x : Str} (h : 1 ≤ x.length) (hn : 97 ≤ ((Txt.item x 0).cps.getD 0 0 : Int) ∧ ((Txt.item x 0).cps.getD 0 0 : Int) ≤ 122) (ha : (KStt.codes x).all alnI = true) : true = anS x := by
  obtain ⟨c, r, e⟩ := codes_ne h
  rw [item_head e] at hn
  rw [e] at ha
  unfold anS
  rw [e]
  simp only [decide_eq_true hn, ha, Bool.true_and]
theorem all_snoc {g : Int → Bool} {pre : List Int} {n : Int} (h : pre.all g = true) (hn : g n = true) : (pre ++ [n]).all g = true := by
  rw [List.all_append, h]; simp [hn]

local macro_rules | `(tactic| walk_at "exec For Name Name cons nil") => `(tactic| (k_here; (rename Fr _ _ _ _ => lF'); (with_unfolding_all refine' For_invVF lF' ?k1 ?k2 ?_; (case k1 => exact rfl); (case k2 => exact rfl); k_whole)))
local macro_rules | `(tactic| walk_at "call ref") => `(tactic| ((with_reducible show wpAny _ _ (call (Value.ref 89) _) _ _ _); k_dflt (refine' (is_alnum_cl _ _ _) _ _ _ _ _ _ _ _ _ _ _ _ _ _ _ _ _ _ _ _ _ ?kB ?kF ?kX ?kN ?kT ?kk ?kd ?ku ?_; (case kB => k_asm); (case kF => k_asm); (case kX => k_asm); (case kN => k_asm); (case kT => k_asm); (case kk => first | exact rfl | assumption); (case kd => ktr_room); (case ku => ktr_units)); intro t9 h9 tk9 F9 N9; (try dsimp only); (try k_fold)))
set_option maxHeartbeats 4000000 in
theorem is_alnum_name_cl (w : World) (x : Str) (t : Tok) : Cl w 96 3 [.str x t] (fun _ => .bool (anS x)) := by
  unfold Cl
  k_fill
  intro mean mg mb news dp un gd cn cs a ccd cl outer A₀ base h₀ L m s Q E B F X N T hk hdp hu hret
  refine wpAny_call ?_
  k_dflt cell_enter
  k_steps
  · exact ret_B hret (by assumption) (by assumption) (an_nil (by assumption))
  · rename News _ _ _ _ => lN'
    rename Fr _ _ _ _ => lF'
    refine' text_plain_loop (fun pre => pre.all alnI = true) ?hh lF' lN' ?hp ?turn ?done
    case hh => rfl
    case hp => rfl
    case turn =>
      clear lF' lN'
      intro pre post n t h tk own kEq kOff hP F' N'
      have kMark := kstMark
      k_steps
      · rename News _ _ _ _ => lN'
        rename Fr _ _ _ _ => lF'
        exact sj_end lF' lN' (all_snoc hP (by assumption)) fun z hz => by simp only [if_neg hz]
      · rename News _ _ _ _ => lN'
        exact ret_B hret (by assumption) (news_of lN' fun p hp => List.mem_append.mpr (.inl hp)) (an_turn kEq (by assumption))
    case done =>
      clear lF' lN'
      intro u h tk hP F' N'
      have kMark := kstMark
      k_steps
      exact ret_B hret (by assumption) (by assumption) (an_done (by assumption) (by assumption) hP)
  · exact ret_B hret (by assumption) (by assumption) (an_first (by assumption) (by assumption))
end

section
theorem clear_C3 : True := by
  w_top off
  k_with_none
  exact True.intro
/-- the state of code_digits' loop: what is left of the code, the figures so far -/
def CdP (N : Nat) (c : Nat × Tok × List Nat × Tok) : Prop := hexD c.1 c.2.2.1 = digsN N
theorem cd_start {i : Int} {t1 t2 : Tok} : CdP i.toNat (i.toNat / 16, t1, [i.toNat % 16], t2) := rfl
theorem cd_done {n : Nat} {acc : List Nat} {N : Nat} (h : hexD n acc = digsN N) (hn : ¬ (0 : Int) < (n : Int)) : mkS (acc.map figc) = hexS N := by
  have : n = 0 := by omega
  subst this
  rw [hexD_zero] at h
  rw [h]; rfl
theorem cd_len {i : Int} {n : Nat} {acc : List Nat} (h1 : i ≤ 1114111) (h : hexD n acc = digsN i.toNat) : (mkS (acc.map figc)).length ≤ 6 := by
  have h2 := hexD_ge n acc
  have h3 := digsN_len (n := i.toNat) (by omega)
  rw [h] at h2
  rw [mkS_len, List.length_map]
  omega
theorem cd_text {n : Nat} {acc : List Nat} : Txt.item (Str.ofString "0123456789abcdef") ((n : Int).fmod 16) ++ mkS (acc.map figc) = mkS ((n % 16 :: acc).map figc) := by
  have h := fig_mod (i := (n : Int)) (by omega)
  rw [Int.toNat_natCast] at h
  rw [h, ← mkS_app]; rfl
theorem cd_code {n : Nat} : (n : Int).fdiv 16 = ((n / 16 : Nat) : Int) := by
  have h := fdiv16 (i := (n : Int)) (by omega)
  rwa [Int.toNat_natCast] at h
theorem cd_turn {N n : Nat} {acc : List Nat} (hn : (0 : Int) < (n : Int)) (h : hexD n acc = digsN N) : hexD (n / 16) (n % 16 :: acc) = digsN N := by
  rw [← h, hexD_pos (n := n) (by omega)]

local macro_rules | `(tactic| walk_at "exec While Compare cons nil") => `(tactic| (k_here; k_dflt (refine Hold.out ?_)))
set_option maxHeartbeats 4000000 in
theorem code_digits_cl (w : World) (i : Int) (t : Tok) (h0 : 0 ≤ i) (h1 : i ≤ 1114111) : Cl w 103 1 [.int i t] (fun t => .str (hexS i.toNat) t) := by
  unfold Cl
  k_fill
  intro mean mg mb news dp un gd cn cs a ccd cl outer A₀ base h₀ L m s Q E B F X N T hk hdp hu hret
  refine wpAny_call ?_
  k_dflt cell_enter
  k_steps
  rename News _ _ _ _ => lN'
  rename Fr _ _ _ _ => lF'
  unfold Hold
  refine' while_2 (σ := Nat × Tok × List Nat × Tok) (Str.ofString "code") (Str.ofString "text") (fun c => .int (c.1 : Int) c.2.1) (fun c => .str (mkS (c.2.2.1.map figc)) c.2.2.2) (CdP i.toNat) (fun c => c.1) (i.toNat / 16, _, [i.toNat % 16], _) lF' lN' (congrArg (fun v => some (Value.int v _)) (fdiv16 h0)) (congrArg (fun v => some (Value.str v _)) (fig_mod h0)) cd_start ?turn ?hE
  case hE => passes_own
  case turn =>
    clear lF' lN'
    rintro ⟨n, t1, acc, t2⟩ h tk hd1 F' N'
    unfold CdP at hd1
    dsimp only at hd1 F'
    have hlen := cd_len h1 hd1
    k_steps
    · rename News _ _ _ _ => lN'
      rename Fr _ _ _ _ => lF'
      exact w_next (n / 16, _, n % 16 :: acc, _) lF' lN' (congrArg (fun v => some (Value.int v _)) cd_code) (congrArg (fun v => some (Value.str v _)) cd_text) (fun z e1 e2 => by simp only [if_neg e1, if_neg e2]) (cd_turn (by assumption) hd1) (by dsimp only; omega)
    · exact ret_S hret (by assumption) (by assumption) (cd_done hd1 (by assumption))
end

section
theorem clear_C4 : True := by
  w_top off
  k_with_none
  exact True.intro
local macro_rules | `(tactic| walk_at "eval Call") => `(tactic| (k_here; k_dflt (refine Call_ ?_)))
local macro_rules | `(tactic| walk_at "exec For Name Name cons nil") => `(tactic| (k_here; (rename Fr _ _ _ _ => lF'); (with_unfolding_all refine' For_invVF lF' ?k1 ?k2 ?_; (case k1 => exact rfl); (case k2 => exact rfl); k_whole)))
local macro_rules | `(tactic| walk_at "call ref") => `(tactic| ((with_reducible show wpAny _ _ (call (Value.ref 96) _) _ _ _); k_dflt (refine' (is_alnum_name_cl _ _ _) _ _ _ _ _ _ _ _ _ _ _ _ _ _ _ _ _ _ _ _ _ ?kB ?kF ?kX ?kN ?kT ?kk ?kd ?ku ?_; (case kB => k_asm); (case kF => k_asm); (case kX => k_asm); (case kN => k_asm); (case kT => k_asm); (case kk => first | exact rfl | assumption); (case kd => ktr_room); (case ku => ktr_units)); intro t9 h9 tk9 F9 N9; (try dsimp only); (try k_fold)))
local macro_rules | `(tactic| walk_at "call ref") => `(tactic| ((with_reducible show wpAny _ _ (call (Value.ref 103) _) _ _ _); k_dflt (refine' (code_digits_cl _ _ _ ?p0 ?p1) _ _ _ _ _ _ _ _ _ _ _ _ _ _ _ _ _ _ _ _ _ ?kB ?kF ?kX ?kN ?kT ?kk ?kd ?ku ?_; (case kB => k_asm); (case kF => k_asm); (case kX => k_asm); (case kN => k_asm); (case kT => k_asm); (case kk => first | exact rfl | assumption); (case kd => ktr_room); (case ku => ktr_units); (case p0 => omega); (case p1 => first | omega | exact mem_codes (by assumption) (by assumption))); intro t9 h9 tk9 F9 N9; (try dsimp only); (try k_fold)))
/-- one sign of a listing's word -/
def encI (i : Int) : Str := if 33 ≤ i ∧ i ≤ 126 ∧ i ≠ 39 ∧ i ≠ 92 then ⟨#[i.toNat]⟩ else Str.ofString "\\x" ++ hexS i.toNat ++ Str.ofString "\\"
/-- what quoted_name gives -/
def qnS (x : Str) : Str := if anS x = true then x else mkS (39 :: (KStt.codes x).flatMap (fun i => cpl (encI i)) ++ [39])

theorem one_lt {n k : Nat} : ([n] < [k]) ↔ n < k := by
  rw [List.cons_lt_cons_iff]; simp
theorem lt_sign {n k : Nat} {x : Str} (h : x.cps.toList = [k]) : ((⟨#[n]⟩ : Str).cps.toList < x.cps.toList) ↔ n < k := by
  rw [h]
  exact one_lt
theorem sign_lt {n k : Nat} {x : Str} (h : x.cps.toList = [k]) : (x.cps.toList < (⟨#[n]⟩ : Str).cps.toList) ↔ k < n := by
  rw [h]
  exact one_lt
theorem sign_ne {n k : Nat} {x : Str} (h : x = ⟨#[k]⟩) : (((⟨#[n]⟩ : Str) != x) = true) ↔ n ≠ k := by
  rw [h, bne_iff_ne]
  simp
theorem sign_eq {n k : Nat} {x : Str} (h : x = ⟨#[k]⟩) : (((⟨#[n]⟩ : Str) != x) = false) ↔ n = k := by
  rw [h, bne_eq_false_iff_eq]
  simp
theorem enc_raw {n : Nat} (h1 : ¬ (⟨#[n]⟩ : Str).cps.toList < (Str.ofString "!").cps.toList) (h2 : ¬ (Str.ofString "~").cps.toList < (⟨#[n]⟩ : Str).cps.toList) (h3 : ((⟨#[n]⟩ : Str) != Str.ofString "'") = true) (h4 : ((⟨#[n]⟩ : Str) != Str.ofString "\\") = true) :
    (⟨#[n]⟩ : Str) = encI n := by
  rw [lt_sign (k := 33) rfl] at h1
  rw [sign_lt (k := 126) rfl] at h2
  rw [sign_ne (x := Str.ofString "'") (k := 39) rfl] at h3
  rw [sign_ne (x := Str.ofString "\\") (k := 92) rfl] at h4
  unfold encI
  rw [if_pos (by omega)]
  rfl
theorem enc_esc {n : Nat} (h : ¬ (33 ≤ (n : Int) ∧ (n : Int) ≤ 126 ∧ (n : Int) ≠ 39 ∧ (n : Int) ≠ 92)) : Str.ofString "\\x" ++ hexS (n : Int).toNat ++ Str.ofString "\\" = encI n := by
  unfold encI
  rw [if_neg h]
theorem esc_lo {n : Nat} (h1 : (⟨#[n]⟩ : Str).cps.toList < (Str.ofString "!").cps.toList) : Str.ofString "\\x" ++ hexS (n : Int).toNat ++ Str.ofString "\\" = encI n := by
  rw [lt_sign (k := 33) rfl] at h1
  exact enc_esc (by omega)
theorem esc_hi {n : Nat} (h2 : (Str.ofString "~").cps.toList < (⟨#[n]⟩ : Str).cps.toList) : Str.ofString "\\x" ++ hexS (n : Int).toNat ++ Str.ofString "\\" = encI n := by
  rw [sign_lt (k := 126) rfl] at h2
  exact enc_esc (by omega)
theorem esc_q {n : Nat} (h3 : ((⟨#[n]⟩ : Str) != Str.ofString "'") = false) : Str.ofString "\\x" ++ hexS (n : Int).toNat ++ Str.ofString "\\" = encI n := by
  rw [sign_eq (x := Str.ofString "'") (k := 39) rfl] at h3
  exact enc_esc (by omega)
theorem esc_b {n : Nat} (h4 : ((⟨#[n]⟩ : Str) != Str.ofString "\\") = false) : Str.ofString "\\x" ++ hexS (n : Int).toNat ++ Str.ofString "\\" = encI n := by
  rw [sign_eq (x := Str.ofString "\\") (k := 92) rfl] at h4
  exact enc_esc (by omega)
theorem hexS_len {n : Nat} (h : n ≤ 1114111) : (hexS n).length ≤ 6 := by
  unfold hexS
  rw [mkS_len, List.length_map]
  exact digsN_len h
theorem encI_len {i : Int} (h : i ≤ 1114111) : (encI i).length ≤ 9 := by
  unfold encI
  split
  · exact Nat.le_of_ble_eq_true rfl
  · have := hexS_len (n := i.toNat) (by omega)
    have e1 : (Str.ofString "\\x").length = 2 := rfl
    have e2 : (Str.ofString "\\").length = 1 := rfl
    rw [PySem.Str.length_append, PySem.Str.length_append, e1, e2]
    omega
theorem codes_le {x : Str} (hx : ∀ c ∈ x.cps.toList, c ≤ 1114111) : ∀ i ∈ KStt.codes x, i ≤ 1114111 := by
  intro i hi
  obtain ⟨c, hc, rfl⟩ := List.mem_map.mp hi
  have := hx c hc
  omega
theorem qn_weight {x : Str} {ws : List Str} (hl : x.length ≤ 1000) (hx : ∀ c ∈ x.cps.toList, c ≤ 1114111) (hP : ws = Str.ofString "'" :: (KStt.codes x).map encI) : ((ws ++ [Str.ofString "'"]).map (·.length)).sum + (ws ++ [Str.ofString "'"]).length ≤ 1048576 := by
  subst hP
  have h := sum_le (fun i => (encI i).length) 9 (KStt.codes x) fun i hi => encI_len (codes_le hx i hi)
  have e1 : (Str.ofString "'").length = 1 := rfl
  simp only [List.map_append, List.map_cons, List.map_nil, List.sum_append, List.sum_cons, List.sum_nil, List.map_map, Function.comp_def, List.length_append, List.length_cons, List.length_nil, List.length_map, KStt.codes_length, e1] at h ⊢
  omega
theorem qn_join {x : Str} {ws : List Str} (ha : anS x = false) (hP : ws = Str.ofString "'" :: (KStt.codes x).map encI) : Txt.join (Str.ofString "") (ws ++ [Str.ofString "'"]) = qnS x := by
  subst hP
  unfold qnS
  rw [if_neg (by rw [ha]; exact Bool.false_ne_true)]
  refine cpl_ext ?_
  rw [cpl_join _ rfl, cpl_T]
  simp only [List.cons_append, List.flatMap_cons, List.flatMap_append, List.flatMap_map, List.flatMap_nil]
  rfl
theorem qn_same {x : Str} (ha : anS x = true) : x = qnS x := by
  unfold qnS
  rw [if_pos ha]

set_option maxHeartbeats 4000000 in
theorem quoted_name_cl (w : World) (x : Str) (t : Tok) (hl : x.length ≤ 1000) (hx : ∀ c ∈ x.cps.toList, c ≤ 1114111) : Cl w 110 4 [.str x t] (fun t => .str (qnS x) t) := by
  unfold Cl
  k_fill
  intro mean mg mb news dp un gd cn cs a ccd cl outer A₀ base h₀ L m s Q E B F X N T hk hdp hu hret
  refine wpAny_call ?_
  k_dflt cell_enter
  k_steps
  · exact ret_S hret (by assumption) (by assumption) (qn_same (by assumption))
  rename News _ _ _ _ => lN'
  rename Fr _ _ _ _ => lF'
  refine' text_parts_loop (fun pre ws => ws = Str.ofString "'" :: pre.map encI) ?hh lF' lN' ?hu ?hp ?turn ?done
  case hh => rfl
  case hu => exact .cons _ _ .nil
  case hp => rfl
  case turn =>
    clear lF' lN'
    intro us ws n₁ pre post n t h tk own kEq kOff hU hP F' N'
    have kMark := kstMark
    have hlen := len_turn hl kEq hU hP
    have hmem := mem_codes hx kEq
    have hhex : (hexS (n : Int).toNat).length ≤ 6 := hexS_len (by omega)
    k_steps
    all_goals rename News _ _ _ _ => lN'
    all_goals rename Fr _ _ _ _ => lF'
    all_goals simp only [List.push_toArray] at lN'
    all_goals refine pj_end lF' lN' (hU.append' (.cons _ _ .nil)) ?_ (fun z hz => by simp only [if_neg hz])
    all_goals rw [hP]
    all_goals rw [List.map_append, List.cons_append, List.map_cons, List.map_nil]
    all_goals refine congrArg (fun z => Str.ofString "'" :: (pre.map encI ++ [z])) ?_
    all_goals first | exact enc_raw (by assumption) (by assumption) (by assumption) (by assumption) | exact esc_lo (by assumption) | exact esc_hi (by assumption) | exact esc_q (by assumption) | exact esc_b (by assumption)
  case done =>
    clear lF' lN'
    intro us ws n₁ u h tk hU hP F' N'
    have kMark := kstMark
    have hlen := len_done hl hU hP
    k_steps
    rename News _ _ _ _ => lN'
    simp only [List.push_toArray] at lN'
    refine join_listW (News.isList lN' (.head _)) (hU.append' (.cons _ _ .nil)) (by decide +kernel) (qn_weight hl hx hP) ?_
    intro t' k
    rw [qn_join (by assumption) hP]
    k_steps
    rename News _ _ _ _ => lN'
    exact ret_S hret (by assumption) (news_of lN' fun p hp => List.mem_cons_of_mem _ hp) rfl
end

section
theorem clear_C5 : True := by
  w_top off
  k_with_none
  exact True.intro
local macro_rules | `(tactic| walk_at "eval Call") => `(tactic| (k_here; k_dflt (refine Call_ ?_)))
local macro_rules | `(tactic| walk_at "exec For Name Name cons nil") => `(tactic| (k_here; (rename Fr _ _ _ _ => lF'); (with_unfolding_all refine' For_invVF lF' ?k1 ?k2 ?_; (case k1 => exact rfl); (case k2 => exact rfl); k_whole)))
/-- what holds between the turns of read_code's loop -/
def RcP (ds : List Nat) (pre : List Int) (v : Value) : Prop := ∃ a b t, ds = a ++ b ∧ pre = a.map (fun d => (figc d : Int)) ∧ v = .int (hexV 0 a : Nat) t
theorem codes_mkS (l : List Nat) : KStt.codes (mkS l) = l.map (fun (c : Nat) => (c : Int)) := rfl
theorem rc_turn {ds : List Nat} {pre post : List Int} {n : Nat} {v : Value} (e : KStt.codes (mkS (ds.map figc)) = pre ++ (n : Int) :: post) (h : RcP ds pre v) :
    ∃ a d b t, ds = a ++ d :: b ∧ pre = a.map (fun d => (figc d : Int)) ∧ v = .int (hexV 0 a : Nat) t ∧ n = figc d := by
  obtain ⟨a, b, t, rfl, rfl, rfl⟩ := h
  rw [codes_mkS, List.map_map, List.map_append] at e
  have e2 := List.append_cancel_left (as := a.map (fun d => (figc d : Int))) e
  cases b with
  | nil => cases e2
  | cons d b =>
    have h1 := (List.cons.inj e2).1
    refine ⟨a, d, b, t, rfl, rfl, rfl, ?_⟩
    have h2 : ((figc d : Nat) : Int) = (n : Int) := h1
    omega
theorem rc_next {ds a b : List Nat} {d : Nat} {pre : List Int} {i : Int} {t : Tok} (hds : ds = a ++ d :: b) (hpre : pre = a.map (fun d => (figc d : Int))) (hi : i = (d : Int)) : RcP ds (pre ++ [((figc d : Nat) : Int)]) (.int ((hexV 0 a : Int) * 16 + i) t) := by
  subst hi
  refine ⟨a ++ [d], b, t, by rw [hds, List.append_assoc]; rfl, by rw [hpre, List.map_append]; rfl, ?_⟩
  rw [hexV_app]
  show Value.int _ t = Value.int ((hexV 0 a * 16 + d : Nat) : Int) t
  rw [Int.natCast_add, Int.natCast_mul]; rfl
theorem rc_done {ds : List Nat} {v : Value} (h : RcP ds (KStt.codes (mkS (ds.map figc))) v) : ∃ t, v = .int (hexV 0 ds : Nat) t := by
  obtain ⟨a, b, t, rfl, e, rfl⟩ := h
  have h1 := congrArg List.length e
  rw [codes_mkS] at h1
  simp only [List.length_map, List.length_append] at h1
  have h2 : b = [] := List.eq_nil_of_length_eq_zero (by omega)
  subst h2
  rw [List.append_nil]
  exact ⟨t, rfl⟩

set_option maxHeartbeats 4000000 in
theorem read_code_cl (w : World) (ds : List Nat) (t : Tok) (hd : ∀ d ∈ ds, d < 16) (hv : hexV 0 ds ≤ 1114111) : Cl w 117 1 [.str (mkS (ds.map figc)) t] (fun t => .int (hexV 0 ds : Nat) t) := by
  unfold Cl
  k_fill
  intro mean mg mb news dp un gd cn cs a ccd cl outer A₀ base h₀ L m s Q E B F X N T hk hdp hu hret
  refine wpAny_call ?_
  k_dflt cell_enter
  k_steps
  rename News _ _ _ _ => lN'
  rename Fr _ _ _ _ => lF'
  refine' text_value_loop (Str.ofString "value") (Str.ofString "figure") (RcP ds) ?hh lF' lN' rfl ?hp ?turn ?done
  case hh => rfl
  case hp => exact ⟨[], ds, _, rfl, rfl, rfl⟩
  case turn =>
    clear lF' lN'
    intro v pre post n t u h tk own kEq kOff hP F' N'
    have kMark := kstMark
    obtain ⟨a, d, b, t', hds, hpre, rfl, rfl⟩ := rc_turn kEq hP
    have hd' : d < 16 := hd d (by rw [hds]; simp)
    have hf := find_fig d hd'
    have hv' : hexV 0 a * 16 + d ≤ 1114111 := by
      have h1 := hexV_ge b (hexV 0 a * 16 + d)
      have h2 : hexV 0 ds = hexV (hexV 0 a * 16 + d) b := by rw [hds, hexV_app]; rfl
      omega
    k_steps
    rename News _ _ _ _ => lN'
    rename Fr _ _ _ _ => lF'
    exact vj_end lF' lN' rfl (rc_next hds hpre hf) (fun z e1 e2 e3 => by simp only [if_neg e1, if_neg e2, if_neg e3])
  case done =>
    clear lF' lN'
    intro v u u' h tk hP F' N'
    obtain ⟨t', rfl⟩ := rc_done hP
    have kMark := kstMark
    k_steps
    exact ret_I hret (by assumption) (by assumption) rfl
end

/-! an exception of the text's own class LinkFault, made with its own __init__ -/
abbrev faultBm : List Value := [.ref 38, .type "Exception", .type "BaseException", .type "object"]
abbrev faultBase : List Value := [.type "Exception", .type "BaseException", .type "object"]
abbrev faultObj : Obj := excClassObj (Str.ofString "LinkFault") (Str.ofString "LinkFault") 59 58 [.ref 38] faultBm true [] [] false none none (some (.ref 42)) none (some (.str (Str.ofString "LinkFault") 228)) (some (.str (Str.ofString "LinkFault") 236)) (some (.bool true)) "Exception.__new__"
abbrev exc0 (t : Addr) : Obj := { cls := .ref 59, data := .fields #[.ref t, .none, .none, .none, .bool false, .none] }

abbrev exc1 (t D : Addr) : Obj := { cls := .ref 59, dict := some D, data := .fields #[.ref t, .none, .none, .none, .bool false, .none] }

structure FaultAt (h : Heap) (mN mP : Str → Option Value) : Prop where
  cls : h.get? 59 = some faultObj
  ns : h.Ns 58 mN
  base : ∃ c0 dd cd sl, h.get? 38 = some { cls := c0, dict := dd, data := .cls cd, slots := sl } ∧ h.Ns cd.ns mP
  init : mN "__init__" = some (.ref 56)
  noSet : mN "__setattr__" = none
  noWhat : mN "what" = none
  noInit' : mP "__init__" = none
  noSet' : mP "__setattr__" = none
  noWhat' : mP "what" = none
  fn : ∃ o, h.get? 56 = some o ∧ o.cls = .type "function"

theorem ns_some_of {K : Frag} {h : Heap} {N : Addr} {mg : Str → Option Value} {n : Str} {v : Value} (X : K.In h) (G : h.Ns N mg) (e : nsIn K N n = some (some v)) : mg n = some v := by
  obtain ⟨o, es, ep, ho, hd, _, hf⟩ := G
  unfold nsIn at e
  split at e
  · rename_i c d es' n' sl q
    have := X _ _ q
    rw [ho] at this
    cases this
    cases hd
    split at e
    · rename_i en he
      cases e
      rw [← hf]
      unfold nsFind findBy
      rw [← Array.find?_toList, he]
      rfl
    · split at e <;> cases e
  · cases e

def isFnAt (K : Frag) (a : Addr) : Bool := match K.lookup a with
  | some o => o.cls == .type "function"
  | none => false
theorem fn_of {K : Frag} {h : Heap} {a : Addr} (X : K.In h) (e : isFnAt K a = true) : ∃ o, h.get? a = some o ∧ o.cls = .type "function" := by
  unfold isFnAt at e
  split at e
  · rename_i o q
    exact ⟨o, X _ _ q, beq_iff_eq.mp e⟩
  · cases e
def clsNsAt (K : Frag) (a n : Addr) : Bool := match K.lookup a with
  | some ⟨_, _, .cls cd, _⟩ => cd.ns == n
  | _ => false
theorem clsNs_of {K : Frag} {h : Heap} {a n : Addr} {m : Str → Option Value} (X : K.In h) (e : clsNsAt K a n = true) (hn : h.Ns n m) : ∃ c0 dd cd sl, h.get? a = some { cls := c0, dict := dd, data := .cls cd, slots := sl } ∧ h.Ns cd.ns m := by
  unfold clsNsAt at e
  split at e
  · rename_i c0 dd cd sl q
    exact ⟨c0, dd, cd, sl, X _ _ q, by rw [beq_iff_eq.mp e]; exact hn⟩
  · cases e
theorem fault_of {w : World} {h : Heap} (X : (hd.heap_39 w.params).In h) : FaultAt h (h.nsMap 58) (h.nsMap 37) := by
  have n58 : h.Ns 58 (h.nsMap 58) := .of_isNs (isNs_of_in X (by kernel_rfl))
  have n37 : h.Ns 37 (h.nsMap 37) := .of_isNs (isNs_of_in X (by kernel_rfl))
  exact ⟨X 59 _ (by kernel_rfl), n58, clsNs_of X (by kernel_rfl) n37, ns_some_of X n58 (by kernel_rfl), ns_none_of X n58 (by kernel_rfl), ns_none_of X n58 (by kernel_rfl), ns_none_of X n37 (by kernel_rfl), ns_none_of X n37 (by kernel_rfl), ns_none_of X n37 (by kernel_rfl), fn_of X (by kernel_rfl)⟩

theorem FaultAt.keeps {h h' : Heap} {mN mP : Str → Option Value} (D : FaultAt h mN mP) (hk : ∀ b o, h.get? b = some o → h'.get? b = some o) : FaultAt h' mN mP := by
  obtain ⟨c, n, ⟨c0, dd, cd, sl, hb, hn⟩, i, s1, s2, s3, s4, s5, ⟨o, ho, hc⟩⟩ := D
  exact ⟨hk _ _ c, n.keeps hk, ⟨c0, dd, cd, sl, hk _ _ hb, hn.keeps hk⟩, i, s1, s2, s3, s4, s5, ⟨o, hk _ _ ho, hc⟩⟩

section
variable {M : Model} {A : Around} {E : Value → Shared → Prop} {h : Heap} {g : Array GenState} {d : Drawn} {t : Nat} {os : OsState} {mN mP : Str → Option Value}

/-- a name looked up along LinkFault's line of classes -/
theorem look_fault {name : Str} {y : Option Value} {Q : Option Value → Shared → Prop} (D : FaultAt h mN mP) (hP : mP name = none) (hB : typeLookup (.type "Exception") name = pure y)
    (hq : Q (match mN name with | some v => some v | none => y) ⟨h, g, d, t, os⟩) : wpAny M A (typeLookup (.ref 59) name) Q E ⟨h, g, d, t, os⟩ := by
  obtain ⟨c0, dd, cd, sl, hb, hn⟩ := D.base
  have hrest : lookupAlong faultBase name = pure y := by
    rw [typeLookup_eq, PySem.F.excBase_Exception.mroIs] at hB
    exact hB
  rw [typeLookup_eq]
  refine wpAny_bind (wpAny_mroOf_exc D.cls ?_)
  rw [lookupAlong_cons]
  refine wpAny_bind (wpAny_classOwn_exc D.cls D.ns ?_)
  cases hv : mN name with
  | some v => rw [hv] at hq; exact wpAny_pure hq
  | none =>
    rw [hv] at hq
    show wpAny M A (lookupAlong (.ref 38 :: faultBase) name) Q E _
    rw [lookupAlong_cons]
    refine wpAny_bind (wpAny_classOwn_cls hb hn ?_)
    rw [hP]
    show wpAny M A (lookupAlong faultBase name) Q E _
    rw [hrest]
    exact wpAny_pure hq
end

open Builtin Builtin.ObjectAttr in
section
variable {prog : Program} {w : World} {A : Around} {E : Value → Shared → Prop} {h : Heap} {g : Array GenState} {d : Drawn} {t : Nat} {os : OsState} {mN mP : Str → Option Value}

theorem check_fault {M : Model} {e tt : Addr} {nameV v : Value} {Q : Unit → Shared → Prop} (D : FaultAt h mN mP) (he : h.get? e = some (exc0 tt)) (hq : Q () ⟨h, g, d, t, os⟩) :
    wpAny M A (checkBuiltinCall "object.__setattr__" ⟨[.ref e, nameV, v], []⟩) Q E ⟨h, g, d, t, os⟩ := by
  have SF := PySem.F.store_Exception
  have hcB : (Value.ref 59 :: faultBm).contains (.type "object") = true := by decide
  have ha := SF.args (.ref e) nameV v
  have hC := D.cls
  simp only [checkBuiltinCall, SF.kind, SF.split]
  refine wpAny_bind ?_
  unfold isInstance
  repeat (first | with_reducible refine wpAny_loadPart_at he ?_ | (with_reducible refine wpAny_isSubtype_exc hC ?_; rw [hcB]) | wp_step)
  exact hq

set_option maxHeartbeats 4000000 in
theorem entry_fault {e tt : Addr} {tk : Tok} {v : Value} {Q : Fin → Shared → Prop} (D : FaultAt h mN mP) (he : h.get? e = some (exc0 tt))
    (hq : ∀ h' tk', h'.get? e = some (exc1 tt h.objs.size) → (∀ b o, b ≠ e → h.get? b = some o → h'.get? b = some o) → Q (.done (.ret .none)) ⟨h', g, d, tk', os⟩) :
    wpAny (model prog w) A (Builtin.«object.__setattr__» ⟨[.ref e, .str (Str.ofString "what") tk, v], []⟩) Q E ⟨h, g, d, t, os⟩ := by
  have SF := PySem.F.store_Exception
  have hpass := SF.passes (.ref e)
  have hC := D.cls
  have hloop : refuseLoop (.ref e) "__setattr__" (.ref 59 :: faultBm) = pure () := by
    rw [refuseLoop_ref]
    show refuseLoop (.ref e) "__setattr__" (.ref 38 :: faultBase) = pure ()
    rw [refuseLoop_ref]
    exact hpass
  have hB : typeLookup (.type "Exception") (Str.ofString "what") = pure none := by rw [typeLookup_type, builtinLookup_eq_fast]; kernel_rfl
  have hes : e ≠ h.objs.size := Nat.ne_of_lt (Heap.lt_size he)
  have he₁ : (h.push { cls := .type "dict", data := .dict #[] }).get? e = some (exc0 tt) := Heap.get?_push_of_some _ he
  have hgd : ((h.push { cls := .type "dict", data := .dict #[] }).update e fun o => { cls := o.cls, dict := some h.objs.size, data := o.data, slots := o.slots }).get? h.objs.size
      = some { cls := .type "dict", data := .dict #[] } :=
    (Heap.get?_update_ne _ _ _ _ hes.symm).trans (Heap.get?_push_at rfl rfl)
  have hnd : ((h.push { cls := .type "dict", data := .dict #[] }).update e fun o => { cls := o.cls, dict := some h.objs.size, data := o.data, slots := o.slots }).Ns h.objs.size (fun _ => none) :=
    ⟨_, #[], _, hgd, rfl, fun e he => absurd he (by simp), fun _ => rfl⟩
  unfold Builtin.«object.__setattr__»
  repeat (first | (with_reducible refine wpAny_nsSet1 (Heap.Ns1.of_empty hnd) fun h' hn' hs => Hold.out ?_) | rw [refuse_eq] | rw [hloop] | with_reducible refine wpAny_loadPart_at he ?_ | with_reducible refine wpAny_mroOf_exc hC ?_ | (with_reducible refine look_fault D D.noWhat' hB ?_; rw [D.noWhat]) | wp_step)
  unfold Hold
  obtain ⟨oD, esD, epD, hoD, hdD, hcD⟩ := hn'.count (Within.cons (Str.ofString "what") v Within.nil)
  refine wpAny_bind (wpAny_lookBehind hoD (by rw [hdD]; exact pastItsLine_dict (Nat.le_trans hcD (by rw [List.length_cons, List.length_nil, sizeLine_eq]; omega))) ?_)
  refine wpAny_pure (hq h' _ ?_ fun b o hbe hb => ?_)
  · exact (hs.2 e hes).trans (Heap.get?_update_self _ he₁ rfl)
  · exact (hs.2 b (Nat.ne_of_lt (Heap.lt_size hb))).trans ((Heap.get?_update_ne _ _ _ _ hbe).trans (Heap.get?_push_of_some _ hb))

theorem store_fault {e tt : Addr} {v : Value} {Q : Unit → Shared → Prop} (D : FaultAt h mN mP) (he : h.get? e = some (exc0 tt))
    (hq : ∀ h' tk', h'.get? e = some (exc1 tt h.objs.size) → (∀ b o, b ≠ e → h.get? b = some o → h'.get? b = some o) → Q () ⟨h', g, d, tk', os⟩) :
    wpAny (model prog w) A (setAttr (.ref e) (Str.ofString "what") v) Q E ⟨h, g, d, t, os⟩ := by
  have SF := PySem.F.store_Exception
  have f3 := SF.slot.bind (.ref e)
  have hC := D.cls
  unfold setAttr callSpecial? specialOf
  repeat (any_goals (first | assumption | with_reducible refine wpAny_loadPart_at he ?_ | (with_reducible refine look_fault D D.noSet' SF.slot.lookup ?_; rw [D.noSet]) | wp_step))
  refine codeAny_call_builtin SF.slot.plain SF.entry (check_fault D he (entry_fault D he fun h' tk' h1 h2 => ?_))
  repeat (any_goals (first | assumption | wp_step))
  exact hq h' tk' h1 h2
end

section
variable {prog : Program} {w : World} {A : Around} {E : Value → Shared → Prop} {h : Heap} {g : Array GenState} {d : Drawn} {t : Nat} {os : OsState} {mN mP : Str → Option Value}

theorem fault_tail (D : FaultAt h mN mP) : OwnTail h faultBase faultBm := by
  obtain ⟨c0, dd, cd, sl, hb, hn⟩ := D.base
  exact .own hb hn D.noInit' .base

set_option maxHeartbeats 4000000 in
theorem type_call_fault {rest : List Value} {Q : Fin → Shared → Prop} (D : FaultAt h mN mP) (hrest : rest.length ≤ sizeLine)
    (hq : codeAny (model prog w) A (.call (.ref 56) ⟨.ref (h.objs.size + 1) :: rest, []⟩) (fun r s' => match r with | .ok (.ret v) => v = .none ∧ Q (.done (.ret (.ref (h.objs.size + 1)))) s' | .ok _ => False | .error e => E e s')
      ⟨(h.push { cls := .type "tuple", data := .seq rest.toArray }).push (exc0 h.objs.size), g, d, t, os⟩) :
    wpAny (model prog w) A (Builtin.«type.__call__» ⟨.ref 59 :: rest, []⟩) Q E ⟨h, g, d, t, os⟩ := by
  have hC := D.cls
  have BF := PySem.F.excBase_Exception
  repeat (first | with_reducible refine wpAny_loadPart_at hC ?_ | with_reducible refine wpAny_madeBy_exc hC ?_ | wp_step)
  refine codeAny_call_builtin_code (Code.quiet_builtin _ BF.quiet) (wpAny_check_new_subT BF (fault_tail D) hC ?_)
  refine codeAny_exc_new_subT BF (fault_tail D) hC ?_ hrest
  show wpAny _ _ _ _ _ _
  have hget : ((h.push { cls := .type "tuple", data := .seq rest.toArray }).push (exc0 h.objs.size)).get? (h.objs.size + 1) = some (exc0 h.objs.size) := by heap_get
  have D₁ : FaultAt ((h.push { cls := .type "tuple", data := .seq rest.toArray }).push (exc0 h.objs.size)) mN mP :=
    D.keeps fun b o e => Heap.get?_push_of_some _ (Heap.get?_push_of_some _ e)
  have hC₁ := D₁.cls
  have hcC : (Value.ref 59 :: faultBm).contains (.ref 59) = true := by decide
  obtain ⟨of, hof, hoc⟩ := D₁.fn
  unfold isInstance
  repeat (first | with_reducible refine wpAny_loadPart_at hget ?_ | (with_reducible refine wpAny_isSubtype_exc hC₁ ?_; rw [hcC]) | wp_step)
  show wpAny _ _ (typeLookup (.ref 59) _) _ _ _
  refine look_fault D₁ D₁.noInit' BF.init.lookup ?_
  rw [D₁.init]
  refine wpAny_holding (wpAny_bind ?_)
  unfold bindSpecial
  repeat (first | (with_reducible refine wpAny_loadPart_at hof ?_; rw [hoc]) | wp_step)
  refine codeAny_mono hq fun r s' hr => ?_
  cases r with
  | error e => exact hr
  | ok f =>
    cases f with
    | ret v =>
      obtain ⟨rfl, hr⟩ := hr
      refine wpAny_pure ?_
      show wpAny (model prog w) A (ret (.ref (h.objs.size + 1))) Q E s'
      exact wpAny_pure hr
    | next => exact hr
    | brk => exact hr
    | cont => exact hr

theorem call_fault {rest : List Value} {Q : Value → Shared → Prop} (D : FaultAt h mN mP) (hrest : rest.length ≤ sizeLine)
    (hq : codeAny (model prog w) (A.under (.builtin "type.__call__" ⟨.ref 59 :: rest, []⟩)) (.call (.ref 56) ⟨.ref (h.objs.size + 1) :: rest, []⟩)
      (fun r s' => match r with | .ok (.ret v) => v = .none ∧ Q (.ref (h.objs.size + 1)) s' | .ok _ => False | .error e => E e s')
      ⟨(h.push { cls := .type "tuple", data := .seq rest.toArray }).push (exc0 h.objs.size), g, d, t, os⟩) :
    wpAny (model prog w) A (call (.ref 59) rest) Q E ⟨h, g, d, t, os⟩ := by
  have hC := D.cls
  have f1 := tc_lookup
  have f2 := tc_bind (.ref 59)
  have hT : (⟨h, g, d, t, os⟩ : Shared).TypeIs (.ref 59) "type" := ⟨_, hC, rfl⟩
  refine wpAny_call (codeAny_of_tree ?_)
  show wpAny _ _ (callAny (.ref 59) _) _ _ _
  repeat (any_goals (first | assumption | with_reducible refine wpAny_loadPart_at hC ?_ | wp_step))
  refine ⟨rfl, ?_⟩
  refine codeAny_call_builtin_at (Code.quiet_builtin _ (by decide +kernel)) entry_typeCall (wpAny_check_type_call_sub hC (type_call_fault D hrest ?_))
  refine codeAny_mono hq fun r s' hr => ?_
  cases r with
  | error e => exact hr
  | ok f => cases f <;> exact hr
end

section
theorem clear_C9 : True := by
  w_top off
  k_with_none
  exact True.intro
section
variable {w : World} {A : Around} {E : Value → Shared → Prop} {s : Shared} {h₀ : Heap} {L : Addr} {m : Str → Option Value} {news : List (Addr × Obj)}

theorem set_fault {prog : Program} {e tt : Addr} {v : Value} {Q : Unit → Shared → Prop} (F : Fr h₀ L s.heap m) (X : (hd.heap_39 w.params).In h₀) (N : News h₀ L s.heap ((e, exc0 tt) :: news)) (hne : ∀ p ∈ news, p.1 ≠ e)
    (hq : ∀ D h' tk', Fr h₀ L h' m → News h₀ L h' ((e, exc1 tt D) :: news) → Q () { s with heap := h', toks := tk' }) :
    wpAny (model prog w) A (setAttr (.ref e) (Str.ofString "what") v) Q E s := by
  obtain ⟨hp, g, d, tk, os⟩ := s
  have hN := N _ List.mem_cons_self
  refine store_fault (fault_of (X.keeps F.keep)) hN.1 fun h' tk' h1 h2 => ?_
  refine hq hp.objs.size h' tk' ⟨F.ns.at fun o ho => h2 _ _ (fun q => hN.2.1 q.symm) ho, fun b o ho => h2 b o (fun q => by
    have := hN.2.2
    rw [← q, ho] at this
    cases this) (F.keep b o ho), F.above⟩ fun p hp => ?_
  rcases List.mem_cons.mp hp with rfl | hp
  · exact ⟨h1, hN.2⟩
  · have := N p (List.mem_cons_of_mem _ hp)
    exact ⟨h2 _ _ (hne p hp) this.1, this.2⟩
end

local macro_rules | `(tactic| walk_at "setAttr ref") => `(tactic| (k_here; k_dflt (refine Hold.out ?_)))

def MkF (w : World) (x : Str) (tx : Tok) : Prop :=
  ∀ (mean : ExcName → Option Value) (mg mb : Str → Option Value) (news : List (Addr × Obj)) (dp un : Nat) (gd : Option (List Code)) (cn : Str) (cs : Scope) (a : Addr) (ccd : Value) (cl : List (Str × Addr)) (outer : List Env) (A₀ : Around) (base h₀ : Heap) (L : Addr) (m : Str → Option Value) (s : Shared) (Q E : Value → Shared → Prop),
    Below A₀ base outer h₀ → Fr h₀ L s.heap m → (hd.heap_39 w.params).In h₀ → News h₀ L s.heap news →
    Top hd.view_39 (looseW hd.view_39 [Str.ofString "LinkFault"]) mean mg mb h₀ → cs.kind = .function → dp + 3 < recursionLimit → un + 8 * 3 < cLine →
    (∀ e t D h' tk', Fr h₀ L h' m → News h₀ L h' ((e, exc1 t D) :: news) → (∀ p ∈ news, p.1 < e) → Q (.ref e) { s with heap := h', toks := tk' }) →
    wpAny (model PySem.Challenge.rw_rr0013_01.row.prog w) (ktrTop dp un gd cn cs L a ccd cl outer) (call (.ref 59) [.str x tx]) Q E s

set_option maxHeartbeats 4000000 in
theorem make_fault (w : World) (x : Str) (tx : Tok) : MkF w x tx := by
  unfold MkF
  k_fill
  intro mean mg mb news dp un gd cn cs a ccd cl outer A₀ base h₀ L m s Q E B F X N T hk hdp hu hret
  obtain ⟨hp, gs, d, tk, os⟩ := s
  refine call_fault (fault_of (X.keeps F.keep)) (Nat.le_of_ble_eq_true rfl) ?_
  have hlt : ∀ p ∈ news, p.1 < hp.objs.size + 1 := fun p hp' => Nat.lt_succ_of_lt (Heap.lt_size (N p hp').1)
  have F₂ : Fr h₀ L ((hp.push { cls := .type "tuple", data := .seq [Value.str x tx].toArray }).push (exc0 hp.objs.size)) m := (F.push _).push _
  have N₂ : News h₀ L ((hp.push { cls := .type "tuple", data := .seq [Value.str x tx].toArray }).push (exc0 hp.objs.size)) ((hp.objs.size + 1, exc0 hp.objs.size) :: news) := by
    intro p hp'
    rcases List.mem_cons.mp hp' with rfl | hp'
    · refine ⟨by heap_get, Nat.ne_of_gt (Nat.lt_succ_of_lt F.ns.lt), ?_⟩
      cases q : h₀.get? (hp.objs.size + 1) with
      | none => rfl
      | some o => exact absurd (Heap.lt_size q) (Nat.not_lt.mpr (Nat.le_trans F.above (Nat.le_of_lt (Nat.lt_succ_of_lt F.ns.lt))))
    · have := N p hp'
      exact ⟨Heap.get?_push_of_some _ (Heap.get?_push_of_some _ this.1), this.2⟩
  clear N F
  k_dflt (refine' code_def ?k1 ?k2 ?k3 ?k4 ?k5 ?kA ?kF ?kK ?k6 ?k7 ?k8 ?k9 ?kB ?_ ?c2 ?c3 ?c4 ?c5; (case kA => exact rfl); (case kF => exact rfl); (case kK => assumption); (case k1 => k_asm); (case k2 => k_asm); (case k3 => k_asm); (case k4 => k_asm); (case k5 => k_asm); (case k6 => k_is); (case k7 => k_is); (case k8 => ktr_room); (case k9 => exact binds_K (by k_in) rfl (by k_is) rfl rfl rfl); (case c5 => decide); (case kB => exact locs rfl); (case c2 => exact rfl); (case c3 => exact rfl); (case c4 => exact rfl); k_whole; intro g' L' h' FG' F' N' B' X' T'; (try dsimp only); (try k_lift B'); (try k_fold))
  k_steps
  unfold Hold
  refine set_fault F' X' N' (fun p hp' => Nat.ne_of_lt (hlt p hp')) fun D h'' tk'' F'' N'' => ?_
  clear F' N'
  k_steps
  exact hret _ _ _ _ _ (by assumption) (by assumption) hlt

section
variable {M : Model} {A : Around} {E : Value → Shared → Prop} {s : Shared} {env : Env} {mN mP : Str → Option Value}
/-- raise of a LinkFault that was just made -/
theorem raiseStmt_fault {x : Sem Value} {Q : Flow → Shared → Prop} (hh : A.handled = none)
    (h : wpAny M A x (fun v s₁ => ∃ e t D mN mP, v = .ref e ∧ FaultAt s₁.heap mN mP ∧ s₁.heap.get? e = some (exc1 t D) ∧ E (.ref e) s₁) E s) :
    wpAny M A (raiseStmt env (some x) none) Q E s := by
  have hcB : (Value.ref 59 :: faultBm).contains (.type "BaseException") = true := by decide
  unfold raiseStmt
  refine wpAny_bind (wpAny_mono h (fun v s₁ h₁ => ?_) fun _ _ x => x)
  obtain ⟨e, t, D, mN, mP, rfl, FA, he, hE⟩ := h₁
  obtain ⟨hp, g, d, tk, os⟩ := s₁
  have hC := FA.cls
  repeat (first | with_reducible refine wpAny_loadPart_at he ?_ | with_reducible refine wpAny_loadPart_at hC ?_ | (with_reducible refine wpAny_isSubtype_exc hC ?_; rw [hcB]) | wp_step)
  exact wpAny_raiseNew_none hh hE

def FaultQ (E : Value → Shared → Prop) (v : Value) (s₁ : Shared) : Prop := ∃ e t D mN mP, v = .ref e ∧ FaultAt s₁.heap mN mP ∧ s₁.heap.get? e = some (exc1 t D) ∧ E (.ref e) s₁
theorem Raise_fault {x : Str} {np cpos pos : Pos} {args : List Expr} {Q : Flow → Shared → Prop} (hh : A.handled = none)
    (h : wpAny M A (eval (.Call (.Name x np) args [] cpos) env) (FaultQ E) E s) :
    wpAny M A (exec (.Raise (some (.Call (.Name x np) args [] cpos)) none pos) env) Q E s := by
  rw [arm_exec_Raise]
  refine wpAny_bind (wpAny_standAt (raiseStmt_fault hh ?_))
  exact wpAny_bind (wpAny_mono h (fun v s₁ h₁ => wpAny_bind (wpAny_standAt (wpAny_pure h₁))) fun _ _ x => x)
end

section
variable {M : Model} {A : Around} {E : Value → Shared → Prop} {s' : Shared} {base g : Heap} {outer : List Env} {L a e tt D : Addr} {m : Str → Option Value} {name : Str} {scope : Scope} {cd : Value} {Q : Unit → Shared → Prop} {news rest : List (Addr × Obj)}
/-- an exception that stands in the ledger leaves the frame that raised it -/
theorem leave_fault (K : Below A base outer g) (F : Fr g L s'.heap m) (N : News g L s'.heap ((e, exc1 tt D) :: rest)) (hs : ∀ q ∈ news, q ∈ rest) (hne : ∀ q ∈ news, q.1 ≠ e)
    (hQ : ∀ h', RaisedSN base g outer e (.ref 59) news h' → g.UpToSlots h' → Q () { s' with heap := h' }) (hk : scope.kind = .function := by rfl) :
    wpAny M (A.deeper (envOf name scope L a cd)) (leaving (envOf name scope L a cd) (.ref e)) Q E s' := by
  have K' := K.push (name := name) (a := a) (cd := cd) F hk
  have he := N _ List.mem_cons_self
  have fr : ∀ b ∈ (envOf name scope L a cd :: outer).filterMap (·.frame), b = L ∨ ∃ o, g.get? b = some o := fun b hm => by
    rcases kts_mem hm with z | z
    · exact .inl z
    · obtain ⟨_, o, ho, _⟩ := K.frames.mem z
      exact .inr ⟨o, ho⟩
  have notFr : ∀ q ∈ ((e, exc1 tt D) :: rest), q.1 ∉ (envOf name scope L a cd :: outer).filterMap (·.frame) := fun q hq hm => by
    rcases fr _ hm with z | ⟨o, ho⟩
    · exact (N q hq).2.1 z
    · rw [(N q hq).2.2] at ho; cases ho
  have eb : base.get? e = none := fresh_of_stays K.stays he.2.2
  have st : base.StaysIn (hideAll s'.heap (e :: (envOf name scope L a cd :: outer).filterMap (·.frame))) := fun b o q => hideAll_get _ (K'.stays b o q) fun hm => by
    rcases List.mem_cons.mp hm with z | hm
    · rw [z, eb] at q; cases q
    · rw [(K'.frames.mem hm).1] at q; cases q
  have sg : ∀ b o, g.get? b = some o → b ∉ outer.filterMap (·.frame) → (hideAll s'.heap (e :: (envOf name scope L a cd :: outer).filterMap (·.frame))).get? b = some o := fun b o q nm => hideAll_get _ (F.keep b o q) fun hm => by
    rcases List.mem_cons.mp hm with z | hm
    · rw [z, he.2.2] at q; cases q
    · rcases kts_mem hm with z | z
      · rw [z, kts_self F] at q; cases q
      · exact nm z
  have hl : ∀ q ∈ news, (hideAll s'.heap (e :: (envOf name scope L a cd :: outer).filterMap (·.frame))).get? q.1 = some q.2 ∧ g.get? q.1 = none ∧ base.get? q.1 = none := fun q hq => by
    have hq' := List.mem_cons_of_mem (e, exc1 tt D) (hs q hq)
    refine ⟨hideAll_get _ (N q hq').1 fun hm => ?_, (N q hq').2.2, fresh_of_stays K.stays (N q hq').2.2⟩
    rcases List.mem_cons.mp hm with z | hm
    · exact hne q hq z
    · exact notFr q hq' hm
  have hin : ∀ env ∈ (envOf name scope L a cd :: outer), ∀ b, env.frame = some b → b ∈ (e :: (envOf name scope L a cd :: outer).filterMap (·.frame)) := fun env he b hb => List.mem_cons_of_mem _ (List.mem_filterMap.mpr ⟨env, he, hb⟩)
  refine wpAny_leaving_firstW (a0 := .ref tt) (base := hideAll s'.heap (e :: (envOf name scope L a cd :: outer).filterMap (·.frame))) K'.stack (funFrames_hide K'.frames hin) rfl he.1 (fun b o hb => of_hideAll _ hb) (hideAll_none _ List.mem_cons_self) rfl rfl rfl fun h' hL => ?_
  obtain ⟨k1, ⟨_, _, k2⟩, k3, k4⟩ := hL
  exact hQ h' ⟨_, _, st, sg, hl, k1, hideAll_none _ List.mem_cons_self, k2, k3⟩ ((Heap.UpToSlots.of_keeps F.keep).trans k4)
end
end

section
theorem clear_C6 : True := by
  w_top off
  k_with_none
  exact True.intro
local macro_rules | `(tactic| walk_at "eval Call") => `(tactic| (k_here; k_dflt (refine Call_ ?_)))
local macro_rules | `(tactic| walk_at "call ref") => `(tactic| ((with_reducible show wpAny _ _ (call (Value.ref 96) _) _ _ _); k_dflt (refine' (is_alnum_name_cl _ _ _) _ _ _ _ _ _ _ _ _ _ _ _ _ _ _ _ _ _ _ _ _ ?kB ?kF ?kX ?kN ?kT ?kk ?kd ?ku ?_; (case kB => k_asm); (case kF => k_asm); (case kX => k_asm); (case kN => k_asm); (case kT => k_asm); (case kk => first | exact rfl | assumption); (case kd => ktr_room); (case ku => ktr_units)); intro t9 h9 tk9 F9 N9; (try dsimp only); (try k_fold)))
theorem read_code_eq (w : World) (x : Str) (ds : List Nat) (t : Tok) (hd : ∀ d ∈ ds, d < 16) (hv : hexV 0 ds ≤ 1114111) (hx : x = mkS (ds.map figc)) : Cl w 117 1 [.str x t] (fun t => .int (hexV 0 ds : Nat) t) := by
  subst hx
  exact read_code_cl w ds t hd hv
local macro_rules | `(tactic| walk_at "call ref") => `(tactic| ((with_reducible show wpAny _ _ (call (Value.ref 117) _) _ _ _); k_dflt (refine' (read_code_eq _ _ _ _ ?p0 ?p1 ?p2) _ _ _ _ _ _ _ _ _ _ _ _ _ _ _ _ _ _ _ _ _ ?kB ?kF ?kX ?kN ?kT ?kk ?kd ?ku ?_; (case kB => k_asm); (case kF => k_asm); (case kX => k_asm); (case kN => k_asm); (case kT => k_asm); (case kk => first | exact rfl | assumption); (case kd => ktr_room); (case ku => ktr_units); (case p0 => assumption); (case p1 => assumption); (case p2 => assumption)); intro t9 h9 tk9 F9 N9; (try dsimp only); (try k_fold)))
local macro_rules | `(tactic| walk_at "call ref") => `(tactic| ((with_reducible show wpAny _ _ (call (Value.ref 110) _) _ _ _); k_dflt (refine' (quoted_name_cl _ _ _ ?p0 ?p1) _ _ _ _ _ _ _ _ _ _ _ _ _ _ _ _ _ _ _ _ _ ?kB ?kF ?kX ?kN ?kT ?kk ?kd ?ku ?_; (case kB => k_asm); (case kF => k_asm); (case kX => k_asm); (case kN => k_asm); (case kT => k_asm); (case kk => first | exact rfl | assumption); (case kd => ktr_room); (case ku => ktr_units); (case p0 => assumption); (case p1 => assumption)); intro t9 h9 tk9 F9 N9; (try dsimp only); (try k_fold)))
local macro_rules | `(tactic| walk_at "call ref") => `(tactic| ((with_reducible show wpAny _ _ (call (Value.ref 59) _) _ _ _); k_dflt (refine' (make_fault _ _ _) _ _ _ _ _ _ _ _ _ _ _ _ _ _ _ _ _ _ _ _ _ ?kB ?kF ?kX ?kN ?kT ?kk ?kd ?ku ?_; (case kB => k_asm); (case kF => k_asm); (case kX => k_asm); (case kN => k_asm); (case kT => k_asm); (case kk => first | exact rfl | assumption); (case kd => ktr_room); (case ku => ktr_units)); intro e9 t9 D9 h9 tk9 F9 N9 lt9; (try dsimp only); (try k_fold)))
local macro_rules | `(tactic| walk_at "exec While Compare cons nil") => `(tactic| (k_here; k_dflt (refine Hold.out ?_)))
local macro_rules | `(tactic| walk_at "exec Raise some none") => `(tactic| (k_here; k_dflt (refine Hold.out ?_)))

set_option maxHeartbeats 4000000 in
theorem unquoted_a_cl (w : World) (x : Str) (t : Tok) (ha : anS x = true) : Cl w 124 4 [.str x t] (fun t => .str x t) := by
  unfold Cl
  k_fill
  intro mean mg mb news dp un gd cn cs a ccd cl outer A₀ base h₀ L m s Q E B F X N T hk hdp hu hret
  refine wpAny_call ?_
  k_dflt cell_enter
  k_steps
  exact ret_S hret (by assumption) (by assumption) rfl

/-- a quoted word -/
def wordS (ps : List Pc) : Str := mkS (39 :: inner ps ++ [39])
def textS (ps : List Pc) : Str := mkS (ps.map Pc.val)
theorem word_an (ps : List Pc) : anS (wordS ps) = false := rfl
theorem word_len (ps : List Pc) : (wordS ps).length = (inner ps).length + 2 := by
  unfold wordS
  rw [mkS_len]; simp
theorem word_first (ps : List Pc) : (Txt.item (wordS ps) 0 != Str.ofString "'") = false := by
  have h := item_mid [] 39 (inner ps ++ [39]) (i := 0) rfl
  unfold wordS
  rw [List.nil_append] at h
  rw [List.cons_append, h]
  decide
theorem word_last (ps : List Pc) : (Txt.item (wordS ps) (((wordS ps).length : Int) - 1) != Str.ofString "'") = false := by
  have h := item_mid (39 :: inner ps) 39 [] (i := ((wordS ps).length : Int) - 1) (by rw [word_len]; simp only [List.length_cons]; omega)
  unfold wordS at h ⊢
  rw [h]
  decide
theorem word_slice (ps : List Pc) : Txt.slice (wordS ps) (some 1) (some (((wordS ps).length : Int) - 1)) = mkS (inner ps) :=
  slice_mid [39] (inner ps) [39] rfl (by rw [word_len]; simp only [List.length_cons, List.length_nil]; omega)

/-- what holds between the turns of unquoted_name's loop -/
def UqP (ps : List Pc) (k : Nat) (ws : List Str) : Prop := ∃ a b, ps = a ++ b ∧ k = (inner a).length ∧ ws = a.map (fun p => (⟨#[p.val]⟩ : Str))
theorem uq_len {ps a b : List Pc} {us : List Value} {ws : List Str} (hl : ps.length ≤ 1000) (hps : ps = a ++ b) (hws : ws = a.map (fun p => (⟨#[p.val]⟩ : Str))) (hU : StrsAre us ws) : us.length ≤ 1000 := by
  have h := hU.length
  rw [hws, List.length_map] at h
  rw [hps, List.length_append] at hl
  omega
theorem uq_room {ps a b : List Pc} {p : Pc} {k : Nat} (hps : ps = a ++ p :: b) (hk : k = (inner a).length) : k + p.text.length ≤ (inner ps).length := by
  rw [hps, inner_split, hk]
  simp only [List.length_append]
  omega
theorem sign_neq {c k : Nat} (h : c ≠ k) : ((⟨#[c]⟩ : Str) != ⟨#[k]⟩) = true := (sign_ne rfl).mpr h
theorem uq_raw {ps a b : List Pc} {c k : Nat} {ws : List Str} {x : Str} (hps : ps = a ++ .raw c :: b) (hk : k = (inner a).length) (hws : ws = a.map (fun p => (⟨#[p.val]⟩ : Str))) (hx : x = ⟨#[c]⟩) : UqP ps (k + 1) (ws ++ [x]) :=
  ⟨a ++ [.raw c], b, by rw [hps, List.append_assoc]; rfl, by rw [inner_snoc, List.length_append, hk]; rfl, by rw [hws, hx, List.map_append]; rfl⟩
theorem uq_esc {ps a b : List Pc} {ds : List Nat} {k : Nat} {ws : List Str} (hps : ps = a ++ .esc ds :: b) (hk : k = (inner a).length) (hws : ws = a.map (fun p => (⟨#[p.val]⟩ : Str))) : UqP ps (k + (ds.length + 3)) (ws ++ [⟨#[((hexV 0 ds : Nat) : Int).toNat]⟩]) :=
  ⟨a ++ [.esc ds], b, by rw [hps, List.append_assoc]; rfl, by rw [inner_snoc, List.length_append, hk]; simp [Pc.text], by rw [hws, List.map_append, Int.toNat_natCast]; rfl⟩
theorem uq_place {f : Int} {k n : Nat} (hf : f = ((k + 2 + n : Nat) : Int)) : f + 1 = ((k + (n + 3) : Nat) : Int) := by
  rw [hf]; omega
theorem text_len {ps : List Pc} (h : ps.length ≤ 1000) : (textS ps).length ≤ 1000 := by
  unfold textS
  rw [mkS_len, List.length_map]; exact h
theorem ok_val {p : Pc} (h : p.ok) : p.val ≤ 1114111 := by
  cases p with
  | raw n => exact h.2
  | esc ds => exact h.2.2
theorem text_codes {ps : List Pc} (h : ∀ p ∈ ps, p.ok) : ∀ c ∈ (textS ps).cps.toList, c ≤ 1114111 := by
  intro c hc
  obtain ⟨p, hp, rfl⟩ := List.mem_map.mp (show c ∈ ps.map Pc.val from hc)
  exact ok_val (h p hp)
theorem flat_one (ps : List Pc) : ps.flatMap (fun p => [p.val]) = ps.map Pc.val := by
  induction ps with
  | nil => rfl
  | cons p ps ih => exact congrArg (p.val :: ·) ih
theorem uq_join {ps a : List Pc} {ws : List Str} (hps : ps = a ++ []) (hws : ws = a.map (fun p => (⟨#[p.val]⟩ : Str))) : Txt.join (Str.ofString "") ws = textS ps := by
  rw [List.append_nil] at hps
  subst hps
  subst hws
  refine cpl_ext ?_
  rw [cpl_join _ rfl, List.flatMap_map]
  exact flat_one ps
theorem uq_weight {ps a : List Pc} {ws : List Str} (h : ps.length ≤ 1000) (hps : ps = a ++ []) (hws : ws = a.map (fun p => (⟨#[p.val]⟩ : Str))) : (ws.map (·.length)).sum + ws.length ≤ 1048576 := by
  rw [List.append_nil] at hps
  subst hps
  subst hws
  have h2 := sum_le (fun p : Pc => (⟨#[p.val]⟩ : Str).length) 1 ps fun p _ => Nat.le_refl 1
  simp only [List.map_map, Function.comp_def, List.length_map] at h2 ⊢
  omega

def ClX (w : World) (f : Addr) (d : Nat) (vs : List Value) (c : Prop) (R : Tok → Value) : Prop :=
  ∀ (mean : ExcName → Option Value) (mg mb : Str → Option Value) (news : List (Addr × Obj)) (dp un : Nat) (gd : Option (List Code)) (cn : Str) (cs : Scope) (a : Addr) (ccd : Value) (cl : List (Str × Addr)) (outer : List Env) (A₀ : Around) (base h₀ : Heap) (L : Addr) (m : Str → Option Value) (s : Shared) (Q E : Value → Shared → Prop),
    Below A₀ base outer h₀ → Fr h₀ L s.heap m → (hd.heap_39 w.params).In h₀ → News h₀ L s.heap news →
    Top hd.view_39 (looseW hd.view_39 [Str.ofString "LinkFault"]) mean mg mb h₀ → cs.kind = .function →
    dp + d < recursionLimit → un + 8 * d < cLine →
    (c → ∀ (t : Tok) (h' : Heap) (tk' : Nat), Fr h₀ L h' m → News h₀ L h' news → Q (R t) { s with heap := h', toks := tk' }) →
    (¬ c → ∀ (g' : Heap) (e : Addr) (h' : Heap) (tk' : Nat), Fr h₀ L g' m → RaisedSN base g' (envX cn cs L a ccd cl :: outer) e (.ref 59) news h' → g'.UpToSlots h' → E (.ref e) { s with heap := h', toks := tk' }) →
      wpAny (model PySem.Challenge.rw_rr0013_01.row.prog w) (ktrTop dp un gd cn cs L a ccd cl outer) (call (.ref f) vs) Q E s

set_option maxHeartbeats 4000000 in
theorem unquoted_q_cl (w : World) (ps : List Pc) (t : Tok) (hok : ∀ p ∈ ps, p.ok) (hlp : ps.length ≤ 1000) (hli : (inner ps).length ≤ 20000) :
   ClX w 124 5 [.str (wordS ps) t] (qnS (textS ps) = wordS ps) (fun t => .str (textS ps) t) := by
  unfold ClX
  k_fill
  intro mean mg mb news dp un gd cn cs a ccd cl outer A₀ base h₀ L m s Q E B F X N T hk hdp hu hret hexc
  refine wpAny_call ?_
  k_dflt cell_enter
  have ha := word_an ps
  have hwl := word_len ps
  have hw0 := word_first ps
  have hw1 := word_last ps
  k_steps
  rename News _ _ _ _ => lN'
  rename Fr _ _ _ _ => lF'
  simp only [word_slice] at lF'
  clear hw0 hw1
  unfold Hold
  refine' while_parts (Str.ofString "place") (Str.ofString "end") (UqP ps) (fun k => (inner ps).length - k) lF' lN' (k₀ := 0) rfl .nil ?hp ?turn ?hE
  case hp => exact ⟨[], ps, rfl, rfl, rfl⟩
  case hE => passes_own
  case turn =>
    clear lF' lN'
    intro k t u us ws n h tk hP hU F' N'
    have kMark := kstMark
    have hml : (mkS (inner ps)).length = (inner ps).length := mkS_len _
    obtain ⟨a, b, hps, hk, hws⟩ := hP
    have hlen := uq_len hlp hps hws hU
    cases b with
    | nil =>
      have hk' : k = (inner ps).length := by rw [hk, hps, List.append_nil]
      have htl := text_len hlp
      have htc := text_codes hok
      k_steps
      rename News _ _ _ _ => lN'
      refine join_listW (News.isList lN' (.head _)) hU (by decide +kernel) (uq_weight hlp hps hws) ?_
      intro t' k'
      rw [uq_join hps hws]
      k_steps
      · unfold Hold
        refine Raise_fault rfl ?_
        k_steps
        rename News _ _ _ _ => lN'
        rename Fr _ _ _ _ => lF'
        rename (∀ p ∈ _ :: news, p.1 < _) => hlt
        rename Frag.In _ _ => kI
        refine ⟨_, _, _, _, _, rfl, fault_of (kI.keeps lF'.keep), (lN' _ List.mem_cons_self).1, ?_⟩
        repeat (k_unfold; (try dsimp only))
        refine leave_fault (news := news) (by assumption) lF' lN' (fun q hq => List.mem_cons_of_mem _ hq) (fun q hq => Nat.ne_of_lt (hlt q (List.mem_cons_of_mem _ hq))) (fun h' R U => ?_)
        exact hexc (bne_iff_ne.mp (by assumption)) _ _ _ _ (by assumption) R U
      · rename News _ _ _ _ => lN'
        exact ret_S (hret (bne_eq_false_iff_eq.mp (by assumption))) (by assumption) (news_of lN' fun p hp => List.mem_cons_of_mem _ hp) rfl
    | cons p b =>
      have hkl := uq_room hps hk
      have hp := hok p (by rw [hps]; simp)
      cases p with
      | raw c =>
        have hit : Txt.item (mkS (inner ps)) (k : Int) = ⟨#[c]⟩ := by rw [hk]; exact raw_item hps
        have hne : (Txt.item (mkS (inner ps)) (k : Int) != Str.ofString "\\") = true := by rw [hit]; exact sign_neq hp.1
        have hkl' : k + 1 ≤ (inner ps).length := hkl
        k_steps
        rename News _ _ _ _ => lN'
        rename Fr _ _ _ _ => lF'
        simp only [List.push_toArray] at lN'
        show WEnd _ _ _ _ _ _ _ _ _
        exact wp_next (k := k + 1) lF' lN' rfl (fun z e1 e2 => by simp only [if_neg e1, if_neg e2]) (hU.append' (.cons _ _ .nil)) (uq_raw hps hk hws hit) (by dsimp only; omega)
      | esc ds =>
        obtain ⟨hd0, hd1, hd2⟩ := hp
        have hd3 := List.length_pos_iff.mpr hd0
        have hit : Txt.item (mkS (inner ps)) (k : Int) = ⟨#[92]⟩ := by rw [hk]; exact esc_item hps
        have hne : (Txt.item (mkS (inner ps)) (k : Int) != Str.ofString "\\") = false := by rw [hit]; decide
        have hit1 : Txt.item (mkS (inner ps)) ((k : Int) + 1) = ⟨#[120]⟩ := by rw [hk]; exact esc_item1 hps
        have hne1 : (Txt.item (mkS (inner ps)) ((k : Int) + 1) != Str.ofString "x") = false := by rw [hit1]; decide
        have hfi : Txt.find3 (mkS (inner ps)) (Str.ofString "\\") ((k : Int) + 1) = ((k + 2 + ds.length : Nat) : Int) := by rw [hk]; exact esc_find hps hd1
        have hsl : Txt.slice (mkS (inner ps)) (some ((k : Int) + 2)) (some (Txt.find3 (mkS (inner ps)) (Str.ofString "\\") ((k : Int) + 1))) = mkS (ds.map figc) := by rw [hfi]; rw [hk]; exact esc_slice hps rfl
        have hkl' : k + (ds.length + 3) ≤ (inner ps).length := by simpa [Pc.text] using hkl
        k_steps
        rename News _ _ _ _ => lN'
        rename Fr _ _ _ _ => lF'
        simp only [List.push_toArray] at lN'
        show WEnd _ _ _ _ _ _ _ _ _
        exact wp_next (k := k + (ds.length + 3)) lF' lN' (congrArg (fun v => some (Value.int v _)) (uq_place hfi)) (fun z e1 e2 => by simp only [if_neg e1, if_neg e2]) (hU.append' (.cons _ _ .nil)) (uq_esc hps hk hws) (by dsimp only; omega)
end

section
theorem clear_C10 : True := by
  w_top off
  k_with_none
  exact True.intro
local macro_rules | `(tactic| walk_at "eval Call") => `(tactic| (k_here; k_dflt (refine Call_ ?_)))
local macro_rules | `(tactic| walk_at "call ref") => `(tactic| ((with_reducible show wpAny _ _ (call (Value.ref 124) _) _ _ _); k_dflt (refine' (unquoted_a_cl _ _ _ ?p0) _ _ _ _ _ _ _ _ _ _ _ _ _ _ _ _ _ _ _ _ _ ?kB ?kF ?kX ?kN ?kT ?kk ?kd ?ku ?_; (case kB => k_asm); (case kF => k_asm); (case kX => k_asm); (case kN => k_asm); (case kT => k_asm); (case kk => first | exact rfl | assumption); (case kd => ktr_room); (case ku => ktr_units); (case p0 => assumption)); intro t9 h9 tk9 F9 N9; (try dsimp only); (try k_fold)))
def ClT (w : World) (word : Str) (tw : Tok) (a₁ b₁ : Str) : Prop :=
  ∀ (mean : ExcName → Option Value) (mg mb : Str → Option Value) (news : List (Addr × Obj)) (dp un : Nat) (gd : Option (List Code)) (cn : Str) (cs : Scope) (a : Addr) (ccd : Value) (A₀ : Around) (h₀ : Heap) (L : Addr) (m : Str → Option Value) (s : Shared) (Q E : Value → Shared → Prop),
    Below A₀ h₀ [] h₀ → Fr h₀ L s.heap m → (hd.heap_39 w.params).In h₀ → News h₀ L s.heap news →
    Top hd.view_39 (looseW hd.view_39 [Str.ofString "LinkFault"]) mean mg mb h₀ → cs.kind = .function →
    dp + 8 < recursionLimit → un + 8 * 8 < cLine →
    (∀ (D : Addr) (t₁ t₂ : Tok) (h' : Heap) (tk' : Nat), Fr h₀ L h' m → News h₀ L h' ((D, { cls := .type "tuple", data := .seq #[.str a₁ t₁, .str b₁ t₂] }) :: news) → (∀ p ∈ news, p.1 < D) → Q (.ref D) { s with heap := h', toks := tk' }) →
      wpAny (model PySem.Challenge.rw_rr0013_01.row.prog w) (ktrTop dp un gd cn cs L a ccd [] []) (call (.ref 138) [.str word tw]) Q E s

set_option maxHeartbeats 4000000 in
theorem law_name_a (w : World) (x : Str) (t : Tok) (ha : anS x = true) : ClT w x t (Str.ofString "read") x := by
  unfold ClT
  k_fill
  intro mean mg mb news dp un gd cn cs a ccd A₀ h₀ L m s Q E B F X N T hk hdp hu hret
  refine wpAny_call ?_
  k_dflt (refine' code_defS0 ?k1 ?k2 ?k3 ?k4 ?k5 ?kA ?k6 ?k7 ?k8 ?k9 ?kB ?_ ?cK ?c2 ?c3 ?c4 ?c5; (case kA => exact rfl); (case k2 => k_asm); (case k1 => k_asm); (case k3 => k_asm); (case k4 => k_asm); (case k5 => k_asm); (case k6 => k_is); (case k7 => k_is); (case k8 => ktr_room); (case k9 => exact BindsTo.of_eq rfl); (case kB => exact locs rfl); (case cK => assumption); (case c2 => exact rfl); (case c3 => exact rfl); (case c4 => exact rfl); (case c5 => decide); k_whole; intro g' L' h' FG' F' N' B' X' T' D'; (try dsimp only); (try k_lift B'); (try k_fold))
  k_steps
  exact hret _ _ _ _ _ (by assumption) (by assumption) (by assumption)

theorem no_exc {P : Prop} {c : Prop} (hc : c) : ¬ c → P := fun h => absurd hc h
local macro_rules | `(tactic| walk_at "call ref") => `(tactic| ((with_reducible show wpAny _ _ (call (Value.ref 124) [Value.str (wordS _) _]) _ _ _); k_dflt (refine' (unquoted_q_cl _ _ _ ?p0 ?p1 ?p2) _ _ _ _ _ _ _ _ _ _ _ _ _ _ _ _ _ _ _ _ _ ?kB ?kF ?kX ?kN ?kT ?kk ?kd ?ku ?_ (no_exc ?kc); (case kB => k_asm); (case kF => k_asm); (case kX => k_asm); (case kN => k_asm); (case kT => k_asm); (case kk => first | exact rfl | assumption); (case kd => ktr_room); (case ku => ktr_units); (case p0 => assumption); (case p1 => assumption); (case p2 => assumption); (case kc => assumption)); intro c9 t9 h9 tk9 F9 N9; (try dsimp only); (try k_fold)))
local macro_rules | `(tactic| walk_at "call ref") => `(tactic| ((with_reducible show wpAny _ _ (call (Value.ref 124) [Value.str (wordS _) _]) _ _ _); k_dflt (refine' (unquoted_q_cl _ _ _ ?p0 ?p1 ?p2) _ _ _ _ _ _ _ _ _ _ _ _ _ _ _ _ _ _ _ _ _ ?kB ?kF ?kX ?kN ?kT ?kk ?kd ?ku (fun hc => absurd hc ?kc) ?_; (case kB => k_asm); (case kF => k_asm); (case kX => k_asm); (case kN => k_asm); (case kT => k_asm); (case kk => first | exact rfl | assumption); (case kd => ktr_room); (case ku => ktr_units); (case p0 => assumption); (case p1 => assumption); (case p2 => assumption); (case kc => assumption)); intro c9 g9 e9 h9 tk9 F9 R9 U9; (try dsimp only); (try k_fold)))

set_option maxHeartbeats 4000000 in
theorem law_name_q (w : World) (ps : List Pc) (t : Tok) (hok : ∀ p ∈ ps, p.ok) (hlp : ps.length ≤ 1000) (hli : (inner ps).length ≤ 20000) (hc : qnS (textS ps) = wordS ps) : ClT w (wordS ps) t (Str.ofString "read") (textS ps) := by
  unfold ClT
  k_fill
  intro mean mg mb news dp un gd cn cs a ccd A₀ h₀ L m s Q E B F X N T hk hdp hu hret
  refine wpAny_call ?_
  k_dflt (refine' code_defS0 ?k1 ?k2 ?k3 ?k4 ?k5 ?kA ?k6 ?k7 ?k8 ?k9 ?kB ?_ ?cK ?c2 ?c3 ?c4 ?c5; (case kA => exact rfl); (case k2 => k_asm); (case k1 => k_asm); (case k3 => k_asm); (case k4 => k_asm); (case k5 => k_asm); (case k6 => k_is); (case k7 => k_is); (case k8 => ktr_room); (case k9 => exact BindsTo.of_eq rfl); (case kB => exact locs rfl); (case cK => assumption); (case c2 => exact rfl); (case c3 => exact rfl); (case c4 => exact rfl); (case c5 => decide); k_whole; intro g' L' h' FG' F' N' B' X' T' D'; (try dsimp only); (try k_lift B'); (try k_fold))
  k_steps
  exact hret _ _ _ _ _ (by assumption) (by assumption) (by assumption)

set_option maxHeartbeats 4000000 in
theorem law_name_r (w : World) (ps : List Pc) (t : Tok) (hok : ∀ p ∈ ps, p.ok) (hlp : ps.length ≤ 1000) (hli : (inner ps).length ≤ 20000) (hc : ¬ qnS (textS ps) = wordS ps) : ClT w (wordS ps) t (Str.ofString "refused") (wordS ps) := by
  unfold ClT
  k_fill
  intro mean mg mb news dp un gd cn cs a ccd A₀ h₀ L m s Q E B F X N T hk hdp hu hret
  refine wpAny_call ?_
  k_dflt (refine' code_defS0 ?k1 ?k2 ?k3 ?k4 ?k5 ?kA ?k6 ?k7 ?k8 ?k9 ?kB ?_ ?cK ?c2 ?c3 ?c4 ?c5; (case kA => exact rfl); (case k2 => k_asm); (case k1 => k_asm); (case k3 => k_asm); (case k4 => k_asm); (case k5 => k_asm); (case k6 => k_is); (case k7 => k_is); (case k8 => ktr_room); (case k9 => exact BindsTo.of_eq rfl); (case kB => exact locs rfl); (case cK => assumption); (case c2 => exact rfl); (case c3 => exact rfl); (case c4 => exact rfl); (case c5 => decide); k_whole; intro g' L' h' FG' F' N' B' X' T' D'; (try dsimp only); (try k_lift B'); (try k_fold))
  k_steps
  exact hret _ _ _ _ _ (by assumption) (by assumption) (by assumption)
end

theorem clear_C11 : True := by
  w_top off
  k_with_none
  exact True.intro
theorem any_pair {i : Int} : ([39, 92].any fun x => x == i) = true ↔ i = 39 ∨ i = 92 := by
  simp only [List.any_cons, List.any_nil, Bool.or_false, Bool.or_eq_true, beq_iff_eq]
  constructor <;> (intro h; rcases h with h | h <;> simp [h])
theorem any_pair' {i : Int} (h : ([39, 92].any fun x => x == i) = false) : ¬ (i = 39 ∨ i = 92) := fun q => by
  rw [any_pair.mpr q] at h; cases h
theorem small_text : ∀ d : Nat, d < 8 → Str.ofString (toString (d : Int)) = Txt.item (Str.ofString "0123456789abcdef") (d : Int) := by
  decide +kernel
theorem small_text' {i : Int} (h0 : 0 ≤ i) (h : i < 32 ∨ i = 127) : Str.ofString (toString (i.fdiv 16)) = Txt.item (Str.ofString "0123456789abcdef") (i.fdiv 16) := by
  rw [fdiv16 h0]
  exact small_text _ (by omega)
theorem table_text {i : Int} (h0 : 6 < i) (h1 : i < 14) : [Str.ofString "a", Str.ofString "b", Str.ofString "t", Str.ofString "n", Str.ofString "v", Str.ofString "f", Str.ofString "r"].getD (i - 7).toNat Str.empty = Txt.item (Str.ofString "abtnvfr") (i - 7) := by
  have h : i = 7 ∨ i = 8 ∨ i = 9 ∨ i = 10 ∨ i = 11 ∨ i = 12 ∨ i = 13 := by omega
  rcases h with rfl | rfl | rfl | rfl | rfl | rfl | rfl <;> decide +kernel

theorem sp_a {i : Int} (h : ([39, 92].any fun x => x == i) = true) : Str.ofString "\\" ++ (⟨#[i.toNat]⟩ : Str) = escS i := by
  unfold escS
  rw [if_pos (any_pair.mp h)]
theorem sp_b {i : Int} (h : ([39, 92].any fun x => x == i) = false) (h0 : 6 < i) (h1 : i < 14) : Str.ofString "\\" ++ [Str.ofString "a", Str.ofString "b", Str.ofString "t", Str.ofString "n", Str.ofString "v", Str.ofString "f", Str.ofString "r"].getD (i - 7).toNat Str.empty = escS i := by
  unfold escS
  rw [if_neg (any_pair' h), if_pos (by omega), table_text h0 h1]
theorem sp_c {i : Int} (h : ([39, 92].any fun x => x == i) = false) (h0 : 31 < i) (h1 : i ≠ 127) : (⟨#[i.toNat]⟩ : Str) = escS i := by
  unfold escS
  rw [if_neg (any_pair' h), if_neg (by omega), if_neg (by omega)]
theorem sp_d {i : Int} (h : ([39, 92].any fun x => x == i) = false) (hp : 0 ≤ i) (h0 : ¬ (7 ≤ i ∧ i ≤ 13)) (h1 : i < 32 ∨ i = 127) :
    Str.ofString "\\x" ++ Str.ofString (toString (i.fdiv 16)) ++ Txt.item (Str.ofString "0123456789abcdef") (i.fmod 16) ++ Str.ofString "\\" = escS i := by
  unfold escS
  rw [if_neg (any_pair' h), if_neg h0, if_pos h1, small_text' hp h1]

set_option maxHeartbeats 4000000 in
theorem spelled_cl (w : World) (i : Int) (t : Tok) (h0 : 0 ≤ i) (h1 : i ≤ 1114111) : Cl w 131 1 [.int i t] (fun t => .str (escS i) t) := by
  unfold Cl
  k_fill
  intro mean mg mb news dp un gd cn cs a ccd cl outer A₀ base h₀ L m s Q E B F X N T hk hdp hu hret
  refine wpAny_call ?_
  k_dflt cell_enter
  k_with "table" => skip
  k_steps
  all_goals rename News _ _ _ _ => lN'
  all_goals refine ret_S hret (by assumption) (news_of lN' ?_) ?_
  all_goals first | exact fun p hp => hp | exact fun p hp => List.mem_cons_of_mem _ hp | exact fun p hp => List.mem_cons_of_mem _ (List.mem_cons_of_mem _ hp) | exact sp_a (by assumption) | exact sp_b (by assumption) (by assumption) (by assumption) | exact sp_c (by assumption) (by assumption) (by assumption) | exact sp_d (by assumption) h0 (by omega) (by omega)

section
variable {M : Model} {A : Around} {E : Value → Shared → Prop} {s : Shared} {env : Env}
def AtNext (Mid : Shared → Prop) (f : Flow) (s' : Shared) : Prop := f = .next ∧ Mid s'
theorem cut {rest : List Stmt} {Q : Flow → Shared → Prop} (Mid : Shared → Prop) (h2 : ∀ s', Mid s' → wpAny M A (execs rest env) Q E s') :
    ∀ (l : List Stmt) (Γ : _root_.PySem.Ctx) (p : _) (s : Shared), Γ.In A → PySem.Sem.wp M Γ (execs l env) (fun f _ s' => AtNext Mid f s') (fun e _ s' => E e s') p s →
      PySem.Sem.wp M Γ (execs (l ++ rest) env) (fun f _ s' => Q f s') (fun e _ s' => E e s') p s := by
  intro l
  induction l with
  | nil => intro Γ p s hΓ h; exact h2 s h.2 Γ p hΓ
  | cons st l ih =>
    intro Γ p s hΓ h
    rw [execs_cons, Sem.wp_bind'] at h
    rw [List.cons_append, execs_cons, Sem.wp_bind']
    refine Sem.wp_mono M Γ _ (fun f p' s' h' => ?_) (fun _ _ _ h' => h') _ _ h
    cases f with
    | next => exact ih Γ p' s' hΓ h'
    | _ => exact absurd h'.1 (by simp)
theorem cut1 {s1 : Stmt} {rest : List Stmt} {Q : Flow → Shared → Prop} (Mid : Shared → Prop) (h1 : wpAny M A (execs [s1] env) (AtNext Mid) E s) (h2 : ∀ s', Mid s' → wpAny M A (execs rest env) Q E s') :
    wpAny M A (execs (s1 :: rest) env) Q E s := fun Γ p hΓ => cut Mid h2 [s1] Γ p s hΓ (h1 Γ p hΓ)
theorem cut2 {s1 s2 : Stmt} {rest : List Stmt} {Q : Flow → Shared → Prop} (Mid : Shared → Prop) (h1 : wpAny M A (execs [s1, s2] env) (AtNext Mid) E s) (h2 : ∀ s', Mid s' → wpAny M A (execs rest env) Q E s') :
    wpAny M A (execs (s1 :: s2 :: rest) env) Q E s := fun Γ p hΓ => cut Mid h2 [s1, s2] Γ p s hΓ (h1 Γ p hΓ)
end
section
variable {prog : Program} {w : World} {A : Around} {s : Shared} {h₀ : Heap} {L : Addr} {m : Str → Option Value} {env : Env}
theorem rest_inv {elt : Expr} {x : Str} {scope : Scope} {cl : List (Str × Addr)} {S : List (Addr × Obj) → Prop} {P : Nat → Value → Prop} {Fin : List Value → List (Addr × Obj) → Prop} {n : Nat} {news : List (Addr × Obj)}
    (J : Nat → List Value → Prop) (h0 : J 0 [])
    (step : ∀ i ys, i < n → J i ys → ∀ v I oI C oC D m₂ h tk (E' : Value → Shared → Prop), P i v → LCg.NsObj oC m₂ → m₂ x = some v → Fr h₀ L h m → News h₀ L h ((I, oI) :: (C, oC) :: (D, LCg.lst ys) :: news) → LCg.Off3 I C D news → ((@Ne Nat I C) ∧ (@Ne Nat I D) ∧ (@Ne Nat C D)) →
      wpAny (model prog w) A (eval elt (compEnvC scope cl C env)) (LCg.CompEnd h₀ L m { s with heap := h, toks := tk } I oI C oC D (LCg.lst ys) S (fun y news' => J (i + 1) (ys ++ [y]) ∧ news' = news)) E' { s with heap := h, toks := tk })
    (fin : ∀ ys, J n ys → Fin ys news) : LCg.CompRest prog w A h₀ L m env elt x scope cl s S P Fin n 0 [] news := by
  have main : ∀ k i ys, i + k = n → J i ys → LCg.CompRest prog w A h₀ L m env elt x scope cl s S P Fin k i ys news := by
    intro k
    induction k with
    | zero => intro i ys hi hJ; exact LCg.CompRest.zero (fin ys (by rw [← hi]; exact hJ))
    | succ k ih =>
      intro i ys hi hJ
      refine LCg.CompRest.succ fun v I oI C oC D m₂ h tk E' h1 h2 h3 h4 h5 h6 h7 => ?_
      refine wpAny_mono (step i ys (by omega) hJ v I oI C oC D m₂ h tk E' h1 h2 h3 h4 h5 h6 h7) (fun y s' hy => ?_) (fun _ _ e => e)
      obtain ⟨h', tk', news', e1, e2, e3, e4, e5, e6, rfl⟩ := hy
      exact ⟨h', tk', _, e1, e2, e3, e4, e5, ih (i + 1) (ys ++ [y]) (by omega) e6⟩
  exact main n 0 [] (by omega) h0
end

/-- the same goal, without its marks -/
theorem strip2 {α β : Type} {Q : α → β → Prop} {a : α} {s : β} (h : Q a s) : Q a s := h
section
variable {prog : Program} {w : World} {A : Around} {E : Value → Shared → Prop} {s : Shared} {env : Env} {h₀ : Heap} {x : Str} {body : List Stmt} {Q : Flow → Shared → Prop}

/-- the end of a turn that goes on: the next state, a ledger that keeps clear of the iterator -/
def TEnd (h₀ : Heap) (L I : Addr) (own : List (Addr × Obj)) (Jn : (Str → Option Value) → List (Addr × Obj) → Prop) (s₁ : Shared) (f : Flow) (s₂ : Shared) : Prop :=
  f = .next ∧ ∃ h' tk m' nx, s₂ = { s₁ with heap := h', toks := tk } ∧ Fr h₀ L h' m' ∧ News h₀ L h' (nx ++ own) ∧ (∀ p ∈ nx, p.1 ≠ I) ∧ Jn m' nx

/-- a loop whose ledger may grow: what the iterator looks at, beside itself, stays in the ledger -/
theorem walks_loop {I : Addr} {fp : List Addr} {n : Nat} {P : Nat → Value → Prop} {St : Nat → Heap → Prop} {m₀ : Str → Option Value} {news : List (Addr × Obj)} (J : Nat → (Str → Option Value) → List (Addr × Obj) → Prop)
    (W : Walks prog w A I fp [I] n P St) (hL : env.locals ∉ fp) (hI : h₀.get? I = none) (hnI : ∀ p ∈ news, p.1 ≠ I) (hst : St 0 s.heap) (F : Fr h₀ env.locals s.heap m₀) (N : News h₀ env.locals s.heap news) (hj : J 0 m₀ news)
    (hfp : ∀ b ∈ fp, b = I ∨ ∃ o, ∀ i m nx, J i m nx → (b, o) ∈ nx) (hSt : ∀ i h, St i h → ∃ o, h.get? I = some o)
    (turn : ∀ i v m₁ nx h tk own, i < n → P i v → (∀ p ∈ nx, p.1 ≠ I) → (∀ p ∈ own, p.1 = I) → (∃ o, (I, o) ∈ own) → J i m₁ nx → Fr h₀ env.locals h (fun y => if y = x then some v else m₁ y) → News h₀ env.locals h (nx ++ own) →
      wpAny (model prog w) A (execs body env) (TEnd h₀ env.locals I own (J (i + 1)) { s with heap := h, toks := tk }) E { s with heap := h, toks := tk })
    (done : ∀ m₁ nx h tk, J n m₁ nx → Fr h₀ env.locals h m₁ → News h₀ env.locals h nx → Q .next { s with heap := h, toks := tk }) :
    LoopAtV prog w A h₀ env x body Q E (.ref I) s := by
  refine ⟨I, fp, [I], n, P, St, m₀, news, J, rfl, W, hL, fun b hb => by rw [List.mem_singleton.mp hb]; exact hI, fun p hp hq => hnI p hp (List.mem_singleton.mp hq), hst, F, N, hj, ?_, fun h' tk m' nx F' N' _ hJ => done m' nx h' tk hJ F' N'⟩
  rintro i v m₁ nx s₁ own ⟨h, tk, rfl⟩ hi hP hJ hoff hown hget hnew hst' F₁ N₁
  obtain ⟨oI, heI⟩ := hSt _ _ hst'
  have hmI : (I, oI) ∈ own := hnew I (W.sub I (.head _)) hI oI heI
  have hone : ∀ p ∈ [(I, oI)], p.1 = I := fun p hp => by rw [List.mem_singleton.mp hp]
  have N₂ : News h₀ env.locals h (nx ++ [(I, oI)]) := fun p hp => by
    rcases List.mem_append.mp hp with hp | hp
    · exact N₁ p (List.mem_append.mpr (.inr hp))
    · rw [List.mem_singleton.mp hp]
      exact N₁ _ (List.mem_append.mpr (.inl hmI))
  refine wpAny_mono (turn i v m₁ nx h tk [(I, oI)] hi hP (fun p hp e => hoff p hp (List.mem_singleton.mpr e)) hone ⟨oI, .head _⟩ hJ F₁ N₂) (fun f s₂ q => ?_) fun _ _ e => e
  obtain ⟨rfl, h', tk', m', nx', rfl, F', N', hclear, hJ'⟩ := q
  have back : ∀ p ∈ own, p ∈ nx' ++ [(I, oI)] := fun p hp => by
    have hp1 : h.get? p.1 = some p.2 := hget p hp
    rcases hfp p.1 (hown p hp) with e | ⟨o, ho⟩
    · have e2 : p.2 = oI := by
        rw [e, heI] at hp1
        exact (Option.some.inj hp1).symm
      exact List.mem_append.mpr (.inr (List.mem_singleton.mpr (Prod.ext e e2)))
    · have e1 : h.get? p.1 = some o := (N₁ _ (List.mem_append.mpr (.inr (ho i m₁ nx hJ)))).1
      have e2 : o = p.2 := Option.some.inj (e1.symm.trans hp1)
      have e3 := ho (i + 1) m' nx' hJ'
      rw [e2] at e3
      exact List.mem_append.mpr (.inl e3)
  exact .next ⟨rfl, h', tk', m', nx', rfl, F', fun p hp => N' p ((List.mem_append.mp hp).elim (back p) fun hq => List.mem_append.mpr (.inl hq)), fun p hp hq => hclear p hp (List.mem_singleton.mp hq), hJ'⟩

theorem new_addr {m₀ : Str → Option Value} {news : List (Addr × Obj)} (F : Fr h₀ env.locals s.heap m₀) (N : News h₀ env.locals s.heap news) : env.locals ≠ s.heap.objs.size ∧ ∀ p ∈ news, p.1 ≠ s.heap.objs.size :=
  ⟨Nat.ne_of_lt F.ns.lt, fun p hp => Nat.ne_of_lt (Heap.lt_size (N p hp).1)⟩

theorem list_loop {l : Addr} {vs : List Value} {nn : Nat} {m₀ : Str → Option Value} {news : List (Addr × Obj)} (J : Nat → (Str → Option Value) → List (Addr × Obj) → Prop)
    (hh : A.handled = none) (hl : (l, listOf vs.toArray nn) ∈ news) (F : Fr h₀ env.locals s.heap m₀) (N : News h₀ env.locals s.heap news) (hj : J 0 m₀ news)
    (turn : ∀ i v m₁ news₁ h tk I own, vs[i]? = some v → (l, listOf vs.toArray nn) ∈ news₁ → (∀ p ∈ news₁, p.1 ≠ I) → (∀ p ∈ own, p.1 = I) → (∃ o, (I, o) ∈ own) → J i m₁ news₁ → Fr h₀ env.locals h (fun y => if y = x then some v else m₁ y) → News h₀ env.locals h (news₁ ++ own) →
      wpAny (model prog w) A (execs body env) (TEnd h₀ env.locals I own (fun m' nx => (l, listOf vs.toArray nn) ∈ nx ∧ J (i + 1) m' nx) { s with heap := h, toks := tk }) E { s with heap := h, toks := tk })
    (done : ∀ m₁ news₁ h tk, J vs.length m₁ news₁ → Fr h₀ env.locals h m₁ → News h₀ env.locals h news₁ → Q .next { s with heap := h, toks := tk }) :
    wpAny (model prog w) A (pyIter (.ref l)) (fun it s₂ => LoopAtV prog w A h₀ env x body Q E it s₂) E s := by
  have at_l : s.heap.get? l = some (listOf vs.toArray nn) := (N _ hl).1
  have is_l : s.heap.IsList l vs.toArray := ⟨_, at_l, rfl, nn, rfl⟩
  obtain ⟨n1, n2⟩ := new_addr F N
  refine wpAny_pyIter_list is_l (walks_loop (fun i m nx => (l, listOf vs.toArray nn) ∈ nx ∧ J i m nx) (Walks.list hh s.heap.objs.size l (n2 _ hl) vs.toArray) ?_ (next_is_new F) n2 ⟨⟨_, Heap.get?_push_size _ rfl, rfl, rfl⟩, is_l.push _⟩ (F.push _)
    (N.grown fun _ _ e => Heap.get?_push_of_some _ e) ⟨hl, hj⟩ ?_ (fun i h st => by obtain ⟨o, e, _⟩ := st.1; exact ⟨o, e⟩) ?_ ?_)
  · intro hm
    rcases List.mem_cons.mp hm with e | hm
    · exact n1 e
    · exact (N _ hl).2.1 (List.mem_singleton.mp hm).symm
  · intro b hb
    rcases List.mem_cons.mp hb with e | hb
    · exact .inl e
    · rw [List.mem_singleton.mp hb]
      exact .inr ⟨_, fun _ _ _ hJ => hJ.1⟩
  · intro i v m₁ nx h tk own _ hP h1 h2 h3 hJ F₁ N₁
    exact turn i v m₁ nx h tk _ own (by simpa using hP) hJ.1 h1 h2 h3 hJ.2 F₁ N₁
  · intro m₁ nx h tk hJ F₁ N₁
    have e : vs.toArray.size = vs.length := List.size_toArray
    exact done m₁ nx h tk (e ▸ hJ.2) F₁ N₁

theorem range_loop {r : Addr} {a₀ b₀ : Int} {t₀ u₀ v₀ : Tok} {n : Nat} {m₀ : Str → Option Value} {news : List (Addr × Obj)} (J : Nat → (Str → Option Value) → List (Addr × Obj) → Prop)
    (hh : A.handled = none) (hr : IsRange s.heap r a₀ b₀ 1 t₀ u₀ v₀) (hsmall : Builtin.Range.small a₀ b₀ 1 = true) (hn : Builtin.Range.rangeSize a₀ b₀ 1 = (n : Int)) (F : Fr h₀ env.locals s.heap m₀) (N : News h₀ env.locals s.heap news) (hj : J 0 m₀ news)
    (turn : ∀ i t m₁ news₁ h tk I own, i < n → (∀ p ∈ news₁, p.1 ≠ I) → (∀ p ∈ own, p.1 = I) → J i m₁ news₁ → Fr h₀ env.locals h (fun y => if y = x then some (.int (a₀ + (i : Int)) t) else m₁ y) → News h₀ env.locals h (news₁ ++ own) →
      wpAny (model prog w) A (execs body env) (TEnd h₀ env.locals I own (J (i + 1)) { s with heap := h, toks := tk }) E { s with heap := h, toks := tk })
    (done : ∀ m₁ news₁ h tk, J n m₁ news₁ → Fr h₀ env.locals h m₁ → News h₀ env.locals h news₁ → Q .next { s with heap := h, toks := tk }) :
    wpAny (model prog w) A (pyIter (.ref r)) (fun it s₂ => LoopAtV prog w A h₀ env x body Q E it s₂) E s := by
  obtain ⟨n1, n2⟩ := new_addr F N
  refine wpAny_pyIter_range hr hsmall (walks_loop J (Walks.range hh s.heap.objs.size a₀ 1 n) (fun hm => n1 (List.mem_singleton.mp hm)) (next_is_new F) n2 (by show IsRangeIter _ _ _ _ _; rw [hn]; simpa using Heap.get?_push_size _ rfl) (F.push _)
    (N.grown fun _ _ e => Heap.get?_push_of_some _ e) hj (fun b hb => .inl (List.mem_singleton.mp hb)) (fun i h st => ⟨_, st⟩) ?_ done)
  intro i v m₁ nx h tk own hi hP h1 h2 _ hJ F₁ N₁
  obtain ⟨t, rfl⟩ := hP
  rw [Int.mul_one] at F₁
  exact turn i t m₁ nx h tk _ own hi h1 h2 hJ F₁ N₁
end

theorem small1 {f c : Int} (f0 : 0 ≤ f) (f1 : f < 1200) (c0 : 1 ≤ c) (c1 : c ≤ 12) : Builtin.Range.small f (f + c) 1 = true := by
  unfold Builtin.Range.small
  simp only [Builtin.Range.rangeSize, Builtin.Range.rangeFitsLong, Bool.and_eq_true, Bool.or_eq_true, decide_eq_true_eq, beq_iff_eq, show ((1 : Int) > 0) by decide, if_true, Int.ediv_one]
  rw [if_pos (by omega)]
  omega
theorem size1 {f c : Int} (c0 : 1 ≤ c) : Builtin.Range.rangeSize f (f + c) 1 = ((c.toNat : Nat) : Int) := by
  unfold Builtin.Range.rangeSize
  simp
  omega
theorem fm12 (x : Int) : 0 ≤ x.fmod 12 ∧ x.fmod 12 < 12 := ⟨Int.fmod_nonneg_of_pos _ (by decide), Int.fmod_lt_of_pos _ (by decide)⟩
theorem fm1200 (x : Int) : 0 ≤ x.fmod 1200 ∧ x.fmod 1200 < 1200 := ⟨Int.fmod_nonneg_of_pos _ (by decide), Int.fmod_lt_of_pos _ (by decide)⟩
theorem cs_bound {f c : Int} : ∀ i ∈ (List.range c.toNat).map (fun k => (f + (k : Nat)).fmod 1200), 0 ≤ i ∧ i < 1200 := fun i hi => by
  obtain ⟨k, _, rfl⟩ := List.mem_map.mp hi
  exact fm1200 _
theorem ints_len : ∀ {vs : List Value} {ns : List Int}, IntsAre vs ns → vs.length = ns.length
  | _, _, .nil => rfl
  | _, _, .cons _ _ h => by rw [List.length_cons, List.length_cons, ints_len h]
/-- the sign of a code, as a text -/
def chS (i : Int) : Str := ⟨#[i.toNat]⟩
/-- the row -/
def rowS (cs : List Int) : Str := mkS (cs.map Int.toNat)
theorem row_join (cs : List Int) : Txt.join (Str.ofString "") (cs.map chS) = rowS cs := by
  refine cpl_ext ?_
  rw [cpl_join _ rfl, rowS, cpl_T]
  induction cs with
  | nil => rfl
  | cons a l ih => rw [List.map_cons, List.flatMap_cons, ih]; rfl
theorem row_weight {cs : List Int} (h : cs.length ≤ 12) : ((cs.map chS).map (·.length)).sum + (cs.map chS).length ≤ 1048576 := by
  have h2 := sum_le (fun i => (chS i).length) 1 cs fun i _ => Nat.le_refl _
  simp only [List.map_map, Function.comp_def, List.length_map] at h2 ⊢
  omega
theorem sp_weight {cs : List Int} (h : cs.length ≤ 12) : ((cs.map escS).map (·.length)).sum + (cs.map escS).length ≤ 1048576 := by
  have h2 := sum_le (fun i => (escS i).length) 5 cs fun i _ => escS_len i
  simp only [List.map_map, Function.comp_def, List.length_map] at h2 ⊢
  omega
theorem row_codes {cs : List Int} (hcs : ∀ i ∈ cs, 0 ≤ i ∧ i < 1200) : KStt.codes (rowS cs) = cs := by
  rw [mkS_codes, rowS, cpl_T, List.map_map]
  have h : cs.map ((fun c : Nat => (c : Int)) ∘ Int.toNat) = cs.map id := List.map_congr_left fun i hi => by
    have := hcs i hi
    simp only [Function.comp_apply, id]
    omega
  rw [h, List.map_id]
theorem row_len (cs : List Int) : (rowS cs).length = cs.length := by rw [rowS, mkS_len, List.length_map]
theorem row_le {cs : List Int} (hcs : ∀ i ∈ cs, 0 ≤ i ∧ i < 1200) : ∀ c ∈ (rowS cs).cps.toList, c < 1200 := fun c hc => by
  have hc' : c ∈ cs.map Int.toNat := hc
  obtain ⟨i, hi, rfl⟩ := List.mem_map.mp hc'
  have := hcs i hi
  omega
/-- the item of the row is the row of the items -/
theorem qt_row {cs : List Int} (hcs : ∀ i ∈ cs, 0 ≤ i ∧ i < 1200) : qtS (rowS cs) = Str.ofString "'" ++ Txt.join (Str.ofString "") (cs.map escS) ++ Str.ofString "'" := by
  refine cpl_ext ?_
  rw [qtS, cpl_T, row_codes hcs, cpl_app, cpl_app, cpl_join _ rfl, List.flatMap_map]
  rfl
theorem qt_one {i : Int} (h0 : 0 ≤ i) : qtS (chS i) = Str.ofString "'" ++ escS i ++ Str.ofString "'" := by
  refine cpl_ext ?_
  have e : KStt.codes (chS i) = [i] := by
    rw [mkS_codes]
    show [((i.toNat : Nat) : Int)] = [i]
    rw [Int.toNat_of_nonneg h0]
  rw [qtS, cpl_T, cpl_app, cpl_app, e]
  simp only [List.flatMap_cons, List.flatMap_nil, List.append_nil]
  rfl
theorem sp_join_len {cs : List Int} (h : cs.length ≤ 12) : (Txt.join (Str.ofString "") (cs.map escS)).length ≤ 60 := by
  have h2 := sum_le (fun i => (escS i).length) 5 cs fun i _ => escS_len i
  rw [← cpl_len, cpl_join _ rfl, List.flatMap_map, List.length_flatMap]
  simp only [cpl_len] at h2 ⊢
  omega
theorem small0 {c : Int} (c0 : 1 ≤ c) (c1 : c ≤ 12) : Builtin.Range.small 0 c 1 = true := by
  have := small1 (f := 0) (c := c) (by decide) (by decide) c0 c1
  rwa [Int.zero_add] at this
theorem size0 {c : Int} (c0 : 1 ≤ c) : Builtin.Range.rangeSize 0 c 1 = ((c.toNat : Nat) : Int) := by
  have := size1 (f := 0) c0
  rwa [Int.zero_add] at this
theorem row_item {cs : List Int} {i : Nat} (h : i < cs.length) : Txt.item (rowS cs) (i : Int) = chS (cs[i]'h) := by
  have e : cs.map Int.toNat = (cs.take i).map Int.toNat ++ (cs[i]'h).toNat :: (cs.drop (i + 1)).map Int.toNat := by
    rw [← List.map_cons, ← List.map_append]
    congr 1
    simp
  rw [rowS, e]
  exact item_mid _ _ _ (by rw [List.length_map, List.length_take]; omega)
theorem chS_le {i : Int} (h : 0 ≤ i ∧ i < 1200) : ∀ q ∈ (chS i).cps.toList, q ≤ 1114111 := fun q hq => by
  have hq' : q ∈ [i.toNat] := hq
  rw [List.mem_singleton.mp hq']
  omega
theorem spot_fr {a b c d e u : Option Value} {m' : Str → Option Value} (z : Str) :
    (if z = Str.ofString "spot" then u else if z = Str.ofString "row" then a else if z = Str.ofString "spelled" then b else if z = Str.ofString "codes" then c else if z = Str.ofString "count" then d else if z = Str.ofString "first" then e else m' z) =
    (if z = Str.ofString "row" then a else if z = Str.ofString "first" then e else (fun z => if z = Str.ofString "spot" then u else if z = Str.ofString "spelled" then b else if z = Str.ofString "codes" then c else if z = Str.ofString "count" then d else m' z) z) := by
  have n1 : Str.ofString "row" ≠ Str.ofString "spot" := by decide
  have n2 : Str.ofString "first" ≠ Str.ofString "spot" := by decide
  have n3 : Str.ofString "first" ≠ Str.ofString "row" := by decide
  have n4 : Str.ofString "first" ≠ Str.ofString "spelled" := by decide
  have n5 : Str.ofString "first" ≠ Str.ofString "codes" := by decide
  have n6 : Str.ofString "first" ≠ Str.ofString "count" := by decide
  by_cases h2 : z = Str.ofString "row"
  · subst h2; simp [n1]
  · by_cases h3 : z = Str.ofString "first"
    · subst h3; simp [n2, n3, n4, n5, n6]
    · simp [h2, h3]
theorem spot_out {h₀ h : Heap} {L : Addr} {a b c d e u : Option Value} {m' : Str → Option Value}
    (F : Fr h₀ L h (fun z => if z = Str.ofString "spot" then u else if z = Str.ofString "row" then a else if z = Str.ofString "spelled" then b else if z = Str.ofString "codes" then c else if z = Str.ofString "count" then d else if z = Str.ofString "first" then e else m' z)) :
    Fr h₀ L h (fun z => if z = Str.ofString "row" then a else if z = Str.ofString "first" then e else (fun z => if z = Str.ofString "spot" then u else if z = Str.ofString "spelled" then b else if z = Str.ofString "codes" then c else if z = Str.ofString "count" then d else m' z) z) :=
  fr_eq F fun z => spot_fr z

/-- the piece of one sign -/
def pcOf (c : Nat) : Pc := if 33 ≤ c ∧ c ≤ 126 ∧ c ≠ 39 ∧ c ≠ 92 then .raw c else .esc (digsN c)
def pcs (x : Str) : List Pc := (cpl x).map pcOf
theorem pc_raw {c : Nat} (h : 33 ≤ c ∧ c ≤ 126 ∧ c ≠ 39 ∧ c ≠ 92) : pcOf c = .raw c := if_pos h
theorem pc_esc {c : Nat} (h : ¬ (33 ≤ c ∧ c ≤ 126 ∧ c ≠ 39 ∧ c ≠ 92)) : pcOf c = .esc (digsN c) := if_neg h
theorem pc_text (c : Nat) : cpl (encI (c : Int)) = (pcOf c).text := by
  unfold encI
  by_cases h : 33 ≤ c ∧ c ≤ 126 ∧ c ≠ 39 ∧ c ≠ 92
  · rw [pc_raw h, if_pos (by omega)]
    rfl
  · rw [pc_esc h, if_neg (by omega), cpl_app, cpl_app, hexS, cpl_T]
    rfl
theorem pc_val (c : Nat) : (pcOf c).val = c := by
  by_cases h : 33 ≤ c ∧ c ≤ 126 ∧ c ≠ 39 ∧ c ≠ 92
  · rw [pc_raw h]; rfl
  · rw [pc_esc h]; exact digsN_val c
theorem pc_ok {c : Nat} (hc : c ≤ 1114111) : (pcOf c).ok := by
  by_cases h : 33 ≤ c ∧ c ≤ 126 ∧ c ≠ 39 ∧ c ≠ 92
  · rw [pc_raw h]; exact ⟨h.2.2.2, hc⟩
  · rw [pc_esc h]; exact ⟨digsN_ne c, digsN_lt c, Nat.le_trans (Nat.le_of_eq (digsN_val c)) hc⟩
theorem inner_pcs (x : Str) : inner (pcs x) = (KStt.codes x).flatMap (fun i => cpl (encI i)) := by
  rw [inner, pcs, mkS_codes, List.flatMap_map, List.flatMap_map]
  congr 1
  funext c
  exact (pc_text c).symm
theorem qn_word {x : Str} (ha : anS x = false) : qnS x = wordS (pcs x) := by
  unfold qnS wordS
  rw [if_neg (by rw [ha]; decide), inner_pcs]
theorem txt_pcs (x : Str) : textS (pcs x) = x := by
  refine cpl_ext ?_
  unfold textS pcs
  rw [cpl_T, List.map_map]
  have h : (cpl x).map (Pc.val ∘ pcOf) = (cpl x).map id := List.map_congr_left fun c _ => pc_val c
  rw [h, List.map_id]
theorem pcs_ok {x : Str} (hx : ∀ c ∈ x.cps.toList, c ≤ 1114111) : ∀ p ∈ pcs x, p.ok := fun p hp => by
  obtain ⟨c, hc, rfl⟩ := List.mem_map.mp hp
  exact pc_ok (hx c hc)
theorem pcs_len {x : Str} : (pcs x).length = x.length := by rw [pcs, List.length_map, cpl_len]
theorem inner_len {x : Str} (hx : ∀ c ∈ x.cps.toList, c ≤ 1114111) : (inner (pcs x)).length ≤ 9 * x.length := by
  have h := sum_le (fun i => (encI i).length) 9 (KStt.codes x) fun i hi => encI_len (codes_le hx i hi)
  rw [inner_pcs, List.length_flatMap]
  simp only [cpl_len, KStt.codes_length] at h ⊢
  exact h
theorem cut92 : ∀ {a b r q : List Nat}, 92 ∉ a → 92 ∉ b → a ++ 92 :: r = b ++ 92 :: q → a = b ∧ r = q
  | [], [], r, q, _, _, h => ⟨rfl, (List.cons.inj h).2⟩
  | [], b :: l, r, q, _, hb, h => absurd (List.mem_cons.mpr (.inl (List.cons.inj h).1)) hb
  | a :: l, [], r, q, ha, _, h => absurd (List.mem_cons.mpr (.inl (List.cons.inj h).1.symm)) ha
  | a :: l, b :: k, r, q, ha, hb, h => by
    obtain ⟨h1, h2⟩ := List.cons.inj h
    obtain ⟨h3, h4⟩ := cut92 (fun m => ha (List.mem_cons_of_mem _ m)) (fun m => hb (List.mem_cons_of_mem _ m)) h2
    exact ⟨by rw [h1, h3], h4⟩
def unfig (c : Nat) : Nat := if c < 58 then c - 48 else c - 87
theorem unfig_fig : ∀ d : Nat, d < 16 → unfig (figc d) = d := by decide
theorem figs_inj {a b : List Nat} (ha : ∀ d ∈ a, d < 16) (hb : ∀ d ∈ b, d < 16) (h : a.map figc = b.map figc) : a = b := by
  have h1 : ∀ l : List Nat, (∀ d ∈ l, d < 16) → (l.map figc).map unfig = l := fun l hl => by
    rw [List.map_map]
    have e : l.map (unfig ∘ figc) = l.map id := List.map_congr_left fun d hd => unfig_fig d (hl d hd)
    rw [e, List.map_id]
  rw [← h1 a ha, ← h1 b hb, h]
theorem pc_step {a b : Nat} {r q : List Nat} (h : (pcOf a).text ++ r = (pcOf b).text ++ q) : a = b ∧ r = q := by
  by_cases ha : 33 ≤ a ∧ a ≤ 126 ∧ a ≠ 39 ∧ a ≠ 92 <;> by_cases hb : 33 ≤ b ∧ b ≤ 126 ∧ b ≠ 39 ∧ b ≠ 92
  · rw [pc_raw ha, pc_raw hb] at h
    exact List.cons.inj h
  · rw [pc_raw ha, pc_esc hb] at h
    exact absurd (List.cons.inj h).1 ha.2.2.2
  · rw [pc_esc ha, pc_raw hb] at h
    exact absurd (List.cons.inj h).1.symm hb.2.2.2
  · rw [pc_esc ha, pc_esc hb] at h
    have h2 : ((digsN a).map figc ++ [92]) ++ r = ((digsN b).map figc ++ [92]) ++ q := (List.cons.inj (List.cons.inj h).2).2
    rw [List.append_assoc, List.append_assoc] at h2
    obtain ⟨h3, h4⟩ := cut92 (figs_no92 (digsN_lt a)) (figs_no92 (digsN_lt b)) h2
    have h5 := figs_inj (digsN_lt a) (digsN_lt b) h3
    exact ⟨by rw [← digsN_val a, ← digsN_val b, h5], h4⟩
theorem pc_text_ne (c : Nat) : (pcOf c).text ≠ [] := by
  unfold pcOf
  split <;> simp [Pc.text]
theorem inner_inj : ∀ {a b : List Nat}, inner (a.map pcOf) = inner (b.map pcOf) → a = b
  | [], [], _ => rfl
  | [], c :: l, h => absurd (List.append_eq_nil_iff.mp h.symm).1 (pc_text_ne c)
  | c :: l, [], h => absurd (List.append_eq_nil_iff.mp h).1 (pc_text_ne c)
  | c :: l, d :: k, h => by
    obtain ⟨h1, h2⟩ := pc_step (a := c) (b := d) (r := inner (l.map pcOf)) (q := inner (k.map pcOf)) h
    rw [h1, inner_inj h2]
theorem word_inj {x y : Str} (h : wordS (pcs x) = wordS (pcs y)) : x = y := by
  have h1 := mkS_inj h
  have h2 := (List.append_inj' h1 rfl).1
  exact cpl_ext (inner_inj (List.cons.inj h2).2)
/-- two texts never share a word of the listing -/
theorem qn_inj {x y : Str} (h : qnS x = qnS y) : x = y := by
  have same : ∀ z, anS z = true → qnS z = z := fun z hz => if_pos hz
  cases hx : anS x <;> cases hy : anS y
  · rw [qn_word hx, qn_word hy] at h
    exact word_inj h
  · rw [qn_word hx, same y hy] at h
    rw [← h] at hy
    exact absurd hy (by rw [word_an]; decide)
  · rw [qn_word hy, same x hx] at h
    rw [h] at hx
    exact absurd hx (by rw [word_an]; decide)
  · rw [same x hx, same y hy] at h
    exact h
theorem word_ne {x : Str} : wordS (pcs x) ≠ x := fun h => by
  have h1 : x.length ≤ (inner (pcs x)).length := by
    rw [inner, pcs, List.length_flatMap, List.map_map, ← cpl_len]
    have : ∀ l : List Nat, l.length ≤ (l.map (List.length ∘ Pc.text ∘ pcOf)).sum := by
      intro l
      induction l with
      | nil => exact Nat.le_refl _
      | cons a l ih =>
        have h0 : 1 ≤ (pcOf a).text.length := List.length_pos_iff.mpr (pc_text_ne a)
        simp only [List.map_cons, List.sum_cons, List.length_cons, Function.comp_apply] at ih ⊢
        omega
    exact this _
  have h2 := congrArg Str.length h
  rw [word_len] at h2
  omega

theorem quoted_name_a (w : World) (x : Str) (t : Tok) (hl : x.length ≤ 1000) (hx : ∀ c ∈ x.cps.toList, c ≤ 1114111) (ha : anS x = true) : Cl w 110 4 [.str x t] (fun t => .str x t) := by
  have h := quoted_name_cl w x t hl hx
  rwa [show qnS x = x from if_pos ha] at h
theorem quoted_name_q (w : World) (x : Str) (t : Tok) (hl : x.length ≤ 1000) (hx : ∀ c ∈ x.cps.toList, c ≤ 1114111) (ha : anS x = false) : Cl w 110 4 [.str x t] (fun t => .str (wordS (pcs x)) t) := by
  have h := quoted_name_cl w x t hl hx
  rwa [qn_word ha] at h
theorem law_name_w (w : World) (x : Str) (t : Tok) (hl : x.length ≤ 1000) (hx : ∀ c ∈ x.cps.toList, c ≤ 1114111) (ha : anS x = false) : ClT w (wordS (pcs x)) t (Str.ofString "read") x := by
  have h := law_name_q w (pcs x) t (pcs_ok hx) (by rw [pcs_len]; exact hl) (Nat.le_trans (inner_len hx) (by omega)) (by rw [txt_pcs]; exact qn_word ha)
  rwa [txt_pcs] at h

/-- a word beside its sample -/
def WTup (x : Str) (t1 t2 : Tok) : Obj := { cls := .type "tuple", data := .seq #[.str (qnS x) t1, .str x t2] }
def TupsOk (us : List Value) (xs : List Str) (tups : List (Addr × Obj)) : Prop :=
  us.length = xs.length ∧ ∀ (i : Nat) (x : Str), xs[i]? = some x → ∃ D t1 t2, us[i]? = some (.ref D) ∧ (D, WTup x t1 t2) ∈ tups
theorem TupsOk.snoc {us : List Value} {xs : List Str} {tups : List (Addr × Obj)} {i : Nat} {x : Str} {D : Addr} {t1 t2 : Tok} (h : TupsOk us (xs.take i) tups) (hx : xs[i]? = some x) : TupsOk (us ++ [Value.ref D]) (xs.take (i + 1)) ((D, WTup x t1 t2) :: tups) := by
  have e : xs.take (i + 1) = xs.take i ++ [x] := by rw [List.take_add_one, hx]; rfl
  rw [e]
  refine ⟨by rw [List.length_append, List.length_append, h.1]; rfl, fun j y hy => ?_⟩
  by_cases hj : j < (xs.take i).length
  · rw [List.getElem?_append_left hj] at hy
    obtain ⟨D', a, b, h1, h2⟩ := h.2 j y hy
    exact ⟨D', a, b, by rw [List.getElem?_append_left (by rw [h.1]; exact hj)]; exact h1, .tail _ h2⟩
  · rw [List.getElem?_append_right (Nat.not_lt.mp hj)] at hy
    have h0 : j - (xs.take i).length = 0 := by
      cases hk : j - (xs.take i).length with
      | zero => rfl
      | succ k => rw [hk] at hy; cases hy
    rw [h0] at hy
    have hxy : x = y := Option.some.inj hy
    subst hxy
    exact ⟨D, t1, t2, by rw [List.getElem?_append_right (by rw [h.1]; exact Nat.not_lt.mp hj), h.1, h0]; rfl, .head _⟩
section
variable {prog : Program} {w : World} {A : Around} {E : Value → Shared → Prop} {s : Shared} {env : Env} {h₀ : Heap} {body : List Stmt} {Q : Flow → Shared → Prop}
/-- the end of one turn of the loop that makes the words -/
def WordEnd (h₀ : Heap) (L W : Addr) (us : List Value) (x : Str) (own : List (Addr × Obj)) (m₀ : Str → Option Value) (s₁ : Shared) (f : Flow) (s₂ : Shared) : Prop :=
  f = .next ∧ ∃ h' tk m' D t1 t2 n', s₂ = { s₁ with heap := h', toks := tk } ∧ Fr h₀ L h' m' ∧ News h₀ L h' ((W, listOf (us ++ [Value.ref D]).toArray n') :: (D, WTup x t1 t2) :: own) ∧
    (∀ p ∈ own, @Ne Nat p.1 D) ∧ (@Ne Nat D W) ∧ ∀ z, z ≠ Str.ofString "sample" → z ≠ Str.ofString "word" → m' z = m₀ z
theorem words_loop {ls W : Addr} {vs : List Value} {nn n₀ : Nat} {xs : List Str} {m₀ : Str → Option Value} (hv : StrsAre vs xs) (hxl : xs.length ≤ 7)
    (hh : A.handled = none) (F : Fr h₀ env.locals s.heap m₀) (N : News h₀ env.locals s.heap [(ls, listOf vs.toArray nn), (W, listOf ([] : List Value).toArray n₀)]) (hne : @Ne Nat W ls)
    (turn : ∀ x us n h tk t u own, x ∈ xs → us.length ≤ 6 → OwnOff own [W] → Fr h₀ env.locals h (fun y => if y = Str.ofString "sample" then some (.str x t) else if y = Str.ofString "word" then u else m₀ y) → News h₀ env.locals h ((W, listOf us.toArray n) :: own) →
      wpAny (model prog w) A (execs body env) (WordEnd h₀ env.locals W us x own m₀ { s with heap := h, toks := tk }) E { s with heap := h, toks := tk })
    (done : ∀ us n tups m' h tk, TupsOk us xs tups → (∀ z, z ≠ Str.ofString "sample" → z ≠ Str.ofString "word" → m' z = m₀ z) → Fr h₀ env.locals h m' → News h₀ env.locals h ((W, listOf us.toArray n) :: tups) → Q .next { s with heap := h, toks := tk }) :
    wpAny (model prog w) A (pyIter (.ref ls)) (fun it s₂ => LoopAtV prog w A h₀ env (Str.ofString "sample") body Q E it s₂) E s := by
  refine list_loop (fun i m nx => ∃ us tups n, nx = (ls, listOf vs.toArray nn) :: (W, listOf us.toArray n) :: tups ∧ TupsOk us (xs.take i) tups ∧ (∀ p ∈ tups, @Ne Nat p.1 W ∧ @Ne Nat p.1 ls) ∧ ∀ z, z ≠ Str.ofString "sample" → z ≠ Str.ofString "word" → m z = m₀ z)
    hh (.head _) F N ⟨[], [], n₀, rfl, ⟨rfl, fun i x hx => by simp at hx⟩, fun p hp => absurd hp List.not_mem_nil, fun _ _ _ => rfl⟩ ?_ ?_
  · rintro i v m₁ news₁ h tk I own hvi hl₁ hI hown ⟨oI, hoI⟩ ⟨us, tups, n, rfl, hT, hoff, hm⟩ F₁ N₁
    obtain ⟨x, t, rfl, hx⟩ := hv.item i v hvi
    have hi : i < xs.length := (List.getElem?_eq_some_iff.mp hx).1
    have F₂ : Fr h₀ env.locals h (fun y => if y = Str.ofString "sample" then some (.str x t) else if y = Str.ofString "word" then m₁ (Str.ofString "word") else m₀ y) := fr_eq F₁ fun z => by
      by_cases h1 : z = Str.ofString "sample"
      · rw [if_pos h1, if_pos h1]
      · rw [if_neg h1, if_neg h1]
        by_cases h2 : z = Str.ofString "word"
        · rw [if_pos h2, h2]
        · rw [if_neg h2]; exact hm z h1 h2
    have hWI : @Ne Nat W I := hI (W, listOf us.toArray n) (.tail _ (.head _))
    have hlI : @Ne Nat ls I := hI (ls, listOf vs.toArray nn) (.head _)
    refine wpAny_mono (turn x us n h tk t _ ((ls, listOf vs.toArray nn) :: (tups ++ own)) (List.mem_of_getElem? hx) (by rw [hT.1, List.length_take]; omega) ?_ F₂ fun p hp => N₁ p ?_) (fun f s₂ q => ?_) fun _ _ e => e
    · intro p hp b hb e
      rw [List.mem_singleton.mp hb] at e
      rcases List.mem_cons.mp hp with rfl | hp
      · exact hne e.symm
      · rcases List.mem_append.mp hp with hp | hp
        · exact (hoff p hp).1 e
        · exact hWI (e.symm.trans (hown p hp))
    · rcases List.mem_cons.mp hp with rfl | hp
      · exact .tail _ (.head _)
      · rcases List.mem_cons.mp hp with rfl | hp
        · exact .head _
        · exact .tail _ (.tail _ hp)
    · obtain ⟨rfl, h', tk', m', D, t1, t2, n', rfl, F', N', hD, hDW, hm'⟩ := q
      refine ⟨rfl, h', tk', m', (ls, listOf vs.toArray nn) :: (W, listOf (us ++ [Value.ref D]).toArray n') :: (D, WTup x t1 t2) :: tups, rfl, F', fun p hp => N' p ?_, fun p hp => ?_, .head _, us ++ [Value.ref D], _, n', rfl, hT.snoc hx, fun p hp => ?_, hm'⟩
      · rcases List.mem_append.mp hp with hp | hp
        · rcases List.mem_cons.mp hp with rfl | hp
          · exact .tail _ (.tail _ (.head _))
          · rcases List.mem_cons.mp hp with rfl | hp
            · exact .head _
            · rcases List.mem_cons.mp hp with rfl | hp
              · exact .tail _ (.head _)
              · exact .tail _ (.tail _ (.tail _ (List.mem_append.mpr (.inl hp))))
        · exact .tail _ (.tail _ (.tail _ (List.mem_append.mpr (.inr hp))))
      · rcases List.mem_cons.mp hp with rfl | hp
        · exact hlI
        · rcases List.mem_cons.mp hp with rfl | hp
          · exact hWI
          · rcases List.mem_cons.mp hp with rfl | hp
            · exact fun e => hD (I, oI) (.tail _ (List.mem_append.mpr (.inr hoI))) e.symm
            · exact hI p (.tail _ (.tail _ hp))
      · rcases List.mem_cons.mp hp with rfl | hp
        · exact ⟨hDW, fun e => hD (ls, listOf vs.toArray nn) (.head _) e.symm⟩
        · exact hoff p hp
  · rintro m₁ news₁ h tk ⟨us, tups, n, rfl, hT, hoff, hm⟩ F₁ N₁
    rw [List.take_of_length_le (Nat.le_of_eq hv.length.symm)] at hT
    exact done us n tups m₁ h tk hT hm F₁ fun p hp => N₁ p (.tail _ hp)
end

section
variable {prog : Program} {w : World} {A : Around} {E : Value → Shared → Prop} {s : Shared} {h₀ : Heap} {L : Addr} {news : List (Addr × Obj)} {Q : Value → Shared → Prop}
abbrev pairO (a b : Str) (t1 t2 : Tok) : Obj := { cls := .type "tuple", data := .seq #[.str a t1, .str b t2] }
theorem read_pair {D : Addr} {a b : Str} {t1 t2 : Tok} (N : News h₀ L s.heap news) (h : (D, pairO a b t1 t2) ∈ news) : Reads s.heap (.ref D) (.tuple [.str a, .str b]) [] :=
  reads_tuple_at (N _ h).1 rfl rfl (ReadsAll.cons (Reads.str _ _) (ReadsAll.cons (Reads.str _ _) ReadsAll.nil))
theorem str_ok {x : Str} (h : ∀ q ∈ x.cps.toList, q ≤ 1114111) : PyData.strOk x = true := by
  unfold PyData.strOk
  rw [← Array.all_toList, List.all_eq_true]
  intro q hq
  exact decide_eq_true (Nat.lt_succ_of_le (h q hq))
theorem read_ok : PyData.strOk (Str.ofString "read") = true := by decide +kernel
theorem pair_shaped {a b : Str} (ha : PyData.strOk a = true) (hb : PyData.strOk b = true) : SeqAt.shaped (.tuple [.str a, .str b]) = true := by
  simp [SeqAt.shaped, PyData.canLay0, PyData.canLayAll0, PyData.depth, PyData.depthAll, ha, hb]
theorem ne_pair_same {D₁ D₂ : Addr} {a b : Str} {t1 t2 t3 t4 : Tok} (N : News h₀ L s.heap news) (h1 : (D₁, pairO a b t1 t2) ∈ news) (h2 : (D₂, pairO a b t3 t4) ∈ news) (ka : PyData.strOk a = true) (kb : PyData.strOk b = true) (hu : A.units + 64 < cLine)
    (h : Q (.bool false) s) : wpAny (model prog w) A (compareOp .NotEq (.ref D₁) (.ref D₂)) Q E s :=
  ne_dataH (read_pair N h1) (read_pair N h2) (pair_shaped ka kb) (pair_shaped ka kb) hu (by simpa [PyData.eqv, PyData.eqvAll] using h)
theorem eq_pair_same {D₁ D₂ : Addr} {a b : Str} {t1 t2 t3 t4 : Tok} (N : News h₀ L s.heap news) (h1 : (D₁, pairO a b t1 t2) ∈ news) (h2 : (D₂, pairO a b t3 t4) ∈ news) (ka : PyData.strOk a = true) (kb : PyData.strOk b = true) (hu : A.units + 64 < cLine)
    (h : Q (.bool true) s) : wpAny (model prog w) A (compareOp .Eq (.ref D₁) (.ref D₂)) Q E s :=
  eq_dataH (read_pair N h1) (read_pair N h2) (pair_shaped ka kb) (pair_shaped ka kb) hu (by simpa [PyData.eqv, PyData.eqvAll] using h)
theorem append_word {m : Str → Option Value} {W D : Addr} {us : List Value} {n : Nat} {x y : Str} {t1 t2 : Tok} {own : List (Addr × Obj)} (F : Fr h₀ L s.heap m) (N : News h₀ L s.heap news)
    (hW : (W, listOf us.toArray n) ∈ news) (hD : (D, pairO y x t1 t2) ∈ news) (hown : ∀ p ∈ own, p ∈ news) (hoff : OwnOff own [W]) (hDW : @Ne Nat D W) (hus : us.length ≤ 6)
    (h : ∀ h', Fr h₀ L h' m → News h₀ L h' ((W, listOf (us ++ [Value.ref D]).toArray (n + 1)) :: (D, pairO y x t1 t2) :: own) → Q .none { s with heap := h' }) :
    wpAny (model prog w) A (call (.builtin "list.append") [.ref W, .ref D]) Q E s := by
  have N2 : News h₀ L s.heap ((W, listOf us.toArray n) :: (D, pairO y x t1 t2) :: own) := fun p hp => by
    rcases List.mem_cons.mp hp with rfl | hp
    · exact N _ hW
    · rcases List.mem_cons.mp hp with rfl | hp
      · exact N _ hD
      · exact N p (hown p hp)
  refine append_K F N2 (.head fun p hp => ?_) (fun h' F' N' => h h' F' ?_) (by rw [List.size_toArray]; exact Nat.le_trans hus (by decide))
  · rcases List.mem_cons.mp hp with rfl | hp
    · exact hDW
    · exact hoff p hp W (.head _)
  · rw [List.push_toArray] at N'
    exact N'
end

theorem occ_none {w : Str} {c : Nat} (h : c ∉ cpl w) : (Builtin.Str.occurrences w ⟨#[c]⟩ 0 w.length 1).isEmpty = true := by
  have e := PySem.StrLaws.found_one w c
  have hd : decide (c ∈ w.cps.toList) = false := decide_eq_false h
  rw [hd] at e
  simpa using e
theorem figc_ge {d : Nat} : 33 ≤ figc d := by unfold figc; split <;> omega
theorem pc_signs {a c : Nat} (h : c ∈ (pcOf a).text) : 33 ≤ c := by
  by_cases ha : 33 ≤ a ∧ a ≤ 126 ∧ a ≠ 39 ∧ a ≠ 92
  · rw [pc_raw ha] at h
    rw [List.mem_singleton.mp h]
    exact ha.1
  · rw [pc_esc ha] at h
    rcases List.mem_cons.mp h with rfl | h
    · omega
    · rcases List.mem_cons.mp h with rfl | h
      · omega
      · rcases List.mem_append.mp h with h | h
        · obtain ⟨d, _, rfl⟩ := List.mem_map.mp h
          exact figc_ge
        · rw [List.mem_singleton.mp h]; omega
theorem word_signs {x : Str} {c : Nat} (h : c ∈ cpl (wordS (pcs x))) : 33 ≤ c := by
  have h' : c ∈ 39 :: inner (pcs x) ++ [39] := h
  rcases List.mem_append.mp h' with h | h
  · rcases List.mem_cons.mp h with rfl | h
    · omega
    · obtain ⟨p, hp, hc⟩ := List.mem_flatMap.mp h
      obtain ⟨a, _, rfl⟩ := List.mem_map.mp hp
      exact pc_signs hc
  · rw [List.mem_singleton.mp h]; omega
theorem word_sp (x : Str) : (Builtin.Str.occurrences (wordS (pcs x)) (Str.ofString " ") 0 (wordS (pcs x)).length 1).isEmpty = true :=
  occ_none (c := 32) fun h => absurd (word_signs h) (by decide)
theorem word_nl (x : Str) : (Builtin.Str.occurrences (wordS (pcs x)) (Str.ofString "\n") 0 (wordS (pcs x)).length 1).isEmpty = true :=
  occ_none (c := 10) fun h => absurd (word_signs h) (by decide)
theorem an_shape {x : Str} (h : anS x = true) : ∃ c r, x = mkS (c :: r) ∧ 97 ≤ c ∧ c ≤ 122 ∧ ∀ k ∈ c :: r, 48 ≤ k := by
  obtain ⟨⟨l⟩⟩ := x
  cases l with
  | nil => exact absurd h (by decide)
  | cons c r =>
    have e : KStt.codes ⟨⟨c :: r⟩⟩ = (c : Int) :: r.map (fun (n : Nat) => (n : Int)) := rfl
    unfold anS at h
    rw [e] at h
    simp only [Bool.and_eq_true, decide_eq_true_eq, List.all_eq_true] at h
    obtain ⟨h1, h2⟩ := h
    refine ⟨c, r, rfl, by omega, by omega, fun k hk => ?_⟩
    have hk' : (k : Int) ∈ (c : Int) :: r.map (fun (n : Nat) => (n : Int)) := by
      rcases List.mem_cons.mp hk with rfl | hk
      · exact .head _
      · exact .tail _ (List.mem_map.mpr ⟨k, hk, rfl⟩)
    have h3 := h2 _ hk'
    unfold alnI at h3
    simp only [Bool.or_eq_true, decide_eq_true_eq] at h3
    omega
theorem an_nl {x : Str} (h : anS x = true) : (Builtin.Str.occurrences x (Str.ofString "\n") 0 x.length 1).isEmpty = true := by
  obtain ⟨c, r, rfl, _, _, h3⟩ := an_shape h
  exact occ_none (c := 10) fun hm => absurd (h3 10 hm) (by decide)
theorem an_len {x : Str} (h : anS x = true) : 1 ≤ x.length := by
  obtain ⟨c, r, rfl, _⟩ := an_shape h
  rw [mkS_len]; simp
theorem an_head {x : Str} (h : anS x = true) : (Txt.item x 0 == Str.ofString "'") = false := by
  obtain ⟨c, r, rfl, h1, _⟩ := an_shape h
  have e : Txt.item (mkS (c :: r)) 0 = ⟨#[c]⟩ := item_mid [] c r rfl
  rw [e]
  refine beq_eq_false_iff_ne.mpr fun q => ?_
  have q2 : [c] = [39] := congrArg cpl q
  have := (List.cons.inj q2).1
  omega
theorem word_cond (x : Str) : ((wordS (pcs x) == x) != (Txt.item (wordS (pcs x)) 0 != Str.ofString "'")) = false := by
  rw [word_first, beq_eq_false_iff_ne.mpr (word_ne (x := x))]
  rfl
theorem an_cond {x : Str} (h : anS x = true) : ((x == x) != (Txt.item x 0 != Str.ofString "'")) = false := by
  have h1 := an_head h
  have h2 : (Txt.item x 0 != Str.ofString "'") = true := by
    unfold bne
    rw [h1]; rfl
  rw [h2, beq_self_eq_true]
  rfl

/-- the bare word -/
def bareS (f : Int) : Str := Str.ofString "a" ++ Str.ofString (toString f)
theorem fig_codes {f : Int} (h0 : 0 ≤ f) : ∀ q ∈ cpl (Str.ofString (toString f)), 48 ≤ q ∧ q ≤ 57 := by
  obtain ⟨n, rfl⟩ := Int.eq_ofNat_of_zero_le h0
  intro q hq
  have e : toString (Int.ofNat n) = String.ofList (Nat.toDigits 10 n) := rfl
  have hq' : q ∈ cpl (Str.ofString (toString (Int.ofNat n))) := hq
  rw [e, Str.ofString_eq_toList] at hq'
  have hq2 : q ∈ (String.ofList (Nat.toDigits 10 n)).toList.map Char.toNat := hq'
  rw [String.toList_ofList] at hq2
  obtain ⟨c, hc, rfl⟩ := List.mem_map.mp hq2
  have hd := Nat.isDigit_of_mem_toDigits (by decide) (by decide) hc
  unfold Char.isDigit at hd
  simp only [Bool.and_eq_true, decide_eq_true_eq] at hd
  exact ⟨hd.1, hd.2⟩
theorem bare_cpl (f : Int) : cpl (bareS f) = 97 :: cpl (Str.ofString (toString f)) := by
  unfold bareS
  rw [cpl_app]
  rfl
theorem bare_ok {f : Int} (h0 : 0 ≤ f) (h1 : f < 1200) : anS (bareS f) = true ∧ (bareS f).length ≤ 6 ∧ ∀ q ∈ (bareS f).cps.toList, q < 1200 ∧ q ≠ 39 ∧ q ≠ 92 := by
  have hf := fig_codes h0
  refine ⟨?_, ?_, fun q hq => ?_⟩
  · unfold anS
    rw [mkS_codes, bare_cpl, List.map_cons]
    simp only [Bool.and_eq_true, List.all_eq_true]
    refine ⟨by decide, fun i hi => ?_⟩
    rcases List.mem_cons.mp hi with rfl | hi
    · decide
    · obtain ⟨q, hq, rfl⟩ := List.mem_map.mp hi
      have := hf q hq
      unfold alnI
      simp only [Bool.or_eq_true, decide_eq_true_eq]
      omega
  · have h2 := PySem.int_text_length_le10 (a := f) (k := 4) (by decide) (by omega)
    rw [← cpl_len, bare_cpl, List.length_cons, cpl_len, PySem.ofString_length]
    omega
  · have hq' : q ∈ cpl (bareS f) := hq
    rw [bare_cpl] at hq'
    rcases List.mem_cons.mp hq' with rfl | hq'
    · decide
    · have := hf q hq'
      omega

/-- a sample -/
def SOk (x : Str) : Prop := x.length ≤ 100 ∧ ∀ q ∈ x.cps.toList, q ≤ 1114111
theorem sok_app {x y : Str} {n k : Nat} (hx : x.length ≤ n) (hy : y.length ≤ k) (hnk : n + k ≤ 100) (h1 : ∀ q ∈ x.cps.toList, q ≤ 1114111) (h2 : ∀ q ∈ y.cps.toList, q ≤ 1114111) : SOk (x ++ y) := by
  constructor
  · rw [← cpl_len, cpl_app, List.length_append, cpl_len, cpl_len]; omega
  · intro q hq
    have hq' : q ∈ cpl (x ++ y) := hq
    rw [cpl_app] at hq'
    rcases List.mem_append.mp hq' with h | h
    · exact h1 q h
    · exact h2 q h
theorem getD_le {x : Str} (h : ∀ q ∈ x.cps.toList, q ≤ 1114111) (i : Nat) : x.cps.getD i 0 ≤ 1114111 := by
  by_cases hi : i < x.cps.size
  · rw [Array.getD, dif_pos hi]
    exact h _ (by rw [Array.mem_toList_iff]; exact Array.getElem_mem hi)
  · rw [Array.getD, dif_neg hi]
    exact Nat.zero_le _
theorem sok_rev {x : Str} {u : Tok} (hx : x.length ≤ 12) (h : ∀ q ∈ x.cps.toList, q ≤ 1114111) : SOk (Txt.sliceBy x none none (-1, u)) := by
  constructor
  · rw [PyProof.Rows.step_rev_len]; omega
  · intro q hq
    rw [PyProof.Rows.step_rev_list] at hq
    obtain ⟨k, _, rfl⟩ := List.mem_map.mp hq
    exact getD_le h _
theorem samples_ok {cs : List Int} {f : Int} {u : Tok} (c0 : 1 ≤ cs.length) (c1 : cs.length ≤ 12) (hcs : ∀ i ∈ cs, 0 ≤ i ∧ i < 1200) (f0 : 0 ≤ f) (f1 : f < 1200) :
    ∀ x ∈ [rowS cs, Txt.sliceBy (rowS cs) none none (-1, u), Txt.item (rowS cs) 0, rowS cs ++ Str.ofString "a", Str.ofString "a" ++ rowS cs, Str.ofString "a" ++ Str.ofString (toString f), Str.ofString ""], SOk x := by
  have hl : (rowS cs).length ≤ 12 := by rw [row_len]; exact c1
  have hc : ∀ q ∈ (rowS cs).cps.toList, q ≤ 1114111 := fun q hq => Nat.le_of_lt (Nat.lt_trans (row_le hcs q hq) (by decide))
  have ha : ∀ q ∈ (Str.ofString "a").cps.toList, q ≤ 1114111 := by decide
  have hb := bare_ok f0 f1
  intro x hx
  rcases List.mem_cons.mp hx with rfl | hx
  · exact ⟨by omega, hc⟩
  rcases List.mem_cons.mp hx with rfl | hx
  · exact sok_rev hl hc
  rcases List.mem_cons.mp hx with rfl | hx
  · have e : Txt.item (rowS cs) 0 = chS (cs[0]'c0) := row_item (i := 0) c0
    rw [e]
    exact ⟨(by decide : 1 ≤ 100), chS_le (hcs _ (List.getElem_mem _))⟩
  rcases List.mem_cons.mp hx with rfl | hx
  · exact sok_app hl (k := 1) (by decide) (by decide) hc ha
  rcases List.mem_cons.mp hx with rfl | hx
  · exact sok_app (n := 1) (by decide) hl (by decide) ha hc
  rcases List.mem_cons.mp hx with rfl | hx
  · exact ⟨Nat.le_trans hb.2.1 (by decide), fun q hq => Nat.le_of_lt (Nat.lt_trans (hb.2.2 q hq).1 (by decide))⟩
  · rw [List.mem_singleton.mp hx]
    exact ⟨by decide, by decide⟩
theorem words_out {h₀ h : Heap} {L : Addr} {a b c : Option Value} {m m' : Str → Option Value} (F : Fr h₀ L h m)
    (hm : ∀ z, z ≠ Str.ofString "sample" → z ≠ Str.ofString "word" → m z = if z = Str.ofString "words" then a else if z = Str.ofString "row" then b else if z = Str.ofString "first" then c else m' z) :
    Fr h₀ L h (fun z => if z = Str.ofString "words" then a else if z = Str.ofString "first" then c else m z) := by
  have h1 := hm (Str.ofString "words") (by decide) (by decide)
  have h2 := hm (Str.ofString "first") (by decide) (by decide)
  rw [if_pos rfl] at h1
  rw [if_neg (by decide), if_neg (by decide), if_pos rfl] at h2
  refine fr_eq F fun z => ?_
  by_cases hz : z = Str.ofString "words"
  · rw [if_pos hz, hz, h1]
  · rw [if_neg hz]
    by_cases hy : z = Str.ofString "first"
    · rw [if_pos hy, hy, h2]
    · rw [if_neg hy]
theorem pair_cond (x y : Str) : ((qnS x == qnS y) != (x == y)) = false := by
  by_cases h : x = y
  · subst h
    rw [beq_self_eq_true, beq_self_eq_true]; rfl
  · rw [beq_eq_false_iff_ne.mpr h, beq_eq_false_iff_ne.mpr fun q => h (qn_inj q)]; rfl
theorem pair_out {h₀ h : Heap} {L : Addr} {a c : Option Value} {m m' : Str → Option Value} (F : Fr h₀ L h m)
    (hm : ∀ z, z ≠ Str.ofString "one" → z ≠ Str.ofString "other" → m z = if z = Str.ofString "words" then a else if z = Str.ofString "first" then c else m' z) :
    Fr h₀ L h (fun z => if z = Str.ofString "words" then a else if z = Str.ofString "first" then c else m z) := by
  have h1 := hm (Str.ofString "words") (by decide) (by decide)
  have h2 := hm (Str.ofString "first") (by decide) (by decide)
  rw [if_pos rfl] at h1
  rw [if_neg (by decide), if_pos rfl] at h2
  refine fr_eq F fun z => ?_
  by_cases hz : z = Str.ofString "words"
  · rw [if_pos hz, hz, h1]
  · rw [if_neg hz]
    by_cases hy : z = Str.ofString "first"
    · rw [if_pos hy, hy, h2]
    · rw [if_neg hy]
theorem fr_two {h₀ h : Heap} {L : Addr} {a b : Str} {v : Option Value} {m m' : Str → Option Value} (hm : ∀ z, z ≠ a → z ≠ b → m z = m' z) (F : Fr h₀ L h (fun z => if z = a then v else m z)) :
    Fr h₀ L h (fun z => if z = a then v else if z = b then m b else m' z) :=
  fr_eq F fun z => by
    by_cases h1 : z = a
    · rw [if_pos h1, if_pos h1]
    · rw [if_neg h1, if_neg h1]
      by_cases h2 : z = b
      · rw [if_pos h2, h2]
      · rw [if_neg h2, hm z h1 h2]
theorem TupsOk.at {us : List Value} {xs : List Str} {tups : List (Addr × Obj)} {i : Nat} {v : Value} (h : TupsOk us xs tups) (hv : us[i]? = some v) : ∃ x D t1 t2, v = .ref D ∧ (D, pairO (qnS x) x t1 t2) ∈ tups := by
  have hi : i < xs.length := by rw [← h.1]; exact (List.getElem?_eq_some_iff.mp hv).1
  obtain ⟨D, t1, t2, h1, h2⟩ := h.2 i (xs[i]'hi) (by simp [hi])
  rw [hv] at h1
  exact ⟨_, D, t1, t2, Option.some.inj h1, h2⟩

def raws (b : Str) : List Pc := (cpl b).map Pc.raw
theorem raws_text (b : Str) : textS (raws b) = b := by
  refine cpl_ext ?_
  unfold textS raws
  rw [cpl_T, List.map_map]
  exact List.map_id _
theorem raws_inner (b : Str) : inner (raws b) = cpl b := by
  unfold inner raws
  rw [List.flatMap_map]
  exact List.flatMap_singleton' _
theorem raws_word (b : Str) : Str.ofString "'" ++ b ++ Str.ofString "'" = wordS (raws b) := by
  refine cpl_ext ?_
  rw [wordS, raws_inner, cpl_app, cpl_app, cpl_T]
  rfl
theorem law_name_b (w : World) (f : Int) (t : Tok) (h0 : 0 ≤ f) (h1 : f < 1200) : ClT w (Str.ofString "'" ++ bareS f ++ Str.ofString "'") t (Str.ofString "refused") (wordS (raws (bareS f))) := by
  obtain ⟨ha, hl, hq⟩ := bare_ok h0 h1
  rw [raws_word]
  refine law_name_r w (raws (bareS f)) t (fun p hp => ?_) ?_ ?_ fun e => ?_
  · obtain ⟨c, hc, rfl⟩ := List.mem_map.mp hp
    have h2 := hq c hc
    exact ⟨h2.2.2, by omega⟩
  · rw [raws, List.length_map, cpl_len]; omega
  · rw [raws_inner, cpl_len]; omega
  · rw [raws_text, show qnS (bareS f) = bareS f from if_pos ha] at e
    rw [e, word_an] at ha
    cases ha
theorem list7 {us : List Value} (h : us.length = 7) : ∃ a b c d e f g, us = [a, b, c, d, e, f, g] := by
  match us, h with
  | [a, b, c, d, e, f, g], _ => exact ⟨a, b, c, d, e, f, g, rfl⟩
def zeros (j : Nat) : List Nat := List.replicate (j + 1) 0 ++ [4, 1]
theorem zero_word : ∀ j : Nat, j < 5 → Str.ofString "'\\x" ++ Txt.mul (Str.ofString "0") ((j : Int) + 1) ++ Str.ofString "41\\'" = wordS [.esc (zeros j)] := by decide +kernel
theorem zero_not : ∀ j : Nat, j < 5 → ¬ qnS (textS [.esc (zeros j)]) = wordS [.esc (zeros j)] := by decide +kernel
theorem zero_lt : ∀ j : Nat, j < 5 → ∀ d ∈ zeros j, d < 16 := by decide +kernel
theorem zero_val : ∀ j : Nat, j < 5 → hexV 0 (zeros j) ≤ 1114111 := by decide +kernel
theorem zero_inner : ∀ j : Nat, j < 5 → (inner [.esc (zeros j)]).length ≤ 20000 := by decide +kernel
theorem zero_mul : ∀ j : Nat, j < 5 → (Txt.mul (Str.ofString "0") ((j : Int) + 1)).length ≤ 5 := by decide +kernel
theorem fm5 (f : Int) : ∃ j : Nat, j < 5 ∧ f.fmod 5 = (j : Int) := by
  have h0 := Int.fmod_nonneg_of_pos f (show (0 : Int) < 5 by decide)
  have h1 := Int.fmod_lt_of_pos f (show (0 : Int) < 5 by decide)
  exact ⟨(f.fmod 5).toNat, by omega, by omega⟩
theorem mul_len (f : Int) : (Txt.mul (Str.ofString "0") (f.fmod 5 + 1)).length ≤ 5 := by
  obtain ⟨j, hj, e⟩ := fm5 f
  rw [e]
  exact zero_mul j hj
theorem law_name_z (w : World) (f : Int) (t : Tok) : ClT w (Str.ofString "'\\x" ++ Txt.mul (Str.ofString "0") (f.fmod 5 + 1) ++ Str.ofString "41\\'") t (Str.ofString "refused") (Str.ofString "'\\x" ++ Txt.mul (Str.ofString "0") (f.fmod 5 + 1) ++ Str.ofString "41\\'") := by
  obtain ⟨j, hj, e⟩ := fm5 f
  rw [e, zero_word j hj]
  refine law_name_r w _ t (fun p hp => ?_) (show 1 ≤ 1000 by decide) (zero_inner j hj) (zero_not j hj)
  rw [List.mem_singleton.mp hp]
  exact ⟨by unfold zeros; simp, zero_lt j hj, zero_val j hj⟩

section
theorem clear_W1 : True := by
  w_top off
  k_with_none
  exact True.intro
def Mid1 (s₁ : Shared) (h₀ : Heap) (L : Addr) (s' : Shared) : Prop :=
  ∃ (f c : Int) (t1 t2 : Tok) (h' : Heap) (tk' : Nat) (m' : Str → Option Value), s' = { s₁ with heap := h', toks := tk' } ∧
    Fr h₀ L h' (fun y => if y = Str.ofString "count" then some (.int c t2) else if y = Str.ofString "first" then some (.int f t1) else m' y) ∧
    News h₀ L h' [] ∧ 0 ≤ f ∧ f < 1200 ∧ 1 ≤ c ∧ c ≤ 12
def Mid2 (s₁ : Shared) (h₀ : Heap) (L : Addr) (s' : Shared) : Prop :=
  ∃ (f c : Int) (t1 t2 : Tok) (h' : Heap) (tk' : Nat) (m' : Str → Option Value) (cs : List Int) (vs : List Value) (C : Addr), s' = { s₁ with heap := h', toks := tk' } ∧
    Fr h₀ L h' (fun y => if y = Str.ofString "codes" then some (.ref C) else if y = Str.ofString "count" then some (.int c t2) else if y = Str.ofString "first" then some (.int f t1) else m' y) ∧
    News h₀ L h' [(C, LCg.lst vs)] ∧ 0 ≤ f ∧ f < 1200 ∧ 1 ≤ c ∧ c ≤ 12 ∧ IntsAre vs cs ∧ (cs.length : Int) = c ∧ ∀ i ∈ cs, 0 ≤ i ∧ i < 1200
def Mid3 (s₁ : Shared) (h₀ : Heap) (L : Addr) (s' : Shared) : Prop :=
  ∃ (f c : Int) (t1 t2 : Tok) (h' : Heap) (tk' : Nat) (m' : Str → Option Value) (cs : List Int) (vs us : List Value) (C S : Addr), s' = { s₁ with heap := h', toks := tk' } ∧
    Fr h₀ L h' (fun y => if y = Str.ofString "spelled" then some (.ref S) else if y = Str.ofString "codes" then some (.ref C) else if y = Str.ofString "count" then some (.int c t2) else if y = Str.ofString "first" then some (.int f t1) else m' y) ∧
    News h₀ L h' [(S, LCg.lst us), (C, LCg.lst vs)] ∧ 0 ≤ f ∧ f < 1200 ∧ 1 ≤ c ∧ c ≤ 12 ∧ IntsAre vs cs ∧ StrsAre us (cs.map escS) ∧ (cs.length : Int) = c ∧ ∀ i ∈ cs, 0 ≤ i ∧ i < 1200
local macro_rules | `(tactic| walk_at "call ref") => `(tactic| ((with_reducible show wpAny _ _ (call (Value.ref 131) _) _ _ _); k_dflt (refine' (spelled_cl _ _ _ ?p0 ?p1) _ _ _ _ _ _ _ _ _ _ _ _ _ _ _ _ _ _ _ _ _ ?kB ?kF ?kX ?kN ?kT ?kk ?kd ?ku ?_; (case kB => k_asm); (case kF => k_asm); (case kX => k_asm); (case kN => k_asm); (case kT => k_asm); (case kk => first | exact rfl | assumption); (case kd => ktr_room); (case ku => ktr_units); (case p0 => omega); (case p1 => omega)); intro t9 h9 tk9 F9 N9; (try dsimp only); (try k_fold)))
local macro_rules | `(tactic| walk_at "call ref") => `(tactic| ((with_reducible show wpAny _ _ (call (Value.ref 28) _) _ _ _); k_dflt (refine' (quoted_text_cl _ _ _ ?p0 ?p1) _ _ _ _ _ _ _ _ _ _ _ _ _ _ _ _ _ _ _ _ _ ?kB ?kF ?kX ?kN ?kT ?kk ?kd ?ku ?_; (case kB => k_asm); (case kF => k_asm); (case kX => k_asm); (case kN => k_asm); (case kT => k_asm); (case kk => first | exact rfl | assumption); (case kd => ktr_room); (case ku => ktr_units); (case p0 => omega); (case p1 => assumption)); intro t9 h9 tk9 F9 N9; (try dsimp only); (try k_fold)))
local macro_rules | `(tactic| walk_at "CompSrc") => `(tactic| (k_here; k_dflt (refine Hold.out ?_)))
def Mid4 (s₁ : Shared) (h₀ : Heap) (L : Addr) (s' : Shared) : Prop :=
  ∃ (f c : Int) (t1 t2 t3 : Tok) (h' : Heap) (tk' : Nat) (m' : Str → Option Value) (cs : List Int) (us : List Value) (C S : Addr), s' = { s₁ with heap := h', toks := tk' } ∧
    Fr h₀ L h' (fun y => if y = Str.ofString "row" then some (.str (rowS cs) t3) else if y = Str.ofString "spelled" then some (.ref S) else if y = Str.ofString "codes" then some (.ref C) else if y = Str.ofString "count" then some (.int c t2) else if y = Str.ofString "first" then some (.int f t1) else m' y) ∧
    News h₀ L h' [(S, LCg.lst us)] ∧ 0 ≤ f ∧ f < 1200 ∧ 1 ≤ c ∧ c ≤ 12 ∧ StrsAre us (cs.map escS) ∧ (cs.length : Int) = c ∧ ∀ i ∈ cs, 0 ≤ i ∧ i < 1200
local macro_rules | `(tactic| walk_at "pyIter ref") => `(tactic| (k_here; k_dflt (refine Hold.out ?_)))
def Mid5 (s₁ : Shared) (h₀ : Heap) (L : Addr) (s' : Shared) : Prop :=
  ∃ (f : Int) (t1 t3 : Tok) (h' : Heap) (tk' : Nat) (m' : Str → Option Value) (cs : List Int), s' = { s₁ with heap := h', toks := tk' } ∧
    Fr h₀ L h' (fun y => if y = Str.ofString "row" then some (.str (rowS cs) t3) else if y = Str.ofString "first" then some (.int f t1) else m' y) ∧
    News h₀ L h' [] ∧ 0 ≤ f ∧ f < 1200 ∧ 1 ≤ cs.length ∧ cs.length ≤ 12 ∧ ∀ i ∈ cs, 0 ≤ i ∧ i < 1200
local macro_rules | `(tactic| walk_at "exec For Name List cons nil") => `(tactic| (k_here; k_dflt (refine Hold.out ?_)))
local macro_rules | `(tactic| walk_at "call ref") => `(tactic| ((with_reducible show wpAny _ _ (call (Value.ref 110) _) _ _ _); k_dflt (refine' (quoted_name_a _ _ _ ?p0 ?p1 ?p2) _ _ _ _ _ _ _ _ _ _ _ _ _ _ _ _ _ _ _ _ _ ?kB ?kF ?kX ?kN ?kT ?kk ?kd ?ku ?_; (case kB => k_asm); (case kF => k_asm); (case kX => k_asm); (case kN => k_asm); (case kT => k_asm); (case kk => first | exact rfl | assumption); (case kd => ktr_room); (case ku => ktr_units); (case p0 => omega); (case p1 => assumption); (case p2 => assumption)); intro t9 h9 tk9 F9 N9; (try dsimp only); (try k_fold)))
local macro_rules | `(tactic| walk_at "call ref") => `(tactic| ((with_reducible show wpAny _ _ (call (Value.ref 110) _) _ _ _); k_dflt (refine' (quoted_name_q _ _ _ ?p0 ?p1 ?p2) _ _ _ _ _ _ _ _ _ _ _ _ _ _ _ _ _ _ _ _ _ ?kB ?kF ?kX ?kN ?kT ?kk ?kd ?ku ?_; (case kB => k_asm); (case kF => k_asm); (case kX => k_asm); (case kN => k_asm); (case kT => k_asm); (case kk => first | exact rfl | assumption); (case kd => ktr_room); (case ku => ktr_units); (case p0 => omega); (case p1 => assumption); (case p2 => assumption)); intro t9 h9 tk9 F9 N9; (try dsimp only); (try k_fold)))
local macro_rules | `(tactic| k_lt $h:ident) => `(tactic| (replace $h := allLt_of $h; simp only [AllLt, and_true] at $h:ident; (try refine strip2 ?_)))
local macro_rules | `(tactic| walk_at "compareOp NotEq ref ref") => `(tactic| (k_here; k_dflt (refine' ne_pair_same ?kN ?m1 ?m2 ?ka ?kb ?ku ?_; (case kN => k_asm); (case m1 => k_mem); (case m2 => k_mem); (case ka => first | assumption | exact rfl | decide); (case kb => assumption); (case ku => ke_room))))
local macro_rules | `(tactic| walk_at "call builtin:list.append") => `(tactic| (k_here; k_dflt (refine Hold.out ?_)))
def Mid6 (s₁ : Shared) (h₀ : Heap) (L : Addr) (s' : Shared) : Prop :=
  ∃ (f : Int) (t1 : Tok) (h' : Heap) (tk' : Nat) (m' : Str → Option Value) (W : Addr) (us : List Value) (n : Nat) (tups : List (Addr × Obj)) (xs : List Str), s' = { s₁ with heap := h', toks := tk' } ∧
    Fr h₀ L h' (fun y => if y = Str.ofString "words" then some (.ref W) else if y = Str.ofString "first" then some (.int f t1) else m' y) ∧
    News h₀ L h' ((W, listOf us.toArray n) :: tups) ∧ TupsOk us xs tups ∧ xs.length = 7 ∧ xs[5]? = some (bareS f) ∧ (∀ x ∈ xs, SOk x) ∧ 0 ≤ f ∧ f < 1200
local macro_rules | `(tactic| walk_at "compareOp Eq ref ref") => `(tactic| (k_here; k_dflt (refine' eq_pair_same ?kN ?m1 ?m2 ?ka ?kb ?ku ?_; (case kN => k_asm); (case m1 => k_mem); (case m2 => k_mem); (case ka => assumption); (case kb => assumption); (case ku => ke_room))))
local macro_rules | `(tactic| walk_at "call ref") => `(tactic| ((with_reducible show wpAny _ _ (call (Value.ref 138) (_)) _ _ _); k_dflt (refine' (law_name_a _ _ _ ?p0) _ _ _ _ _ _ _ _ _ _ _ _ _ _ _ _ _ _ ?kB ?kF ?kX ?kN ?kT ?kk ?kd ?ku ?_; (case kB => k_asm); (case kF => k_asm); (case kX => k_asm); (case kN => k_asm); (case kT => k_asm); (case kk => first | exact rfl | assumption); (case kd => ktr_room); (case ku => ktr_units); (case p0 => assumption)); intro D9 u9 v9 h9 tk9 F9 N9 O9; (try dsimp only); (try k_fold)))
local macro_rules | `(tactic| walk_at "call ref") => `(tactic| ((with_reducible show wpAny _ _ (call (Value.ref 138) ([Value.str (wordS (pcs _)) _])) _ _ _); k_dflt (refine' (law_name_w _ _ _ ?p0 ?p1 ?p2) _ _ _ _ _ _ _ _ _ _ _ _ _ _ _ _ _ _ ?kB ?kF ?kX ?kN ?kT ?kk ?kd ?ku ?_; (case kB => k_asm); (case kF => k_asm); (case kX => k_asm); (case kN => k_asm); (case kT => k_asm); (case kk => first | exact rfl | assumption); (case kd => ktr_room); (case ku => ktr_units); (case p0 => omega); (case p1 => assumption); (case p2 => assumption)); intro D9 u9 v9 h9 tk9 F9 N9 O9; (try dsimp only); (try k_fold)))
local macro_rules | `(tactic| walk_at "call ref") => `(tactic| ((with_reducible show wpAny _ _ (call (Value.ref 138) ([Value.str (Str.ofString "'" ++ bareS _ ++ Str.ofString "'") _])) _ _ _); k_dflt (refine' (law_name_b _ _ _ ?p0 ?p1) _ _ _ _ _ _ _ _ _ _ _ _ _ _ _ _ _ _ ?kB ?kF ?kX ?kN ?kT ?kk ?kd ?ku ?_; (case kB => k_asm); (case kF => k_asm); (case kX => k_asm); (case kN => k_asm); (case kT => k_asm); (case kk => first | exact rfl | assumption); (case kd => ktr_room); (case ku => ktr_units); (case p0 => assumption); (case p1 => assumption)); intro D9 u9 v9 h9 tk9 F9 N9 O9; (try dsimp only); (try k_fold)))
local macro_rules | `(tactic| walk_at "call ref") => `(tactic| ((with_reducible show wpAny _ _ (call (Value.ref 138) ([Value.str (Str.ofString _ ++ Txt.mul _ _ ++ Str.ofString _) _])) _ _ _); k_dflt (refine' (law_name_z _ _ _) _ _ _ _ _ _ _ _ _ _ _ _ _ _ _ _ _ _ ?kB ?kF ?kX ?kN ?kT ?kk ?kd ?ku ?_; (case kB => k_asm); (case kF => k_asm); (case kX => k_asm); (case kN => k_asm); (case kT => k_asm); (case kk => first | exact rfl | assumption); (case kd => ktr_room); (case ku => ktr_units)); intro D9 u9 v9 h9 tk9 F9 N9 O9; (try dsimp only); (try k_fold)))
set_option maxHeartbeats 8000000 in
theorem t1 : PySem.Challenge.rw_rr0013_01.Holds := by
  refine hd ?_
  k_go0
  all_goals try k_fold
  dsimp only
  rename News _ _ _ _ => N0
  rename_i F
  rename Shared => s₁
  refine cut2 (Mid1 s₁ s₁.heap s₁.heap.objs.size) ?_ ?_
  · k_steps
    all_goals rename News _ _ _ _ => N9
    all_goals rename Fr _ _ _ _ => F9
    all_goals refine ⟨rfl, _, _, _, _, _, _, _, rfl, F9, N9, ?_⟩
    all_goals refine ⟨?_, ?_, ?_, ?_⟩
    all_goals first | exact (fm1200 _).1 | exact (fm1200 _).2 | decide | (have := fm12 ((by assumption : List Int).getD (Int.toNat 1) 0); omega)
  rintro s' ⟨f, c, t1, t2, h', tk', m', rfl, F1, N1, f0, f1, c0, c1⟩
  clear N0 F
  refine cut1 (Mid2 s₁ s₁.heap s₁.heap.objs.size) ?_ ?_
  · refine wpAny_execs_cons ?_
    k_dflt (refine LCg.Assign_ListComp_U (F₀ := F1) (by rfl) (by with_unfolding_all rfl) (by rfl) (by decide) (by rfl) (by decide) (by rfl) (by rfl) (by rfl) ?_)
    k_dflt lcg_toSrc
    unfold Hold
    refine LCg.CompSrc.range (n := c.toNat) (by rfl) (by assumption) (by assumption) (by assumption) ?hsm ?hn ?hsz ?hR
    case hsm => exact small1 f0 f1 c0 c1
    case hn => exact size1 c0
    case hsz => have : c.toNat ≤ 12 := by omega
                size_fits
    case hR =>
      intro g
      refine rest_inv (fun i ys => IntsAre ys ((List.range i).map (fun k => (f + (k : Nat)).fmod 1200))) .nil ?step ?fin
      case step =>
        intro i ys hi hJ v I oI C oC D m₂ h tk E' hv hC hx F N off ne
        obtain ⟨t9, rfl⟩ := hv
        k_steps
        rw [List.range_succ, List.map_append]
        exact hJ.append (.cons _ _ .nil)
      case fin =>
        intro ys hJ
        unfold LCg.FinA
        intro D h tk F N off
        refine wpAny_execs_nil ⟨rfl, ?_⟩
        exact ⟨f, c, t1, t2, h, tk, m', _, ys, D, rfl, F, N, f0, f1, c0, c1, hJ, by rw [List.length_map, List.length_range]; omega, cs_bound⟩
  clear h' tk' m' F1 N1 f0 f1 c0 c1 t1 t2 f c
  rintro s' ⟨f, c, t1, t2, h', tk', m', cs, vs, C, rfl, F1, N1, f0, f1, c0, c1, hvs, hlen, hcs⟩
  refine cut1 (Mid3 s₁ s₁.heap s₁.heap.objs.size) ?_ ?_
  · refine wpAny_execs_cons ?_
    k_dflt (refine LCg.Assign_ListComp_U (F₀ := F1) (by rfl) (by with_unfolding_all rfl) (by rfl) (by decide) (by rfl) (by decide) (by rfl) (by rfl) (by rfl) ?_)
    k_dflt lcg_toSrc
    unfold Hold
    have hl12 : vs.length ≤ 12 := by have := ints_len hvs; omega
    refine LCg.CompSrc.ledger (by rfl) (by assumption) (by assumption) (.head _) (by rw [List.size_toArray]; exact Nat.le_trans hl12 (by decide)) ?_
    intro g
    refine rest_inv (fun i ys => StrsAre ys ((cs.take i).map escS)) .nil ?step ?fin
    case step =>
      intro i ys hi hJ v I oI C oC D m₂ h tk E' hv hC hx F N off ne
      have hv' : vs[i]? = some v := by rw [← hv]; simp
      obtain ⟨n, t9, rfl, hn⟩ := hvs.at i v hv'
      have hb := hcs n (List.mem_of_getElem? hn)
      k_steps
      rename News _ _ _ _ => N9
      refine LCg.CompEnd.intro (by assumption) N9 _ (fun p hp => hp) off (.inr ⟨_, .head _, rfl, _, rfl⟩) ⟨?_, rfl⟩
      rw [List.take_add_one, hn, List.map_append]
      exact hJ.append' (.cons _ _ .nil)
    case fin =>
      intro ys hJ
      unfold LCg.FinA
      intro D h tk F N off
      rw [List.take_of_length_le (by rw [List.size_toArray, ints_len hvs]; exact Nat.le_refl _)] at hJ
      refine wpAny_execs_nil ⟨rfl, ?_⟩
      exact ⟨f, c, t1, t2, h, tk, m', cs, vs, ys, C, D, rfl, F, N, f0, f1, c0, c1, hvs, hJ, hlen, hcs⟩
  clear h' tk' m' F1 N1 f0 f1 c0 c1 t1 t2 hvs hlen hcs f c cs C vs
  rintro s' ⟨f, c, t1, t2, h', tk', m', cs, vs, us, C, S, rfl, F1, N1, f0, f1, c0, c1, hvs, hus, hlen, hcs⟩
  have hl12 : vs.length ≤ 12 := by have := ints_len hvs; omega
  refine cut1 (Mid4 s₁ s₁.heap s₁.heap.objs.size) ?_ ?_
  · refine wpAny_execs_cons ?_
    k_steps
    unfold Hold
    refine LCg.CompSrc.ledger (by rfl) (by assumption) (by assumption) (.tail _ (.head _)) (by rw [List.size_toArray]; exact Nat.le_trans hl12 (by decide)) ?_
    intro g
    refine rest_inv (fun i ys => StrsAre ys ((cs.take i).map chS)) .nil ?step ?fin
    case step =>
      intro i ys hi hJ v I oI C oC D m₂ h tk E' hv hC hx F N off ne
      have hv' : vs[i]? = some v := by rw [← hv]; simp
      obtain ⟨n, t9, rfl, hn⟩ := hvs.at i v hv'
      have hb := hcs n (List.mem_of_getElem? hn)
      k_steps
      rename News _ _ _ _ => N9
      refine LCg.CompEnd.intro (by assumption) N9 _ (fun p hp => hp) off (.inr ⟨_, .tail _ (.head _), rfl, _, rfl⟩) ⟨?_, rfl⟩
      rw [List.take_add_one, hn, List.map_append]
      exact hJ.append' (.cons _ _ .nil)
    case fin =>
      intro ys hJ
      unfold LCg.FinE
      intro D h tk F N off
      rw [List.take_of_length_le (by rw [List.size_toArray, ints_len hvs]; exact Nat.le_refl _)] at hJ
      k_steps
      refine join_listW (News.isList N (.head _)) hJ (by decide +kernel) (row_weight (by omega)) ?_
      intro t' k
      rw [row_join]
      k_steps
      rename News _ _ _ _ => N9
      refine ⟨rfl, ?_⟩
      exact ⟨f, c, t1, t2, t', _, _, m', cs, us, C, S, rfl, by assumption, news_of N9 (fun p hp => .tail _ (by rw [List.mem_singleton.mp hp]; exact .head _)), f0, f1, c0, c1, hus, hlen, hcs⟩
  clear h' tk' m' F1 N1 f0 f1 c0 c1 t1 t2 hvs hl12 hlen hcs hus f c cs C vs us S
  rintro s' ⟨f, c, t1, t2, t3, h', tk', m', cs, us, C, S, rfl, F1, N1, f0, f1, c0, c1, hus, hlen, hcs⟩
  refine cut1 (Mid4 s₁ s₁.heap s₁.heap.objs.size) ?_ ?_
  · refine wpAny_execs_cons ?_
    have hl12 : (rowS cs).length ≤ 12 := by rw [row_len]; omega
    have hrl : ∀ q ∈ (rowS cs).cps.toList, q ≤ 1114111 := fun q hq => Nat.le_of_lt (Nat.lt_trans (row_le hcs q hq) (by decide))
    k_steps
    rename News _ _ _ _ => N9
    refine join_listW (News.isList N9 (.head _)) hus (by decide +kernel) (sp_weight (by omega)) ?_
    intro t' k
    have hq : (qtS (rowS cs) != Str.ofString "'" ++ Txt.join (Str.ofString "") (cs.map escS) ++ Str.ofString "'") = false := by rw [qt_row hcs]; simp
    have hJl := sp_join_len (cs := cs) (by omega)
    generalize Txt.join (Str.ofString "") (cs.map escS) = J at hq hJl ⊢
    k_steps
    rename News _ _ _ _ => N9
    refine ⟨rfl, ?_⟩
    exact ⟨f, c, t1, t2, t3, _, _, m', cs, us, C, S, rfl, by assumption, N9, f0, f1, c0, c1, hus, hlen, hcs⟩
  clear h' tk' m' F1 N1 f0 f1 c0 c1 t1 t2 t3 hlen hcs hus f c cs C us S
  rintro s' ⟨f, c, t1, t2, t3, h', tk', m', cs, us, C, S, rfl, F1, N1, f0, f1, c0, c1, hus, hlen, hcs⟩
  refine cut1 (Mid5 s₁ s₁.heap s₁.heap.objs.size) ?_ ?_
  · refine wpAny_execs_cons ?_
    k_dflt (refine For_invVF F1 (by rfl) (by rfl) ?_)
    k_steps
    unfold Hold
    rename_i aR aF aN aK
    refine range_loop (n := c.toNat) (fun i m nx => nx = [(S, LCg.lst us)] ∧ ∀ z, z ≠ Str.ofString "spot" → m z = (fun y => if y = Str.ofString "row" then some (Value.str (rowS cs) t3) else if y = Str.ofString "spelled" then some (.ref S) else if y = Str.ofString "codes" then some (.ref C) else if y = Str.ofString "count" then some (.int c t2) else if y = Str.ofString "first" then some (.int f t1) else m' y) z) (by rfl) aR ?hsm ?hn aF aN ⟨rfl, fun _ _ => rfl⟩ ?turn ?done
    case hsm => exact small0 c0 c1
    case hn => exact size0 c0
    case turn =>
      clear aR aF aN aK
      rename Fr _ _ _ _ => Fa
      rename News _ _ _ _ => Na
      clear Fa Na
      intro i t m₁ news₁ h tk I own hi hI hown hJ F N
      obtain ⟨rfl, hm⟩ := hJ
      have F2 : Fr s₁.heap s₁.heap.objs.size h _ := pj_fr hm F
      have N2 : News s₁.heap s₁.heap.objs.size h ((S, LCg.lst us) :: own) := N
      clear F hm N
      have hic : i < cs.length := by omega
      have hl12 : (rowS cs).length ≤ 12 := by rw [row_len]; omega
      have hrl : (rowS cs).length = cs.length := row_len cs
      have e0 : (0 : Int) + (i : Int) = (i : Int) := by omega
      rw [e0] at F2
      have hit : Txt.item (rowS cs) (i : Int) = chS (cs[i]'hic) := row_item hic
      have hb := hcs _ (List.getElem_mem hic)
      have hlen1 : (chS (cs[i]'hic)).length ≤ 1 := Nat.le_refl _
      have hcod : ∀ q ∈ (chS (cs[i]'hic)).cps.toList, q ≤ 1114111 := chS_le hb
      have hq := qt_one hb.1
      have hsp : (cs.map escS).getD (i : Int).toNat Str.empty = escS (cs[i]'hic) := by simp [hic]
      have hsl : ((cs.map escS).getD (i : Int).toNat Str.empty).length ≤ 5 := by rw [hsp]; exact escS_len _
      rw [← hit] at hcod hq
      rw [← hsp] at hq
      have hq2 : (qtS (Txt.item (rowS cs) (i : Int)) != Str.ofString "'" ++ (cs.map escS).getD (i : Int).toNat Str.empty ++ Str.ofString "'") = false := by rw [hq]; simp
      clear hsp hit hlen1 hb
      k_steps
      rename News _ _ _ _ => N9
      rename Fr _ _ _ _ => F9
      refine ⟨rfl, _, _, _, [(S, LCg.lst us)], rfl, F9, N9, hI, rfl, fun z hz => if_neg hz⟩
    case done =>
      intro m₁ news₁ h tk hJ F N
      obtain ⟨rfl, hm⟩ := hJ
      refine wpAny_execs_nil ⟨rfl, ?_⟩
      have em := pj_frOut hm F
      exact ⟨f, t1, t3, h, _, _, cs, rfl, spot_out em, fun p hp => absurd hp List.not_mem_nil, f0, f1, by omega, by omega, hcs⟩
  clear h' tk' m' F1 N1 f0 f1 c0 c1 t1 t2 t3 hlen hcs hus f c cs C us S
  rintro s' ⟨f, t1, t3, h', tk', m', cs, rfl, F1, N1, f0, f1, c0, c1, hcs⟩
  refine cut2 (Mid6 s₁ s₁.heap s₁.heap.objs.size) ?_ ?_
  · k_steps
    unfold Hold
    rename News _ _ _ _ => Nw
    rename Fr _ _ _ _ => Fw
    have hl12 : (rowS cs).length ≤ 12 := by rw [row_len]; exact c1
    have hl1 : 1 ≤ (rowS cs).length := by rw [row_len]; exact c0
    k_dflt (refine For_invVF Fw (by rfl) (by rfl) ?_)
    k_steps
    unfold Hold
    rename News _ _ _ _ => Nw
    rename Fr _ _ _ _ => Fw
    refine words_loop (.cons _ _ (.cons _ _ (.cons _ _ (.cons _ _ (.cons _ _ (.cons _ _ (.cons _ _ .nil))))))) (Nat.le_refl _) (by rfl) Fw Nw ?hne ?turn ?done
    case hne => exact Nat.ne_of_lt (by assumption)
    case turn =>
      clear Fw Nw
      intro x us n h tk t u own hx hus hoff F N
      have hxs := samples_ok c0 c1 hcs f0 f1 x hx
      have hxl : x.length ≤ 1000 := Nat.le_trans hxs.1 (by decide)
      have hxc : ∀ q ∈ x.cps.toList, q ≤ 1114111 := hxs.2
      clear hx hxs
      have hxk : PyData.strOk x = true := str_ok hxc
      have hrk := read_ok
      have kMark := kstMark
      cases ha : anS x
      · have hw1 : 1 ≤ (wordS (pcs x)).length := by rw [word_len]; omega
        have hw2 : (wordS (pcs x)).length ≤ 10000 := by rw [word_len]; have := inner_len hxc; omega
        have hw3 : (Txt.item (wordS (pcs x)) 0 == Str.ofString "'") = true := by simpa using word_first (pcs x)
        have hw4 := word_sp x
        have hw5 := word_nl x
        have hw6 := word_cond x
        k_steps
        unfold Hold
        rename News _ _ _ _ => N9
        rename Fr _ _ _ _ => F9
        rename _ ∧ _ ∧ _ ∧ AllLt _ own => lA
        refine append_word F9 N9 (.tail _ (.tail _ (.tail _ (.head _)))) (.head _) (fun p hp => .tail _ (.tail _ (.tail _ (.tail _ hp)))) hoff (Nat.ne_of_gt (by omega)) hus (fun h9 F9 N9 => ?_)
        k_steps
        rename News _ _ _ _ => N9
        rename Fr _ _ _ _ => F9
        have e : ∀ t1 t2, pairO (wordS (pcs x)) x t1 t2 = WTup x t1 t2 := fun t1 t2 => by unfold WTup; rw [qn_word ha]
        rw [e] at N9
        exact ⟨rfl, _, _, _, _, _, _, _, rfl, F9, N9, tbn_neAll lA.2.2.2, Nat.ne_of_gt (by omega), fun z h1 h2 => by simp only [if_neg h1, if_neg h2]⟩
      · have hw1 := an_len ha
        have hw3 := an_head ha
        have hw5 := an_nl ha
        have hw6 := an_cond ha
        k_steps
        unfold Hold
        rename News _ _ _ _ => N9
        rename Fr _ _ _ _ => F9
        rename _ ∧ _ ∧ _ ∧ AllLt _ own => lA
        refine append_word F9 N9 (.tail _ (.tail _ (.tail _ (.head _)))) (.head _) (fun p hp => .tail _ (.tail _ (.tail _ (.tail _ hp)))) hoff (Nat.ne_of_gt (by omega)) hus (fun h9 F9 N9 => ?_)
        k_steps
        rename News _ _ _ _ => N9
        rename Fr _ _ _ _ => F9
        have e : ∀ t1 t2, pairO x x t1 t2 = WTup x t1 t2 := fun t1 t2 => by unfold WTup; rw [show qnS x = x from if_pos ha]
        rw [e] at N9
        exact ⟨rfl, _, _, _, _, _, _, _, rfl, F9, N9, tbn_neAll lA.2.2.2, Nat.ne_of_gt (by omega), fun z h1 h2 => by simp only [if_neg h1, if_neg h2]⟩
    case done =>
      intro us n tups m9 h tk hT hm F N
      refine wpAny_execs_nil ⟨rfl, ?_⟩
      exact ⟨f, t1, h, _, _, _, us, n, tups, _, rfl, words_out F hm, N, hT, rfl, rfl, samples_ok c0 c1 hcs f0 f1, f0, f1⟩
  clear h' tk' m' F1 N1 f0 f1 c0 c1 t1 t3 hcs f cs
  rintro s' ⟨f, t1, h', tk', m', W, us, n, tups, xs, rfl, F1, N1, hT, hxl, hx5, hok, f0, f1⟩
  refine cut1 (Mid6 s₁ s₁.heap s₁.heap.objs.size) ?_ ?_
  · refine wpAny_execs_cons ?_
    k_dflt (refine For_invVF F1 (by rfl) (by rfl) ?_)
    k_steps
    unfold Hold
    rename News _ _ _ _ => N1
    rename Fr _ _ _ _ => F1
    refine list_loop (fun i m nx => nx = (W, listOf us.toArray n) :: tups ∧ ∀ z, z ≠ Str.ofString "one" → z ≠ Str.ofString "other" → m z = (fun y => if y = Str.ofString "words" then some (.ref W) else if y = Str.ofString "first" then some (Value.int f t1) else m' y) z) (by rfl) (.head _) F1 N1 ⟨rfl, fun _ _ _ => rfl⟩ ?turn ?done
    case turn =>
      clear F1 N1
      intro i v m₁ news₁ h tk I own hv hl hI hown hoI hJ F N
      obtain ⟨rfl, hm⟩ := hJ
      obtain ⟨x, D, ta, tb, rfl, hD⟩ := hT.at hv
      have F2 : Fr s₁.heap s₁.heap.objs.size h _ := fr_two hm F
      have N2 : News s₁.heap s₁.heap.objs.size h ((W, listOf us.toArray n) :: (tups ++ own)) := N
      clear F N
      refine wpAny_execs_cons ?_
      k_dflt (refine For_invVF F2 (by rfl) (by rfl) ?_)
      k_steps
      unfold Hold
      refine list_loop (fun i m nx => nx = (W, listOf us.toArray n) :: (tups ++ own) ∧ ∀ z, z ≠ Str.ofString "other" → m z = (fun z => if z = Str.ofString "one" then some (Value.ref D) else if z = Str.ofString "other" then m₁ (Str.ofString "other") else if z = Str.ofString "words" then some (.ref W) else if z = Str.ofString "first" then some (Value.int f t1) else m' z) z) (by rfl) (.head _) F2 N2 ⟨rfl, fun _ _ => rfl⟩ ?turn2 ?done2
      case turn2 =>
        clear F2 N2
        intro j v₂ m₂ news₂ h2 tk2 I2 own2 hv2 hl2 hI2 hown2 hoI2 hJ2 F N
        obtain ⟨rfl, hm2⟩ := hJ2
        obtain ⟨y, D2, tc, td, rfl, hD2⟩ := hT.at hv2
        have F3 : Fr s₁.heap s₁.heap.objs.size h2 _ := pj_fr hm2 F
        have N3 : News s₁.heap s₁.heap.objs.size h2 ((D, pairO (qnS x) x ta tb) :: (D2, pairO (qnS y) y tc td) :: ((W, listOf us.toArray n) :: (tups ++ own) ++ own2)) := fun p hp => by
          rcases List.mem_cons.mp hp with rfl | hp
          · exact N _ (.tail _ (List.mem_append.mpr (.inl (List.mem_append.mpr (.inl hD)))))
          · rcases List.mem_cons.mp hp with rfl | hp
            · exact N _ (.tail _ (List.mem_append.mpr (.inl (List.mem_append.mpr (.inl hD2)))))
            · exact N p hp
        clear F N
        have hq := pair_cond x y
        generalize hbig : (W, listOf us.toArray n) :: (tups ++ own) ++ own2 = big at N3
        have kMark := kstMark
        k_steps
        exact ⟨rfl, _, _, _, (W, listOf us.toArray n) :: (tups ++ own), rfl, F3, fun p hp => N3 p (.tail _ (.tail _ (hbig ▸ hp))), hI2, .head _, rfl, fun z hz => if_neg hz⟩
      case done2 =>
        intro m₂ news₂ h2 tk2 hJ2 F N
        obtain ⟨rfl, hm2⟩ := hJ2
        refine wpAny_execs_nil ⟨rfl, _, _, _, (W, listOf us.toArray n) :: tups, rfl, F, N, hI, .head _, rfl, fun z h1 h2 => ?_⟩
        rw [hm2 z h2]
        simp only [if_neg h1, if_neg h2]
    case done =>
      intro m₁ news₁ h tk hJ F N
      obtain ⟨rfl, hm⟩ := hJ
      refine wpAny_execs_nil ⟨rfl, ?_⟩
      exact ⟨f, t1, h, _, _, W, us, n, tups, xs, rfl, pair_out F hm, N, hT, hxl, hx5, hok, f0, f1⟩
  clear h' tk' m' F1 N1 f0 f1 t1 hT hxl hx5 hok f W us n tups xs
  rintro s' ⟨f, t1, h', tk', m', W, us, n, tups, xs, rfl, F1, N1, hT, hxl, hx5, hok, f0, f1⟩
  obtain ⟨D, ta, tb, hD5, hD⟩ := hT.2 5 _ hx5
  have hul : us.length = 7 := hT.1.trans hxl
  obtain ⟨v0, v1, v2, v3, v4, v5, v6, rfl⟩ := list7 hul
  have hv5 : v5 = .ref D := Option.some.inj hD5
  subst hv5
  have N2 : News s₁.heap s₁.heap.objs.size h' ((D, pairO (qnS (bareS f)) (bareS f) ta tb) :: (W, listOf #[v0, v1, v2, v3, v4, .ref D, v6] n) :: tups) := fun p hp => by
    rcases List.mem_cons.mp hp with rfl | hp
    · exact N1 _ (.tail _ hD)
    · exact N1 p hp
  clear N1 hT hx5 hok hul hD5 hD hxl
  obtain ⟨ha, hbl, hbq⟩ := bare_ok f0 f1
  have hbk : PyData.strOk (bareS f) = true := str_ok fun q hq => Nat.le_of_lt (Nat.lt_trans (hbq q hq).1 (by decide))
  have hrk := read_ok
  have hml := mul_len f
  have kMark := kstMark
  k_steps
end

end Mine

theorem PySem.Challenge.cw_rr0013_01_holds : PySem.Challenge.rw_rr0013_01.Holds := by
  exact Mine.t1
