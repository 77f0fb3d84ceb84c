import PyProof.Rows.All
import Wide.All
import OpenK.AllK
import Wide.FinOn
import PySem.Challenge.RW_qd0056_01
set_option Elab.async false
set_option maxRecDepth 100000
set_option maxHeartbeats 8000000
namespace Mine
open PySem PySem.W PySem.Challenge
def view : Program := { pw_qd0056_01 with main := { pw_qd0056_01.main with body := (pw_qd0056_01.main.body.eraseIdx 11).eraseIdx 1 } }
theorem said_twin : Fast.tw9446332074065402090 rw_qd0056_01 = true := by kernel_rfl
theorem law_said : OpenLaw.wellSaid rw_qd0056_01 = true := (congrFun Fast.te9446332074065402090 rw_qd0056_01).trans said_twin
noncomputable abbrev bootAt (w : World) (os : OsState) : Shared := ⟨boot_heap w.params, Array.mk [], boot_drawn, boot_toks, os⟩
abbrev LeftT (p q : Program) (loose : List Str) (Xt : Shared → Bool) {α : Type} (Yf : Shared → α) (Ya : World → α) (N : Nat) (b : Bool) : Prop :=
  ∀ (v : World) (os : OsState), (fun w => ((bootAt w os).heap.isNs mainGlobals && (bootAt w os).gens.size == 0,
    (Fast.tw14082659384304107361 Fast.tw14364793385576792824 p w (bootAt w os).heap.objs.size ((bootAt w os).heap.nsMap mainGlobals "__annotations__") N (bootAt w os) (topStub p)).map fun s =>
      (staticsOk (importedModules p.main.body) (bootAt w os).heap s.heap && namesBound p s.heap && gensDone s && laidKept (bootAt w os).heap s.heap, Fast.tw4187177175401517315 q loose (Fast.tw5923862056798008813 p.main.body) Xt true s, Yf s))
    = (true, some (true, openGood q loose, Ya w))) (v.withFollow "special-get-raises" b)
theorem left_side {p q : Program} {loose : List Str} {Xt : Shared → Bool} {α : Type} {Yf : Shared → α} {Ya : World → α} {N : Nat} {b : Bool}
    (e : opening p = plainProg p.main.scope.names) (hN : Nat.ble 600 N = true) (f : ∀ s, fenceModules? p s = some s) (k : LeftT p q loose Xt Yf Ya N b) (v : World) :
    (openEnds treeTable p (v.withFollow "special-get-raises" b) N).map (fun s => (openSeen q loose (importedModules p.main.body) Xt true s, Yf s)) = some (openGood q loose, Ya (v.withFollow "special-get-raises" b)) := by
  obtain ⟨⟨h', gs, d, t, os⟩, e1, e2⟩ := Option.map_eq_some_iff.mp (boot_open e hN f (v.withFollow "special-get-raises" b))
  simp only [Prod.mk.injEq] at e2
  obtain ⟨rfl, rfl, rfl, rfl⟩ := e2
  have h := k v os
  dsimp only [bootAt] at h
  rw [← Fast.te14082659384304107361, ← Fast.te14364793385576792824, ← Fast.te4187177175401517315, ← Fast.te5923862056798008813, Prod.mk.injEq] at h
  obtain ⟨h1, h2⟩ := h
  obtain ⟨s, h3, h4⟩ := Option.map_eq_some_iff.mp h2
  simp only [Prod.mk.injEq] at h4
  unfold openEnds
  rw [e1]
  show (topFrom _ _ _ _ _).map _ = _
  unfold topFrom
  dsimp only
  rw [h1, h3]
  show Option.map _ (match staticsOk _ _ _ && namesBound p _ && gensDone _ && laidKept _ _ with | true => some s | false => none) = _
  rw [h4.1]
  exact congrArg some (Prod.ext h4.2.1 h4.2.2)
theorem left_of_boot {p q : Program} {loose : List Str} {Xt : Shared → Bool} {α : Type} {Yf : Shared → α} {Ya : World → α} {N : Nat}
    (e : opening p = plainProg p.main.scope.names) (hN : Nat.ble 600 N = true) (f : ∀ s, fenceModules? p s = some s)
    (hf : LeftT p q loose Xt Yf Ya N false) (ht : LeftT p q loose Xt Yf Ya N true) : LeftO p q loose Xt Yf Ya N :=
  byRow2 "special-get-raises" (left_side e hN f hf) (left_side e hN f ht)
local macro_rules | `(tactic| o_law) => `(tactic| refine holds_law law_said fun said => ?_)
local macro_rules | `(tactic| o_head $H) => `(tactic| (
  refine (fun (both : _ ∧ _) => holds_open (q := view) (loose := [Str.ofString "HEX_SIGNS", Str.ofString "PLAIN_ESCAPES"])
    (Xt := fun s => xlAt view [(Str.ofString "HEX_SIGNS", WData.str ⟨#[48, 49, 50, 51, 52, 53, 54, 55, 56, 57, 97, 98, 99, 100, 101, 102, 65, 66, 67, 68, 69, 70]⟩)] s && recOk (RowW.records rw_qd0056_01.row.toRowW) s)
    (XP := XL view [(Str.ofString "HEX_SIGNS", WData.str ⟨#[48, 49, 50, 51, 52, 53, 54, 55, 56, 57, 97, 98, 99, 100, 101, 102, 65, 66, 67, 68, 69, 70]⟩)])
    (Yf := Hook.obs $H) (Ya := Hook.val $H) (YP := Hook.says $H) (N := 2640) both.1 (Hook.of $H) (Hook.keeps $H)
    (fun s e => xl_of s (Bool.and_eq_true_iff.mp e).1) XL.keeps (by rfl) (by rfl) (by rfl) (fun s e => recFacts_of (Bool.and_eq_true_iff.mp e).2) (by rfl) (by first | assumption | decide +kernel) (by decide +kernel) ⟨rfl, rfl, rfl, rfl, rfl, by decide +kernel⟩ ?hw both.2) ?hc))
open_top hd0 for rw_qd0056_01
abbrev LeftHalf {p q : Program} {loose : List Str} {Xt : Shared → Bool} {α : Type} {Yf : Shared → α} {Ya : World → α} {N : Nat} {W R : Prop} (_ : LeftO p q loose Xt Yf Ya N ∧ W → R) (b : Bool) : Prop := LeftT p q loose Xt Yf Ya N b
theorem left_f : LeftHalf hd0 false := by intro w os; kernel_rfl
theorem left_t : LeftHalf hd0 true := by intro w os; kernel_rfl
theorem hd_opens : opening pw_qd0056_01 = plainProg pw_qd0056_01.main.scope.names := by kernel_rfl
theorem hd_of {p q : Program} {loose : List Str} {Xt : Shared → Bool} {α : Type} {Yf : Shared → α} {Ya : World → α} {N : Nat} {W R : Prop} (k : LeftO p q loose Xt Yf Ya N ∧ W → R)
    (e : opening p = plainProg p.main.scope.names) (hN : Nat.ble 600 N = true) (f : ∀ s, fenceModules? p s = some s)
    (hf : LeftT p q loose Xt Yf Ya N false) (ht : LeftT p q loose Xt Yf Ya N true) (w : W) : R := k ⟨left_of_boot e hN f hf ht, w⟩
abbrev hd := hd_of hd0 hd_opens (by decide) (fun s => by kernel_rfl) left_f left_t
end Mine
namespace Mine
local macro_rules | `(tactic| walk_at $s:str) => `(tactic| k_extra $s)
local macro_rules | `(tactic| k_qdec) => `(tactic| decide +kernel)
local macro_rules | `(tactic| k_room) => `(tactic| ktr_room)
local macro_rules | `(tactic| k_all) => `(tactic| ((try dsimp only); assumption))
local macro_rules | `(tactic| k_all) => `(tactic| exact fun p hp => Nat.ne_of_lt ((by assumption : ∀ q ∈ _, q.1 < _) p hp))
local macro_rules | `(tactic| k_all) => `(tactic| exact fun q hq => (by assumption : PySem.W.OwnOff _ _) q hq _ (by first | exact .head _ | exact .tail _ (.head _)))
section
open PySem PySem.W PySem.Spec PySem.Calls PyProof.Rows

/-- what a call of the def at `f` does, told over any caller: from the ledger `news` it hands back `r` over `news'` with `Post r news'` -/
def Ct (prog : Program) (w : World) (K : Frag) (p : Program) (loose : List Str) (mean : ExcName → Option Value) (mg mb : Str → Option Value) (f : Addr) (vs : List Value) (news : List (Addr × Obj)) (dd : Nat) (Post : Value → List (Addr × Obj) → Prop) : Prop :=
  ∀ (dp un : Nat) (gd : Option (List Code)) (cn : Str) (cs : Scope) (a : Addr) (ccd : Value) (cl : List (Str × Addr)) (outer : List Env) (A₀ : Around) (base h₀ : Heap) (L : Addr) (m : Str → Option Value) (s : Shared) (Q E : Value → Shared → Prop),
    Below A₀ base outer h₀ → Fr h₀ L s.heap m → K.In h₀ → News h₀ L s.heap news → Top p loose mean mg mb h₀ → cs.kind = .function →
    dp + dd < recursionLimit → un + 8 * dd < cLine →
    (∀ r news' h' tk', Post r news' → Fr h₀ L h' m → News h₀ L h' news' → Q r { s with heap := h', toks := tk' }) →
    wpAny (model prog w) (ktrTop dp un gd cn cs L a ccd cl outer) (call (.ref f) vs) Q E s

theorem Ct.use {prog : Program} {w : World} {K : Frag} {p : Program} {loose : List Str} {mean : ExcName → Option Value} {mg mb : Str → Option Value} {f : Addr} {vs : List Value} {news : List (Addr × Obj)} {dd : Nat} {Post : Value → List (Addr × Obj) → Prop}
    {dp un : Nat} {gd : Option (List Code)} {cn : Str} {cs : Scope} {a : Addr} {ccd : Value} {cl : List (Str × Addr)} {outer : List Env} {A₀ : Around} {base h₀ : Heap} {L : Addr} {m : Str → Option Value} {s : Shared} {Q E : Value → Shared → Prop}
    (C : Ct prog w K p loose mean mg mb f vs news dd Post)
    (B : Below A₀ base outer h₀) (F : Fr h₀ L s.heap m) (X : K.In h₀) (N : News h₀ L s.heap news) (T : Top p loose mean mg mb h₀) (hk : cs.kind = .function) (hd : dp + dd < recursionLimit) (hu : un + 8 * dd < cLine)
    (ret : ∀ r news' h' tk', Post r news' → Fr h₀ L h' m → News h₀ L h' news' → Q r { s with heap := h', toks := tk' }) :
    wpAny (model prog w) (ktrTop dp un gd cn cs L a ccd cl outer) (call (.ref f) vs) Q E s := C _ _ _ _ _ _ _ _ _ _ _ _ _ _ _ _ _ B F X N T hk hd hu ret

theorem fill : PySem.Challenge.rw_qd0056_01.name = PySem.Challenge.rw_qd0056_01.name ∧ Mine.hd0.heap_1 = Mine.hd0.heap_1 := ⟨rfl, rfl⟩
end
section
open PySem PySem.W PySem.Spec PySem.Calls PyProof.Rows
theorem draw_spec {prog : Program} {w : World} {p : Program} {loose : List Str} {mean : ExcName → Option Value} {mg mb : Str → Option Value} (pa : Addr) (rest : List (Addr × Obj)) (n c many : Int) (tn tc tm : Tok) (nn : Nat)
   (hr : ∀ q ∈ rest, q.1 ≠ pa) (hn : 0 ≤ n) (hc : 0 ≤ c) (hc2 : c < 10000) (hm : 0 < many) (hm2 : many < 1000) :
   Ct prog w (Mine.hd0.heap_1 w.params) p loose mean mg mb 192 [.ref pa, .int many tm] ((pa, listOf #[.int n tn, .int c tc] nn) :: rest) 1
     (fun r news' => ∃ d td n' tn' c' tc' nn', r = .int d td ∧ 0 ≤ d ∧ d < many ∧ 0 ≤ n' ∧ 0 ≤ c' ∧ c' ≤ c + 1 ∧ news' = (pa, listOf #[.int n' tn', .int c' tc'] nn') :: rest) := by
  k_with_none
  k_with "binaryOp Pow int int" => first | ((k_here; refine pow_int_small (by decide) (by decide) (by simp only [show Int.toNat 1 = 1 from rfl, List.getD_cons_zero, List.getD_cons_succ]; omega) ?_)) | fail
  have hfill : PySem.Challenge.rw_qd0056_01.name = PySem.Challenge.rw_qd0056_01.name ∧ Mine.hd0.heap_1 = Mine.hd0.heap_1 := by
    w_top off; k_fill; exact ⟨rfl, rfl⟩
  clear hfill
  intro dp un gd cn cs a ccd cl outer A₀ base h₀ L m s Q E B F X N T hk hd hu hret
  refine wpAny_call ?_
  k_dflt cell_enter
  k_steps
  all_goals (
    refine' hret _ _ _ _ ?p1 ?f1 ?n1
    (case f1 => assumption)
    (case n1 => assumption)
    (case p1 =>
      refine ⟨_, _, _, _, _, _, _, rfl, ?_, ?_, ?_, ?_, ?_, rfl⟩
      all_goals (try simp only [show Int.toNat 0 = 0 from rfl, show Int.toNat 1 = 1 from rfl, show Int.toNat 11 = 11 from rfl, List.getD_cons_zero, List.getD_cons_succ])
      · rw [Int.fmod_eq_emod_of_nonneg _ (by omega)]; exact Int.emod_nonneg _ (by omega)
      · exact Int.fmod_lt_of_pos _ hm
      · refine Int.fdiv_nonneg ?_ (by omega)
        first | exact hn | exact Int.pow_nonneg (by omega)
      · omega
      · omega))
end
section
open PySem PySem.W PySem.Spec PySem.Calls PyProof.Rows
abbrev S (l : List Nat) : Str := ⟨l.toArray⟩
def hxd (k : Nat) : Nat := if k < 10 then 48 + k else 87 + k
def hex (c : Nat) : List Nat := [92, 120, hxd (c / 16), hxd (c % 16)]
/-- the signs that an escape reads in another way -/
def spc (c : Nat) : Bool := c == 110 || c == 116 || c == 114 || c == 102 || c == 118 || c == 97 || c == 98 || (48 ≤ c && c ≤ 55) || c == 120
def esc (e c : Nat) : List Nat :=
  if c = 10 then [92, 110] else if c = 9 then [92, 116] else if c = e ∧ spc c = true then hex c else if c = e ∨ c = 92 then [92, c]
  else if (c < 32 ∨ 126 < c) ∧ c < 256 then hex c else [c]
def lay (e : Nat) (l : List Nat) : List Nat := l.flatMap (esc e)

theorem figs_item {k : Nat} (h : k < 16) : Txt.item (Str.ofString "0123456789abcdef") (k : Int) = S [hxd k] := by
  have : ∀ k : Nat, k < 16 → Txt.item (Str.ofString "0123456789abcdef") (k : Int) = S [hxd k] := by decide +kernel
  exact this k h
theorem S_append (a b : List Nat) : S a ++ S b = S (a ++ b) := by
  show (⟨a.toArray ++ b.toArray⟩ : Str) = _
  simp [S]
theorem fdiv16 (c : Nat) : ((c : Int).fdiv 16) = ((c / 16 : Nat) : Int) := by
  rw [Int.fdiv_eq_ediv_of_nonneg _ (by decide)]; rfl
theorem fmod16 (c : Nat) : ((c : Int).fmod 16) = ((c % 16 : Nat) : Int) := by
  rw [Int.fmod_eq_emod_of_nonneg _ (by decide)]; rfl
theorem hex_built {c : Nat} (h : c < 256) : Str.ofString "\\x" ++ Txt.item (Str.ofString "0123456789abcdef") ((c : Int).fdiv 16) ++ Txt.item (Str.ofString "0123456789abcdef") ((c : Int).fmod 16) = S (hex c) := by
  rw [fdiv16, fmod16, figs_item (by omega), figs_item (by omega), show Str.ofString "\\x" = S [92, 120] from by decide +kernel, S_append, S_append]
  rfl

theorem S_beq (c d : Nat) : (S [c] == S [d]) = decide (c = d) := by
  by_cases h : c = d
  · subst h; simp
  · have : (S [c] == S [d]) = false := by
      rw [beq_eq_false_iff_ne]; intro q; simp [S] at q; exact h q
    rw [this]; simp [h]
theorem lit_nl : Str.ofString "\n" = S [10] := by decide +kernel
theorem lit_tab : Str.ofString "\t" = S [9] := by decide +kernel
theorem lit_x : Str.ofString "x" = S [120] := by decide +kernel
theorem lit_bs : Str.ofString "\\" = S [92] := by decide +kernel
theorem occ_one (l : List Nat) (c : Nat) : (Builtin.Str.occurrences (S l) (S [c]) 0 (S l).length 1).isEmpty = decide (c ∉ l) := by
  have h := StrLaws.found_one (S l) c
  rw [show (⟨#[c]⟩ : Str) = S [c] from rfl] at h
  have h2 : (S l).cps.toList = l := rfl
  rw [h2] at h
  by_cases q : c ∈ l
  · simp [q] at h ⊢; simpa using h
  · simp [q] at h ⊢; simpa using h
theorem lit_oct : Str.ofString "01234567" = S [48, 49, 50, 51, 52, 53, 54, 55] := by decide +kernel
theorem lit_nl2 : Str.ofString "\\n" = S [92, 110] := by decide +kernel
theorem lit_tab2 : Str.ofString "\\t" = S [92, 116] := by decide +kernel
theorem S_inj {a b : List Nat} : S a = S b ↔ a = b := by simp [S]
theorem lit_e : Str.ofString "" = S [] := by decide +kernel
theorem join_S : ∀ (ls : List (List Nat)), Str.join (S []) (ls.map S) = S ls.flatten
  | [] => rfl
  | [a] => by simp [Str.join]
  | a :: b :: r => by
    have ih := join_S (b :: r)
    simp only [List.map_cons] at ih ⊢
    rw [show Str.join (S []) (S a :: S b :: List.map S r) = S a ++ S [] ++ Str.join (S []) (S b :: List.map S r) from rfl]
    rw [ih, S_append, S_append]
    simp
theorem esc_len (e c : Nat) : (esc e c).length ≤ 4 := by
  unfold esc hex
  (repeat' split) <;> simp
theorem lay_len (e : Nat) (l : List Nat) : (lay e l).length ≤ 4 * l.length := by
  unfold lay
  induction l with
  | nil => simp
  | cons c r ih =>
    have := esc_len e c
    simp only [List.flatMap_cons, List.length_append, List.length_cons]
    omega
theorem sum_lay (e : Nat) (l : List Nat) : ((l.map (fun c => S (esc e c))).map (·.length)).sum = (lay e l).length := by
  unfold lay
  induction l with
  | nil => rfl
  | cons c r ih =>
    simp only [List.map_cons, List.sum_cons, List.flatMap_cons, List.length_append] at ih ⊢
    rw [ih]; rfl
theorem join_lay (e : Nat) (l : List Nat) : Str.join (S []) (l.map (fun c => S (esc e c))) = S (lay e l) := by
  have h := join_S (l.map (esc e))
  rw [List.map_map] at h
  rw [show (S ∘ esc e) = fun c => S (esc e c) from rfl] at h
  rw [h]
  unfold lay
  rw [List.flatMap_def]
theorem S_one {c d : Nat} : S [c] = (⟨#[d]⟩ : Str) ↔ c = d := by
  rw [show (⟨#[d]⟩ : Str) = S [d] from rfl, S_inj]; simp
end
section
open PySem PySem.W PySem.Spec PySem.Calls PyProof.Rows

abbrev Esc0 (c : Nat) : Prop := (S [c] == Str.ofString "\n") = false
abbrev Esc1 (c : Nat) : Prop := (S [c] == Str.ofString "\t") = false
abbrev EscM (e c : Nat) : Bool := (Builtin.Str.occurrences (S [e]) (S [c]) 0 (S [e]).length 1).isEmpty
abbrev EscP (c : Nat) : Bool := (decide (S [c] = { cps := #[110] }) || (decide (S [c] = { cps := #[116] }) || (decide (S [c] = { cps := #[114] }) || (decide (S [c] = { cps := #[102] }) || (decide (S [c] = { cps := #[118] }) || (decide (S [c] = { cps := #[97] }) || (decide (S [c] = { cps := #[98] }) || false)))))))
abbrev EscO (c : Nat) : Bool := (Builtin.Str.occurrences (Str.ofString "01234567") (S [c]) 0 (Str.ofString "01234567").length 1).isEmpty
theorem esc_n0 {c : Nat} (h : (S [c] == Str.ofString "\n") = false) : c ≠ 10 := by
  simp only [S_beq, lit_nl, lit_tab, lit_x, lit_bs, lit_oct, occ_one, S_one, decide_eq_true_eq, decide_eq_false_iff_not, List.mem_cons, List.not_mem_nil, Decidable.not_not, or_false, Bool.or_eq_true, Bool.or_false, Bool.or_eq_false_iff] at h
  omega
theorem esc_n1 {c : Nat} (h : (S [c] == Str.ofString "\n") = true) : c = 10 := by
  simp only [S_beq, lit_nl, lit_tab, lit_x, lit_bs, lit_oct, occ_one, S_one, decide_eq_true_eq, decide_eq_false_iff_not, List.mem_cons, List.not_mem_nil, Decidable.not_not, or_false, Bool.or_eq_true, Bool.or_false, Bool.or_eq_false_iff] at h
  omega
theorem esc_t0 {c : Nat} (h : (S [c] == Str.ofString "\t") = false) : c ≠ 9 := by
  simp only [S_beq, lit_nl, lit_tab, lit_x, lit_bs, lit_oct, occ_one, S_one, decide_eq_true_eq, decide_eq_false_iff_not, List.mem_cons, List.not_mem_nil, Decidable.not_not, or_false, Bool.or_eq_true, Bool.or_false, Bool.or_eq_false_iff] at h
  omega
theorem esc_t1 {c : Nat} (h : (S [c] == Str.ofString "\t") = true) : c = 9 := by
  simp only [S_beq, lit_nl, lit_tab, lit_x, lit_bs, lit_oct, occ_one, S_one, decide_eq_true_eq, decide_eq_false_iff_not, List.mem_cons, List.not_mem_nil, Decidable.not_not, or_false, Bool.or_eq_true, Bool.or_false, Bool.or_eq_false_iff] at h
  omega
theorem esc_b0 {c : Nat} (h : (S [c] == Str.ofString "\\") = false) : c ≠ 92 := by
  simp only [S_beq, lit_nl, lit_tab, lit_x, lit_bs, lit_oct, occ_one, S_one, decide_eq_true_eq, decide_eq_false_iff_not, List.mem_cons, List.not_mem_nil, Decidable.not_not, or_false, Bool.or_eq_true, Bool.or_false, Bool.or_eq_false_iff] at h
  omega
theorem esc_b1 {c : Nat} (h : (S [c] == Str.ofString "\\") = true) : c = 92 := by
  simp only [S_beq, lit_nl, lit_tab, lit_x, lit_bs, lit_oct, occ_one, S_one, decide_eq_true_eq, decide_eq_false_iff_not, List.mem_cons, List.not_mem_nil, Decidable.not_not, or_false, Bool.or_eq_true, Bool.or_false, Bool.or_eq_false_iff] at h
  omega
theorem esc_x0 {c : Nat} (h : (S [c] == Str.ofString "x") = false) : c ≠ 120 := by
  simp only [S_beq, lit_nl, lit_tab, lit_x, lit_bs, lit_oct, occ_one, S_one, decide_eq_true_eq, decide_eq_false_iff_not, List.mem_cons, List.not_mem_nil, Decidable.not_not, or_false, Bool.or_eq_true, Bool.or_false, Bool.or_eq_false_iff] at h
  omega
theorem esc_x1 {c : Nat} (h : (S [c] == Str.ofString "x") = true) : c = 120 := by
  simp only [S_beq, lit_nl, lit_tab, lit_x, lit_bs, lit_oct, occ_one, S_one, decide_eq_true_eq, decide_eq_false_iff_not, List.mem_cons, List.not_mem_nil, Decidable.not_not, or_false, Bool.or_eq_true, Bool.or_false, Bool.or_eq_false_iff] at h
  omega
theorem esc_m1 {e c : Nat} (h : EscM e c = true) : c ≠ e := by
  unfold EscM at h
  simp only [S_beq, lit_nl, lit_tab, lit_x, lit_bs, lit_oct, occ_one, S_one, decide_eq_true_eq, decide_eq_false_iff_not, List.mem_cons, List.not_mem_nil, Decidable.not_not, or_false, Bool.or_eq_true, Bool.or_false, Bool.or_eq_false_iff] at h
  omega
theorem esc_m0 {e c : Nat} (h : EscM e c = false) : c = e := by
  unfold EscM at h
  simp only [S_beq, lit_nl, lit_tab, lit_x, lit_bs, lit_oct, occ_one, S_one, decide_eq_true_eq, decide_eq_false_iff_not, List.mem_cons, List.not_mem_nil, Decidable.not_not, or_false, Bool.or_eq_true, Bool.or_false, Bool.or_eq_false_iff] at h
  omega
theorem escO_iff {c : Nat} : EscO c = true ↔ ¬ (48 ≤ c ∧ c ≤ 55) := by
  unfold EscO
  rw [lit_oct, occ_one, decide_eq_true_eq]
  simp only [List.mem_cons, List.not_mem_nil, or_false]
  omega
theorem escP_iff {c : Nat} : EscP c = true ↔ c = 110 ∨ c = 116 ∨ c = 114 ∨ c = 102 ∨ c = 118 ∨ c = 97 ∨ c = 98 := by
  unfold EscP
  simp only [S_one, Bool.or_eq_true, decide_eq_true_eq, Bool.false_eq_true, or_false]
theorem spc_iff (c : Nat) : spc c = true ↔ (c = 110 ∨ c = 116 ∨ c = 114 ∨ c = 102 ∨ c = 118 ∨ c = 97 ∨ c = 98) ∨ (48 ≤ c ∧ c ≤ 55) ∨ c = 120 := by
  unfold spc
  simp only [Bool.or_eq_true, beq_iff_eq, Bool.and_eq_true, decide_eq_true_eq, or_assoc]
theorem end_nl {e c : Nat} (h : (S [c] == Str.ofString "\n") = true) : Str.ofString "\\n" = S (esc e c) := by
  rw [lit_nl2, S_inj]; unfold esc; rw [if_pos (esc_n1 h)]
theorem end_tab {e c : Nat} (h0 : (S [c] == Str.ofString "\n") = false) (h : (S [c] == Str.ofString "\t") = true) : Str.ofString "\\t" = S (esc e c) := by
  rw [lit_tab2, S_inj]; unfold esc; rw [if_neg (esc_n0 h0), if_pos (esc_t1 h)]
theorem end_bs {e c : Nat} (h0 : (S [c] == Str.ofString "\n") = false) (h1 : (S [c] == Str.ofString "\t") = false) (hm : EscM e c = true) (h : (S [c] == Str.ofString "\\") = true) : Str.ofString "\\" ++ S [c] = S (esc e c) := by
  rw [lit_bs, S_append, S_inj]; unfold esc; rw [if_neg (esc_n0 h0), if_neg (esc_t0 h1), if_neg (fun q => esc_m1 hm q.1), if_pos (.inr (esc_b1 h))]; rfl
theorem end_hex {e c : Nat} (h0 : (S [c] == Str.ofString "\n") = false) (h1 : (S [c] == Str.ofString "\t") = false) (hm : EscM e c = true) (h : (S [c] == Str.ofString "\\") = false) (hc : (c : Int) < 32 ∨ 126 < (c : Int) ∧ (c : Int) < 256) : S (hex c) = S (esc e c) := by
  rw [S_inj]; unfold esc; rw [if_neg (esc_n0 h0), if_neg (esc_t0 h1), if_neg (fun q => esc_m1 hm q.1), if_neg (fun q => q.elim (esc_m1 hm) (esc_b0 h)), if_pos (by omega)]
theorem end_plain {e c : Nat} (h0 : (S [c] == Str.ofString "\n") = false) (h1 : (S [c] == Str.ofString "\t") = false) (hm : EscM e c = true) (h : (S [c] == Str.ofString "\\") = false) (hc : ¬ (c : Int) < 32) (hd : ¬ 126 < (c : Int) ∨ ¬ (c : Int) < 256) : S [c] = S (esc e c) := by
  rw [S_inj]; unfold esc; rw [if_neg (esc_n0 h0), if_neg (esc_t0 h1), if_neg (fun q => esc_m1 hm q.1), if_neg (fun q => q.elim (esc_m1 hm) (esc_b0 h)), if_neg (by omega)]
theorem end_spc {e c : Nat} (h0 : (S [c] == Str.ofString "\n") = false) (h1 : (S [c] == Str.ofString "\t") = false) (hm : EscM e c = false) (h : EscP c = true ∨ (S [c] == Str.ofString "x") = true ∨ EscO c = false) : S (hex c) = S (esc e c) := by
  have hs : spc c = true := by
    rw [spc_iff]
    rcases h with h | h | h
    · exact .inl (escP_iff.mp h)
    · exact .inr (.inr (esc_x1 h))
    · exact .inr (.inl (Decidable.byContradiction fun q => by rw [escO_iff.mpr q] at h; cases h))
  rw [S_inj]; unfold esc; rw [if_neg (esc_n0 h0), if_neg (esc_t0 h1), if_pos ⟨esc_m0 hm, hs⟩]
theorem end_mark {e c : Nat} (h0 : (S [c] == Str.ofString "\n") = false) (h1 : (S [c] == Str.ofString "\t") = false) (hm : EscM e c = false) (hp : EscP c = false) (ho : EscO c = true) (hx : (S [c] == Str.ofString "x") = false) : Str.ofString "\\" ++ S [c] = S (esc e c) := by
  have hs : ¬ spc c = true := by
    rw [spc_iff]
    rintro (q | q | q)
    · rw [escP_iff.mpr q] at hp; cases hp
    · exact escO_iff.mp ho q
    · exact esc_x0 hx q
  rw [lit_bs, S_append, S_inj]; unfold esc; rw [if_neg (esc_n0 h0), if_neg (esc_t0 h1), if_neg (fun q => hs q.2), if_pos (.inl (esc_m0 hm))]; rfl
theorem hex_spec {prog : Program} {w : World} {p : Program} {loose : List Str} {mean : ExcName → Option Value} {mg mb : Str → Option Value} (news : List (Addr × Obj)) (c : Nat) (tc : Tok)
   (hc : c < 256) :
   Ct prog w (Mine.hd0.heap_1 w.params) p loose mean mg mb 158 [.int (c : Int) tc] news 1
     (fun r news' => (∃ t, r = .str (S (hex c)) t) ∧ news' = news) := by
  k_with_none
  k_with "mine.use" => first | ((
    (case k1 => k_asm); (case k2 => k_asm); (case k3 => k_asm); (case k4 => k_asm); (case k5 => k_asm); (case kK => first | exact rfl | assumption); (case kd => ktr_room); (case ku => ktr_units))) | fail
  k_with "mine.clean" => first | ((
    (repeat (rename Fr _ _ _ _ => hh; clear hh)); (repeat (rename News _ _ _ _ => hh; clear hh)); (repeat (rename Below _ _ _ _ => hh; clear hh)); (repeat (rename Top _ _ _ _ _ _ => hh; clear hh)); (repeat (rename Frag.In _ _ => hh; clear hh)))) | fail
  have hfill : PySem.Challenge.rw_qd0056_01.name = PySem.Challenge.rw_qd0056_01.name ∧ Mine.hd0.heap_1 = Mine.hd0.heap_1 := by
    w_top off; k_fill; exact ⟨rfl, rfl⟩
  clear hfill
  intro dp un gd cn cs a ccd cl outer A₀ base h₀ L m s Q E B F X N T hk hd hu hret
  refine wpAny_call ?_
  k_dflt cell_enter
  k_steps
  all_goals (
    refine' hret _ _ _ _ ?p1 ?f1 ?n1
    (case f1 => assumption)
    (case n1 => assumption)
    (case p1 => exact ⟨⟨_, by rw [← hex_built hc]⟩, rfl⟩))

theorem sign_spec {prog : Program} {w : World} {p : Program} {loose : List Str} {mean : ExcName → Option Value} {mg mb : Str → Option Value} (news : List (Addr × Obj)) (c e : Nat) (tc te : Tok)
   (hc : c < 1114112) (he : e < 256) :
   Ct prog w (Mine.hd0.heap_1 w.params) p loose mean mg mb 165 [.str (S [c]) tc, .str (S [e]) te] news 2
     (fun r news' => (∃ t, r = .str (S (esc e c)) t) ∧ news' = news) := by
  k_with_none
  k_with "mine.use" => first | ((
    (case k1 => k_asm); (case k2 => k_asm); (case k3 => k_asm); (case k4 => k_asm); (case k5 => k_asm); (case kK => first | exact rfl | assumption); (case kd => ktr_room); (case ku => ktr_units))) | fail
  k_with "mine.clean" => first | ((
    (repeat (rename Fr _ _ _ _ => hh; clear hh)); (repeat (rename News _ _ _ _ => hh; clear hh)); (repeat (rename Below _ _ _ _ => hh; clear hh)); (repeat (rename Top _ _ _ _ _ _ => hh; clear hh)); (repeat (rename Frag.In _ _ => hh; clear hh)))) | fail
  k_with "call ref" => first | ((k_here; k_dflt (refine' Ct.use (hex_spec _ _ _ ?kp) ?k1 ?k2 ?k3 ?k4 ?k5 ?kK ?kd ?ku ?_; walk_at "mine.use"; (case kp => first | omega | (have hh := esc_m0 (by assumption); omega)); (rintro r9 nw9 h9 tk9 ⟨⟨t9, e9⟩, e8⟩ F9 N9; subst e9; subst e8)))) | fail
  have hfill : PySem.Challenge.rw_qd0056_01.name = PySem.Challenge.rw_qd0056_01.name ∧ Mine.hd0.heap_1 = Mine.hd0.heap_1 := by
    w_top off; k_fill; exact ⟨rfl, rfl⟩
  clear hfill
  intro dp un gd cn cs a ccd cl outer A₀ base h₀ L m s Q E B F X N T hk hd hu hret
  refine wpAny_call ?_
  k_dflt cell_enter
  k_steps
  all_goals (
    refine' hret _ _ _ _ ?p1 ?f1 ?n1
    (case f1 => assumption)
    (case n1 => assumption)
    (case p1 =>
      refine ⟨⟨_, congrArg (Value.str · _) ?_⟩, rfl⟩
      first
        | exact end_nl (by assumption)
        | exact end_tab (by assumption) (by assumption)
        | exact end_bs (by assumption) (by assumption) (by assumption) (by assumption)
        | exact end_hex (by assumption) (by assumption) (by assumption) (by assumption) (.inl (by assumption))
        | exact end_hex (by assumption) (by assumption) (by assumption) (by assumption) (.inr ⟨(by assumption), (by assumption)⟩)
        | exact end_plain (by assumption) (by assumption) (by assumption) (by assumption) (by assumption) (.inl (by assumption))
        | exact end_plain (by assumption) (by assumption) (by assumption) (by assumption) (by assumption) (.inr (by assumption))
        | exact end_spc (by assumption) (by assumption) (by assumption) (.inl (by assumption))
        | exact end_spc (by assumption) (by assumption) (by assumption) (.inr (.inl (by assumption)))
        | exact end_spc (by assumption) (by assumption) (by assumption) (.inr (.inr (by assumption)))
        | exact end_mark (by assumption) (by assumption) (by assumption) (by assumption) (by assumption) (by assumption)))
end
section
open PySem PySem.W PySem.Spec PySem.Calls PyProof.Rows PyProof.Rows.LCg
section
variable {prog : Program} {w : World} {A : Around} {E : Value → Shared → Prop} {s : Shared} {h₀ : Heap} {L : Addr} {m : Str → Option Value} {env : Env}

def SrcT (prog : Program) (w : World) (A : Around) (h₀ : Heap) (L : Addr) (m : Str → Option Value) (env : Env) (elt : Expr) (x : Str) (scope : Scope) (cl : List (Str × Addr)) (Q : Value → Shared → Prop) (xv : Value) (s₁ : Shared) : Prop :=
  ∃ y t news, xv = .str y t ∧ A.handled = none ∧ Fr h₀ L s₁.heap m ∧ News h₀ L s₁.heap news ∧ y.cps.size ≤ sizeLine ∧
      ∀ s₂ : Shared, (∃ h, s₂ = { s₁ with heap := h }) → CompRest prog w A h₀ L m env elt x scope cl s₂ (fun _ => True) (SignAt y) (FinE h₀ L m s₂ Q) y.cps.size 0 [] news
/-- a comprehension over the signs of a text -/
theorem ListComp_T {elt iter : Expr} {x : Str} {px : Pos} {scope : Scope} {cl : List (Str × Addr)} {pos : Pos} {Q : Value → Shared → Prop} (F₀ : Fr h₀ L s.heap m)
    (hclos : closureFor scope env = pure cl) (hcell : ∀ y ∈ scope.names, y.2 ≠ .cell) (hkind : scope.kind = .function)
    (hnames : ∀ y ∈ scope.names, y.2 = .local → scope.names.lookup y.1 = some .local) (hx : scope.names.lookup x = some .local)
    (h : wpAny (model prog w) A (eval iter env) (SrcT prog w A h₀ L m env elt x scope cl Q) E s)
    (hs : ∀ x, foldedSetIterable iter env x = pure x := by intro _; rfl) :
    wpAny (model prog w) A (eval (.ListComp elt [⟨.Name x px, iter, [], 0⟩] scope pos) env) Q E s := by
  rw [eval_ListComp]
  refine wpAny_comprehension_free (use := none) rfl hs hclos hkind hnames (wpAny_mono h (fun xv s₁ h₁ => ?_) fun _ _ e => e)
  obtain ⟨y, t, news, rfl, hh, F, N, hsz, R⟩ := h₁
  cases ha : y.cps.all (· < 128)
  · refine wpAny_pyIter_wide ha ?_
    refine block_U (Walks.strWide hh _ y t) hsz (fun i h st => by obtain ⟨o, e, _⟩ := st; exact ⟨o, e⟩)
      (fun i h h' o nw st e e' _ _ _ => by obtain ⟨o', q, r⟩ := st; rw [e] at q; cases q; exact ⟨o, e', r⟩) hcell hkind hx ⟨_, Heap.get?_push_size _ rfl, rfl, rfl⟩
      (fun b hb => by rw [List.mem_singleton.mp hb]; show s₁.heap.objs.size < (s₁.heap.push _).objs.size; rw [Heap.size_push]; exact Nat.lt_succ_self _)
      (F.keeps fun _ _ e => Heap.get?_push_of_some _ e) (N.grown fun _ _ e => Heap.get?_push_of_some _ e) (Nat.ne_of_lt F.ns.lt) (next_is_new F) (fun p hp => Nat.ne_of_lt (Heap.lt_size (N p hp).1)) trivial (R _ ⟨_, rfl⟩) ?_
    intro D C h tk m' ys news' F' N' o1 hn hC₀ hD₀ hCL hDL hCD offC fin
    refine ⟨m', hn, fun h'' hs'' => fin D h'' tk (F'.change hs'' hCL hC₀) (fun p hp => ⟨hs''.extBut _ _ ?_ (N' p hp).1, (N' p hp).2⟩) o1⟩
    rcases List.mem_cons.mp hp with rfl | hp
    · exact Ne.symm hCD
    · exact offC p hp
  · refine wpAny_pyIter_ascii ha ?_
    refine block_U (Walks.strAscii hh _ y t) hsz (fun i h st => by obtain ⟨o, e, _⟩ := st; exact ⟨o, e⟩)
      (fun i h h' o nw st e e' _ _ _ => by obtain ⟨o', q, r⟩ := st; rw [e] at q; cases q; exact ⟨o, e', r⟩) hcell hkind hx ⟨_, Heap.get?_push_size _ rfl, rfl, rfl⟩
      (fun b hb => by rw [List.mem_singleton.mp hb]; show s₁.heap.objs.size < (s₁.heap.push _).objs.size; rw [Heap.size_push]; exact Nat.lt_succ_self _)
      (F.keeps fun _ _ e => Heap.get?_push_of_some _ e) (N.grown fun _ _ e => Heap.get?_push_of_some _ e) (Nat.ne_of_lt F.ns.lt) (next_is_new F) (fun p hp => Nat.ne_of_lt (Heap.lt_size (N p hp).1)) trivial (R _ ⟨_, rfl⟩) ?_
    intro D C h tk m' ys news' F' N' o1 hn hC₀ hD₀ hCL hDL hCD offC fin
    refine ⟨m', hn, fun h'' hs'' => fin D h'' tk (F'.change hs'' hCL hC₀) (fun p hp => ⟨hs''.extBut _ _ ?_ (N' p hp).1, (N' p hp).2⟩) o1⟩
    rcases List.mem_cons.mp hp with rfl | hp
    · exact Ne.symm hCD
    · exact offC p hp

theorem strs_snoc {y : Str} {t : Tok} : ∀ {vs : List Value} {ys : List Str}, StrsAre vs ys → StrsAre (vs ++ [.str y t]) (ys ++ [y])
  | _, _, .nil => .cons y t .nil
  | _, _, .cons z u r => .cons z u (strs_snoc r)

theorem comp_signs {elt : Expr} {x : Str} {scope : Scope} {cl : List (Str × Addr)} {Fin : List Value → List (Addr × Obj) → Prop} {news : List (Addr × Obj)} (l : List Nat) (g : Nat → Str)
    (turn : ∀ c t I oI C oC D m₂ ys h tk (E' : Value → Shared → Prop), c ∈ l → NsObj oC m₂ → m₂ x = some (.str (S [c]) t) → Fr h₀ L h m → News h₀ L h ((I, oI) :: (C, oC) :: (D, lst ys) :: news) → Off3 I C D news → ((@Ne Nat I C) ∧ (@Ne Nat I D) ∧ (@Ne Nat C D)) →
      wpAny (model prog w) A (eval elt (compEnvC scope cl C env)) (CompEnd h₀ L m { s with heap := h, toks := tk } I oI C oC D (lst ys) (fun _ => True) (fun y news' => news' = news ∧ ∃ t, y = .str (g c) t)) E' { s with heap := h, toks := tk })
    (fin : ∀ ys, StrsAre ys (l.map g) → Fin ys news) : CompRest prog w A h₀ L m env elt x scope cl s (fun _ => True) (SignAt (S l)) Fin (S l).cps.size 0 [] news := by
  have key : ∀ (j i : Nat) (ys : List Value), i + j = l.length → StrsAre ys ((l.take i).map g) → CompRest prog w A h₀ L m env elt x scope cl s (fun _ => True) (SignAt (S l)) Fin j i ys news := by
    intro j
    induction j with
    | zero =>
      intro i ys hi hy
      have e : i = l.length := by omega
      subst e
      rw [List.take_length] at hy
      exact CompRest.zero (fin ys hy)
    | succ j ih =>
      intro i ys hi hy
      refine CompRest.succ ?_
      intro v I oI C oC D m₂ h tk E' hv hC hx F N off ne
      obtain ⟨c, u, hc, rfl⟩ := hv
      have hc' : l[i]? = some c := by simpa [S] using hc
      refine wpAny_mono (turn c u I oI C oC D m₂ ys h tk E' (List.mem_of_getElem? hc') hC hx F N off ne) (fun y s₂ hq => ?_) fun _ _ e => e
      obtain ⟨h', tk', nw, e, F', N', off', hS, hn, t', hy'⟩ := hq
      subst hn
      refine ⟨h', tk', nw, e, F', N', off', hS, ?_⟩
      rw [hy']
      refine ih (i + 1) _ (by omega) ?_
      rw [List.take_add_one, hc']
      simpa using strs_snoc hy
  have e : (S l).cps.size = l.length := by simp [S]
  rw [e]
  exact key l.length 0 [] (by omega) (by simp only [List.take_zero, List.map_nil]; exact .nil)
end
end
section
open PySem PySem.W PySem.Spec PySem.Calls PyProof.Rows PyProof.Rows.LCg
theorem escaped_spec {prog : Program} {w : World} {p : Program} {loose : List Str} {mean : ExcName → Option Value} {mg mb : Str → Option Value} (news : List (Addr × Obj)) (l : List Nat) (e : Nat) (tl te : Tok)
   (hl : ∀ c ∈ l, c < 1114112) (hl2 : l.length ≤ 100) (he : e < 256) :
   Ct prog w (Mine.hd0.heap_1 w.params) p loose mean mg mb 170 [.str (S l) tl, .str (S [e]) te] news 4
     (fun r news' => (∃ t, r = .str (S (lay e l)) t) ∧ news' = news) := by
  k_with_none
  k_with "mine.use" => first | ((
    (case k1 => k_asm); (case k2 => k_asm); (case k3 => k_asm); (case k4 => k_asm); (case k5 => k_asm); (case kK => first | exact rfl | assumption); (case kd => ktr_room); (case ku => ktr_units))) | fail
  k_with "mine.clean" => first | ((
    (repeat (rename Fr _ _ _ _ => hh; clear hh)); (repeat (rename News _ _ _ _ => hh; clear hh)); (repeat (rename Below _ _ _ _ => hh; clear hh)); (repeat (rename Top _ _ _ _ _ _ => hh; clear hh)); (repeat (rename Frag.In _ _ => hh; clear hh)))) | fail
  k_with "mine.enterC" => first | ((refine' code_defC ?k1 ?k2 ?k3 ?k4 ?k5 ?kA ?kF ?kK ?k6 ?k7 ?k8 ?k9 ?kB ?kD ?_ ?c2 ?c3 ?c4; (case kA => exact rfl); (case kF => exact rfl); (case kK => assumption); (case k1 => k_asm); (case k2 => k_asm); (case k3 => k_asm); (case k4 => k_asm); (case k5 => k_asm); (case k6 => k_is); (case k7 => k_is); (case k8 => ktr_room); (case k9 => exact BindsTo.of_eq rfl); (case kB => exact rfl); (case kD => decide +kernel); (case c2 => exact rfl); (case c3 => exact rfl); (case c4 => exact rfl); k_whole; intro g' L' h' tk' cells' FG' F' N' Y' B' X' T' l1; (try k_lt l1); k_cells Y'; (try simp only [List.cons_append, List.nil_append] at N'); (try dsimp only); (try k_lift B'); (try k_fold))) | fail
  k_with "eval ListComp" => first | ((k_here; k_dflt (refine ListComp_T (F₀ := by k_asm) (by with_unfolding_all rfl) (by decide) (by rfl) (by decide) (by rfl) ?_))) | fail
  k_with "call ref" => first | ((k_here; k_dflt (refine' Ct.use (sign_spec _ _ _ _ _ ?kp ?kq) ?k1 ?k2 ?k3 ?k4 ?k5 ?kK ?kd ?ku ?_; walk_at "mine.use"; (case kp => first | omega | (apply_assumption; assumption)); (case kq => omega); (rintro r9 nw9 h9 tk9 ⟨⟨t9, e9⟩, e8⟩ F9 N9; subst e9; subst e8)))) | fail
  have hfill : PySem.Challenge.rw_qd0056_01.name = PySem.Challenge.rw_qd0056_01.name ∧ Mine.hd0.heap_1 = Mine.hd0.heap_1 := by
    w_top off; k_fill; exact ⟨rfl, rfl⟩
  clear hfill
  intro dp un gd cn cs a ccd cl outer A₀ base h₀ L m s Q E B F X N T hk hd hu hret
  refine wpAny_call ?_
  k_dflt (walk_at "mine.enterC")
  k_steps
  refine ⟨_, _, _, rfl, rfl, by assumption, by assumption, ?_, ?_⟩
  · show (S l).cps.size ≤ sizeLine
    rw [sizeLine_eq]; simp [S]; omega
  rintro s₂ ⟨g2, rfl⟩
  refine comp_signs l (fun c => S (esc e c)) ?_ ?_
  · intro c t I oI C oC D m₂ ys h tk E' hcl hC hx F2 N2 off ne
    k_steps
    exact CompEnd.intro (by assumption) (by assumption) _ (fun p hp => hp) off trivial ⟨rfl, _, rfl⟩
  · intro ys hys
    have hok : (((l.map (fun c => S (esc e c))).map (·.length)).sum + (l.map (fun c => S (esc e c))).length * (Str.ofString "").length ≤ 16777216) := by
      rw [sum_lay, lit_e]
      have := lay_len e l
      simp [S, Str.length]; omega
    k_steps
    refine join_list (items := ys.toArray) ⟨_, (News.get (by assumption) (.head _)), rfl, _, rfl⟩ hys hok ?_
    intro t' k'
    (try dsimp only)
    k_steps
    refine' hret _ _ _ _ ?p1 ?f1 ?n1
    (case f1 => assumption)
    (case n1 => exact cb_drop (by assumption) (fun p hp => .tail _ (.tail _ hp)))
    (case p1 =>
      refine ⟨⟨_, congrArg (Value.str · _) ?_⟩, rfl⟩
      show Builtin.Str.glued _ _ = _
      rw [StrLaws.glued_eq_join, lit_e, join_lay])
end
section
open PySem PySem.W PySem.Spec PySem.Calls PyProof.Rows
theorem wp_text16 {M : Model} {A : Around} {E : Value → Shared → Prop} {s : Shared} {Q : Value → Shared → Prop} {v : Value} {text : List Nat} {n : Int}
    (hs : (text.takeWhile (· != 0)).length ≤ 640) (hr : (int_private% "readNumeral") 0 16 (text.takeWhile (· != 0)) = (int_private% "Numeral.value") n)
    (ha : ((text.takeWhile (· != 0)).length == text.length) = true) (h : Q (.int n s.toks) { s with toks := s.toks + 1 }) :
    wpAny M A ((int_private% "intFromText") v text 16) Q E s := by
  obtain ⟨hp, g, d, tk, os⟩ := s
  repeat (any_goals (first
    | assumption
    | (with_reducible refine wpAny_ite_true (decide_eq_true hs) ?_)
    | (with_reducible refine wpAny_ite_true (decide_eq_true ha) ?_)
    | wp_step))
  all_goals (try rw [hr])
  all_goals (try dsimp only)
  repeat (any_goals (first
    | assumption
    | (with_reducible refine wpAny_ite_true (decide_eq_true hs) ?_)
    | (with_reducible refine wpAny_ite_true (decide_eq_true ha) ?_)
    | wp_step))
theorem read16 : ∀ k : Nat, k < 16 → (int_private% "readNumeral") 0 16 [hxd k] = (int_private% "Numeral.value") (k : Int) := by
  intro k hk
  have : k = 0 ∨ k = 1 ∨ k = 2 ∨ k = 3 ∨ k = 4 ∨ k = 5 ∨ k = 6 ∨ k = 7 ∨ k = 8 ∨ k = 9 ∨ k = 10 ∨ k = 11 ∨ k = 12 ∨ k = 13 ∨ k = 14 ∨ k = 15 := by omega
  rcases this with h|h|h|h|h|h|h|h|h|h|h|h|h|h|h|h <;> subst h <;> rfl
theorem hxd_ne0 (k : Nat) : (hxd k != 0) = true := by unfold hxd; split <;> simp
theorem hxd_lt {k : Nat} (h : k < 16) : hxd k < 128 := by unfold hxd; split <;> omega
theorem gives_hex {k : Nat} (hk : k < 16) (u v : Tok) : Gives (Builtin.«int.__new__» ⟨[.type "int", .str (S [hxd k]) u, .int 16 v], []⟩) (.int (k : Int)) :=
  .of_wp fun M A E s Q h => by
    obtain ⟨hp, g, d, tk, os⟩ := s
    have f1 := F.conv_sub_int
    have f2 := F.madeHere_int
    have f6 : typeOf (.str (S [hxd k]) u) = pure (.type "str") := rfl
    have ht : ([hxd k].takeWhile (· != 0)) = [hxd k] := by simp [List.takeWhile, hxd_ne0]
    have h7 : (if (S [hxd k]).cps.all (· < 128) then (S [hxd k]).cps.toList else Unicode.numberText (S [hxd k]).cps.toList) = [hxd k] := by
      rw [if_pos]
      simp [S, hxd_lt hk]
    have hr : KIN.Hid ((int_private% "readNumeral") 0 16 ([hxd k].takeWhile (· != 0)) = (int_private% "Numeral.value") (k : Int)) := ⟨by rw [ht]; exact read16 k hk⟩
    have hs : KIN.Hid (([hxd k].takeWhile (· != 0)).length ≤ 640 ∧ (([hxd k].takeWhile (· != 0)).length == [hxd k].length) = true) := ⟨by rw [ht]; exact ⟨by simp, by simp⟩⟩
    repeat (any_goals (first
      | assumption
      | ((with_reducible show wpAny _ _ ((int_private% "intFromText") _ _ _) _ _ _); (try rw [h7]); refine wp_text16 hs.out.1 hr.out hs.out.2 ?_)
      | wp_step))
    all_goals first | exact ⟨_, rfl, h⟩ | skip
theorem tc2 (a b : Value) : checkTypeCall "int" ⟨[a, b], []⟩ = pure () := by kernel_rfl
theorem nc2 (a b : Value) : checkBuiltinCall "int.__new__" ⟨[.type "int", a, b], []⟩ = pure () := by kernel_rfl
theorem oi3 (o a b : Value) : argsOk "object.__init__" ⟨[o, a, b], []⟩ := by unfold argsOk; kernel_rfl
theorem call_hex {prog : Program} {w : World} {A : Around} {E : Value → Shared → Prop} {s : Shared} {Q : Value → Shared → Prop} {k : Nat} {t v : Tok} (hk : k < 16) (h : Q (.int (k : Int) s.toks) { s with toks := s.toks + 1 }) :
    wpAny (model prog w) A (call (.type "int") [.str (S [hxd k]) t, .int 16 v]) Q E s :=
  callType_new F.called_int F.newNe_int (tc2 _ _) (nc2 _ _) (fun obj => oi3 obj _ _) F.entry_int_new (gives_hex hk t v).meets (show (Made.int (k : Int)).post _ s from ⟨rfl, h⟩)
end
section
open PySem PySem.W PySem.Spec PySem.Calls PyProof.Rows

/-- from place i on the text reads cs -/
structure Seg (T : Str) (i : Nat) (cs : List Nat) : Prop where
  len : i + cs.length ≤ T.length
  at_ : ∀ (j c : Nat), cs[j]? = some c → T.cps[i + j]? = some c
theorem seg_mid (a b d : List Nat) : Seg (S (a ++ b ++ d)) a.length b := by
  constructor
  · simp [S, Str.length]
  · intro j c h
    have hj : j < b.length := by
      rcases Nat.lt_or_ge j b.length with h' | h'
      · exact h'
      · rw [List.getElem?_eq_none h'] at h; cases h
    show (a ++ b ++ d).toArray[a.length + j]? = some c
    rw [List.getElem?_toArray, List.append_assoc, List.getElem?_append_right (by omega), List.getElem?_append_left (by omega)]
    simpa using h

section
variable {prog : Program} {w : World} {A : Around} {E : Value → Shared → Prop} {s : Shared} {Q : Value → Shared → Prop} {x y T : Str} {t u : Tok}
theorem item_seg {value slice : Expr} {i c : Nat} {cs : List Nat} {k : Int} (hs : Seg T i cs) (hn : T.length ≤ 16777216) (j : Nat) (hk : k = ((i + j : Nat) : Int)) (hc : cs[j]? = some c) (h : Q (.str (S [c]) s.toks) { s with toks := s.toks + 1 })
    (hsl : subscripted slice false (.str T t) (.int k u) = operate [.str T t, .int k u] (getItem (.str T t) (.int k u)) := by with_unfolding_all rfl)
    (ht : ∀ r, letTemporaryGo value (.str T t) r = pure () := by intro _; with_unfolding_all rfl) :
    wpAny (model prog w) A (subscriptTail value slice (.str T t) (.int k u)) Q E s := by
  have hj : j < cs.length := by
    rcases Nat.lt_or_ge j cs.length with h' | h'
    · exact h'
    · rw [List.getElem?_eq_none h'] at hc; cases hc
  have hl := hs.len
  have hat := hs.at_ j c hc
  have e : Txt.item T k = S [c] := by
    refine PyProof.Rows.item_meets (by omega) ?_
    rw [show k.toNat = i + j by omega]; exact hat
  exact KXi.item (n := T.length) rfl (by omega) (by omega) hn (fun _ => by rw [e]; exact h) hsl ht

theorem eq_tt (hx : x = y) (h : Q (.bool true) s) : wpAny (model prog w) A (compareOp .Eq (.str x t) (.str y u)) Q E s :=
  PyProof.Rows.eq_str (by rw [show (x == y) = true from by subst hx; exact beq_self_eq_true _]; exact h)
theorem eq_ff (hx : x ≠ y) (h : Q (.bool false) s) : wpAny (model prog w) A (compareOp .Eq (.str x t) (.str y u)) Q E s :=
  PyProof.Rows.eq_str (by rw [show (x == y) = false from beq_eq_false_iff_ne.mpr hx]; exact h)
theorem ne_ff (hx : x = y) (h : Q (.bool false) s) : wpAny (model prog w) A (compareOp .NotEq (.str x t) (.str y u)) Q E s :=
  PyProof.Rows.ne_str (by rw [show (x != y) = false from by subst hx; simp]; exact h)
theorem ne_tt (hx : x ≠ y) (h : Q (.bool true) s) : wpAny (model prog w) A (compareOp .NotEq (.str x t) (.str y u)) Q E s :=
  PyProof.Rows.ne_str (by rw [show (x != y) = true from by simpa using hx]; exact h)
theorem in_tt {c : Nat} (l : List Nat) (hx : x = S l) (hc : c ∈ l) (h : Q (.bool true) s) : wpAny (model prog w) A (compareOp .In (.str (S [c]) u) (.str x t)) Q E s :=
  PyProof.Rows.in_str (by subst hx; rw [occ_one]; simpa [hc] using h)
theorem in_ff {c : Nat} (l : List Nat) (hx : x = S l) (hc : c ∉ l) (h : Q (.bool false) s) : wpAny (model prog w) A (compareOp .In (.str (S [c]) u) (.str x t)) Q E s :=
  PyProof.Rows.in_str (by subst hx; rw [occ_one]; simpa [hc] using h)
end
theorem lit_hexs : Str.ofString "0123456789abcdefABCDEF" = S [48, 49, 50, 51, 52, 53, 54, 55, 56, 57, 97, 98, 99, 100, 101, 102, 65, 66, 67, 68, 69, 70] := by decide +kernel
theorem lit_hexl : Str.ofString "0123456789abcdef" = S [48, 49, 50, 51, 52, 53, 54, 55, 56, 57, 97, 98, 99, 100, 101, 102] := by decide +kernel
theorem hxd_inl {k : Nat} (h : k < 16) : hxd k ∈ [48, 49, 50, 51, 52, 53, 54, 55, 56, 57, 97, 98, 99, 100, 101, 102] :=
  (by decide : ∀ k < 16, hxd k ∈ [48, 49, 50, 51, 52, 53, 54, 55, 56, 57, 97, 98, 99, 100, 101, 102]) k h
theorem hxd_in {k : Nat} (h : k < 16) : hxd k ∈ [48, 49, 50, 51, 52, 53, 54, 55, 56, 57, 97, 98, 99, 100, 101, 102, 65, 66, 67, 68, 69, 70] :=
  List.mem_append.mpr (.inl (hxd_inl h) : _ ∨ hxd k ∈ [65, 66, 67, 68, 69, 70])

theorem esc_cases (e c : Nat) : (esc e c = [c] ∧ c ≠ e ∧ c ≠ 92) ∨ (esc e c = [92, 110] ∧ c = 10) ∨ (esc e c = [92, 116] ∧ c = 9) ∨
    (esc e c = [92, c] ∧ c ≠ 10 ∧ c ≠ 9 ∧ (c ≠ 110 ∧ c ≠ 116 ∧ c ≠ 114 ∧ c ≠ 102 ∧ c ≠ 118 ∧ c ≠ 97 ∧ c ≠ 98) ∧ ¬ (48 ≤ c ∧ c ≤ 55) ∧ c ≠ 120) ∨
    (esc e c = [92, 120, hxd (c / 16), hxd (c % 16)] ∧ c < 256) := by
  by_cases h1 : c = 10
  · exact .inr (.inl ⟨by unfold esc; rw [if_pos h1], h1⟩)
  by_cases h2 : c = 9
  · exact .inr (.inr (.inl ⟨by unfold esc; rw [if_neg h1, if_pos h2], h2⟩))
  by_cases h3 : c = e ∧ spc c = true
  · refine .inr (.inr (.inr (.inr ⟨by unfold esc; rw [if_neg h1, if_neg h2, if_pos h3]; rfl, ?_⟩)))
    have h := h3.2
    unfold spc at h
    simp only [beq_iff_eq, Bool.or_eq_true, Bool.and_eq_true, decide_eq_true_eq] at h
    omega
  by_cases h4 : c = e ∨ c = 92
  · refine .inr (.inr (.inr (.inl ⟨by unfold esc; rw [if_neg h1, if_neg h2, if_neg h3, if_pos h4], h1, h2, ?_⟩)))
    have h : spc c = false := by
      rcases h4 with h | h
      · cases q : spc c with
        | false => rfl
        | true => exact absurd ⟨h, q⟩ h3
      · subst h; decide
    unfold spc at h
    simp only [Bool.or_eq_false_iff, beq_eq_false_iff_ne, Bool.and_eq_false_iff, decide_eq_false_iff_not] at h
    omega
  by_cases h5 : (c < 32 ∨ 126 < c) ∧ c < 256
  · exact .inr (.inr (.inr (.inr ⟨by unfold esc; rw [if_neg h1, if_neg h2, if_neg h3, if_neg h4, if_pos h5]; rfl, h5.2⟩)))
  · exact .inl ⟨by unfold esc; rw [if_neg h1, if_neg h2, if_neg h3, if_neg h4, if_neg h5], fun q => h4 (.inl q), fun q => h4 (.inr q)⟩
theorem lay_cons (e c : Nat) (r : List Nat) : lay e (c :: r) = esc e c ++ lay e r := by simp [lay]
theorem lay_append (e : Nat) (a b : List Nat) : lay e (a ++ b) = lay e a ++ lay e b := by simp [lay]
end
section
open PySem PySem.W PySem.Spec PySem.Calls PyProof.Rows
def Held (P : Prop) : Prop := P
theorem hold {P : Prop} (h : Held P) : P := h
theorem get_sg {h₀ h : Heap} {L sg : Addr} {o : Obj} {r : List (Addr × Obj)} (_ : News h₀ L h ((sg, o) :: r)) : ∃ z, z = sg := ⟨_, rfl⟩
abbrev curD (P : Params) (T : Str) (a b c : Tok) (i : Int) (d : Tok) : Obj := dictOf [⟨PyData.keyHash P (Str.ofString "text"), .str (Str.ofString "text") a, .str T b⟩, ⟨PyData.keyHash P (Str.ofString "at"), .str (Str.ofString "at") c, .int i d⟩] 2
theorem join_ones (l : List Nat) : Str.join (S []) (l.map (fun c => S [c])) = S l := by
  have h := join_S (l.map (fun c => [c]))
  rw [List.map_map] at h
  rw [show (S ∘ fun c => [c]) = fun c => S [c] from rfl] at h
  rw [h]
  congr 1
  clear h
  induction l with
  | nil => rfl
  | cons a r ih => simp only [List.map_cons, List.flatten_cons, ih]; rfl
theorem sum_ones (l : List Nat) : ((l.map (fun c => S [c])).map (·.length)).sum = l.length := by
  induction l with
  | nil => rfl
  | cons a r ih => simp only [List.map_cons, List.sum_cons, ih, List.length_cons]; show 1 + r.length = _; omega
end
section
open PySem PySem.W PySem.Spec PySem.Calls PyProof.Rows

theorem done_spec {prog : Program} {w : World} {p : Program} {loose : List Str} {mean : ExcName → Option Value} {mg mb : Str → Option Value} (x dx : Addr) (rest : List (Addr × Obj)) (T : Str) (i : Nat) (k : Int) (ta tb tc td : Tok) (hn : T.length ≤ 16777216) :
   Ct prog w (Mine.hd0.heap_1 w.params) p loose mean mg mb 44 [.ref x] ((x, instObj 147 dx) :: (dx, curD w.params T ta tb tc k td) :: rest) 1
     (fun r news' => r = .bool (decide ((T.length : Int) ≤ k)) ∧ news' = (x, instObj 147 dx) :: (dx, curD w.params T ta tb tc k td) :: rest) := by
  k_with_none
  k_with "mine.use" => first | ((
    (case k1 => k_asm); (case k2 => k_asm); (case k3 => k_asm); (case k4 => k_asm); (case k5 => k_asm); (case kK => first | exact rfl | assumption); (case kd => ktr_room); (case ku => ktr_units))) | fail
  k_with "mine.clean" => first | ((
    (repeat (rename Fr _ _ _ _ => hh; clear hh)); (repeat (rename News _ _ _ _ => hh; clear hh)); (repeat (rename Below _ _ _ _ => hh; clear hh)); (repeat (rename Top _ _ _ _ _ _ => hh; clear hh)); (repeat (rename Frag.In _ _ => hh; clear hh)))) | fail
  k_with "mine.ne" => first | ((simp only [lit_nl, lit_tab, lit_x, lit_bs, lit_e, S_inj, ne_eq, List.cons.injEq, and_true, reduceCtorEq, not_false_eq_true, not_true_eq_false] <;> omega)) | fail
  k_with "mine.eq" => first | (first | rfl | (simp only [lit_nl, lit_tab, lit_x, lit_bs, lit_e, S_inj, List.cons.injEq, and_true] <;> omega)) | fail
  k_with "mine.in" => first | (first | exact hxd_in (by assumption) | exact hxd_inl (by assumption) | decide | (simp only [List.mem_cons, List.not_mem_nil, or_false]; omega)) | fail
  k_with "mine.lit" => first | (first | exact lit_oct | exact lit_hexs | exact lit_hexl) | fail
  k_with "compareOp Eq str str" => first | ((k_here; k_dflt (first | (refine eq_ff (by walk_at "mine.ne") ?_) | (refine eq_tt (by walk_at "mine.eq") ?_)))) | fail
  k_with "compareOp NotEq str str" => first | ((k_here; k_dflt (first | (refine ne_tt (by walk_at "mine.ne") ?_) | (refine ne_ff (by walk_at "mine.eq") ?_)))) | fail
  k_with "compareOp In str str" => first | ((k_here; k_dflt (first | (refine in_tt _ (by walk_at "mine.lit") (by walk_at "mine.in") ?_) | (refine in_ff _ (by walk_at "mine.lit") (by walk_at "mine.in") ?_)))) | fail
  k_with "mine.item" => first | ((k_here; (with_reducible show wpAny _ _ (subscriptTail _ _ (Value.str _ _) (Value.int _ _)) _ _ _); k_dflt (first
    | (refine item_seg (by assumption) (by assumption) 0 (by omega) (by rfl) ?_)
    | (refine item_seg (by assumption) (by assumption) 1 (by omega) (by rfl) ?_)
    | (refine item_seg (by assumption) (by assumption) 2 (by omega) (by rfl) ?_)
    | (refine item_seg (by assumption) (by assumption) 3 (by omega) (by rfl) ?_)))) | fail
  k_with "subscriptTail" => first | (walk_at "mine.item") | fail
  k_with "subscriptTail Name Name str int" => first | (walk_at "mine.item") | fail
  k_with "call type:int" => first | ((k_here; k_dflt (refine call_hex (by assumption) ?_))) | fail
  k_with "mine.if" => first | ((simp only [S_inj, List.cons.injEq, and_true, Bool.or_eq_false_iff, decide_eq_false_iff_not]; omega)) | fail
  k_with "ite" => first | ((k_here; k_openite; (refine ite_isFalse (by walk_at "mine.if") ?_))) | fail
  k_with "mine.enterD" => first | ((refine' code_def ?k1 ?k2 ?k3 ?k4 ?k5 ?kA ?kF ?kK ?k6 ?k7 ?k8 ?k9 ?kB ?_ ?c2 ?c3 ?c4 ?c5; (case kA => exact rfl); (case kF => exact rfl); (case kK => assumption); (case k1 => k_asm); (case k2 => k_asm); (case k3 => k_asm); (case k4 => k_asm); (case k5 => k_asm); (case k6 => k_is); (case k7 => k_is); (case k8 => ktr_room); (case k9 => first | exact BindsTo.of_eq rfl | exact binds_K (by k_in) rfl (by k_is) rfl rfl rfl); (case c5 => decide); (case kB => exact locs rfl); (case c2 => exact rfl); (case c3 => exact rfl); (case c4 => exact rfl); k_whole; intro g' L' h' FG' F' N' B' X' T'; (try dsimp only); (try k_fold))) | fail
  have hfill : PySem.Challenge.rw_qd0056_01.name = PySem.Challenge.rw_qd0056_01.name ∧ Mine.hd0.heap_1 = Mine.hd0.heap_1 := by
    w_top off; k_fill; exact ⟨rfl, rfl⟩
  clear hfill
  intro dp un gd cn cs a ccd cl outer A₀ base h₀ L m s Q E B F X N T hk hd hun hret
  refine wpAny_call ?_
  k_dflt (walk_at "mine.enterD")
  k_steps
  refine' hret _ _ _ _ ?p1 ?f1 ?n1
  (case f1 => assumption)
  (case n1 => assumption)
  (case p1 => exact ⟨rfl, rfl⟩)
theorem take_spec {prog : Program} {w : World} {p : Program} {loose : List Str} {mean : ExcName → Option Value} {mg mb : Str → Option Value} (x dx : Addr) (rest : List (Addr × Obj)) (T : Str) (i : Nat) (k : Int) (ta tb tc td : Tok) (cs : List Nat) (c : Nat) (hk0 : k = (i : Int)) (hr : ∀ q ∈ rest, q.1 ≠ dx) (hx : @LT.lt Nat _ dx x) (hs : Seg T i (c :: cs)) (hn : T.length ≤ 16777216) :
   Ct prog w (Mine.hd0.heap_1 w.params) p loose mean mg mb 66 [.ref x] ((x, instObj 147 dx) :: (dx, curD w.params T ta tb tc k td) :: rest) 2
     (fun r news' => ∃ k' d' t, k' = k + 1 ∧ r = .str (S [c]) t ∧ news' = (x, instObj 147 dx) :: (dx, curD w.params T ta tb tc k' d') :: rest) := by
  k_with_none
  k_with "mine.use" => first | ((
    (case k1 => k_asm); (case k2 => k_asm); (case k3 => k_asm); (case k4 => k_asm); (case k5 => k_asm); (case kK => first | exact rfl | assumption); (case kd => ktr_room); (case ku => ktr_units))) | fail
  k_with "mine.clean" => first | ((
    (repeat (rename Fr _ _ _ _ => hh; clear hh)); (repeat (rename News _ _ _ _ => hh; clear hh)); (repeat (rename Below _ _ _ _ => hh; clear hh)); (repeat (rename Top _ _ _ _ _ _ => hh; clear hh)); (repeat (rename Frag.In _ _ => hh; clear hh)))) | fail
  k_with "mine.ne" => first | ((simp only [lit_nl, lit_tab, lit_x, lit_bs, lit_e, S_inj, ne_eq, List.cons.injEq, and_true, reduceCtorEq, not_false_eq_true, not_true_eq_false] <;> omega)) | fail
  k_with "mine.eq" => first | (first | rfl | (simp only [lit_nl, lit_tab, lit_x, lit_bs, lit_e, S_inj, List.cons.injEq, and_true] <;> omega)) | fail
  k_with "mine.in" => first | (first | exact hxd_in (by assumption) | exact hxd_inl (by assumption) | decide | (simp only [List.mem_cons, List.not_mem_nil, or_false]; omega)) | fail
  k_with "mine.lit" => first | (first | exact lit_oct | exact lit_hexs | exact lit_hexl) | fail
  k_with "compareOp Eq str str" => first | ((k_here; k_dflt (first | (refine eq_ff (by walk_at "mine.ne") ?_) | (refine eq_tt (by walk_at "mine.eq") ?_)))) | fail
  k_with "compareOp NotEq str str" => first | ((k_here; k_dflt (first | (refine ne_tt (by walk_at "mine.ne") ?_) | (refine ne_ff (by walk_at "mine.eq") ?_)))) | fail
  k_with "compareOp In str str" => first | ((k_here; k_dflt (first | (refine in_tt _ (by walk_at "mine.lit") (by walk_at "mine.in") ?_) | (refine in_ff _ (by walk_at "mine.lit") (by walk_at "mine.in") ?_)))) | fail
  k_with "mine.item" => first | ((k_here; (with_reducible show wpAny _ _ (subscriptTail _ _ (Value.str _ _) (Value.int _ _)) _ _ _); k_dflt (first
    | (refine item_seg (by assumption) (by assumption) 0 (by omega) (by rfl) ?_)
    | (refine item_seg (by assumption) (by assumption) 1 (by omega) (by rfl) ?_)
    | (refine item_seg (by assumption) (by assumption) 2 (by omega) (by rfl) ?_)
    | (refine item_seg (by assumption) (by assumption) 3 (by omega) (by rfl) ?_)))) | fail
  k_with "subscriptTail" => first | (walk_at "mine.item") | fail
  k_with "subscriptTail Name Name str int" => first | (walk_at "mine.item") | fail
  k_with "call type:int" => first | ((k_here; k_dflt (refine call_hex (by assumption) ?_))) | fail
  k_with "mine.if" => first | ((simp only [S_inj, List.cons.injEq, and_true, Bool.or_eq_false_iff, decide_eq_false_iff_not]; omega)) | fail
  k_with "ite" => first | ((k_here; k_openite; (refine ite_isFalse (by walk_at "mine.if") ?_))) | fail
  k_with "mine.enterD" => first | ((refine' code_def ?k1 ?k2 ?k3 ?k4 ?k5 ?kA ?kF ?kK ?k6 ?k7 ?k8 ?k9 ?kB ?_ ?c2 ?c3 ?c4 ?c5; (case kA => exact rfl); (case kF => exact rfl); (case kK => assumption); (case k1 => k_asm); (case k2 => k_asm); (case k3 => k_asm); (case k4 => k_asm); (case k5 => k_asm); (case k6 => k_is); (case k7 => k_is); (case k8 => ktr_room); (case k9 => first | exact BindsTo.of_eq rfl | exact binds_K (by k_in) rfl (by k_is) rfl rfl rfl); (case c5 => decide); (case kB => exact locs rfl); (case c2 => exact rfl); (case c3 => exact rfl); (case c4 => exact rfl); k_whole; intro g' L' h' FG' F' N' B' X' T'; (try dsimp only); (try k_fold))) | fail
  have hfill : PySem.Challenge.rw_qd0056_01.name = PySem.Challenge.rw_qd0056_01.name ∧ Mine.hd0.heap_1 = Mine.hd0.heap_1 := by
    w_top off; k_fill; exact ⟨rfl, rfl⟩
  clear hfill
  intro dp un gd cn cs a ccd cl outer A₀ base h₀ L m s Q E B F X N T hk hd hun hret
  refine wpAny_call ?_
  k_dflt (walk_at "mine.enterD")
  have hlen := hs.len
  simp only [List.length_cons] at hlen
  k_steps
  refine' hret _ _ _ _ ?p1 ?f1 ?n1
  (case f1 => assumption)
  (case n1 => assumption)
  (case p1 => exact ⟨_, _, _, rfl, rfl, rfl⟩)
theorem peek_spec {prog : Program} {w : World} {p : Program} {loose : List Str} {mean : ExcName → Option Value} {mg mb : Str → Option Value} (x dx : Addr) (rest : List (Addr × Obj)) (T : Str) (i : Nat) (k : Int) (ta tb tc td : Tok) (cs : List Nat) (c : Nat) (hk0 : k = (i : Int)) (hs : Seg T i (c :: cs)) (hn : T.length ≤ 16777216) :
   Ct prog w (Mine.hd0.heap_1 w.params) p loose mean mg mb 52 [.ref x] ((x, instObj 147 dx) :: (dx, curD w.params T ta tb tc k td) :: rest) 1
     (fun r news' => (∃ t, r = .str (S [c]) t) ∧ news' = (x, instObj 147 dx) :: (dx, curD w.params T ta tb tc k td) :: rest) := by
  k_with_none
  k_with "mine.use" => first | ((
    (case k1 => k_asm); (case k2 => k_asm); (case k3 => k_asm); (case k4 => k_asm); (case k5 => k_asm); (case kK => first | exact rfl | assumption); (case kd => ktr_room); (case ku => ktr_units))) | fail
  k_with "mine.clean" => first | ((
    (repeat (rename Fr _ _ _ _ => hh; clear hh)); (repeat (rename News _ _ _ _ => hh; clear hh)); (repeat (rename Below _ _ _ _ => hh; clear hh)); (repeat (rename Top _ _ _ _ _ _ => hh; clear hh)); (repeat (rename Frag.In _ _ => hh; clear hh)))) | fail
  k_with "mine.ne" => first | ((simp only [lit_nl, lit_tab, lit_x, lit_bs, lit_e, S_inj, ne_eq, List.cons.injEq, and_true, reduceCtorEq, not_false_eq_true, not_true_eq_false] <;> omega)) | fail
  k_with "mine.eq" => first | (first | rfl | (simp only [lit_nl, lit_tab, lit_x, lit_bs, lit_e, S_inj, List.cons.injEq, and_true] <;> omega)) | fail
  k_with "mine.in" => first | (first | exact hxd_in (by assumption) | exact hxd_inl (by assumption) | decide | (simp only [List.mem_cons, List.not_mem_nil, or_false]; omega)) | fail
  k_with "mine.lit" => first | (first | exact lit_oct | exact lit_hexs | exact lit_hexl) | fail
  k_with "compareOp Eq str str" => first | ((k_here; k_dflt (first | (refine eq_ff (by walk_at "mine.ne") ?_) | (refine eq_tt (by walk_at "mine.eq") ?_)))) | fail
  k_with "compareOp NotEq str str" => first | ((k_here; k_dflt (first | (refine ne_tt (by walk_at "mine.ne") ?_) | (refine ne_ff (by walk_at "mine.eq") ?_)))) | fail
  k_with "compareOp In str str" => first | ((k_here; k_dflt (first | (refine in_tt _ (by walk_at "mine.lit") (by walk_at "mine.in") ?_) | (refine in_ff _ (by walk_at "mine.lit") (by walk_at "mine.in") ?_)))) | fail
  k_with "mine.item" => first | ((k_here; (with_reducible show wpAny _ _ (subscriptTail _ _ (Value.str _ _) (Value.int _ _)) _ _ _); k_dflt (first
    | (refine item_seg (by assumption) (by assumption) 0 (by omega) (by rfl) ?_)
    | (refine item_seg (by assumption) (by assumption) 1 (by omega) (by rfl) ?_)
    | (refine item_seg (by assumption) (by assumption) 2 (by omega) (by rfl) ?_)
    | (refine item_seg (by assumption) (by assumption) 3 (by omega) (by rfl) ?_)))) | fail
  k_with "subscriptTail" => first | (walk_at "mine.item") | fail
  k_with "subscriptTail Name Name str int" => first | (walk_at "mine.item") | fail
  k_with "call type:int" => first | ((k_here; k_dflt (refine call_hex (by assumption) ?_))) | fail
  k_with "mine.if" => first | ((simp only [S_inj, List.cons.injEq, and_true, Bool.or_eq_false_iff, decide_eq_false_iff_not]; omega)) | fail
  k_with "ite" => first | ((k_here; k_openite; (refine ite_isFalse (by walk_at "mine.if") ?_))) | fail
  k_with "mine.enterD" => first | ((refine' code_def ?k1 ?k2 ?k3 ?k4 ?k5 ?kA ?kF ?kK ?k6 ?k7 ?k8 ?k9 ?kB ?_ ?c2 ?c3 ?c4 ?c5; (case kA => exact rfl); (case kF => exact rfl); (case kK => assumption); (case k1 => k_asm); (case k2 => k_asm); (case k3 => k_asm); (case k4 => k_asm); (case k5 => k_asm); (case k6 => k_is); (case k7 => k_is); (case k8 => ktr_room); (case k9 => first | exact BindsTo.of_eq rfl | exact binds_K (by k_in) rfl (by k_is) rfl rfl rfl); (case c5 => decide); (case kB => exact locs rfl); (case c2 => exact rfl); (case c3 => exact rfl); (case c4 => exact rfl); k_whole; intro g' L' h' FG' F' N' B' X' T'; (try dsimp only); (try k_fold))) | fail
  have hfill : PySem.Challenge.rw_qd0056_01.name = PySem.Challenge.rw_qd0056_01.name ∧ Mine.hd0.heap_1 = Mine.hd0.heap_1 := by
    w_top off; k_fill; exact ⟨rfl, rfl⟩
  clear hfill
  intro dp un gd cn cs a ccd cl outer A₀ base h₀ L m s Q E B F X N T hk hd hun hret
  refine wpAny_call ?_
  k_dflt (walk_at "mine.enterD")
  have hlen := hs.len
  simp only [List.length_cons] at hlen
  k_steps
  refine' hret _ _ _ _ ?p1 ?f1 ?n1
  (case f1 => assumption)
  (case n1 => assumption)
  (case p1 => exact ⟨⟨_, rfl⟩, rfl⟩)
theorem peek1_spec {prog : Program} {w : World} {p : Program} {loose : List Str} {mean : ExcName → Option Value} {mg mb : Str → Option Value} (x dx : Addr) (rest : List (Addr × Obj)) (T : Str) (i : Nat) (k : Int) (ta tb tc td : Tok) (cs : List Nat) (c c₀ : Nat) (tu : Tok) (hk0 : k = (i : Int)) (hs : Seg T i (c₀ :: c :: cs)) (hn : T.length ≤ 16777216) :
   Ct prog w (Mine.hd0.heap_1 w.params) p loose mean mg mb 52 [.ref x, .int 1 tu] ((x, instObj 147 dx) :: (dx, curD w.params T ta tb tc k td) :: rest) 1
     (fun r news' => (∃ t, r = .str (S [c]) t) ∧ news' = (x, instObj 147 dx) :: (dx, curD w.params T ta tb tc k td) :: rest) := by
  k_with_none
  k_with "mine.use" => first | ((
    (case k1 => k_asm); (case k2 => k_asm); (case k3 => k_asm); (case k4 => k_asm); (case k5 => k_asm); (case kK => first | exact rfl | assumption); (case kd => ktr_room); (case ku => ktr_units))) | fail
  k_with "mine.clean" => first | ((
    (repeat (rename Fr _ _ _ _ => hh; clear hh)); (repeat (rename News _ _ _ _ => hh; clear hh)); (repeat (rename Below _ _ _ _ => hh; clear hh)); (repeat (rename Top _ _ _ _ _ _ => hh; clear hh)); (repeat (rename Frag.In _ _ => hh; clear hh)))) | fail
  k_with "mine.ne" => first | ((simp only [lit_nl, lit_tab, lit_x, lit_bs, lit_e, S_inj, ne_eq, List.cons.injEq, and_true, reduceCtorEq, not_false_eq_true, not_true_eq_false] <;> omega)) | fail
  k_with "mine.eq" => first | (first | rfl | (simp only [lit_nl, lit_tab, lit_x, lit_bs, lit_e, S_inj, List.cons.injEq, and_true] <;> omega)) | fail
  k_with "mine.in" => first | (first | exact hxd_in (by assumption) | exact hxd_inl (by assumption) | decide | (simp only [List.mem_cons, List.not_mem_nil, or_false]; omega)) | fail
  k_with "mine.lit" => first | (first | exact lit_oct | exact lit_hexs | exact lit_hexl) | fail
  k_with "compareOp Eq str str" => first | ((k_here; k_dflt (first | (refine eq_ff (by walk_at "mine.ne") ?_) | (refine eq_tt (by walk_at "mine.eq") ?_)))) | fail
  k_with "compareOp NotEq str str" => first | ((k_here; k_dflt (first | (refine ne_tt (by walk_at "mine.ne") ?_) | (refine ne_ff (by walk_at "mine.eq") ?_)))) | fail
  k_with "compareOp In str str" => first | ((k_here; k_dflt (first | (refine in_tt _ (by walk_at "mine.lit") (by walk_at "mine.in") ?_) | (refine in_ff _ (by walk_at "mine.lit") (by walk_at "mine.in") ?_)))) | fail
  k_with "mine.item" => first | ((k_here; (with_reducible show wpAny _ _ (subscriptTail _ _ (Value.str _ _) (Value.int _ _)) _ _ _); k_dflt (first
    | (refine item_seg (by assumption) (by assumption) 0 (by omega) (by rfl) ?_)
    | (refine item_seg (by assumption) (by assumption) 1 (by omega) (by rfl) ?_)
    | (refine item_seg (by assumption) (by assumption) 2 (by omega) (by rfl) ?_)
    | (refine item_seg (by assumption) (by assumption) 3 (by omega) (by rfl) ?_)))) | fail
  k_with "subscriptTail" => first | (walk_at "mine.item") | fail
  k_with "subscriptTail Name Name str int" => first | (walk_at "mine.item") | fail
  k_with "call type:int" => first | ((k_here; k_dflt (refine call_hex (by assumption) ?_))) | fail
  k_with "mine.if" => first | ((simp only [S_inj, List.cons.injEq, and_true, Bool.or_eq_false_iff, decide_eq_false_iff_not]; omega)) | fail
  k_with "ite" => first | ((k_here; k_openite; (refine ite_isFalse (by walk_at "mine.if") ?_))) | fail
  k_with "mine.enterD" => first | ((refine' code_def ?k1 ?k2 ?k3 ?k4 ?k5 ?kA ?kF ?kK ?k6 ?k7 ?k8 ?k9 ?kB ?_ ?c2 ?c3 ?c4 ?c5; (case kA => exact rfl); (case kF => exact rfl); (case kK => assumption); (case k1 => k_asm); (case k2 => k_asm); (case k3 => k_asm); (case k4 => k_asm); (case k5 => k_asm); (case k6 => k_is); (case k7 => k_is); (case k8 => ktr_room); (case k9 => first | exact BindsTo.of_eq rfl | exact binds_K (by k_in) rfl (by k_is) rfl rfl rfl); (case c5 => decide); (case kB => exact locs rfl); (case c2 => exact rfl); (case c3 => exact rfl); (case c4 => exact rfl); k_whole; intro g' L' h' FG' F' N' B' X' T'; (try dsimp only); (try k_fold))) | fail
  have hfill : PySem.Challenge.rw_qd0056_01.name = PySem.Challenge.rw_qd0056_01.name ∧ Mine.hd0.heap_1 = Mine.hd0.heap_1 := by
    w_top off; k_fill; exact ⟨rfl, rfl⟩
  clear hfill
  intro dp un gd cn cs a ccd cl outer A₀ base h₀ L m s Q E B F X N T hk hd hun hret
  refine wpAny_call ?_
  k_dflt (walk_at "mine.enterD")
  have hlen := hs.len
  simp only [List.length_cons] at hlen
  k_steps
  refine' hret _ _ _ _ ?p1 ?f1 ?n1
  (case f1 => assumption)
  (case n1 => assumption)
  (case p1 => exact ⟨⟨_, rfl⟩, rfl⟩)
end
section
open PySem PySem.W PySem.Spec PySem.Calls PyProof.Rows

theorem seg_tail {T : Str} {i : Nat} {a : Nat} {r : List Nat} (h : Seg T i (a :: r)) : Seg T (i + 1) r := by
  constructor
  · have := h.len
    simp only [List.length_cons] at this
    omega
  · intro j c hc
    have := h.at_ (j + 1) c (by simpa using hc)
    rw [show i + (j + 1) = i + 1 + j by omega] at this
    exact this

theorem coded_spec {prog : Program} {w : World} {p : Program} {loose : List Str} {mean : ExcName → Option Value} {mg mb : Str → Option Value} (x dx : Addr) (rest : List (Addr × Obj)) (T : Str) (i u v : Nat) (k : Int) (ts ta tb tc td tm tn : Tok)
   (hk0 : k = (i : Int)) (hr : ∀ q ∈ rest, q.1 ≠ dx) (hx : @LT.lt Nat _ dx x) (hu : u < 16) (hv : v < 16) (hs : Seg T i [hxd u, hxd v]) (hn : T.length ≤ 16777216) :
   Ct prog w (Mine.hd0.heap_1 w.params) p loose mean mg mb 130 [.ref x, .str (Str.ofString "0123456789abcdefABCDEF") ts, .int 2 tm, .int 16 tn] ((x, instObj 147 dx) :: (dx, curD w.params T ta tb tc k td) :: rest) 3
     (fun r news' => ∃ k' d' t, k' = (i : Int) + 2 ∧ r = .str (S [16 * u + v]) t ∧ news' = (x, instObj 147 dx) :: (dx, curD w.params T ta tb tc k' d') :: rest) := by
  k_with_none
  k_with "mine.use" => first | ((
    (case k1 => k_asm); (case k2 => k_asm); (case k3 => k_asm); (case k4 => k_asm); (case k5 => k_asm); (case kK => first | exact rfl | assumption); (case kd => ktr_room); (case ku => ktr_units))) | fail
  k_with "mine.clean" => first | ((
    (repeat (rename Fr _ _ _ _ => hh; clear hh)); (repeat (rename News _ _ _ _ => hh; clear hh)); (repeat (rename Below _ _ _ _ => hh; clear hh)); (repeat (rename Top _ _ _ _ _ _ => hh; clear hh)); (repeat (rename Frag.In _ _ => hh; clear hh)))) | fail
  k_with "mine.ne" => first | ((simp only [lit_nl, lit_tab, lit_x, lit_bs, lit_e, S_inj, ne_eq, List.cons.injEq, and_true, reduceCtorEq, not_false_eq_true, not_true_eq_false] <;> omega)) | fail
  k_with "mine.eq" => first | (first | rfl | (simp only [lit_nl, lit_tab, lit_x, lit_bs, lit_e, S_inj, List.cons.injEq, and_true] <;> omega)) | fail
  k_with "mine.in" => first | (first | exact hxd_in (by assumption) | exact hxd_inl (by assumption) | decide | (simp only [List.mem_cons, List.not_mem_nil, or_false]; omega)) | fail
  k_with "mine.lit" => first | (first | exact lit_oct | exact lit_hexs | exact lit_hexl) | fail
  k_with "compareOp Eq str str" => first | ((k_here; k_dflt (first | (refine eq_ff (by walk_at "mine.ne") ?_) | (refine eq_tt (by walk_at "mine.eq") ?_)))) | fail
  k_with "compareOp NotEq str str" => first | ((k_here; k_dflt (first | (refine ne_tt (by walk_at "mine.ne") ?_) | (refine ne_ff (by walk_at "mine.eq") ?_)))) | fail
  k_with "compareOp In str str" => first | ((k_here; k_dflt (first | (refine in_tt _ (by walk_at "mine.lit") (by walk_at "mine.in") ?_) | (refine in_ff _ (by walk_at "mine.lit") (by walk_at "mine.in") ?_)))) | fail
  k_with "mine.item" => first | ((k_here; (with_reducible show wpAny _ _ (subscriptTail _ _ (Value.str _ _) (Value.int _ _)) _ _ _); k_dflt (first
    | (refine item_seg (by assumption) (by assumption) 0 (by omega) (by rfl) ?_)
    | (refine item_seg (by assumption) (by assumption) 1 (by omega) (by rfl) ?_)
    | (refine item_seg (by assumption) (by assumption) 2 (by omega) (by rfl) ?_)
    | (refine item_seg (by assumption) (by assumption) 3 (by omega) (by rfl) ?_)))) | fail
  k_with "subscriptTail" => first | (walk_at "mine.item") | fail
  k_with "subscriptTail Name Name str int" => first | (walk_at "mine.item") | fail
  k_with "call type:int" => first | ((k_here; k_dflt (refine call_hex (by assumption) ?_))) | fail
  k_with "mine.if" => first | ((simp only [S_inj, List.cons.injEq, and_true, Bool.or_eq_false_iff, decide_eq_false_iff_not]; omega)) | fail
  k_with "ite" => first | ((k_here; k_openite; (refine ite_isFalse (by walk_at "mine.if") ?_))) | fail
  k_with "mine.seg" => first | (first
    | ((case q1 => assumption); (case q0 => omega))
    | ((case q1 => exact seg_tail (by assumption)); (case q0 => omega))
    | ((case q1 => exact seg_tail (seg_tail (by assumption))); (case q0 => omega))
    | ((case q1 => exact seg_tail (seg_tail (seg_tail (by assumption)))); (case q0 => omega))) | fail
  k_with "call ref" => first | ((k_here; k_dflt (refine' Ct.use (done_spec _ _ _ _ _ _ _ _ _ _ ?q2) ?k1 ?k2 ?k3 ?k4 ?k5 ?kK ?kd ?ku ?_; (case k4 => assumption); (case k1 => k_asm); (case k2 => k_asm); (case k3 => k_asm); (case k5 => k_asm); (case kK => first | exact rfl | assumption); (case kd => ktr_room); (case ku => ktr_units); (case q2 => assumption); (rintro r9 nw9 h9 tk9 ⟨e8, e9⟩ F9 N9; subst e8; subst e9)))) | fail
  k_with "call ref" => first | ((k_here; k_dflt (refine' Ct.use (take_spec _ _ _ _ _ _ _ _ _ _ _ _ ?q0 ?q3 ?q4 ?q1 ?q2) ?k1 ?k2 ?k3 ?k4 ?k5 ?kK ?kd ?ku ?_; (case k4 => assumption); (case k1 => k_asm); (case k2 => k_asm); (case k3 => k_asm); (case k5 => k_asm); (case kK => first | exact rfl | assumption); (case kd => ktr_room); (case ku => ktr_units); (case q2 => assumption); walk_at "mine.seg"; (case q3 => k_all); (case q4 => assumption); (rintro r9 nw9 h9 tk9 ⟨k9, d9, t9, e7, e8, e9⟩ F9 N9; subst e8; subst e9)))) | fail
  k_with "call ref" => first | ((k_here; k_dflt (refine' Ct.use (peek_spec _ _ _ _ _ _ _ _ _ _ _ _ ?q0 ?q1 ?q2) ?k1 ?k2 ?k3 ?k4 ?k5 ?kK ?kd ?ku ?_; (case k4 => assumption); (case k1 => k_asm); (case k2 => k_asm); (case k3 => k_asm); (case k5 => k_asm); (case kK => first | exact rfl | assumption); (case kd => ktr_room); (case ku => ktr_units); (case q2 => assumption); walk_at "mine.seg"; (rintro r9 nw9 h9 tk9 ⟨⟨t9, e8⟩, e9⟩ F9 N9; subst e8; subst e9)))) | fail
  k_with "call ref" => first | ((k_here; k_dflt (refine' Ct.use (peek1_spec _ _ _ _ _ _ _ _ _ _ _ _ _ _ ?q0 ?q1 ?q2) ?k1 ?k2 ?k3 ?k4 ?k5 ?kK ?kd ?ku ?_; (case k4 => assumption); (case k1 => k_asm); (case k2 => k_asm); (case k3 => k_asm); (case k5 => k_asm); (case kK => first | exact rfl | assumption); (case kd => ktr_room); (case ku => ktr_units); (case q2 => assumption); walk_at "mine.seg"; (rintro r9 nw9 h9 tk9 ⟨⟨t9, e8⟩, e9⟩ F9 N9; subst e8; subst e9)))) | fail
  k_with "exec While BoolOp" => first | ((k_here; refine hold ?_)) | fail
  have hfill : PySem.Challenge.rw_qd0056_01.name = PySem.Challenge.rw_qd0056_01.name ∧ Mine.hd0.heap_1 = Mine.hd0.heap_1 := by
    w_top off; k_fill; exact ⟨rfl, rfl⟩
  clear hfill
  intro dp un gd cn cs a ccd cl outer A₀ base h₀ L m s Q E B F X N T hk hd hun hret
  refine wpAny_call ?_
  k_dflt cell_enter
  have hlen := hs.len
  simp only [List.length_cons, List.length_nil] at hlen
  k_steps
  unfold Held
  k_dflt (refine whl_start 3 ?_)
  k_dflt (refine' whl_turn ?hE ?_; (case hE => first | passes_own | with_unfolding_all passes_own))
  k_steps
  refine' hret _ _ _ _ ?p1 ?f1 ?n1
  (case f1 => assumption)
  (case n1 => assumption)
  (case p1 =>
    refine ⟨_, _, _, ?_, congrArg (Value.str · _) ?_, rfl⟩
    · omega
    · show S [((0 * 16 + (u : Int)) * 16 + (v : Int)).toNat] = _
      rw [show ((0 * 16 + (u : Int)) * 16 + (v : Int)).toNat = 16 * u + v by omega])
end
section
open PySem PySem.W PySem.Spec PySem.Calls PyProof.Rows

theorem news_rot {h₀ h : Heap} {L : Addr} {p q r : Addr × Obj} {rest : List (Addr × Obj)} (N : News h₀ L h (p :: q :: r :: rest)) : News h₀ L h (q :: r :: p :: rest) := fun z hz => N z (by
  rcases List.mem_cons.mp hz with rfl | hz
  · exact .tail _ (.head _)
  rcases List.mem_cons.mp hz with rfl | hz
  · exact .tail _ (.tail _ (.head _))
  rcases List.mem_cons.mp hz with rfl | hz
  · exact .head _
  · exact .tail _ (.tail _ (.tail _ hz)))
theorem mem_drop3 {p q r : Addr × Obj} {rest : List (Addr × Obj)} : ∀ z ∈ p :: q :: rest, z ∈ p :: q :: r :: rest := fun z hz => by
  rcases List.mem_cons.mp hz with rfl | hz
  · exact .head _
  rcases List.mem_cons.mp hz with rfl | hz
  · exact .tail _ (.head _)
  · exact .tail _ (.tail _ (.tail _ hz))
theorem seg_drop2 {T : Str} {i : Nat} {a b : Nat} {r : List Nat} (h : Seg T i (a :: b :: r)) : Seg T (i + 2) r := by
  constructor
  · have := h.len
    simp only [List.length_cons] at this
    omega
  · intro j c hc
    have := h.at_ (j + 2) c (by simpa using hc)
    rw [show i + (j + 2) = i + 2 + j by omega] at this
    exact this
theorem quoted_spec {prog : Program} {w : World} {p : Program} {loose : List Str} {mean : ExcName → Option Value} {mg mb : Str → Option Value} (x dx : Addr) (rest : List (Addr × Obj)) (l tail : List Nat) (e : Nat) (te ta tb tc td : Tok)
   (hr : ∀ q ∈ rest, q.1 ≠ dx) (hx : @LT.lt Nat _ dx x) (hl2 : l.length ≤ 100) (ht : tail = [] ∨ ∃ more, tail = e :: more) (ht2 : tail.length ≤ 100) (he : e ≠ 92) :
   Ct prog w (Mine.hd0.heap_1 w.params) p loose mean mg mb 144 [.ref x, .str (S [e]) te] ((x, instObj 147 dx) :: (dx, curD w.params (S (lay e l ++ tail)) ta tb tc 0 td) :: rest) 6
     (fun r news' => ∃ i d', news' = (x, instObj 147 dx) :: (dx, curD w.params (S (lay e l ++ tail)) ta tb tc i d') :: rest ∧ ((tail = [] ∧ r = .none) ∨ (tail ≠ [] ∧ i = ((lay e l).length : Int) + 1 ∧ ∃ t, r = .str (S l) t))) := by
  k_with_none
  k_with "mine.use" => first | ((
    (case k1 => k_asm); (case k2 => k_asm); (case k3 => k_asm); (case k4 => k_asm); (case k5 => k_asm); (case kK => first | exact rfl | assumption); (case kd => ktr_room); (case ku => ktr_units))) | fail
  k_with "mine.clean" => first | ((
    (repeat (rename Fr _ _ _ _ => hh; clear hh)); (repeat (rename News _ _ _ _ => hh; clear hh)); (repeat (rename Below _ _ _ _ => hh; clear hh)); (repeat (rename Top _ _ _ _ _ _ => hh; clear hh)); (repeat (rename Frag.In _ _ => hh; clear hh)))) | fail
  k_with "mine.ne" => first | ((simp only [lit_nl, lit_tab, lit_x, lit_bs, lit_e, S_inj, ne_eq, List.cons.injEq, and_true, reduceCtorEq, not_false_eq_true, not_true_eq_false] <;> omega)) | fail
  k_with "mine.eq" => first | (first | rfl | (simp only [lit_nl, lit_tab, lit_x, lit_bs, lit_e, S_inj, List.cons.injEq, and_true] <;> omega)) | fail
  k_with "mine.in" => first | (first | exact hxd_in (by assumption) | exact hxd_inl (by assumption) | decide | (simp only [List.mem_cons, List.not_mem_nil, or_false]; omega)) | fail
  k_with "mine.lit" => first | (first | exact lit_oct | exact lit_hexs | exact lit_hexl) | fail
  k_with "compareOp Eq str str" => first | ((k_here; k_dflt (first | (refine eq_ff (by walk_at "mine.ne") ?_) | (refine eq_tt (by walk_at "mine.eq") ?_)))) | fail
  k_with "compareOp NotEq str str" => first | ((k_here; k_dflt (first | (refine ne_tt (by walk_at "mine.ne") ?_) | (refine ne_ff (by walk_at "mine.eq") ?_)))) | fail
  k_with "compareOp In str str" => first | ((k_here; k_dflt (first | (refine in_tt _ (by walk_at "mine.lit") (by walk_at "mine.in") ?_) | (refine in_ff _ (by walk_at "mine.lit") (by walk_at "mine.in") ?_)))) | fail
  k_with "mine.item" => first | ((k_here; (with_reducible show wpAny _ _ (subscriptTail _ _ (Value.str _ _) (Value.int _ _)) _ _ _); k_dflt (first
    | (refine item_seg (by assumption) (by assumption) 0 (by omega) (by rfl) ?_)
    | (refine item_seg (by assumption) (by assumption) 1 (by omega) (by rfl) ?_)
    | (refine item_seg (by assumption) (by assumption) 2 (by omega) (by rfl) ?_)
    | (refine item_seg (by assumption) (by assumption) 3 (by omega) (by rfl) ?_)))) | fail
  k_with "subscriptTail" => first | (walk_at "mine.item") | fail
  k_with "subscriptTail Name Name str int" => first | (walk_at "mine.item") | fail
  k_with "call type:int" => first | ((k_here; k_dflt (refine call_hex (by assumption) ?_))) | fail
  k_with "mine.if" => first | ((simp only [S_inj, List.cons.injEq, and_true, Bool.or_eq_false_iff, decide_eq_false_iff_not]; omega)) | fail
  k_with "ite" => first | ((k_here; k_openite; (refine ite_isFalse (by walk_at "mine.if") ?_))) | fail
  k_with "mine.seg" => first | (first
    | ((case q1 => assumption); (case q0 => omega))
    | ((case q1 => exact seg_tail (by assumption)); (case q0 => omega))
    | ((case q1 => exact seg_tail (seg_tail (by assumption))); (case q0 => omega))
    | ((case q1 => exact seg_tail (seg_tail (seg_tail (by assumption)))); (case q0 => omega))) | fail
  k_with "call ref" => first | ((k_here; k_dflt (refine' Ct.use (done_spec _ _ _ _ _ _ _ _ _ _ ?q2) ?k1 ?k2 ?k3 ?k4 ?k5 ?kK ?kd ?ku ?_; (case k4 => assumption); (case k1 => k_asm); (case k2 => k_asm); (case k3 => k_asm); (case k5 => k_asm); (case kK => first | exact rfl | assumption); (case kd => ktr_room); (case ku => ktr_units); (case q2 => assumption); (rintro r9 nw9 h9 tk9 ⟨e8, e9⟩ F9 N9; subst e8; subst e9)))) | fail
  k_with "call ref" => first | ((k_here; k_dflt (refine' Ct.use (take_spec _ _ _ _ _ _ _ _ _ _ _ _ ?q0 ?q3 ?q4 ?q1 ?q2) ?k1 ?k2 ?k3 ?k4 ?k5 ?kK ?kd ?ku ?_; (case k4 => assumption); (case k1 => k_asm); (case k2 => k_asm); (case k3 => k_asm); (case k5 => k_asm); (case kK => first | exact rfl | assumption); (case kd => ktr_room); (case ku => ktr_units); (case q2 => assumption); walk_at "mine.seg"; (case q3 => k_all); (case q4 => assumption); (rintro r9 nw9 h9 tk9 ⟨k9, d9, t9, e7, e8, e9⟩ F9 N9; subst e8; subst e9)))) | fail
  k_with "call ref" => first | ((k_here; k_dflt (refine' Ct.use (peek_spec _ _ _ _ _ _ _ _ _ _ _ _ ?q0 ?q1 ?q2) ?k1 ?k2 ?k3 ?k4 ?k5 ?kK ?kd ?ku ?_; (case k4 => assumption); (case k1 => k_asm); (case k2 => k_asm); (case k3 => k_asm); (case k5 => k_asm); (case kK => first | exact rfl | assumption); (case kd => ktr_room); (case ku => ktr_units); (case q2 => assumption); walk_at "mine.seg"; (rintro r9 nw9 h9 tk9 ⟨⟨t9, e8⟩, e9⟩ F9 N9; subst e8; subst e9)))) | fail
  k_with "call ref" => first | ((k_here; k_dflt (refine' Ct.use (peek1_spec _ _ _ _ _ _ _ _ _ _ _ _ _ _ ?q0 ?q1 ?q2) ?k1 ?k2 ?k3 ?k4 ?k5 ?kK ?kd ?ku ?_; (case k4 => assumption); (case k1 => k_asm); (case k2 => k_asm); (case k3 => k_asm); (case k5 => k_asm); (case kK => first | exact rfl | assumption); (case kd => ktr_room); (case ku => ktr_units); (case q2 => assumption); walk_at "mine.seg"; (rintro r9 nw9 h9 tk9 ⟨⟨t9, e8⟩, e9⟩ F9 N9; subst e8; subst e9)))) | fail
  k_with "KswEnd" => first | ((refine hold ?_)) | fail
  k_with "exec While UnaryOp" => first | ((k_here; refine hold ?_)) | fail
  k_with "call ref" => first | ((k_here; (show wpAny _ _ (PySem.call (Value.ref 130) _ _) _ _ _); refine hold ?_)) | fail
  have hfill : PySem.Challenge.rw_qd0056_01.name = PySem.Challenge.rw_qd0056_01.name ∧ Mine.hd0.heap_1 = Mine.hd0.heap_1 := by
    w_top off; k_fill; exact ⟨rfl, rfl⟩
  clear hfill
  intro dp un gd cn cs a ccd cl outer A₀ base h₀ L m s Q E B F X N T hk hd hu hret
  refine wpAny_call ?_
  k_dflt cell_enter
  k_steps
  obtain ⟨sg, hsg⟩ := get_sg (by assumption : News _ _ _ (_ :: (x, _) :: _))
  subst hsg
  unfold Held
  have hTn : (S (lay e l ++ tail)).length ≤ 16777216 := by
    have := lay_len e l
    simp [Str.length]; omega
  generalize hT : S (lay e l ++ tail) = T at *
  refine ksw_while (σ := List Nat × List Nat × List Value × Nat × Tok × Int)
    (fun c => (x, instObj 147 dx) :: (dx, curD w.params T ta tb tc c.2.2.2.2.2 c.2.2.2.2.1) :: (sg, listOf c.2.2.1.toArray c.2.2.2.1) :: rest)
    (fun _ => []) (fun _ => True) [Str.ofString "sign"] (fun c => l = c.1 ++ c.2.1 ∧ StrsAre c.2.2.1 (c.1.map fun z => S [z]) ∧ c.2.2.2.2.2 = ((lay e c.1).length : Int)) (fun c => c.2.1.length) ([], l, [], 0, td, 0) (by assumption) (news_rot (by assumption)) trivial (by simp) ⟨by simp, .nil, by simp [lay]⟩ ?_
  rintro ⟨done, todo, items, cnt, td', ai⟩ u h tk _ ⟨hl, hi, hai⟩ F2 N2
  dsimp only at hl hi N2 hai
  have hils : items.length = done.length := by simpa using hi.length
  cases todo with
  | nil =>
    have hdone : done = l := by simpa using hl.symm
    subst hdone
    rcases ht with ht | ⟨more, ht⟩
    · have hTlen : T.length = (lay e done).length := by rw [← hT, ht]; simp [Str.length]
      k_steps
      rename News _ _ _ _ => nE'
      replace nE' := cb_drop nE' mem_drop3
      refine' hret _ _ _ _ ?p1 ?f1 ?n1
      (case f1 => assumption)
      (case n1 => exact nE')
      (case p1 => exact ⟨_, _, rfl, .inl ⟨ht, rfl⟩⟩)
    · have hok : ((done.map (fun c => S [c])).map (·.length)).sum + (done.map (fun c => S [c])).length * (Str.ofString "").length ≤ 16777216 := by
        rw [sum_ones, lit_e]; simp [Str.length]; omega
      have hsg := seg_mid (lay e done) [e] more
      have hTc : T = S (lay e done ++ [e] ++ more) := by rw [← hT, ht]; simp
      rw [← hTc] at hsg
      have hlen := hsg.len
      simp only [List.length_cons, List.length_nil] at hlen
      k_steps
      refine join_list (items := items.toArray) ⟨_, (News.get (by assumption) (.tail _ (.tail _ (.head _)))), rfl, _, rfl⟩ hi hok ?_
      intro t' k'
      (try dsimp only)
      k_steps
      rename News _ _ _ _ => nE'
      replace nE' := cb_drop nE' mem_drop3
      refine' hret _ _ _ _ ?p1 ?f1 ?n1
      (case f1 => assumption)
      (case n1 => exact nE')
      (case p1 =>
        refine ⟨_, _, rfl, .inr ⟨by rw [ht]; simp, by omega, _, congrArg (Value.str · _) ?_⟩⟩
        show Builtin.Str.glued _ _ = _
        rw [StrLaws.glued_eq_join, lit_e, join_ones])
  | cons c todo =>
    have hTc : T = S (lay e done ++ esc e c ++ (lay e todo ++ tail)) := by
      rw [← hT, hl, lay_append, lay_cons]; simp
    have hsg := seg_mid (lay e done) (esc e c) (lay e todo ++ tail)
    rw [← hTc] at hsg
    have hlen := hsg.len
    have hdl : done.length < 100 := by rw [hl, List.length_append, List.length_cons] at hl2; omega
    have hnx : (lay e (done ++ [c])).length = (lay e done).length + (esc e c).length := by rw [lay_append, List.length_append]; simp [lay]
    generalize hi0 : (lay e done).length = i at *
    rcases esc_cases e c with ⟨h1, h2, h3⟩ | ⟨h1, h2⟩ | ⟨h1, h2⟩ | ⟨h1, h2, h3, h4, h5, h6⟩ | ⟨h1, h2⟩
    all_goals (rw [h1] at hsg hlen hnx; simp only [List.length_cons, List.length_nil] at hlen hnx)
    · -- A
      k_steps
      unfold Held
      rename News _ _ _ _ => nE'
      simp only [List.push_toArray] at nE'
      refine ksw_end (done ++ [c], todo, items ++ [.str (S [c]) _], _, _, _) (by assumption) nE' (fun _ hp => hp) trivial (by simp) ?g2 ⟨?g3, ?g4, ?g5⟩ ?g6
      case g2 =>
        intro z _ h3
        simp only [List.contains_cons, List.contains_nil, Bool.or_false, beq_eq_false_iff_ne, ne_eq] at h3
        simp [kstB, h3]
      case g3 => simp [hl]
      case g4 => rw [List.map_append]; exact strs_snoc hi
      case g5 => dsimp only; rw [hnx]; omega
      case g6 => simp
    · -- B
      have hlc := lit_nl
      rw [← h2] at hlc
      k_steps
      unfold Held
      rename News _ _ _ _ => nE'
      simp only [List.push_toArray] at nE'
      rw [hlc] at nE'
      refine ksw_end (done ++ [c], todo, items ++ [.str (S [c]) _], _, _, _) (by assumption) nE' (fun _ hp => hp) trivial (by simp) ?g2 ⟨?g3, ?g4, ?g5⟩ ?g6
      case g2 =>
        intro z _ h3
        simp only [List.contains_cons, List.contains_nil, Bool.or_false, beq_eq_false_iff_ne, ne_eq] at h3
        simp [kstB, h3]
      case g3 => simp [hl]
      case g4 => rw [List.map_append]; exact strs_snoc hi
      case g5 => dsimp only; rw [hnx]; omega
      case g6 => simp
    · -- T
      have hlc := lit_tab
      rw [← h2] at hlc
      k_steps
      unfold Held
      rename News _ _ _ _ => nE'
      simp only [List.push_toArray] at nE'
      rw [hlc] at nE'
      refine ksw_end (done ++ [c], todo, items ++ [.str (S [c]) _], _, _, _) (by assumption) nE' (fun _ hp => hp) trivial (by simp) ?g2 ⟨?g3, ?g4, ?g5⟩ ?g6
      case g2 =>
        intro z _ h3
        simp only [List.contains_cons, List.contains_nil, Bool.or_false, beq_eq_false_iff_ne, ne_eq] at h3
        simp [kstB, h3]
      case g3 => simp [hl]
      case g4 => rw [List.map_append]; exact strs_snoc hi
      case g5 => dsimp only; rw [hnx]; omega
      case g6 => simp
    · -- C
      k_steps
      unfold Held
      rename News _ _ _ _ => nE'
      simp only [List.push_toArray] at nE'
      refine ksw_end (done ++ [c], todo, items ++ [.str (S [c]) _], _, _, _) (by assumption) nE' (fun _ hp => hp) trivial (by simp) ?g2 ⟨?g3, ?g4, ?g5⟩ ?g6
      case g2 =>
        intro z _ h3
        simp only [List.contains_cons, List.contains_nil, Bool.or_false, beq_eq_false_iff_ne, ne_eq] at h3
        simp [kstB, h3]
      case g3 => simp [hl]
      case g4 => rw [List.map_append]; exact strs_snoc hi
      case g5 => dsimp only; rw [hnx]; omega
      case g6 => simp
    · -- D
      have hp : c / 16 < 16 := by omega
      have hq : c % 16 < 16 := by omega
      k_steps
      unfold Held
      refine' Ct.use (coded_spec (rest := _ :: _) _ _ _ _ _ _ _ _ _ _ _ _ _ _ ?q0 ?q1 ?q2 ?q3 ?q4 ?q5 ?q6) ?k1 ?k2 ?k3 ?k4 ?k5 ?kK ?kd ?ku ?_
      (case k4 => assumption)
      (case q5 => exact seg_drop2 (by assumption))
      (case q0 => omega)
      (case q1 => first | k_all | fail)
      (case q2 => assumption)
      (case q3 => assumption)
      (case q4 => assumption)
      (case q6 => assumption)
      (case k1 => k_asm)
      (case k2 => k_asm)
      (case k3 => k_asm)
      (case k5 => k_asm)
      (case kK => first | exact rfl | assumption)
      (case kd => ktr_room)
      (case ku => ktr_units)
      rintro r9 nw9 h9 tk9 ⟨k9, d9, t9, e7, e8, e9⟩ F9 N9
      subst e8; subst e9
      have hcc : 16 * (c / 16) + c % 16 = c := by omega
      rw [hcc]
      k_steps
      unfold Held
      rename News _ _ _ _ => nE'
      simp only [List.push_toArray] at nE'
      refine ksw_end (done ++ [c], todo, items ++ [.str (S [c]) _], _, _, _) (by assumption) nE' (fun _ hp => hp) trivial (by simp) ?g2 ⟨?g3, ?g4, ?g5⟩ ?g6
      case g2 =>
        intro z _ h3
        simp only [List.contains_cons, List.contains_nil, Bool.or_false, beq_eq_false_iff_ne, ne_eq] at h3
        simp [kstB, h3]
      case g3 => simp [hl]
      case g4 => rw [List.map_append]; exact strs_snoc hi
      case g5 => dsimp only; rw [hnx]; omega
      case g6 => simp
end
section
open PySem PySem.W PySem.Spec PySem.Calls PyProof.Rows
theorem lower_all : ∀ k : Nat, k < 16 → Txt.lower (S [hxd k]) = S [hxd k] := by decide +kernel
theorem find_all : ∀ k : Nat, k < 16 → Txt.find (Str.ofString "0123456789abcdef") (S [hxd k]) = (k : Int) := by decide +kernel
theorem lit_hexsl : Txt.slice (Str.ofString "0123456789abcdef") none (some 16) = S [48, 49, 50, 51, 52, 53, 54, 55, 56, 57, 97, 98, 99, 100, 101, 102] := by decide +kernel
section
variable {prog : Program} {w : World} {A : Around} {E : Value → Shared → Prop} {s : Shared} {Q : Value → Shared → Prop} {T : Str} {t u : Tok} {k : Nat}
theorem lower_hex (hk : k < 16) (h : Q (.str (S [hxd k]) s.toks) { s with toks := s.toks + 1 }) : wpAny (model prog w) A (call (.builtin "str.lower") [.str (S [hxd k]) t]) Q E s :=
  SCL.lower (by simp [Str.length]) (fun _ => by rw [lower_all k hk]; exact h)
theorem index_hex (hA : A.handled = none) (hk : k < 16) (h : Q (.int (k : Int) s.toks) { s with toks := s.toks + 1 }) : wpAny (model prog w) A (call (.builtin "str.index") [.str (Str.ofString "0123456789abcdef") t, .str (S [hxd k]) u]) Q E s :=
  index_or hA (fun e => by rw [find_all k hk] at e; omega) (fun _ _ => by rw [find_all k hk]; exact h)
theorem slice_seg {value slice : Expr} {i c : Nat} {cs : List Nat} {k k2 : Int} {h₀ : Heap} {L : Addr} {m : Str → Option Value} {news : List (Addr × Obj)} {ui uj : Tok} (hs : Seg T i cs) (hn : T.length ≤ 16777216) (j : Nat) (hk : k = ((i + j : Nat) : Int)) (hk2 : k2 = k + 1) (hc : cs[j]? = some c)
    (F : Fr h₀ L s.heap m) (N : News h₀ L s.heap news) (h : ∀ h' t' tk', Fr h₀ L h' m → News h₀ L h' news → Q (.str (S [c]) t') { s with heap := h', toks := tk' })
    (hsl : subscripted slice false (.str T t) (.ref s.heap.objs.size) = operate [.ref s.heap.objs.size, .str T t] (getItem (.str T t) (.ref s.heap.objs.size)) := by with_unfolding_all rfl)
    (ht : ∀ r, letTemporaryGo value (.str T t) r = pure () := by intro _; with_unfolding_all rfl) :
    wpAny (model prog w) A (subscriptTail value slice (.str T t) (.ref s.heap.objs.size)) Q E { s with heap := s.heap.push { cls := .type "slice", data := .fields #[.int k ui, .int k2 uj, .none] } } := by
  have hj : j < cs.length := by
    rcases Nat.lt_or_ge j cs.length with h' | h'
    · exact h'
    · rw [List.getElem?_eq_none h'] at hc; cases hc
  have hl := hs.len
  have hat := hs.at_ j c hc
  have e : Txt.slice T (some k) (some k2) = S [c] := by
    subst hk2
    have h1 := slice_one_closes (x := T) (n := k) (by omega) (by omega)
    rw [beq_iff_eq] at h1
    rw [h1]
    have : T.cps.getD k.toNat 0 = c := by
      rw [Array.getD_eq_getD_getElem?, show k.toNat = i + j by omega, hat]; rfl
    rw [this]
  exact slice_strN_ss F N (fun h' t' tk' a b => by rw [e]; exact h h' t' tk' a b) hsl ht (by rw [sizeLine_eq]; exact hn)
end
theorem same_one (c d : Nat) : Spec.same (PyData.str (S [c])) (PyData.str (S [d])) = decide (c = d) := by
  show (S [c] == S [d]) = _
  exact S_beq c d
theorem lit_n : Str.ofString "n" = S [110] := by decide +kernel
theorem lit_t : Str.ofString "t" = S [116] := by decide +kernel
theorem lit_r : Str.ofString "r" = S [114] := by decide +kernel
theorem lit_f : Str.ofString "f" = S [102] := by decide +kernel
theorem lit_v : Str.ofString "v" = S [118] := by decide +kernel
theorem lit_a : Str.ofString "a" = S [97] := by decide +kernel
theorem lit_b : Str.ofString "b" = S [98] := by decide +kernel
section
variable {t1 t2 t3 t4 t5 t6 t7 u1 u2 u3 u4 u5 u6 u7 : Tok} {m : Nat}
theorem plain_look : (Spec.lookup (PyData.str (S [m])) (strData [(.str (Str.ofString "n") t1, .int 10 u1), (.str (Str.ofString "t") t2, .int 9 u2), (.str (Str.ofString "r") t3, .int 13 u3), (.str (Str.ofString "f") t4, .int 12 u4),
    (.str (Str.ofString "v") t5, .int 11 u5), (.str (Str.ofString "a") t6, .int 7 u6), (.str (Str.ofString "b") t7, .int 8 u7)])).isSome = decide (m = 110 ∨ m = 116 ∨ m = 114 ∨ m = 102 ∨ m = 118 ∨ m = 97 ∨ m = 98) := by
  simp only [strData, Spec.lookup, lit_n, lit_t, lit_r, lit_f, lit_v, lit_a, lit_b, same_one, decide_eq_true_eq]
  by_cases h : m = 110 ∨ m = 116 ∨ m = 114 ∨ m = 102 ∨ m = 118 ∨ m = 97 ∨ m = 98
  · rw [decide_eq_true h]
    rcases h with h | h | h | h | h | h | h <;> subst h <;> rfl
  · rw [decide_eq_false h]
    (repeat' split) <;> first | rfl | (exfalso; omega)
theorem plain_ff (h : ¬ (m = 110 ∨ m = 116 ∨ m = 114 ∨ m = 102 ∨ m = 118 ∨ m = 97 ∨ m = 98)) : (Spec.lookup (PyData.str (S [m])) (strData [(.str (Str.ofString "n") t1, .int 10 u1), (.str (Str.ofString "t") t2, .int 9 u2), (.str (Str.ofString "r") t3, .int 13 u3), (.str (Str.ofString "f") t4, .int 12 u4),
    (.str (Str.ofString "v") t5, .int 11 u5), (.str (Str.ofString "a") t6, .int 7 u6), (.str (Str.ofString "b") t7, .int 8 u7)])).isSome = false := by rw [plain_look, decide_eq_false h]
theorem plain_tt (h : m = 110 ∨ m = 116 ∨ m = 114 ∨ m = 102 ∨ m = 118 ∨ m = 97 ∨ m = 98) : (Spec.lookup (PyData.str (S [m])) (strData [(.str (Str.ofString "n") t1, .int 10 u1), (.str (Str.ofString "t") t2, .int 9 u2), (.str (Str.ofString "r") t3, .int 13 u3), (.str (Str.ofString "f") t4, .int 12 u4),
    (.str (Str.ofString "v") t5, .int 11 u5), (.str (Str.ofString "a") t6, .int 7 u6), (.str (Str.ofString "b") t7, .int 8 u7)])).isSome = true := by rw [plain_look, decide_eq_true h]
end
end
section
open PySem PySem.W PySem.Spec PySem.Calls PyProof.Rows

theorem news_first {h₀ h : Heap} {L : Addr} {p a b c : Addr × Obj} {news : List (Addr × Obj)} (N : News h₀ L h (p :: a :: b :: c :: news)) : News h₀ L h (p :: news) :=
  fun z hz => N z (by
    rcases List.mem_cons.mp hz with rfl | hz
    · exact .head _
    · exact .tail _ (.tail _ (.tail _ (.tail _ hz))))
theorem lcode_spec {prog : Program} {w : World} {p : Program} {loose : List Str} {mean : ExcName → Option Value} {mg mb : Str → Option Value} (news : List (Addr × Obj)) (T : Str) (i u v : Nat) (k : Int) (tl ta tm tn : Tok)
   (hk0 : k = (i : Int)) (hu : u < 16) (hv : v < 16) (hs : Seg T i [hxd u, hxd v]) (hn : T.length ≤ 16777216) :
   Ct prog w (Mine.hd0.heap_1 w.params) p loose mean mg mb 199 [.str T tl, .int k ta, .int 2 tm, .int 16 tn] news 2
     (fun r news' => ∃ tp t1 t2 k' c', k' = (i : Int) + 2 ∧ c' = ((16 * u + v : Nat) : Int) ∧ r = .ref tp ∧ news' = (tp, { cls := .type "tuple", data := .seq #[.int c' t1, .int k' t2] }) :: news) := by
  k_with_none
  k_with "mine.use" => first | ((
    (case k1 => k_asm); (case k2 => k_asm); (case k3 => k_asm); (case k4 => k_asm); (case k5 => k_asm); (case kK => first | exact rfl | assumption); (case kd => ktr_room); (case ku => ktr_units))) | fail
  k_with "mine.clean" => first | ((
    (repeat (rename Fr _ _ _ _ => hh; clear hh)); (repeat (rename News _ _ _ _ => hh; clear hh)); (repeat (rename Below _ _ _ _ => hh; clear hh)); (repeat (rename Top _ _ _ _ _ _ => hh; clear hh)); (repeat (rename Frag.In _ _ => hh; clear hh)))) | fail
  k_with "mine.ne" => first | ((simp only [lit_nl, lit_tab, lit_x, lit_bs, lit_e, S_inj, ne_eq, List.cons.injEq, and_true, reduceCtorEq, not_false_eq_true, not_true_eq_false] <;> omega)) | fail
  k_with "mine.eq" => first | (first | rfl | (simp only [lit_nl, lit_tab, lit_x, lit_bs, lit_e, S_inj, List.cons.injEq, and_true] <;> omega)) | fail
  k_with "mine.in" => first | (first | exact hxd_in (by assumption) | exact hxd_inl (by assumption) | decide | (simp only [List.mem_cons, List.not_mem_nil, or_false]; omega)) | fail
  k_with "mine.lit" => first | (first | exact lit_oct | exact lit_hexs | exact lit_hexl | exact lit_hexsl) | fail
  k_with "compareOp Eq str str" => first | ((k_here; k_dflt (first | (refine eq_ff (by walk_at "mine.ne") ?_) | (refine eq_tt (by walk_at "mine.eq") ?_)))) | fail
  k_with "compareOp NotEq str str" => first | ((k_here; k_dflt (first | (refine ne_tt (by walk_at "mine.ne") ?_) | (refine ne_ff (by walk_at "mine.eq") ?_)))) | fail
  k_with "compareOp In str str" => first | ((k_here; k_dflt (first | (refine in_tt _ (by walk_at "mine.lit") (by walk_at "mine.in") ?_) | (refine in_ff _ (by walk_at "mine.lit") (by walk_at "mine.in") ?_)))) | fail
  k_with "mine.item" => first | ((k_here; (with_reducible show wpAny _ _ (subscriptTail _ _ (Value.str _ _) (Value.int _ _)) _ _ _); k_dflt (first
    | (refine item_seg (by assumption) (by assumption) 0 (by omega) (by rfl) ?_)
    | (refine item_seg (by assumption) (by assumption) 1 (by omega) (by rfl) ?_)
    | (refine item_seg (by assumption) (by assumption) 2 (by omega) (by rfl) ?_)
    | (refine item_seg (by assumption) (by assumption) 3 (by omega) (by rfl) ?_)))) | fail
  k_with "subscriptTail" => first | (walk_at "mine.item") | fail
  k_with "subscriptTail Name Name str int" => first | (walk_at "mine.item") | fail
  k_with "call type:int" => first | ((k_here; k_dflt (refine call_hex (by assumption) ?_))) | fail
  k_with "mine.if" => first | ((simp only [S_inj, List.cons.injEq, and_true, Bool.or_eq_false_iff, decide_eq_false_iff_not]; omega)) | fail
  k_with "ite" => first | ((k_here; k_openite; (refine ite_isFalse (by walk_at "mine.if") ?_))) | fail
  k_with "call builtin:str.lower" => first | ((k_here; k_dflt (refine lower_hex (by assumption) ?_))) | fail
  k_with "call builtin:str.index" => first | ((k_here; k_dflt (refine index_hex (by rfl) (by assumption) ?_))) | fail
  k_with "subscriptTail Name Slice str ref" => first | ((k_here; (with_reducible show wpAny _ _ (subscriptTail _ (Expr.Slice (some _) (some _) none _) (Value.str _ _) (Value.ref _)) _ _ _); (rename Fr _ _ _ _ => F'); (rename News _ _ _ _ => N'); k_dflt (first
    | (refine slice_seg (s := ⟨_, _, _, _, _⟩) (by assumption) (by assumption) 0 (by omega) (by omega) (by rfl) F' N' ?_; intro _ _ _ _ _)
    | (refine slice_seg (s := ⟨_, _, _, _, _⟩) (by assumption) (by assumption) 1 (by omega) (by omega) (by rfl) F' N' ?_; intro _ _ _ _ _)
    | (refine slice_seg (s := ⟨_, _, _, _, _⟩) (by assumption) (by assumption) 2 (by omega) (by omega) (by rfl) F' N' ?_; intro _ _ _ _ _)))) | fail
  k_with "exec While BoolOp" => first | ((k_here; refine hold ?_)) | fail
  have hfill : PySem.Challenge.rw_qd0056_01.name = PySem.Challenge.rw_qd0056_01.name ∧ Mine.hd0.heap_1 = Mine.hd0.heap_1 := by
    w_top off; k_fill; exact ⟨rfl, rfl⟩
  clear hfill
  intro dp un gd cn cs a ccd cl outer A₀ base h₀ L m s Q E B F X N T hk hd hun hret
  refine wpAny_call ?_
  k_dflt cell_enter
  have hlen := hs.len
  simp only [List.length_cons, List.length_nil] at hlen
  k_steps
  unfold Held
  k_dflt (refine whl_start 3 ?_)
  k_dflt (refine' whl_turn ?hE ?_; (case hE => first | passes_own | with_unfolding_all passes_own))
  k_steps
  refine' hret _ _ _ _ ?p1 ?f1 (news_first (news := news) (by assumption))
  (case f1 => assumption)
  (case p1 => exact ⟨_, _, _, _, _, by omega, by omega, rfl, rfl⟩)
end
section
open PySem PySem.W PySem.Spec PySem.Calls PyProof.Rows

theorem seg_drop2' {T : Str} {i : Nat} {a b : Nat} {r : List Nat} (h : Seg T i (a :: b :: r)) : Seg T (i + 2) r := by
  constructor
  · have := h.len
    simp only [List.length_cons] at this
    omega
  · intro j c hc
    have := h.at_ (j + 2) c (by simpa using hc)
    rw [show i + (j + 2) = i + 2 + j by omega] at this
    exact this
theorem read_spec {prog : Program} {w : World} {p : Program} {loose : List Str} {mean : ExcName → Option Value} {mg mb : Str → Option Value} (news : List (Addr × Obj)) (l : List Nat) (e : Nat) (tl te : Tok)
   (hl2 : l.length ≤ 100) (he : e ≠ 92) :
   Ct prog w (Mine.hd0.heap_1 w.params) p loose mean mg mb 206 [.str (S (lay e l)) tl, .str (S [e]) te] news 4
     (fun r news' => (∃ t, r = .str (S l) t) ∧ news' = news) := by
  k_with_none
  k_with "mine.use" => first | ((
    (case k1 => k_asm); (case k2 => k_asm); (case k3 => k_asm); (case k4 => k_asm); (case k5 => k_asm); (case kK => first | exact rfl | assumption); (case kd => ktr_room); (case ku => ktr_units))) | fail
  k_with "mine.clean" => first | ((
    (repeat (rename Fr _ _ _ _ => hh; clear hh)); (repeat (rename News _ _ _ _ => hh; clear hh)); (repeat (rename Below _ _ _ _ => hh; clear hh)); (repeat (rename Top _ _ _ _ _ _ => hh; clear hh)); (repeat (rename Frag.In _ _ => hh; clear hh)))) | fail
  k_with "mine.ne" => first | ((simp only [lit_nl, lit_tab, lit_x, lit_bs, lit_e, S_inj, ne_eq, List.cons.injEq, and_true, reduceCtorEq, not_false_eq_true, not_true_eq_false] <;> omega)) | fail
  k_with "mine.eq" => first | (first | rfl | (simp only [lit_nl, lit_tab, lit_x, lit_bs, lit_e, S_inj, List.cons.injEq, and_true] <;> omega)) | fail
  k_with "mine.in" => first | (first | exact hxd_in (by assumption) | exact hxd_inl (by assumption) | decide | (simp only [List.mem_cons, List.not_mem_nil, or_false]; omega)) | fail
  k_with "mine.lit" => first | (first | exact lit_oct | exact lit_hexs | exact lit_hexl | exact lit_hexsl) | fail
  k_with "compareOp Eq str str" => first | ((k_here; k_dflt (first | (refine eq_ff (by walk_at "mine.ne") ?_) | (refine eq_tt (by walk_at "mine.eq") ?_)))) | fail
  k_with "compareOp NotEq str str" => first | ((k_here; k_dflt (first | (refine ne_tt (by walk_at "mine.ne") ?_) | (refine ne_ff (by walk_at "mine.eq") ?_)))) | fail
  k_with "compareOp In str str" => first | ((k_here; k_dflt (first | (refine in_tt _ (by walk_at "mine.lit") (by walk_at "mine.in") ?_) | (refine in_ff _ (by walk_at "mine.lit") (by walk_at "mine.in") ?_)))) | fail
  k_with "mine.item" => first | ((k_here; (with_reducible show wpAny _ _ (subscriptTail _ _ (Value.str _ _) (Value.int _ _)) _ _ _); k_dflt (first
    | (refine item_seg (by assumption) (by assumption) 0 (by omega) (by rfl) ?_)
    | (refine item_seg (by assumption) (by assumption) 1 (by omega) (by rfl) ?_)
    | (refine item_seg (by assumption) (by assumption) 2 (by omega) (by rfl) ?_)
    | (refine item_seg (by assumption) (by assumption) 3 (by omega) (by rfl) ?_)))) | fail
  k_with "subscriptTail" => first | (walk_at "mine.item") | fail
  k_with "subscriptTail Name Name str int" => first | (walk_at "mine.item") | fail
  k_with "call type:int" => first | ((k_here; k_dflt (refine call_hex (by assumption) ?_))) | fail
  k_with "mine.if" => first | ((simp only [S_inj, List.cons.injEq, and_true, Bool.or_eq_false_iff, decide_eq_false_iff_not]; omega)) | fail
  k_with "ite" => first | ((k_here; k_openite; (refine ite_isFalse (by walk_at "mine.if") ?_))) | fail
  k_with "call builtin:str.lower" => first | ((k_here; k_dflt (refine lower_hex (by assumption) ?_))) | fail
  k_with "call builtin:str.index" => first | ((k_here; k_dflt (refine index_hex (by rfl) (by assumption) ?_))) | fail
  k_with "subscriptTail Name Slice str ref" => first | ((k_here; (with_reducible show wpAny _ _ (subscriptTail _ (Expr.Slice (some _) (some _) none _) (Value.str _ _) (Value.ref _)) _ _ _); (rename Fr _ _ _ _ => F'); (rename News _ _ _ _ => N'); k_dflt (first
    | (refine slice_seg (s := ⟨_, _, _, _, _⟩) (by assumption) (by assumption) 0 (by omega) (by omega) (by rfl) F' N' ?_; intro _ _ _ _ _)
    | (refine slice_seg (s := ⟨_, _, _, _, _⟩) (by assumption) (by assumption) 1 (by omega) (by omega) (by rfl) F' N' ?_; intro _ _ _ _ _)
    | (refine slice_seg (s := ⟨_, _, _, _, _⟩) (by assumption) (by assumption) 2 (by omega) (by omega) (by rfl) F' N' ?_; intro _ _ _ _ _)))) | fail
  k_with "KswEnd" => first | ((refine hold ?_)) | fail
  k_with "ite" => first | ((k_here; k_openite; k_dflt (first | (refine ite_isFalse (plain_ff (by omega)) ?_) | (refine ite_pos (plain_tt (by omega)) ?_)))) | fail
  k_with "exec While Compare" => first | ((k_here; refine hold ?_)) | fail
  k_with "call ref" => first | ((k_here; (show wpAny _ _ (PySem.call (Value.ref 199) _ _) _ _ _); refine hold ?_)) | fail
  have hfill : PySem.Challenge.rw_qd0056_01.name = PySem.Challenge.rw_qd0056_01.name ∧ Mine.hd0.heap_1 = Mine.hd0.heap_1 := by
    w_top off; k_fill; exact ⟨rfl, rfl⟩
  clear hfill
  intro dp un gd cn cs a ccd cl outer A₀ base h₀ L m s Q E B F X N T hk hd hu hret
  refine wpAny_call ?_
  k_dflt cell_enter
  k_steps
  unfold Held
  have hTn : (S (lay e l)).length ≤ 16777216 := by
    have := lay_len e l
    simp [Str.length]; omega
  generalize hT : S (lay e l) = T at *
  refine ksw_while (σ := List Nat × List Nat × Str × Tok × Tok × Int)
    (fun _ => news)
    (fun c => [(Str.ofString "found", .str c.2.2.1 c.2.2.2.1), (Str.ofString "at", .int c.2.2.2.2.2 c.2.2.2.2.1)]) (fun _ => True) [Str.ofString "sign", Str.ofString "mark", Str.ofString "code"] (fun c => l = c.1 ++ c.2.1 ∧ c.2.2.1 = S c.1 ∧ c.2.2.2.2.2 = ((lay e c.1).length : Int)) (fun c => c.2.1.length) ([], l, _, _, _, _) (by assumption) (fun p hp => (by assumption : News _ _ _ _) p (by first | exact hp | exact .tail _ hp)) trivial
    (List.forall_mem_cons.mpr ⟨by with_unfolding_all rfl, List.forall_mem_cons.mpr ⟨by with_unfolding_all rfl, List.forall_mem_nil _⟩⟩) ⟨by simp, lit_e, by simp [lay]⟩ ?_
  rintro ⟨done, todo, fs, tf, tt, ai⟩ u h tk _ ⟨hl, hi, hai⟩ F2 N2
  dsimp only at hl hi hai F2 N2
  have hfl : fs.length = done.length := by rw [hi]; simp [Str.length]
  cases todo with
  | nil =>
    have hdone : done = l := by simpa using hl.symm
    have hTlen : T.length = (lay e done).length := by rw [← hT, hdone]; simp [Str.length]
    k_steps
    refine' hret _ _ _ _ ?p1 ?f1 ?n1
    (case f1 => assumption)
    (case n1 => assumption)
    (case p1 => exact ⟨⟨_, by rw [hi, hdone]⟩, rfl⟩)
  | cons c todo =>
    have hTc : T = S (lay e done ++ esc e c ++ lay e todo) := by
      rw [← hT, hl, lay_append, lay_cons]; simp
    have hsg := seg_mid (lay e done) (esc e c) (lay e todo)
    rw [← hTc] at hsg
    have hlen := hsg.len
    have hdl : done.length < 100 := by rw [hl, List.length_append, List.length_cons] at hl2; omega
    have hnx : (lay e (done ++ [c])).length = (lay e done).length + (esc e c).length := by rw [lay_append, List.length_append]; simp [lay]
    have hfx : fs ++ S [c] = S (done ++ [c]) := by rw [hi, S_append]
    generalize hi0 : (lay e done).length = i at *
    rcases esc_cases e c with ⟨h1, h2, h3⟩ | ⟨h1, h2⟩ | ⟨h1, h2⟩ | ⟨h1, h2, h3, h4, h5, h6⟩ | ⟨h1, h2⟩
    all_goals (rw [h1] at hsg hlen hnx; simp only [List.length_cons, List.length_nil] at hlen hnx)
    · -- A
      k_steps
      unfold Held
      rename News _ _ _ _ => nE'
      refine ksw_end (done ++ [c], todo, _, _, _, _) (by assumption) nE' (by intro p hp; repeat (first | exact hp | refine List.Mem.tail _ ?_)) trivial (List.forall_mem_cons.mpr ⟨by with_unfolding_all rfl, List.forall_mem_cons.mpr ⟨by with_unfolding_all rfl, List.forall_mem_nil _⟩⟩) ?g2 ⟨?g3, ?g4, ?g5⟩ ?g6
      case g2 =>
        intro z hz h3
        simp only [List.forall_mem_cons, List.not_mem_nil, false_implies, implies_true, and_true, ne_eq] at hz
        simp only [List.contains_cons, List.contains_nil, Bool.or_false, Bool.or_eq_false_iff, beq_eq_false_iff_ne, ne_eq] at h3
        simp [kstB, hz, h3]
      case g3 => simp [hl]
      case g4 => exact hfx
      case g5 => dsimp only; rw [hnx]; omega
      case g6 => simp
    · -- B
      have hlc := lit_nl
      rw [← h2] at hlc
      k_steps
      unfold Held
      rename News _ _ _ _ => nE'
      refine ksw_end (done ++ [c], todo, _, _, _, _) (by assumption) nE' (by intro p hp; repeat (first | exact hp | refine List.Mem.tail _ ?_)) trivial (List.forall_mem_cons.mpr ⟨by with_unfolding_all rfl, List.forall_mem_cons.mpr ⟨by with_unfolding_all rfl, List.forall_mem_nil _⟩⟩) ?g2 ⟨?g3, ?g4, ?g5⟩ ?g6
      case g2 =>
        intro z hz h3
        simp only [List.forall_mem_cons, List.not_mem_nil, false_implies, implies_true, and_true, ne_eq] at hz
        simp only [List.contains_cons, List.contains_nil, Bool.or_false, Bool.or_eq_false_iff, beq_eq_false_iff_ne, ne_eq] at h3
        simp [kstB, hz, h3]
      case g3 => simp [hl]
      case g4 => dsimp only; rw [hlc]; exact hfx
      case g5 => dsimp only; rw [hnx]; omega
      case g6 => simp
    · -- T
      have hlc := lit_tab
      rw [← h2] at hlc
      k_steps
      unfold Held
      rename News _ _ _ _ => nE'
      refine ksw_end (done ++ [c], todo, _, _, _, _) (by assumption) nE' (by intro p hp; repeat (first | exact hp | refine List.Mem.tail _ ?_)) trivial (List.forall_mem_cons.mpr ⟨by with_unfolding_all rfl, List.forall_mem_cons.mpr ⟨by with_unfolding_all rfl, List.forall_mem_nil _⟩⟩) ?g2 ⟨?g3, ?g4, ?g5⟩ ?g6
      case g2 =>
        intro z hz h3
        simp only [List.forall_mem_cons, List.not_mem_nil, false_implies, implies_true, and_true, ne_eq] at hz
        simp only [List.contains_cons, List.contains_nil, Bool.or_false, Bool.or_eq_false_iff, beq_eq_false_iff_ne, ne_eq] at h3
        simp [kstB, hz, h3]
      case g3 => simp [hl]
      case g4 => dsimp only; rw [hlc]; exact hfx
      case g5 => dsimp only; rw [hnx]; omega
      case g6 => simp
    · -- C
      k_steps
      unfold Held
      rename News _ _ _ _ => nE'
      refine ksw_end (done ++ [c], todo, _, _, _, _) (by assumption) nE' (by intro p hp; repeat (first | exact hp | refine List.Mem.tail _ ?_)) trivial (List.forall_mem_cons.mpr ⟨by with_unfolding_all rfl, List.forall_mem_cons.mpr ⟨by with_unfolding_all rfl, List.forall_mem_nil _⟩⟩) ?g2 ⟨?g3, ?g4, ?g5⟩ ?g6
      case g2 =>
        intro z hz h3
        simp only [List.forall_mem_cons, List.not_mem_nil, false_implies, implies_true, and_true, ne_eq] at hz
        simp only [List.contains_cons, List.contains_nil, Bool.or_false, Bool.or_eq_false_iff, beq_eq_false_iff_ne, ne_eq] at h3
        simp [kstB, hz, h3]
      case g3 => simp [hl]
      case g4 => exact hfx
      case g5 => dsimp only; rw [hnx]; omega
      case g6 => simp
    · -- D
      have hp : c / 16 < 16 := by omega
      have hq : c % 16 < 16 := by omega
      k_steps
      unfold Held
      refine' Ct.use (lcode_spec _ _ _ _ _ _ _ _ _ _ ?q0 ?q3 ?q4 ?q5 ?q6) ?k1 ?k2 ?k3 ?k4 ?k5 ?kK ?kd ?ku ?_
      (case k4 => assumption)
      (case q5 => exact seg_drop2' (by assumption))
      (case q0 => omega)
      (case q3 => assumption)
      (case q4 => assumption)
      (case q6 => assumption)
      (case k1 => k_asm)
      (case k2 => k_asm)
      (case k3 => k_asm)
      (case k5 => k_asm)
      (case kK => first | exact rfl | assumption)
      (case kd => ktr_room)
      (case ku => ktr_units)
      rintro r9 nw9 h9 tk9 ⟨tp, t1, t2, k9, c9, e5, e6, e7, e8⟩ F9 N9
      subst e7; subst e8
      have hcc : 16 * (c / 16) + c % 16 = c := by omega
      rw [hcc] at e6
      k_steps
      unfold Held
      rename News _ _ _ _ => nE'
      refine ksw_end (done ++ [c], todo, _, _, _, _) (by assumption) nE' (by intro p hp; repeat (first | exact hp | refine List.Mem.tail _ ?_)) trivial (List.forall_mem_cons.mpr ⟨by with_unfolding_all rfl, List.forall_mem_cons.mpr ⟨by with_unfolding_all rfl, List.forall_mem_nil _⟩⟩) ?g2 ⟨?g3, ?g4, ?g5⟩ ?g6
      case g2 =>
        intro z hz h3
        simp only [List.forall_mem_cons, List.not_mem_nil, false_implies, implies_true, and_true, ne_eq] at hz
        simp only [List.contains_cons, List.contains_nil, Bool.or_false, Bool.or_eq_false_iff, beq_eq_false_iff_ne, ne_eq] at h3
        simp [kstB, hz, h3]
      case g3 => simp [hl]
      case g4 => dsimp only; rw [e6]; exact hfx
      case g5 => dsimp only; rw [hnx]; omega
      case g6 => simp
end
section
open PySem PySem.W PySem.Spec PySem.Calls PyProof.Rows

theorem quoted_none {prog : Program} {w : World} {p : Program} {loose : List Str} {mean : ExcName → Option Value} {mg mb : Str → Option Value} (x dx : Addr) (rest : List (Addr × Obj)) (l : List Nat) (e : Nat) (T : Str) (te ta tb tc td : Tok)
   (hT : T = S (lay e l)) (hr : ∀ q ∈ rest, q.1 ≠ dx) (hx : @LT.lt Nat _ dx x) (hl2 : l.length ≤ 100) (he : e ≠ 92) :
   Ct prog w (Mine.hd0.heap_1 w.params) p loose mean mg mb 144 [.ref x, .str (S [e]) te] ((x, instObj 147 dx) :: (dx, curD w.params T ta tb tc 0 td) :: rest) 6
     (fun r news' => ∃ i d', r = .none ∧ news' = (x, instObj 147 dx) :: (dx, curD w.params T ta tb tc i d') :: rest) := by
  have h := quoted_spec (prog := prog) (w := w) (p := p) (loose := loose) (mean := mean) (mg := mg) (mb := mb) x dx rest l [] e te ta tb tc td hr hx hl2 (.inl rfl) (by simp) he
  rw [List.append_nil, ← hT] at h
  intro dp un gd cn cs a ccd cl outer A₀ base h₀ L m s Q E B F X N Tp hk hd hu hret
  refine h _ _ _ _ _ _ _ _ _ _ _ _ _ _ _ _ _ B F X N Tp hk hd hu (fun r news' h' tk' P F' N' => hret r news' h' tk' ?_ F' N')
  obtain ⟨i, d', h1, h2 | h2⟩ := P
  · exact ⟨i, d', h2.2, h1⟩
  · exact absurd rfl h2.1
theorem quoted_some {prog : Program} {w : World} {p : Program} {loose : List Str} {mean : ExcName → Option Value} {mg mb : Str → Option Value} (x dx : Addr) (rest : List (Addr × Obj)) (l rs : List Nat) (e : Nat) (T : Str) (te ta tb tc td : Tok)
   (hT : T = S (lay e l ++ e :: rs)) (hr : ∀ q ∈ rest, q.1 ≠ dx) (hx : @LT.lt Nat _ dx x) (hl2 : l.length ≤ 100) (hrs : rs.length ≤ 50) (he : e ≠ 92) :
   Ct prog w (Mine.hd0.heap_1 w.params) p loose mean mg mb 144 [.ref x, .str (S [e]) te] ((x, instObj 147 dx) :: (dx, curD w.params T ta tb tc 0 td) :: rest) 6
     (fun r news' => ∃ k d' t, k = ((S (lay e l)).length : Int) + 1 ∧ r = .str (S l) t ∧ news' = (x, instObj 147 dx) :: (dx, curD w.params T ta tb tc k d') :: rest) := by
  have h := quoted_spec (prog := prog) (w := w) (p := p) (loose := loose) (mean := mean) (mg := mg) (mb := mb) x dx rest l (e :: rs) e te ta tb tc td hr hx hl2 (.inr ⟨rs, rfl⟩) (by simp only [List.length_cons]; omega) he
  rw [← hT] at h
  intro dp un gd cn cs a ccd cl outer A₀ base h₀ L m s Q E B F X N Tp hk hd hu hret
  refine h _ _ _ _ _ _ _ _ _ _ _ _ _ _ _ _ _ B F X N Tp hk hd hu (fun r news' h' tk' P F' N' => hret r news' h' tk' ?_ F' N')
  obtain ⟨i, d', h1, h2 | h2⟩ := P
  · cases h2.1
  · obtain ⟨t, h3⟩ := h2.2.2
    exact ⟨i, d', t, h2.2.1, h3, h1⟩
theorem cat3 (e : Nat) (l rs : List Nat) : S (lay e l) ++ S [e] ++ S rs = S (lay e l ++ e :: rs) := by rw [S_append, S_append]; simp
theorem right_spec {prog : Program} {w : World} {p : Program} {loose : List Str} {mean : ExcName → Option Value} {mg mb : Str → Option Value} (news : List (Addr × Obj)) (l rs : List Nat) (e : Nat) (tt te tr : Tok)
   (hl : ∀ c ∈ l, c < 1114112) (hl2 : l.length ≤ 50) (hrs : rs.length ≤ 50) (he : e < 256) (he2 : e ≠ 92) :
   Ct prog w (Mine.hd0.heap_1 w.params) p loose mean mg mb 213 [.str (S l) tt, .str (S [e]) te, .str (S rs) tr] news 9
     (fun r news' => r = .bool true ∧ news' = news) := by
  k_with_none
  k_with "mine.use" => first | ((
    (case k1 => k_asm); (case k2 => k_asm); (case k3 => k_asm); (case k4 => k_asm); (case k5 => k_asm); (case kK => first | exact rfl | assumption); (case kd => ktr_room); (case ku => ktr_units))) | fail
  k_with "mine.clean" => first | ((
    (repeat (rename Fr _ _ _ _ => hh; clear hh)); (repeat (rename News _ _ _ _ => hh; clear hh)); (repeat (rename Below _ _ _ _ => hh; clear hh)); (repeat (rename Top _ _ _ _ _ _ => hh; clear hh)); (repeat (rename Frag.In _ _ => hh; clear hh)))) | fail
  k_with "mine.ne" => first | ((simp only [lit_nl, lit_tab, lit_x, lit_bs, lit_e, S_inj, ne_eq, List.cons.injEq, and_true, reduceCtorEq, not_false_eq_true, not_true_eq_false] <;> omega)) | fail
  k_with "mine.eq" => first | (first | rfl | (simp only [lit_nl, lit_tab, lit_x, lit_bs, lit_e, S_inj, List.cons.injEq, and_true] <;> omega)) | fail
  k_with "mine.in" => first | (first | exact hxd_in (by assumption) | exact hxd_inl (by assumption) | decide | (simp only [List.mem_cons, List.not_mem_nil, or_false]; omega)) | fail
  k_with "mine.lit" => first | (first | exact lit_oct | exact lit_hexs | exact lit_hexl | exact lit_hexsl) | fail
  k_with "compareOp Eq str str" => first | ((k_here; k_dflt (first | (refine eq_ff (by walk_at "mine.ne") ?_) | (refine eq_tt (by walk_at "mine.eq") ?_)))) | fail
  k_with "compareOp NotEq str str" => first | ((k_here; k_dflt (first | (refine ne_tt (by walk_at "mine.ne") ?_) | (refine ne_ff (by walk_at "mine.eq") ?_)))) | fail
  k_with "compareOp In str str" => first | ((k_here; k_dflt (first | (refine in_tt _ (by walk_at "mine.lit") (by walk_at "mine.in") ?_) | (refine in_ff _ (by walk_at "mine.lit") (by walk_at "mine.in") ?_)))) | fail
  k_with "mine.item" => first | ((k_here; (with_reducible show wpAny _ _ (subscriptTail _ _ (Value.str _ _) (Value.int _ _)) _ _ _); k_dflt (first
    | (refine item_seg (by assumption) (by assumption) 0 (by omega) (by rfl) ?_)
    | (refine item_seg (by assumption) (by assumption) 1 (by omega) (by rfl) ?_)
    | (refine item_seg (by assumption) (by assumption) 2 (by omega) (by rfl) ?_)
    | (refine item_seg (by assumption) (by assumption) 3 (by omega) (by rfl) ?_)))) | fail
  k_with "subscriptTail" => first | (walk_at "mine.item") | fail
  k_with "subscriptTail Name Name str int" => first | (walk_at "mine.item") | fail
  k_with "call type:int" => first | ((k_here; k_dflt (refine call_hex (by assumption) ?_))) | fail
  k_with "mine.if" => first | ((simp only [S_inj, List.cons.injEq, and_true, Bool.or_eq_false_iff, decide_eq_false_iff_not]; omega)) | fail
  k_with "ite" => first | ((k_here; k_openite; (refine ite_isFalse (by walk_at "mine.if") ?_))) | fail
  k_with "call ref" => first | ((k_here; k_dflt (refine' Ct.use (escaped_spec _ _ _ _ _ ?q1 ?q2 ?q3) ?k1 ?k2 ?k3 ?k4 ?k5 ?kK ?kd ?ku ?_; (case q1 => assumption); (case q2 => omega); (case q3 => assumption); (case k1 => k_asm); (case k2 => k_asm); (case k3 => k_asm); (case k4 => k_asm); (case k5 => k_asm); (case kK => first | exact rfl | assumption); (case kd => ktr_room); (case ku => ktr_units); (rintro r9 nw9 h9 tk9 ⟨⟨t9, e9⟩, e8⟩ F9 N9; subst e9; subst e8)))) | fail
  k_with "call ref" => first | ((k_here; k_dflt (refine' Ct.use (read_spec _ _ _ _ _ ?q1 ?q2) ?k1 ?k2 ?k3 ?k4 ?k5 ?kK ?kd ?ku ?_; (case q1 => omega); (case q2 => assumption); (case k1 => k_asm); (case k2 => k_asm); (case k3 => k_asm); (case k4 => k_asm); (case k5 => k_asm); (case kK => first | exact rfl | assumption); (case kd => ktr_room); (case ku => ktr_units); (rintro r9 nw9 h9 tk9 ⟨⟨t9, e9⟩, e8⟩ F9 N9; subst e9; subst e8)))) | fail
  k_with "call ref" => first | ((k_here; k_dflt (refine' Ct.use (quoted_none _ _ _ _ _ _ _ _ _ _ _ ?q0 ?q1 ?q2 ?q3 ?q4) ?k1 ?k2 ?k3 ?k4 ?k5 ?kK ?kd ?ku ?_; (case k4 => k_asm); (case q0 => exact rfl); (case q1 => k_all); (case q2 => assumption); (case q3 => omega); (case q4 => assumption); (case k1 => k_asm); (case k2 => k_asm); (case k3 => k_asm); (case k5 => k_asm); (case kK => first | exact rfl | assumption); (case kd => ktr_room); (case ku => ktr_units); (rintro r9 nw9 h9 tk9 ⟨i9, d9, e8, e9⟩ F9 N9; subst e8; subst e9)))) | fail
  k_with "call ref" => first | ((k_here; k_dflt (refine' Ct.use (quoted_some _ _ _ _ _ _ _ _ _ _ _ _ ?q0 ?q1 ?q2 ?q3 ?q5 ?q4) ?k1 ?k2 ?k3 ?k4 ?k5 ?kK ?kd ?ku ?_; (case k4 => k_asm); (case q0 => exact cat3 _ _ _); (case q1 => k_all); (case q2 => assumption); (case q3 => omega); (case q5 => omega); (case q4 => assumption); (case k1 => k_asm); (case k2 => k_asm); (case k3 => k_asm); (case k5 => k_asm); (case kK => first | exact rfl | assumption); (case kd => ktr_room); (case ku => ktr_units); (rintro r9 nw9 h9 tk9 ⟨k9, d9, t9, e7, e8, e9⟩ F9 N9; subst e8; subst e9)))) | fail
  k_with "pyIter ref" => first | ((k_here; refine hold ?_)) | fail
  have hfill : PySem.Challenge.rw_qd0056_01.name = PySem.Challenge.rw_qd0056_01.name ∧ Mine.hd0.heap_1 = Mine.hd0.heap_1 := by
    w_top off; k_fill; exact ⟨rfl, rfl⟩
  clear hfill
  intro dp un gd cn cs a ccd cl outer A₀ base h₀ L m s Q E B F X N T hk hd hu hret
  refine wpAny_call ?_
  k_dflt cell_enter
  have hL1 : (S (lay e l)).length ≤ 200 := by
    have := lay_len e l
    simp [Str.length]; omega
  have hL4 : (S (lay e l)).length = (lay e l).length := by simp [Str.length]
  have hL2 : (S [e]).length = 1 := rfl
  have hL3 : (S rs).length ≤ 50 := by simp [Str.length]; omega
  k_steps
  · exfalso; omega
  unfold Held
  k_search (fun _ => True)
  all_goals k_steps
  refine' hret _ _ _ _ ⟨rfl, rfl⟩ ?f1 ?n1
  (case f1 => assumption)
  (case n1 => exact cb_drop (by assumption) (fun p hp => .tail _ (.tail _ (.tail _ (.tail _ hp)))))
end
section
open PySem PySem.W PySem.Spec PySem.Calls PyProof.Rows

/-- what right asks of its texts, as a look -/
def okText (x : Str) : Bool := decide (x.cps.toList.length ≤ 50) && x.cps.toList.all (fun c => decide (c < 1114112))
def okEnd (x : Str) : Bool := match x.cps.toList with
  | [e] => decide (e < 256) && decide (e ≠ 92)
  | _ => false
theorem right_of {prog : Program} {w : World} {p : Program} {loose : List Str} {mean : ExcName → Option Value} {mg mb : Str → Option Value} (news : List (Addr × Obj)) (x y z : Str) (tt te tr : Tok) (hx : okText x = true) (hy : okEnd y = true) (hz : okText z = true) :
   Ct prog w (Mine.hd0.heap_1 w.params) p loose mean mg mb 213 [.str x tt, .str y te, .str z tr] news 9
     (fun r news' => r = .bool true ∧ news' = news) := by
  obtain ⟨⟨l⟩⟩ := x
  obtain ⟨⟨ys⟩⟩ := y
  obtain ⟨⟨rs⟩⟩ := z
  unfold okEnd at hy
  split at hy
  · rename_i e he
    simp only at he
    subst he
    simp only [Bool.and_eq_true, decide_eq_true_eq] at hy
    unfold okText at hx hz
    simp only [Bool.and_eq_true, decide_eq_true_eq, List.all_eq_true] at hx hz
    exact right_spec news l rs e tt te tr hx.2 hx.1 hz.1 hy.1 hy.2
  · cases hy
end
section
open PySem PySem.W PySem.Spec PySem.Calls PyProof.Rows

/-- a contract of a def that reads a list of the frames below -/
def CtL (prog : Program) (w : World) (K : Frag) (p : Program) (loose : List Str) (mean : ExcName → Option Value) (mg mb : Str → Option Value) (f : Addr) (vs : List Value) (sl : Addr) (its : List Value) (news : List (Addr × Obj)) (dd : Nat) (Post : Value → List (Addr × Obj) → Prop) : Prop :=
  ∀ (dp un : Nat) (gd : Option (List Code)) (cn : Str) (cs : Scope) (a : Addr) (ccd : Value) (cl : List (Str × Addr)) (outer : List Env) (A₀ : Around) (base h₀ : Heap) (L : Addr) (m : Str → Option Value) (s : Shared) (Q E : Value → Shared → Prop),
    Below A₀ base outer h₀ → Fr h₀ L s.heap m → K.In h₀ → News h₀ L s.heap news → Top p loose mean mg mb h₀ → cs.kind = .function →
    dp + dd < recursionLimit → un + 8 * dd < cLine → base.IsList sl its.toArray →
    (∀ r news' h' tk', Post r news' → Fr h₀ L h' m → News h₀ L h' news' → Q r { s with heap := h', toks := tk' }) →
    wpAny (model prog w) (ktrTop dp un gd cn cs L a ccd cl outer) (call (.ref f) vs) Q E s
theorem CtL.use {prog : Program} {w : World} {K : Frag} {p : Program} {loose : List Str} {mean : ExcName → Option Value} {mg mb : Str → Option Value} {f : Addr} {vs : List Value} {sl : Addr} {its : List Value} {news : List (Addr × Obj)} {dd : Nat} {Post : Value → List (Addr × Obj) → Prop}
    {dp un : Nat} {gd : Option (List Code)} {cn : Str} {cs : Scope} {a : Addr} {ccd : Value} {cl : List (Str × Addr)} {outer : List Env} {A₀ : Around} {base h₀ : Heap} {L : Addr} {m : Str → Option Value} {s : Shared} {Q E : Value → Shared → Prop}
    (C : CtL prog w K p loose mean mg mb f vs sl its news dd Post)
    (B : Below A₀ base outer h₀) (F : Fr h₀ L s.heap m) (X : K.In h₀) (N : News h₀ L s.heap news) (T : Top p loose mean mg mb h₀) (hk : cs.kind = .function) (hd : dp + dd < recursionLimit) (hu : un + 8 * dd < cLine) (hl : base.IsList sl its.toArray)
    (ret : ∀ r news' h' tk', Post r news' → Fr h₀ L h' m → News h₀ L h' news' → Q r { s with heap := h', toks := tk' }) :
    wpAny (model prog w) (ktrTop dp un gd cn cs L a ccd cl outer) (call (.ref f) vs) Q E s := C _ _ _ _ _ _ _ _ _ _ _ _ _ _ _ _ _ B F X N T hk hd hu hl ret
def HeldP (P : Prop) : Prop := P
theorem holdP {P : Prop} (h : HeldP P) : P := h
theorem news_first2 {h₀ h : Heap} {L : Addr} {p a b : Addr × Obj} {news : List (Addr × Obj)} (N : News h₀ L h (p :: a :: b :: news)) : News h₀ L h (p :: news) :=
  fun z hz => N z (by
    rcases List.mem_cons.mp hz with rfl | hz
    · exact .head _
    · exact .tail _ (.tail _ (.tail _ hz)))
theorem pen_nonneg {n k : Int} (h : 0 ≤ n) : 0 ≤ n * 1013 + (if k < 0 then -k else k).fmod (10 ^ Int.toNat 40) + 7 * 10 ^ Int.toNat 41 * if decide (k < 0) = true then 1 else 0 := by
  have h10 : (0 : Int) < 10 ^ Int.toNat 40 := Int.pow_pos (by decide)
  have h11 : (0 : Int) < 10 ^ Int.toNat 41 := Int.pow_pos (by decide)
  generalize (10 : Int) ^ Int.toNat 40 = a at *
  generalize (10 : Int) ^ Int.toNat 41 = b at *
  have h1 : 0 ≤ (if k < 0 then -k else k).fmod a := by
    rw [Int.fmod_eq_emod_of_nonneg _ (by omega)]
    exact Int.emod_nonneg _ (by omega)
  generalize (if k < 0 then -k else k).fmod a = c at *
  split <;> omega
theorem pen_spec {prog : Program} {w : World} {p : Program} {loose : List Str} {mean : ExcName → Option Value} {mg mb : Str → Option Value} (news : List (Addr × Obj)) (sl : Addr) (vs : List Value) (ns : List Int) (hi : IntsAre vs ns) (hns : ns.length ≤ 63) :
   CtL prog w (Mine.hd0.heap_1 w.params) p loose mean mg mb 185 [.ref sl] sl vs news 2
     (fun r news' => ∃ pa n c tn tc, r = .ref pa ∧ 0 ≤ n ∧ 0 ≤ c ∧ c ≤ 63 ∧ AllLt pa news ∧ news' = (pa, listOf #[.int n tn, .int c tc] 0) :: news) := by
  k_with_none
  k_with "mine.use" => first | ((
    (case k1 => k_asm); (case k2 => k_asm); (case k3 => k_asm); (case k4 => k_asm); (case k5 => k_asm); (case kK => first | exact rfl | assumption); (case kd => ktr_room); (case ku => ktr_units))) | fail
  k_with "mine.clean" => first | ((
    (repeat (rename Fr _ _ _ _ => hh; clear hh)); (repeat (rename News _ _ _ _ => hh; clear hh)); (repeat (rename Below _ _ _ _ => hh; clear hh)); (repeat (rename Top _ _ _ _ _ _ => hh; clear hh)); (repeat (rename Frag.In _ _ => hh; clear hh)))) | fail
  k_with "pyIter ref" => first | ((k_here; refine holdP ?_)) | fail
  k_with "InvEndN" => first | ((refine holdP ?_)) | fail
  k_with "exec For Name Subscript" => first | ((k_here; (rename Fr _ _ _ _ => lF'); (with_unfolding_all refine' For_invVF lF' ?k1 ?k2 ?_; (case k1 => exact rfl); (case k2 => exact rfl); k_whole))) | fail
  k_with "binaryOp Pow int int" => first | ((k_here; k_dflt (refine pow_int_small (by decide) (by decide) (by decide) ?_))) | fail
  have hfill : PySem.Challenge.rw_qd0056_01.name = PySem.Challenge.rw_qd0056_01.name ∧ Mine.hd0.heap_1 = Mine.hd0.heap_1 := by
    w_top off; k_fill; exact ⟨rfl, rfl⟩
  clear hfill
  intro dp un gd cn cs a ccd cl outer A₀ base h₀ L m s Q E B F X N T hk hd hu hlist hret
  refine wpAny_call ?_
  k_dflt cell_enter
  k_steps
  unfold HeldP
  k_state (fun pre n => 0 ≤ n) "number"
  all_goals k_steps
  · unfold HeldP
    rename News _ _ _ _ => nE'
    refine kst_end ⟨_, _⟩ (by assumption) nE' (fun p hp => (List.mem_cons.mp hp).elim (fun e => e ▸ .head _) fun hp => .tail _ (List.mem_append.mpr (.inl hp))) (fun p hp => .tail _ (List.mem_append.mpr (.inr hp))) (by rfl) trivial (List.forall_mem_cons.mpr ⟨by with_unfolding_all rfl, List.forall_mem_nil _⟩) (by kst_same) ?_
    (try dsimp only)
    exact pen_nonneg kInv
  · refine' hret _ _ _ _ ?p1 ?f1 (news_first2 (by assumption))
    (case f1 => assumption)
    (case p1 =>
      refine ⟨_, _, _, _, _, rfl, ?_, ?_, ?_, ?_, rfl⟩
      · assumption
      · omega
      · omega
      · exact (by assumption : _ ∧ _ ∧ AllLt _ news).2.2)
end
section
open PySem PySem.W PySem.Spec PySem.Calls PyProof.Rows PyProof.Rows.LCg
section
variable {prog : Program} {w : World} {A : Around} {E : Value → Shared → Prop} {s : Shared} {env : Env} {h₀ : Heap} {x : Str} {body : List Stmt} {Q : Flow → Shared → Prop}
/-- a loop over a tuple of the top whose body stores nothing else -/
theorem iter_tup {tp : Addr} {items : Array Value} {m₀ : Str → Option Value} {news : List (Addr × Obj)} (P : Value → Prop) (hP : ∀ (i : Nat) v, items[i]? = some v → P v)
    (hh : A.handled = none) (ht : h₀.IsTuple tp items) (F : Fr h₀ env.locals s.heap m₀) (N : News h₀ env.locals s.heap news)
    (turn : ∀ v (u : Str → Option Value) h tk own, P v → OwnOff own (news.map (·.1)) → Fr h₀ env.locals h (fun y => if y = x then some v else m₀ y) → News h₀ env.locals h (news ++ own) →
      wpAny (model prog w) A (execs body env) (InvPostN h₀ env.locals (fun m nx => nx = news ∧ ∀ z, z ≠ x → m z = m₀ z) own (news.map (·.1)) { s with heap := h, toks := tk } Q) E { s with heap := h, toks := tk })
    (done : ∀ (u : Str → Option Value) h tk, Fr h₀ env.locals h (fun y => if y = x then u y else m₀ y) → News h₀ env.locals h news → Q .next { s with heap := h, toks := tk }) :
    wpAny (model prog w) A (pyIter (.ref tp)) (fun it s₂ => LoopAtV prog w A h₀ env x body Q E it s₂) E s := by
  have hth : s.heap.IsTuple tp items := let ⟨o, ho, r⟩ := ht; ⟨o, F.keep _ _ ho, r⟩
  have hlt : tp < s.heap.objs.size := by obtain ⟨_, e, _⟩ := hth; exact Heap.lt_size e
  have ht0 : ∀ p ∈ news, p.1 ≠ tp := fun p hp e => by
    obtain ⟨o, ho, _⟩ := ht
    have := (N p hp).2.2
    rw [e, ho] at this; cases this
  have htL : tp ≠ env.locals := fun e => by
    obtain ⟨o, ho, _⟩ := ht
    exact absurd (Nat.lt_of_lt_of_le (Heap.lt_size ho) F.above) (by rw [e]; exact Nat.lt_irrefl _)
  refine wpAny_pyIter_tuple hth ?_
  refine loop_invN (fun _ m nx => nx = news ∧ ∀ z, z ≠ x → m z = m₀ z) (Walks.tuple hh s.heap.objs.size tp (Nat.ne_of_lt hlt) items) ?_ ?_ ?_ ?_ ⟨⟨_, Heap.get?_push_size _ rfl, rfl, rfl⟩, let ⟨o, ho, r⟩ := hth; ⟨o, Heap.get?_push_of_some _ ho, r⟩⟩ (F.push _) (fun p hp => ⟨Heap.get?_push_of_some _ (N p hp).1, (N p hp).2⟩) ⟨rfl, fun _ _ => rfl⟩ ?_ ?_
  · intro hm
    rcases List.mem_cons.mp hm with e | hm
    · exact absurd F.ns.lt (e ▸ Nat.lt_irrefl _)
    · exact htL (List.mem_singleton.mp hm).symm
  · intro b hb
    rw [List.mem_singleton.mp hb]
    exact next_is_new F
  · intro p hp hI
    exact absurd (Heap.lt_size (N p hp).1) ((List.mem_singleton.mp hI) ▸ Nat.lt_irrefl _)
  · intro p hp hI
    rcases List.mem_cons.mp hI with e | hI
    · exact absurd (Heap.lt_size (N p hp).1) (e ▸ Nat.lt_irrefl _)
    · exact ht0 p hp (List.mem_singleton.mp hI)
  · rintro i v m₁ nx h tk own hi hv _ hoff ⟨rfl, hm⟩ F₁ N₁
    have em : (fun y => if y = x then some v else m₁ y) = fun y => if y = x then some v else m₀ y := by
      funext y
      by_cases hy : y = x
      · rw [if_pos hy, if_pos hy]
      · rw [if_neg hy, if_neg hy, hm y hy]
    rw [em] at F₁
    exact turn v m₁ h tk own (hP i v hv) hoff F₁ N₁
  · rintro m₁ nx h tk ⟨rfl, hm⟩ F₁ N₁
    have em : m₁ = fun y => if y = x then m₁ y else m₀ y := by
      funext y
      by_cases hy : y = x
      · rw [if_pos hy]
      · rw [if_neg hy, hm y hy]
    rw [em] at F₁
    exact done m₁ h tk F₁ N₁
end
section
variable {prog : Program} {w : World} {A : Around} {E : Value → Shared → Prop} {s : Shared}
theorem item_R {l : Addr} {vs : List Value} (R : Value → Prop) {k : Int} {u : Tok} {value slice : Expr} {Q : Value → Shared → Prop} (hl : s.heap.IsList l vs.toArray) (hR : ∀ v ∈ vs, R v) (h0 : 0 ≤ k) (h1 : k < (vs.length : Int)) (hn : vs.length < 1000) (h : ∀ v, R v → Q v s)
    (hs : subscripted slice false (.ref l) (.int k u) = operate [.ref l, .int k u] (getItem (.ref l) (.int k u)) := by with_unfolding_all rfl) :
    wpAny (model prog w) A (subscriptTail value slice (.ref l) (.int k u)) Q E s := by
  have hk : k.toNat < vs.length := by omega
  exact tail_any hl.typeIs slot_list_getitem.lookup (wpAny_getItem_list hl h0 (by omega) (x := vs[k.toNat]) (by simp [hk]) (h _ (hR _ (List.getElem_mem hk)))) hs
theorem item_tupR {l : Addr} {vs : List Value} (R : Value → Prop) {k : Int} {u : Tok} {value slice : Expr} {Q : Value → Shared → Prop} (hl : IsTup s.heap l vs.toArray) (hR : ∀ v ∈ vs, R v) (h0 : 0 ≤ k) (h1 : k < (vs.length : Int)) (hn : vs.length < 1000) (h : ∀ v, R v → Q v s)
    (hs : subscripted slice false (.ref l) (.int k u) = operate [.ref l, .int k u] (getItem (.ref l) (.int k u)) := by with_unfolding_all rfl) :
    wpAny (model prog w) A (subscriptTail value slice (.ref l) (.int k u)) Q E s := by
  have hk : k.toNat < vs.length := by omega
  refine item_tupleT (x := vs[k.toNat]) (j := k.toNat) hl (by omega) (by omega) ?_ ?_ (h _ (hR _ (List.getElem_mem hk))) hs
  · unfold seqIndex?
    simp only [List.size_toArray]
    have h3 : ¬ k < 0 := by omega
    simp [h3, h1, h0, hk]
  · simp [hk]
end
section
variable {prog : Program} {w : World} {A : Around} {E : Value → Shared → Prop} {s : Shared} {h₀ : Heap} {L : Addr} {m : Str → Option Value} {env : Env}
/-- a comprehension whose turns draw from the pen -/
theorem comp_draws {elt : Expr} {x : Str} {scope : Scope} {cl : List (Str × Addr)} {P : Nat → Value → Prop} {Fin : List Value → List (Addr × Obj) → Prop} (R : Value → Prop) (pa : Addr) (rest : List (Addr × Obj)) (k : Nat)
    (turn : ∀ v I oI C oC D m₂ ys h tk (E' : Value → Shared → Prop) (n c : Int) (tn tc : Tok) (nn : Nat), P ys.length v → 0 ≤ n → 0 ≤ c → c < 9000 → NsObj oC m₂ → m₂ x = some v → Fr h₀ L h m → News h₀ L h ((I, oI) :: (C, oC) :: (D, lst ys) :: (pa, listOf #[.int n tn, .int c tc] nn) :: rest) → Off3 I C D ((pa, listOf #[.int n tn, .int c tc] nn) :: rest) → ((@Ne Nat I C) ∧ (@Ne Nat I D) ∧ (@Ne Nat C D)) →
      wpAny (model prog w) A (eval elt (compEnvC scope cl C env)) (CompEnd h₀ L m { s with heap := h, toks := tk } I oI C oC D (lst ys) (fun _ => True) (fun y news' => R y ∧ ∃ (n' c' : Int) (tn' tc' : Tok) (nn' : Nat), 0 ≤ n' ∧ 0 ≤ c' ∧ c' ≤ c + 1 ∧ news' = (pa, listOf #[.int n' tn', .int c' tc'] nn') :: rest)) E' { s with heap := h, toks := tk })
    (n₀ c₀ : Int) (tn₀ tc₀ : Tok) (nn₀ : Nat) (hn₀ : 0 ≤ n₀) (hc₀ : 0 ≤ c₀) (hck : c₀ + k < 9000)
    (fin : ∀ ys (n c : Int) (tn tc : Tok) (nn : Nat), (∀ y ∈ ys, R y) → ys.length = k → 0 ≤ n → 0 ≤ c → c ≤ c₀ + k → Fin ys ((pa, listOf #[.int n tn, .int c tc] nn) :: rest)) :
    CompRest prog w A h₀ L m env elt x scope cl s (fun _ => True) P Fin k 0 [] ((pa, listOf #[.int n₀ tn₀, .int c₀ tc₀] nn₀) :: rest) := by
  have key : ∀ (j i : Nat) (ys : List Value) (n c : Int) (tn tc : Tok) (nn : Nat), i + j = k → ys.length = i → (∀ y ∈ ys, R y) → 0 ≤ n → 0 ≤ c → c ≤ c₀ + i → CompRest prog w A h₀ L m env elt x scope cl s (fun _ => True) P Fin j i ys ((pa, listOf #[.int n tn, .int c tc] nn) :: rest) := by
    intro j
    induction j with
    | zero =>
      intro i ys n c tn tc nn hi hy hR hn hc hci
      exact CompRest.zero (fin ys n c tn tc nn hR (by omega) hn hc (by omega))
    | succ j ih =>
      intro i ys n c tn tc nn hi hy hR hn hc hci
      refine CompRest.succ ?_
      intro v I oI C oC D m₂ h tk E' hv hC hx F N off ne
      refine wpAny_mono (turn v I oI C oC D m₂ ys h tk E' n c tn tc nn (by rw [hy]; exact hv) hn hc (by omega) hC hx F N off ne) (fun y s₂ hq => ?_) fun _ _ e => e
      obtain ⟨h', tk', nw, e, F', N', off', hS, hRy, n', c', tn', tc', nn', hn', hc', hcc, rfl⟩ := hq
      refine ⟨h', tk', _, e, F', N', off', hS, ?_⟩
      refine ih (i + 1) _ n' c' tn' tc' nn' (by omega) (by simp [hy]) ?_ hn' hc' (by omega)
      intro z hz
      rcases List.mem_append.mp hz with hz | hz
      · exact hR z hz
      · rw [List.mem_singleton.mp hz]; exact hRy
  exact key k 0 [] n₀ c₀ tn₀ tc₀ nn₀ (by omega) rfl (fun _ h => nomatch h) hn₀ hc₀ (by omega)
end
end
section
open PySem PySem.W PySem.Spec PySem.Calls PyProof.Rows PyProof.Rows.LCg
abbrev penO (c : Int × Int × Tok × Tok × Nat × Obj) : Obj := listOf #[.int c.1 c.2.2.1, .int c.2.1 c.2.2.2.1] c.2.2.2.2.1
abbrev LawLed (pa sc pc : Addr) (oP : Obj) : Int × Int × Tok × Tok × Nat × Obj → List (Addr × Obj) := fun c => [(pa, penO c), (sc, c.2.2.2.2.2), (pc, oP)]
def LawP (pre : List Int) (c : Int × Int × Tok × Tok × Nat × Obj) : Prop := 0 ≤ c.1 ∧ 0 ≤ c.2.1 ∧ c.2.1 ≤ 63 + 40 * (pre.length : Int)
def LawF (c : Int × Int × Tok × Tok × Nat × Obj) : Prop := ∃ v, c.2.2.2.2.2.data = .cell v
section
variable {prog : Program} {w : World} {A : Around} {E : Value → Shared → Prop} {s : Shared} {env : Env} {h₀ : Heap} {x : Str} {body : List Stmt} {Q : Flow → Shared → Prop}
theorem law_loop {r : Addr} {t₀ u₀ v₀ : Tok} {m₀ : Str → Option Value} {pa sc pc : Addr} {oP oS : Obj} {n c : Int} {tn tc : Tok} {nn : Nat} {v : Option Value}
    (hh : A.handled = none) (hr : IsRange s.heap r 0 3 1 t₀ u₀ v₀) (F : Fr h₀ env.locals s.heap m₀) (N : News h₀ env.locals s.heap [(pa, listOf #[.int n tn, .int c tc] nn), (sc, oS), (pc, oP)]) (hS : oS.data = .cell v) (hn : 0 ≤ n) (hc : 0 ≤ c) (hc2 : c ≤ 63)
    (turn : ∀ (n c : Int) (tn tc : Tok) (nn : Nat) (oS : Obj) (v : Option Value) (pre : List Int) (k : Int) t (u : Str → Option Value) h tk own, oS.data = .cell v → 0 ≤ n → 0 ≤ c → c ≤ 63 + 40 * (pre.length : Int) → pre.length < 3 → OwnOff own [pa, sc, pc] →
      Fr h₀ env.locals h (fun y => if y = x then some (.int k t) else if ([Str.ofString "end", Str.ofString "text"] : List Str).contains y then u y else m₀ y) → News h₀ env.locals h ((pa, listOf #[.int n tn, .int c tc] nn) :: (sc, oS) :: (pc, oP) :: own) →
      wpAny (model prog w) A (execs body env) (InvPostN h₀ env.locals (KstS (LawLed pa sc pc oP) (fun _ => []) LawF x [Str.ofString "end", Str.ofString "text"] m₀ LawP (pre ++ [k])) own [pa, sc, pc] { s with heap := h, toks := tk } Q) E { s with heap := h, toks := tk })
    (done : ∀ (u : Str → Option Value) h tk nw, Fr h₀ env.locals h u → News h₀ env.locals h nw → Q .next { s with heap := h, toks := tk }) :
    wpAny (model prog w) A (pyIter (.ref r)) (fun it s₂ => LoopAtV prog w A h₀ env x body Q E it s₂) E s := by
  refine kst_range (LawLed pa sc pc oP) (fun _ => []) LawF [Str.ofString "end", Str.ofString "text"] LawP (n, c, tn, tc, nn, oS) hh hr (by decide) (n := 3) (by rfl) F N ⟨v, hS⟩ (fun _ h => nomatch h) ⟨hn, hc, by simpa using hc2⟩ ?_ ?_
  · rintro ⟨n, c, tn, tc, nn, oS⟩ pre k t u h tk own _ hpre hoff ⟨v, hv⟩ ⟨h1, h2, h3⟩ F' N'
    exact turn n c tn tc nn oS v pre k t u h tk own hv h1 h2 h3 hpre hoff F' N'
  · intro c u h tk _ _ F' N'
    exact done _ h tk _ F' N'
end
theorem rot1 {h₀ h : Heap} {L : Addr} {a p : Addr × Obj} {r : List (Addr × Obj)} (N : News h₀ L h (a :: p :: r)) : News h₀ L h (p :: a :: r) := fun z hz => N z (by
  rcases List.mem_cons.mp hz with rfl | hz
  · exact .tail _ (.head _)
  rcases List.mem_cons.mp hz with rfl | hz
  · exact .head _
  · exact .tail _ (.tail _ hz))
theorem rot2 {h₀ h : Heap} {L : Addr} {a b p : Addr × Obj} {r : List (Addr × Obj)} (N : News h₀ L h (a :: b :: p :: r)) : News h₀ L h (p :: a :: b :: r) := fun z hz => N z (by
  rcases List.mem_cons.mp hz with rfl | hz
  · exact .tail _ (.tail _ (.head _))
  rcases List.mem_cons.mp hz with rfl | hz
  · exact .head _
  rcases List.mem_cons.mp hz with rfl | hz
  · exact .tail _ (.head _)
  · exact .tail _ (.tail _ (.tail _ hz)))
theorem rot3 {h₀ h : Heap} {L : Addr} {a b c p : Addr × Obj} {r : List (Addr × Obj)} (N : News h₀ L h (a :: b :: c :: p :: r)) : News h₀ L h (p :: a :: b :: c :: r) := fun z hz => N z (by
  rcases List.mem_cons.mp hz with rfl | hz
  · exact .tail _ (.tail _ (.tail _ (.head _)))
  rcases List.mem_cons.mp hz with rfl | hz
  · exact .head _
  rcases List.mem_cons.mp hz with rfl | hz
  · exact .tail _ (.head _)
  rcases List.mem_cons.mp hz with rfl | hz
  · exact .tail _ (.tail _ (.head _))
  · exact .tail _ (.tail _ (.tail _ (.tail _ hz))))
end
section
open PySem PySem.W PySem.Spec PySem.Calls PyProof.Rows PyProof.Rows.LCg
structure IsEnd (y : Str) : Prop where
  ok : okEnd y = true
def EndV (v : Value) : Prop := ∃ y t, v = .str y t ∧ IsEnd y
theorem endV {y : Str} {t : Tok} (h : okEnd y = true) : EndV (.str y t) := ⟨y, t, rfl, ⟨h⟩⟩
def okSign (x : Str) : Bool := match x.cps.toList with
  | [c] => decide (c < 1114112)
  | _ => false
def SignV (v : Value) : Prop := ∃ y t, v = .str y t ∧ okSign y = true
theorem signV {y : Str} {t : Tok} (h : okSign y = true) : SignV (.str y t) := ⟨y, t, rfl, h⟩
theorem sign_of_end {y : Str} (h' : IsEnd y) : okSign y = true := by
  have h := h'.ok
  unfold okEnd at h
  unfold okSign
  split at h
  · rename_i e he
    try rw [he]
    simp only [Bool.and_eq_true, decide_eq_true_eq] at h ⊢
    omega
  · cases h
theorem sign_of_chr {d : Int} (h1 : d < 256) : okSign ⟨#[d.toNat]⟩ = true := by
  show decide (d.toNat < 1114112) = true
  rw [decide_eq_true_eq]; omega
theorem strs_of_R : ∀ {ys : List Value}, (∀ y ∈ ys, SignV y) → ∃ zs : List Str, StrsAre ys zs ∧ (∀ z ∈ zs, okSign z = true) ∧ zs.length = ys.length
  | [], _ => ⟨[], .nil, (fun _ h => nomatch h), rfl⟩
  | y :: r, h => by
    obtain ⟨zs, h1, h2, h3⟩ := strs_of_R (ys := r) fun z hz => h z (.tail _ hz)
    obtain ⟨z, t, rfl, hz⟩ := h y (.head _)
    refine ⟨z :: zs, .cons z t h1, ?_, by simp [h3]⟩
    intro q hq
    rcases List.mem_cons.mp hq with rfl | hq
    · exact hz
    · exact h2 q hq
theorem sign_S {z : Str} (h : okSign z = true) : ∃ c, z = S [c] ∧ c < 1114112 := by
  obtain ⟨⟨l⟩⟩ := z
  unfold okSign at h
  split at h
  · rename_i c hc
    simp only at hc
    subst hc
    exact ⟨c, rfl, by simpa using h⟩
  · cases h
theorem signs_S : ∀ {zs : List Str}, (∀ z ∈ zs, okSign z = true) → ∃ l : List Nat, zs = l.map (fun c => S [c]) ∧ l.length = zs.length ∧ ∀ c ∈ l, c < 1114112
  | [], _ => ⟨[], rfl, rfl, fun _ h => nomatch h⟩
  | z :: r, h => by
    obtain ⟨l, h1, h2, h3⟩ := signs_S (zs := r) fun q hq => h q (.tail _ hq)
    obtain ⟨c, hc, hc2⟩ := sign_S (h z (.head _))
    refine ⟨c :: l, by simp only [List.map_cons, ← h1, hc], by simp [h2], ?_⟩
    intro q hq
    rcases List.mem_cons.mp hq with rfl | hq
    · exact hc2
    · exact h3 q hq
theorem okText_join {zs : List Str} (h : ∀ z ∈ zs, okSign z = true) (hn : zs.length ≤ 50) : okText (Txt.join (Str.ofString "") zs) = true := by
  obtain ⟨l, h1, h2, h3⟩ := signs_S h
  show okText (Builtin.Str.glued _ _) = true
  rw [StrLaws.glued_eq_join, lit_e, h1, join_ones]
  unfold okText
  simp only [Bool.and_eq_true, decide_eq_true_eq, List.all_eq_true]
  exact ⟨by show l.length ≤ 50; omega, h3⟩
theorem hok_join {zs : List Str} (h : ∀ z ∈ zs, okSign z = true) (hn : zs.length ≤ 50) : (zs.map (·.length)).sum + zs.length * (Str.ofString "").length ≤ 16777216 := by
  obtain ⟨l, h1, h2, h3⟩ := signs_S h
  rw [h1, sum_ones, lit_e]
  simp [Str.length]; omega
theorem unrot3 {h₀ h : Heap} {L : Addr} {a b c p : Addr × Obj} {r : List (Addr × Obj)} (N : News h₀ L h (p :: a :: b :: c :: r)) : News h₀ L h (a :: b :: c :: p :: r) := fun z hz => N z (by
  rcases List.mem_cons.mp hz with rfl | hz
  · exact .tail _ (.head _)
  rcases List.mem_cons.mp hz with rfl | hz
  · exact .tail _ (.tail _ (.head _))
  rcases List.mem_cons.mp hz with rfl | hz
  · exact .tail _ (.tail _ (.tail _ (.head _)))
  rcases List.mem_cons.mp hz with rfl | hz
  · exact .head _
  · exact .tail _ (.tail _ (.tail _ (.tail _ hz))))
theorem len_end {y : Str} (hy : okEnd y = true) : y.length = 1 := by
  obtain ⟨⟨l⟩⟩ := y
  unfold okEnd at hy
  split at hy
  · rename_i e he; simp only at he; subst he; rfl
  · cases hy
theorem okText_ends {y : Str} (hy : okEnd y = true) : okText (Str.ofString "a" ++ y ++ Str.ofString "1\\" ++ y ++ Str.ofString "0fx7n" ++ y) = true := by
  obtain ⟨⟨l⟩⟩ := y
  unfold okEnd at hy
  split at hy
  · rename_i e he
    simp only at he
    subst he
    simp only [Bool.and_eq_true, decide_eq_true_eq] at hy
    rw [show Str.ofString "a" = S [97] from by decide +kernel, show Str.ofString "1\\" = S [49, 92] from by decide +kernel, show Str.ofString "0fx7n" = S [48, 102, 120, 55, 110] from by decide +kernel]
    show okText (S [97] ++ S [e] ++ S [49, 92] ++ S [e] ++ S [48, 102, 120, 55, 110] ++ S [e]) = true
    simp only [S_append]
    unfold okText
    simp
    omega
  · cases hy
end
section
open PySem PySem.W PySem.Spec PySem.Calls PyProof.Rows PyProof.Rows.LCg
theorem law_holds : PySem.Challenge.rw_qd0056_01.Holds := Mine.hd (by
  k_with_none
  k_with "mine.use" => first | ((
    (case k1 => k_asm); (case k2 => k_asm); (case k3 => k_asm); (case k4 => k_asm); (case k5 => k_asm); (case kK => first | exact rfl | assumption); (case kd => ktr_room); (case ku => ktr_units))) | fail
  k_with "mine.clean" => first | ((
    (repeat (rename Fr _ _ _ _ => hh; clear hh)); (repeat (rename News _ _ _ _ => hh; clear hh)); (repeat (rename Below _ _ _ _ => hh; clear hh)); (repeat (rename Top _ _ _ _ _ _ => hh; clear hh)); (repeat (rename Frag.In _ _ => hh; clear hh)))) | fail
  k_with "pyIter ref" => first | ((k_here; refine hold ?_)) | fail
  k_with "call ref" => first | ((k_here; (show wpAny _ _ (PySem.call (Value.ref 213) _ _) _ _ _); refine hold ?_)) | fail
  k_with "call ref" => first | ((k_here; k_dflt (refine' Ct.use (draw_spec _ _ _ _ _ _ _ _ _ ?q1 ?q2 ?q3 ?q4 ?q5 ?q6) ?k1 ?k2 ?k3 ?k4 ?k5 ?kK ?kd ?ku ?_; (case k4 => first | assumption | exact rot1 (by assumption) | exact rot2 (by assumption) | exact rot3 (by assumption)); (case q1 => k_all); (case q2 => assumption); (case q3 => assumption); (case q4 => omega); (case q5 => first | decide | omega); (case q6 => first | decide | omega); (case k1 => k_asm); (case k2 => k_asm); (case k3 => k_asm); (case k5 => k_asm); (case kK => first | exact rfl | assumption); (case kd => ktr_room); (case ku => ktr_units); (rintro r9 nw9 h9 tk9 ⟨d9, td9, n9, tn9, c9, tc9, nn9, e1, e2, e3, e4, e5, e6, e7⟩ F9 N9; subst e1; subst e7)))) | fail
  k_with "call ref" => first | ((k_here; k_dflt (refine' CtL.use (pen_spec _ _ _ _ ?q1 ?q2) ?k1 ?k2 ?k3 ?k4 ?k5 ?kK ?kd ?ku ?hl ?_; (case hl => assumption); (case q1 => assumption); (case q2 => omega); (case k4 => k_asm); (case k1 => k_asm); (case k2 => k_asm); (case k3 => k_asm); (case k5 => k_asm); (case kK => first | exact rfl | assumption); (case kd => ktr_room); (case ku => ktr_units); (rintro r9 nw9 h9 tk9 ⟨pa, n9, c9, tn9, tc9, e5, e6, e7, e8, ep, e9⟩ F9 N9; subst e5; subst e9; simp only [AllLt, and_true] at ep)))) | fail
  k_with "InvEndN" => first | ((refine hold ?_)) | fail
  k_with "CompSrc" => first | ((refine hold ?_)) | fail
  k_with "CompEnd" => first | ((refine hold ?_)) | fail
  k_with "eval ListComp" => first | ((k_here; k_dflt (refine ListComp_U (F₀ := by k_asm) (by with_unfolding_all rfl) (by decide) (by rfl) (by decide) (by rfl) ?_))) | fail
  k_with "mine.ends" => first | ((intro v hm; repeat (first | exact absurd hm List.not_mem_nil | (rcases List.mem_cons.mp hm with h | hm; (subst h; exact endV (by decide +kernel)))))) | fail
  k_with "mine.signs" => first | ((intro v hm; repeat (first | exact absurd hm List.not_mem_nil | (rcases List.mem_cons.mp hm with h | hm; (subst h; exact signV (by first | decide +kernel | exact sign_of_end (by assumption) | exact sign_of_chr (by assumption))))))) | fail
  k_with "subscriptTail" => first | ((k_here; (with_reducible show wpAny _ _ (subscriptTail _ _ (Value.ref _) (Value.int _ _)) _ _ _); k_dflt (refine item_R SignV ⟨_, News.get (by k_asm) (by k_mem), rfl, _, rfl⟩ (by walk_at "mine.signs") (by assumption) (by simp only [List.length_cons, List.length_nil]; omega) (by simp only [List.length_cons, List.length_nil]; omega) ?_; intro v hv))) | fail
  k_with "subscriptTail" => first | ((k_here; (show wpAny _ _ (subscriptTail _ _ (Value.ref 171) (Value.int _ _)) _ _ _); k_dflt (refine item_tupR EndV (tupK (by k_in) (by k_is)) (by walk_at "mine.ends") (by assumption) (by assumption) (by decide) ?_; rintro v ⟨y, t, e, hy⟩; subst e))) | fail
  k_with "call builtin:str.join" => first | ((k_here; k_dflt (refine join_list ⟨_, News.get (by k_asm) (by k_mem), rfl, _, rfl⟩ (by assumption) (by assumption) ?_; intro _ _))) | fail
  k_go0; (all_goals try k_fold)
  k_steps
  unfold Held
  refine iter_tup EndV ?hP rfl (tupK (by assumption) (by k_is)) (by assumption) (by assumption) ?turn ?done
  case hP =>
    intro i v hv
    have hm := List.mem_of_getElem? (by simpa using hv)
    clear hv
    revert v
    walk_at "mine.ends"
  case turn =>
    rintro v u h tk own ⟨y, t, rfl, hy⟩ hoff F2 N2
    have hyl := len_end hy.ok
    (try dsimp only)
    k_steps
    unfold Held
    refine' Ct.use (right_of _ _ _ _ _ _ _ (okText_ends hy.ok) hy.ok ?q3) ?k1 ?k2 ?k3 ?k4 ?k5 ?kK ?kd ?ku ?_
    (case q3 => decide +kernel)
    (case k4 => k_asm)
    (case k1 => k_asm)
    (case k2 => k_asm)
    (case k3 => k_asm)
    (case k5 => k_asm)
    (case kK => exact rfl)
    (case kd => ktr_room)
    (case ku => ktr_units)
    rintro r9 nw9 h9 tk9 ⟨e8, e9⟩ F9 N9
    subst e8; subst e9
    k_steps
    unfold Held
    exact InvEndN.intro (by assumption) (by assumption) ⟨rfl, fun z hz => by simp [hz]⟩ rfl (fun p hp => List.mem_append.mpr (.inl hp)) (fun p hp => List.mem_append.mpr (.inr hp))
  case done =>
    intro u h tk F3 N3
    (try dsimp only)
    k_steps
    unfold Held
    refine law_loop (sc := _) (pc := _) (oP := _) rfl (by assumption) (by assumption) (by assumption) (by assumption) (by assumption) (by assumption) (by assumption) ?turn ?done
    case turn =>
      intro n c tn tc nn oS v pre k t u h tk own hS hn hc hc2 hpre hoff F4 N4
      (try dsimp only)
      k_steps
      unfold Held
      refine CompSrc.range rfl (by k_asm) (by assumption) (by assumption) (small_one (by omega) (by omega) (by omega) (by omega)) (rangeSize_nat _ _) (by rw [sizeLine_eq]; omega) ?_
      intro g1
      refine comp_draws SignV _ _ _ ?ct1 _ _ _ _ _ (by assumption) (by assumption) (by omega) ?cf1
      case ct1 =>
        rintro v I oI C oC D m₂ ys h tk E' n c tn tc nn ⟨t, rfl⟩ hn hc hc9 hC hx F2 N2 off ne
        have ho3 := off.1
        (try dsimp only at ho3)
        k_steps
        unfold Held
        rename News _ _ _ _ => nE'
        exact CompEnd.intro (by assumption) (unrot3 nE') _ (fun p hp => hp) (by exact off) trivial ⟨by assumption, _, _, _, _, _, by assumption, by assumption, by assumption, rfl⟩
      case cf1 =>
      intro ys1 n1 c1 tn1 tc1 nn1 hR1 hlen1 hn1 hc1 hcc1
      obtain ⟨zs1, hzs1, hok1, hzl1⟩ := strs_of_R hR1
      have hj1 := hok_join hok1 (by omega)
      have ht1 := okText_join hok1 (by omega)
      k_steps
      unfold Held
      refine CompSrc.range rfl (by k_asm) (by assumption) (by assumption) (small_one (by omega) (by omega) (by omega) (by omega)) (rangeSize_nat _ _) (by rw [sizeLine_eq]; omega) ?_
      intro g2
      refine comp_draws SignV _ _ _ ?ct2 _ _ _ _ _ (by assumption) (by assumption) (by omega) ?cf2
      case ct2 =>
        rintro v I oI C oC D m₂ ys h tk E' n c tn tc nn ⟨t, rfl⟩ hn hc hc9 hC hx F2 N2 off ne
        have ho3 := off.1
        (try dsimp only at ho3)
        k_steps
        unfold Held
        rename News _ _ _ _ => nE'
        exact CompEnd.intro (by assumption) (unrot3 nE') _ (fun p hp => hp) (by exact off) trivial ⟨by assumption, _, _, _, _, _, by assumption, by assumption, by assumption, rfl⟩
      case cf2 =>
      intro ys2 n2 c2 tn2 tc2 nn2 hR2 hlen2 hn2 hc2 hcc2
      obtain ⟨zs2, hzs2, hok2, hzl2⟩ := strs_of_R hR2
      have hj2 := hok_join hok2 (by omega)
      have ht2 := okText_join hok2 (by omega)
      k_steps
      unfold Held
      refine' Ct.use (right_of _ _ _ _ _ _ _ ht1 (IsEnd.ok (by assumption)) ht2) ?k1 ?k2 ?k3 ?k4 ?k5 ?kK ?kd ?ku ?_
      (case k4 => k_asm)
      (case k1 => k_asm)
      (case k2 => k_asm)
      (case k3 => k_asm)
      (case k5 => k_asm)
      (case kK => exact rfl)
      (case kd => ktr_room)
      (case ku => ktr_units)
      rintro r9 nw9 h9 tk9 ⟨e8, e9⟩ F9 N9
      subst e8; subst e9
      k_steps
      unfold Held
      rename News _ _ _ _ => nE'
      refine kst_end (n2, c2, tn2, tc2, nn2, _) (by assumption) nE' (List.forall_mem_cons.mpr ⟨by k_mem, List.forall_mem_cons.mpr ⟨by k_mem, List.forall_mem_cons.mpr ⟨by k_mem, List.forall_mem_nil _⟩⟩⟩) (by intro p hp; repeat (first | exact hp | refine List.Mem.tail _ ?_)) (by rfl) ⟨_, by assumption⟩ (fun _ h => nomatch h) ?gs ⟨hn2, hc2, ?gp⟩
      case gs => kst_same
      case gp => simp only [List.length_append, List.length_cons, List.length_nil]; omega
    case done =>
      intro u h tk nw F5 N5
      (try dsimp only)
      k_steps)
end
end Mine
theorem PySem.Challenge.cw_qd0056_01_holds : PySem.Challenge.rw_qd0056_01.Holds := by
  exact Mine.law_holds
